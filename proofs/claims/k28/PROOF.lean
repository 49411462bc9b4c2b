import PyProof.Rows.All
import Wide.All
import OpenK.AllK
import Wide.FinOn
import HandS.ForMost
import KE.SortData
import KE.KDictKeyed
import HandS.WordsExc
import HandS.ExcOwn
import HandS.CallSlots
import KE.DataEq
import KE.DataFind
import KE.DataCmp
import KE.DataMinMax
import HandS.TupAny
import HandS.TupMul
import HandS.Wide
import HandS.IsInst
import PyProof.SeqIndex
import HandS.Records
import KE.KDictCopyH
import KE.KDictSum
import HandS.ExcValue
import HandS.Zip
import HandS.More
import HandS.Iter
import HandS.Comp
import HandS.DictComp
import HandS.Set
import HandS.SetFor
import HandS.TupSets
import HandS.Replace
import HandS.SortKw
import HandS.Gcd
import HandS.Flow
import KE.KEqDict
import HandS.SetKeys
import HandS.Defaults
import HandS.HeadHook2
import HandS.HeadEnd
import HandS.EndBits
import HandS.Head2
import KE.IntBitsLaws
import PySem.Challenge.RW_anyworth_k28_order_of_values
import HandS.WideBits
import PyProof.StrLawsIn
set_option Elab.async false
set_option linter.all false
set_option maxRecDepth 100000
namespace PF
open PySem PySem.Spec PyProof.Rows L2
/-- plain values -/
inductive D where
  | non | bl (b : Bool) | int (i : Int) | str (s : Str)
  | tup (ds : List D) | lst (ds : List D) | dct (ks vs : List D) | ins (c : Str) (ns : List Str) (vs : List D)
  deriving Inhabited
mutual
def D.py : D → PyData
  | .non => .none
  | .bl b => .bool b
  | .int i => .int i
  | .str s => .str s
  | .tup ds => .tuple (D.pys ds)
  | .lst ds => .list (D.pys ds)
  | .dct _ _ => .none
  | .ins _ _ _ => .none
def D.pys : List D → List PyData
  | [] => []
  | d :: ds => D.py d :: D.pys ds
end
mutual
/-- no dict, no instance within -/
def D.pl : D → Bool
  | .tup ds => D.pls ds
  | .lst ds => D.pls ds
  | .dct _ _ => false
  | .ins _ _ _ => false
  | .non => true
  | .bl _ => true
  | .int _ => true
  | .str _ => true
def D.pls : List D → Bool
  | [] => true
  | d :: ds => D.pl d && D.pls ds
end
mutual
def D.dep : D → Nat
  | .tup ds => D.deps ds + 1
  | .lst ds => D.deps ds + 1
  | .dct ks vs => max (D.deps ks) (D.deps vs) + 1
  | .ins _ _ vs => D.deps vs + 1
  | .non => 0
  | .bl _ => 0
  | .int _ => 0
  | .str _ => 0
def D.deps : List D → Nat
  | [] => 0
  | d :: ds => max (D.dep d) (D.deps ds)
end
mutual
def D.deq : D → D → Bool
  | .non, .non => true
  | .bl a, .bl b => a == b
  | .int a, .int b => a == b
  | .str a, .str b => decide (a = b)
  | .tup a, .tup b => D.deqs a b
  | .lst a, .lst b => D.deqs a b
  | .dct a b, .dct c d => D.deqs a c && D.deqs b d
  | .ins a b c, .ins d e f => decide (a = d) && (decide (b = e) && D.deqs c f)
  | _, _ => false
def D.deqs : List D → List D → Bool
  | [], [] => true
  | a :: as, b :: bs => D.deq a b && D.deqs as bs
  | _, _ => false
end
mutual
theorem D.deq_iff : ∀ a b : D, D.deq a b = true ↔ a = b
  | .non, b => by cases b <;> simp [D.deq]
  | .bl x, b => by cases b <;> simp [D.deq]
  | .int x, b => by cases b <;> simp [D.deq]
  | .str x, b => by cases b <;> simp [D.deq]
  | .tup xs, b => by
    cases b with
    | tup ys => simp only [D.deq, D.tup.injEq]; exact D.deqs_iff xs ys
    | _ => simp [D.deq]
  | .lst xs, b => by
    cases b with
    | lst ys => simp only [D.deq, D.lst.injEq]; exact D.deqs_iff xs ys
    | _ => simp [D.deq]
  | .dct xs ys, b => by
    cases b with
    | dct zs ws => simp only [D.deq, D.dct.injEq, Bool.and_eq_true, D.deqs_iff xs zs, D.deqs_iff ys ws]
    | _ => simp [D.deq]
  | .ins c ns xs, b => by
    cases b with
    | ins c' ns' ys => simp only [D.deq, D.ins.injEq, Bool.and_eq_true, decide_eq_true_eq, D.deqs_iff xs ys]
    | _ => simp [D.deq]
theorem D.deqs_iff : ∀ a b : List D, D.deqs a b = true ↔ a = b
  | [], b => by cases b <;> simp [D.deqs]
  | x :: xs, b => by
    cases b with
    | nil => simp [D.deqs]
    | cons y ys => simp only [D.deqs, Bool.and_eq_true, D.deq_iff x y, D.deqs_iff xs ys, List.cons.injEq]
end
instance : DecidableEq D := fun a b => if h : D.deq a b = true then isTrue ((D.deq_iff a b).mp h) else isFalse fun e => h ((D.deq_iff a b).mpr e)
/-- Python's == on plain values -/
def D.eq (a b : D) : Bool := PyData.eqv a.py b.py
/-- Python's < on values of one make -/
def D.lt (a b : D) : Bool := W.dataLt a.py b.py
def D.alk (a b : D) : Bool := W.alike a.py b.py
def D.le (a b : D) : Bool := !(D.lt b a)
/-- a slot: nothing, a shared value, an owned one, an owned one that a loop walks -/
inductive Sl where
  | non | fr (d : D) | ow (d : D) | lk (d : D)
  deriving Inhabited
abbrev Env := List Sl
def Sl.d? : Sl → Option D
  | .non => none
  | .fr d => some d
  | .ow d => some d
  | .lk d => some d
def getS : Env → Nat → Sl
  | [], _ => .non
  | s :: _, 0 => s
  | _ :: r, i + 1 => getS r i
def setS : Env → Nat → Sl → Env
  | [], _, _ => []
  | _ :: r, 0, x => x :: r
  | s :: r, i + 1, x => s :: setS r i x
/-- where a value stands: shared, a new object, the object of a slot -/
inductive Fl where
  | fr | ow | pl (i : Nat)
  deriving DecidableEq
/-- an exception: its class, its field -/
structure Exn where
  cls : Str
  arg : Option D
inductive RE where
  | ok (f : Fl) (d : D) (e : Env)
  | ex (x : Exn) (e : Env)
  | st
inductive REs where
  | ok (vs : List (Fl × D)) (e : Env)
  | ex (x : Exn) (e : Env)
  | st
/-- a call's end: the value (a new object or not), the parameters' slots -/
inductive FR where
  | ok (o : Bool) (d : D) (outs : List Sl)
  | ex (x : Exn) (outs : List Sl)
  | st
/-- a statement's end -/
inductive RS where
  | nx (e : Env)
  | rt (o : Bool) (d : D) (e : Env)
  | bk (e : Env)
  | ct (e : Env)
  | ex (x : Exn) (e : Env)
  | st
inductive Ty where
  | tInt | tStr | tBool | tTuple | tList
  deriving DecidableEq
inductive Op where
  | add | sub | mul | fdiv | mod | pow | bor | shl | neg
  | eq | ne | lt | le | gt | ge | isIn | notIn | isN | notN
  | idx | slLo | slHi | slLoHi
  | len | toInt | toStr | abs | min2 | max2 | gcd | lcm | min1 | max1 | min1n | sum | sorted | sortedSet | lenSet | tuple | list | all | any
  | isinst (ts : List Ty)
  | join | index | count | dict
  deriving DecidableEq
def bits (i : Int) : Nat := Builtin.Int.intBits i
def mulOk (a b : Int) : Bool := decide (bits a ≤ 64) || decide (bits b ≤ 64) || decide (bits a + bits b ≤ 2 ^ 26)
/-- == is served -/
def eqOk (a b : D) : Bool := a.pl && b.pl && decide (min a.dep b.dep ≤ 60)
def ltOk (a b : D) : Bool := a.alk b && decide (a ≠ .non) && a.pl && b.pl && decide (min a.dep b.dep ≤ 60)
def pyIn (x : D) (ds : List D) : Option Bool :=
  if x.pl && decide (x.dep ≤ 60) && ds.all (·.pl) then some (ds.any fun d => D.eq d x) else none
def strIn (x y : Str) : Bool := !(Builtin.Str.occurrences y x 0 y.length 1).isEmpty
def cutL (ds : List D) (lo hi : Option Int) : List D := (ds.drop (HT.sIx ds.length 0 lo)).take (HT.sIx ds.length ds.length hi - HT.sIx ds.length 0 lo)
def cutD (x : D) (lo hi : Option Int) : Option (Bool × D) := match x with
  | .tup ds => some (false, .tup (cutL ds lo hi))
  | .lst ds => some (true, .lst (cutL ds lo hi))
  | .str s => if s.length ≤ sizeLine then some (false, .str (cutS s lo hi)) else none
  | _ => none
/-- a[i] -/
def idxD : D → D → Option D
  | .tup ds, .int i => atI ds i
  | .lst ds, .int i => atI ds i
  | .str s, .int i => if s.length ≤ sizeLine then (atI s.cps.toList i).map fun c => .str ⟨#[c]⟩ else none
  | _, _ => none
def ints? : List D → Option (List Int)
  | [] => some []
  | .int i :: r => (ints? r).map (i :: ·)
  | _ :: _ => none
def bls? : List D → Option (List Bool)
  | [] => some []
  | .bl b :: r => (bls? r).map (b :: ·)
  | _ :: _ => none
def strs? : List D → Option (List Str)
  | [] => some []
  | .str s :: r => (strs? r).map (s :: ·)
  | _ :: _ => none
def seq? : D → Option (List D)
  | .tup ds => some ds
  | .lst ds => some ds
  | _ => none
def isTy : D → Ty → Bool
  | .int _, .tInt => true
  | .bl _, .tInt => true
  | .bl _, .tBool => true
  | .str _, .tStr => true
  | .tup _, .tTuple => true
  | .lst _, .tList => true
  | _, _ => false
def flatTy : D → Bool
  | .dct _ _ => false
  | .ins _ _ _ => false
  | _ => true
/-- a tuple with an item -/
def tupNE : D → Bool
  | .tup (_ :: _) => true
  | _ => false
/-- no None, no tuple -/
def notTN : D → Bool
  | .non => false
  | .tup _ => false
  | _ => true
/-- the items can be sorted: every two of one make, none None, no empty tuple -/
def sortable (ds : List D) : Bool := (ds.all fun a => a.pl && decide (a.dep ≤ 60) && ds.all fun b => a.alk b) && (ds.all tupNE || ds.all notTN)
def isTu : D → Bool
  | .tup _ => true
  | _ => false
/-- so can keys: the empty tuple may be among them -/
def sortableK (ds : List D) : Bool := (ds.all fun a => a.pl && decide (a.dep ≤ 60) && ds.all fun b => a.alk b) && (ds.all isTu || ds.all notTN)
def srt (ds : List D) : List D := ds.mergeSort D.le
/-- each item once, where it first stands -/
def firsts : List D → List D
  | [] => []
  | d :: ds => d :: (firsts ds).filter fun x => decide (x ≠ d)
def idxOf (x : D) : List D → Option Nat
  | [] => none
  | d :: ds => if D.eq d x then some 0 else (idxOf x ds).map (· + 1)
def dGet (k : D) : List D → List D → Option D
  | a :: ks, v :: vs => if a = k then some v else dGet k ks vs
  | _, _ => none
def dPutV (k v : D) : List D → List D → List D
  | a :: ks, w :: vs => (if a = k then v else w) :: dPutV k v ks vs
  | _, _ => []
def dHas (k : D) (ks : List D) : Bool := decide (k ∈ ks)
/-- d[k] = v -/
def dPut (k v : D) (ks vs : List D) : List D × List D := if k ∈ ks then (ks, dPutV k v ks vs) else (ks ++ [k], vs ++ [v])
def dDelV (k : D) : List D → List D → List D
  | a :: ks, v :: vs => if a = k then vs else v :: dDelV k ks vs
  | _, _ => []
/-- what may be a key: numbers, texts; tuples of such at any depth to 8 -/
def keyLeaf : D → Bool
  | .int _ => true
  | .str _ => true
  | _ => false
mutual
def keyIn : D → Bool
  | .int _ => true
  | .str _ => true
  | .non => true
  | .tup ds => keyIns ds
  | .bl _ => false
  | .lst _ => false
  | .dct _ _ => false
  | .ins _ _ _ => false
def keyIns : List D → Bool
  | [] => true
  | d :: ds => keyIn d && keyIns ds
end
def keyTup : D → Bool
  | .tup ds => keyIns ds && decide (D.deps ds ≤ 6)
  | _ => false
/-- nested keys are served -/
def dnOn : Bool := true
/-- the key goes with the keys that are there -/
def keyOk (k : D) (ks : List D) : Bool := (keyLeaf k && ks.all keyLeaf) || (dnOn && (keyTup k && ks.all keyTup))
/-- a plain key among plain keys -/
def leafOk (k : D) (ks : List D) : Bool := keyLeaf k && ks.all keyLeaf
def ob (b : Bool) : Option (Bool × D) := some (false, .bl b)
def pAdd : D → D → Option (Bool × D)
  | .int i, .int j => some (false, .int (i + j))
  | .str x, .str y => if x.length + y.length ≤ sizeLine then some (false, .str (x ++ y)) else none
  | .tup x, .tup y => if x.length + y.length ≤ sizeLine then some (false, .tup (x ++ y)) else none
  | .lst x, .lst y => if x.length + y.length ≤ sizeLine then some (true, .lst (x ++ y)) else none
  | _, _ => none
def pII (f : Int → Int → Option Int) : D → D → Option (Bool × D)
  | .int i, .int j => (f i j).map fun k => (false, .int k)
  | _, _ => none
def pMul : D → D → Option (Bool × D)
  | .int i, .int j => if mulOk i j then some (false, .int (i * j)) else none
  | .tup x, .int j => if j = 1 ∧ x ≠ [] then some (false, .tup x) else if decide (2 ≤ j) && decide (j ≤ 1000) && decide (x ≠ []) && decide (x.length ≤ 1000) then some (false, .tup (List.replicate j.toNat x).flatten) else none
  | .str x, .int j => if decide (-(2 ^ 62) ≤ j) && decide (j < 2 ^ 62) && decide (x.length * j.toNat ≤ sizeLine) then some (false, .str ⟨(List.replicate j.toNat x.cps.toList).flatten.toArray⟩) else none
  | _, _ => none
def pFdiv (i j : Int) : Option Int := if decide (0 < j) && decide (j.natAbs.log2 < 9000) then some (i / j) else none
def pMod (i j : Int) : Option Int := if 0 < j then some (i % j) else none
def pPow (i j : Int) : Option Int := if decide (0 ≤ j) && decide (j ≤ 1000000) && decide (i.natAbs < 2 ^ 64) then some (i ^ j.toNat) else none
def pLcm (i j : Int) : Option Int := if decide (i.natAbs < 2 ^ 64) && decide (j.natAbs < 2 ^ 64) then some ((i.natAbs.lcm j.natAbs : Nat) : Int) else none
def pShl (i j : Int) : Option Int := if decide (0 ≤ j) && decide (j ≤ 1000000) && decide (i.natAbs < 2 ^ 64) then some (i * 2 ^ j.toNat) else none
def pNeg : D → Option (Bool × D)
  | .int i => some (false, .int (-i))
  | _ => none
/-- dicts with plain keys and plain values -/
def dEqOk : D → D → Bool
  | .dct ks vs, .dct ks2 vs2 => ks.all keyLeaf && ks2.all keyLeaf && D.pls vs && D.pls vs2 && decide (D.deps vs ≤ 60)
  | _, _ => false
def dEqV (ks2 vs2 : List D) : List D → List D → Bool
  | k :: ks, v :: vs => (match dGet k ks2 vs2 with
    | some w => D.eq v w
    | none => false) && dEqV ks2 vs2 ks vs
  | _, _ => true
def dEqB : D → D → Bool
  | .dct ks vs, .dct ks2 vs2 => (ks.length == ks2.length) && dEqV ks2 vs2 ks vs
  | _, _ => false
def pEq (neg : Bool) (a b : D) : Option (Bool × D) := if eqOk a b then ob (if neg then !D.eq a b else D.eq a b) else if dEqOk a b then ob (if neg then !dEqB a b else dEqB a b) else none
def pLt (neg : Bool) (a b : D) : Option (Bool × D) := if ltOk a b then ob (if neg then !D.lt a b else D.lt a b) else none
def pIn (neg : Bool) : D → D → Option (Bool × D)
  | x, .tup ds => (pyIn x ds).bind fun b => ob (if neg then !b else b)
  | x, .lst ds => (pyIn x ds).bind fun b => ob (if neg then !b else b)
  | x, .dct ks _ => if keyOk x ks then ob (if neg then !dHas x ks else dHas x ks) else none
  | .str x, .str y => ob (if neg then !strIn x y else strIn x y)
  | _, _ => none
def pIdx : D → D → Option (Bool × D)
  | .dct ks vs, k => if keyOk k ks then (dGet k ks vs).map fun v => (false, v) else none
  | a, i => (idxD a i).map fun v => (false, v)
def int? : D → Option Int
  | .int i => some i
  | _ => none
def pLen : D → Option (Bool × D)
  | .str s => if s.length ≤ sizeLine then some (false, .int s.length) else none
  | .tup ds => some (false, .int ds.length)
  | .lst ds => some (false, .int ds.length)
  | .dct ks _ => some (false, .int ks.length)
  | _ => none
def pInt : D → Option (Bool × D)
  | .int i => some (false, .int i)
  | .bl b => some (false, .int (if b then 1 else 0))
  | .str s => if s.length ≤ 640 then (PySem.intText? s).map fun n => (false, .int n) else none
  | _ => none
def pStr : D → Option (Bool × D)
  | .int i => if i.natAbs.log2 < 1920 then some (false, .str (toString i)) else none
  | _ => none
def pAbs : D → Option (Bool × D)
  | .int i => some (false, .int (if i < 0 then -i else i))
  | _ => none
def lst? : D → Option (List D)
  | .lst ds => some ds
  | _ => none
def pBest (f : Int → Int → Int) (dflt : Option D) (a : D) : Option (Bool × D) := ((lst? a).bind ints?).bind fun ns => match ns with
  | [] => dflt.map fun d => (false, d)
  | n :: r => some (false, .int (r.foldl f n))
def pSum (a : D) : Option (Bool × D) := ((lst? a).bind ints?).map fun ns => (false, .int ns.sum)
/-- what set, list walk: items of a list, a tuple, a dict -/
def its? : D → Option (List D)
  | .lst ds => some ds
  | .tup ds => some ds
  | _ => none
def pSorted : D → Option (Bool × D)
  | .dct ks _ => if sortableK ks && decide (ks.length ≤ sizeLine) then some (true, .lst (srt ks)) else none
  | a => (lst? a).bind fun ds => if sortable ds && decide (ds.length ≤ sizeLine) then some (true, .lst (srt ds)) else none
def isI : D → Bool
  | .int _ => true
  | _ => false
def isS : D → Bool
  | .str _ => true
  | _ => false
def pSortedSet (a : D) : Option (Bool × D) := (seq? a).bind fun ds => if (ds.all isI || ds.all isS) && decide (ds.length ≤ 4000) then some (true, .lst (srt (firsts ds))) else if ds.all keyTup && sortableK ds && decide ((firsts ds).length ≤ 62) then some (true, .lst (srt (firsts ds))) else none
def pLenSet (a : D) : Option (Bool × D) := (seq? a).bind fun ds => if ds.all keyLeaf && decide (ds.length ≤ 4000) then some (false, .int (firsts ds).length) else if ds.all keyTup && decide ((firsts ds).length ≤ 62) then some (false, .int (firsts ds).length) else none
def pTuple (a : D) : Option (Bool × D) := (seq? a).map fun ds => (false, .tup ds)
def pList (a : D) : Option (Bool × D) := (its? a).bind fun ds => if ds.length ≤ sizeLine then some (true, .lst ds) else none
def pAll (f : List Bool → Bool) (a : D) : Option (Bool × D) := ((lst? a).bind bls?).bind fun bs => ob (f bs)
def pIsi (ts : List Ty) (d : D) : Option (Bool × D) := if flatTy d then ob (ts.any (isTy d)) else none
def pJoin : D → D → Option (Bool × D)
  | .str s, .lst ds => (strs? ds).bind fun xs => if (xs.map (·.length)).sum + xs.length * s.length ≤ 16777216 then some (false, .str (Txt.join s xs)) else none
  | _, _ => none
def pIndex (a x : D) : Option (Bool × D) := (seq? a).bind fun ds => if x.pl && decide (x.dep ≤ 60) && ds.all (·.pl) then (idxOf x ds).map fun (n : Nat) => (false, D.int (n : Int)) else none
def pCount (a x : D) : Option (Bool × D) := (seq? a).bind fun ds => if x.pl && decide (x.dep ≤ 60) && ds.all (·.pl) then some (false, .int (ds.countP fun d => D.eq d x)) else none
def strIndex (x y : Str) : Option Nat := (Builtin.Str.occurrences x y 0 x.length 1).head?
def pIndexS : D → D → Option (Bool × D)
  | .str x, .str y => (strIndex x y).map fun (n : Nat) => (false, D.int (n : Int))
  | a, b => pIndex a b
/-- dict(d) -/
def pDict : D → Option (Bool × D)
  | .dct ks vs => if ks.all keyLeaf then some (true, .dct ks vs) else none
  | _ => none
def pCut (lo hi : Option (Option Int)) (a : D) : Option (Bool × D) := lo.bind fun l => hi.bind fun h => cutD a l h
def oI (d : D) : Option (Option Int) := (int? d).map some
def prim : Op → List D → Option (Bool × D)
  | .add, [a, b] => pAdd a b
  | .sub, [a, b] => pII (fun i j => some (i - j)) a b
  | .mul, [a, b] => pMul a b
  | .fdiv, [a, b] => pII pFdiv a b
  | .mod, [a, b] => pII pMod a b
  | .pow, [a, b] => pII pPow a b
  | .bor, [a, b] => pII (fun i j => some (Builtin.bitOr i j)) a b
  | .shl, [a, b] => pII pShl a b
  | .neg, [a] => pNeg a
  | .eq, [a, b] => pEq false a b
  | .ne, [a, b] => pEq true a b
  | .lt, [a, b] => pLt false a b
  | .ge, [a, b] => pLt true a b
  | .gt, [a, b] => pLt false b a
  | .le, [a, b] => pLt true b a
  | .isIn, [a, b] => pIn false a b
  | .notIn, [a, b] => pIn true a b
  | .isN, [a] => ob (decide (a = .non))
  | .notN, [a] => ob (!decide (a = .non))
  | .idx, [a, i] => pIdx a i
  | .slLo, [a, i] => pCut (oI i) (some none) a
  | .slHi, [a, i] => pCut (some none) (oI i) a
  | .slLoHi, [a, i, j] => pCut (oI i) (oI j) a
  | .len, [a] => pLen a
  | .toInt, [a] => pInt a
  | .toStr, [a] => pStr a
  | .abs, [a] => pAbs a
  | .min2, [a, b] => pII (fun i j => some (if j < i then j else i)) a b
  | .max2, [a, b] => pII (fun i j => some (if j > i then j else i)) a b
  | .gcd, [a, b] => pII (fun i j => some ((i.natAbs.gcd j.natAbs : Nat) : Int)) a b
  | .lcm, [a, b] => pII pLcm a b
  | .min1, [a] => pBest min none a
  | .max1, [a] => pBest max none a
  | .min1n, [a] => pBest min (some .non) a
  | .sum, [a] => pSum a
  | .sorted, [a] => pSorted a
  | .sortedSet, [a] => pSortedSet a
  | .lenSet, [a] => pLenSet a
  | .tuple, [a] => pTuple a
  | .list, [a] => pList a
  | .all, [a] => pAll (·.all id) a
  | .any, [a] => pAll (·.any id) a
  | .isinst ts, [a] => pIsi ts a
  | .join, [a, b] => pJoin a b
  | .index, [a, b] => pIndexS a b
  | .count, [a, b] => pCount a b
  | .dict, [a] => pDict a
  | _, _ => none
/-- truth -/
def truthy : D → Option Bool
  | .non => some false
  | .bl b => some b
  | .int i => some (i != 0)
  | .str s => if s.length ≤ sizeLine then some (s.length != 0) else none
  | .tup ds => some (!ds.isEmpty)
  | .lst ds => some (!ds.isEmpty)
  | .dct ks _ => if ks.all keyLeaf then some (!ks.isEmpty) else none
  | .ins _ _ _ => none
inductive T where
  | nm (i : Nat) | tup (ts : List T)
/-- methods that change the object of a slot -/
inductive Mu where
  | append | extend | pop | popAt | insert | reverse | remove | setdefault
  deriving DecidableEq
mutual
inductive E where
  | var (i : Nat) | pk (i : Nat) | lit (d : D) | gl (x : Str)
  | tup (es : List E) | lst (es : List E) | dnew
  | op (p : Op) (es : List E)
  | sl (a b c : E)
  | boo (conj : Bool) (es : List E) | not_ (a : E) | ife (c a b : E)
  | get (a b c : E)
  | met (p : Op) (a b : E)
  | call (f : Str) (es : List E)
  | mu (m : Mu) (i : Nat) (es : List E)
  | lc (vs : List Nat) (t : T) (it : It) (ifs : List E) (elt : E)
  | lc2 (vs : List Nat) (t : T) (it : It) (ifs : List E) (t2 : T) (it2 : It) (ifs2 : List E) (elt : E)
  | dc (vs : List Nat) (t : T) (it : It) (ifs : List E) (k v : E)
inductive It where
  | seq (e : E) | rng1 (a : E) | rng2 (es : List E) | zip (es : List E) | enum (a : E) | items (a : E)
end
inductive S where
  | asg (i : Nat) (e : E)
  | asgT (t : T) (e : E)
  | setI (i : Nat) (k e : E)
  | delI (i : Nat) (k : E)
  | aug (i : Nat) (p : Op) (e : E)
  | ex (e : E)
  | ret (e : E) | retV (i : Nat) | retN
  | iff (c : E) (a b : List S)
  | for_ (t : T) (it : It) (b : List S)
  | whl (c : E) (b : List S)
  | brk | cnt | pas | bad
  | frz (i : Nat)
def late (f : Fl) (d : D) (e : Env) : Option D := match f with
  | .pl i => (getS e i).d?
  | _ => some d
def lates : List (Fl × D) → Env → Option (List D)
  | [], _ => some []
  | (f, d) :: r, e => match late f d e, lates r e with
    | some x, some xs => some (x :: xs)
    | _, _ => none
/-- values to be stored: no places -/
def stored : List (Fl × D) → Option (List D)
  | [] => some []
  | (.pl _, _) :: _ => none
  | (_, d) :: r => (stored r).map (d :: ·)
/-- what a call is handed -/
def lend : List (Fl × D) → Env → List Sl
  | [], _ => []
  | (.pl i, _) :: r, e => getS e i :: lend r e
  | (_, d) :: r, e => .fr d :: lend r e
def places : List (Fl × D) → List Nat
  | [] => []
  | (.pl i, _) :: r => i :: places r
  | (_, _) :: r => places r
def isOwn : Sl → Bool
  | .ow _ => true
  | .lk _ => true
  | _ => false
def isNon : Sl → Bool
  | .non => true
  | _ => false
/-- the lent slots come back -/
def back : List (Fl × D) → List Sl → Env → Option Env
  | [], _, e => some e
  | (.pl i, _) :: r, o :: outs, e => if isNon o then none else back r outs (setS e i o)
  | (.pl _, _) :: _, [], _ => none
  | (_, _) :: r, _ :: outs, e => back r outs e
  | (_, _) :: r, [], e => back r [] e
def nodupN : List Nat → Bool
  | [] => true
  | a :: r => !(r.contains a) && nodupN r
def flOf (o : Bool) : Fl := if o then .ow else .fr
mutual
def tvars : T → List Nat
  | .nm i => [i]
  | .tup ts => tvarss ts
def tvarss : List T → List Nat
  | [] => []
  | t :: ts => tvars t ++ tvarss ts
end
mutual
def asgT : T → D → Env → Option Env
  | .nm i, d, e => some (setS e i (.fr d))
  | .tup ts, .tup ds, e => asgTs ts ds e
  | .tup _, _, _ => none
def asgTs : List T → List D → Env → Option Env
  | [], [], e => some e
  | t :: ts, d :: ds, e => match asgT t d e with
    | some e' => asgTs ts ds e'
    | none => none
  | _, _, _ => none
end
def wipeS (e : Env) : List Nat → Env
  | [] => e
  | v :: vs => setS (wipeS e vs) v .non
/-- a block's target, its names anew -/
def asgW (vs : List Nat) (t : T) (d : D) (e : Env) : Option Env := asgT t d (wipeS e vs)
/-- locks: an owned list that is walked -/
def lockS (e : Env) (i : Nat) : Env := match getS e i with
  | .ow d => setS e i (.lk d)
  | _ => e
def unlockS (e : Env) (i : Nat) : Env := match getS e i with
  | .lk d => setS e i (.ow d)
  | _ => e
def isOw : Sl → Bool
  | .ow _ => true
  | _ => false
/-- the slots at vs as they were -/
def restS (e e0 : Env) : List Nat → Env
  | [] => e
  | v :: vs => setS (restS e e0 vs) v (getS e0 v)
inductive RT where
  | ok (b : Bool) (e : Env)
  | ex (x : Exn) (e : Env)
  | st
/-- what is walked: the items, the slots to be locked -/
inductive RI where
  | ok (ds : List D) (ls : List Nat) (e : Env)
  | ex (x : Exn) (e : Env)
  | st
/-- the items made so far -/
inductive RL where
  | ok (acc : List D) (e : Env)
  | st
inductive RD where
  | ok (ks vs : List D) (e : Env)
  | st
def RE.bd : RE → (Fl → D → Env → RE) → RE
  | .ok f d e, k => k f d e
  | .ex x e, _ => .ex x e
  | .st, _ => .st
def RE.bds : RE → (Fl → D → Env → REs) → REs
  | .ok f d e, k => k f d e
  | .ex x e, _ => .ex x e
  | .st, _ => .st
def REs.bds : REs → (List (Fl × D) → Env → REs) → REs
  | .ok vs e, k => k vs e
  | .ex x e, _ => .ex x e
  | .st, _ => .st
def REs.bd : REs → (List (Fl × D) → Env → RE) → RE
  | .ok vs e, k => k vs e
  | .ex x e, _ => .ex x e
  | .st, _ => .st
def REs.bdI : REs → (List (Fl × D) → Env → RI) → RI
  | .ok vs e, k => k vs e
  | .ex x e, _ => .ex x e
  | .st, _ => .st
def RE.bdI : RE → (Fl → D → Env → RI) → RI
  | .ok f d e, k => k f d e
  | .ex x e, _ => .ex x e
  | .st, _ => .st
def RI.bd : RI → (List D → List Nat → Env → RE) → RE
  | .ok ds ls e, k => k ds ls e
  | .ex x e, _ => .ex x e
  | .st, _ => .st
def RT.bd : RT → (Bool → Env → RE) → RE
  | .ok b e, k => k b e
  | .ex x e, _ => .ex x e
  | .st, _ => .st
def RE.bdT : RE → (Fl → D → Env → RT) → RT
  | .ok f d e, k => k f d e
  | .ex x e, _ => .ex x e
  | .st, _ => .st
def RE.bdS : RE → (Fl → D → Env → RS) → RS
  | .ok f d e, k => k f d e
  | .ex x e, _ => .ex x e
  | .st, _ => .st
def RT.bdS : RT → (Bool → Env → RS) → RS
  | .ok b e, k => k b e
  | .ex x e, _ => .ex x e
  | .st, _ => .st
def RI.bdS : RI → (List D → List Nat → Env → RS) → RS
  | .ok ds ls e, k => k ds ls e
  | .ex x e, _ => .ex x e
  | .st, _ => .st
def RL.bd : RL → (List D → Env → RE) → RE
  | .ok a e, k => k a e
  | .st, _ => .st
def RL.bdL : RL → (List D → Env → RL) → RL
  | .ok a e, k => k a e
  | .st, _ => .st
def RD.bd : RD → (List D → List D → Env → RE) → RE
  | .ok a b e, k => k a b e
  | .st, _ => .st
/-- raising is not served within -/
def RT.bdL : RT → (Bool → Env → RL) → RL
  | .ok b e, k => k b e
  | _, _ => .st
def RE.bdL : RE → (Fl → D → Env → RL) → RL
  | .ok f d e, k => k f d e
  | _, _ => .st
def RI.bdL : RI → (List D → List Nat → Env → RL) → RL
  | .ok a b e, k => k a b e
  | _, _ => .st
def RT.bdD : RT → (Bool → Env → RD) → RD
  | .ok b e, k => k b e
  | _, _ => .st
def RE.bdD : RE → (Fl → D → Env → RD) → RD
  | .ok f d e, k => k f d e
  | _, _ => .st
/-- a statement, then the rest -/
def RS.bd : RS → (Env → RS) → RS
  | .nx e, k => k e
  | r, _ => r
/-- a loop's turn, then the loop -/
def RS.lp : RS → (Env → RS) → RS
  | .nx e, k => k e
  | .ct e, k => k e
  | .bk e, _ => .nx e
  | r, _ => r
def RS.env (f : Env → Env) : RS → RS
  | .nx e => .nx (f e)
  | .rt o d e => .rt o d (f e)
  | .bk e => .bk (f e)
  | .ct e => .ct (f e)
  | .ex x e => .ex x (f e)
  | .st => .st
def onE {α : Type} : Option α → (α → RE) → RE
  | some a, k => k a
  | none, _ => .st
def onT {α : Type} : Option α → (α → RT) → RT
  | some a, k => k a
  | none, _ => .st
def onS {α : Type} : Option α → (α → RS) → RS
  | some a, k => k a
  | none, _ => .st
def onL {α : Type} : Option α → (α → RL) → RL
  | some a, k => k a
  | none, _ => .st
def onD {α : Type} : Option α → (α → RD) → RD
  | some a, k => k a
  | none, _ => .st
/-- a value to be stored -/
def keepE : Fl → (Bool → RE) → RE
  | .fr, k => k false
  | .ow, k => k true
  | .pl _, _ => .st
def keepS : Fl → (Bool → RS) → RS
  | .fr, k => k false
  | .ow, k => k true
  | .pl _, _ => .st
def keepL : Fl → RL → RL
  | .pl _, _ => .st
  | _, r => r
def keepD : Fl → RD → RD
  | .pl _, _ => .st
  | _, r => r
def RE.truth (r : RE) : RT := r.bdT fun f d e => onT ((late f d e).bind truthy) fun b => .ok b e
def lcGo (tgt : D → Env → Option Env) (tst : Env → RT) (elt : Env → RE) : List D → Env → List D → RL
  | [], e, acc => .ok acc e
  | d :: ds, e, acc => onL (tgt d e) fun e1 => (tst e1).bdL fun b e2 =>
      if b then (elt e2).bdL fun f x e3 => keepL f (if acc.length < sizeLine then lcGo tgt tst elt ds e3 (acc ++ [x]) else .st)
      else lcGo tgt tst elt ds e2 acc
/-- the outer clause: the inner walk -/
def lc2Go (tgt : D → Env → Option Env) (tst : Env → RT) (inner : Env → List D → RL) : List D → Env → List D → RL
  | [], e, acc => .ok acc e
  | d :: ds, e, acc => onL (tgt d e) fun e1 => (tst e1).bdL fun b e2 =>
      if b then (inner e2 acc).bdL fun acc' e3 => lc2Go tgt tst inner ds e3 acc' else lc2Go tgt tst inner ds e2 acc
def dcGo (tgt : D → Env → Option Env) (tst : Env → RT) (key val : Env → RE) : List D → Env → List D → List D → RD
  | [], e, ks, vs => .ok ks vs e
  | d :: ds, e, ks, vs => onD (tgt d e) fun e1 => (tst e1).bdD fun b e2 =>
      if b then (key e2).bdD fun fk k e3 => keepD fk ((val e3).bdD fun fv v e4 => keepD fv
        (if leafOk k ks && decide (ks.length < sizeLine) then dcGo tgt tst key val ds e4 (dPut k v ks vs).1 (dPut k v ks vs).2 else .st))
      else dcGo tgt tst key val ds e2 ks vs
/-- a changing method: the new object, the value -/
def muD : Mu → D → List D → Option (D × D)
  | .append, .lst ds, [x] => if ds.length < sizeLine then some (.lst (ds ++ [x]), .non) else none
  | .extend, .lst ds, [.lst xs] => if ds.length + xs.length ≤ sizeLine then some (.lst (ds ++ xs), .non) else none
  | .pop, .lst ds, [] => (ds[ds.length - 1]?).map fun y => (.lst ds.dropLast, y)
  | .popAt, .lst ds, [.int i] => if decide (0 ≤ i) && decide (i < 2 ^ 62) then (ds[i.toNat]?).map fun y => (.lst (ds.eraseIdx i.toNat), y) else none
  | .insert, .lst ds, [.int i, x] => if decide (0 ≤ i) && decide (i.toNat ≤ ds.length) && decide (ds.length < sizeLine) then some (.lst (ds.take i.toNat ++ x :: ds.drop i.toNat), .non) else none
  | .reverse, .lst ds, [] => some (.lst ds.reverse, .non)
  | .remove, .lst ds, [x] => if x.pl && decide (x.dep ≤ 60) && ds.all (·.pl) then (idxOf x ds).map fun n => (.lst (ds.eraseIdx n), .non) else none
  | .setdefault, .dct ks vs, [k, v] => if leafOk k ks && decide (ks.length < sizeLine) then (match dGet k ks vs with
    | some w => some (.dct ks vs, w)
    | none => some (.dct (ks ++ [k]) (vs ++ [v]), v)) else none
  | _, _, _ => none
/-- x[k] = v -/
def setD : D → D → D → Option D
  | .lst ds, .int i, v => (ixN ds.length i).map fun j => .lst (ds.set j v)
  | .dct ks vs, k, v => if keyOk k ks && decide (ks.length < sizeLine) then some (.dct (dPut k v ks vs).1 (dPut k v ks vs).2) else none
  | _, _, _ => none
def delD : D → D → Option D
  | .dct ks vs, k => if keyOk k ks && dHas k ks then some (.dct (ks.erase k) (dDelV k ks vs)) else none
  | _, _ => none
def getD3 : D → D → D → Option D
  | .dct ks vs, b, c => if keyOk b ks then some ((dGet b ks vs).getD c) else none
  | _, _, _ => none
def muIsDict : Mu → Bool
  | .setdefault => true
  | _ => false
def slotFits (m : Mu) : Sl → Bool
  | .ow (.lst _) => !muIsDict m
  | .ow (.dct ks _) => muIsDict m && ks.all keyLeaf
  | _ => false
def owOf : Sl → Option D
  | .ow d => some d
  | _ => none
def frOf : Sl → Option D
  | .fr d => some d
  | _ => none
def lockOf : Fl → List Nat
  | .pl i => [i]
  | _ => []
def varE (i : Nat) (e : Env) : Sl → RE
  | .fr d => .ok .fr d e
  | .ow d => .ok .fr d (setS e i (.fr d))
  | _ => .st
def lockAll (ls : List Nat) (e : Env) : Env := ls.foldl lockS e
/-- the locks that e's own slots asked for are taken off -/
def unlockAll (ls : List Nat) (e0 e : Env) : Env := (ls.filter fun i => isOw (getS e0 i)).foldl unlockS e
def primE (e : Env) (r : Option (Bool × D)) : RE := onE r fun q => .ok (flOf q.1) q.2 e
def storedE (vs : List (Fl × D)) (k : List D → RE) : RE := onE (PF.stored vs) k
def callE (vs : List (Fl × D)) (e : Env) (r : FR) : RE := match r with
  | .ok o d outs => onE (back vs outs e) fun e2 => .ok (flOf o) d e2
  | .ex x outs => onE (back vs outs e) fun e2 => .ex x e2
  | .st => .st
def muE (m : Mu) (i : Nat) (e : Env) (ds : List D) : RE := onE (owOf (getS e i)) fun d => onE (muD m d ds) fun q => .ok .fr q.2 (setS e i (.ow q.1))
def boolE (r : Option D) (k : Bool → RE) : RE := match r with
  | some (.bl b) => k b
  | _ => .st
def intE (r : Option D) (k : Int → RE) : RE := match r with
  | some (.int i) => k i
  | _ => .st
def seqI (f : Fl) (e : Env) : Option D → RI
  | some (.lst ds) => .ok ds (lockOf f) e
  | some (.tup ds) => .ok ds [] e
  | some (.str s) => .ok (s.cps.toList.map fun c => .str ⟨#[c]⟩) [] e
  | _ => .st
def rng1I (e : Env) : Option D → RI
  | some (.int j) => if decide (-(2 ^ 62) ≤ j) && decide (j < 2 ^ 62) then .ok ((List.range j.toNat).map fun (k : Nat) => D.int (k : Int)) [] e else .st
  | _ => .st
def rng2I (e : Env) : Option (List D) → RI
  | some [.int i, .int j] => if decide (-(2 ^ 62) ≤ i) && decide (i < 2 ^ 62) && decide (-(2 ^ 62) ≤ j) && decide (j < 2 ^ 62) then .ok ((List.range (j - i).toNat).map fun (k : Nat) => D.int (i + (k : Int))) [] e else .st
  | _ => .st
def zipD (xs ys : List D) : List D := List.zipWith (fun u v => .tup [u, v]) xs ys
def zipI (ls : List Nat) (e : Env) : Option (List D) → RI
  | some [.lst xs, .lst ys] => .ok (zipD xs ys) ls e
  | some [.tup xs, .tup ys] => .ok (zipD xs ys) [] e
  | _ => .st
def enumD (xs : List D) : List D := List.zipWith (fun (k : Nat) v => .tup [.int (k : Int), v]) (List.range xs.length) xs
def enumI (f : Fl) (e : Env) : Option D → RI
  | some (.lst xs) => .ok (enumD xs) (lockOf f) e
  | _ => .st
def itemsI (f : Fl) (e : Env) : Option D → RI
  | some (.dct ks vs) => .ok (List.zipWith (fun k v => .tup [k, v]) ks vs) (lockOf f) e
  | _ => .st
def isDct : Option D → Bool
  | some (.dct _ _) => true
  | _ => false
def isMet : Op → Bool
  | .index => true
  | .count => true
  | _ => false
/-- whose method: a list's, a tuple's, a text's -/
def recvK (p : Op) : Option D → Nat
  | some (.lst _) => 1
  | some (.str _) => if p = .index then 2 else 0
  | _ => 0
/-- xs.index(x), xs.count(x), all at hand -/
def metE (p : Op) (r : Nat) (f1 : Fl) (d1 : D) (f2 : Fl) (d2 : D) (e : Env) : RE := if recvK p (late f1 d1 e) == r then onE (late f1 d1 e) fun a => onE (late f2 d2 e) fun b => primE e (prim p [a, b]) else .st
/-- d.get(k, x), all at hand -/
def getE : Fl → D → Fl → D → Fl → D → Env → RE
  | f1, d1, f2, d2, .fr, d3, e => onE (late f1 d1 e) fun a => onE (late f2 d2 e) fun b => onE (getD3 a b d3) fun r => .ok .fr r e
  | _, _, _, _, _, _, _ => .st
def glE (e : Env) (r : Option D) : RE := onE r fun d => .ok .fr d e
section
variable (Φ : Str → List Sl → FR) (γ : Str → Option D)
mutual
def ev : E → Env → RE
  | .var i, e => varE i e (getS e i)
  | .pk i, e => onE (getS e i).d? fun d => .ok (.pl i) d e
  | .lit d, e => .ok .fr d e
  | .gl x, e => glE e (γ x)
  | .tup es, e => (evs es e).bd fun vs e1 => storedE vs fun ds => if ds.length ≤ sizeLine then .ok .fr (.tup ds) e1 else .st
  | .lst es, e => (evs es e).bd fun vs e1 => storedE vs fun ds => if ds.length ≤ sizeLine then .ok .ow (.lst ds) e1 else .st
  | .dnew, e => .ok .ow (.dct [] []) e
  | .op p es, e => (evs es e).bd fun vs e1 => onE (lates vs e1) fun ds => primE e1 (prim p ds)
  | .sl a b c, e => (ev a e).bd fun fa da e1 => (ev b e1).bd fun fb db e2 => intE (late fb db e2) fun i => (ev c e2).bd fun fc dc e3 => intE (late fc dc e3) fun j => onE (late fa da e3) fun x => primE e3 (cutD x (some i) (some j))
  | .boo c es, e => evB c es e
  | .not_ a, e => (ev a e).bd fun f d e1 => boolE (late f d e1) fun b => .ok .fr (.bl (!b)) e1
  | .ife c a b, e => (ev c e).truth.bd fun t e1 => if t then ev a e1 else ev b e1
  | .get a b c, e => (ev a e).bd fun f1 d1 e1 => if isDct (late f1 d1 e1) then (ev b e1).bd fun f2 d2 e2 => (ev c e2).bd fun f3 d3 e3 => getE f1 d1 f2 d2 f3 d3 e3 else .st
  | .met p a b, e => (ev a e).bd fun f1 d1 e1 => if isMet p && recvK p (late f1 d1 e1) != 0 then (ev b e1).bd fun f2 d2 e2 => metE p (recvK p (late f1 d1 e1)) f1 d1 f2 d2 e2 else .st
  | .call f es, e => (evs es e).bd fun vs e1 => if nodupN (places vs) then callE vs e1 (Φ f (lend vs e1)) else .st
  | .mu m i es, e => if slotFits m (getS e i) then (evs es e).bd fun vs e1 => storedE vs fun ds => muE m i e1 ds else .st
  | .lc vs t it ifs elt, e => (evI it e).bd fun ds ls e1 =>
      (lcGo (asgW vs t) (evTs ifs) (ev elt) ds (lockAll ls e1) []).bd fun acc e2 => .ok .ow (.lst acc) (unlockAll ls e1 (restS e2 (lockAll ls e1) vs))
  | .lc2 vs t it ifs t2 it2 ifs2 elt, e => (evI it e).bd fun ds ls e1 =>
      (lc2Go (asgW vs t) (evTs ifs) (fun e3 acc => (evI it2 e3).bdL fun ds2 ls2 e4 =>
          (lcGo (asgW (tvars t2) t2) (evTs ifs2) (ev elt) ds2 (lockAll ls2 e4) acc).bdL fun acc' e5 => .ok acc' (unlockAll ls2 e4 e5)) ds (lockAll ls e1) []).bd
        fun acc e2 => .ok .ow (.lst acc) (unlockAll ls e1 (restS e2 (lockAll ls e1) vs))
  | .dc vs t it ifs k v, e => (evI it e).bd fun ds ls e1 =>
      (dcGo (asgW vs t) (evTs ifs) (ev k) (ev v) ds (lockAll ls e1) [] []).bd fun ks ws e2 => .ok .ow (.dct ks ws) (unlockAll ls e1 (restS e2 (lockAll ls e1) vs))
def evs : List E → Env → REs
  | [], e => .ok [] e
  | a :: r, e => (ev a e).bds fun f d e1 => (evs r e1).bds fun vs e2 => .ok ((f, d) :: vs) e2
/-- and, or as values: all but the last True or False -/
def evB : Bool → List E → Env → RE
  | _, [], _ => .st
  | c, a :: r, e => match r with
    | [] => ev a e
    | _ :: _ => (ev a e).bd fun f d e1 => boolE (late f d e1) fun b => if b = c then evB c r e1 else .ok .fr (.bl b) e1
/-- a clause's tests -/
def evTs : List E → Env → RT
  | [], e => .ok true e
  | a :: r, e => match r with
    | [] => (ev a e).truth
    | _ :: _ => .st
def evI : It → Env → RI
  | .seq a, e => (ev a e).bdI fun f d e1 => seqI f e1 (late f d e1)
  | .rng1 a, e => (ev a e).bdI fun f d e1 => rng1I e1 (late f d e1)
  | .rng2 es, e => (evs es e).bdI fun vs e1 => rng2I e1 (lates vs e1)
  | .zip es, e => (evs es e).bdI fun vs e1 => zipI (places vs) e1 (lates vs e1)
  | .enum a, e => (ev a e).bdI fun f d e1 => enumI f e1 (late f d e1)
  | .items a, e => (ev a e).bdI fun f d e1 => itemsI f e1 (late f d e1)
end
/-- a test -/
def evT (m : E) (e : Env) : RT := (ev Φ γ m e).truth
def forGo (tgt : D → Env → Option Env) (body : Env → RS) : List D → Env → RS
  | [], e => .nx e
  | d :: ds, e => onS (tgt d e) fun e1 => (body e1).lp fun e2 => forGo tgt body ds e2
def whlGo (tst : Env → RT) (body : Env → RS) : Nat → Env → RS
  | 0, _ => .st
  | n + 1, e => (tst e).bdS fun b e1 => if b then (body e1).lp fun e2 => whlGo tst body n e2 else .nx e1
/-- the turns that a while may take -/
def turnsMost : Nat := 2 ^ 40
def slOf (o : Bool) (d : D) : Sl := if o then .ow d else .fr d
/-- a key at a place is read late only where the object is a list -/
def keyFl : Fl → D → Bool
  | .fr, _ => true
  | _, .lst _ => true
  | _, _ => false
def setIS (i : Nat) (d : D) (fk : Fl) (dk : D) (e : Env) : RS := onS (late fk dk e) fun k => onS (owOf (getS e i)) fun x => if keyFl fk x then onS (setD x k d) fun x' => .nx (setS e i (.ow x')) else .st
def delIS (i : Nat) (fk : Fl) (dk : D) (e : Env) : RS := onS (late fk dk e) fun k => onS (owOf (getS e i)) fun x => onS (delD x k) fun x' => .nx (setS e i (.ow x'))
def augS (i : Nat) (e : Env) : Option (Bool × D) → RS
  | some (false, .int n) => .nx (setS e i (.fr (.int n)))
  | _ => .st
def retVS (i : Nat) (e : Env) : Sl → RS
  | .fr d => .rt false d e
  | .ow d => .rt true d (setS e i .non)
  | _ => .st
def frzS (i : Nat) (e : Env) : Sl → RS
  | .fr _ => .nx e
  | .ow d => .nx (setS e i (.fr d))
  | _ => .st
mutual
def exec : S → Env → RS
  | .asg i a, e => (ev Φ γ a e).bdS fun f d e1 => keepS f fun o => .nx (setS e1 i (slOf o d))
  | .asgT t a, e => (ev Φ γ a e).bdS fun f d e1 => keepS f fun _ => onS (asgT t d e1) fun e2 => .nx e2
  | .setI i k a, e => (ev Φ γ a e).bdS fun f d e1 => keepS f fun _ => onS (owOf (getS e1 i)) fun _ => (ev Φ γ k e1).bdS fun fk dk e2 => setIS i d fk dk e2
  | .delI i k, e => (ev Φ γ k e).bdS fun fk dk e2 => delIS i fk dk e2
  | .aug i p a, e => onS (frOf (getS e i)) fun d0 => (ev Φ γ a e).bdS fun f d e1 => onS (late f d e1) fun d1 => augS i e1 (prim p [d0, d1])
  | .ex a, e => (ev Φ γ a e).bdS fun _ _ e1 => .nx e1
  | .ret a, e => (ev Φ γ a e).bdS fun f d e1 => keepS f fun o => .rt o d e1
  | .retV i, e => retVS i e (getS e i)
  | .retN, e => .rt false .non e
  | .iff c a b, e => (evT Φ γ c e).bdS fun t e1 => if t then execs a e1 else execs b e1
  | .for_ t it b, e => (evI Φ γ it e).bdS fun ds ls e1 => (forGo (asgT t) (execs b) ds (lockAll ls e1)).env (unlockAll ls e1)
  | .whl c b, e => whlGo (evT Φ γ c) (execs b) turnsMost e
  | .brk, e => .bk e
  | .cnt, e => .ct e
  | .pas, e => .nx e
  | .bad, _ => .st
  | .frz i, e => frzS i e (getS e i)
def execs : List S → Env → RS
  | [], e => .nx e
  | s :: r, e => (exec s e).bd (execs r)
end
end
/-- a def: how many parameters, how many names, the parameters that are lent, the body -/
structure Fn where
  ps : Nat
  n : Nat
  refs : List Nat
  body : List S
def outsFrom (refs : List Nat) : Nat → Nat → Env → List Sl
  | _, 0, _ => []
  | j, n + 1, e => (if refs.contains j then getS e j else .non) :: outsFrom refs (j + 1) n e
def outsOf (refs : List Nat) (ps : Nat) (e : Env) : List Sl := outsFrom refs 0 ps e
/-- lent slots that were owned are owned still -/
def keptO (refs : List Nat) (as e : Env) : Bool := refs.all fun j => !isOwn (getS as j) || isOwn (getS e j)
def RS.out (refs : List Nat) (ps : Nat) (as : List Sl) : RS → FR
  | .nx e => .ok false .non (outsOf refs ps e)
  | .rt o d e => .ok (o && keptO refs as e) d (outsOf refs ps e)
  | .ex x e => .ex x (outsOf refs ps e)
  | _ => .st
/-- only what is lent may be owned -/
def argsOk (refs : List Nat) : Nat → List Sl → Bool
  | _, [] => true
  | j, s :: r => (refs.contains j || !isOwn s) && argsOk refs (j + 1) r
def Fn.run (f : Fn) (Φ : Str → List Sl → FR) (γ : Str → Option D) (as : List Sl) : FR :=
  if decide (as.length = f.ps) && argsOk f.refs 0 as then (execs Φ γ f.body (as ++ List.replicate (f.n - f.ps) .non)).out f.refs f.ps as else .st
/-- the program's defs, k calls deep -/
def run (tab : Str → Option Fn) (γ : Str → Option D) : Nat → Str → List Sl → FR
  | 0, _, _ => .st
  | k + 1, f, as => match tab f with
    | some fn => fn.run (run tab γ k) γ as
    | none => .st
end PF
set_option Elab.async false
set_option linter.all false
set_option maxRecDepth 100000
namespace PF
open PySem PySem.Spec PyProof.Rows L2
/-- the ground: program, world, the written part -/
structure Gp where
  P : Program
  w : World
  K : PySem.W.Frag
  /-- how an exception lies -/
  ex : (Addr → Prop) → Hp → Exn → Value → Option Addr → Prop
mutual
def nk : D → NestedKey
  | .int i => .num i
  | .str s => .text s
  | .tup ds => .tup (nks ds)
  | .non => .none
  | .bl _ => .none
  | .lst _ => .none
  | .dct _ _ => .none
  | .ins _ _ _ => .none
def nks : List D → List NestedKey
  | [] => []
  | d :: ds => nk d :: nks ds
end
/-- a dict whose keys are tuples, with its entries -/
def dN (G : Gp) (a : Addr) (xs : List (NestedKey × Addr × Value)) : HO :=
  .ext fun h => ∃ o es ep, h.get? a = some o ∧ o.ExactDict ∧ o.data = .dict es ep ∧ es.toList = xs.map (entryOfKey (nestedKind G.P G.w)) ∧ (xs.map (·.1)).Nodup ∧ (a == sysModules) = false ∧ xs.length ≤ sizeLine
def DHolds (G : Gp) (H : Hp) (a : Addr) (ks : List D) (kx vx : List V) : Prop :=
  (∃ kvs : List (Key × V), H a = some (.dK kvs) ∧ kx = kvs.map (fun p => kV p.1) ∧ vx = kvs.map (·.2) ∧ ks.all keyLeaf = true) ∨
  (dnOn = true ∧ ks ≠ [] ∧ ∃ xs : List (NestedKey × Addr × Value), H a = some (dN G a xs) ∧ kx = xs.map (fun x => V.ref x.2.1) ∧ Vals vx (xs.map (·.2.2)) ∧ ks.all keyTup = true ∧ nks ks = xs.map (·.1))
section
variable (G : Gp)
mutual
/-- a shared value -/
def relF (F : Addr → Prop) (H : Hp) : D → V → Prop
  | .non, v => v = .non
  | .bl b, v => v = .bl b
  | .int i, v => v = .int i
  | .str s, v => v = .str s
  | .tup ds, v => ∃ a xs, v = .ref a ∧ SqT G.K H a xs ∧ relFs F H ds xs
  | .lst ds, v => ∃ a xs, v = .ref a ∧ F a ∧ Rd H a (.lst xs) ∧ relFs F H ds xs
  | .dct ks vs, v => ∃ a kx vx, v = .ref a ∧ F a ∧ DHolds G H a ks kx vx ∧ relFs F H ks kx ∧ relFs F H vs vx
  | .ins _ _ _, _ => False
def relFs (F : Addr → Prop) (H : Hp) : List D → List V → Prop
  | [], xs => xs = []
  | d :: ds, xs => ∃ x r, xs = x :: r ∧ relF F H d x ∧ relFs F H ds r
end
/-- the object of an owned value -/
def relO (F : Addr → Prop) (H : Hp) : D → Addr → Prop
  | .lst ds, a => ∃ xs, H a = some (.lst xs) ∧ relFs G F H ds xs
  | .dct ks vs, a => ∃ kx vx, DHolds G H a ks kx vx ∧ relFs G F H ks kx ∧ relFs G F H vs vx
  | _, _ => False
/-- readable: shared, or owned at the root -/
def relR (F : Addr → Prop) (H : Hp) : D → V → Prop
  | .lst ds, v => ∃ a xs, v = .ref a ∧ Rd H a (.lst xs) ∧ relFs G F H ds xs
  | .dct ks vs, v => ∃ a kx vx, v = .ref a ∧ DHolds G H a ks kx vx ∧ relFs G F H ks kx ∧ relFs G F H vs vx
  | d, v => relF G F H d v
end
section
variable {G : Gp} {F F' : Addr → Prop} {H H' : Hp} {M : Addr → Prop}
theorem relFs_length : ∀ {ds : List D} {xs : List V}, relFs G F H ds xs → xs.length = ds.length
  | [], xs, h => by simp only [relFs] at h; rw [h]; rfl
  | d :: ds, xs, h => by
    simp only [relFs] at h
    obtain ⟨x, r, rfl, _, h2⟩ := h
    rw [List.length_cons, List.length_cons, relFs_length h2]
theorem relFs_get : ∀ {ds : List D} {xs : List V} {i : Nat} {d : D}, relFs G F H ds xs → ds[i]? = some d → ∃ x, xs[i]? = some x ∧ relF G F H d x
  | [], _, _, _, _, e => by simp at e
  | d :: ds, xs, 0, _, h, e => by
    simp only [relFs] at h
    obtain ⟨x, r, rfl, h1, _⟩ := h
    simp at e; subst e
    exact ⟨x, rfl, h1⟩
  | d :: ds, xs, i + 1, _, h, e => by
    simp only [relFs] at h
    obtain ⟨x, r, rfl, _, h2⟩ := h
    obtain ⟨y, e1, e2⟩ := relFs_get (i := i) h2 (by simpa using e)
    exact ⟨y, by simpa using e1, e2⟩
theorem relFs_get' {ds : List D} {xs : List V} {i : Nat} {x : V} (h : relFs G F H ds xs) (e : xs[i]? = some x) : ∃ d, ds[i]? = some d ∧ relF G F H d x := by
  have hl := relFs_length h
  have hi : i < ds.length := by rw [← hl]; exact (List.getElem?_eq_some_iff.mp e).1
  obtain ⟨y, e1, r⟩ := relFs_get h (List.getElem?_eq_getElem hi)
  rw [e] at e1; cases e1
  exact ⟨_, List.getElem?_eq_getElem hi, r⟩
theorem relFs_append : ∀ {ds es : List D} {xs ys : List V}, relFs G F H ds xs → relFs G F H es ys → relFs G F H (ds ++ es) (xs ++ ys)
  | [], es, xs, ys, h, k => by simp only [relFs] at h; subst h; exact k
  | d :: ds, es, xs, ys, h, k => by
    simp only [relFs] at h
    obtain ⟨x, r, rfl, h1, h2⟩ := h
    simp only [List.cons_append, relFs]
    exact ⟨x, _, rfl, h1, relFs_append h2 k⟩
theorem relFs_of_get : ∀ {ds : List D} {xs : List V}, xs.length = ds.length → (∀ (i : Nat) d x, ds[i]? = some d → xs[i]? = some x → relF G F H d x) → relFs G F H ds xs
  | [], xs, hl, _ => by simp only [relFs]; exact List.length_eq_zero_iff.mp hl
  | d :: ds, [], hl, _ => by simp at hl
  | d :: ds, x :: xs, hl, h => by
    simp only [relFs]
    exact ⟨x, xs, rfl, h 0 d x rfl rfl, relFs_of_get (by simpa using hl) fun i e y h1 h2 => h (i + 1) e y (by simpa using h1) (by simpa using h2)⟩
theorem relFs_take {ds : List D} {xs : List V} (n : Nat) (h : relFs G F H ds xs) : relFs G F H (ds.take n) (xs.take n) := by
  have hl := relFs_length h
  refine relFs_of_get (by simp [hl]) fun i d x e1 e2 => ?_
  rw [List.getElem?_take] at e1 e2
  split at e1
  · rename_i hi
    rw [if_pos hi] at e2
    obtain ⟨y, e3, r⟩ := relFs_get h e1
    rw [e2] at e3; cases e3; exact r
  · cases e1
theorem relFs_drop {ds : List D} {xs : List V} (n : Nat) (h : relFs G F H ds xs) : relFs G F H (ds.drop n) (xs.drop n) := by
  have hl := relFs_length h
  refine relFs_of_get (by simp [hl]) fun i d x e1 e2 => ?_
  rw [List.getElem?_drop] at e1 e2
  obtain ⟨y, e3, r⟩ := relFs_get h e1
  rw [e2] at e3; cases e3; exact r
theorem relFs_set {ds : List D} {xs : List V} {d : D} {x : V} (i : Nat) (h : relFs G F H ds xs) (r : relF G F H d x) : relFs G F H (ds.set i d) (xs.set i x) := by
  have hl := relFs_length h
  refine relFs_of_get (by simp [hl]) fun j e y e1 e2 => ?_
  by_cases hj : i = j
  · subst hj
    by_cases hi : i < ds.length
    · rw [List.getElem?_set_self hi] at e1
      rw [List.getElem?_set_self (by rw [hl]; exact hi)] at e2
      cases e1; cases e2; exact r
    · rw [List.getElem?_eq_none (by simpa using hi)] at e1; cases e1
  · rw [List.getElem?_set_ne hj] at e1 e2
    obtain ⟨z, e3, q⟩ := relFs_get h e1
    rw [e2] at e3; cases e3; exact q
theorem relFs_reverse : ∀ {ds : List D} {xs : List V}, relFs G F H ds xs → relFs G F H ds.reverse xs.reverse
  | [], xs, h => by simp only [relFs] at h; subst h; simp [relFs]
  | d :: ds, xs, h => by
    simp only [relFs] at h
    obtain ⟨x, r, rfl, h1, h2⟩ := h
    rw [List.reverse_cons, List.reverse_cons]
    exact relFs_append (relFs_reverse h2) (by simp only [relFs]; exact ⟨x, [], rfl, h1, rfl⟩)
theorem relFs_dropLast {ds : List D} {xs : List V} (h : relFs G F H ds xs) : relFs G F H ds.dropLast xs.dropLast := by
  rw [List.dropLast_eq_take, List.dropLast_eq_take, relFs_length h]
  exact relFs_take _ h
theorem relFs_eraseIdx {ds : List D} {xs : List V} (i : Nat) (h : relFs G F H ds xs) : relFs G F H (ds.eraseIdx i) (xs.eraseIdx i) := by
  rw [List.eraseIdx_eq_take_drop_succ, List.eraseIdx_eq_take_drop_succ]
  exact relFs_append (relFs_take _ h) (relFs_drop _ h)
theorem relFs_rep {ds : List D} {xs : List V} (h : relFs G F H ds xs) : ∀ n : Nat, relFs G F H (List.replicate n ds).flatten (List.replicate n xs).flatten
  | 0 => by simp [relFs]
  | n + 1 => by
    rw [List.replicate_succ, List.replicate_succ, List.flatten_cons, List.flatten_cons]
    exact relFs_append h (relFs_rep h n)
/-- what may change: only at M; what is told stays -/
structure Ext (M F : Addr → Prop) (H : Hp) (F' : Addr → Prop) (H' : Hp) : Prop where
  frm : ∀ a o, H a = some o → ¬ M a → H' a = some o
  alive : ∀ a, H' a = none → H a = none
  fF : ∀ a, F a → F' a
  new : ∀ a, F' a → F a ∨ M a ∨ H a = none
theorem Ext.refl {M : Addr → Prop} : Ext M F H F H := ⟨fun _ _ e _ => e, fun _ e => e, fun _ e => e, fun _ e => .inl e⟩
theorem Ext.trans {M M1 F1 F2 : Addr → Prop} {H1 H2 : Hp} (a : Ext M F H F1 H1) (b : Ext M1 F1 H1 F2 H2) (hM : ∀ x, M1 x → M x ∨ H x = none) : Ext M F H F2 H2 where
  frm := fun x o e n => b.frm x o (a.frm x o e n) fun m => by
    rcases hM x m with h | h
    · exact n h
    · rw [e] at h; cases h
  alive := fun x e => a.alive x (b.alive x e)
  fF := fun x h => b.fF x (a.fF x h)
  new := fun x h => by
    rcases b.new x h with h | h | h
    · exact a.new x h
    · rcases hM x h with h | h
      · exact .inr (.inl h)
      · exact .inr (.inr h)
    · exact .inr (.inr (a.alive x h))
theorem Ext.weak {M M' : Addr → Prop} (a : Ext M F H F' H') (h : ∀ x, M x → M' x) : Ext M' F H F' H' :=
  ⟨fun x o e n => a.frm x o e fun m => n (h x m), a.alive, a.fF, fun x f => (a.new x f).elim .inl fun q => .inr (q.elim (fun m => .inl (h x m)) .inr)⟩
/-- M is apart from what is shared -/
def Apart (M F : Addr → Prop) (H : Hp) : Prop := ∀ a, M a → ¬ F a ∧ (∀ xs, H a ≠ some (.tup xs)) ∧ ∀ o u, H a ≠ some (.frz o u)
theorem SqT_ext {a : Addr} {xs : List V} (E : Ext M F H F' H') (ap : Apart M F H) (h : SqT G.K H a xs) : SqT G.K H' a xs := by
  rcases h with (h | ⟨o, h⟩) | h
  · exact .inl (.inl (E.frm a _ h fun m => (ap a m).2.1 _ h))
  · exact .inl (.inr ⟨o, E.frm a _ h fun m => (ap a m).2.2 _ _ h⟩)
  · exact .inr h
theorem Rd_ext {a : Addr} {u : HO} (E : Ext M F H F' H') (n : ¬ M a) (h : Rd H a u) : Rd H' a u := by
  rcases h with h | ⟨o, h⟩
  · exact .inl (E.frm a _ h n)
  · exact .inr ⟨o, E.frm a _ h n⟩
theorem DHolds_leaf {a : Addr} {ks : List D} {kx vx : List V} (hl : ks.all keyLeaf = true) (h : DHolds G H a ks kx vx) : ∃ kvs : List (Key × V), H a = some (.dK kvs) ∧ kx = kvs.map (fun p => kV p.1) ∧ vx = kvs.map (·.2) ∧ ks.all keyLeaf = true :=
  h.elim id fun ⟨_, ne, _, _, _, _, q, _⟩ => by
    cases ks with
    | nil => exact absurd rfl ne
    | cons k ks =>
      simp only [List.all_cons, Bool.and_eq_true] at hl q
      cases k <;> first | (exact (Bool.false_ne_true hl.1).elim) | (exact (Bool.false_ne_true q.1).elim)
theorem DHolds_ext {a : Addr} {ks : List D} {kx vx : List V} (E : Ext M F H F' H') (n : ¬ M a) (h : DHolds G H a ks kx vx) : DHolds G H' a ks kx vx := by
  rcases h with ⟨kvs, h, r⟩ | ⟨on, ne, xs, h, r⟩
  · exact .inl ⟨kvs, E.frm a _ h n, r⟩
  · exact .inr ⟨on, ne, xs, E.frm a _ h n, r⟩
mutual
theorem relF_ext (E : Ext M F H F' H') (ap : Apart M F H) : ∀ (d : D) (v : V), relF G F H d v → relF G F' H' d v
  | .non, v, h => by simp only [relF] at h ⊢; exact h
  | .bl b, v, h => by simp only [relF] at h ⊢; exact h
  | .int i, v, h => by simp only [relF] at h ⊢; exact h
  | .str s, v, h => by simp only [relF] at h ⊢; exact h
  | .tup ds, v, h => by
    simp only [relF] at h ⊢
    obtain ⟨a, xs, e, h1, h2⟩ := h
    exact ⟨a, xs, e, SqT_ext E ap h1, relFs_ext E ap ds xs h2⟩
  | .lst ds, v, h => by
    simp only [relF] at h ⊢
    obtain ⟨a, xs, e, hF, h1, h2⟩ := h
    exact ⟨a, xs, e, E.fF a hF, Rd_ext E (fun m => (ap a m).1 hF) h1, relFs_ext E ap ds xs h2⟩
  | .dct ks vs, v, h => by
    simp only [relF] at h ⊢
    obtain ⟨a, kx, vx, e, hF, h1, h2, h3⟩ := h
    exact ⟨a, kx, vx, e, E.fF a hF, DHolds_ext E (fun m => (ap a m).1 hF) h1, relFs_ext E ap ks kx h2, relFs_ext E ap vs vx h3⟩
  | .ins c ns vs, v, h => by simp only [relF] at h
theorem relFs_ext (E : Ext M F H F' H') (ap : Apart M F H) : ∀ (ds : List D) (xs : List V), relFs G F H ds xs → relFs G F' H' ds xs
  | [], xs, h => by simp only [relFs] at h ⊢; exact h
  | d :: ds, xs, h => by
    simp only [relFs] at h ⊢
    obtain ⟨x, r, e, h1, h2⟩ := h
    exact ⟨x, r, e, relF_ext E ap d x h1, relFs_ext E ap ds r h2⟩
end
mutual
/-- more is shared -/
theorem relF_sub (h' : ∀ a, F a → F' a) : ∀ (d : D) (v : V), relF G F H d v → relF G F' H d v
  | .non, v, h => by simp only [relF] at h ⊢; exact h
  | .bl b, v, h => by simp only [relF] at h ⊢; exact h
  | .int i, v, h => by simp only [relF] at h ⊢; exact h
  | .str s, v, h => by simp only [relF] at h ⊢; exact h
  | .tup ds, v, h => by
    simp only [relF] at h ⊢
    obtain ⟨a, xs, e, h1, h2⟩ := h
    exact ⟨a, xs, e, h1, relFs_sub h' ds xs h2⟩
  | .lst ds, v, h => by
    simp only [relF] at h ⊢
    obtain ⟨a, xs, e, hF, h1, h2⟩ := h
    exact ⟨a, xs, e, h' a hF, h1, relFs_sub h' ds xs h2⟩
  | .dct ks vs, v, h => by
    simp only [relF] at h ⊢
    obtain ⟨a, kx, vx, e, hF, h1, h2, h3⟩ := h
    exact ⟨a, kx, vx, e, h' a hF, h1, relFs_sub h' ks kx h2, relFs_sub h' vs vx h3⟩
  | .ins c ns vs, v, h => by simp only [relF] at h
theorem relFs_sub (h' : ∀ a, F a → F' a) : ∀ (ds : List D) (xs : List V), relFs G F H ds xs → relFs G F' H ds xs
  | [], xs, h => by simp only [relFs] at h ⊢; exact h
  | d :: ds, xs, h => by
    simp only [relFs] at h ⊢
    obtain ⟨x, r, e, h1, h2⟩ := h
    exact ⟨x, r, e, relF_sub h' d x h1, relFs_sub h' ds r h2⟩
end
theorem relO_sub {d : D} {a : Addr} (h' : ∀ a, F a → F' a) (h : relO G F H d a) : relO G F' H d a := by
  cases d with
  | lst ds =>
    obtain ⟨xs, h1, h2⟩ := h
    exact ⟨xs, h1, relFs_sub h' _ _ h2⟩
  | dct ks vs =>
    obtain ⟨kx, vx, h1, h2, h3⟩ := h
    exact ⟨kx, vx, h1, relFs_sub h' _ _ h2, relFs_sub h' _ _ h3⟩
  | _ => exact h.elim
theorem relO_ext {d : D} {a : Addr} (E : Ext M F H F' H') (ap : Apart M F H) (n : ¬ M a) (h : relO G F H d a) : relO G F' H' d a := by
  cases d with
  | lst ds =>
    obtain ⟨xs, h1, h2⟩ := h
    exact ⟨xs, E.frm a _ h1 n, relFs_ext E ap _ _ h2⟩
  | dct ks vs =>
    obtain ⟨kx, vx, h1, h2, h3⟩ := h
    exact ⟨kx, vx, DHolds_ext E n h1, relFs_ext E ap _ _ h2, relFs_ext E ap _ _ h3⟩
  | _ => exact h.elim
theorem relR_of_relF {d : D} {v : V} (h : relF G F H d v) : relR G F H d v := by
  cases d with
  | lst ds =>
    simp only [relF] at h
    obtain ⟨a, xs, e, _, h1, h2⟩ := h
    exact ⟨a, xs, e, h1, h2⟩
  | dct ks vs =>
    simp only [relF] at h
    obtain ⟨a, kx, vx, e, _, h1, h2⟩ := h
    exact ⟨a, kx, vx, e, h1, h2⟩
  | _ => exact h
theorem relR_of_relO {d : D} {a : Addr} (h : relO G F H d a) : relR G F H d (.ref a) := by
  cases d with
  | lst ds =>
    obtain ⟨xs, h1, h2⟩ := h
    exact ⟨a, xs, rfl, .inl h1, h2⟩
  | dct ks vs =>
    obtain ⟨kx, vx, h1, h2⟩ := h
    exact ⟨a, kx, vx, rfl, h1, h2⟩
  | _ => exact h.elim
/-- frozen: its address becomes shared -/
theorem relF_of_relO {d : D} {a : Addr} (h : relO G F H d a) (hF : F a) : relF G F H d (.ref a) := by
  cases d with
  | lst ds =>
    obtain ⟨xs, h1, h2⟩ := h
    simp only [relF]
    exact ⟨a, xs, rfl, hF, .inl h1, h2⟩
  | dct ks vs =>
    obtain ⟨kx, vx, h1, h2⟩ := h
    simp only [relF]
    exact ⟨a, kx, vx, rfl, hF, h1, h2⟩
  | _ => exact h.elim
theorem DHolds_there {a : Addr} {ks : List D} {kx vx : List V} (h : DHolds G H a ks kx vx) : (∃ o, H a = some o) ∧ (∀ xs, H a ≠ some (.tup xs)) ∧ ∀ o u, H a ≠ some (.frz o u) := by
  rcases h with ⟨kvs, h, _⟩ | ⟨_, _, xs, h, _⟩
  · exact ⟨⟨_, h⟩, fun _ e => (by rw [h] at e; injection e with e; cases e), fun _ _ e => (by rw [h] at e; injection e with e; cases e)⟩
  · exact ⟨⟨_, h⟩, fun _ e => (by rw [h] at e; injection e with e; cases e), fun _ _ e => (by rw [h] at e; injection e with e; cases e)⟩
theorem relO_there {d : D} {a : Addr} (h : relO G F H d a) : (∃ o, H a = some o) ∧ (∀ xs, H a ≠ some (.tup xs)) ∧ ∀ o u, H a ≠ some (.frz o u) := by
  cases d with
  | lst ds =>
    obtain ⟨xs, h, h2⟩ := h
    exact ⟨⟨_, h⟩, fun _ e => (by rw [h] at e; injection e with e; cases e), fun _ _ e => (by rw [h] at e; injection e with e; cases e)⟩
  | dct ks vs =>
    obtain ⟨kx, vx, h1, _⟩ := h
    exact DHolds_there h1
  | _ => exact h.elim
end
section
variable (G : Gp)
/-- one slot -/
def slotOk (F : Addr → Prop) (H : Hp) (s : Sl) (o : Option V) : Prop := match s with
  | .non => True
  | .fr d => ∃ v, o = some v ∧ relF G F H d v
  | .ow d => ∃ a, o = some (.ref a) ∧ ¬ F a ∧ relO G F H d a
  | .lk d => ∃ a, o = some (.ref a) ∧ ¬ F a ∧ relO G F H d a
end
def slAt (σ : L2.St) (i : Nat) : Option V := (σ[i]?).getD none
/-- the addresses that may be changed -/
def Mo (env : Env) (σ : L2.St) (a : Addr) : Prop := ∃ i d, getS env i = .ow d ∧ slAt σ i = some (.ref a)
/-- .. with the locked ones -/
def Ml (env : Env) (σ : L2.St) (a : Addr) : Prop := ∃ i, isOwn (getS env i) = true ∧ slAt σ i = some (.ref a)
structure Rel (G : Gp) (F : Addr → Prop) (H : Hp) (env : Env) (σ : L2.St) : Prop where
  len : env.length = σ.length
  slot : ∀ i, slotOk G F H (getS env i) (slAt σ i)
  one : ∀ i j a, isOwn (getS env i) = true → isOwn (getS env j) = true → slAt σ i = some (.ref a) → slAt σ j = some (.ref a) → i = j
  fin : ∀ a, F a → H a ≠ none
section
variable {G : Gp} {F F' F1 : Addr → Prop} {H H' H1 : Hp} {M : Addr → Prop} {env env1 env' : Env} {σ σ' : L2.St}
theorem getS_ge : ∀ {env : Env} {i : Nat}, env.length ≤ i → getS env i = .non
  | [], i, _ => by cases i <;> rfl
  | s :: r, 0, h => by simp at h
  | s :: r, i + 1, h => getS_ge (env := r) (by simpa using h)
theorem setS_length : ∀ (env : Env) (i : Nat) (s : Sl), (setS env i s).length = env.length
  | [], _, _ => rfl
  | _ :: _, 0, _ => rfl
  | x :: r, i + 1, s => by simp [setS, setS_length r i s]
theorem getS_setS : ∀ (env : Env) (i j : Nat) (s : Sl), getS (setS env i s) j = if i = j ∧ i < env.length then s else getS env j
  | [], i, j, s => by simp [setS]
  | x :: r, 0, 0, s => by simp [setS, getS]
  | x :: r, 0, j + 1, s => by simp [setS, getS]
  | x :: r, i + 1, 0, s => by simp [setS, getS]
  | x :: r, i + 1, j + 1, s => by
    simp only [setS, getS, getS_setS r i j s, List.length_cons, Nat.add_lt_add_iff_right, Nat.add_right_cancel_iff]
theorem getS_set_ne {env : Env} {i j : Nat} {s : Sl} (h : i ≠ j) : getS (setS env i s) j = getS env j := by
  rw [getS_setS, if_neg fun e => h e.1]
theorem getS_set_self {env : Env} {i : Nat} {s : Sl} (h : i < env.length) : getS (setS env i s) i = s := by
  rw [getS_setS, if_pos ⟨rfl, h⟩]
theorem getS_lt {env : Env} {i : Nat} (h : getS env i ≠ .non) : i < env.length := by
  by_cases hi : i < env.length
  · exact hi
  · exact absurd (getS_ge (Nat.le_of_not_lt hi)) h
theorem Mo.ml {a : Addr} (h : Mo env σ a) : Ml env σ a := by
  obtain ⟨i, d, h1, h2⟩ := h
  exact ⟨i, by rw [h1]; rfl, h2⟩
theorem Rel.own (R : Rel G F H env σ) {i : Nat} (h : isOwn (getS env i) = true) : ∃ d a, slAt σ i = some (.ref a) ∧ ¬ F a ∧ relO G F H d a ∧ (getS env i = .ow d ∨ getS env i = .lk d) := by
  have q := R.slot i
  cases e : getS env i with
  | non => rw [e] at h; cases h
  | fr d => rw [e] at h; cases h
  | ow d =>
    rw [e] at q
    obtain ⟨a, h1, h2, h3⟩ := q
    exact ⟨d, a, h1, h2, h3, .inl rfl⟩
  | lk d =>
    rw [e] at q
    obtain ⟨a, h1, h2, h3⟩ := q
    exact ⟨d, a, h1, h2, h3, .inr rfl⟩
theorem Rel.apartL (R : Rel G F H env σ) : Apart (Ml env σ) F H := fun a ⟨i, h1, h2⟩ => by
  obtain ⟨d, b, e, n, r, _⟩ := R.own h1
  rw [h2] at e; cases e
  exact ⟨n, (relO_there r).2⟩
theorem Rel.apart (R : Rel G F H env σ) : Apart (Mo env σ) F H := fun a h => R.apartL a h.ml
theorem Rel.there (R : Rel G F H env σ) {a : Addr} (h : Ml env σ a) : H a ≠ none := by
  obtain ⟨i, h1, h2⟩ := h
  obtain ⟨d, b, e, n, r, _⟩ := R.own h1
  rw [h2] at e; cases e
  obtain ⟨⟨o, q⟩, _⟩ := relO_there r
  rw [q]; exact fun z => nomatch z
/-- the state behind -/
structure Pst (G : Gp) (F : Addr → Prop) (H : Hp) (env : Env) (σ : L2.St) (F' : Addr → Prop) (H' : Hp) (env' : Env) (σ' : L2.St) : Prop where
  ext : Ext (Mo env σ) F H F' H'
  rel : Rel G F' H' env' σ'
  mo : ∀ a, Ml env' σ' a → Ml env σ a ∨ H a = none
  mw : ∀ a, Mo env' σ' a → Mo env σ a ∨ H a = none
  lk : ∀ i d, getS env' i = .lk d → getS env i = .lk d ∧ slAt σ' i = slAt σ i
theorem Pst.refl (R : Rel G F H env σ) : Pst G F H env σ F H env σ := ⟨.refl, R, fun _ h => .inl h, fun _ h => .inl h, fun _ _ h => ⟨h, rfl⟩⟩
theorem Pst.trans {F2 : Addr → Prop} {H2 : Hp} {env2 : Env} {σ2 : L2.St} (a : Pst G F H env σ F1 H1 env1 σ') (b : Pst G F1 H1 env1 σ' F2 H2 env2 σ2) : Pst G F H env σ F2 H2 env2 σ2 where
  ext := a.ext.trans b.ext a.mw
  rel := b.rel
  mo := fun x h => by
    rcases b.mo x h with h | h
    · exact a.mo x h
    · exact .inr (a.ext.alive x h)
  mw := fun x h => by
    rcases b.mw x h with h | h
    · exact a.mw x h
    · exact .inr (a.ext.alive x h)
  lk := fun i d h => let ⟨h1, h2⟩ := b.lk i d h; let ⟨h3, h4⟩ := a.lk i d h1; ⟨h3, h2.trans h4⟩
/-- the slots still hold, the heap grown or changed at M, which is apart from the slots -/
theorem Rel.ext {M : Addr → Prop} (R : Rel G F H env σ) (E : Ext M F H F' H') (ap : Apart M F H) (n : ∀ a, Ml env σ a → ¬ M a) (nF : ∀ a, Ml env σ a → ¬ F' a) (fin : ∀ a, F' a → H' a ≠ none) : Rel G F' H' env σ := by
  refine ⟨R.len, fun i => ?_, R.one, fin⟩
  have q := R.slot i
  have own : isOwn (getS env i) = true → ∀ a, slAt σ i = some (.ref a) → Ml env σ a := fun h a e => ⟨i, h, e⟩
  cases e : getS env i with
  | non => trivial
  | fr d =>
    rw [e] at q
    obtain ⟨v, h1, h2⟩ := q
    exact ⟨v, h1, relF_ext E ap d v h2⟩
  | ow d =>
    rw [e] at q own
    obtain ⟨a, h1, h2, h3⟩ := q
    have m := own rfl a h1
    exact ⟨a, h1, nF a m, relO_ext E ap (n a m) h3⟩
  | lk d =>
    rw [e] at q own
    obtain ⟨a, h1, h2, h3⟩ := q
    have m := own rfl a h1
    exact ⟨a, h1, nF a m, relO_ext E ap (n a m) h3⟩
/-- more is shared, none of the slots' own -/
theorem Rel.sub (R : Rel G F H env σ) (h' : ∀ a, F a → F' a) (n : ∀ a, Ml env σ a → ¬ F' a) (fin : ∀ a, F' a → H a ≠ none) : Rel G F' H env σ := by
  refine ⟨R.len, fun i => ?_, R.one, fin⟩
  have q := R.slot i
  have own : isOwn (getS env i) = true → ∀ a, slAt σ i = some (.ref a) → Ml env σ a := fun h a e => ⟨i, h, e⟩
  cases e : getS env i with
  | non => trivial
  | fr d =>
    rw [e] at q
    obtain ⟨v, h1, h2⟩ := q
    exact ⟨v, h1, relF_sub h' d v h2⟩
  | ow d =>
    rw [e] at q own
    obtain ⟨a, h1, h2, h3⟩ := q
    exact ⟨a, h1, n a (own rfl a h1), relO_sub h' h3⟩
  | lk d =>
    rw [e] at q own
    obtain ⟨a, h1, h2, h3⟩ := q
    exact ⟨a, h1, n a (own rfl a h1), relO_sub h' h3⟩
theorem alive_of (g : ∀ a o, H a = some o → H' a = some o) (a : Addr) (e : H' a = none) : H a = none := by
  cases q : H a with
  | none => rfl
  | some o => rw [g a o q] at e; cases e
theorem Ext.grow {M : Addr → Prop} (g : ∀ a o, H a = some o → H' a = some o) : Ext M F H F H' := ⟨fun a o e _ => g a o e, alive_of g, fun _ h => h, fun _ h => .inl h⟩
/-- nothing of the slots has changed, the heap has grown -/
theorem Rel.grow (R : Rel G F H env σ) (g : ∀ a o, H a = some o → H' a = some o) : Rel G F H' env σ :=
  R.ext (M := fun _ => False) (.grow g) (fun _ h => h.elim) (fun _ _ h => h) (fun a m => (R.apartL a m).1) fun a h e => R.fin a h (alive_of g a e)
theorem Pst.grow (R : Rel G F H env σ) (g : ∀ a o, H a = some o → H' a = some o) : Pst G F H env σ F H' env σ :=
  ⟨.grow g, R.grow g, fun _ h => .inl h, fun _ h => .inl h, fun _ _ h => ⟨h, rfl⟩⟩
theorem grow_new {p : Addr} {o : HO} (h : H p = none) : ∀ a u, H a = some u → upd H p o a = some u := fun a u e => by rw [upd_ne (ne_of_none e h)]; exact e
end
section
variable (G : Gp)
/-- a value of a kind f: d is what it was when it was made -/
def vOk (F : Addr → Prop) (H : Hp) (env : Env) (σ : L2.St) (f : Fl) (d : D) (v : V) : Prop := match f with
  | .fr => relF G F H d v
  | .ow => ∃ a, v = .ref a ∧ ¬ F a ∧ ¬ Ml env σ a ∧ relO G F H d a
  | .pl i => slAt σ i = some v
/-- where new: of no place before -/
def vNew (H : Hp) (f : Fl) (v : V) : Prop := f = .ow → ∀ a, v = .ref a → H a = none
end
section
variable {G : Gp} {F F' F1 : Addr → Prop} {H H' H1 : Hp} {env env1 env' : Env} {σ σ' : L2.St} {f : Fl} {d : D} {v : V}
theorem vOk.step (h : vOk G F H env σ f d v) (R : Rel G F H env σ) (p : Pst G F H env σ F' H' env' σ) : vOk G F' H' env' σ f d v := by
  cases f with
  | fr => exact relF_ext p.ext R.apart d v h
  | ow =>
    obtain ⟨a, e, n, m, r⟩ := h
    obtain ⟨⟨o, q⟩, _⟩ := relO_there r
    refine ⟨a, e, fun z => ?_, fun z => ?_, relO_ext p.ext R.apart (fun z => m z.ml) r⟩
    · rcases p.ext.new a z with z | z | z
      · exact n z
      · exact m z.ml
      · rw [q] at z; cases z
    · rcases p.mo a z with z | z
      · exact m z
      · rw [q] at z; cases z
  | pl i => exact h
theorem vOk.late {d' : D} (h : vOk G F H env σ f d v) (R : Rel G F H env σ) (e : late f d env = some d') : relR G F H d' v := by
  cases f with
  | fr => cases e; exact relR_of_relF h
  | ow =>
    obtain ⟨a, e1, n, m, r⟩ := h
    cases e; subst e1
    exact relR_of_relO r
  | pl i =>
    have e : (getS env i).d? = some d' := e
    have q := R.slot i
    cases z : getS env i with
    | non => rw [z] at e; cases e
    | fr x =>
      rw [z] at e q
      obtain ⟨u, h1, h2⟩ := q
      have := (show slAt σ i = some v from h).symm.trans h1
      cases this; cases e
      exact relR_of_relF h2
    | ow x =>
      rw [z] at e q
      obtain ⟨u, h1, _, h2⟩ := q
      have := (show slAt σ i = some v from h).symm.trans h1
      cases this; cases e
      exact relR_of_relO h2
    | lk x =>
      rw [z] at e q
      obtain ⟨u, h1, _, h2⟩ := q
      have := (show slAt σ i = some v from h).symm.trans h1
      cases this; cases e
      exact relR_of_relO h2
end
end PF
set_option Elab.async false
set_option linter.all false
set_option maxRecDepth 100000
namespace PF
open PySem PySem.Spec PyProof.Rows L2
theorem PE.imp {X : Cx} {e : Expr} {t t' : TE} (h : PE X e t) (i : ∀ σ H Q, t' σ H Q → t σ H Q) : PE X e t' := ⟨fun pins s σ H Q I q => h.run pins s σ H Q I (i σ H Q q)⟩
theorem PA.imp {X : Cx} {es : List Expr} {t t' : TA} (h : PA X es t) (i : ∀ σ H Q, t' σ H Q → t σ H Q) : PA X es t' := ⟨fun pos pins s σ H Q I q => h.run pos pins s σ H Q I (i σ H Q q)⟩
theorem PT.imp {X : Cx} {e : Expr} {t t' : TT} (h : PT X e t) (i : ∀ σ H Q, t' σ H Q → t σ H Q) : PT X e t' := ⟨fun pins s σ H Q I q => h.run pins s σ H Q I (i σ H Q q)⟩
theorem PW.imp {X : Cx} {e : Expr} {t t' : TT} (h : PW X e t) (i : ∀ σ H Q, t' σ H Q → t σ H Q) : PW X e t' := ⟨fun wh pins s σ H Q I q => h.run wh pins s σ H Q I (i σ H Q q)⟩
theorem PS.imp {X : Cx} {s : Stmt} {t t' : TS} (h : PS X s t) (i : ∀ D σ H, t' D σ H → t D σ H) : PS X s t' := ⟨fun pins s σ H D I q => h.run pins s σ H D I (i D σ H q)⟩
theorem PSs.imp {X : Cx} {s : List Stmt} {t t' : TS} (h : PSs X s t) (i : ∀ D σ H, t' D σ H → t D σ H) : PSs X s t' := ⟨fun pins s σ H D I q => h.run pins s σ H D I (i D σ H q)⟩
theorem PI.imp {X : Cx} {tg it : Expr} {t t' : TI} (h : PI X tg it t) (i : ∀ σ H Q, t' σ H Q → t σ H Q) : PI X tg it t' := ⟨fun pins s σ H Q I q => h.run pins s σ H Q I (i σ H Q q)⟩
/-- how an exception lies -/
def exOk (G : Gp) (F : Addr → Prop) (H : Hp) (x : Exn) (cls : Value) (dd : Option Addr) : Prop := G.ex F H x cls dd
section
variable (G : Gp) (W : WX) (F : Addr → Prop) (H : Hp) (env : Env) (σ : L2.St)
def vOks (F : Addr → Prop) (H : Hp) (env : Env) (σ : L2.St) : List (Fl × D) → List V → Prop
  | [], xs => xs = []
  | (f, d) :: r, xs => ∃ x xr, xs = x :: xr ∧ vOk G F H env σ f d x ∧ vOks F H env σ r xr
def vNews (H : Hp) : List (Fl × D) → List V → Prop
  | (f, d) :: r, x :: xr => vNew H f x ∧ vNews H r xr
  | _, _ => True
def kE (Q : VK) : RE → Prop
  | .ok f d e' => ∀ F' H' v, Pst G F H env σ F' H' e' σ → vOk G F' H' e' σ f d v → vNew H f v → Q v H'
  | .ex x e' => ∀ F' H' cls dd, Pst G F H env σ F' H' e' σ → exOk G F' H' x cls dd → W cls dd σ H'
  | .st => False
def kEs (Q : List V → Hp → Prop) : REs → Prop
  | .ok vs e' => ∀ F' H' xs, Pst G F H env σ F' H' e' σ → vOks G F' H' e' σ vs xs → vNews H vs xs → Q xs H'
  | .ex x e' => ∀ F' H' cls dd, Pst G F H env σ F' H' e' σ → exOk G F' H' x cls dd → W cls dd σ H'
  | .st => False
def kT (Q : Bool → Hp → Prop) : RT → Prop
  | .ok b e' => ∀ F' H', Pst G F H env σ F' H' e' σ → Q b H'
  | .ex x e' => ∀ F' H' cls dd, Pst G F H env σ F' H' e' σ → exOk G F' H' x cls dd → W cls dd σ H'
  | .st => False
end
section
variable (G : Gp) (Φ : Str → List Sl → FR) (γ : Str → Option D) (W : WX)
def rdE (m : E) : TE := fun σ H Q => ∃ F env, Rel G F H env σ ∧ kE G W F H env σ Q (ev Φ γ m env)
def rdEs (ms : List E) : TA := fun σ H Q => ∃ F env, Rel G F H env σ ∧ kEs G W F H env σ Q (evs Φ γ ms env)
def rdT (m : E) : TT := fun σ H Q => ∃ F env, Rel G F H env σ ∧ kT G W F H env σ Q (evT Φ γ m env)
end
section
variable {G : Gp} {W : WX} {F F1 F' : Addr → Prop} {H H1 H' : Hp} {env e1 e2 : Env} {σ : L2.St}
theorem kE.imp {Q Q' : VK} (i : ∀ v H, Q v H → Q' v H) : ∀ {r : RE}, kE G W F H env σ Q r → kE G W F H env σ Q' r
  | .ok _ _ _, h => fun F' H' v p q n => i _ _ (h F' H' v p q n)
  | .ex _ _, h => h
  | .st, h => h
/-- an end later is an end from earlier -/
theorem kE.back {Q : VK} (p : Pst G F H env σ F1 H1 e1 σ) : ∀ {r : RE}, kE G W F H env σ Q r → kE G W F1 H1 e1 σ Q r
  | .ok _ _ _, h => fun F' H' v q vo n => h F' H' v (p.trans q) vo fun ef a ea => p.ext.alive a (n ef a ea)
  | .ex _ _, h => fun F' H' cls dd q x => h F' H' cls dd (p.trans q) x
  | .st, h => h
theorem kEs.back {Q : List V → Hp → Prop} (p : Pst G F H env σ F1 H1 e1 σ) : ∀ {r : REs}, kEs G W F H env σ Q r → kEs G W F1 H1 e1 σ Q r
  | .ok vs _, h => fun F' H' v q vo n => h F' H' v (p.trans q) vo (by
      have go : ∀ (vs : List (Fl × D)) (xs : List V), vNews H1 vs xs → vNews H vs xs := by
        intro vs
        induction vs with
        | nil => intro xs _; cases xs <;> trivial
        | cons y r ih =>
          intro xs h
          cases xs with
          | nil => trivial
          | cons x xr => exact ⟨fun ef a ea => p.ext.alive a (h.1 ef a ea), ih xr h.2⟩
      exact go _ _ n)
  | .ex _ _, h => fun F' H' cls dd q x => h F' H' cls dd (p.trans q) x
  | .st, h => h
theorem kT.back {Q : Bool → Hp → Prop} (p : Pst G F H env σ F1 H1 e1 σ) : ∀ {r : RT}, kT G W F H env σ Q r → kT G W F1 H1 e1 σ Q r
  | .ok _ _, h => fun F' H' q => h F' H' (p.trans q)
  | .ex _ _, h => fun F' H' cls dd q x => h F' H' cls dd (p.trans q) x
  | .st, h => h
theorem vOks.step : ∀ {vs : List (Fl × D)} {xs : List V}, vOks G F H env σ vs xs → Rel G F H env σ → Pst G F H env σ F' H' e1 σ → vOks G F' H' e1 σ vs xs
  | [], _, h, _, _ => h
  | (f, d) :: r, _, ⟨x, xr, e, h1, h2⟩, R, p => ⟨x, xr, e, h1.step R p, h2.step R p⟩
variable {Φ : Str → List Sl → FR} {γ : Str → Option D}
theorem rdEs_nil {Q : List V → Hp → Prop} (h : rdEs G Φ γ W [] σ H Q) : Q [] H := by
  obtain ⟨F, env, R, k⟩ := h
  exact k F H [] (.refl R) rfl trivial
theorem rdEs_cons {m : E} {ms : List E} {Q : List V → Hp → Prop} (h : rdEs G Φ γ W (m :: ms) σ H Q) : rdE G Φ γ W m σ H fun x H1 => rdEs G Φ γ W ms σ H1 fun xs H2 => Q (x :: xs) H2 := by
  obtain ⟨F, env, R, k⟩ := h
  refine ⟨F, env, R, ?_⟩
  rw [evs] at k
  cases he : ev Φ γ m env with
  | st => rw [he] at k; exact k
  | ex x e1 => rw [he] at k; exact k
  | ok f d e1 =>
    rw [he] at k
    intro F1 H1 x p1 v1 n1
    refine ⟨F1, e1, p1.rel, ?_⟩
    simp only [RE.bds] at k
    cases hs : evs Φ γ ms e1 with
    | st => rw [hs] at k; exact k
    | ex y e2 => rw [hs] at k; exact fun F' H' cls dd q z => k F' H' cls dd (p1.trans q) z
    | ok vs e2 =>
      rw [hs] at k
      intro F2 H2 xs p2 v2 n2
      refine k F2 H2 (x :: xs) (p1.trans p2) ⟨x, xs, rfl, v1.step p1.rel p2, v2⟩ ⟨n1, ?_⟩
      have go : ∀ (vs : List (Fl × D)) (xs : List V), vNews H1 vs xs → vNews H vs xs := by
        intro vs
        induction vs with
        | nil => intro xs _; cases xs <;> trivial
        | cons y r ih =>
          intro xs h
          cases xs with
          | nil => trivial
          | cons x xr => exact ⟨fun ef a ea => p1.ext.alive a (h.1 ef a ea), ih xr h.2⟩
      exact go _ _ n2
/-- operands for PA -/
theorem pa_rd_nil {X : Cx} : PA X [] (rdEs G Φ γ W []) := PA.imp pa_nil fun _ _ _ h => rdEs_nil h
theorem pa_rd_cons {X : Cx} {e : Expr} {es : List Expr} {m : E} {ms : List E} (h1 : PE X e (rdE G Φ γ W m)) (h2 : PA X es (rdEs G Φ γ W ms))
    (hs : starEach (e :: es) X.env = (false, eval e X.env) :: starEach es X.env) : PA X (e :: es) (rdEs G Φ γ W (m :: ms)) :=
  PA.imp (pa_cons h1 h2 hs) fun _ _ _ h => rdEs_cons h
def relRs (G : Gp) (F : Addr → Prop) (H : Hp) : List D → List V → Prop
  | [], xs => xs = []
  | d :: ds, xs => ∃ x r, xs = x :: r ∧ relR G F H d x ∧ relRs G F H ds r
theorem lates_ok : ∀ {vs : List (Fl × D)} {xs : List V} {ds : List D}, vOks G F H env σ vs xs → Rel G F H env σ → lates vs env = some ds → relRs G F H ds xs
  | [], _, _, h, _, e => by cases e; exact h
  | (f, d) :: r, _, ds, ⟨x, xr, ex, h1, h2⟩, R, e => by
    rw [lates] at e
    cases e1 : late f d env with
    | none => rw [e1] at e; cases e
    | some y =>
      cases e2 : lates r env with
      | none => rw [e1, e2] at e; cases e
      | some ys =>
        rw [e1, e2] at e
        cases e
        exact ⟨x, xr, ex, h1.late R e1, lates_ok h2 R e2⟩
/-- the values that a list of operands stores become shared -/
def owAt : List (Fl × D) → List V → Addr → Prop
  | (f, _) :: r, x :: xr, a => (f = .ow ∧ x = .ref a) ∨ owAt r xr a
  | _, _, _ => False
theorem owAt_facts : ∀ {vs : List (Fl × D)} {xs : List V} {H0 : Hp} {a : Addr}, vOks G F H env σ vs xs → vNews H0 vs xs → owAt vs xs a → ¬ F a ∧ ¬ Ml env σ a ∧ H a ≠ none ∧ H0 a = none
  | [], [], _, _, _, _, h => False.elim h
  | [], _ :: _, _, _, _, _, h => False.elim h
  | (f, d) :: r, [], _, _, ⟨x, xr, e, _⟩, _, _ => by cases e
  | (f, d) :: r, x :: xr, H0, a, ⟨y, yr, e, h1, h2⟩, ⟨n1, n2⟩, h => by
    cases e
    rcases h with ⟨ef, ex⟩ | h
    · subst ef
      obtain ⟨b, e1, k1, k2, k3⟩ := h1
      rw [ex] at e1; cases e1
      obtain ⟨⟨o, q⟩, _⟩ := relO_there k3
      exact ⟨k1, k2, (fun z => by rw [q] at z; cases z), n1 rfl a ex⟩
    · exact owAt_facts h2 n2 h
theorem stored_rel {F' : Addr → Prop} (hs : ∀ a, F a → F' a) : ∀ {vs : List (Fl × D)} {xs : List V} {ds : List D}, vOks G F H env σ vs xs → (∀ a, owAt vs xs a → F' a) → PF.stored vs = some ds → relFs G F' H ds xs
  | [], _, _, h, _, e => by cases e; simp only [relFs]; exact h
  | (.pl _, d) :: r, _, _, _, _, e => by cases e
  | (.fr, d) :: r, _, _, ⟨x, xr, ex, h1, h2⟩, hF, e => by
    subst ex
    have e : (PF.stored r).map (d :: ·) = some _ := e
    cases es : PF.stored r with
    | none => rw [es] at e; cases e
    | some ys =>
      rw [es] at e; cases e
      simp only [relFs]
      exact ⟨x, xr, rfl, relF_sub hs d x h1, stored_rel hs h2 (fun a z => hF a (.inr z)) es⟩
  | (.ow, d) :: r, _, _, ⟨x, xr, ex, h1, h2⟩, hF, e => by
    subst ex
    have e : (PF.stored r).map (d :: ·) = some _ := e
    cases es : PF.stored r with
    | none => rw [es] at e; cases e
    | some ys =>
      rw [es] at e; cases e
      simp only [relFs]
      obtain ⟨a, e1, k1, k2, k3⟩ := h1
      subst e1
      exact ⟨_, xr, rfl, relF_of_relO (relO_sub hs k3) (hF a (.inl ⟨rfl, rfl⟩)), stored_rel hs h2 (fun a z => hF a (.inr z)) es⟩
/-- addresses that become shared, all of them new since the start -/
theorem Pst.freeze {F0 : Addr → Prop} {H0 : Hp} {e0 : Env} {σ0 : L2.St} {Z : Addr → Prop} (p : Pst G F0 H0 e0 σ0 F H env σ) (hZ : ∀ a, Z a → ¬ Ml env σ a ∧ H a ≠ none ∧ (Mo e0 σ0 a ∨ H0 a = none)) :
    Pst G F0 H0 e0 σ0 (fun a => F a ∨ Z a) H env σ :=
  ⟨⟨p.ext.frm, p.ext.alive, fun a q => .inl (p.ext.fF a q), fun a q => q.elim (p.ext.new a) fun z => .inr (hZ a z).2.2⟩,
    p.rel.sub (fun _ q => .inl q) (fun a m q => q.elim ((p.rel.apartL a m).1) fun z => (hZ a z).1 m) (fun a q => q.elim (p.rel.fin a) fun z => (hZ a z).2.1), p.mo, p.mw, p.lk⟩
theorem freeze {F0 : Addr → Prop} {H0 : Hp} {e0 : Env} {σ0 : L2.St} {vs : List (Fl × D)} {xs : List V} {ds : List D} (p : Pst G F0 H0 e0 σ0 F H env σ) (h : vOks G F H env σ vs xs) (n : vNews H0 vs xs) (e : PF.stored vs = some ds) :
    Pst G F0 H0 e0 σ0 (fun a => F a ∨ owAt vs xs a) H env σ ∧ relFs G (fun a => F a ∨ owAt vs xs a) H ds xs :=
  ⟨p.freeze fun a z => let q := owAt_facts h n z; ⟨q.2.1, q.2.2.1, .inr q.2.2.2⟩, stored_rel (fun _ q => .inl q) h (fun _ z => .inr z) e⟩
end
end PF
set_option Elab.async false
set_option linter.all false
set_option maxRecDepth 100000
namespace PF
open PySem PySem.Spec PyProof.Rows L2
/-- an operation's end: the heap grown; a shared value, or a new object -/
def resOk (G : Gp) (F : Addr → Prop) (H : Hp) (o : Bool) (d : D) (v : V) (H' : Hp) : Prop :=
  (∀ a u, H a = some u → H' a = some u) ∧ (if o = true then ∃ a, v = .ref a ∧ H a = none ∧ relO G F H' d a else relF G F H' d v)
/-- an operation's reading -/
def rP (G : Gp) (p : Op) (xs : List V) (H : Hp) (Q : VK) : Prop :=
  ∃ F ds o d, relRs G F H ds xs ∧ prim p ds = some (o, d) ∧ ∀ v H', resOk G F H o d v H' → Q v H'
section
variable {G : Gp} {F : Addr → Prop} {H : Hp}
theorem rr1 {ds : List D} {x : V} (h : relRs G F H ds [x]) : ∃ a, ds = [a] ∧ relR G F H a x := by
  cases ds with
  | nil => cases h
  | cons a r =>
    obtain ⟨y, yr, e, h1, h2⟩ := h
    cases e
    cases r with
    | nil => exact ⟨a, rfl, h1⟩
    | cons b r => obtain ⟨z, zr, e, _⟩ := h2; cases e
theorem rr2 {ds : List D} {x y : V} (h : relRs G F H ds [x, y]) : ∃ a b, ds = [a, b] ∧ relR G F H a x ∧ relR G F H b y := by
  cases ds with
  | nil => cases h
  | cons a r =>
    obtain ⟨z, zr, e, h1, h2⟩ := h
    cases e
    obtain ⟨b, rfl, h3⟩ := rr1 h2
    exact ⟨a, b, rfl, h1, h3⟩
theorem rInt {i : Int} {x : V} (h : relR G F H (.int i) x) : x = .int i := by simpa only [relR, relF] using h
theorem rStr {i : Str} {x : V} (h : relR G F H (.str i) x) : x = .str i := by simpa only [relR, relF] using h
theorem rBl {i : Bool} {x : V} (h : relR G F H (.bl i) x) : x = .bl i := by simpa only [relR, relF] using h
theorem rNon {x : V} (h : relR G F H .non x) : x = .non := by simpa only [relR, relF] using h
theorem rTup {ds : List D} {x : V} (h : relR G F H (.tup ds) x) : ∃ a xs, x = .ref a ∧ SqT G.K H a xs ∧ relFs G F H ds xs := by simpa only [relR, relF] using h
theorem rLst {ds : List D} {x : V} (h : relR G F H (.lst ds) x) : ∃ a xs, x = .ref a ∧ Rd H a (.lst xs) ∧ relFs G F H ds xs := by simpa only [relR, relF] using h
/-- a value without an object -/
theorem res0 {d : D} {v : V} (h : relF G F H d v) : resOk G F H false d v H := ⟨fun _ _ e => e, by rw [if_neg Bool.false_ne_true]; exact h⟩
theorem resI {i : Int} : resOk G F H false (.int i) (.int i) H := res0 (by simp only [relF])
theorem resS {i : Str} : resOk G F H false (.str i) (.str i) H := res0 (by simp only [relF])
theorem resB {i : Bool} : resOk G F H false (.bl i) (.bl i) H := res0 (by simp only [relF])
theorem resN : resOk G F H false .non .non H := res0 (by simp only [relF])
theorem relFs_grow {H' : Hp} (g : ∀ a o, H a = some o → H' a = some o) {ds : List D} {xs : List V} (h : relFs G F H ds xs) : relFs G F H' ds xs := relFs_ext (M := fun _ => False) (.grow g) (fun _ z => z.elim) ds xs h
theorem relF_grow {H' : Hp} (g : ∀ a o, H a = some o → H' a = some o) {d : D} {x : V} (h : relF G F H d x) : relF G F H' d x := relF_ext (M := fun _ => False) (.grow g) (fun _ z => z.elim) d x h
/-- a new tuple -/
theorem resT {ds : List D} {xs : List V} {p : Addr} (hp : H p = none) (h : relFs G F H ds xs) : resOk G F H false (.tup ds) (.ref p) (upd H p (.tup xs)) := by
  refine ⟨grow_new hp, ?_⟩
  rw [if_neg Bool.false_ne_true]
  simp only [relF]
  exact ⟨p, xs, rfl, .inl (.inl upd_same), relFs_grow (grow_new hp) h⟩
/-- a new list -/
theorem resL {ds : List D} {xs : List V} {p : Addr} (hp : H p = none) (h : relFs G F H ds xs) : resOk G F H true (.lst ds) (.ref p) (upd H p (.lst xs)) := by
  refine ⟨grow_new hp, ?_⟩
  rw [if_pos rfl]
  exact ⟨p, rfl, hp, xs, upd_same, relFs_grow (grow_new hp) h⟩
mutual
theorem dpF : ∀ (d : D) (x : V), d.pl = true → relF G F H d x → Dp G.K H x d.py
  | .non, x, _, h => by simp only [relF] at h; subst h; exact .non
  | .bl b, x, _, h => by simp only [relF] at h; subst h; exact .bl b
  | .int i, x, _, h => by simp only [relF] at h; subst h; exact .int i
  | .str s, x, _, h => by simp only [relF] at h; subst h; exact .str s
  | .tup ds, x, hp, h => by
    simp only [relF] at h
    simp only [D.pl] at hp
    obtain ⟨a, xs, rfl, h1, h2⟩ := h
    exact .tup h1 (dpFs ds xs hp h2)
  | .lst ds, x, hp, h => by
    simp only [relF] at h
    simp only [D.pl] at hp
    obtain ⟨a, xs, rfl, _, h1, h2⟩ := h
    exact .lst (.inl h1) (dpFs ds xs hp h2)
  | .dct _ _, _, hp, _ => by simp [D.pl] at hp
  | .ins _ _ _, _, hp, _ => by simp [D.pl] at hp
theorem dpFs : ∀ (ds : List D) (xs : List V), D.pls ds = true → relFs G F H ds xs → DpAll G.K H xs (D.pys ds)
  | [], xs, _, h => by simp only [relFs] at h; subst h; exact .nil
  | d :: ds, xs, hp, h => by
    simp only [relFs] at h
    simp only [D.pls, Bool.and_eq_true] at hp
    obtain ⟨x, r, rfl, h1, h2⟩ := h
    exact .cons (dpF d x hp.1 h1) (dpFs ds r hp.2 h2)
end
theorem dpR {d : D} {x : V} (hp : d.pl = true) (h : relR G F H d x) : Dp G.K H x d.py := by
  cases d with
  | lst ds =>
    obtain ⟨a, xs, rfl, h1, h2⟩ := rLst h
    exact .lst (.inl h1) (dpFs ds xs (by simpa [D.pl] using hp) h2)
  | dct _ _ => simp [D.pl] at hp
  | _ => exact dpF (F := F) _ _ hp h
mutual
theorem plain_py : ∀ d : D, d.pl = true → d.py.plain = true
  | .non, _ => rfl
  | .bl _, _ => rfl
  | .int _, _ => rfl
  | .str _, _ => rfl
  | .tup ds, h => by
    simp only [D.pl] at h
    simp only [D.py, PyData.plain]
    exact plain_pys ds h
  | .lst ds, h => by
    simp only [D.pl] at h
    simp only [D.py, PyData.plain]
    exact plain_pys ds h
  | .dct _ _, h => by simp [D.pl] at h
  | .ins _ _ _, h => by simp [D.pl] at h
theorem plain_pys : ∀ ds : List D, D.pls ds = true → PyData.plainAll (D.pys ds) = true
  | [], _ => rfl
  | d :: ds, h => by
    simp only [D.pls, Bool.and_eq_true] at h
    simp only [D.pys, PyData.plainAll, plain_py d h.1, plain_pys ds h.2, Bool.and_self]
end
mutual
theorem dep_py : ∀ d : D, d.pl = true → d.py.depth = d.dep
  | .non, _ => rfl
  | .bl _, _ => rfl
  | .int _, _ => rfl
  | .str _, _ => rfl
  | .tup ds, h => by
    simp only [D.pl] at h
    simp only [D.py, PyData.depth, D.dep, dep_pys ds h]
  | .lst ds, h => by
    simp only [D.pl] at h
    simp only [D.py, PyData.depth, D.dep, dep_pys ds h]
  | .dct _ _, h => by simp [D.pl] at h
  | .ins _ _ _, h => by simp [D.pl] at h
theorem dep_pys : ∀ ds : List D, D.pls ds = true → PyData.depthAll (D.pys ds) = D.deps ds
  | [], _ => rfl
  | d :: ds, h => by
    simp only [D.pls, Bool.and_eq_true] at h
    simp only [D.pys, PyData.depthAll, D.deps, dep_py d h.1, dep_pys ds h.2]
end
theorem pls_all : ∀ ds : List D, D.pls ds = ds.all (·.pl)
  | [] => rfl
  | d :: ds => by simp only [D.pls, List.all_cons, pls_all ds]
theorem pys_map : ∀ ds : List D, D.pys ds = ds.map D.py
  | [] => rfl
  | d :: ds => by simp only [D.pys, List.map_cons, pys_map ds]
end
section
variable {X : Cx} {G : Gp} {pins : List (Addr × Obj)} {σ : L2.St} {H : Hp} {s : Shared} {F : Addr → Prop}
/-- what stands there, as data -/
theorem reads_of (hK : X.K = G.K) (I : Inv X pins σ H s) {d : D} {x : V} {u : Value} (hp : d.pl = true) (h : relR G F H d x) (r : RelV x u) : ∃ as, Reads s.heap u d.py as :=
  Dp.reads I d.py x u (hK ▸ dpR hp h) r
theorem readsAll_of (hK : X.K = G.K) (I : Inv X pins σ H s) {ds : List D} {xs : List V} {us : List Value} (hp : D.pls ds = true) (h : relFs G F H ds xs) (r : Vals xs us) : ∃ as, ReadsAll s.heap us (D.pys ds) as :=
  Dp.readsAll I (D.pys ds) xs us (hK ▸ dpFs ds xs hp h) r
end
section
variable {X : Cx} {G : Gp} {Q : VK}
theorem opImp {f : Value → Value → Sem Value} {r r' : R2} (h : OpR X f r) (i : ∀ x y H Q, r' x y H Q → r x y H Q) : OpR X f r' := fun pins s σ H x y v u Q I r1 r2 q => h pins s σ H x y v u Q I r1 r2 (i _ _ _ _ q)
theorem callImp {f : Value} {r r' : List V → Hp → VK → Prop} (h : CallR X f r) (i : ∀ xs H Q, r' xs H Q → r xs H Q) : CallR X f r' := fun pins s σ H xs us Q I r1 q => h pins s σ H xs us Q I r1 (i _ _ _ q)
/-- an operation on two ints -/
theorem opII {f : Value → Value → Sem Value} {g : Int → Int → Option Int} {p : Op} (hp : ∀ a b, prim p [a, b] = pII g a b) {r : R2} (h : OpR X f r)
    (i : ∀ a b c H Q, g a b = some c → Q (.int c) H → r (.int a) (.int b) H Q) : OpR X f (fun x y => rP G p [x, y]) := by
  refine opImp h fun x y H Q q => ?_
  obtain ⟨F, ds, o, d, hr, e, k⟩ := q
  obtain ⟨a, b, rfl, h1, h2⟩ := rr2 hr
  rw [hp] at e
  unfold pII at e
  split at e
  · cases hg : g _ _ with
    | none => rw [hg] at e; cases e
    | some c =>
      rw [hg] at e
      cases e
      rw [rInt h1, rInt h2]
      exact i _ _ _ _ _ hg (k _ _ resI)
  · cases e
theorem pr_sub : OpR X (binaryOp .Sub) (fun x y => rP G .sub [x, y]) := opII (fun _ _ => rfl) op_sub fun a b c H Q e q => by cases e; exact ⟨a, b, rfl, rfl, q⟩
theorem pr_bor : OpR X (binaryOp .BitOr) (fun x y => rP G .bor [x, y]) := opII (fun _ _ => rfl) op_or fun a b c H Q e q => by cases e; exact ⟨a, b, rfl, rfl, q⟩
theorem pr_fdiv : OpR X (binaryOp .FloorDiv) (fun x y => rP G .fdiv [x, y]) := opII (fun _ _ => rfl) op_fdivW fun a b c H Q e q => by
  unfold pFdiv at e
  split at e
  · rename_i h
    simp only [Bool.and_eq_true, decide_eq_true_eq] at h
    cases e
    exact ⟨a, b, rfl, rfl, ⟨h.1, h.2⟩, q⟩
  · cases e
theorem pr_mod : OpR X (binaryOp .Mod) (fun x y => rP G .mod [x, y]) := opII (fun _ _ => rfl) op_mod fun a b c H Q e q => by
  unfold pMod at e
  split at e
  · rename_i h
    cases e
    exact ⟨a, b, rfl, rfl, h, q⟩
  · cases e
theorem pr_pow : OpR X (binaryOp .Pow) (fun x y => rP G .pow [x, y]) := opII (fun _ _ => rfl) op_pow fun a b c H Q e q => by
  unfold pPow at e
  split at e
  · rename_i h
    simp only [Bool.and_eq_true, decide_eq_true_eq] at h
    cases e
    exact ⟨a, b, rfl, rfl, ⟨h.1.1, h.1.2, h.2⟩, q⟩
  · cases e
theorem pr_shl : OpR X (binaryOp .LShift) (fun x y => rP G .shl [x, y]) := opII (fun _ _ => rfl) op_shl fun a b c H Q e q => by
  unfold pShl at e
  split at e
  · rename_i h
    simp only [Bool.and_eq_true, decide_eq_true_eq] at h
    cases e
    exact ⟨a, b, rfl, rfl, ⟨h.1.1, h.1.2, h.2⟩, q⟩
  · cases e
theorem pr_add (hK : X.K = G.K) : OpR X (binaryOp .Add) (fun x y => rP G .add [x, y]) := by
  intro pins s σ H x y v u Q I rx ry q
  obtain ⟨F, ds, o, d, hr, e, k⟩ := q
  obtain ⟨a, b, rfl, h1, h2⟩ := rr2 hr
  rw [show prim .add [a, b] = pAdd a b from rfl] at e
  unfold pAdd at e
  split at e
  · cases e
    exact op_add pins s σ H x y v u Q I rx ry ⟨_, _, rInt h1, rInt h2, k _ _ resI⟩
  · split at e
    · rename_i hl
      cases e
      exact op_add_str pins s σ H x y v u Q I rx ry ⟨_, _, rStr h1, rStr h2, hl, k _ _ resS⟩
    · cases e
  · split at e
    · rename_i as bs hl
      cases e
      obtain ⟨p1, xs, rfl, t1, f1⟩ := rTup h1
      obtain ⟨p2, ys, rfl, t2, f2⟩ := rTup h2
      have l1 := relFs_length f1
      have l2 := relFs_length f2
      refine op_catA pins s σ H _ _ v u Q I rx ry ⟨p1, p2, xs, ys, rfl, rfl, hK ▸ t1, hK ▸ t2, by rw [l1, l2]; exact hl, fun z => ?_, fun _ z => ?_, fun _ _ p hp => k _ _ (resT hp (relFs_append f1 f2))⟩
      · have e1 : as = [] := List.length_eq_zero_iff.mp (by rw [← l1, z]; rfl)
        subst e1
        exact k _ _ (res0 (by simp only [relF, List.nil_append]; exact ⟨p2, ys, rfl, t2, f2⟩))
      · have e1 : bs = [] := List.length_eq_zero_iff.mp (by rw [← l2, z]; rfl)
        subst e1
        exact k _ _ (res0 (by simp only [relF, List.append_nil]; exact ⟨p1, xs, rfl, t1, f1⟩))
    · cases e
  · split at e
    · rename_i as bs hl
      cases e
      obtain ⟨p1, xs, rfl, t1, f1⟩ := rLst h1
      obtain ⟨p2, ys, rfl, t2, f2⟩ := rLst h2
      have l1 := relFs_length f1
      have l2 := relFs_length f2
      cases rx
      cases ry
      obtain ⟨z1, its, n, r, eo⟩ := t1.ok I.hok
      obtain ⟨z2, its2, n2, r2, eo2⟩ := t2.ok I.hok
      have q1 := r.length
      have q2 := r2.length
      refine PySem.P.add_list eo eo2 ?_ (by rw [List.size_toArray, List.size_toArray]; omega)
      have ea : its.toArray ++ its2.toArray = (its ++ its2).toArray := by simp
      rw [ea]
      exact ⟨.ref _, _, I.lnew (t' := s.toks) (r.append r2) (by rw [List.length_append]; omega), rfl, k _ _ (resL I.fresh (relFs_append f1 f2))⟩
    · cases e
  · cases e
end
end PF
set_option Elab.async false
set_option linter.all false
set_option maxRecDepth 100000
set_option maxHeartbeats 1000000
namespace PF
open PySem PySem.Spec PyProof.Rows L2
theorem mulOk_ok {i j : Int} (h : mulOk i j = true) : IntMulOk i j := by
  unfold mulOk bits at h
  simp only [Bool.or_eq_true, decide_eq_true_eq] at h
  rcases h with (h | h) | h
  · exact .of_left h
  · exact .of_right h
  · have h2 : Builtin.Int.intTooBig (Builtin.Int.intBits i + Builtin.Int.intBits j) = false := by
      unfold Builtin.Int.intTooBig bitsLine
      exact decide_eq_false (by have e : (2 : Nat) ^ 26 = 67108864 := by decide
                                have e2 : (2 : Nat) ^ 27 = 134217728 := by decide
                                omega)
    unfold IntMulOk
    rw [h2]
    simp
theorem tuple_mul1 (l : Addr) (items : Array Value) (n : Nat) (dd : Option Addr) (sl : Array (Option Value)) (u : Tok) :
    Meets (Builtin.«tuple.__mul__» ⟨[.ref l, .int 1 u], []⟩) (fun _ R s => s.heap.get? l = some { cls := .type "tuple", dict := dd, data := .seq items n, slots := sl } ∧
      R (.ok (.ret (Value.ref l))) s) :=
  .of_wp fun prog w A R s h => by
    obtain ⟨hp, g, d, tk, os⟩ := s
    obtain ⟨hl, h⟩ := h
    have f1 := AutoSeq1.idx_int
    have c1 : (items.isEmpty || (1 : Int) == 1) = true := by simp
    wp_walk using wpAny_loadPart' hl
    repeat (first
      | (refine wpAny_ite_false (decide_eq_false (by decide)) ?_; wp_walk using wpAny_loadPart' hl)
      | (refine wpAny_ite_true (by rw [c1]) ?_; wp_walk using wpAny_loadPart' hl))
    exact ⟨_, rfl, h⟩
theorem foldl_repN {α : Type} (its : List α) : ∀ (m : Nat) (acc : List α), List.foldl (fun x1 x2 => x1 ++ x2) acc.toArray (List.replicate m its.toArray) = (acc ++ (List.replicate m its).flatten).toArray
  | 0, acc => by simp
  | m + 1, acc => by
    rw [List.replicate_succ, List.foldl_cons, List.replicate_succ, List.flatten_cons]
    have e : acc.toArray ++ its.toArray = (acc ++ its).toArray := by simp
    rw [e, foldl_repN its m (acc ++ its), List.append_assoc]
theorem size_rep' {α : Type} (its : List α) (m : Nat) : List.foldl (fun x1 x2 => x1 ++ x2) #[] (List.replicate m its.toArray) = (List.replicate m its).flatten.toArray := by
  have := foldl_repN its m []
  simpa using this
section
variable {X : Cx} {G : Gp}
theorem pr_mul (hK : X.K = G.K) : OpR X (binaryOp .Mult) (fun x y => rP G .mul [x, y]) := by
  intro pins s σ H x y v u Q I rx ry q
  obtain ⟨Fz, ds, o, d, hr, e, k⟩ := q
  obtain ⟨a, b, rfl, h1, h2⟩ := rr2 hr
  rw [show prim .mul [a, b] = pMul a b from rfl] at e
  unfold pMul at e
  split at e
  · split at e
    · rename_i hm
      cases e
      obtain rfl := rInt h1
      obtain rfl := rInt h2
      obtain ⟨t, rfl⟩ := rx
      obtain ⟨t', rfl⟩ := ry
      exact mul_int ⟨.int _, H, I.tok _, ⟨_, rfl⟩, k _ _ resI⟩ (mulOk_ok hm)
    · cases e
  · split at e
    · rename_i as j hj
      obtain ⟨rfl, hne⟩ := hj
      cases e
      obtain ⟨p1, xs, rfl, t1, f1⟩ := rTup h1
      obtain rfl := rInt h2
      cases rx
      obtain ⟨t, rfl⟩ := ry
      obtain ⟨its, r, ⟨⟨cls, dd, data, sl⟩, ho, hc, n, hd⟩, hs⟩ := I.tuple (hK ▸ t1)
      simp only at hc hd
      subst hc hd
      exact wpAny_binaryOp_repeat_ref (T := "tuple") (U := "int") (by decide) ⟨_, ho, rfl⟩ (fun s' => typeIs_int s' 1 t) noFill_tuple_mul F.fills_int_mul F.slot_int_rmul repeat_tuple F.slot_int_index.lookup
        (call_meets F.slot_int_rmul (typeIs_int s 1 t) F.entry_int_rmul (F.args_int_rmul_2 _ _) (int_rmul_tuple 1 t p1 its.toArray n dd sl)
          ⟨ho, rfl, ⟨_, ho, rfl⟩, call_meets F.slot_tuple_mul ⟨_, ho, rfl⟩ F.entry_tuple_mul (F.args_tuple_mul_2 _ _) (tuple_mul1 p1 its.toArray n dd sl t)
            ⟨ho, .ref p1, H, I, rfl, k _ _ (res0 (by simp only [relF]; exact ⟨p1, xs, rfl, t1, f1⟩))⟩⟩)
    · split at e
      · rename_i as j _ hj
        simp only [Bool.and_eq_true, decide_eq_true_eq] at hj
        cases e
        obtain ⟨p1, xs, rfl, t1, f1⟩ := rTup h1
        obtain rfl := rInt h2
        have l1 := relFs_length f1
        exact op_repT pins s σ H _ _ v u Q I rx ry ⟨p1, j, xs, rfl, rfl, hK ▸ t1, fun z => hj.1.2 (List.length_eq_zero_iff.mp (by rw [← l1, z]; rfl)), hj.1.1.1, hj.1.1.2, by rw [l1]; exact hj.2,
          fun p hp => k _ _ (resT hp (relFs_rep f1 _))⟩
      · cases e
  · split at e
    · rename_i z j hj
      simp only [Bool.and_eq_true, decide_eq_true_eq] at hj
      cases e
      obtain rfl := rStr h1
      obtain rfl := rInt h2
      obtain ⟨t, rfl⟩ := rx
      obtain ⟨t', rfl⟩ := ry
      have hlen : (List.replicate j.toNat z.cps.toList).flatten.length = j.toNat * z.length := by
        rw [List.length_flatten, List.map_replicate, List.sum_replicate_nat]; rfl
      refine PySem.P.mul_str ?_ ?_ ?_ ?_
      · rw [decide_eq_false (by omega), decide_eq_false (by omega)]; rfl
      · intro hn hc hz
        have hj1 : 1 < j := by
          have : j ≠ 1 := fun q => by rw [q] at hc; simp at hc
          omega
        have : (z.length : Int) * j ≤ 2 ^ 63 - 1 := by
          have e1 : ((z.length * j.toNat : Nat) : Int) = (z.length : Int) * j := by rw [Int.natCast_mul, Int.toNat_of_nonneg (by omega)]
          have e2 := hj.2
          rw [sizeLine_eq] at e2
          omega
        have := Int.le_ediv_of_mul_le (by omega) this
        omega
      · intro hn hc
        unfold Builtin.Str.tooLong
        exact decide_eq_false (by have := hj.2; omega)
      · by_cases hn : j < 1
        · rw [if_pos hn]
          have e0 : j.toNat = 0 := by omega
          rw [e0] at k
          exact ⟨by decide, .str _, H, I.tok _, ⟨_, rfl⟩, k _ _ resS⟩
        · rw [if_neg hn]
          split
          · rename_i hc
            have key : (⟨(List.replicate j.toNat z.cps.toList).flatten.toArray⟩ : Str) = z := by
              rw [Bool.or_eq_true] at hc
              rcases hc with hc | hc
              · rw [beq_iff_eq.mp hc]; cases z; simp
              · have hz : z.length = 0 := beq_iff_eq.mp hc
                have : z.cps.toList = [] := List.length_eq_zero_iff.mp hz
                rw [this]
                obtain ⟨c⟩ := z
                have : c = #[] := by simpa using this
                subst this
                simp
            rw [key] at k
            exact ⟨.str _, H, I, ⟨_, rfl⟩, k _ _ resS⟩
          · have key : ((List.replicate j.toNat z.cps).foldl (· ++ ·) #[]) = (List.replicate j.toNat z.cps.toList).flatten.toArray := by
              have := size_rep' z.cps.toList j.toNat
              simpa using this
            rw [key]
            exact ⟨by show (List.toArray _).size ≤ _; rw [List.size_toArray, hlen]; have := hj.2; rw [Nat.mul_comm]; exact this, .str _, H, I.tok _, ⟨_, rfl⟩, k _ _ resS⟩
    · cases e
  · cases e
end
section
variable {X : Cx} {G : Gp}
theorem py_ne_none {d : D} (hp : d.pl = true) (h : d ≠ .non) : d.py ≠ .none := by
  cases d <;> simp_all [D.py, D.pl]
theorem eqOk_iff {a b : D} (h : eqOk a b = true) : a.pl = true ∧ b.pl = true ∧ min a.dep b.dep ≤ 60 := by
  simpa [eqOk, Bool.and_eq_true, and_assoc] using h
theorem pr_eq (hK : X.K = G.K) (hu : X.A.units + 64 < cLine) (dct : OpR X (compareOp .Eq) (fun x y H Q => ∃ F a b, relR G F H a x ∧ relR G F H b y ∧ dEqOk a b = true ∧ Q (.bl (dEqB a b)) H)) : OpR X (compareOp .Eq) (fun x y => rP G .eq [x, y]) := by
  intro pins s σ H x y v u Q I rx ry q
  obtain ⟨Fz, ds, o, d, hr, e, k⟩ := q
  obtain ⟨a, b, rfl, h1, h2⟩ := rr2 hr
  rw [show prim .eq [a, b] = pEq false a b from rfl] at e
  unfold pEq at e
  split at e
  · rename_i h
    cases e
    obtain ⟨p1, p2, hd⟩ := eqOk_iff h
    obtain ⟨as, r1⟩ := reads_of hK I p1 h1 rx
    obtain ⟨bs, r2⟩ := reads_of hK I p2 h2 ry
    exact SeqAt.eq_plain r1 r2 (plain_py a p1) (plain_py b p2) (by rw [dep_py a p1, dep_py b p2]; omega) ⟨.bl _, H, I, rfl, k _ _ resB⟩
  · split at e
    · rename_i h
      cases e
      exact dct pins s σ H x y v u Q I rx ry ⟨Fz, a, b, h1, h2, h, k _ _ resB⟩
    · cases e
theorem pr_ne (hK : X.K = G.K) (hu : X.A.units + 64 < cLine) (dct : OpR X (compareOp .NotEq) (fun x y H Q => ∃ F a b, relR G F H a x ∧ relR G F H b y ∧ dEqOk a b = true ∧ Q (.bl (!dEqB a b)) H)) : OpR X (compareOp .NotEq) (fun x y => rP G .ne [x, y]) := by
  intro pins s σ H x y v u Q I rx ry q
  obtain ⟨Fz, ds, o, d, hr, e, k⟩ := q
  obtain ⟨a, b, rfl, h1, h2⟩ := rr2 hr
  rw [show prim .ne [a, b] = pEq true a b from rfl] at e
  unfold pEq at e
  split at e
  · rename_i h
    cases e
    obtain ⟨p1, p2, hd⟩ := eqOk_iff h
    obtain ⟨as, r1⟩ := reads_of hK I p1 h1 rx
    obtain ⟨bs, r2⟩ := reads_of hK I p2 h2 ry
    exact SeqAt.ne_plain r1 r2 (plain_py a p1) (plain_py b p2) (by rw [dep_py a p1, dep_py b p2]; omega) ⟨.bl _, H, I, rfl, k _ _ resB⟩
  · split at e
    · rename_i h
      cases e
      exact dct pins s σ H x y v u Q I rx ry ⟨Fz, a, b, h1, h2, h, k _ _ resB⟩
    · cases e
theorem ltOk_iff {a b : D} (h : ltOk a b = true) : W.alike a.py b.py = true ∧ a ≠ .non ∧ a.pl = true ∧ b.pl = true ∧ min a.dep b.dep ≤ 60 := by
  simpa [ltOk, D.alk, Bool.and_eq_true, and_assoc] using h
/-- <, >=, >, <= by one road -/
theorem pr_lt0 {op : CmpOp} {p : Op} {neg : Bool} {sw : Bool} (hp : ∀ a b, prim p [a, b] = if sw then pLt neg b a else pLt neg a b) (hK : X.K = G.K) (hu : X.A.units + 64 < cLine)
    (rule : ∀ (s : Shared) (a b : Value) (da db : PyData) (as bs : List Addr) (Q : Value → Shared → Prop), Reads s.heap a da as → Reads s.heap b db bs → W.alike da db = true → da ≠ .none → X.A.units + min da.depth db.depth < cLine →
      Q (.bool (if neg then !(if sw then W.dataLt db da else W.dataLt da db) else (if sw then W.dataLt db da else W.dataLt da db))) s → wpAny (model X.prog X.w) X.A (compareOp op a b) Q X.xe s) :
    OpR X (compareOp op) (fun x y => rP G p [x, y]) := by
  intro pins s σ H x y v u Q I rx ry q
  obtain ⟨Fz, ds, o, d, hr, e, k⟩ := q
  obtain ⟨a, b, rfl, h1, h2⟩ := rr2 hr
  rw [hp] at e
  have go : ∀ a' b' : D, W.alike a'.py b'.py = true → a' ≠ .non → a'.pl = true → b'.pl = true → W.alike b'.py a'.py = true ∧ b'.py ≠ .none := fun a' b' h1 h2 h3 h4 => by
    have z := W.ne_none_both h1 (py_ne_none h3 h2)
    exact ⟨by rw [W.alike_comm]; exact h1, z⟩
  cases sw with
  | false =>
    simp only [Bool.false_eq_true, if_false] at e rule
    unfold pLt at e
    split at e
    · rename_i h
      obtain ⟨p0, p1, p2, p3, hd⟩ := ltOk_iff h
      obtain ⟨as, r1⟩ := reads_of hK I p2 h1 rx
      obtain ⟨bs, r2⟩ := reads_of hK I p3 h2 ry
      cases e
      exact rule s v u _ _ _ _ _ r1 r2 p0 (py_ne_none p2 p1) (by rw [dep_py a p2, dep_py b p3]; omega) ⟨.bl _, H, I, rfl, k _ _ resB⟩
    · cases e
  | true =>
    simp only [if_true] at e rule
    unfold pLt at e
    split at e
    · rename_i h
      obtain ⟨p0, p1, p2, p3, hd⟩ := ltOk_iff h
      obtain ⟨as, r1⟩ := reads_of hK I p3 h1 rx
      obtain ⟨bs, r2⟩ := reads_of hK I p2 h2 ry
      obtain ⟨z1, z2⟩ := go _ _ p0 p1 p2 p3
      cases e
      exact rule s v u _ _ _ _ _ r1 r2 z1 z2 (by rw [dep_py a p3, dep_py b p2]; omega) ⟨.bl _, H, I, rfl, k _ _ resB⟩
    · cases e
theorem pr_lt (hK : X.K = G.K) (hu : X.A.units + 64 < cLine) : OpR X (compareOp .Lt) (fun x y => rP G .lt [x, y]) :=
  pr_lt0 (neg := false) (sw := false) (fun _ _ => rfl) hK hu fun s a b da db as bs Q r1 r2 h1 h2 h3 q => W.lt_data r1 r2 h1 h2 h3 q
theorem pr_ge (hK : X.K = G.K) (hu : X.A.units + 64 < cLine) : OpR X (compareOp .GtE) (fun x y => rP G .ge [x, y]) :=
  pr_lt0 (neg := true) (sw := false) (fun _ _ => rfl) hK hu fun s a b da db as bs Q r1 r2 h1 h2 h3 q => W.ge_data r1 r2 h1 h2 h3 q
theorem pr_gt (hK : X.K = G.K) (hu : X.A.units + 64 < cLine) : OpR X (compareOp .Gt) (fun x y => rP G .gt [x, y]) :=
  pr_lt0 (neg := false) (sw := true) (fun _ _ => rfl) hK hu fun s a b da db as bs Q r1 r2 h1 h2 h3 q => W.gt_data r1 r2 h1 h2 h3 q
theorem pr_le (hK : X.K = G.K) (hu : X.A.units + 64 < cLine) : OpR X (compareOp .LtE) (fun x y => rP G .le [x, y]) :=
  pr_lt0 (neg := true) (sw := true) (fun _ _ => rfl) hK hu fun s a b da db as bs Q r1 r2 h1 h2 h3 q => W.le_data r1 r2 h1 h2 h3 q
theorem relF_non {F : Addr → Prop} {H : Hp} {a : D} {x : V} (h : relR G F H a x) : decide (a = .non) = decide (x = .non) := by
  cases a with
  | non => rw [rNon h]; simp
  | bl b => rw [rBl h]; simp
  | int b => rw [rInt h]; simp
  | str b => rw [rStr h]; simp
  | tup ds => obtain ⟨p, xs, rfl, _⟩ := rTup h; simp
  | lst ds => obtain ⟨p, xs, rfl, _⟩ := rLst h; simp
  | dct ks vs => obtain ⟨p, kx, vx, rfl, _⟩ := (show ∃ a kx vx, x = V.ref a ∧ _ from h); simp
  | ins c ns vs => simp [relR, relF] at h
end
section
variable {X : Cx} {G : Gp}
theorem any_py (x : D) : ∀ ds : List D, (D.pys ds).any (fun y => PyData.eqv y x.py) = ds.any fun d => D.eq d x
  | [] => rfl
  | d :: ds => by simp only [D.pys, List.any_cons, any_py x ds]; rfl
theorem pyIn_some {x : D} {ds : List D} {b : Bool} (h : pyIn x ds = some b) : x.pl = true ∧ x.dep ≤ 60 ∧ D.pls ds = true ∧ b = ds.any fun d => D.eq d x := by
  unfold pyIn at h
  split at h
  · rename_i h1
    simp only [Bool.and_eq_true, decide_eq_true_eq] at h1
    cases h
    exact ⟨h1.1.1, h1.1.2, by rw [pls_all]; exact h1.2, rfl⟩
  · cases h
/-- in, not in; a dict apart -/
theorem pr_in0 {op : CmpOp} {p : Op} (neg : Bool) (hop : op = if neg then .NotIn else .In) (hp : ∀ a b, prim p [a, b] = pIn neg a b) (hK : X.K = G.K) (hu : X.A.units + 64 < cLine)
    (dct : OpR X (compareOp op) (fun x y H Q => ∃ F k ks vs, relR G F H k x ∧ relR G F H (.dct ks vs) y ∧ keyOk k ks = true ∧ Q (.bl (if neg then !dHas k ks else dHas k ks)) H)) :
    OpR X (compareOp op) (fun x y => rP G p [x, y]) := by
  intro pins s σ H x y v u Q I rx ry q
  obtain ⟨Fz, ds, o, d, hr, e, k⟩ := q
  obtain ⟨a, b, rfl, h1, h2⟩ := rr2 hr
  rw [hp] at e
  unfold pIn at e
  split at e
  · rename_i ds
    cases e1 : pyIn a ds with
    | none => rw [e1] at e; cases e
    | some w =>
      rw [e1] at e
      obtain ⟨z1, z2, z3, rfl⟩ := pyIn_some e1
      cases e
      obtain ⟨as, r1⟩ := reads_of hK I z1 h1 rx
      obtain ⟨bs, r2⟩ := reads_of hK I (d := .tup ds) (by simpa [D.pl] using z3) h2 ry
      have hd : X.A.units + 1 + min (PyData.depthAll (D.pys ds)) a.py.depth < cLine := by rw [dep_py a z1]; omega
      cases neg with
      | true =>
        rw [hop, if_pos rfl]
        refine SeqAt.notIn_tuple_data (xs := D.pys ds) r2 r1 (plain_pys ds z3) (plain_py a z1) hd ⟨.bl _, H, I, rfl, ?_⟩
        rw [any_py]; exact k _ _ resB
      | false =>
        rw [hop, if_neg Bool.false_ne_true]
        refine SeqAt.in_tuple_data (xs := D.pys ds) r2 r1 (plain_pys ds z3) (plain_py a z1) hd ⟨.bl _, H, I, rfl, ?_⟩
        rw [any_py]; exact k _ _ resB
  · rename_i ds
    cases e1 : pyIn a ds with
    | none => rw [e1] at e; cases e
    | some w =>
      rw [e1] at e
      obtain ⟨z1, z2, z3, rfl⟩ := pyIn_some e1
      cases e
      obtain ⟨as, r1⟩ := reads_of hK I z1 h1 rx
      obtain ⟨bs, r2⟩ := reads_of hK I (d := .lst ds) (by simpa [D.pl] using z3) h2 ry
      have hd : X.A.units + 1 + min (PyData.depthAll (D.pys ds)) a.py.depth < cLine := by rw [dep_py a z1]; omega
      cases neg with
      | true =>
        rw [hop, if_pos rfl]
        refine SeqAt.notIn_list_data (xs := D.pys ds) r2 r1 (plain_pys ds z3) (plain_py a z1) hd ⟨.bl _, H, I, rfl, ?_⟩
        rw [any_py]; exact k _ _ resB
      | false =>
        rw [hop, if_neg Bool.false_ne_true]
        refine SeqAt.in_list_data (xs := D.pys ds) r2 r1 (plain_pys ds z3) (plain_py a z1) hd ⟨.bl _, H, I, rfl, ?_⟩
        rw [any_py]; exact k _ _ resB
  · split at e
    · rename_i ks vs hk
      cases e
      exact dct pins s σ H x y v u Q I rx ry ⟨Fz, _, ks, vs, h1, h2, hk, k _ _ resB⟩
    · cases e
  · cases e
    cases neg with
    | true =>
      rw [hop, if_pos rfl]
      exact op_notin_str pins s σ H x y v u Q I rx ry ⟨_, _, rStr h1, rStr h2, k _ _ resB⟩
    | false =>
      rw [hop, if_neg Bool.false_ne_true]
      exact op_in_str pins s σ H x y v u Q I rx ry ⟨_, _, rStr h1, rStr h2, k _ _ resB⟩
  · cases e
end
section
variable {X : Cx} {G : Gp}
theorem relFs_atI {F : Addr → Prop} {H : Hp} {ds : List D} {xs : List V} {i : Int} {d : D} (h : relFs G F H ds xs) (e : atI ds i = some d) : ∃ x, atI xs i = some x ∧ relF G F H d x := by
  unfold atI at e ⊢
  rw [relFs_length h]
  cases q : ixN ds.length i with
  | none => rw [q] at e; cases e
  | some j =>
    rw [q] at e
    exact relFs_get h e
theorem pr_idx (hK : X.K = G.K)
    (dct : IxR X (fun x y H Q => ∃ F k ks vs w, relR G F H (.dct ks vs) x ∧ relR G F H k y ∧ keyOk k ks = true ∧ dGet k ks vs = some w ∧ ∀ z, relF G F H w z → Q z H)) : IxR X (fun x y => rP G .idx [x, y]) := by
  intro ve se pins s σ H x y v u Q I rx ry q hs
  obtain ⟨Fz, ds, o, d, hr, e, k⟩ := q
  obtain ⟨a, b, rfl, h1, h2⟩ := rr2 hr
  rw [show prim .idx [a, b] = pIdx a b from rfl] at e
  unfold pIdx at e
  split at e
  · rename_i ks vs
    split at e
    · rename_i hk
      cases e1 : dGet b ks vs with
      | none => rw [e1] at e; cases e
      | some w =>
        rw [e1] at e; cases e
        exact dct ve se pins s σ H x y v u Q I rx ry ⟨Fz, b, ks, vs, d, h1, h2, hk, e1, fun z rz => k _ _ (res0 rz)⟩ hs
    · cases e
  · cases e1 : idxD a b with
    | none => rw [e1] at e; cases e
    | some w =>
      rw [e1] at e; cases e
      unfold idxD at e1
      split at e1
      · obtain ⟨p, xs, rfl, t1, f1⟩ := rTup h1
        obtain rfl := rInt h2
        obtain ⟨z, ez, rz⟩ := relFs_atI f1 e1
        exact ix_tup ve se pins s σ H _ _ v u Q I rx ry ⟨p, xs, _, z, rfl, rfl, hK ▸ t1, ez, k _ _ (res0 rz)⟩ hs
      · obtain ⟨p, xs, rfl, t1, f1⟩ := rLst h1
        obtain rfl := rInt h2
        obtain ⟨z, ez, rz⟩ := relFs_atI f1 e1
        exact ix_list ve se pins s σ H _ _ v u Q I rx ry ⟨p, xs, _, z, rfl, rfl, .inl t1, ez, k _ _ (res0 rz)⟩ hs
      · rename_i z i _
        split at e1
        · rename_i hz
          cases e2 : atI z.cps.toList i with
          | none => rw [e2] at e1; cases e1
          | some c =>
            rw [e2] at e1; cases e1
            obtain rfl := rStr h1
            obtain rfl := rInt h2
            exact ix_str ve se pins s σ H _ _ v u Q I rx ry ⟨z, i, c, rfl, rfl, hz, e2, k _ _ resS⟩ hs
        · cases e1
      · cases e1
theorem relFs_cut {F : Addr → Prop} {H : Hp} {ds : List D} {xs : List V} (h : relFs G F H ds xs) (lo hi : Option Int) : relFs G F H (cutL ds lo hi) (cutV xs lo hi) := by
  unfold cutL cutV
  rw [relFs_length h]
  exact relFs_take _ (relFs_drop _ h)
/-- a[lo:hi] -/
theorem pr_cut (hK : X.K = G.K) : SlR X (fun x lo hi H Q => ∃ F a o d, relR G F H a x ∧ cutD a lo hi = some (o, d) ∧ ∀ v H', resOk G F H o d v H' → Q v H') := by
  intro pins s σ H x v vl vu lo hi sl Q I rx hs pl pu q
  obtain ⟨Fz, a, o, d, h1, e, k⟩ := q
  unfold cutD at e
  split at e
  · rename_i ds
    cases e
    obtain ⟨p, xs, rfl, t1, f1⟩ := rTup h1
    have l1 := relFs_length f1
    refine sl_tupA pins s σ H _ v vl vu lo hi sl Q I rx hs pl pu ⟨p, xs, rfl, hK ▸ t1, fun hw => ?_, fun _ q hq => k _ _ (resT hq (relFs_cut f1 lo hi))⟩
    have ew : cutL ds lo hi = ds := by
      unfold cutL
      rw [l1] at hw
      rw [hw.1, hw.2, List.drop_zero, Nat.sub_zero, List.take_length]
    rw [ew] at k
    exact k _ _ (res0 (by simp only [relF]; exact ⟨p, xs, rfl, t1, f1⟩))
  · rename_i ds
    cases e
    obtain ⟨p, xs, rfl, t1, f1⟩ := rLst h1
    exact sl_list pins s σ H _ v vl vu lo hi sl Q I rx hs pl pu ⟨p, xs, rfl, .inl t1, fun q hq => k _ _ (resL hq (relFs_cut f1 lo hi))⟩
  · split at e
    · rename_i z hz
      cases e
      exact sl_str pins s σ H x v vl vu lo hi sl Q I rx hs pl pu ⟨z, rStr h1, hz, k _ _ resS⟩
    · cases e
  · cases e
end
end PF
set_option Elab.async false
set_option linter.all false
set_option maxRecDepth 100000
set_option maxHeartbeats 1000000
namespace PF
open PySem PySem.Spec PyProof.Rows L2
section
variable {X : Cx} {G : Gp}
/-- a call of one argument, by what prim says -/
theorem call1 {f : Value} {p : Op} {g : D → Option (Bool × D)} (hp : ∀ a, prim p [a] = g a) {r : List V → Hp → VK → Prop} (h : CallR X f r)
    (i : ∀ F H a x o d Q, relR G F H a x → g a = some (o, d) → (∀ v H', resOk G F H o d v H' → Q v H') → r [x] H Q) : CallR X f (fun xs H Q => ∃ x, xs = [x] ∧ rP G p [x] H Q) :=
  callImp h fun xs H Q ⟨x, e1, Fz, ds, o, d, hr, e, k⟩ => by
    obtain ⟨a, rfl, h1⟩ := rr1 hr
    rw [hp] at e
    rw [e1]
    exact i Fz H a x o d Q h1 e k
theorem call2 {f : Value} {p : Op} {g : D → D → Option (Bool × D)} (hp : ∀ a b, prim p [a, b] = g a b) {r : List V → Hp → VK → Prop} (h : CallR X f r)
    (i : ∀ F H a b x y o d Q, relR G F H a x → relR G F H b y → g a b = some (o, d) → (∀ v H', resOk G F H o d v H' → Q v H') → r [x, y] H Q) : CallR X f (fun xs H Q => ∃ x y, xs = [x, y] ∧ rP G p [x, y] H Q) :=
  callImp h fun xs H Q ⟨x, y, e1, Fz, ds, o, d, hr, e, k⟩ => by
    obtain ⟨a, b, rfl, h1, h2⟩ := rr2 hr
    rw [hp] at e
    rw [e1]
    exact i Fz H a b x y o d Q h1 h2 e k
theorem pr_neg : UnR X (unaryOp .USub) (fun x H Q => rP G .neg [x] H Q) := fun pins s σ H x v Q I rx ⟨Fz, ds, o, d, hr, e, k⟩ => by
  obtain ⟨a, rfl, h1⟩ := rr1 hr
  rw [show prim .neg [a] = pNeg a from rfl] at e
  unfold pNeg at e
  split at e
  · cases e
    exact un_neg pins s σ H x v Q I rx ⟨_, rInt h1, k _ _ resI⟩
  · cases e
theorem pr_isN {y : V} : OpR X (compareOp .Is) (fun x y H Q => y = .non ∧ rP G .isN [x] H Q) := opImp op_isN fun x y H Q ⟨e0, Fz, ds, o, d, hr, e, k⟩ => by
  obtain ⟨a, rfl, h1⟩ := rr1 hr
  have e : ob (decide (a = .non)) = some (o, d) := e
  cases e
  refine ⟨e0, ?_⟩
  rw [relF_non h1] at k
  exact k _ _ resB
theorem pr_notN {y : V} : OpR X (compareOp .IsNot) (fun x y H Q => y = .non ∧ rP G .notN [x] H Q) := opImp op_notN fun x y H Q ⟨e0, Fz, ds, o, d, hr, e, k⟩ => by
  obtain ⟨a, rfl, h1⟩ := rr1 hr
  have e : ob (!decide (a = .non)) = some (o, d) := e
  cases e
  refine ⟨e0, ?_⟩
  rw [relF_non h1] at k
  exact k _ _ resB
theorem pr_len (hK : X.K = G.K) (dct : CallR X (.builtin "len") (fun xs H Q => ∃ x F ks vs, xs = [x] ∧ relR G F H (.dct ks vs) x ∧ Q (.int ks.length) H)) :
    CallR X (.builtin "len") (fun xs H Q => ∃ x, xs = [x] ∧ rP G .len [x] H Q) :=
  call1 (g := pLen) (fun _ => rfl) (call_len_seq.or (call_len_str.or dct)) fun Fz H a x o d Q h1 e k => by
    unfold pLen at e
    split at e
    · split at e
      · rename_i hz
        cases e
        exact .inr (.inl ⟨_, by rw [rStr h1], hz, k _ _ resI⟩)
      · cases e
    · cases e
      obtain ⟨p, xs, rfl, t1, f1⟩ := rTup h1
      exact .inl ⟨p, xs, rfl, .inr (hK ▸ t1), by rw [relFs_length f1]; exact k _ _ resI⟩
    · cases e
      obtain ⟨p, xs, rfl, t1, f1⟩ := rLst h1
      exact .inl ⟨p, xs, rfl, .inl (.inl t1), by rw [relFs_length f1]; exact k _ _ resI⟩
    · cases e
      exact .inr (.inr ⟨x, Fz, _, _, rfl, h1, k _ _ resI⟩)
    · cases e
theorem pr_int : CallR X (.type "int") (fun xs H Q => ∃ x, xs = [x] ∧ rP G .toInt [x] H Q) :=
  call1 (g := pInt) (fun _ => rfl) (call_int1.or call_int_str) fun Fz H a x o d Q h1 e k => by
    unfold pInt at e
    split at e
    · cases e
      exact .inl (.inl ⟨_, by rw [rInt h1], k _ _ resI⟩)
    · cases e
      exact .inl (.inr ⟨_, by rw [rBl h1], k _ _ resI⟩)
    · rename_i z
      split at e
      · rename_i hz
        cases e1 : PySem.intText? z with
        | none => rw [e1] at e; cases e
        | some n =>
          rw [e1] at e; cases e
          exact .inr ⟨z, n, by rw [rStr h1], e1, hz, k _ _ resI⟩
      · cases e
    · cases e
theorem pr_str : CallR X (.type "str") (fun xs H Q => ∃ x, xs = [x] ∧ rP G .toStr [x] H Q) :=
  call1 (g := pStr) (fun _ => rfl) call_str_int fun Fz H a x o d Q h1 e k => by
    unfold pStr at e
    split at e
    · split at e
      · rename_i hz
        cases e
        exact ⟨_, by rw [rInt h1], hz, k _ _ resS⟩
      · cases e
    · cases e
theorem pr_abs : CallR X (.builtin "abs") (fun xs H Q => ∃ x, xs = [x] ∧ rP G .abs [x] H Q) :=
  call1 (g := pAbs) (fun _ => rfl) call_abs fun Fz H a x o d Q h1 e k => by
    unfold pAbs at e
    split at e
    · cases e
      exact ⟨_, by rw [rInt h1], k _ _ resI⟩
    · cases e
theorem pII_inv {g : Int → Int → Option Int} {a b : D} {o : Bool} {d : D} (e : pII g a b = some (o, d)) : ∃ i j k, a = .int i ∧ b = .int j ∧ g i j = some k ∧ o = false ∧ d = .int k := by
  unfold pII at e
  split at e
  · rename_i i j
    cases hg : g i j with
    | none => rw [hg] at e; cases e
    | some c => rw [hg] at e; cases e; exact ⟨i, j, c, rfl, rfl, hg, rfl, rfl⟩
  · cases e
theorem pr_min2 (hc : X.calm = true) : CallR X (.builtin "min") (fun xs H Q => ∃ x y, xs = [x, y] ∧ rP G .min2 [x, y] H Q) :=
  call2 (fun _ _ => rfl) (call_min2 hc) fun Fz H a b x y o d Q h1 h2 e k => by
    obtain ⟨i, j, c, rfl, rfl, hg, rfl, rfl⟩ := pII_inv e
    cases hg
    exact ⟨i, j, by rw [rInt h1, rInt h2], k _ _ resI⟩
theorem pr_max2 (hc : X.calm = true) : CallR X (.builtin "max") (fun xs H Q => ∃ x y, xs = [x, y] ∧ rP G .max2 [x, y] H Q) :=
  call2 (fun _ _ => rfl) (call_max2 hc) fun Fz H a b x y o d Q h1 h2 e k => by
    obtain ⟨i, j, c, rfl, rfl, hg, rfl, rfl⟩ := pII_inv e
    cases hg
    exact ⟨i, j, by rw [rInt h1, rInt h2], k _ _ resI⟩
theorem ints_inv : ∀ {ds : List D} {ns : List Int}, ints? ds = some ns → ds = ns.map .int
  | [], ns, e => by cases e; rfl
  | .int i :: r, ns, e => by
    have e : (ints? r).map (i :: ·) = some ns := e
    cases e1 : ints? r with
    | none => rw [e1] at e; cases e
    | some ms => rw [e1] at e; cases e; rw [ints_inv e1]; rfl
  | .non :: _, _, e | .bl _ :: _, _, e | .str _ :: _, _, e | .tup _ :: _, _, e | .lst _ :: _, _, e | .dct _ _ :: _, _, e | .ins _ _ _ :: _, _, e => by cases e
theorem bls_inv : ∀ {ds : List D} {ns : List Bool}, bls? ds = some ns → ds = ns.map .bl
  | [], ns, e => by cases e; rfl
  | .bl i :: r, ns, e => by
    have e : (bls? r).map (i :: ·) = some ns := e
    cases e1 : bls? r with
    | none => rw [e1] at e; cases e
    | some ms => rw [e1] at e; cases e; rw [bls_inv e1]; rfl
  | .non :: _, _, e | .int _ :: _, _, e | .str _ :: _, _, e | .tup _ :: _, _, e | .lst _ :: _, _, e | .dct _ _ :: _, _, e | .ins _ _ _ :: _, _, e => by cases e
theorem strs_inv : ∀ {ds : List D} {ns : List Str}, strs? ds = some ns → ds = ns.map .str
  | [], ns, e => by cases e; rfl
  | .str i :: r, ns, e => by
    have e : (strs? r).map (i :: ·) = some ns := e
    cases e1 : strs? r with
    | none => rw [e1] at e; cases e
    | some ms => rw [e1] at e; cases e; rw [strs_inv e1]; rfl
  | .non :: _, _, e | .int _ :: _, _, e | .bl _ :: _, _, e | .tup _ :: _, _, e | .lst _ :: _, _, e | .dct _ _ :: _, _, e | .ins _ _ _ :: _, _, e => by cases e
theorem relFs_ints {F : Addr → Prop} {H : Hp} : ∀ {ns : List Int} {xs : List V}, relFs G F H (ns.map .int) xs → xs = ns.map V.int
  | [], xs, h => by simpa only [List.map_nil, relFs] using h
  | n :: ns, xs, h => by
    simp only [List.map_cons, relFs] at h
    obtain ⟨x, r, rfl, h1, h2⟩ := h
    simp only [relF] at h1
    rw [h1, relFs_ints h2]; rfl
theorem relFs_bls {F : Addr → Prop} {H : Hp} : ∀ {ns : List Bool} {xs : List V}, relFs G F H (ns.map .bl) xs → xs = ns.map V.bl
  | [], xs, h => by simpa only [List.map_nil, relFs] using h
  | n :: ns, xs, h => by
    simp only [List.map_cons, relFs] at h
    obtain ⟨x, r, rfl, h1, h2⟩ := h
    simp only [relF] at h1
    rw [h1, relFs_bls h2]; rfl
theorem relFs_strs {F : Addr → Prop} {H : Hp} : ∀ {ns : List Str} {xs : List V}, relFs G F H (ns.map .str) xs → xs = ns.map V.str
  | [], xs, h => by simpa only [List.map_nil, relFs] using h
  | n :: ns, xs, h => by
    simp only [List.map_cons, relFs] at h
    obtain ⟨x, r, rfl, h1, h2⟩ := h
    simp only [relF] at h1
    rw [h1, relFs_strs h2]; rfl
theorem lst_inv {a : D} {ds : List D} (e : lst? a = some ds) : a = .lst ds := by
  cases a <;> cases e
  rfl
theorem pr_sum (hc : X.calm = true) : CallR X (.builtin "sum") (fun xs H Q => ∃ x, xs = [x] ∧ rP G .sum [x] H Q) :=
  call1 (g := pSum) (fun _ => rfl) (cr_sum hc) fun Fz H a x o d Q h1 e k => by
    unfold pSum at e
    cases e1 : lst? a with
    | none => rw [e1] at e; cases e
    | some ds =>
      rw [e1] at e
      obtain rfl := lst_inv e1
      cases e2 : ints? ds with
      | none => rw [Option.bind_some, e2] at e; cases e
      | some ns =>
        rw [Option.bind_some, e2] at e
        cases e
        obtain rfl := ints_inv e2
        obtain ⟨p, xs, rfl, t1, f1⟩ := rLst h1
        rw [relFs_ints f1] at t1
        exact ⟨p, ns, rfl, .inl t1, k _ _ resI⟩
theorem pr_all (hc : X.calm = true) : CallR X (.builtin "all") (fun xs H Q => ∃ x, xs = [x] ∧ rP G .all [x] H Q) :=
  call1 (g := pAll (·.all id)) (fun _ => rfl) (cr_all hc) fun Fz H a x o d Q h1 e k => by
    unfold pAll at e
    cases e1 : lst? a with
    | none => rw [e1] at e; cases e
    | some ds =>
      rw [e1] at e
      obtain rfl := lst_inv e1
      cases e2 : bls? ds with
      | none => rw [Option.bind_some, e2] at e; cases e
      | some ns =>
        rw [Option.bind_some, e2] at e
        cases e
        obtain rfl := bls_inv e2
        obtain ⟨p, xs, rfl, t1, f1⟩ := rLst h1
        rw [relFs_bls f1] at t1
        exact ⟨p, ns, rfl, .inl t1, k _ _ resB⟩
theorem pr_any (hc : X.calm = true) : CallR X (.builtin "any") (fun xs H Q => ∃ x, xs = [x] ∧ rP G .any [x] H Q) :=
  call1 (g := pAll (·.any id)) (fun _ => rfl) (cr_any hc) fun Fz H a x o d Q h1 e k => by
    unfold pAll at e
    cases e1 : lst? a with
    | none => rw [e1] at e; cases e
    | some ds =>
      rw [e1] at e
      obtain rfl := lst_inv e1
      cases e2 : bls? ds with
      | none => rw [Option.bind_some, e2] at e; cases e
      | some ns =>
        rw [Option.bind_some, e2] at e
        cases e
        obtain rfl := bls_inv e2
        obtain ⟨p, xs, rfl, t1, f1⟩ := rLst h1
        rw [relFs_bls f1] at t1
        exact ⟨p, ns, rfl, .inl t1, k _ _ resB⟩
theorem seq_inv {a : D} {ds : List D} (e : seq? a = some ds) : a = .tup ds ∨ a = .lst ds := by
  cases a <;> cases e
  · exact .inl rfl
  · exact .inr rfl
theorem pr_tuple (hK : X.K = G.K) : CallR X (.type "tuple") (fun xs H Q => ∃ x, xs = [x] ∧ rP G .tuple [x] H Q) :=
  call1 (g := pTuple) (fun _ => rfl) call_tuple_of fun Fz H a x o d Q h1 e k => by
    unfold pTuple at e
    cases e1 : seq? a with
    | none => rw [e1] at e; cases e
    | some ds =>
      rw [e1] at e
      cases e
      rcases seq_inv e1 with rfl | rfl
      · obtain ⟨p, xs, rfl, t1, f1⟩ := rTup h1
        exact ⟨p, xs, rfl, .inr ⟨hK ▸ t1, k _ _ (res0 (by simp only [relF]; exact ⟨p, xs, rfl, t1, f1⟩))⟩⟩
      · obtain ⟨p, xs, rfl, t1, f1⟩ := rLst h1
        exact ⟨p, xs, rfl, .inl ⟨.inl t1, fun l hl => k _ _ (resT hl f1)⟩⟩
theorem its_inv {a : D} {ds : List D} (e : its? a = some ds) : a = .tup ds ∨ a = .lst ds := by
  cases a <;> cases e
  · exact .inl rfl
  · exact .inr rfl
theorem pr_list (hK : X.K = G.K) :
    CallR X (.type "list") (fun xs H Q => ∃ x, xs = [x] ∧ rP G .list [x] H Q) :=
  call1 (g := pList) (fun _ => rfl) call_list_of fun Fz H a x o d Q h1 e k => by
    unfold pList at e
    cases e1 : its? a with
    | none => rw [e1] at e; cases e
    | some ds =>
      rw [e1, Option.bind_some] at e
      split at e
      · rename_i hz
        cases e
        rcases its_inv e1 with rfl | rfl
        · obtain ⟨p, xs, rfl, t1, f1⟩ := rTup h1
          exact ⟨p, xs, rfl, .inr (hK ▸ t1), fun l hl => k _ _ (resL hl f1)⟩
        · obtain ⟨p, xs, rfl, t1, f1⟩ := rLst h1
          exact ⟨p, xs, rfl, .inl (.inl t1), fun l hl => k _ _ (resL hl f1)⟩
      · cases e
def tyNm : Ty → String
  | .tInt => "int" | .tStr => "str" | .tBool => "bool" | .tTuple => "tuple" | .tList => "list"
def dNm : D → String
  | .non => "NoneType" | .bl _ => "bool" | .int _ => "int" | .str _ => "str" | .tup _ => "tuple" | .lst _ => "list" | _ => ""
theorem tyX_of {F : Addr → Prop} {H : Hp} {a : D} {x : V} (hf : flatTy a = true) (h : relR G F H a x) : TyX G.K H x (.type (dNm a)) := by
  cases a with
  | non => rw [rNon h]; exact .base .non
  | bl b => rw [rBl h]; exact .base (.bl b)
  | int b => rw [rInt h]; exact .base (.int b)
  | str b => rw [rStr h]; exact .base (.str b)
  | tup ds =>
    obtain ⟨p, xs, rfl, t1, _⟩ := rTup h
    rcases t1 with (t | ⟨o, t⟩) | ⟨o, its, n, t, c, _⟩
    · exact .base (.tup t)
    · exact .fTuple t
    · exact .kTuple t c
  | lst ds =>
    obtain ⟨p, xs, rfl, t1, _⟩ := rLst h
    rcases t1 with t | ⟨o, t⟩
    · exact .base (.lst t)
    · exact .base (.frz t)
  | dct _ _ => cases hf
  | ins _ _ _ => cases hf
theorem kit_is {K : PySem.W.Frag} {a : D} {t : Ty} (hf : flatTy a = true) : PySem.W.kitOne K (.type (dNm a)) (.type (tyNm t)) = some (isTy a t) := by
  cases a <;> first | cases hf | skip
  all_goals (cases t <;> simp only [dNm, tyNm, isTy] <;> exact kit_ty (by decide +kernel))
theorem kit_isAny {K : PySem.W.Frag} {a : D} (hf : flatTy a = true) : ∀ ts : List Ty, PySem.W.kitAny K (.type (dNm a)) (ts.map fun t => Value.type (tyNm t)) = some (ts.any (isTy a))
  | [] => rfl
  | t :: ts => by
    rw [List.map_cons, List.any_cons]
    refine kitAny_cons (kit_is hf) (fun e => by rw [e, Bool.false_or]; exact kit_isAny hf ts) fun e => by rw [e, Bool.true_or]
theorem clsV_all : ∀ ts : List Ty, Paired ClsV (ts.map fun t => V.ty (tyNm t)) (ts.map fun t => Value.type (tyNm t))
  | [] => .nil
  | t :: ts => .cons (.ty _) (clsV_all ts)
theorem pr_isi (hK : X.K = G.K) (t : Ty) : CallR X (.builtin "isinstance") (fun xs H Q => ∃ x, xs = [x, .ty (tyNm t)] ∧ rP G (.isinst [t]) [x] H Q) :=
  callImp call_isi fun xs H Q ⟨x, e0, Fz, ds, o, d, hr, e, k⟩ => by
    obtain ⟨a, rfl, h1⟩ := rr1 hr
    rw [show prim (.isinst [t]) [a] = pIsi [t] a from rfl] at e
    unfold pIsi at e
    split at e
    · rename_i hf
      cases e
      exact ⟨x, _, _, _, _, e0, .ty _, hK ▸ tyX_of hf h1, kit_is hf, by
        have : [t].any (isTy a) = isTy a t := by simp
        rw [this] at k
        exact k _ _ resB⟩
    · cases e
theorem pr_isiT (hK : X.K = G.K) (ts : List Ty) : CallR X (.builtin "isinstance") (fun xs H Q => ∃ x tp, xs = [x, .ref tp] ∧ H tp = some (.tup (ts.map fun t => V.ty (tyNm t))) ∧ rP G (.isinst ts) [x] H Q) :=
  callImp call_isiT fun xs H Q ⟨x, tp, e0, hT, Fz, ds, o, d, hr, e, k⟩ => by
    obtain ⟨a, rfl, h1⟩ := rr1 hr
    rw [show prim (.isinst ts) [a] = pIsi ts a from rfl] at e
    unfold pIsi at e
    split at e
    · rename_i hf
      cases e
      exact ⟨x, tp, _, _, _, _, e0, hT, clsV_all ts, hK ▸ tyX_of hf h1, kit_isAny hf ts, k _ _ resB⟩
    · cases e
theorem pr_join : MtR X "str.join" (fun x xs H Q => ∃ y, xs = [y] ∧ rP G .join [x, y] H Q) := fun pins s σ H x xs v us Q I rx rs ⟨y, e0, Fz, ds, o, d, hr, e, k⟩ => by
  subst e0
  obtain ⟨a, b, rfl, h1, h2⟩ := rr2 hr
  rw [show prim .join [a, b] = pJoin a b from rfl] at e
  unfold pJoin at e
  split at e
  · rename_i z ds
    cases e1 : strs? ds with
    | none => rw [e1] at e; cases e
    | some ys =>
      rw [e1, Option.bind_some] at e
      split at e
      · rename_i hz
        cases e
        obtain rfl := strs_inv e1
        obtain ⟨p, xs, rfl, t1, f1⟩ := rLst h2
        rw [relFs_strs f1] at t1
        exact mt_join pins s σ H x _ v us Q I rx rs ⟨z, p, ys, rStr h1, rfl, .inl (.inl t1), hz, k _ _ resS⟩
      · cases e
  · cases e
theorem idxOf_some {x : D} : ∀ {ds : List D} {n : Nat}, idxOf x ds = some n → n < ds.length ∧ (∀ d, ds[n]? = some d → D.eq d x = true) ∧ ∀ m d, m < n → ds[m]? = some d → D.eq d x = false
  | [], _, e => by cases e
  | d :: ds, n, e => by
    unfold idxOf at e
    split at e
    · rename_i h
      cases e
      exact ⟨by simp, fun y hy => by simp at hy; subst hy; exact h, fun m _ hm => by omega⟩
    · rename_i h
      cases e1 : idxOf x ds with
      | none => rw [e1] at e; cases e
      | some k =>
        rw [e1] at e; cases e
        obtain ⟨h1, h2, h3⟩ := idxOf_some e1
        refine ⟨by simp only [List.length_cons]; omega, fun y hy => h2 y (by simpa using hy), fun m y hm hy => ?_⟩
        cases m with
        | zero => simp at hy; subst hy; simpa using h
        | succ m => exact h3 m y (Nat.lt_of_succ_lt_succ hm) (by simpa using hy)
theorem pys_get {ds : List D} {i : Nat} : (D.pys ds)[i]? = (ds[i]?).map D.py := by rw [pys_map, List.getElem?_map]
/-- what == answers, place by place -/
theorem eqs_at {s : Shared} {ds : List D} {us : List Value} {x : D} {u : Value} {as bs : List Addr} (hu : X.A.units + 64 < cLine) (hp : D.pls ds = true) (hx : x.pl = true) (hd : x.dep ≤ 60)
    (r1 : ReadsAll s.heap us (D.pys ds) as) (r2 : Reads s.heap u x.py bs) (j : Nat) (hj : j < us.toArray.size) : SeqAt.EqAt X.A.in1 s us.toArray[j] u (match ds[j]? with | some d => D.eq d x | none => false) := by
  have hl := W.readsAll_len (vs := us.toArray) (by simpa using r1)
  have hl2 : us.length = ds.length := by
    have : (D.pys ds).length = ds.length := by rw [pys_map, List.length_map]
    simpa [this] using hl
  have hj' : j < us.length := by simpa using hj
  obtain ⟨cs, q1, q2, q3, q4⟩ := W.readsAll_at r1 j us[j] (List.getElem?_eq_getElem hj')
  have hjd : j < ds.length := by omega
  have e1 : (D.pys ds).getD j .none = (ds[j]).py := by
    rw [List.getD_eq_getElem?_getD, pys_get, List.getElem?_eq_getElem hjd]; rfl
  rw [e1] at q1
  have hpj : (ds[j]).pl = true := by
    rw [pls_all] at hp
    exact List.all_eq_true.mp hp _ (List.getElem_mem hjd)
  rw [List.getElem?_eq_getElem hjd]
  have := SeqAt.eqAt_plain (ds[j]).py x.py X.A.in1 s us[j] u cs bs q1 r2 (plain_py _ hpj) (plain_py x hx) (by
    rw [dep_py x hx]
    show X.A.units + 1 + _ < _
    omega)
  exact this
theorem pr_indexL (hK : X.K = G.K) (hu : X.A.units + 64 < cLine) : MtR X "list.index" (fun x xs H Q => ∃ y F ds o d, xs = [y] ∧ relRs G F H [.lst ds, o] [x, y] ∧ pIndex (.lst ds) o = some (false, d) ∧ Q (match d with | .int i => .int i | _ => .non) H) := fun pins s σ H x xs v us Q I rx rs ⟨y, Fz, ds, b, d, e0, hr, e, k⟩ => by
  subst e0
  obtain ⟨a', b', e9, h1, h2⟩ := rr2 hr
  simp only [List.cons.injEq, and_true] at e9
  obtain ⟨rfl, rfl⟩ := e9
  unfold pIndex at e
  rw [show seq? (D.lst ds) = some ds from rfl, Option.bind_some] at e
  split at e
  · rename_i h
    simp only [Bool.and_eq_true, decide_eq_true_eq] at h
    cases e1 : idxOf b ds with
    | none => rw [e1] at e; cases e
    | some n =>
      rw [e1] at e; cases e
      obtain ⟨g1, g2, g3⟩ := idxOf_some e1
      have hpl : D.pls ds = true := by rw [pls_all]; exact h.2
      obtain ⟨p, ys, rfl, t1, f1⟩ := rLst h1
      obtain ⟨u, rfl, ry⟩ := vals1 rs
      cases rx
      obtain ⟨its, rv, ⟨o, m, ho, hc, _, hd⟩, hz⟩ := I.list (.inl t1)
      obtain ⟨as, q1⟩ := readsAll_of hK I hpl f1 rv
      obtain ⟨bs, q2⟩ := reads_of hK I h.1.1 h2 ry
      have l1 := relFs_length f1
      have l2 := rv.length
      obtain ⟨cls, dd, data, sl⟩ := o
      simp only at hc hd
      subst hc hd
      rw [sizeLine_eq] at hz
      refine call_meets F.slot_list_index ⟨_, ho, rfl⟩ F.entry_list_index (F.args_list_index_2 _ _)
        (SeqAt.list_index2_found p its.toArray m dd sl u (fun j => match ds[j]? with | some d => D.eq d b | none => false) n (by simp; omega) (Nat.zero_le _) (by omega) ?_ ?_) ⟨ho, fun j hj' => eqs_at hu hpl h.1.1 h.1.2 q1 q2 j hj', .int n, H, I.tok _, ⟨_, rfl⟩, k⟩
      · rw [List.getElem?_eq_getElem g1]; exact g2 _ (List.getElem?_eq_getElem g1)
      · intro m' hm _ hlt
        rw [List.getElem?_eq_getElem (by omega : m' < ds.length)]
        exact g3 m' _ hlt (List.getElem?_eq_getElem (by omega))
  · cases e
theorem countP_py (x : D) : ∀ ds : List D, (D.pys ds).countP (fun y => PyData.eqv y x.py) = ds.countP fun d => D.eq d x
  | [] => rfl
  | d :: ds => by simp only [D.pys, List.countP_cons, countP_py x ds]; rfl
theorem pr_countL (hK : X.K = G.K) (hu : X.A.units + 64 < cLine) : MtR X "list.count" (fun x xs H Q => ∃ y F ds o, xs = [y] ∧ relRs G F H [.lst ds, o] [x, y] ∧ (o.pl && decide (o.dep ≤ 60) && ds.all (·.pl)) = true ∧ Q (.int (ds.countP fun d => D.eq d o : Nat)) H) := fun pins s σ H x xs v us Q I rx rs ⟨y, Fz, ds, b, e0, hr, h, k⟩ => by
  subst e0
  obtain ⟨a', b', e9, h1, h2⟩ := rr2 hr
  simp only [List.cons.injEq, and_true] at e9
  obtain ⟨rfl, rfl⟩ := e9
  simp only [Bool.and_eq_true, decide_eq_true_eq] at h
  have hpl : D.pls ds = true := by rw [pls_all]; exact h.2
  obtain ⟨p, ys, rfl, t1, f1⟩ := rLst h1
  obtain ⟨u, rfl, ry⟩ := vals1 rs
  cases rx
  obtain ⟨its, rv, pl, hz⟩ := I.list (.inl t1)
  obtain ⟨as, q1⟩ := readsAll_of hK I hpl f1 rv
  obtain ⟨bs, q2⟩ := reads_of hK I h.1.1 h2 ry
  refine SeqAt.count_list_data (vs := its.toArray) pl.isList (by simpa using q1) q2 (plain_pys ds hpl) (plain_py _ h.1.1) (by rw [dep_py _ h.1.1]; omega) ⟨.int _, H, I.tok _, ⟨_, rfl⟩, ?_⟩
  rw [countP_py]; exact k
end
end PF
set_option Elab.async false
set_option linter.all false
set_option maxRecDepth 100000
set_option maxHeartbeats 1000000
namespace PF
open PySem PySem.Spec PyProof.Rows L2
mutual
theorem keyIn_pl : ∀ d : D, keyIn d = true → d.pl = true
  | .non, _ => rfl
  | .int _, _ => rfl
  | .str _, _ => rfl
  | .tup ds, h => by
    simp only [keyIn] at h
    simp only [D.pl]
    exact keyIns_pls ds h
  | .bl _, h => by cases h
  | .lst _, h => by cases h
  | .dct _ _, h => by cases h
  | .ins _ _ _, h => by cases h
theorem keyIns_pls : ∀ ds : List D, keyIns ds = true → D.pls ds = true
  | [], _ => rfl
  | d :: ds, h => by
    simp only [keyIns, Bool.and_eq_true] at h
    simp only [D.pls, Bool.and_eq_true]
    exact ⟨keyIn_pl d h.1, keyIns_pls ds h.2⟩
end
mutual
theorem nest_of {h : Heap} : ∀ (d : D) (u : Value) (as : List Addr), keyIn d = true → Reads h u d.py as → NestedIs h (nk d) u ∧ as = []
  | .non, u, as, _, r => by
    simp only [D.py] at r
    cases r
    exact ⟨.none, rfl⟩
  | .int i, u, as, _, r => by
    simp only [D.py] at r
    cases r
    exact ⟨.int _ _, rfl⟩
  | .str x, u, as, _, r => by
    simp only [D.py] at r
    cases r
    exact ⟨.text _ _, rfl⟩
  | .tup ds, u, as, hk, r => by
    simp only [keyIn] at hk
    simp only [D.py] at r
    cases r with
    | tuple g c e q =>
      obtain ⟨q1, q2⟩ := nests_of ds _ _ hk q
      simp only [nk]
      exact ⟨.tup g c e q1, q2⟩
  | .bl _, _, _, h, _ => by cases h
  | .lst _, _, _, h, _ => by cases h
  | .dct _ _, _, _, h, _ => by cases h
  | .ins _ _ _, _, _, h, _ => by cases h
theorem nests_of {h : Heap} : ∀ (ds : List D) (us : List Value) (as : List Addr), keyIns ds = true → ReadsAll h us (D.pys ds) as → NestedAll h (nks ds) us ∧ as = []
  | [], us, as, _, r => by
    simp only [D.pys] at r
    cases r
    refine ⟨?_, rfl⟩
    simp only [nks]
    exact .nil
  | d :: ds, us, as, hk, r => by
    simp only [keyIns, Bool.and_eq_true] at hk
    simp only [D.pys] at r
    cases r with
    | cons r1 r2 =>
      obtain ⟨a1, a2⟩ := nest_of d _ _ hk.1 r1
      obtain ⟨b1, b2⟩ := nests_of ds _ _ hk.2 r2
      simp only [nks]
      exact ⟨.cons a1 b1, by rw [a2, b2]; rfl⟩
end
mutual
theorem nk_depth : ∀ d : D, keyIn d = true → (nk d).depth ≤ d.dep
  | .non, _ => Nat.zero_le _
  | .int _, _ => Nat.zero_le _
  | .str _, _ => Nat.zero_le _
  | .tup ds, h => by
    simp only [keyIn] at h
    simp only [nk, NestedKey.depth, D.dep]
    exact Nat.succ_le_succ (nks_depth ds h)
  | .bl _, h => by cases h
  | .lst _, h => by cases h
  | .dct _ _, h => by cases h
  | .ins _ _ _, h => by cases h
theorem nks_depth : ∀ ds : List D, keyIns ds = true → NestedKey.depthAll (nks ds) ≤ D.deps ds
  | [], _ => Nat.zero_le _
  | d :: ds, h => by
    simp only [keyIns, Bool.and_eq_true] at h
    simp only [nks, NestedKey.depthAll, D.deps]
    have a := nk_depth d h.1
    have b := nks_depth ds h.2
    omega
end
mutual
theorem nk_inj : ∀ a b : D, keyIn a = true → keyIn b = true → nk a = nk b → a = b
  | .non, b, _, hb, e => by
    cases b <;> first | rfl | (cases hb; done) | (simp only [nk] at e; cases e)
  | .int i, b, _, hb, e => by
    cases b <;> first | (cases hb; done) | (simp only [nk] at e; cases e; rfl) | (simp only [nk] at e; cases e)
  | .str x, b, _, hb, e => by
    cases b <;> first | (cases hb; done) | (simp only [nk] at e; cases e; rfl) | (simp only [nk] at e; cases e)
  | .tup ds, b, ha, hb, e => by
    cases b with
    | tup es =>
      simp only [keyIn] at ha hb
      simp only [nk] at e
      injection e with e
      rw [nks_inj ds es ha hb e]
    | _ => first | (cases hb; done) | (simp only [nk] at e; cases e)
  | .bl _, _, h, _, _ => by cases h
  | .lst _, _, h, _, _ => by cases h
  | .dct _ _, _, h, _, _ => by cases h
  | .ins _ _ _, _, h, _, _ => by cases h
theorem nks_inj : ∀ as bs : List D, keyIns as = true → keyIns bs = true → nks as = nks bs → as = bs
  | [], bs, _, _, e => by
    cases bs with
    | nil => rfl
    | cons b bs => simp only [nks] at e; cases e
  | a :: as, bs, ha, hb, e => by
    cases bs with
    | nil => simp only [nks] at e; cases e
    | cons b bs =>
      simp only [keyIns, Bool.and_eq_true] at ha hb
      simp only [nks] at e
      injection e with e1 e2
      rw [nk_inj a b ha.1 hb.1 e1, nks_inj as bs ha.2 hb.2 e2]
end
theorem keyTup_in {k : D} (h : keyTup k = true) : keyIn k = true ∧ k.dep ≤ 7 := by
  cases k with
  | tup ds =>
    simp only [keyTup, Bool.and_eq_true, decide_eq_true_eq] at h
    exact ⟨by simp only [keyIn]; exact h.1, by simp only [D.dep]; omega⟩
  | _ => cases h
theorem keyLeaf_in {k : D} (h : keyLeaf k = true) : keyIn k = true ∧ k.dep = 0 := by
  cases k <;> first | (exact ⟨rfl, rfl⟩) | (cases h; done)
theorem keyTup_inj {a b : D} (ha : keyTup a = true) (hb : keyTup b = true) (e : nk a = nk b) : a = b := nk_inj a b (keyTup_in ha).1 (keyTup_in hb).1 e
theorem all_mix {ks : List D} (h : ks.all keyLeaf = true) (h2 : ks.all keyTup = true) : ks = [] := by
  cases ks with
  | nil => rfl
  | cons k ks =>
    simp only [List.all_cons, Bool.and_eq_true] at h h2
    obtain ⟨h, _⟩ := h
    obtain ⟨h2, _⟩ := h2
    cases k <;> first | (cases h; done) | (cases h2; done)
theorem keyOk_cases {k : D} {ks : List D} (h : keyOk k ks = true) : (keyLeaf k = true ∧ ks.all keyLeaf = true) ∨ (keyTup k = true ∧ ks.all keyTup = true) := by
  unfold keyOk dnOn at h
  rcases Bool.or_eq_true _ _ |>.mp h with h | h
  · rw [Bool.and_eq_true] at h; exact .inl h
  · rw [Bool.true_and, Bool.and_eq_true] at h; exact .inr h
theorem nks_map : ∀ ks : List D, nks ks = ks.map nk
  | [] => by simp only [nks, List.map_nil]
  | k :: ks => by simp only [nks, List.map_cons, nks_map ks]
section
variable {K : Type} [DecidableEq K]
theorem atKey_cons (x : K × Addr × Value) (xs : List (K × Addr × Value)) (k : K) : atKey (x :: xs) k = if x.1 = k then some x.2 else atKey xs k := by
  unfold atKey
  rw [List.find?_cons]
  by_cases h : x.1 = k
  · rw [if_pos h, decide_eq_true h]; rfl
  · rw [if_neg h, decide_eq_false h]
end
section
variable {X : Cx} {G : Gp} {pins : List (Addr × Obj)} {σ : L2.St} {H : Hp} {s : Shared} {F : Addr → Prop}
/-- a tuple as a key, on the heap -/
theorem key_is (hK : X.K = G.K) (I : Inv X pins σ H s) {k : D} {v : V} (hk : keyTup k = true) (h : relR G F H k v) : ∃ b, v = .ref b ∧ (nestedKind X.prog X.w).is s.heap (nk k) b := by
  obtain ⟨h1, h2⟩ := keyTup_in hk
  cases k with
  | tup ds =>
    have h0 : relF G F H (.tup ds) v := h
    simp only [relF] at h0
    obtain ⟨b, xs, rfl, _⟩ := h0
    obtain ⟨as, r⟩ := reads_of hK I (keyIn_pl _ h1) h (u := .ref b) rfl
    exact ⟨b, rfl, (nest_of _ _ _ h1 r).1, Nat.le_trans (nk_depth _ h1) (by omega)⟩
  | _ => cases hk
/-- a dict with tuples as keys, on the heap -/
theorem dn_raw (hP : X.prog = G.P) (hw : X.w = G.w) (hK : X.K = G.K) (I : Inv X pins σ H s) {a : Addr} {ks : List D} {kx vx : List V} (h : DHolds G H a ks kx vx) (hk : relFs G F H ks kx) (ht : ks.all keyTup = true) :
    ∃ xs : List (NestedKey × Addr × Value), s.heap.DictOfH (nestedKind X.prog X.w) a xs ∧ (a == sysModules) = false ∧ xs.length ≤ sizeLine ∧ kx = xs.map (fun x => V.ref x.2.1) ∧ Vals vx (xs.map (·.2.2)) ∧ nks ks = xs.map (·.1) ∧ Mut (H a) := by
  rcases h with ⟨kvs, e, rfl, rfl, hl⟩ | ⟨_, _, xs, e, rfl, hv, _, hn⟩
  · cases all_mix hl ht
    simp only [relFs] at hk
    cases kvs with
    | cons p kvs => cases hk
    | nil =>
      obtain ⟨_, hd, vs, rel, dd⟩ := dk_of I.hok e
      cases rel
      obtain ⟨o, es, ep, g, x, da, _, ps, _⟩ := dd
      refine ⟨[], ⟨o, es, ep, g, x, da, ?_, fun x hx => (by cases hx), List.nodup_nil⟩, hd, Nat.zero_le _, rfl, .nil, by simp only [nks, List.map_nil], by rw [e]; exact True.intro⟩
      have := ps.length
      rw [List.length_nil] at this
      rw [List.map_nil]
      exact List.length_eq_zero_iff.mp this
  · obtain ⟨⟨o, es, ep, g, x, da, es', nd, hd, hz⟩, _⟩ := I.hok a _ e
    refine ⟨xs, ⟨o, es, ep, g, x, da, ?_, fun x hx => ?_, nd⟩, hd, hz, rfl, hv, hn, by rw [e]; exact True.intro⟩
    · rw [hP, hw]; exact es'
    · obtain ⟨i, hi⟩ := List.mem_iff_getElem?.mp hx
      obtain ⟨d, e1, r⟩ := relFs_get' (i := i) (x := V.ref x.2.1) hk (by rw [List.getElem?_map, hi]; rfl)
      have e2 : (nks ks)[i]? = some x.1 := by rw [hn, List.getElem?_map, hi]; rfl
      rw [nks_map, List.getElem?_map, e1] at e2
      have e3 : nk d = x.1 := Option.some.inj e2
      obtain ⟨b, e4, q⟩ := key_is hK I (List.all_eq_true.mp ht d (List.mem_of_getElem? e1)) (relR_of_relF r)
      injection e4 with e4
      rw [e3, ← e4] at q
      exact q
theorem dn_get {k : D} (hk : keyTup k = true) : ∀ {ks vs : List D} {vx : List V} {xs : List (NestedKey × Addr × Value)}, ks.all keyTup = true → nks ks = xs.map (·.1) → relFs G F H vs vx → Vals vx (xs.map (·.2.2)) →
    (∀ w, dGet k ks vs = some w → ∃ p z, atKey xs (nk k) = some p ∧ RelV z p.2 ∧ relF G F H w z) ∧ (dGet k ks vs = none → atKey xs (nk k) = none)
  | [], vs, vx, xs, _, hn, _, _ => by
    cases xs with
    | nil => exact ⟨fun w e => (by cases vs <;> cases e), fun _ => rfl⟩
    | cons x xs => simp only [nks, List.map_cons] at hn; cases hn
  | a :: ks, vs, vx, xs, ht, hn, hv, rv => by
    cases xs with
    | nil => simp only [nks, List.map_nil] at hn; cases hn
    | cons x xs =>
      simp only [nks, List.map_cons] at hn
      injection hn with h1 h2
      simp only [List.all_cons, Bool.and_eq_true] at ht
      rw [List.map_cons] at rv
      cases rv with
      | @cons v u vx' us r1 r2 =>
        cases vs with
        | nil => simp only [relFs] at hv; cases hv
        | cons d vs =>
          simp only [relFs] at hv
          obtain ⟨y, r, e, q1, q2⟩ := hv
          cases e
          rw [atKey_cons, ← h1]
          simp only [dGet]
          by_cases c : a = k
          · rw [if_pos c, if_pos (by rw [c])]
            exact ⟨fun w e => by cases e; exact ⟨x.2, v, rfl, r1, q1⟩, fun e => by cases e⟩
          · rw [if_neg c, if_neg fun z => c (keyTup_inj ht.1 hk z)]
            exact dn_get hk ht.2 h2 q2 r2
theorem dn_has {k : D} (hk : keyTup k = true) : ∀ {ks : List D} {xs : List (NestedKey × Addr × Value)}, ks.all keyTup = true → nks ks = xs.map (·.1) → (atKey xs (nk k)).isSome = dHas k ks
  | [], xs, _, hn => by
    cases xs with
    | nil => rfl
    | cons x xs => simp only [nks, List.map_cons] at hn; cases hn
  | a :: ks, xs, ht, hn => by
    cases xs with
    | nil => simp only [nks, List.map_nil] at hn; cases hn
    | cons x xs =>
      simp only [nks, List.map_cons] at hn
      injection hn with h1 h2
      simp only [List.all_cons, Bool.and_eq_true] at ht
      have ih := dn_has hk ht.2 h2
      rw [atKey_cons, ← h1]
      unfold dHas at ih ⊢
      by_cases c : a = k
      · rw [if_pos (by rw [c]), c]
        simp
      · rw [if_neg fun z => c (keyTup_inj ht.1 hk z), ih]
        simp only [List.mem_cons]
        have : ¬ k = a := fun z => c z.symm
        simp [this]
/-- the values behind a store -/
theorem dn_putV {k d : D} (hk : keyTup k = true) {z : V} {v : Value} (hd : relF G F H d z) (rv : RelV z v) : ∀ {ks vs : List D} {vx : List V} {xs : List (NestedKey × Addr × Value)}, ks.all keyTup = true → nks ks = xs.map (·.1) → relFs G F H vs vx → Vals vx (xs.map (·.2.2)) →
    ∃ vx', relFs G F H (dPutV k d ks vs) vx' ∧ Vals vx' ((xs.map (putAt (nk k) v)).map (·.2.2))
  | [], vs, vx, xs, _, hn, hv, r => by
    cases xs with
    | nil =>
      cases r
      exact ⟨[], by simp only [dPutV, relFs], .nil⟩
    | cons x xs => simp only [nks, List.map_cons] at hn; cases hn
  | a :: ks, vs, vx, xs, ht, hn, hv, r => by
    cases xs with
    | nil => simp only [nks, List.map_nil] at hn; cases hn
    | cons x xs =>
      simp only [nks, List.map_cons] at hn
      injection hn with h1 h2
      simp only [List.all_cons, Bool.and_eq_true] at ht
      rw [List.map_cons] at r
      cases r with
      | @cons y u vx' us r1 r2 =>
        cases vs with
        | nil => simp only [relFs] at hv; cases hv
        | cons e vs =>
          simp only [relFs] at hv
          obtain ⟨y', q, e0, q1, q2⟩ := hv
          cases e0
          obtain ⟨vx2, i1, i2⟩ := dn_putV hk hd rv ht.2 h2 q2 r2
          simp only [dPutV, List.map_cons]
          by_cases c : a = k
          · refine ⟨z :: vx2, by rw [if_pos c]; simp only [relFs]; exact ⟨_, _, rfl, hd, i1⟩, ?_⟩
            unfold putAt
            rw [if_pos (by rw [← h1, c])]
            exact .cons rv i2
          · refine ⟨y :: vx2, by rw [if_neg c]; simp only [relFs]; exact ⟨_, _, rfl, q1, i1⟩, ?_⟩
            unfold putAt
            rw [if_neg fun w => c (keyTup_inj ht.1 hk (h1.trans w))]
            exact .cons r1 i2
theorem putAt_refs (k : NestedKey) (v : Value) (xs : List (NestedKey × Addr × Value)) : (xs.map (putAt k v)).map (fun x => V.ref x.2.1) = xs.map fun x => V.ref x.2.1 := by
  rw [List.map_map]
  refine List.map_congr_left fun x _ => ?_
  simp only [Function.comp, putAt]
  split <;> rfl
theorem nks_snoc (ks : List D) (k : D) : nks (ks ++ [k]) = nks ks ++ [nk k] := by
  rw [nks_map, nks_map, List.map_append]; rfl
/-- a store -/
theorem dn_put {k d : D} (hk : keyTup k = true) {b : Addr} {z : V} {v : Value} (hkb : relF G F H k (.ref b)) (hd : relF G F H d z) (rv : RelV z v) {ks vs : List D} {vx : List V} {xs : List (NestedKey × Addr × Value)} (ht : ks.all keyTup = true) (hn : nks ks = xs.map (·.1))
    (hkx : relFs G F H ks (xs.map fun x => V.ref x.2.1)) (hv : relFs G F H vs vx) (r : Vals vx (xs.map (·.2.2))) :
    ∃ vx', relFs G F H (dPut k d ks vs).1 ((storedH xs (nk k) b v).map fun x => V.ref x.2.1) ∧ relFs G F H (dPut k d ks vs).2 vx' ∧ Vals vx' ((storedH xs (nk k) b v).map (·.2.2)) ∧ nks (dPut k d ks vs).1 = (storedH xs (nk k) b v).map (·.1) ∧
      (dPut k d ks vs).1.all keyTup = true ∧ (dPut k d ks vs).1 ≠ [] ∧ (storedH xs (nk k) b v).length ≤ xs.length + 1 := by
  have hh := dn_has hk ht hn
  unfold dHas at hh
  unfold storedH dPut
  by_cases c : k ∈ ks
  · rw [decide_eq_true c] at hh
    rw [if_pos hh, if_pos c]
    obtain ⟨vx', i1, i2⟩ := dn_putV hk hd rv ht hn hv r
    refine ⟨vx', ?_, i1, i2, ?_, ht, fun e => (by have e : ks = [] := e; rw [e] at c; cases c), by rw [List.length_map]; omega⟩
    · rw [putAt_refs]; exact hkx
    · rw [keys_map_putAt]; exact hn
  · rw [decide_eq_false c] at hh
    have hh' : ¬ (atKey xs (nk k)).isSome = true := by rw [hh]; exact Bool.false_ne_true
    rw [if_neg hh', if_neg c]
    refine ⟨vx ++ [z], ?_, ?_, ?_, ?_, ?_, ?_, ?_⟩
    · rw [List.map_append]
      exact relFs_append hkx (by simp only [List.map_cons, List.map_nil, relFs]; exact ⟨_, _, rfl, hkb, rfl⟩)
    · exact relFs_append hv (by simp only [relFs]; exact ⟨_, _, rfl, hd, rfl⟩)
    · rw [List.map_append]
      exact r.append (.cons rv .nil)
    · rw [nks_snoc, List.map_append, hn]; rfl
    · rw [List.all_append, ht, List.all_cons, hk]; rfl
    · exact fun e => by cases ks <;> cases e
    · simp
theorem refs_vals {P : Program} {w : World} (knd : HeapKind P w NestedKey) : ∀ xs : List (NestedKey × Addr × Value), Vals (xs.map fun x => V.ref x.2.1) (xs.map ((fun e : DictEntry => e.key) ∘ entryOfKey knd))
  | [] => .nil
  | x :: xs => .cons rfl (refs_vals knd xs)
/-- any dict, as it lies -/
theorem dct_raw (hP : X.prog = G.P) (hw : X.w = G.w) (hK : X.K = G.K) (I : Inv X pins σ H s) {a : Addr} {ks : List D} {kx vx : List V} (h : DHolds G H a ks kx vx) (hk : relFs G F H ks kx) :
    ∃ es ep, s.heap.DictRaw a es ep ∧ (a == sysModules) = false ∧ es.size = ks.length ∧ es.size ≤ sizeLine ∧ Vals kx (es.toList.map (·.key)) ∧ Vals vx (es.toList.map (·.val)) ∧ (ks.all keyLeaf = true ∨ ks.all keyTup = true) := by
  have ll := relFs_length hk
  rcases h with ⟨kvs, e, rfl, rfl, hl⟩ | ⟨on, ne, xs, e, rfl, hv, ht, hn⟩
  · obtain ⟨z, hd, vs, rel, dd⟩ := dk_of I.hok e
    obtain ⟨o, es, ep, g, x, da, _, ps, _⟩ := dd
    have hz : es.size = kvs.length := by rw [← Array.length_toList, ps.length, ← rel.length]
    rw [List.length_map] at ll
    have key : ∀ {kvs : List (Key × V)} {vs : List (Key × Value)} {es : List DictEntry}, KV kvs vs → Pairs (mixKind X.prog X.w) es vs → Vals (kvs.map fun p => kV p.1) (es.map (·.key)) ∧ Vals (kvs.map (·.2)) (es.map (·.val)) := by
      intro kvs vs es rel
      induction rel generalizing es with
      | nil =>
        intro ps
        cases ps
        exact ⟨.nil, .nil⟩
      | @cons p q kvs vs r _ ih =>
        intro ps
        cases ps with
        | cons ri rv ps =>
          obtain ⟨i1, i2⟩ := ih ps
          exact ⟨.cons (by
            have := ri
            show L2.RelV (kV p.1) _
            rw [← r.1] at this
            rcases keyIs_shape this with ⟨i, t, e1, e2⟩ | ⟨x, t, e1, e2⟩
            · rw [e1]; show L2.RelV _ (DictEntry.key _); rw [e2]; exact ⟨t, rfl⟩
            · rw [e1]; show L2.RelV _ (DictEntry.key _); rw [e2]; exact ⟨t, rfl⟩) i1, .cons (by show L2.RelV p.2 (DictEntry.val _); rw [rv]; exact r.2) i2⟩
    obtain ⟨k1, k2⟩ := key rel ps
    exact ⟨es, ep, ⟨o, g, x, da⟩, hd, hz.trans ll, by omega, k1, k2, .inl hl⟩
  · obtain ⟨⟨o, es, ep, g, x, da, es', nd, hd, hz⟩, _⟩ := I.hok a _ e
    rw [List.length_map] at ll
    have hz2 : es.size = xs.length := by rw [← Array.length_toList, es', List.length_map]
    refine ⟨es, ep, ⟨o, g, x, da⟩, hd, hz2.trans ll, by omega, ?_, ?_, .inr ht⟩
    · rw [es', List.map_map]
      exact refs_vals _ xs
    · rw [es', List.map_map]
      exact hv
end
end PF
set_option Elab.async false
set_option linter.all false
set_option maxRecDepth 100000
set_option maxHeartbeats 1000000
namespace PF
open PySem PySem.Spec PyProof.Rows L2
/-- a key as a plain value -/
def kD : Key → D
  | .inl i => .int i
  | .inr x => .str x
theorem kD_inj {a b : Key} (h : kD a = kD b) : a = b := by
  cases a <;> cases b <;> cases h <;> rfl
theorem leaf_inv {d : D} (h : keyLeaf d = true) : ∃ k, d = kD k := by
  cases d <;> first | (cases h; done) | skip
  · exact ⟨.inl _, rfl⟩
  · exact ⟨.inr _, rfl⟩
section
variable {X : Cx} {G : Gp} {F : Addr → Prop} {H : Hp}
theorem relR_kD {k : Key} {v : V} (h : relR G F H (kD k) v) : v = kV k := by
  cases k <;> exact h
theorem relF_kD {k : Key} {v : V} (h : relF G F H (kD k) v) : v = kV k := by
  cases k <;> (simp only [kD, relF] at h; exact h)
theorem relF_kD_mk (k : Key) : relF G F H (kD k) (kV k) := by
  cases k <;> simp only [kD, relF] <;> rfl
theorem relFs_keys : ∀ {ks : List D} {kvs : List (Key × V)}, relFs G F H ks (kvs.map fun p => kV p.1) → ks.all keyLeaf = true → ks = kvs.map fun p => kD p.1
  | [], [], _, _ => rfl
  | [], p :: kvs, h, _ => by simp only [relFs] at h; cases h
  | k :: ks, [], h, _ => by simp only [relFs] at h; obtain ⟨_, _, e, _⟩ := h; cases e
  | k :: ks, p :: kvs, h, hk => by
    simp only [relFs] at h
    obtain ⟨x, r, e, h1, h2⟩ := h
    cases e
    simp only [List.all_cons, Bool.and_eq_true] at hk
    obtain ⟨kk, rfl⟩ := leaf_inv hk.1
    have := kV_inj (relF_kD h1)
    rw [List.map_cons, ← relFs_keys h2 hk.2, this]
theorem relFs_keys_mk : ∀ kvs : List (Key × V), relFs G F H (kvs.map fun p => kD p.1) (kvs.map fun p => kV p.1)
  | [] => by simp only [List.map_nil, relFs]
  | p :: kvs => by simp only [List.map_cons, relFs]; exact ⟨_, _, rfl, relF_kD_mk p.1, relFs_keys_mk kvs⟩
theorem all_kD : ∀ kvs : List (Key × V), (kvs.map fun p => kD p.1).all keyLeaf = true
  | [] => rfl
  | p :: kvs => by
    rw [List.map_cons, List.all_cons, all_kD kvs]
    cases p.1 <;> rfl
theorem relR_dct_inv {ks vs : List D} {v : V} (hl : ks.all keyLeaf = true) (h : relR G F H (.dct ks vs) v) : ∃ a kvs, v = .ref a ∧ H a = some (.dK kvs) ∧ ks = kvs.map (fun p => kD p.1) ∧ relFs G F H vs (kvs.map (·.2)) := by
  obtain ⟨a, kx, vx, e, h1, h2, h3⟩ := (show ∃ a kx vx, v = V.ref a ∧ DHolds G H a ks kx vx ∧ _ ∧ _ from h)
  obtain ⟨kvs, e1, rfl, rfl, e2⟩ := DHolds_leaf hl h1
  exact ⟨a, kvs, e, e1, relFs_keys h2 e2, h3⟩
theorem dGet_val {k : Key} : ∀ {kvs : List (Key × V)} {vs : List D} {w : D}, relFs G F H vs (kvs.map (·.2)) → dGet (kD k) (kvs.map fun p => kD p.1) vs = some w → ∃ v, valV kvs k = some v ∧ relF G F H w v
  | [], vs, w, h, e => by cases vs <;> cases e
  | p :: kvs, [], w, h, e => by cases e
  | p :: kvs, d :: vs, w, h, e => by
    simp only [List.map_cons, relFs] at h
    obtain ⟨x, r, e1, h1, h2⟩ := h
    cases e1
    simp only [List.map_cons, dGet] at e
    by_cases hp : p.1 = k
    · rw [if_pos (by rw [hp])] at e
      cases e
      exact ⟨p.2, valV_pos hp, h1⟩
    · rw [if_neg fun z => hp (kD_inj z)] at e
      rw [valV_neg hp]
      exact dGet_val h2 e
theorem dHas_val {k : Key} : ∀ kvs : List (Key × V), dHas (kD k) (kvs.map fun p => kD p.1) = (valV kvs k).isSome
  | [] => rfl
  | p :: kvs => by
    have ih := dHas_val (k := k) kvs
    unfold dHas at ih ⊢
    by_cases hp : p.1 = k
    · rw [valV_pos hp]
      simp [hp]
    · rw [valV_neg hp, ← ih]
      simp only [List.map_cons, List.mem_cons]
      have : ¬ (kD k = kD p.1) := fun z => hp (kD_inj z).symm
      simp [this]
theorem dGet_none {k : Key} : ∀ {kvs : List (Key × V)} {vs : List D}, relFs G F H vs (kvs.map (·.2)) → dGet (kD k) (kvs.map fun p => kD p.1) vs = none → valV kvs k = none
  | [], vs, h, e => rfl
  | p :: kvs, [], h, e => by simp only [List.map_cons, relFs] at h; cases h
  | p :: kvs, d :: vs, h, e => by
    simp only [List.map_cons, relFs] at h
    obtain ⟨x, r, e1, h1, h2⟩ := h
    cases e1
    simp only [List.map_cons, dGet] at e
    by_cases hp : p.1 = k
    · rw [if_pos (by rw [hp])] at e; cases e
    · rw [if_neg fun z => hp (kD_inj z)] at e
      rw [valV_neg hp]
      exact dGet_none h2 e
end
section
variable {X : Cx} {G : Gp}
theorem relR_ref {G : Gp} {F : Addr → Prop} {H : Hp} {k : D} {b : Addr} (hk : keyTup k = true) (h : relR G F H k (.ref b)) : relF G F H k (.ref b) := by
  cases k <;> first | (cases hk; done) | exact h
theorem dct_in (hP : X.prog = G.P) (hw : X.w = G.w) (hK : X.K = G.K) (hu : X.A.units + 64 < cLine) : OpR X (compareOp .In) (fun x y H Q => ∃ F k ks vs, relR G F H k x ∧ relR G F H (.dct ks vs) y ∧ keyOk k ks = true ∧ Q (.bl (if false then !dHas k ks else dHas k ks)) H) := fun pins s σ H x y v u Q I rx ry ⟨F, k, ks, vs, h1, h2, hk, q⟩ => by
  rcases keyOk_cases hk with ⟨hk1, hk2⟩ | ⟨hk1, hk2⟩
  · obtain ⟨kk, rfl⟩ := leaf_inv hk1
    obtain ⟨a, kvs, rfl, e, rfl, hv⟩ := relR_dct_inv hk2 h2
    have := relR_kD h1
    subst this
    obtain rfl : u = Value.ref a := ry
    refine d_in (by omega) I (DGet.k e) rx fun s' I' => ⟨.bl (valV kvs kk).isSome, H, I', rfl, ?_⟩
    rw [← dHas_val]
    exact q
  · obtain ⟨a, kx, vx, rfl, g1, g2, g3⟩ := (show ∃ a kx vx, y = V.ref a ∧ DHolds G H a ks kx vx ∧ relFs G F H ks kx ∧ relFs G F H vs vx from h2)
    obtain ⟨xs, dd, hd, hz, _, _, hn, _⟩ := dn_raw hP hw hK I g1 g2 hk2
    obtain ⟨b, rfl, kb⟩ := key_is hK I hk1 h1
    obtain rfl : u = Value.ref a := ry
    obtain rfl : v = Value.ref b := rx
    refine in_keyed (knd := nestedKind X.prog X.w) (by show X.A.units + 1 + 8 < cLine; omega) kb hd ⟨xs, dd, rfl⟩ ⟨.bl (atKey xs (nk k)).isSome, H, I.tok _, ?_, ?_⟩
    · rw [valueAt_pairsH, Option.isSome_map]; rfl
    · rw [dn_has hk1 hk2 hn]; exact q
theorem dct_notIn (hP : X.prog = G.P) (hw : X.w = G.w) (hK : X.K = G.K) (hu : X.A.units + 64 < cLine) : OpR X (compareOp .NotIn) (fun x y H Q => ∃ F k ks vs, relR G F H k x ∧ relR G F H (.dct ks vs) y ∧ keyOk k ks = true ∧ Q (.bl (if true then !dHas k ks else dHas k ks)) H) := fun pins s σ H x y v u Q I rx ry ⟨F, k, ks, vs, h1, h2, hk, q⟩ => by
  rcases keyOk_cases hk with ⟨hk1, hk2⟩ | ⟨hk1, hk2⟩
  · obtain ⟨kk, rfl⟩ := leaf_inv hk1
    obtain ⟨a, kvs, rfl, e, rfl, hv⟩ := relR_dct_inv hk2 h2
    have := relR_kD h1
    subst this
    obtain rfl : u = Value.ref a := ry
    refine d_notIn (by omega) I (DGet.k e) rx fun s' I' => ⟨.bl (!(valV kvs kk).isSome), H, I', rfl, ?_⟩
    rw [← dHas_val]
    exact q
  · obtain ⟨a, kx, vx, rfl, g1, g2, g3⟩ := (show ∃ a kx vx, y = V.ref a ∧ DHolds G H a ks kx vx ∧ relFs G F H ks kx ∧ relFs G F H vs vx from h2)
    obtain ⟨xs, dd, hd, hz, _, _, hn, _⟩ := dn_raw hP hw hK I g1 g2 hk2
    obtain ⟨b, rfl, kb⟩ := key_is hK I hk1 h1
    obtain rfl : u = Value.ref a := ry
    obtain rfl : v = Value.ref b := rx
    refine notIn_keyed (knd := nestedKind X.prog X.w) (by show X.A.units + 1 + 8 < cLine; omega) kb hd ⟨xs, dd, rfl⟩ ⟨.bl (!(atKey xs (nk k)).isSome), H, I.tok _, ?_, ?_⟩
    · rw [valueAt_pairsH, Option.isSome_map]; rfl
    · rw [dn_has hk1 hk2 hn]; exact q
theorem dct_idx (hP : X.prog = G.P) (hw : X.w = G.w) (hK : X.K = G.K) (hu : X.A.units + 64 < cLine) : IxR X (fun x y H Q => ∃ F k ks vs w, relR G F H (.dct ks vs) x ∧ relR G F H k y ∧ keyOk k ks = true ∧ dGet k ks vs = some w ∧ ∀ z, relF G F H w z → Q z H) := fun value slice pins s σ H x y v u Q I rx ry ⟨F, k, ks, vs, w, h2, h1, hk, e, q⟩ hs => by
  rcases keyOk_cases hk with ⟨hk1, hk2⟩ | ⟨hk1, hk2⟩
  · obtain ⟨kk, rfl⟩ := leaf_inv hk1
    obtain ⟨a, kvs, rfl, e1, rfl, hv⟩ := relR_dct_inv hk2 h2
    have := relR_kD h1
    subst this
    obtain rfl : v = Value.ref a := rx
    obtain ⟨z, e2, rz⟩ := dGet_val hv e
    have g : DGet H a (kV kk) (some z) := by rw [← e2]; exact DGet.k e1
    exact PyProof.Rows.tail_any (dict_typeIs I g) PySem.F.slot_dict_getitem.lookup (d_getItem (by omega) I g ry fun w' s' I' rw' => ⟨z, H, I', rw', q z rz⟩) hs
  · obtain ⟨a, kx, vx, rfl, g1, g2, g3⟩ := (show ∃ a kx vx, x = V.ref a ∧ DHolds G H a ks kx vx ∧ relFs G F H ks kx ∧ relFs G F H vs vx from h2)
    obtain ⟨xs, dd, hd, hz, _, rv, hn, _⟩ := dn_raw hP hw hK I g1 g2 hk2
    obtain ⟨b, rfl, kb⟩ := key_is hK I hk1 h1
    obtain rfl : v = Value.ref a := rx
    obtain rfl : u = Value.ref b := ry
    obtain ⟨p, z, e2, rz, fz⟩ := (dn_get hk1 hk2 hn g3 rv).1 w e
    refine PyProof.Rows.tail_any dd.typeIs PySem.F.slot_dict_getitem.lookup (getItem_keyed (knd := nestedKind X.prog X.w) (by show X.A.units + 1 + 8 < cLine; omega) kb ⟨xs, dd, rfl⟩ ?_ ⟨z, H, I.tok _, rz, q z fz⟩) hs
    rw [valueAt_pairsH, e2]; rfl
theorem dct_len (hP : X.prog = G.P) (hw : X.w = G.w) (hK : X.K = G.K) : CallR X (.builtin "len") (fun xs H Q => ∃ x F ks vs, xs = [x] ∧ relR G F H (.dct ks vs) x ∧ Q (.int ks.length) H) := fun pins s σ H xs us Q I rs ⟨x, F, ks, vs, e0, h, q⟩ => by
  subst e0
  obtain ⟨u, rfl, rx⟩ := vals1 rs
  obtain ⟨a, kx, vx, rfl, g1, g2, g3⟩ := (show ∃ a kx vx, x = V.ref a ∧ DHolds G H a ks kx vx ∧ relFs G F H ks kx ∧ relFs G F H vs vx from h)
  obtain rfl : u = Value.ref a := rx
  obtain ⟨es, ep, dr, hd, hz, hl, _⟩ := dct_raw hP hw hK I g1 g2
  have hl2 := hl
  rw [sizeLine_eq] at hl2
  refine PyProof.Rows.call_len_slot (n := es.size) dr.typeIs PySem.F.slot_dict_len (fun Q' hq => call_len_raw hd dr hq) (by omega) (by omega) ⟨.int es.size, H, I.tok _, ⟨_, rfl⟩, ?_⟩
  rw [hz]; exact q
theorem dct_tru (hP : X.prog = G.P) (hw : X.w = G.w) (hK : X.K = G.K) : TruR X (fun x H Q => ∃ F ks vs, ks.all keyLeaf = true ∧ relR G F H (.dct ks vs) x ∧ Q (!ks.isEmpty) H) := fun pins s σ H x v Q I rx ⟨F, ks, vs, hl, h, q⟩ => by
  obtain ⟨a, kvs, rfl, e1, rfl, hv⟩ := relR_dct_inv hl h
  obtain rfl : v = Value.ref a := rx
  refine d_truth I (.inl e1) fun s' I' => ⟨H, I', ?_⟩
  have : (kvs.map fun p => kD p.1).isEmpty = kvs.isEmpty := by cases kvs <;> rfl
  rw [this] at q
  exact q
end
end PF
set_option Elab.async false
set_option linter.all false
set_option maxRecDepth 100000
set_option maxHeartbeats 1000000
namespace PF
open PySem PySem.Calls PySem.W PySem.SeqAt PyProof.Rows
/-- a tuple with an item at least -/
def tne : PyData → Bool
  | .tuple (_ :: _) => true
  | _ => false
section
variable {M : Model} {prog : Program} {w : World} {A : Around} {E : Value → Shared → Prop} {s : Shared}
/-- what the sort asks first of its keys -/
theorem mix_firsts : ∀ {vs : List Value} {ds : List PyData}, EachIs (fun v d => ∃ as, Reads s.heap v d as) vs ds → (∀ d, d ∈ ds → ∃ xs, d = .tuple xs) →
    ∃ fs : List (Option Value), EachIs (fun f d => f.isSome = tne d) fs ds ∧ ∀ {E : Value → Shared → Prop} {Q : List (Option Value) → Shared → Prop}, Q fs s → wpAny M A (vs.mapM firstOfTuple') Q E s
  | _, _, .nil, _ => ⟨[], .nil, fun h => by rw [List.mapM_nil]; exact wpAny_pure h⟩
  | v :: vs, d :: ds, .cons ⟨as, r⟩ t, ht => by
    obtain ⟨fs, h1, h2⟩ := mix_firsts t fun d hd => ht d (List.mem_cons_of_mem _ hd)
    obtain ⟨xs, rfl⟩ := ht d (List.mem_cons_self ..)
    cases r with
    | @tuple b o its n _ _ g c dt q =>
      refine ⟨its[0]? :: fs, .cons ?_ h1, fun {E Q} h => ?_⟩
      · rw [← Array.getElem?_toList]
        generalize its.toList = l at q
        cases q <;> rfl
      · rw [List.mapM_cons, kas_first_eq]
        have ty : Looks M s.heap (typeOf (.ref b)) (.type "tuple") := c ▸ (Looks.ld g).andThen .now
        refine wpAny_bind (wpAny_bind (ty.here ?_))
        rw [if_neg (by simp)]
        exact wpAny_bind (listItems_at g dt (wpAny_pure (wpAny_bind (h2 (wpAny_pure h)))))
theorem mix_all {fs : List (Option Value)} {ds : List PyData} (e : EachIs (fun f d => f.isSome = tne d) fs ds) : fs.all (·.isSome) = ds.all tne := by
  induction e with
  | nil => rfl
  | cons h _ ih => rw [List.all_cons, List.all_cons, h, ih]
/-- tuple against tuple, told to be of one type -/
theorem one_tuples {xs ys : List PyData} {a b : Value} {as bs : List Addr} {Q : Bool → Shared → Prop} (ra : Reads s.heap a (.tuple xs) as) (rb : Reads s.heap b (.tuple ys) bs) (h : alikeAll xs ys = true)
    (hu : A.units + min (PyData.tuple xs).depth (PyData.tuple ys).depth < cLine) (hq : Q (dataLt (.tuple xs) (.tuple ys)) s) : wpAny (model prog w) A (oneLt' true a b) Q E s := by
  cases ra with
  | @tuple l o vs n _ _ h1 h2 h3 h4 =>
    cases rb with
    | @tuple l' o' vs' n' _ _ k1 k2 k3 k4 =>
      have z1 : vs.size = xs.length := by simpa using ReadsAll.length _ _ _ h4
      have z2 : vs'.size = ys.length := by simpa using ReadsAll.length _ _ _ k4
      rw [dataLt_tuple, ← firstLt_toks xs ys h] at hq
      have he : ∀ j (j1 : j < vs.size) (j2 : j < vs'.size), EqAt A.in1 s vs[j] vs'[j] (pairEq xs ys j) := fun j j1 j2 => by
        have q := eqAt_alikeAll xs ys A.in1 s vs.toList vs'.toList _ _ h4 k4 h (room_in hu) j (by rw [Array.length_toList]; exact j1) (by rw [Array.length_toList]; exact j2)
        rw [Array.getElem_toList, Array.getElem_toList] at q
        exact q
      have hr : ∀ j (j1 : j < vs.size) (j2 : j < vs'.size), pairEq xs ys j = false → RcLt A.in1 s vs[j] vs'[j] (dataLt (xs.getD j .none) (ys.getD j .none)) := fun j j1 j2 hj => by
        have q := rcLt_alikeAll xs ys A.in1 s vs.toList vs'.toList _ _ h4 k4 h (room_in hu) j (by rw [Array.length_toList]; exact j1) (by rw [Array.length_toList]; exact j2) hj
        rw [Array.getElem_toList, Array.getElem_toList] at q
        exact q
      rw [oneLt'_eq, if_pos rfl]
      obtain ⟨c1, d1, da1, s1⟩ := o
      obtain ⟨c2, d2, da2, s2⟩ := o'
      simp only at h2 h3 k2 k3
      subst h2 h3 k2 k3
      refine wpAny_bind (wpAny_cRoomFor (room_here hu) ?_)
      refine wpAny_bind (wpAny_callSpecialIfBound?_slot (T := "tuple") ⟨_, h1, rfl⟩ F.slot_tuple_lt ?_)
      refine call_meets F.slot_tuple_lt ⟨_, h1, rfl⟩ F.entry_tuple_lt (F.args_tuple_lt_2 _ _) (tuple_ltAt l l' vs vs' n n' d1 d2 s1 s2 (pairEq xs ys) fun j => dataLt (xs.getD j .none) (ys.getD j .none)) ⟨h1, k1, he, hr, ?_⟩
      rw [z1, z2]
      exact wpAny_truthy_bool hq
/-- tuples that read as alike data can be put in order -/
theorem sorts_mix {vs : List Value} {ds : List PyData} (e : EachIs (fun v d => ∃ as, Reads s.heap v d as) vs ds) (hal : AllAlike ds) (ht : ∀ d, d ∈ ds → ∃ xs, d = .tuple xs) (hu : ∀ d, d ∈ ds → A.units + d.depth < cLine) :
    SortsAt prog w A s (dataKind s.heap ds) vs := by
  by_cases hne : ds.all tne = true
  · refine SortsAt.data e hal (.inl fun d hd => ?_) hu
    have q := List.all_eq_true.mp hne d hd
    obtain ⟨xs, rfl⟩ := ht d hd
    cases xs with
    | nil => cases q
    | cons x r => exact ⟨x, r, rfl⟩
  · have keys : ∀ v, v ∈ vs → ∃ a, (dataKind s.heap ds).keyOf v = some a := fun v hv => by
      obtain ⟨d, hd, as, r⟩ := e.left v hv
      exact ⟨_, dataKind_some hal hd r⟩
    obtain ⟨fs, f1, f2⟩ := mix_firsts (M := model prog w) (A := A) e ht
    have nall : ¬ (fs.toArray.all fun x => x.isSome) = true := by
      rw [List.all_toArray, mix_all f1]; exact hne
    cases f1 with
    | nil => exact absurd rfl hne
    | @cons f d fs ds0 q1 q2 =>
      have go : ∀ {kd : SortKind}, ((f.isSome = true ∧ kd = general') ∨ (f.isSome = false ∧ kd = oneType')) → ∀ (E : Value → Shared → Prop) {Q : SortKind → Shared → Prop}, Q kd s → wpAny (model prog w) A (keyKind' vs.toArray) Q E s := by
        intro kd hkd E Q hq
        rw [keyKind'_eq, List.mapM_toArray, map_eq_pure_bind]
        refine wpAny_bind (wpAny_bind (f2 (wpAny_pure ?_)))
        rw [if_neg nall]
        rcases hkd with ⟨hs, rfl⟩ | ⟨hs, rfl⟩
        · rw [if_pos (by cases f with
            | none => cases hs
            | some x => rfl)]
          exact wpAny_pure hq
        · rw [if_neg (by cases f with
            | none => simp
            | some x => cases hs)]
          rw [oneTypeOnly'_eq, List.mapM_toArray, map_eq_pure_bind]
          refine wpAny_bind (wpAny_bind (wpAny_bind (kas_mapM (r := Value.type "tuple") _ (fun v hv Q' hq' => ?_) (wpAny_pure ?_))))
          · obtain ⟨d', hd', as, r⟩ := e.left v hv
            obtain ⟨xs, rfl⟩ := ht d' hd'
            exact (looks_reads r).here hq'
          · cases e with
            | @cons v _ vr _ _ _ =>
              have a0 : ((v :: vr).map fun _ => Value.type "tuple").toArray[0]? = some (Value.type "tuple") := by simp
              have a1 : (((v :: vr).map fun _ => Value.type "tuple").toArray.all fun x => x == Value.type "tuple") = true := by
                rw [List.all_toArray, List.all_map, List.all_eq_true]
                exact fun _ _ => rfl
              rw [a0]
              dsimp only
              rw [if_pos a1]
              exact wpAny_pure (wpAny_pure hq)
      cases hf : f.isSome with
      | true =>
        refine ⟨keys, general', ?_, fun _ => go (.inl ⟨hf, rfl⟩)⟩
        intro E x y a b Q ha hb hq
        obtain ⟨d1, as, m1, ra, rfl⟩ := dataKind_inv ha
        obtain ⟨d2, bs, m2, rb, rfl⟩ := dataKind_inv hb
        show wpAny (model prog w) A (oneLt' false x y) Q E s
        refine oneLt_alike (fun z => by cases z) ra rb (hal d1 m1 d2 m2) (fun z => ?_) (Nat.lt_of_le_of_lt (Nat.add_le_add_left (Nat.min_le_left _ _) _) (hu d1 m1)) hq
        obtain ⟨xs, e0⟩ := ht d1 m1
        rw [z] at e0; cases e0
      | false =>
        refine ⟨keys, oneType', ?_, fun _ => go (.inr ⟨hf, rfl⟩)⟩
        intro E x y a b Q ha hb hq
        obtain ⟨d1, as, m1, ra, rfl⟩ := dataKind_inv ha
        obtain ⟨d2, bs, m2, rb, rfl⟩ := dataKind_inv hb
        rw [keyLt'_oneType]
        obtain ⟨xs, rfl⟩ := ht d1 m1
        obtain ⟨ys, rfl⟩ := ht d2 m2
        exact one_tuples ra rb (by simpa [alike] using hal _ m1 _ m2) (Nat.lt_of_le_of_lt (Nat.add_le_add_left (Nat.min_le_left _ _) _) (hu _ m1)) hq
/-- xs.sort() of such tuples -/
theorem sort_mix {β : Type} {R : Value → β → Prop} {enc : β → PyData} {vs : List Value} {bs : List β} {a : Addr} {n : Nat} {Q : Value → Shared → Prop} (ho : s.heap.get? a = some (seqObj "list" vs.toArray n)) (e : EachIs R vs bs)
    (er : EachIs (fun v b => ∃ as, Reads s.heap v (enc b) as ∧ a ∉ as) vs bs) (hal : AllAlike (bs.map enc)) (ht : ∀ d, d ∈ bs.map enc → ∃ xs, d = .tuple xs) (hL : bs.length ≤ sizeLine)
    (hu : ∀ b, b ∈ bs → A.units + 1 + (enc b).depth < cLine) (h : ∀ out, out.length = bs.length → EachIs R out (bs.mergeSort (dataLe false enc)) → Q .none { s with heap := sortedHeap s.heap a vs (List.toArray out) }) :
    wpAny (model prog w) A (call (.builtin "list.sort") [.ref a]) Q E s := by
  have old : ∀ b o, b ≠ a → s.heap.get? b = some o → (sortingHeap s.heap a vs).get? b = some o := fun b o hb q => sortingHeap_old hb q
  have isl : ∀ o, s.heap.get? a = some o → o.cls = .type "list" := fun o q => by rw [ho] at q; cases q; rfl
  have er2 := each_keepBut (h' := sortingHeap s.heap a vs) old isl hal er
  have S := sorts_mix (prog := prog) (w := w) (A := A.in1) (s := { s with heap := sortingHeap s.heap a vs }) (each_map (R := fun v d => ∃ as, Reads (sortingHeap s.heap a vs) v d as) enc er2) hal ht (bound_map hu)
  have lv : vs.length = bs.length := e.length
  refine wpAny_call_entry slot_list_sort ⟨_, ho, rfl⟩ entry_list_sort ?_ (args_list_sort _)
  refine list_sort_vals (κ := dataKind (sortingHeap s.heap a vs) (bs.map enc)) ho S (by omega) ⟨.none, rfl, ?_⟩
  refine h _ ?_ (sortVals_data false e er2 hal)
  rw [sortVals_length false rfl, lv]
end
end PF
set_option Elab.async false
set_option linter.all false
set_option maxRecDepth 100000
set_option maxHeartbeats 1000000
namespace PF
open PySem PySem.Spec PyProof.Rows L2
section
variable {X : Cx} {G : Gp}
def prR (G : Gp) (F : Addr → Prop) (H : Hp) (v : Value) (b : D × V) : Prop := RelV b.2 v ∧ relF G F H b.1 b.2
theorem each_pairs {F : Addr → Prop} {H : Hp} : ∀ {ds : List D} {xs : List V} {us : List Value}, relFs G F H ds xs → Vals xs us → W.EachIs (prR G F H) us (ds.zip xs)
  | [], xs, us, h, r => by
    simp only [relFs] at h
    subst h
    cases r
    exact .nil
  | d :: ds, xs, us, h, r => by
    simp only [relFs] at h
    obtain ⟨x, q, rfl, h1, h2⟩ := h
    cases r with
    | cons r1 r2 => exact .cons ⟨r1, h1⟩ (each_pairs h2 r2)
theorem each_back {F : Addr → Prop} {H : Hp} : ∀ {bs : List (D × V)} {us : List Value}, W.EachIs (prR G F H) us bs → relFs G F H (bs.map (·.1)) (bs.map (·.2)) ∧ Vals (bs.map (·.2)) us
  | [], us, h => by
    cases h
    exact ⟨by simp only [List.map_nil, relFs], .nil⟩
  | b :: bs, us, h => by
    cases h with
    | cons h1 h2 =>
      obtain ⟨i1, i2⟩ := each_back h2
      exact ⟨by simp only [List.map_cons, relFs]; exact ⟨_, _, rfl, h1.2, i1⟩, .cons h1.1 i2⟩
theorem zip_fst : ∀ {ds : List D} {xs : List V}, xs.length = ds.length → (ds.zip xs).map (·.1) = ds
  | [], _, _ => rfl
  | d :: ds, [], h => by cases h
  | d :: ds, x :: xs, h => by
    simp only [List.zip_cons_cons, List.map_cons]
    rw [zip_fst (by simpa using h)]
theorem srt_fst (bs : List (D × V)) : (bs.mergeSort (W.dataLe false fun b => b.1.py)).map (·.1) = srt (bs.map (·.1)) := by
  unfold srt
  exact List.map_mergeSort fun a _ b _ => by rw [W.dataLe_eq]; rfl
theorem pr_sortedL (hK : X.K = G.K) (hu : X.A.units + 64 < cLine) : CallR X (.builtin "sorted") (fun xs H Q => ∃ x Fz a o d, xs = [x] ∧ relR G Fz H a x ∧ ((lst? a).bind fun ds => if sortable ds && decide (ds.length ≤ sizeLine) then some (true, D.lst (srt ds)) else none) = some (o, d) ∧ ∀ z H', resOk G Fz H o d z H' → Q z H') := fun pins s σ H xs us Q I rs ⟨x, Fz, a, o, d, e0, h1, e, k⟩ => by
  subst e0
  cases e1 : lst? a with
  | none => rw [e1] at e; cases e
  | some ds =>
    rw [e1, Option.bind_some] at e
    split at e
    · rename_i hz
      cases e
      rw [lst_inv e1] at h1
      obtain ⟨p, ys, rfl, t1, f1⟩ := rLst h1
      obtain ⟨u, rfl, rx⟩ := vals1 rs
      cases rx
      obtain ⟨its, rv, pl, hz2⟩ := I.list (.inl t1)
      simp only [Bool.and_eq_true, decide_eq_true_eq, sortable] at hz
      obtain ⟨⟨ha, hb⟩, hL⟩ := hz
      have ha := List.all_eq_true.mp ha
      have hpl : D.pls ds = true := by
        rw [pls_all]
        exact List.all_eq_true.mpr fun d hd => by
          have := ha d hd
          simp only [Bool.and_eq_true] at this
          exact this.1.1
      obtain ⟨as, q1⟩ := readsAll_of hK I hpl f1 rv
      have ll := relFs_length f1
      have em : (ds.zip ys).map (fun b => b.1.py) = ds.map D.py := by
        have h9 : (ds.zip ys).map (fun b => b.1.py) = ((ds.zip ys).map (·.1)).map D.py := by rw [List.map_map]; rfl
        rw [h9, zip_fst ll]
      have hmem : ∀ b, b ∈ ds.zip ys → b.1 ∈ ds := fun b hb => (List.of_mem_zip hb).1
      have er : W.EachIs (fun v b => ∃ as, Reads s.heap v (b.1.py) as) its (ds.zip ys) := W.readsAll_each (fun b : D × V => b.1.py) (by rw [em, ← pys_map]; exact q1)
      refine W.sorted_data (enc := fun b : D × V => b.1.py) pl.isList (each_pairs f1 rv) er ?_ ?_ ?_ ?_ fun out ho eo => ?_
      · rw [em]
        intro x hx y hy
        obtain ⟨x', hx', rfl⟩ := List.mem_map.mp hx
        obtain ⟨y', hy', rfl⟩ := List.mem_map.mp hy
        have := ha x' hx'
        simp only [Bool.and_eq_true] at this
        exact List.all_eq_true.mp this.2 y' hy'
      · rw [em]
        rcases Bool.or_eq_true _ _ |>.mp hb with hb | hb
        · refine .inl fun x hx => ?_
          obtain ⟨x', hx', rfl⟩ := List.mem_map.mp hx
          have := List.all_eq_true.mp hb x' hx'
          unfold tupNE at this
          split at this
          · exact ⟨_, _, rfl⟩
          · cases this
        · refine .inr fun x hx => ?_
          obtain ⟨x', hx', rfl⟩ := List.mem_map.mp hx
          have := List.all_eq_true.mp hb x' hx'
          have hp' := ha x' hx'
          cases x' <;> first | (cases this; done) | (simp [D.py]; done) | (simp [D.pl] at hp'; done) | skip
      · rw [List.length_zip, ll, Nat.min_self]; exact hL
      · intro b hb
        have h0 := ha _ (hmem b hb)
        simp only [Bool.and_eq_true, decide_eq_true_eq] at h0
        rw [dep_py _ h0.1.1]
        omega
      · obtain ⟨g1, g2⟩ := each_back eo
        rw [srt_fst, zip_fst ll] at g1
        obtain ⟨c', hc'⟩ := sortedAll_at s.heap its out.toArray
        have hl : ((((ds.zip ys).mergeSort (W.dataLe false fun b => b.1.py)).map (·.2))).length ≤ sizeLine := by
          rw [List.length_map, List.length_mergeSort, List.length_zip, ll, Nat.min_self]; exact hL
        exact ⟨.ref (s.heap.objs.size + 1), _, I.laid (t' := s.toks) (fun _ _ => sortedAll_old) (Nat.le_succ _) (show ObjOk X.prog X.w _ _ _ (.lst _) from ⟨hl, out, c', g2, hc'⟩), rfl, k _ _ (resL (I.hok.fresh (Nat.le_succ _)) g1)⟩
    · cases e
theorem obj_some {P : Program} {w : World} {H : Hp} {h : Heap} {a : Addr} {o : HO} (x : ObjOk P w H h a o) : ∃ u, h.get? a = some u := by
  cases o with
  | lst xs =>
    obtain ⟨_, _, _, _, e⟩ := x
    exact ⟨_, e⟩
  | tup xs =>
    obtain ⟨_, _, _, p⟩ := x
    obtain ⟨_, e, _⟩ := p
    exact ⟨_, e⟩
  | dK kvs =>
    obtain ⟨_, _, _, _, _, _, _, e, _⟩ := x
    exact ⟨_, e⟩
  | dT kvs =>
    obtain ⟨_, _, _, _, _, _, _, e, _⟩ := x
    exact ⟨_, e⟩
  | set S n =>
    obtain ⟨_, _, _, _, e, _⟩ := x
    exact ⟨_, e⟩
  | ins C dx fs =>
    obtain ⟨_, _, _, e, _⟩ := x
    exact ⟨_, e⟩
  | own y => exact x
  | xd fs =>
    obtain ⟨_, ⟨_, _, _, e, _⟩, _⟩ := x
    exact ⟨_, e⟩
  | rng lo hi =>
    obtain ⟨_, _, _, e⟩ := x
    exact ⟨_, e⟩
  | frz ob u =>
    obtain ⟨e, _⟩ := x
    exact ⟨_, e⟩
  | tbl ps => exact ⟨_, x⟩
  | met f y => exact ⟨_, x⟩
  | ext φ =>
    obtain ⟨_, e, _⟩ := x
    exact e
theorem key_each {h h' : Heap} {a : Addr} {F : Addr → Prop} {H : Hp} (kp : ∀ b o, h.get? b = some o → h'.get? b = some o) : ∀ {ks : List D} {kx : List V} {us : List Value} {as : List Addr}, keyIns ks = true → kx.length = ks.length → ReadsAll h us (D.pys ks) as →
    W.EachIs (fun v (b : D × V) => ∃ as, Reads h' v b.1.py as ∧ a ∉ as) us (ks.zip kx)
  | [], kx, us, as, _, _, r => by
    simp only [D.pys] at r
    cases r
    exact .nil
  | k :: ks, kx, us, as, hk, hl, r => by
    cases kx with
    | nil => cases hl
    | cons x kx =>
      simp only [D.pys] at r
      simp only [keyIns, Bool.and_eq_true] at hk
      cases r with
      | cons r1 r2 =>
        refine .cons ⟨_, Reads.keeps kp r1, ?_⟩ (key_each (F := F) (H := H) kp hk.2 (by simpa using hl) r2)
        rw [(nest_of _ _ _ hk.1 r1).2]
        simp
theorem keyIns_of {ks : List D} (h : ks.all keyLeaf = true ∨ ks.all keyTup = true) : keyIns ks = true := by
  have all : ∀ k ∈ ks, keyIn k = true := fun k hk => h.elim (fun h => (keyLeaf_in (List.all_eq_true.mp h k hk)).1) fun h => (keyTup_in (List.all_eq_true.mp h k hk)).1
  clear h
  induction ks with
  | nil => rfl
  | cons k ks ih => simp only [keyIns, all k (List.mem_cons_self ..), ih fun x hx => all x (List.mem_cons_of_mem _ hx), Bool.and_self]
/-- sorted(d) -/
theorem pr_sortedD (hc : X.calm = true) (hP : X.prog = G.P) (hw : X.w = G.w) (hK : X.K = G.K) (hu : X.A.units + 64 < cLine) : CallR X (.builtin "sorted") (fun xs H Q => ∃ x Fz ks vs, xs = [x] ∧ relR G Fz H (.dct ks vs) x ∧ sortableK ks = true ∧ ks.length ≤ sizeLine ∧
    ∀ z H', resOk G Fz H true (.lst (srt ks)) z H' → Q z H') := by
  rintro pins s σ H xs us Q I rs ⟨x, Fz, ks, vs, e0, hr, hz, hL, k⟩
  subst e0
  obtain ⟨ad, kx, vx, rfl, g1, g2, g3⟩ := (show ∃ a kx vx, x = V.ref a ∧ DHolds G H a ks kx vx ∧ relFs G Fz H ks kx ∧ relFs G Fz H vs vx from hr)
  rw [Vals.ref1 rs]
  obtain ⟨es, ep, dr, hd, hsz, hl, rv, _, kk⟩ := dct_raw hP hw hK I g1 g2
  have hin := keyIns_of kk
  obtain ⟨as, q1⟩ := readsAll_of hK I (keyIns_pls _ hin) g2 rv
  have ll := relFs_length g2
  simp only [Bool.and_eq_true, sortableK] at hz
  obtain ⟨ha, hb⟩ := hz
  have ha := List.all_eq_true.mp ha
  refine Calls.call_function_entry kind_sorted plain_sorted entry_sorted (args_sorted1 _) ?_
  unfold Builtin.«sorted»
  refine wpAny_bind (m := checkCount "sorted" 1 1 _) (wpAny_pure (wpAny_bind ?_))
  refine W.kdu_collect (A := X.A.in1) (KdlSrc.rawDict hd) (I.ok.hd hc) dr hl fun h1 tk acc kp it => ?_
  have ea : acc.toList = es.toList.map (·.key) := by
    refine List.ext_getElem? fun j => ?_
    rw [Array.getElem?_toList, List.getElem?_map, Array.getElem?_toList]
    cases q : acc[j]? with
    | some v =>
      obtain ⟨hi, e⟩ := it.2 j v q
      rw [Array.getElem?_eq_getElem hi, e]; rfl
    | none =>
      have : es.size ≤ j := by rw [← it.1]; exact Array.getElem?_eq_none_iff.mp q
      rw [Array.getElem?_eq_none_iff.mpr this]; rfl
  rw [ea]
  have lu : (es.toList.map (·.key)).length = ks.length := by rw [List.length_map, Array.length_toList, hsz]
  generalize es.toList.map (·.key) = us' at rv q1 lu
  refine wpAny_bind (wpAny_newList ?_ (by rw [lu]; exact hL))
  have gL : (h1.push (seqObj "list" us'.toArray 0)).get? h1.objs.size = some (seqObj "list" us'.toArray 0) := Heap.get?_push_size _ rfl
  have kp2 : ∀ b o, s.heap.get? b = some o → (h1.push (seqObj "list" us'.toArray 0)).get? b = some o := fun b o e => Heap.get?_push_of_some _ (kp b o e)
  have em : (ks.zip kx).map (fun b => b.1.py) = ks.map D.py := by
    have h9 : (ks.zip kx).map (fun b => b.1.py) = ((ks.zip kx).map (·.1)).map D.py := by rw [List.map_map]; rfl
    rw [h9, zip_fst ll]
  have hmem : ∀ b, b ∈ ks.zip kx → b.1 ∈ ks := fun b hb => (List.of_mem_zip hb).1
  have ep := each_pairs g2 rv
  have er := key_each (a := h1.objs.size) (F := Fz) (H := H) kp2 hin ll q1
  have al : W.AllAlike ((ks.zip kx).map fun b => b.1.py) := by
    rw [em]
    intro x hx y hy
    obtain ⟨x', hx', rfl⟩ := List.mem_map.mp hx
    obtain ⟨y', hy', rfl⟩ := List.mem_map.mp hy
    have := ha x' hx'
    simp only [Bool.and_eq_true] at this
    exact List.all_eq_true.mp this.2 y' hy'
  have lz : (ks.zip kx).length ≤ sizeLine := by rw [List.length_zip, ll, Nat.min_self]; exact hL
  have dz : ∀ b, b ∈ ks.zip kx → X.A.in1.units + 1 + b.1.py.depth < cLine := fun b hb => by
    have h0 := ha _ (hmem b hb)
    simp only [Bool.and_eq_true, decide_eq_true_eq] at h0
    rw [dep_py _ h0.1.1]
    show X.A.units + 1 + 1 + _ < cLine
    omega
  have fin : ∀ out : List Value, out.length = (ks.zip kx).length → W.EachIs (prR G Fz H) out ((ks.zip kx).mergeSort (W.dataLe false fun b => b.1.py)) →
      ∃ x H', Inv X pins σ H' { s with heap := sortedHeap (h1.push (seqObj "list" us'.toArray 0)) h1.objs.size us' out.toArray, toks := tk } ∧ L2.RelV x (.ref h1.objs.size) ∧ Q x H' := by
    intro out ho eo
    obtain ⟨p1, p2⟩ := each_back eo
    rw [srt_fst, zip_fst ll] at p1
    obtain ⟨c, hc'⟩ := sortedHeap_at (vs := us') (out := out.toArray) gL
    have kp3 : ∀ b o, s.heap.get? b = some o → (sortedHeap (h1.push (seqObj "list" us'.toArray 0)) h1.objs.size us' out.toArray).get? b = some o := fun b o e => by
      have lt := Heap.lt_size (kp b o e)
      rw [sortedHeap_old (Nat.ne_of_lt lt) (by rw [size_push']; exact Nat.lt_succ_of_lt lt)]
      exact kp2 b o e
    have sn : s.heap.get? h1.objs.size = none := by
      cases q : s.heap.get? h1.objs.size with
      | none => rfl
      | some o => exact absurd (Heap.lt_size (kp _ _ q)) (Nat.lt_irrefl _)
    have Hn : H h1.objs.size = none := by
      cases q : H h1.objs.size with
      | none => rfl
      | some u =>
        obtain ⟨o, e⟩ := obj_some (I.hok _ u q)
        rw [sn] at e; cases e
    have hl2 : ((((ks.zip kx).mergeSort (W.dataLe false fun b => b.1.py)).map (·.2))).length ≤ sizeLine := by
      rw [List.length_map, List.length_mergeSort]; exact lz
    exact ⟨.ref h1.objs.size, _, I.laidN (t' := tk) kp3 sn Hn (show ObjOk X.prog X.w _ _ _ (.lst _) from ⟨hl2, out, c, p2, hc'⟩), rfl, k _ _ (resL Hn p1)⟩
  rcases Bool.or_eq_true _ _ |>.mp hb with hb | hb
  · refine wpAny_bind (wpAny_holding (sort_mix (s := { s with heap := h1.push (seqObj "list" us'.toArray 0), toks := tk }) (enc := fun b : D × V => b.1.py) gL ep er al ?_ lz dz fun out ho eo => wpAny_pure ⟨_, rfl, fin out ho eo⟩))
    rw [em]
    intro x hx
    obtain ⟨x', hx', rfl⟩ := List.mem_map.mp hx
    have := List.all_eq_true.mp hb x' hx'
    cases x' <;> first | (cases this; done) | exact ⟨_, rfl⟩
  · refine wpAny_bind (wpAny_holding (W.list_sort_data (s := { s with heap := h1.push (seqObj "list" us'.toArray 0), toks := tk }) (enc := fun b : D × V => b.1.py) gL ep er al ?_ lz dz fun out ho eo => wpAny_pure ⟨_, rfl, fin out ho eo⟩))
    refine .inr fun x hx => ?_
    rw [em] at hx
    obtain ⟨x', hx', rfl⟩ := List.mem_map.mp hx
    have := List.all_eq_true.mp hb x' hx'
    have hp' := ha x' hx'
    cases x' <;> first | (cases this; done) | (simp [D.py]; done) | (simp [D.pl] at hp'; done) | skip
theorem pr_sorted (hc : X.calm = true) (hP : X.prog = G.P) (hw : X.w = G.w) (hK : X.K = G.K) (hu : X.A.units + 64 < cLine) : CallR X (.builtin "sorted") (fun xs H Q => ∃ x, xs = [x] ∧ rP G .sorted [x] H Q) := fun pins s σ H xs us Q I rs ⟨x, e0, Fz, ds0, o, d, hr, e, k⟩ => by
  subst e0
  obtain ⟨a, rfl, h1⟩ := rr1 hr
  have e : pSorted a = some (o, d) := e
  cases a with
  | dct ks vs =>
    have e : (if sortableK ks && decide (ks.length ≤ sizeLine) then some (true, D.lst (srt ks)) else none) = some (o, d) := e
    split at e
    · rename_i hz
      cases e
      rw [Bool.and_eq_true, decide_eq_true_eq] at hz
      exact pr_sortedD hc hP hw hK hu pins s σ H [x] us Q I rs ⟨x, Fz, ks, vs, rfl, h1, hz.1, hz.2, k⟩
    · cases e
  | _ => exact pr_sortedL hK (by omega) pins s σ H [x] us Q I rs ⟨x, Fz, _, o, d, rfl, h1, e, k⟩
end
end PF
set_option Elab.async false
set_option linter.all false
set_option maxRecDepth 100000
set_option maxHeartbeats 1000000
namespace PF
open PySem PySem.Spec PyProof.Rows L2
def notStar : Expr → Bool
  | .Starred _ _ => false
  | _ => true
theorem star_cons {e : Expr} {es : List Expr} {env : PySem.Env} (h : notStar e = true) : starEach (e :: es) env = (false, eval e env) :: starEach es env := by
  cases e <;> first | rfl | cases h
theorem back_any {pos : Pos} {env : PySem.Env} : ∀ {es : List Expr}, es.all notStar = true → (backTo pos (starEach es env)).any (·.1) = false
  | [], _ => rfl
  | e :: es, h => by
    rw [List.all_cons, Bool.and_eq_true] at h
    rw [star_cons h.1]
    show (false || (backTo pos (starEach es env)).any (·.1)) = false
    rw [back_any h.2]; rfl
theorem back_all {pos : Pos} {env : PySem.Env} : ∀ {es : List Expr}, es.all notStar = true → (backTo pos (starEach es env)).all (fun x => !x.1) = true
  | [], _ => rfl
  | e :: es, h => by
    rw [List.all_cons, Bool.and_eq_true] at h
    rw [star_cons h.1]
    show (true && (backTo pos (starEach es env)).all (fun x => !x.1)) = true
    rw [back_all h.2]; rfl
section
variable {G : Gp} {Φ : Str → List Sl → FR} {γ : Str → Option D} {W : WX} {X : Cx} {σ : L2.St} {H : Hp}
/-- .. of operands, late -/
theorem op_rdEs {p : Op} {es : List E} {Q : VK} (h : rdE G Φ γ W (.op p es) σ H Q) : rdEs G Φ γ W es σ H fun xs H' => rP G p xs H' Q := by
  obtain ⟨Fz, env, R, k⟩ := h
  refine ⟨Fz, env, R, ?_⟩
  rw [ev] at k
  cases hs : evs Φ γ es env with
  | st => rw [hs] at k; exact k
  | ex x e1 => rw [hs] at k; exact k
  | ok vs e1 =>
    rw [hs] at k
    intro F1 H1 xs p1 v1 n1
    simp only [REs.bd] at k
    cases hl : lates vs e1 with
    | none => rw [hl] at k; exact k.elim
    | some ds =>
      rw [hl] at k
      simp only [onE, primE] at k
      cases hp : prim p ds with
      | none => rw [hp] at k; exact k.elim
      | some q =>
        obtain ⟨o, d⟩ := q
        rw [hp] at k
        refine ⟨F1, ds, o, d, lates_ok v1 p1.rel hl, hp, fun v H2 res => ?_⟩
        have p2 := p1.trans (Pst.grow p1.rel res.1)
        have k : kE G W Fz H env σ Q (.ok (flOf o) d e1) := k
        refine k F1 H2 v p2 ?_ ?_
        · cases o with
          | false =>
            have r := res.2
            rw [if_neg Bool.false_ne_true] at r
            exact r
          | true =>
            have r := res.2
            rw [if_pos rfl] at r
            obtain ⟨a, e, n, ro⟩ := r
            exact ⟨a, e, fun z => p1.rel.fin a z n, fun z => p1.rel.there z n, ro⟩
        · intro ef a ea
          cases o with
          | false => cases ef
          | true =>
            have r := res.2
            rw [if_pos rfl] at r
            obtain ⟨b, e, n, ro⟩ := r
            rw [e] at ea; cases ea
            exact p1.ext.alive a n
theorem op1 {p : Op} {a : E} {Q : VK} (h : rdE G Φ γ W (.op p [a]) σ H Q) : rdE G Φ γ W a σ H fun x H1 => rP G p [x] H1 Q := by
  obtain ⟨Fz, env, R, k⟩ := rdEs_cons (op_rdEs h)
  exact ⟨Fz, env, R, k.imp fun v H h => rdEs_nil h⟩
theorem rdE_mono {m : E} {Q Q' : VK} (h : rdE G Φ γ W m σ H Q) (i : ∀ v H, Q v H → Q' v H) : rdE G Φ γ W m σ H Q' := by
  obtain ⟨Fz, env, R, k⟩ := h
  exact ⟨Fz, env, R, k.imp i⟩
theorem op2 {p : Op} {a b : E} {Q : VK} (h : rdE G Φ γ W (.op p [a, b]) σ H Q) : rdE G Φ γ W a σ H fun x H1 => rdE G Φ γ W b σ H1 fun y H2 => rP G p [x, y] H2 Q :=
  rdE_mono (rdEs_cons (op_rdEs h)) fun _ _ h => rdE_mono (rdEs_cons h) fun _ _ h => rdEs_nil h
end
section
variable {G : Gp} {Φ : Str → List Sl → FR} {γ : Str → Option D} {W : WX} {X : Cx} {F : Addr → Prop} {H : Hp} {env : Env} {σ : L2.St}
theorem slAt_some {i : Nat} {v : V} (h : slAt σ i = some v) : σ[i]? = some (some v) := by
  unfold slAt at h
  cases e : σ[i]? with
  | none => rw [e] at h; cases h
  | some o => rw [e] at h; simp only [Option.getD_some] at h; rw [h]
/-- an owned slot is frozen -/
theorem Pst.frz {i : Nat} {d : D} (R : Rel G F H env σ) (e : getS env i = .ow d) : ∃ a, slAt σ i = some (.ref a) ∧ Pst G F H env σ (fun b => F b ∨ b = a) H (setS env i (.fr d)) σ ∧ relF G (fun b => F b ∨ b = a) H d (.ref a) := by
  have q := R.slot i
  rw [e] at q
  obtain ⟨a, h1, h2, h3⟩ := q
  have hi : i < env.length := getS_lt (by rw [e]; exact fun z => nomatch z)
  have hr : relF G (fun b => F b ∨ b = a) H d (.ref a) := relF_of_relO (relO_sub (fun _ z => .inl z) h3) (.inr rfl)
  have own : ∀ j, isOwn (getS (setS env i (.fr d)) j) = true → j ≠ i ∧ isOwn (getS env j) = true := fun j hj => by
    by_cases hji : i = j
    · subst hji; rw [getS_set_self hi] at hj; cases hj
    · rw [getS_set_ne hji] at hj; exact ⟨fun z => hji z.symm, hj⟩
  have na : ∀ j, isOwn (getS (setS env i (.fr d)) j) = true → slAt σ j ≠ some (.ref a) := fun j hj z => by
    obtain ⟨h4, h5⟩ := own j hj
    exact h4 (R.one j i a h5 (by rw [e]; rfl) z h1)
  have there := (relO_there h3).1
  have hMl : ∀ b, Ml (setS env i (.fr d)) σ b → Ml env σ b := fun b ⟨j, h4, h5⟩ => ⟨j, (own j h4).2, h5⟩
  refine ⟨a, h1, ⟨⟨fun _ _ h _ => h, fun _ h => h, fun _ h => .inl h, fun b h => h.elim .inl fun z => .inr (.inl ⟨i, d, e, by rw [z]; exact h1⟩)⟩, ⟨by rw [setS_length]; exact R.len, fun j => ?_, fun j k b hj hk => R.one j k b (own j hj).2 (own k hk).2, fun b h => ?_⟩, fun b h => .inl (hMl b h), fun b ⟨j, d', h4, h5⟩ => ?_, fun j d' h => ?_⟩, hr⟩
  · by_cases hji : i = j
    · subst hji; rw [getS_set_self hi]; exact ⟨_, h1, hr⟩
    · rw [getS_set_ne hji]
      have q := R.slot j
      have naj := na j
      rw [getS_set_ne hji] at naj
      cases z : getS env j with
      | non => trivial
      | fr x =>
        rw [z] at q
        obtain ⟨v, h4, h5⟩ := q
        exact ⟨v, h4, relF_sub (fun _ z => .inl z) x v h5⟩
      | ow x =>
        rw [z] at q naj
        obtain ⟨v, h4, h6, h5⟩ := q
        exact ⟨v, h4, fun k => k.elim h6 fun k => naj rfl (by rw [h4, k]), relO_sub (fun _ z => .inl z) h5⟩
      | lk x =>
        rw [z] at q naj
        obtain ⟨v, h4, h6, h5⟩ := q
        exact ⟨v, h4, fun k => k.elim h6 fun k => naj rfl (by rw [h4, k]), relO_sub (fun _ z => .inl z) h5⟩
  · rcases h with h | h
    · exact R.fin b h
    · obtain ⟨o, ho⟩ := there
      rw [h, ho]; exact fun z => nomatch z
  · have hj : j ≠ i := (own j (by rw [h4]; rfl)).1
    rw [getS_set_ne (Ne.symm hj)] at h4
    exact .inl ⟨j, d', h4, h5⟩
  · have hj : j ≠ i := (own j (by rw [h]; rfl)).1
    rw [getS_set_ne (Ne.symm hj)] at h
    exact ⟨h, rfl⟩
theorem e_var {i : Nat} {x : Str} {pos : Pos} (hN : X.N[i]? = some x) (hv : Vis X.env.scope x) (hd : (x == ("__debug__" : Str)) = false) (hcd : (x == ("__classdict__" : Str)) = false) : PE X (.Name x pos) (rdE G Φ γ W (.var i)) :=
  PE.imp (pe_var hN hv hd hcd) fun σ H Q ⟨F, env, R, k⟩ => by
    rw [ev] at k
    cases e : getS env i with
    | non => rw [e] at k; exact k.elim
    | lk d => rw [e] at k; exact k.elim
    | fr d =>
      rw [e] at k
      have q := R.slot i
      rw [e] at q
      obtain ⟨v, h1, h2⟩ := q
      exact ⟨v, slAt_some h1, k F H v (.refl R) h2 fun z => nomatch z⟩
    | ow d =>
      rw [e] at k
      obtain ⟨a, h1, p, r⟩ := Pst.frz R e
      exact ⟨_, slAt_some h1, k _ H _ p r fun z => nomatch z⟩
theorem e_pk {i : Nat} {x : Str} {pos : Pos} (hN : X.N[i]? = some x) (hv : Vis X.env.scope x) (hd : (x == ("__debug__" : Str)) = false) (hcd : (x == ("__classdict__" : Str)) = false) : PE X (.Name x pos) (rdE G Φ γ W (.pk i)) :=
  PE.imp (pe_var hN hv hd hcd) fun σ H Q ⟨F, env, R, k⟩ => by
    rw [ev] at k
    cases e : (getS env i).d? with
    | none => rw [e] at k; exact k.elim
    | some d =>
      rw [e] at k
      have q := R.slot i
      have : ∃ v, slAt σ i = some v := by
        cases z : getS env i with
        | non => rw [z] at e; cases e
        | fr d => rw [z] at q; obtain ⟨v, h1, _⟩ := q; exact ⟨v, h1⟩
        | ow d => rw [z] at q; obtain ⟨v, h1, _⟩ := q; exact ⟨_, h1⟩
        | lk d => rw [z] at q; obtain ⟨v, h1, _⟩ := q; exact ⟨_, h1⟩
      obtain ⟨v, h1⟩ := this
      exact ⟨v, slAt_some h1, k F H v (.refl R) h1 fun z => nomatch z⟩
theorem e_lit {e : Expr} {d : D} {v : V} (h : PE X e (tC v)) (r : ∀ F H, relF G F H d v) : PE X e (rdE G Φ γ W (.lit d)) :=
  PE.imp h fun σ H Q ⟨F, env, R, k⟩ => by
    rw [ev] at k
    exact k F H v (.refl R) (r F H) fun z => nomatch z
theorem e_gl {e : Expr} {x : Str} {d : D} {v : V} (h : PE X e (tC v)) (hx : γ x = some d) (r : ∀ F H, relF G F H d v) : PE X e (rdE G Φ γ W (.gl x)) :=
  PE.imp h fun σ H Q ⟨F, env, R, k⟩ => by
    rw [ev, hx] at k
    exact k F H v (.refl R) (r F H) fun z => nomatch z
end
end PF
set_option Elab.async false
set_option linter.all false
set_option maxRecDepth 100000
set_option maxHeartbeats 1000000
namespace PF
open PySem PySem.Spec PyProof.Rows L2
section
variable {G : Gp} {Φ : Str → List Sl → FR} {γ : Str → Option D} {W : WX} {X : Cx} {a b c : Expr} {ma mb mc : E} {pos : Pos}
theorem e_bin {op : Operator} {p : Op} (ho : OpR X (binaryOp op) (fun x y => rP G p [x, y])) (ha : PE X a (rdE G Φ γ W ma)) (hb : PE X b (rdE G Φ γ W mb)) : PE X (.BinOp a op b pos) (rdE G Φ γ W (.op p [ma, mb])) :=
  PE.imp (pe_op ho ha hb) fun _ _ _ h => op2 h
theorem e_un {op : UnaryOp} {p : Op} (ho : UnR X (unaryOp op) (fun x => rP G p [x])) (ha : PE X a (rdE G Φ γ W ma)) : PE X (.UnaryOp op a pos) (rdE G Φ γ W (.op p [ma])) :=
  PE.imp (pe_un ho ha) fun _ _ _ h => op1 h
theorem e_cmp {op : CmpOp} {p : Op} (ho : OpR X (compareOp op) (fun x y => rP G p [x, y])) (ha : PE X a (rdE G Φ γ W ma)) (hb : PE X b (rdE G Φ γ W mb)) (hm : behindInMarks op b = false) : PE X (.Compare a [op] [b] pos) (rdE G Φ γ W (.op p [ma, mb])) :=
  PE.imp (pe_cmpR ho ha hb hm) fun _ _ _ h => op2 h
theorem e_is {op : CmpOp} {p : Op} {j pos'} (ho : OpR X (compareOp op) (fun x y H Q => y = .non ∧ rP G p [x] H Q)) (ha : PE X a (rdE G Φ γ W ma)) : PE X (.Compare a [op] [.Constant .none j pos'] pos) (rdE G Φ γ W (.op p [ma])) :=
  PE.imp (pe_cmpR ho ha pe_non (by rfl)) fun _ _ _ h => rdE_mono (op1 h) fun _ _ h => ⟨rfl, h⟩
theorem e_ix (hr : IxR X (fun x y => rP G .idx [x, y])) (ha : PE X a (rdE G Φ γ W ma)) (hb : PE X b (rdE G Φ γ W mb)) (hs : PlainIx b) : PE X (.Subscript a b pos) (rdE G Φ γ W (.op .idx [ma, mb])) :=
  PE.imp (pe_ix hr ha hb hs) fun _ _ _ h => op2 h
theorem e_callB {p : Op} {id : String} {x : Str} {p1 : Pos} (hc : CallR X (.builtin id) (fun xs H Q => ∃ x, xs = [x] ∧ rP G p [x] H Q)) (hg : Gl X x) (hm : X.mg x = none) (hv : bootBuiltins x = some (.builtin id)) (ha : PE X a (rdE G Φ γ W ma)) (ns : notStar a = true)
    (hn : x ≠ "__name__") (hdb : (x == ("__debug__" : Str)) = false) : PE X (.Call (.Name x p1) [a] [] pos) (rdE G Φ γ W (.op p [ma])) :=
  PE.imp (pe_callB hc hg hm hv (pa_cons ha pa_nil (star_cons ns)) hn hdb (star_cons ns) rfl) fun _ _ _ h => rdE_mono (op1 h) fun v _ h => ⟨v, rfl, h⟩
theorem e_callT {p : Op} {id : String} {x : Str} {p1 : Pos} (hc : CallR X (.type id) (fun xs H Q => ∃ x, xs = [x] ∧ rP G p [x] H Q)) (hg : Gl X x) (hm : X.mg x = none) (hv : bootBuiltins x = some (.type id)) (ha : PE X a (rdE G Φ γ W ma)) (ns : notStar a = true)
    (hn : x ≠ "__name__") (hdb : (x == ("__debug__" : Str)) = false) : PE X (.Call (.Name x p1) [a] [] pos) (rdE G Φ γ W (.op p [ma])) :=
  PE.imp (pe_callTy hc hg hm hv (pa_cons ha pa_nil (star_cons ns)) hn hdb (star_cons ns) rfl) fun _ _ _ h => rdE_mono (op1 h) fun v _ h => ⟨v, rfl, h⟩
theorem e_callB2 {p : Op} {id : String} {x : Str} {p1 : Pos} (hc : CallR X (.builtin id) (fun xs H Q => ∃ x y, xs = [x, y] ∧ rP G p [x, y] H Q)) (hg : Gl X x) (hm : X.mg x = none) (hv : bootBuiltins x = some (.builtin id)) (ha : PE X a (rdE G Φ γ W ma)) (hb : PE X b (rdE G Φ γ W mb)) (ns : notStar a = true) (ns2 : notStar b = true)
    (hn : x ≠ "__name__") (hdb : (x == ("__debug__" : Str)) = false) : PE X (.Call (.Name x p1) [a, b] [] pos) (rdE G Φ γ W (.op p [ma, mb])) :=
  PE.imp (pe_callB hc hg hm hv (pa_cons ha (pa_cons hb pa_nil (star_cons ns2)) (star_cons ns)) hn hdb (star_cons ns) (back_any (by simp [ns2]))) fun _ _ _ h => rdE_mono (op2 h) fun v _ h => rdE_mono h fun w _ h => ⟨v, w, rfl, h⟩
theorem rP_up {p : Op} {xs : List V} {H : Hp} {Q : VK} {q : Addr} {u : HO} (hp : ∀ ds o d, prim p ds = some (o, d) → o = false) (hq : H q = none) (h : rP G p xs H Q) : rP G p xs (upd H q u) (fun v H' => Q v H') := by
  obtain ⟨Fz, ds, o, d, hr, e, k⟩ := h
  obtain rfl := hp _ _ _ e
  have up : ∀ {ds : List D} {xs : List V}, relRs G Fz H ds xs → relRs G Fz (upd H q u) ds xs := by
    intro ds
    induction ds with
    | nil => intro xs h; exact h
    | cons d r ih =>
      intro xs ⟨x, xr, e, h1, h2⟩
      refine ⟨x, xr, e, ?_, ih h2⟩
      have g := grow_new (o := u) hq
      cases d with
      | lst ds =>
        obtain ⟨a, ys, e, h1, h2⟩ := rLst h1
        exact ⟨a, ys, e, Rd_ext (M := fun _ => False) (F := Fz) (F' := Fz) (.grow g) (fun z => z) h1, relFs_grow g h2⟩
      | dct ks vs =>
        obtain ⟨a, kx, vx, e, h1, h2, h3⟩ := (show ∃ a kx vx, _ from h1)
        exact ⟨a, kx, vx, e, DHolds_ext (M := fun _ => False) (F := Fz) (F' := Fz) (.grow g) (fun z => z) h1, relFs_grow g h2, relFs_grow g h3⟩
      | _ => exact relR_of_relF (relF_grow (F := Fz) g h1)
  refine ⟨Fz, ds, false, d, up hr, e, fun v H' r => k v H' ⟨fun a u' e => r.1 a u' (grow_new hq a u' e), r.2⟩⟩
theorem isinst_fr {ts : List Ty} : ∀ ds o d, prim (.isinst ts) ds = some (o, d) → o = false := fun ds o d e => by
  have : ∃ a, ds = [a] := by
    rcases ds with _ | ⟨a, _ | ⟨b, r⟩⟩
    · cases e
    · exact ⟨a, rfl⟩
    · cases e
  obtain ⟨a, rfl⟩ := this
  rw [show prim (.isinst ts) [a] = pIsi ts a from rfl] at e
  unfold pIsi at e
  split at e
  · cases e; rfl
  · cases e
theorem pe_tynm {t : Ty} {p1 : Pos} (hg : Gl X (tyNm t)) (hm : X.mg (tyNm t) = none) : PE X (.Name (tyNm t) p1) (tC (.ty (tyNm t))) :=
  pe_bltn hg hm (u := .type (tyNm t)) (by cases t <;> rfl) rfl (by cases t <;> decide) (by cases t <;> decide)
theorem e_isi {t : Ty} {x : Str} {p1 p2 : Pos} (hK : X.K = G.K) (hg : Gl X "isinstance") (hm : X.mg "isinstance" = none) (hgt : Gl X (tyNm t)) (hmt : X.mg (tyNm t) = none) (ha : PE X a (rdE G Φ γ W ma)) (ns : notStar a = true) :
    PE X (.Call (.Name "isinstance" p1) [a, .Name (tyNm t) p2] [] pos) (rdE G Φ γ W (.op (.isinst [t]) [ma])) :=
  PE.imp (pe_callB (pr_isi hK t) hg hm rfl (pa_cons ha (pa_cons (pe_tynm hgt hmt) pa_nil) (star_cons ns)) (by decide) (by decide) (star_cons ns) rfl) fun _ _ _ h => rdE_mono (op1 h) fun v _ h => ⟨v, rfl, h⟩
def tyNames : List Ty → List Pos → List Expr
  | t :: ts, p :: ps => .Name (tyNm t) p :: tyNames ts ps
  | _, _ => []
theorem pa_tys : ∀ {ts : List Ty} {ps : List Pos}, ts.length = ps.length → (∀ t ∈ ts, Gl X (tyNm t) ∧ X.mg (tyNm t) = none) → PA X (tyNames ts ps) (fun _ H Q => Q (ts.map fun t => V.ty (tyNm t)) H)
  | [], [], _, _ => PA.imp pa_nil fun _ _ _ h => h
  | t :: ts, p :: ps, hl, h => PA.imp (pa_cons (pe_tynm (h t List.mem_cons_self).1 (h t List.mem_cons_self).2) (pa_tys (by simpa using hl) fun u hu => h u (List.mem_cons_of_mem _ hu)) rfl) fun _ _ _ h => h
theorem e_isiT {ts : List Ty} {ps : List Pos} {x : Str} {p1 p2 : Pos} {x1} (hK : X.K = G.K) (hg : Gl X "isinstance") (hm : X.mg "isinstance" = none) (hl : ts.length = ps.length) (hz : ts.length ≤ 10) (hts : ∀ t ∈ ts, Gl X (tyNm t) ∧ X.mg (tyNm t) = none) (ha : PE X a (rdE G Φ γ W ma)) (ns : notStar a = true) :
    PE X (.Call (.Name "isinstance" p1) [a, .Tuple (tyNames ts ps) x1 p2] [] pos) (rdE G Φ γ W (.op (.isinst ts) [ma])) :=
  PE.imp (pe_callB (pr_isiT hK ts) hg hm rfl (pa_cons ha (pa_cons (pe_tup (pa_tys hl hts)) pa_nil) (star_cons ns)) (by decide) (by decide) (star_cons ns) rfl) fun _ _ _ h => rdE_mono (op1 h) fun v H1 h =>
    ⟨by rw [List.length_map, sizeLine_eq]; omega, fun q hq => ⟨v, q, rfl, upd_same, rP_up isinst_fr hq h⟩⟩
theorem rInt' {F : Addr → Prop} {H : Hp} {d : D} {x : V} {i : Int} (h : relR G F H d x) (e : int? d = some i) : x = .int i := by
  cases d with
  | int j => cases e; exact rInt h
  | _ => cases e
theorem oI_some {d : D} {o : Option Int} (h : oI d = some o) : ∃ i, int? d = some i ∧ o = some i := by
  unfold oI at h
  cases e : int? d with
  | none => rw [e] at h; cases h
  | some i => rw [e] at h; cases h; exact ⟨i, rfl, rfl⟩
theorem e_slLo {p2 : Pos} (hK : X.K = G.K) (ha : PE X a (rdE G Φ γ W ma)) (hb : PE X b (rdE G Φ γ W mb)) : PE X (.Subscript a (.Slice (some b) none none p2) pos) (rdE G Φ γ W (.op .slLo [ma, mb])) :=
  PE.imp (pe_slice (pr_cut hK) ha (po_some hb) po_none) fun _ _ _ h => rdE_mono (op2 h) fun x H1 h => rdE_mono h fun y H2 ⟨Fz, ds, o, d, hr, e, k⟩ => by
    obtain ⟨u, v, rfl, h1, h2⟩ := rr2 hr
    rw [show prim .slLo [u, v] = pCut (oI v) (some none) u from rfl] at e
    unfold pCut at e
    cases e1 : oI v with
    | none => rw [e1] at e; cases e
    | some l =>
      rw [e1] at e
      obtain ⟨i, e2, rfl⟩ := oI_some e1
      exact ⟨i, rInt' h2 e2, Fz, u, o, d, h1, e, k⟩
theorem e_slHi {p2 : Pos} (hK : X.K = G.K) (ha : PE X a (rdE G Φ γ W ma)) (hb : PE X b (rdE G Φ γ W mb)) : PE X (.Subscript a (.Slice none (some b) none p2) pos) (rdE G Φ γ W (.op .slHi [ma, mb])) :=
  PE.imp (pe_slice (pr_cut hK) ha po_none (po_some hb)) fun _ _ _ h => rdE_mono (op2 h) fun x H1 h => rdE_mono h fun y H2 ⟨Fz, ds, o, d, hr, e, k⟩ => by
    obtain ⟨u, v, rfl, h1, h2⟩ := rr2 hr
    rw [show prim .slHi [u, v] = pCut (some none) (oI v) u from rfl] at e
    unfold pCut at e
    cases e1 : oI v with
    | none => rw [e1] at e; cases e
    | some l =>
      rw [e1] at e
      obtain ⟨i, e2, rfl⟩ := oI_some e1
      exact ⟨i, rInt' h2 e2, Fz, u, o, d, h1, e, k⟩
/-- one after another -/
theorem kE_bd {r : RE} {kk : Fl → D → Env → RE} {Q Q1 : VK} {F : Addr → Prop} {H : Hp} {env : Env} {σ : L2.St} (k : kE G W F H env σ Q (r.bd kk))
    (i : ∀ f d e1, r = .ok f d e1 → ∀ F1 H1 v, Pst G F H env σ F1 H1 e1 σ → vOk G F1 H1 e1 σ f d v → vNew H f v → kE G W F1 H1 e1 σ Q (kk f d e1) → Q1 v H1) : kE G W F H env σ Q1 r := by
  cases r with
  | ok f d e1 => exact fun F1 H1 v p vo n => i f d e1 rfl F1 H1 v p vo n (kE.back p k)
  | ex x e1 => exact k
  | st => exact k
theorem e_sl {p2 : Pos} (hK : X.K = G.K) (ha : PE X a (rdE G Φ γ W ma)) (hb : PE X b (rdE G Φ γ W mb)) (hc : PE X c (rdE G Φ γ W mc)) : PE X (.Subscript a (.Slice (some b) (some c) none p2) pos) (rdE G Φ γ W (.sl ma mb mc)) :=
  PE.imp (pe_slice (pr_cut hK) ha (po_some hb) (po_some hc)) fun σ H Q ⟨F, env, R, k⟩ => by
    rw [ev] at k
    refine ⟨F, env, R, kE_bd k fun fa da e1 _ F1 H1 x p1 v1 n1 k1 => ⟨F1, e1, p1.rel, kE_bd k1 fun fb db e2 _ F2 H2 y p2 v2 n2 k2 => ?_⟩⟩
    cases hi : late fb db e2 with
    | none => rw [hi] at k2; exact k2.elim
    | some di =>
      rw [hi] at k2
      cases di with
      | int i =>
        have r2 := rInt (v2.late p2.rel hi)
        refine ⟨i, r2, F2, e2, p2.rel, kE_bd k2 fun fc dc e3 _ F3 H3 z p3 v3 n3 k3 => ?_⟩
        cases hj : late fc dc e3 with
        | none => rw [hj] at k3; exact k3.elim
        | some dj =>
          rw [hj] at k3
          cases dj with
          | int j =>
            have r3 := rInt (v3.late p3.rel hj)
            refine ⟨j, r3, ?_⟩
            cases hx : late fa da e3 with
            | none => simp only [intE, hx] at k3; exact k3.elim
            | some dx =>
              simp only [intE, hx, onE, primE] at k3
              have r1 := ((v1.step p1.rel p2).step p2.rel p3).late p3.rel hx
              cases hq : cutD dx (some i) (some j) with
              | none => rw [hq] at k3; exact k3.elim
              | some q =>
                obtain ⟨o, d⟩ := q
                rw [hq] at k3
                have k3 : kE G W F3 H3 e3 σ Q (.ok (flOf o) d e3) := k3
                refine ⟨F3, dx, o, d, r1, hq, fun v H4 res => k3 F3 H4 v (Pst.grow p3.rel res.1) ?_ ?_⟩
                · cases o with
                  | false => have r := res.2; rw [if_neg Bool.false_ne_true] at r; exact r
                  | true =>
                    have r := res.2; rw [if_pos rfl] at r
                    obtain ⟨a, e, n, ro⟩ := r
                    exact ⟨a, e, fun z => p3.rel.fin a z n, fun z => p3.rel.there z n, ro⟩
                · intro ef a ea
                  cases o with
                  | false => cases ef
                  | true =>
                    have r := res.2; rw [if_pos rfl] at r
                    obtain ⟨b, e, n, ro⟩ := r
                    rw [e] at ea; cases ea; exact n
          | _ => exact k3.elim
      | _ => exact k2.elim
end
section
variable {G : Gp} {Φ : Str → List Sl → FR} {γ : Str → Option D} {W : WX} {X : Cx} {a b c : Expr} {ma mb mc : E} {pos : Pos}
/-- a test whose value is True or False -/
theorem rdT_bl {m : E} {σ : L2.St} {H : Hp} {Q : Bool → Hp → Prop} (hb : ∀ env f d e1, ev Φ γ m env = .ok f d e1 → f = .fr ∧ ∃ b, d = .bl b) (h : rdT G Φ γ W m σ H Q) : rdE G Φ γ W m σ H fun x H' => ∃ k, x = .bl k ∧ Q k H' := by
  obtain ⟨F, env, R, k⟩ := h
  refine ⟨F, env, R, ?_⟩
  unfold evT RE.truth at k
  cases e : ev Φ γ m env with
  | st => rw [e] at k; exact k
  | ex x e1 => rw [e] at k; exact k
  | ok f d e1 =>
    rw [e] at k
    obtain ⟨rfl, b, rfl⟩ := hb _ _ _ _ e
    intro F1 H1 v p1 v1 n1
    have v1 : relF G F1 H1 (.bl b) v := v1
    simp only [relF] at v1
    exact ⟨b, v1, k F1 H1 p1⟩
/-- the operations that answer True or False -/
def isCmp : Op → Bool
  | .eq | .ne | .lt | .le | .gt | .ge | .isIn | .notIn | .isN | .notN => true
  | _ => false
theorem prim_cmp {p : Op} (hp : isCmp p = true) {ds : List D} {o : Bool} {d : D} (e : prim p ds = some (o, d)) : o = false ∧ ∃ b, d = .bl b := by
  have ob_ : ∀ {b : Bool}, ob b = some (o, d) → o = false ∧ ∃ b, d = .bl b := fun {b} e => by cases e; exact ⟨rfl, _, rfl⟩
  have eq_ : ∀ {n : Bool} {a b : D}, pEq n a b = some (o, d) → o = false ∧ ∃ b, d = .bl b := fun {n a b} e => by
    unfold pEq at e
    split at e
    · exact ob_ e
    · split at e
      · exact ob_ e
      · cases e
  have lt_ : ∀ {n : Bool} {a b : D}, pLt n a b = some (o, d) → o = false ∧ ∃ b, d = .bl b := fun {n a b} e => by
    unfold pLt at e
    split at e
    · exact ob_ e
    · cases e
  have in_ : ∀ {n : Bool} {a b : D}, pIn n a b = some (o, d) → o = false ∧ ∃ b, d = .bl b := fun {n a b} e => by
    unfold pIn at e
    split at e
    · rename_i ds
      cases e1 : pyIn a ds with
      | none => rw [e1] at e; cases e
      | some w => rw [e1] at e; exact ob_ e
    · rename_i ds
      cases e1 : pyIn a ds with
      | none => rw [e1] at e; cases e
      | some w => rw [e1] at e; exact ob_ e
    · split at e
      · exact ob_ e
      · cases e
    · exact ob_ e
    · cases e
  unfold prim at e
  split at e <;> first
    | exact eq_ e
    | exact lt_ e
    | exact in_ e
    | exact ob_ e
    | cases hp
    | cases e
theorem ev_cmp {p : Op} (hp : isCmp p = true) {es : List E} : ∀ env f d e1, ev Φ γ (.op p es) env = .ok f d e1 → f = .fr ∧ ∃ b, d = .bl b := fun env f d e1 e => by
  rw [ev] at e
  cases hs : evs Φ γ es env with
  | st => rw [hs] at e; cases e
  | ex x e2 => rw [hs] at e; cases e
  | ok vs e2 =>
    rw [hs] at e
    simp only [REs.bd] at e
    cases hl : lates vs e2 with
    | none => rw [hl] at e; cases e
    | some ds =>
      rw [hl] at e
      simp only [onE, primE] at e
      cases hq : prim p ds with
      | none => rw [hq] at e; cases e
      | some q =>
        obtain ⟨o, d'⟩ := q
        rw [hq] at e
        obtain ⟨rfl, b, rfl⟩ := prim_cmp hp hq
        cases e
        exact ⟨rfl, b, rfl⟩
theorem t_cmp {op : CmpOp} {p : Op} (hp : isCmp p = true) (ho : OpR X (compareOp op) (fun x y => rP G p [x, y])) (ha : PE X a (rdE G Φ γ W ma)) (hb : PE X b (rdE G Φ γ W mb)) (hm : behindInMarks op b = false) : PT X (.Compare a [op] [b] pos) (rdT G Φ γ W (.op p [ma, mb])) :=
  PT.imp (pt_cmpR ho ha hb hm) fun _ _ _ h => op2 (rdT_bl (ev_cmp hp) h)
theorem t_is {op : CmpOp} {p : Op} {j pos'} (hp : isCmp p = true) (ho : OpR X (compareOp op) (fun x y H Q => y = .non ∧ rP G p [x] H Q)) (ha : PE X a (rdE G Φ γ W ma)) : PT X (.Compare a [op] [.Constant .none j pos'] pos) (rdT G Φ γ W (.op p [ma])) :=
  PT.imp (pt_cmpR ho ha pe_non (by rfl)) fun _ _ _ h => rdE_mono (op1 (rdT_bl (ev_cmp hp) h)) fun _ _ h => ⟨rfl, h⟩
/-- a value's truth -/
theorem tru_all (hP : X.prog = G.P) (hw : X.w = G.w) (hK : X.K = G.K) : TruR X (fun x H Q => ∃ F d b, relR G F H d x ∧ truthy d = some b ∧ Q b H) := by
  intro pins s σ H x v Q I rx ⟨Fz, d, b, h, e, q⟩
  cases d with
  | non => cases e; exact tru_ok pins s σ H x v Q I rx ⟨false, (by rw [rNon h]; rfl), q⟩
  | bl k => cases e; exact tru_ok pins s σ H x v Q I rx ⟨b, (by rw [rBl h]; rfl), q⟩
  | int k => cases e; exact tru_ok pins s σ H x v Q I rx ⟨_, (by rw [rInt h]; rfl), q⟩
  | str k =>
    rw [show PF.truthy (.str k) = (if k.length ≤ sizeLine then some (k.length != 0) else none) from rfl] at e
    split at e
    · rename_i hz
      cases e
      have key : (k.length != 0) = ((k.length : Int) != 0) := by
        rw [Bool.eq_iff_iff]
        simp only [bne_iff_ne, ne_eq]
        omega
      refine tru_ok pins s σ H x v Q I rx ⟨k.length != 0, (by rw [rStr h]; exact ⟨hz, key⟩), q⟩
    · cases e
  | tup ds =>
    cases e
    obtain ⟨p, xs, rfl, t1, f1⟩ := rTup h
    refine tru_ok pins s σ H _ v Q I rx ⟨!ds.isEmpty, .inr (.inl ⟨xs, hK ▸ t1, ?_⟩), q⟩
    have := relFs_length f1
    cases ds <;> cases xs <;> simp_all
  | lst ds =>
    cases e
    obtain ⟨p, xs, rfl, t1, f1⟩ := rLst h
    refine tru_ok pins s σ H _ v Q I rx ⟨!ds.isEmpty, .inl ⟨xs, .inl t1, ?_⟩, q⟩
    have := relFs_length f1
    cases ds <;> cases xs <;> simp_all
  | dct ks vs =>
    have e : (if ks.all keyLeaf then some (!ks.isEmpty) else none) = some b := e
    split at e
    · rename_i hl
      cases e
      exact dct_tru hP hw hK pins s σ H x v Q I rx ⟨Fz, ks, vs, hl, h, q⟩
    · cases e
  | ins _ _ _ => cases e
theorem t_val (hP : X.prog = G.P) (hw : X.w = G.w) (hK : X.K = G.K) (ha : PE X a (rdE G Φ γ W ma)) (he : ∀ whole, isTrue a X.env whole = (do let v ← whole; standAt a.pos; holding [v] (PySem.truthy v))) : PT X a (rdT G Φ γ W ma) :=
  PT.imp (pt_truthR ha (tru_all hP hw hK) he) fun σ H Q ⟨F, env, R, k⟩ => by
    unfold evT RE.truth at k
    refine ⟨F, env, R, ?_⟩
    cases e : ev Φ γ ma env with
    | st => rw [e] at k; exact k
    | ex x e1 => rw [e] at k; exact k
    | ok f d e1 =>
      rw [e] at k
      simp only [RE.bdT] at k
      intro F1 H1 v p1 v1 n1
      cases hl : late f d e1 with
      | none => rw [hl] at k; exact k.elim
      | some d1 =>
        rw [hl, Option.bind_some] at k
        cases ht : PF.truthy d1 with
        | none => rw [ht] at k; exact k.elim
        | some b =>
          rw [ht] at k
          exact ⟨F1, d1, b, v1.late p1.rel hl, ht, k F1 H1 p1⟩
/-- not -/
theorem e_not (ha : PE X a (rdE G Φ γ W ma)) : PE X (.UnaryOp .Not a pos) (rdE G Φ γ W (.not_ ma)) :=
  PE.imp (pe_not ha) fun σ H Q ⟨F, env, R, k⟩ => by
    rw [ev] at k
    refine ⟨F, env, R, kE_bd k fun f d e1 _ F1 H1 v p1 v1 n1 k1 => ?_⟩
    cases hl : late f d e1 with
    | none => rw [hl] at k1; exact k1.elim
    | some d1 =>
      rw [hl] at k1
      cases d1 with
      | bl b => exact ⟨b, rBl (v1.late p1.rel hl), k1 F1 H1 _ (.refl p1.rel) (by simp only [vOk, relF]) fun z => nomatch z⟩
      | _ => exact k1.elim
theorem t_not (ha : PT X a (rdT G Φ γ W ma)) : PT X (.UnaryOp .Not a pos) (rdT G Φ γ W (.not_ ma)) :=
  PT.imp (pt_not ha) fun σ H Q ⟨F, env, R, k⟩ => by
    refine ⟨F, env, R, ?_⟩
    unfold evT RE.truth at k ⊢
    rw [ev] at k
    cases e : ev Φ γ ma env with
    | st => rw [e] at k; exact k
    | ex x e1 => rw [e] at k; exact k
    | ok f d e1 =>
      rw [e] at k
      simp only [RE.bd, RE.bdT] at k ⊢
      cases hl : late f d e1 with
      | none => rw [hl] at k; exact k.elim
      | some d1 =>
        rw [hl] at k
        cases d1 with
        | bl b => exact fun F1 H1 p1 => k F1 H1 p1
        | _ => exact k.elim
/-- a if c else b -/
theorem e_ife (hc : PT X c (rdT G Φ γ W mc)) (ha : PE X a (rdE G Φ γ W ma)) (hb : PE X b (rdE G Φ γ W mb)) : PE X (.IfExp c a b pos) (rdE G Φ γ W (.ife mc ma mb)) :=
  PE.imp (pe_ifExp hc ha hb) fun σ H Q ⟨F, env, R, k⟩ => by
    rw [ev] at k
    refine ⟨F, env, R, ?_⟩
    unfold evT
    cases e : (ev Φ γ mc env).truth with
    | st => rw [e] at k; exact k
    | ex x e1 => rw [e] at k; exact k
    | ok t e1 =>
      rw [e] at k
      simp only [RT.bd] at k
      intro F1 H1 p1
      cases t with
      | true => rw [if_pos rfl] at k ⊢; exact ⟨F1, e1, p1.rel, kE.back p1 k⟩
      | false => rw [if_neg Bool.false_ne_true] at k ⊢; exact ⟨F1, e1, p1.rel, kE.back p1 k⟩
/-- and, or -/
def rdEB (G : Gp) (Φ : Str → List Sl → FR) (γ : Str → Option D) (W : WX) (c : Bool) (ms : List E) : TE := fun σ H Q => ∃ F env, Rel G F H env σ ∧ kE G W F H env σ Q (evB Φ γ c ms env)
def rdTB (G : Gp) (Φ : Str → List Sl → FR) (γ : Str → Option D) (W : WX) (c : Bool) (ms : List E) : TT := fun σ H Q => ∃ F env, Rel G F H env σ ∧ kT G W F H env σ Q (evB Φ γ c ms env).truth
theorem e_boo {cj : Bool} {es : List Expr} {op : BoolOp} {ms : List E} (h : PE X (.BoolOp op es pos) (rdEB G Φ γ W cj ms)) : PE X (.BoolOp op es pos) (rdE G Φ γ W (.boo cj ms)) :=
  PE.imp h fun σ H Q ⟨F, env, R, k⟩ => ⟨F, env, R, by rw [ev] at k; exact k⟩
theorem t_boo {cj : Bool} {es : List Expr} {op : BoolOp} {ms : List E} (h : PW X (.BoolOp op es pos) (rdTB G Φ γ W cj ms)) : PT X (.BoolOp op es pos) (rdT G Φ γ W (.boo cj ms)) :=
  PT.imp h.pt fun σ H Q ⟨F, env, R, k⟩ => ⟨F, env, R, by unfold evT at k; rw [ev] at k; exact k⟩
theorem eb_one {cj : Bool} {op : BoolOp} (ha : PE X a (rdE G Φ γ W ma)) : PE X (.BoolOp op [a] pos) (rdEB G Φ γ W cj [ma]) :=
  PE.imp (pe_one ha) fun σ H Q ⟨F, env, R, k⟩ => ⟨F, env, R, by simp only [evB] at k; exact k⟩
theorem tb_and1 (ha : PT X a (rdT G Φ γ W ma)) : PW X (.BoolOp .And [a] pos) (rdTB G Φ γ W true [ma]) :=
  PW.imp (pw_and1 ha) fun σ H Q ⟨F, env, R, k⟩ => ⟨F, env, R, by simp only [evB] at k; exact k⟩
theorem tb_or1 (ha : PT X a (rdT G Φ γ W ma)) : PW X (.BoolOp .Or [a] pos) (rdTB G Φ γ W false [ma]) :=
  PW.imp (pw_or1 ha) fun σ H Q ⟨F, env, R, k⟩ => ⟨F, env, R, by simp only [evB] at k; exact k⟩
theorem eb_and {rest : List Expr} {m2 : E} {ms : List E} (ha : PE X a (rdE G Φ γ W ma)) (hb : PE X (.BoolOp .And (b :: rest) pos) (rdEB G Φ γ W true (m2 :: ms))) : PE X (.BoolOp .And (a :: b :: rest) pos) (rdEB G Φ γ W true (ma :: m2 :: ms)) :=
  PE.imp (pe_and ha hb) fun σ H Q ⟨F, env, R, k⟩ => by
    simp only [evB] at k
    refine ⟨F, env, R, kE_bd k fun f d e1 _ F1 H1 v p1 v1 n1 k1 => ?_⟩
    cases hl : late f d e1 with
    | none => rw [hl] at k1; exact k1.elim
    | some d1 =>
      rw [hl] at k1
      cases d1 with
      | bl q =>
        refine ⟨q, rBl (v1.late p1.rel hl), ?_⟩
        cases q with
        | true => rw [if_pos rfl]; exact ⟨F1, e1, p1.rel, k1⟩
        | false => rw [if_neg Bool.false_ne_true]; exact k1 F1 H1 _ (.refl p1.rel) (by simp only [vOk, relF]) fun z => nomatch z
      | _ => exact k1.elim
theorem eb_or {rest : List Expr} {m2 : E} {ms : List E} (ha : PE X a (rdE G Φ γ W ma)) (hb : PE X (.BoolOp .Or (b :: rest) pos) (rdEB G Φ γ W false (m2 :: ms))) : PE X (.BoolOp .Or (a :: b :: rest) pos) (rdEB G Φ γ W false (ma :: m2 :: ms)) :=
  PE.imp (pe_or ha hb) fun σ H Q ⟨F, env, R, k⟩ => by
    simp only [evB] at k
    refine ⟨F, env, R, kE_bd k fun f d e1 _ F1 H1 v p1 v1 n1 k1 => ?_⟩
    cases hl : late f d e1 with
    | none => rw [hl] at k1; exact k1.elim
    | some d1 =>
      rw [hl] at k1
      cases d1 with
      | bl q =>
        refine ⟨q, rBl (v1.late p1.rel hl), ?_⟩
        cases q with
        | false => rw [if_neg Bool.false_ne_true]; exact ⟨F1, e1, p1.rel, k1⟩
        | true => rw [if_pos rfl]; exact k1 F1 H1 _ (.refl p1.rel) (by simp only [vOk, relF]) fun z => nomatch z
      | _ => exact k1.elim
theorem tb_and {rest : List Expr} {m2 : E} {ms : List E} (ha : PT X a (rdT G Φ γ W ma)) (hb : PW X (.BoolOp .And (b :: rest) pos) (rdTB G Φ γ W true (m2 :: ms))) : PW X (.BoolOp .And (a :: b :: rest) pos) (rdTB G Φ γ W true (ma :: m2 :: ms)) :=
  PW.imp (pw_and ha hb) fun σ H Q ⟨F, env, R, k⟩ => by
    simp only [evB] at k
    refine ⟨F, env, R, ?_⟩
    unfold evT RE.truth at *
    cases e : ev Φ γ ma env with
    | st => rw [e] at k; exact k
    | ex x e1 => rw [e] at k; exact k
    | ok f d e1 =>
      rw [e] at k
      simp only [RE.bd, RE.bdT] at k ⊢
      cases hl : late f d e1 with
      | none => rw [hl] at k; exact k.elim
      | some d1 =>
        rw [hl] at k
        cases d1 with
        | bl q =>
          intro F1 H1 p1
          cases q with
          | true => rw [if_pos rfl]; exact ⟨F1, e1, p1.rel, kT.back p1 k⟩
          | false => rw [if_neg Bool.false_ne_true]; exact k F1 H1 p1
        | _ => exact k.elim
theorem tb_or {rest : List Expr} {m2 : E} {ms : List E} (ha : PT X a (rdT G Φ γ W ma)) (hb : PW X (.BoolOp .Or (b :: rest) pos) (rdTB G Φ γ W false (m2 :: ms))) : PW X (.BoolOp .Or (a :: b :: rest) pos) (rdTB G Φ γ W false (ma :: m2 :: ms)) :=
  PW.imp (pw_or ha hb) fun σ H Q ⟨F, env, R, k⟩ => by
    simp only [evB] at k
    refine ⟨F, env, R, ?_⟩
    unfold evT RE.truth at *
    cases e : ev Φ γ ma env with
    | st => rw [e] at k; exact k
    | ex x e1 => rw [e] at k; exact k
    | ok f d e1 =>
      rw [e] at k
      simp only [RE.bd, RE.bdT] at k ⊢
      cases hl : late f d e1 with
      | none => rw [hl] at k; exact k.elim
      | some d1 =>
        rw [hl] at k
        cases d1 with
        | bl q =>
          intro F1 H1 p1
          cases q with
          | false => rw [if_neg Bool.false_ne_true]; exact ⟨F1, e1, p1.rel, kT.back p1 k⟩
          | true => rw [if_pos rfl]; exact k F1 H1 p1
        | _ => exact k.elim
theorem e_tup {es : List Expr} {ms : List E} {x1} (h : PA X es (rdEs G Φ γ W ms)) : PE X (.Tuple es x1 pos) (rdE G Φ γ W (.tup ms)) :=
  PE.imp (pe_tup h) fun σ H Q ⟨F, env, R, k⟩ => by
    rw [ev] at k
    refine ⟨F, env, R, ?_⟩
    cases hs : evs Φ γ ms env with
    | st => rw [hs] at k; exact k
    | ex x e1 => rw [hs] at k; exact k
    | ok vs e1 =>
      rw [hs] at k
      intro F1 H1 xs p1 v1 n1
      simp only [REs.bd, storedE] at k
      cases hq : PF.stored vs with
      | none => rw [hq] at k; exact k.elim
      | some ds =>
        rw [hq] at k
        simp only [onE] at k
        obtain ⟨p2, r2⟩ := freeze p1 v1 n1 hq
        split at k
        · rename_i hz
          rw [relFs_length r2]
          refine ⟨hz, fun p hp => ?_⟩
          have g := grow_new (o := .tup xs) hp
          refine k _ _ _ (p2.trans (Pst.grow p2.rel g)) ?_ fun z => nomatch z
          have := (resT (G := G) hp r2).2
          rw [if_neg Bool.false_ne_true] at this
          exact this
        · exact k.elim
theorem e_lst {es : List Expr} {ms : List E} (h : PA X es (rdEs G Φ γ W ms)) : PE X (.List es pos) (rdE G Φ γ W (.lst ms)) :=
  PE.imp (pe_lst h) fun σ H Q ⟨F, env, R, k⟩ => by
    rw [ev] at k
    refine ⟨F, env, R, ?_⟩
    cases hs : evs Φ γ ms env with
    | st => rw [hs] at k; exact k
    | ex x e1 => rw [hs] at k; exact k
    | ok vs e1 =>
      rw [hs] at k
      intro F1 H1 xs p1 v1 n1
      simp only [REs.bd, storedE] at k
      cases hq : PF.stored vs with
      | none => rw [hq] at k; exact k.elim
      | some ds =>
        rw [hq] at k
        simp only [onE] at k
        obtain ⟨p2, r2⟩ := freeze p1 v1 n1 hq
        split at k
        · rename_i hz
          rw [relFs_length r2]
          refine ⟨hz, fun p hp => ?_⟩
          have g := grow_new (o := .lst xs) hp
          refine k _ _ _ (p2.trans (Pst.grow p2.rel g)) ⟨p, rfl, fun z => p2.rel.fin p z hp, fun z => p2.rel.there z hp, xs, upd_same, relFs_grow g r2⟩ fun _ a ea => by cases ea; exact p1.ext.alive p hp
        · exact k.elim
end
end PF
set_option Elab.async false
set_option linter.all false
set_option maxRecDepth 100000
set_option maxHeartbeats 1000000
namespace PF
open PySem PySem.Spec PyProof.Rows L2
section
variable {G : Gp} {Φ : Str → List Sl → FR} {γ : Str → Option D} {W : WX} {X : Cx} {F F' : Addr → Prop} {H H' : Hp} {env : Env} {σ : L2.St}
theorem Rel.ow_at (R : Rel G F H env σ) {i : Nat} {d : D} (e : getS env i = .ow d) : ∃ a, slAt σ i = some (.ref a) ∧ ¬ F a ∧ relO G F H d a := by
  have q := R.slot i
  rw [e] at q
  exact q
/-- the object of an owned slot is written -/
theorem Pst.write {i : Nat} {d d' : D} {a : Addr} {o : HO} (R : Rel G F H env σ) (e : getS env i = .ow d) (ha : slAt σ i = some (.ref a)) (r : relO G F (upd H a o) d' a) : Pst G F H env σ F (upd H a o) (setS env i (.ow d')) σ := by
  have hi : i < env.length := getS_lt (by rw [e]; exact fun z => nomatch z)
  obtain ⟨a', h1, h2, h3⟩ := R.ow_at e
  rw [ha] at h1; cases h1
  have m : Mo env σ a := ⟨i, d, e, ha⟩
  have E : Ext (Mo env σ) F H F (upd H a o) := ⟨fun b u hb n => by rw [upd_ne (fun z => n (by rw [z]; exact m))]; exact hb, fun b hb => by
    by_cases z : b = a
    · subst z; rw [upd_same] at hb; cases hb
    · rw [upd_ne z] at hb; exact hb, fun _ h => h, fun _ h => .inl h⟩
  have Ea : Ext (fun b => b = a) F H F (upd H a o) := ⟨fun b u hb n => by rw [upd_ne n]; exact hb, E.alive, fun _ h => h, fun _ h => .inl h⟩
  have apa : Apart (fun b => b = a) F H := fun b hb => by rw [hb]; exact R.apart a m
  have get : ∀ j, getS (setS env i (.ow d')) j = if i = j then .ow d' else getS env j := fun j => by
    rw [getS_setS]
    by_cases z : i = j
    · rw [if_pos ⟨z, hi⟩, if_pos z]
    · rw [if_neg fun q => z q.1, if_neg z]
  have own : ∀ j, isOwn (getS (setS env i (.ow d')) j) = true → isOwn (getS env j) = true := fun j hj => by
    rw [get] at hj
    split at hj
    · rename_i z; subst z; rw [e]; rfl
    · exact hj
  refine ⟨E, ⟨by rw [setS_length]; exact R.len, fun j => ?_, fun j k b hj hk => R.one j k b (own j hj) (own k hk), fun b hb hn => ?_⟩, fun b ⟨j, h4, h5⟩ => .inl ⟨j, own j h4, h5⟩, fun b ⟨j, d2, h4, h5⟩ => ?_, fun j d2 h => ?_⟩
  · rw [get]
    split
    · rename_i z; subst z; exact ⟨a, ha, h2, r⟩
    · rename_i z
      have q := R.slot j
      have nea : isOwn (getS env j) = true → ∀ b, slAt σ j = some (.ref b) → b ≠ a := fun hj b hb hz => by
        subst hz
        exact z (R.one i j b (by rw [e]; rfl) hj ha hb)
      cases hs : getS env j with
      | non => trivial
      | fr x =>
        rw [hs] at q
        obtain ⟨v, h4, h5⟩ := q
        exact ⟨v, h4, relF_ext Ea apa x v h5⟩
      | ow x =>
        rw [hs] at q nea
        obtain ⟨v, h4, h6, h5⟩ := q
        exact ⟨v, h4, h6, relO_ext Ea apa (nea rfl v h4) h5⟩
      | lk x =>
        rw [hs] at q nea
        obtain ⟨v, h4, h6, h5⟩ := q
        exact ⟨v, h4, h6, relO_ext Ea apa (nea rfl v h4) h5⟩
  · exact R.fin b hb (E.alive b hn)
  · rw [get] at h4
    split at h4
    · rename_i z; subst z; exact .inl ⟨_, d, e, h5⟩
    · exact .inl ⟨j, d2, h4, h5⟩
  · rw [get] at h
    split at h
    · cases h
    · exact ⟨h, rfl⟩
/-- the parts of an owned object stay as it is written -/
theorem relFs_upd {i : Nat} {d : D} {a : Addr} {o : HO} (R : Rel G F H env σ) (e : getS env i = .ow d) (ha : slAt σ i = some (.ref a)) {ds : List D} {xs : List V} (h : relFs G F H ds xs) : relFs G F (upd H a o) ds xs :=
  relFs_ext (M := fun b => b = a) (F := F) ⟨fun b u hb n => by rw [upd_ne n]; exact hb, fun b hb => by
    by_cases z : b = a
    · subst z; rw [upd_same] at hb; cases hb
    · rw [upd_ne z] at hb; exact hb, fun _ h => h, fun _ h => .inl h⟩ (fun b hb => by rw [hb]; exact R.apart a ⟨i, d, e, ha⟩) ds xs h
/-- a method by values: the object before, the arguments; the new object and the answer -/
def rMu (G : Gp) (m : Mu) (v : V) (xs : List V) (H : Hp) (Q : VK) : Prop := ∃ F a d ds d' r, v = .ref a ∧ relO G F H d a ∧ relFs G F H ds xs ∧ muD m d ds = some (d', r) ∧
  (∀ o, (∀ es ys, relFs G F H es ys → relFs G F (upd H a o) es ys)) ∧
  ∀ o v', relO G F (upd H a o) d' a → relF G F (upd H a o) r v' → Q v' (upd H a o)
theorem mu_rd {m : Mu} {i : Nat} {ms : List E} {Q : VK} (h : rdE G Φ γ W (.mu m i ms) σ H Q) : (∃ F env, Rel G F H env σ ∧ slotFits m (getS env i) = true ∧ True) ∧ ∃ a, slAt σ i = some (.ref a) ∧ rdEs G Φ γ W ms σ H fun xs H2 => rMu G m (.ref a) xs H2 Q := by
  obtain ⟨Fz, env, R, k⟩ := h
  rw [ev] at k
  split at k
  · rename_i hfit
    refine ⟨⟨Fz, env, R, hfit, trivial⟩, ?_⟩
    have : ∃ d, getS env i = .ow d := by
      cases e : getS env i with
      | ow d => exact ⟨d, rfl⟩
      | _ => rw [e] at hfit; cases hfit
    obtain ⟨d0, e0⟩ := this
    obtain ⟨a, ha, _, _⟩ := R.ow_at e0
    refine ⟨a, ha, Fz, env, R, ?_⟩
    cases hs : evs Φ γ ms env with
    | st => rw [hs] at k; exact k
    | ex x e1 => rw [hs] at k; exact k
    | ok vs e1 =>
      rw [hs] at k
      intro F1 H1 xs p1 v1 n1
      simp only [REs.bd, storedE] at k
      cases hq : PF.stored vs with
      | none => rw [hq] at k; exact k.elim
      | some ds =>
        rw [hq] at k
        simp only [onE, muE] at k
        obtain ⟨p2, r2⟩ := freeze p1 v1 n1 hq
        cases ho : getS e1 i with
        | ow d =>
          rw [ho] at k
          simp only [owOf] at k
          cases hm : muD m d ds with
          | none => rw [hm] at k; exact k.elim
          | some q =>
            obtain ⟨d', r⟩ := q
            rw [hm] at k
            obtain ⟨a', h1, h2, h3⟩ := p2.rel.ow_at ho
            rw [ha] at h1; cases h1
            refine ⟨_, a, d, ds, d', r, rfl, h3, r2, hm, fun o es ys h => relFs_upd p2.rel ho ha h, fun o v' ro rv => ?_⟩
            exact k _ _ v' (p2.trans (Pst.write p2.rel ho ha ro)) rv fun z => nomatch z
        | non => rw [ho] at k; exact k.elim
        | fr _ => rw [ho] at k; exact k.elim
        | lk _ => rw [ho] at k; exact k.elim
  · exact k.elim
theorem fits_lst {m : Mu} {s : Sl} (hm : muIsDict m = false) (h : slotFits m s = true) : ∃ ds, s = .ow (.lst ds) := by
  cases s with
  | ow d =>
    cases d with
    | lst ds => exact ⟨ds, rfl⟩
    | dct ks vs => rw [show slotFits m (.ow (.dct ks vs)) = (muIsDict m && ks.all keyLeaf) from rfl, hm, Bool.false_and] at h; cases h
    | _ => cases h
  | _ => cases h
theorem relO_lst {ds : List D} {a : Addr} (h : relO G F H (.lst ds) a) : ∃ xs, H a = some (.lst xs) ∧ relFs G F H ds xs := h
theorem relO_lst_mk {ds : List D} {a : Addr} {xs : List V} (h : relFs G F (upd H a (.lst xs)) ds xs) : relO G F (upd H a (.lst xs)) (.lst ds) a := ⟨xs, upd_same, h⟩
end
section
variable {G : Gp} {X : Cx}
theorem mu_append : MtR X "list.append" (fun x xs H Q => xs.length = 1 ∧ rMu G .append x xs H Q) := fun pins s σ H x xs v us Q I rx rs ⟨hl, Fz, a, d, ds, d', r, e0, ho, hr, hm, hu, k⟩ => by
  cases d with
  | lst es =>
    rcases ds with _ | ⟨d1, _ | ⟨d2, rest⟩⟩
    · cases hm
    · rw [show muD .append (.lst es) [d1] = (if es.length < sizeLine then some (.lst (es ++ [d1]), .non) else none) from rfl] at hm
      split at hm
      · rename_i hz
        cases hm
        obtain ⟨ys, h1, h2⟩ := relO_lst ho
        simp only [relFs] at hr
        obtain ⟨y, yr, rfl, h3, rfl⟩ := hr
        refine mt_append pins s σ H x _ v us Q I rx rs ⟨a, ys, y, e0, rfl, h1, by rw [relFs_length h2]; exact hz, k _ _ (relO_lst_mk (hu _ _ _ (relFs_append h2 (by simp only [relFs]; exact ⟨y, [], rfl, h3, rfl⟩)))) (by simp only [relF])⟩
      · cases hm
    · cases hm
  | _ => cases hm
theorem mu_extend : MtR X "list.extend" (fun x xs H Q => xs.length = 1 ∧ rMu G .extend x xs H Q) := fun pins s σ H x xs v us Q I rx rs ⟨hl, Fz, a, d, ds, d', r, e0, ho, hr, hm, hu, k⟩ => by
  have go : ∃ es fs, d = .lst es ∧ ds = [.lst fs] ∧ es.length + fs.length ≤ sizeLine ∧ d' = .lst (es ++ fs) ∧ r = .non := by
    unfold muD at hm
    split at hm <;> first
      | (rename_i es fs _
         split at hm
         · rename_i h
           cases hm
           exact ⟨es, fs, rfl, rfl, h, rfl, rfl⟩
         · cases hm)
      | simp at *
  obtain ⟨es, fs, rfl, rfl, hz, rfl, rfl⟩ := go
  obtain ⟨ys, h1, h2⟩ := relO_lst ho
  simp only [relFs, relF] at hr
  obtain ⟨y, yr, rfl, ⟨b, zs, rfl, hFb, t, h3⟩, rfl⟩ := hr
  subst e0
  cases rx
  obtain ⟨u, rfl, ru⟩ := rs.one
  cases ru
  have l1 := relFs_length h2
  have l2 := relFs_length h3
  obtain ⟨z, its, n, r, hl, e⟩ := I.lstM h1
  obtain ⟨z2, its2, n2, r2, e2⟩ := t.ok I.hok
  have hl2 := r2.length
  have hsz : its.toArray.size + its2.toArray.size ≤ sizeLine := by rw [List.size_toArray, List.size_toArray]; omega
  have hlong : ¬ (!its.toArray.isEmpty && Builtin.List.listTooLong (its.toArray.size + its2.toArray.size)) = true := by
    rw [notLongL hsz, Bool.and_false]
    exact Bool.false_ne_true
  refine call_meets F.slot_list_extend ⟨_, e, rfl⟩ F.entry_list_extend (F.args_list_extend_2 _ _)
    (AutoSeq1.list_extend_list_list_0 a its.toArray n b its2.toArray n2 hlong (by rw [List.size_toArray]; omega) (by omega)) ⟨e, e2, ?_⟩
  refine ⟨.non, _, I.lset (its' := its ++ its2) h1 e (by simp) (r.append r2) ?_, rfl, k _ _ (relO_lst_mk (hu _ _ _ (relFs_append h2 h3))) (by simp only [relF])⟩
  rw [List.length_append]
  omega
theorem mu_insert : MtR X "list.insert" (fun x xs H Q => xs.length = 2 ∧ rMu G .insert x xs H Q) := fun pins s σ H x xs v us Q I rx rs ⟨hl, Fz, a, d, ds, d', r, e0, ho, hr, hm, hu, k⟩ => by
  have go : ∃ es i d1, d = .lst es ∧ ds = [.int i, d1] ∧ 0 ≤ i ∧ i.toNat ≤ es.length ∧ es.length < sizeLine ∧ d' = .lst (es.take i.toNat ++ d1 :: es.drop i.toNat) ∧ r = .non := by
    unfold muD at hm
    split at hm <;> first
      | (rename_i es i d1 _
         split at hm
         · rename_i h
           simp only [Bool.and_eq_true, decide_eq_true_eq] at h
           cases hm
           exact ⟨es, i, d1, rfl, rfl, h.1.1, h.1.2, h.2, rfl, rfl⟩
         · cases hm)
      | simp at *
  obtain ⟨es, i, d1, rfl, rfl, h0, hle, hz, rfl, rfl⟩ := go
  obtain ⟨ys, h1, h2⟩ := relO_lst ho
  simp only [relFs] at hr
  obtain ⟨y1, yr, rfl, h3, y2, yr2, rfl, h4, rfl⟩ := hr
  simp only [relF] at h3
  subst h3
  have l := relFs_length h2
  have hz2 : es.length < 16777216 := by rw [← sizeLine_eq]; exact hz
  refine mt_insert pins s σ H x _ v us Q I rx rs ⟨a, ys, i, y2, e0, rfl, h1, by rw [l]; exact hz, h0, by omega, k _ _ (relO_lst_mk (hu _ _ _ ?_)) (by simp only [relF])⟩
  rw [List.append_assoc]
  exact relFs_append (relFs_take _ h2) (by simp only [List.singleton_append, relFs]; exact ⟨y2, _, rfl, h4, relFs_drop _ h2⟩)
theorem mu_pop : MtR X "list.pop" (fun x xs H Q => xs.length = 0 ∧ rMu G .pop x xs H Q) := fun pins s σ H x xs v us Q I rx rs ⟨hl, Fz, a, d, ds, d', r, e0, ho, hr, hm, hu, k⟩ => by
  have go : ∃ es, d = .lst es ∧ ds = [] ∧ es[es.length - 1]? = some r ∧ d' = .lst es.dropLast := by
    unfold muD at hm
    split at hm <;> first
      | (rename_i es _
         cases e1 : es[es.length - 1]? with
         | none => rw [e1] at hm; cases hm
         | some y => rw [e1] at hm; cases hm; exact ⟨es, rfl, rfl, e1, rfl⟩)
      | simp at *
  obtain ⟨es, rfl, rfl, hy, rfl⟩ := go
  obtain ⟨ys, h1, h2⟩ := relO_lst ho
  have hr : xs = [] := by simpa only [relFs] using hr
  subst hr
  obtain ⟨y, e1, h3⟩ := relFs_get h2 hy
  refine mt_pop pins s σ H x _ v us Q I rx rs ⟨a, ys, y, e0, rfl, h1, by rw [relFs_length h2]; exact e1, k _ _ (relO_lst_mk (hu _ _ _ (relFs_dropLast h2))) ?_⟩
  have := hu (.lst ys.dropLast) [r] [y] (by simp only [relFs]; exact ⟨y, [], rfl, h3, rfl⟩)
  simp only [relFs] at this
  obtain ⟨z, _, e, h, _⟩ := this
  cases e; exact h
theorem mu_popAt : MtR X "list.pop" (fun x xs H Q => xs.length = 1 ∧ rMu G .popAt x xs H Q) := fun pins s σ H x xs v us Q I rx rs ⟨hl, Fz, a, d, ds, d', r, e0, ho, hr, hm, hu, k⟩ => by
  have go : ∃ es i, d = .lst es ∧ ds = [.int i] ∧ 0 ≤ i ∧ i < 2 ^ 62 ∧ es[i.toNat]? = some r ∧ d' = .lst (es.eraseIdx i.toNat) := by
    unfold muD at hm
    split at hm <;> first
      | (rename_i es i _
         split at hm
         · rename_i h
           simp only [Bool.and_eq_true, decide_eq_true_eq] at h
           cases e1 : es[i.toNat]? with
           | none => rw [e1] at hm; cases hm
           | some y => rw [e1] at hm; cases hm; exact ⟨es, i, rfl, rfl, h.1, h.2, e1, rfl⟩
         · cases hm)
      | simp at *
  obtain ⟨es, i, rfl, rfl, h0, hb, hy, rfl⟩ := go
  obtain ⟨ys, h1, h2⟩ := relO_lst ho
  simp only [relFs] at hr
  obtain ⟨y1, yr, rfl, h4, rfl⟩ := hr
  simp only [relF] at h4
  subst h4
  obtain ⟨y, e1, h3⟩ := relFs_get h2 hy
  have hlt : i.toNat < ys.length := (List.getElem?_eq_some_iff.mp e1).1
  refine mt_popAt pins s σ H x _ v us Q I rx rs ⟨a, ys, i, i.toNat, y, e0, rfl, h1, by omega, by omega, ?_, e1, k _ _ (relO_lst_mk (hu _ _ _ (relFs_eraseIdx _ h2))) ?_⟩
  · unfold seqIndex?
    have ei : (if i < 0 then i + (ys.length : Int) else i) = i := if_neg (by omega)
    have e : (decide (0 ≤ i) && decide (i < (ys.length : Int))) = true := by
      rw [Bool.and_eq_true, decide_eq_true_eq, decide_eq_true_eq]; omega
    simp only [ei]
    rw [if_pos e]
  · have := hu (.lst (ys.eraseIdx i.toNat)) [r] [y] (by simp only [relFs]; exact ⟨y, [], rfl, h3, rfl⟩)
    simp only [relFs] at this
    obtain ⟨z, _, e, h, _⟩ := this
    cases e; exact h
theorem mu_reverse : MtR X "list.reverse" (fun x xs H Q => xs.length = 0 ∧ rMu G .reverse x xs H Q) := fun pins s σ H x xs v us Q I rx rs ⟨hl, Fz, a, d, ds, d', r, e0, ho, hr, hm, hu, k⟩ => by
  have go : ∃ es, d = .lst es ∧ ds = [] ∧ r = .non ∧ d' = .lst es.reverse := by
    unfold muD at hm
    split at hm <;> first
      | (rename_i es _; cases hm; exact ⟨es, rfl, rfl, rfl, rfl⟩)
      | simp at *
  obtain ⟨es, rfl, rfl, rfl, rfl⟩ := go
  obtain ⟨ys, h1, h2⟩ := relO_lst ho
  have hr : xs = [] := by simpa only [relFs] using hr
  subst hr
  exact mt_reverse pins s σ H x _ v us Q I rx rs ⟨a, ys, e0, rfl, h1, k _ _ (relO_lst_mk (hu _ _ _ (relFs_reverse h2))) (by simp only [relF])⟩
end
end PF
set_option Elab.async false
set_option linter.all false
set_option maxRecDepth 100000
set_option maxHeartbeats 1000000
namespace PF
open PySem PySem.Spec PyProof.Rows L2
section
variable {G : Gp} {Φ : Str → List Sl → FR} {γ : Str → Option D} {W : WX} {X : Cx} {a b : Expr} {ma mb : E} {i : Nat} {x name : Str} {p1 apos cpos : Pos} {id : String} {m : Mu}
theorem few_ok {es : List Expr} {env : PySem.Env} (h : es.all notStar = true) (hl : es.length < 30) : ((backTo cpos (starEach es env)).all (fun x => !x.1) && (backToKw cpos (keywordEach [] env)).all (fun x => x.1.isSome)
      && decide (es.length + ([] : List Keyword).length + (if ([] : List Keyword).isEmpty then 0 else 1) < 30)) = true := by
  rw [back_all h]
  have e : keywordEach [] env = [] := rfl
  rw [e]
  simp [backToKw, hl]
theorem mu_ty {ms : List E} {σ : L2.St} {H : Hp} {Q : VK} (hK : X.K = G.K) (hd : muIsDict m = false) (h : rdE G Φ γ W (.mu m i ms) σ H Q) : ∃ a, σ[i]? = some (some (.ref a)) ∧ tyV X.K "list" (.ref a) H ∧ rdEs G Φ γ W ms σ H fun xs H2 => rMu G m (.ref a) xs H2 Q := by
  obtain ⟨⟨Fz, env, R, hf, _⟩, a, ha, h2⟩ := mu_rd h
  refine ⟨a, slAt_some ha, ?_, h2⟩
  obtain ⟨ds, e⟩ := fits_lst hd hf
  obtain ⟨b, hb, _, r⟩ := R.ow_at e
  rw [ha] at hb; cases hb
  obtain ⟨xs, h3, _⟩ := relO_lst r
  exact .inl ⟨rfl, xs, .inl (.inl h3)⟩
theorem e_mu0 (hK : X.K = G.K) (hd : muIsDict m = false) (slot : Slot "list" name id) (hty : typeOf (.builtin id) = pure (.type "method_descriptor")) (hm : MtR X id (fun x xs H Q => xs.length = 0 ∧ rMu G m x xs H Q))
    (hN : X.N[i]? = some x) (hv : Vis X.env.scope x) (hdb : (x == ("__debug__" : Str)) = false) (hcd : (x == ("__classdict__" : Str)) = false) (hline : (apos.endLine == cpos.line) = true) :
    PE X (.Call (.Attribute (.Name x p1) name apos) [] [] cpos) (rdE G Φ γ W (.mu m i [])) :=
  PE.imp (pe_bm0 F.plainAttrs_list slot hty hm (pe_var hN hv hdb hcd) rfl hline) fun σ H Q h => by
    obtain ⟨a, h1, h2, h3⟩ := mu_ty hK hd h
    exact ⟨_, h1, h2, rfl, rdEs_nil h3⟩
theorem e_mu1 (hK : X.K = G.K) (hd : muIsDict m = false) (slot : Slot "list" name id) (hty : typeOf (.builtin id) = pure (.type "method_descriptor")) (hm : MtR X id (fun x xs H Q => xs.length = 1 ∧ rMu G m x xs H Q))
    (hN : X.N[i]? = some x) (hv : Vis X.env.scope x) (hdb : (x == ("__debug__" : Str)) = false) (hcd : (x == ("__classdict__" : Str)) = false) (hline : (apos.endLine == cpos.line) = true) (ha : PE X a (rdE G Φ γ W ma)) (ns : notStar a = true) :
    PE X (.Call (.Attribute (.Name x p1) name apos) [a] [] cpos) (rdE G Φ γ W (.mu m i [ma])) :=
  PE.imp (pe_bm F.plainAttrs_list slot hty hm (pe_var hN hv hdb hcd) (pa_cons ha pa_nil (star_cons ns)) rfl (few_ok (by simp [ns]) (by simp)) hline (star_cons ns) rfl) fun σ H Q h => by
    obtain ⟨a, h1, h2, h3⟩ := mu_ty hK hd h
    exact ⟨_, h1, h2, rdE_mono (rdEs_cons h3) fun v _ h => ⟨rfl, rdEs_nil h⟩⟩
theorem e_mu2 (hK : X.K = G.K) (hd : muIsDict m = false) (slot : Slot "list" name id) (hty : typeOf (.builtin id) = pure (.type "method_descriptor")) (hm : MtR X id (fun x xs H Q => xs.length = 2 ∧ rMu G m x xs H Q))
    (hN : X.N[i]? = some x) (hv : Vis X.env.scope x) (hdb : (x == ("__debug__" : Str)) = false) (hcd : (x == ("__classdict__" : Str)) = false) (hline : (apos.endLine == cpos.line) = true) (ha : PE X a (rdE G Φ γ W ma)) (ns : notStar a = true) (hb : PE X b (rdE G Φ γ W mb)) (ns2 : notStar b = true) :
    PE X (.Call (.Attribute (.Name x p1) name apos) [a, b] [] cpos) (rdE G Φ γ W (.mu m i [ma, mb])) :=
  PE.imp (pe_bm F.plainAttrs_list slot hty hm (pe_var hN hv hdb hcd) (pa_cons ha (pa_cons hb pa_nil (star_cons ns2)) (star_cons ns)) rfl (few_ok (by simp [ns, ns2]) (by simp)) hline (star_cons ns) (back_any (by simp [ns2]))) fun σ H Q h => by
    obtain ⟨a, h1, h2, h3⟩ := mu_ty hK hd h
    exact ⟨_, h1, h2, rdE_mono (rdEs_cons h3) fun v _ h => rdE_mono (rdEs_cons h) fun _ _ h => ⟨rfl, rdEs_nil h⟩⟩
theorem e_join {z : Str} (ha : PE X a (rdE G Φ γ W (.lit (.str z)))) (hb : PE X b (rdE G Φ γ W mb)) (ns2 : notStar b = true) (hbase : attributeBase a "join" X.env (eval a X.env) = eval a X.env) (hline : (apos.endLine == cpos.line) = true) :
    PE X (.Call (.Attribute a "join" apos) [b] [] cpos) (rdE G Φ γ W (.op .join [.lit (.str z), mb])) :=
  PE.imp (pe_bm F.plainAttrs_str F.slot_str_join F.type_str_join (pr_join (G := G)) ha (pa_cons hb pa_nil (star_cons ns2)) hbase (few_ok (by simp [ns2]) (by simp)) hline (star_cons ns2) rfl) fun σ H Q h => by
    have h2 := op2 h
    obtain ⟨F, env, R, k⟩ := h2
    refine ⟨F, env, R, ?_⟩
    rw [ev] at k ⊢
    intro F1 H1 v p1 v1 n1
    have v1' : relF G F1 H1 (.str z) v := v1
    simp only [relF] at v1'
    subst v1'
    exact ⟨rfl, rdE_mono (k F1 H1 _ p1 v1 n1) fun y _ h => ⟨y, rfl, h⟩⟩
end
section
variable {G : Gp} {F F' : Addr → Prop} {H H' : Hp} {env e2 : Env} {σ : L2.St}
theorem vOks_len : ∀ {vs : List (Fl × D)} {xs : List V}, vOks G F H env σ vs xs → xs.length = vs.length
  | [], xs, h => by have e : xs = [] := h; subst e; rfl
  | (f, d) :: r, _, ⟨x, xr, e, _, h⟩ => by rw [e, List.length_cons, List.length_cons, vOks_len h]
theorem vOks_get : ∀ {vs : List (Fl × D)} {xs : List V} {j : Nat} {q : Fl × D}, vOks G F H env σ vs xs → vs[j]? = some q → ∃ x, xs[j]? = some x ∧ vOk G F H env σ q.1 q.2 x
  | [], _, _, _, _, e => by simp at e
  | (f, d) :: r, _, 0, q, ⟨x, xr, e, h1, h2⟩, hq => by
    simp at hq; subst hq; subst e
    exact ⟨x, rfl, h1⟩
  | (f, d) :: r, _, j + 1, q, ⟨x, xr, e, h1, h2⟩, hq => by
    subst e
    obtain ⟨y, e1, e2⟩ := vOks_get (j := j) h2 (by simpa using hq)
    exact ⟨y, by simpa using e1, e2⟩
theorem lend_len : ∀ (vs : List (Fl × D)) (e : Env), (lend vs e).length = vs.length
  | [], _ => rfl
  | (.pl i, d) :: r, e => by rw [lend, List.length_cons, List.length_cons, lend_len r e]
  | (.fr, d) :: r, e => by rw [lend, List.length_cons, List.length_cons, lend_len r e]; exact fun _ z => nomatch z
  | (.ow, d) :: r, e => by rw [lend, List.length_cons, List.length_cons, lend_len r e]; exact fun _ z => nomatch z
/-- what is lent at j -/
theorem lend_get : ∀ (vs : List (Fl × D)) (e : Env) (j : Nat), getS (lend vs e) j = match vs[j]? with
    | some (.pl i, _) => getS e i
    | some (_, d) => .fr d
    | none => .non
  | [], _, j => by cases j <;> rfl
  | (.pl i, d) :: r, e, 0 => rfl
  | (.fr, d) :: r, e, 0 => rfl
  | (.ow, d) :: r, e, 0 => rfl
  | (.pl i, d) :: r, e, j + 1 => lend_get r e j
  | (.fr, d) :: r, e, j + 1 => lend_get r e j
  | (.ow, d) :: r, e, j + 1 => lend_get r e j
theorem places_get : ∀ {vs : List (Fl × D)} {j i : Nat} {d : D}, vs[j]? = some (.pl i, d) → i ∈ places vs
  | [], _, _, _, e => by simp at e
  | (.pl k, d) :: r, 0, i, _, e => by simp at e; rw [e.1]; exact List.mem_cons_self
  | (.fr, d) :: r, 0, i, _, e => by simp at e
  | (.ow, d) :: r, 0, i, _, e => by simp at e
  | (.pl k, d) :: r, j + 1, i, _, e => List.mem_cons_of_mem _ (places_get (j := j) (by simpa using e))
  | (.fr, d) :: r, j + 1, i, _, e => places_get (j := j) (vs := r) (by simpa using e)
  | (.ow, d) :: r, j + 1, i, _, e => places_get (j := j) (vs := r) (by simpa using e)
theorem places_of : ∀ {vs : List (Fl × D)} {i : Nat}, i ∈ places vs → ∃ (j : Nat) (d : D), vs[j]? = some (.pl i, d)
  | [], _, h => by simp [places] at h
  | (.pl k, d) :: r, i, h => by
    rcases List.mem_cons.mp h with e | h
    · exact ⟨0, d, by rw [e]; rfl⟩
    · obtain ⟨j, d', e⟩ := places_of h
      exact ⟨j + 1, d', by simpa using e⟩
  | (.fr, d) :: r, i, h => by
    obtain ⟨j, d', e⟩ := places_of (vs := r) h
    exact ⟨j + 1, d', by simpa using e⟩
  | (.ow, d) :: r, i, h => by
    obtain ⟨j, d', e⟩ := places_of (vs := r) h
    exact ⟨j + 1, d', by simpa using e⟩
theorem nodupN_cons {a : Nat} {r : List Nat} (h : nodupN (a :: r) = true) : a ∉ r ∧ nodupN r = true := by
  unfold nodupN at h
  simp only [Bool.and_eq_true, Bool.not_eq_true', List.contains_eq_mem, decide_eq_false_iff_not] at h
  exact h
theorem places_inj : ∀ {vs : List (Fl × D)} {j k i : Nat} {d d' : D}, nodupN (places vs) = true → vs[j]? = some (.pl i, d) → vs[k]? = some (.pl i, d') → j = k
  | [], _, _, _, _, _, _, e, _ => by simp at e
  | (.pl q, u) :: r, 0, 0, _, _, _, _, _, _ => rfl
  | (.pl q, u) :: r, 0, k + 1, i, d, d', h, e1, e2 => by
    simp at e1
    have := places_get (vs := r) (j := k) (by simpa using e2)
    rw [← e1.1] at this
    exact absurd this (nodupN_cons h).1
  | (.pl q, u) :: r, j + 1, 0, i, d, d', h, e1, e2 => by
    simp at e2
    have := places_get (vs := r) (j := j) (by simpa using e1)
    rw [← e2.1] at this
    exact absurd this (nodupN_cons h).1
  | (.pl q, u) :: r, j + 1, k + 1, i, d, d', h, e1, e2 => congrArg (· + 1) (places_inj (vs := r) (nodupN_cons h).2 (by simpa using e1) (by simpa using e2))
  | (.fr, u) :: r, 0, _, i, d, d', h, e1, e2 => by simp at e1
  | (.ow, u) :: r, 0, _, i, d, d', h, e1, e2 => by simp at e1
  | (.fr, u) :: r, j + 1, 0, i, d, d', h, e1, e2 => by simp at e2
  | (.ow, u) :: r, j + 1, 0, i, d, d', h, e1, e2 => by simp at e2
  | (.fr, u) :: r, j + 1, k + 1, i, d, d', h, e1, e2 => congrArg (· + 1) (places_inj (vs := r) h (by simpa using e1) (by simpa using e2))
  | (.ow, u) :: r, j + 1, k + 1, i, d, d', h, e1, e2 => congrArg (· + 1) (places_inj (vs := r) h (by simpa using e1) (by simpa using e2))
theorem slAt_map {xs : List V} {j : Nat} : slAt (xs.map some) j = xs[j]? := by
  unfold slAt
  rw [List.getElem?_map]
  cases xs[j]? <;> rfl
/-- the slots that the callee sees -/
theorem lend_rel {vs : List (Fl × D)} {xs : List V} (hs : ∀ a, F a → F' a) (hF : ∀ a, owAt vs xs a → F' a) (v : vOks G F H env σ vs xs) (R : Rel G F' H env σ) (nd : nodupN (places vs) = true) : Rel G F' H (lend vs env) (xs.map some) := by
  have own : ∀ j, isOwn (getS (lend vs env) j) = true → ∃ i d, vs[j]? = some (.pl i, d) ∧ isOwn (getS env i) = true ∧ slAt σ i = slAt (xs.map some) j := fun j hj => by
    rw [lend_get] at hj
    cases q : vs[j]? with
    | none => rw [q] at hj; cases hj
    | some w =>
      obtain ⟨f, d⟩ := w
      cases f with
      | pl i =>
        rw [q] at hj
        obtain ⟨x, e1, e2⟩ := vOks_get v q
        have e2 : slAt σ i = some x := e2
        exact ⟨i, d, rfl, hj, by rw [slAt_map, e1, e2]⟩
      | fr => rw [q] at hj; cases hj
      | ow => rw [q] at hj; cases hj
  refine ⟨by rw [lend_len, List.length_map, vOks_len v], fun j => ?_, fun j k a hj hk ej ek => ?_, R.fin⟩
  · rw [lend_get, slAt_map]
    cases q : vs[j]? with
    | none => trivial
    | some w =>
      obtain ⟨f, d⟩ := w
      obtain ⟨x, e1, e2⟩ := vOks_get v q
      cases f with
      | pl i =>
        have e2 : slAt σ i = some x := e2
        have := R.slot i
        rw [e2] at this
        rw [e1]
        exact this
      | fr => rw [e1]; exact ⟨x, rfl, relF_sub hs d x e2⟩
      | ow =>
        rw [e1]
        obtain ⟨a, ea, _, _, r⟩ := e2
        have at_ : owAt vs xs a := by
          have go : ∀ (vs : List (Fl × D)) (xs : List V) (j : Nat), vs[j]? = some (.ow, d) → xs[j]? = some x → owAt vs xs a := by
            intro vs
            induction vs with
            | nil => intro xs j h; simp at h
            | cons w r ih =>
              intro xs j h1 h2
              cases xs with
              | nil => simp at h2
              | cons y yr =>
                cases j with
                | zero => simp at h1 h2; subst h1; subst h2; exact .inl ⟨rfl, ea⟩
                | succ j => exact .inr (ih yr j (by simpa using h1) (by simpa using h2))
          exact go vs xs j q e1
        subst ea
        exact ⟨_, rfl, relF_of_relO (relO_sub hs r) (hF a at_)⟩
  · obtain ⟨i, d, q1, q2, q3⟩ := own j hj
    obtain ⟨i', d', q4, q5, q6⟩ := own k hk
    have := R.one i i' a q2 q5 (q3.trans ej) (q6.trans ek)
    subst this
    exact places_inj nd q1 q4
theorem back_len : ∀ {vs : List (Fl × D)} {outs : List Sl} {e e2 : Env}, back vs outs e = some e2 → e2.length = e.length
  | [], _, _, _, h => by cases h; rfl
  | (.pl i, d) :: r, o :: outs, e, e2, h => by
    unfold back at h
    split at h
    · cases h
    · rw [back_len h, setS_length]
  | (.pl i, d) :: r, [], _, _, h => by cases h
  | (.fr, d) :: r, _ :: outs, e, e2, h => back_len (vs := r) (outs := outs) h
  | (.ow, d) :: r, _ :: outs, e, e2, h => back_len (vs := r) (outs := outs) h
  | (.fr, d) :: r, [], e, e2, h => back_len (vs := r) (outs := []) h
  | (.ow, d) :: r, [], e, e2, h => back_len (vs := r) (outs := []) h
/-- what came back -/
theorem back_get : ∀ {vs : List (Fl × D)} {outs : List Sl} {e e2 : Env}, back vs outs e = some e2 → nodupN (places vs) = true → (∀ i ∈ places vs, i < e.length) → ∀ i,
    (∀ (j : Nat) (d : D), vs[j]? = some (.pl i, d) → getS e2 i = getS outs j) ∧ (i ∉ places vs → getS e2 i = getS e i)
  | [], _, _, _, h, _, _, i => by cases h; exact ⟨fun j d e => by simp at e, fun _ => rfl⟩
  | (.pl k, d) :: r, o :: outs, e, e2, h, nd, hl, i => by
    unfold back at h
    split at h
    · cases h
    · obtain ⟨n1, n2⟩ := nodupN_cons nd
      have ih := back_get h n2 (fun q hq => by rw [setS_length]; exact hl q (List.mem_cons_of_mem _ hq))
      refine ⟨fun j d' e1 => ?_, fun hi => ?_⟩
      · cases j with
        | zero =>
          simp at e1
          obtain ⟨rfl, _⟩ := e1
          rw [(ih k).2 n1, getS_set_self (hl k List.mem_cons_self)]; rfl
        | succ j => exact (ih i).1 j d' (by simpa using e1)
      · have hi : i ≠ k ∧ i ∉ places r := by
          have : i ∉ k :: places r := hi
          simpa [not_or] using this
        rw [(ih i).2 hi.2, getS_set_ne (Ne.symm hi.1)]
  | (.pl i, d) :: r, [], _, _, h, _, _, _ => by cases h
  | (.fr, d) :: r, o :: outs, e, e2, h, nd, hl, i => by
    have ih := back_get (vs := r) (outs := outs) h nd hl i
    refine ⟨fun j d' e1 => ?_, ih.2⟩
    cases j with
    | zero => simp at e1
    | succ j => exact ih.1 j d' (by simpa using e1)
  | (.ow, d) :: r, o :: outs, e, e2, h, nd, hl, i => by
    have ih := back_get (vs := r) (outs := outs) h nd hl i
    refine ⟨fun j d' e1 => ?_, ih.2⟩
    cases j with
    | zero => simp at e1
    | succ j => exact ih.1 j d' (by simpa using e1)
  | (.fr, d) :: r, [], e, e2, h, nd, hl, i => by
    have ih := back_get (vs := r) (outs := []) h nd hl i
    refine ⟨fun j d' e1 => ?_, ih.2⟩
    cases j with
    | zero => simp at e1
    | succ j => rw [ih.1 j d' (by simpa using e1)]; cases j <;> rfl
  | (.ow, d) :: r, [], e, e2, h, nd, hl, i => by
    have ih := back_get (vs := r) (outs := []) h nd hl i
    refine ⟨fun j d' e1 => ?_, ih.2⟩
    cases j with
    | zero => simp at e1
    | succ j => rw [ih.1 j d' (by simpa using e1)]; cases j <;> rfl
/-- behind a call, in the caller's slots -/
theorem back_pst {vs : List (Fl × D)} {xs : List V} {outs : List Sl} (v : ∀ (j i : Nat) (d : D), vs[j]? = some (.pl i, d) → ∃ x, xs[j]? = some x ∧ slAt σ i = some x) (R : Rel G F H env σ) (nd : nodupN (places vs) = true) (RL : Rel G F H (lend vs env) (xs.map some))
    (P : Pst G F H (lend vs env) (xs.map some) F' H' outs (xs.map some)) (hb : back vs outs env = some e2) : Pst G F H env σ F' H' e2 σ := by
  have hlt : ∀ i ∈ places vs, i < env.length := fun i hi => by
    obtain ⟨j, d, e⟩ := places_of hi
    obtain ⟨x, _, e2⟩ := v j i d e
    have := slAt_some e2
    rw [R.len]
    exact (List.getElem?_eq_some_iff.mp this).1
  have bg := back_get hb nd hlt
  -- the two kinds of slots
  have kind : ∀ i, (∃ j d x, vs[j]? = some (.pl i, d) ∧ xs[j]? = some x ∧ slAt σ i = some x ∧ getS e2 i = getS outs j ∧ getS (lend vs env) j = getS env i) ∨ (i ∉ places vs ∧ getS e2 i = getS env i) := fun i => by
    by_cases hi : i ∈ places vs
    · obtain ⟨j, d, e⟩ := places_of hi
      obtain ⟨x, e1, e2⟩ := v j i d e
      exact .inl ⟨j, d, x, e, e1, e2, (bg i).1 j d e, by rw [lend_get, e]⟩
    · exact .inr ⟨hi, (bg i).2 hi⟩
  have lendAt : ∀ j, isOwn (getS (lend vs env) j) = true → ∃ i d x, vs[j]? = some (.pl i, d) ∧ xs[j]? = some x ∧ slAt σ i = some x ∧ getS (lend vs env) j = getS env i := fun j hj => by
    have hj' := hj
    rw [lend_get] at hj
    cases q : vs[j]? with
    | none => rw [q] at hj; cases hj
    | some w =>
      obtain ⟨f, d⟩ := w
      cases f with
      | pl i =>
        obtain ⟨x, e1, e2⟩ := v j i d q
        exact ⟨i, d, x, rfl, e1, e2, by rw [lend_get, q]⟩
      | fr => rw [q] at hj; cases hj
      | ow => rw [q] at hj; cases hj
  have mlE : ∀ a, Ml (lend vs env) (xs.map some) a → ∃ i, i ∈ places vs ∧ isOwn (getS env i) = true ∧ slAt σ i = some (.ref a) := fun a ⟨j, h1, h2⟩ => by
    obtain ⟨i, d, x, e1, e2, e3, e4⟩ := lendAt j h1
    rw [slAt_map, e2] at h2; cases h2
    exact ⟨i, places_get e1, by rw [← e4]; exact h1, e3⟩
  have moE : ∀ a, Mo (lend vs env) (xs.map some) a → Mo env σ a := fun a ⟨j, d', h1, h2⟩ => by
    obtain ⟨i, d, x, e1, e2, e3, e4⟩ := lendAt j (by rw [h1]; rfl)
    rw [slAt_map, e2] at h2; cases h2
    exact ⟨i, d', by rw [← e4]; exact h1, e3⟩
  have apart' : ∀ i, i ∉ places vs → isOwn (getS env i) = true → ∀ a, slAt σ i = some (.ref a) → ¬ Ml (lend vs env) (xs.map some) a := fun i hi ho a ha m => by
    obtain ⟨i', h1, h2, h3⟩ := mlE a m
    have := R.one i i' a ho h2 ha h3
    subst this
    exact hi h1
  have alive : ∀ i, isOwn (getS env i) = true → ∀ a, slAt σ i = some (.ref a) → H a ≠ none := fun i ho a ha => R.there ⟨i, ho, ha⟩
  have notF' : ∀ i, i ∉ places vs → isOwn (getS env i) = true → ∀ a, slAt σ i = some (.ref a) → ¬ F a → ¬ F' a := fun i hi ho a ha nF z => by
    rcases P.ext.new a z with z | z | z
    · exact nF z
    · exact apart' i hi ho a ha z.ml
    · exact alive i ho a ha z
  refine ⟨P.ext.weak moE, ⟨by rw [back_len hb]; exact R.len, fun i => ?_, fun i i' a hi hi' ea ea' => ?_, P.rel.fin⟩, fun a ⟨i, h1, h2⟩ => ?_, fun a ⟨i, d, h1, h2⟩ => ?_, fun i d h => ?_⟩
  · rcases kind i with ⟨j, d, x, e1, e2, e3, e4, _⟩ | ⟨h1, h2⟩
    · rw [e4, e3]
      have := P.rel.slot j
      rw [slAt_map, e2] at this
      exact this
    · rw [h2]
      have q := R.slot i
      have ap := apart' i h1
      have nf := notF' i h1
      cases hs : getS env i with
      | non => trivial
      | fr y =>
        rw [hs] at q
        obtain ⟨u, h4, h5⟩ := q
        exact ⟨u, h4, relF_ext P.ext RL.apart y u h5⟩
      | ow y =>
        rw [hs] at q ap nf
        obtain ⟨u, h4, h6, h5⟩ := q
        exact ⟨u, h4, nf rfl u h4 h6, relO_ext P.ext RL.apart (fun z => ap rfl u h4 z.ml) h5⟩
      | lk y =>
        rw [hs] at q ap nf
        obtain ⟨u, h4, h6, h5⟩ := q
        exact ⟨u, h4, nf rfl u h4 h6, relO_ext P.ext RL.apart (fun z => ap rfl u h4 z.ml) h5⟩
  · -- one slot alone
    have mixed : ∀ (i i' : Nat) (j : Nat) (d : D) (x : V), vs[j]? = some (.pl i, d) → xs[j]? = some x → slAt σ i = some x → isOwn (getS outs j) = true → i' ∉ places vs → isOwn (getS env i') = true → slAt σ i = some (.ref a) → slAt σ i' = some (.ref a) → False := fun i i' j d x e1 e2 e3 ho hn hi' ea ea' => by
      rw [e3] at ea; cases ea
      rcases P.mo a ⟨j, ho, by rw [slAt_map]; exact e2⟩ with z | z
      · exact apart' i' hn hi' a ea' z
      · exact alive i' hi' a ea' z
    rcases kind i with ⟨j, d, x, e1, e2, e3, e4, e5⟩ | ⟨h1, h2⟩
    · rcases kind i' with ⟨j', d', x', e1', e2', e3', e4', e5'⟩ | ⟨h1', h2'⟩
      · rw [e4] at hi; rw [e4'] at hi'
        have ea2 := ea; have ea2' := ea'
        rw [e3] at ea2; cases ea2
        rw [e3'] at ea2'; cases ea2'
        have := P.rel.one j j' a hi hi' (by rw [slAt_map]; exact e2) (by rw [slAt_map]; exact e2')
        subst this
        rw [e1] at e1'; cases e1'; rfl
      · rw [e4] at hi; rw [h2'] at hi'
        exact (mixed i i' j d x e1 e2 e3 hi h1' hi' ea ea').elim
    · rcases kind i' with ⟨j', d', x', e1', e2', e3', e4', e5'⟩ | ⟨h1', h2'⟩
      · rw [e4'] at hi'; rw [h2] at hi
        exact (mixed i' i j' d' x' e1' e2' e3' hi' h1 hi ea' ea).elim
      · rw [h2] at hi; rw [h2'] at hi'
        exact R.one i i' a hi hi' ea ea'
  · rcases kind i with ⟨j, d, x, e1, e2, e3, e4, _⟩ | ⟨h3, h4⟩
    · rw [e4] at h1
      rw [e3] at h2; cases h2
      rcases P.mo a ⟨j, h1, by rw [slAt_map]; exact e2⟩ with z | z
      · obtain ⟨i2, _, h5, h6⟩ := mlE a z
        exact .inl ⟨i2, h5, h6⟩
      · exact .inr z
    · rw [h4] at h1
      exact .inl ⟨i, h1, h2⟩
  · rcases kind i with ⟨j, d', x, e1, e2, e3, e4, _⟩ | ⟨h3, h4⟩
    · rw [e4] at h1
      rw [e3] at h2; cases h2
      rcases P.mw a ⟨j, d, h1, by rw [slAt_map]; exact e2⟩ with z | z
      · exact .inl (moE a z)
      · exact .inr z
    · rw [h4] at h1
      exact .inl ⟨i, d, h1, h2⟩
  · rcases kind i with ⟨j, d', x, e1, e2, e3, e4, e5⟩ | ⟨h3, h4⟩
    · rw [e4] at h
      rw [← e5]
      exact ⟨(P.lk j d h).1, rfl⟩
    · rw [h4] at h; exact ⟨h, rfl⟩
end
end PF
set_option Elab.async false
set_option linter.all false
set_option maxRecDepth 100000
set_option maxHeartbeats 1000000
namespace PF
open PySem PySem.Spec PyProof.Rows L2
/-- what a def is handed, what it answers -/
def kF (G : Gp) (F : Addr → Prop) (H : Hp) (as : List Sl) (vs : List V) (Q : VK) (E : XK) : FR → Prop
  | .ok o d outs => ∀ F' H' v, Pst G F H as (vs.map some) F' H' outs (vs.map some) →
      (if o = true then ∃ a, v = .ref a ∧ ¬ F' a ∧ H a = none ∧ ¬ Ml outs (vs.map some) a ∧ relO G F' H' d a else relF G F' H' d v) → Q v H'
  | .ex x outs => ∀ F' H' cls dd, Pst G F H as (vs.map some) F' H' outs (vs.map some) → exOk G F' H' x cls dd → E cls dd H'
  | .st => False
def spOf (G : Gp) (φ : List Sl → FR) (n : Nat) : Sp := fun vs H Q E => vs.length = n ∧ ∃ F as, Rel G F H as (vs.map some) ∧ kF G F H as vs Q E (φ as)
section
variable {G : Gp} {Φ : Str → List Sl → FR} {γ : Str → Option D} {W : WX} {X : Cx} {σ : L2.St} {H : Hp} {f : Str} {ms : List E} {Q : VK} {n : Nat}
theorem call_rd (hn : ∀ as, Φ f as ≠ .st → as.length = n) (h : rdE G Φ γ W (.call f ms) σ H Q) : rdEs G Φ γ W ms σ H fun xs H1 => spOf G (Φ f) n xs H1 Q (WE W σ) := by
  obtain ⟨F, env, R, k⟩ := h
  refine ⟨F, env, R, ?_⟩
  rw [ev] at k
  cases hs : evs Φ γ ms env with
  | st => rw [hs] at k; exact k
  | ex x e1 => rw [hs] at k; exact k
  | ok vs e1 =>
    rw [hs] at k
    intro F1 H1 xs p1 v1 n1
    simp only [REs.bd] at k
    split at k
    · rename_i nd
      have pz : Pst G F H env σ (fun a => F1 a ∨ owAt vs xs a) H1 e1 σ := p1.freeze fun a z => let q := owAt_facts v1 n1 z; ⟨q.2.1, q.2.2.1, .inr q.2.2.2⟩
      have RL := lend_rel (F' := fun a => F1 a ∨ owAt vs xs a) (fun _ z => .inl z) (fun _ z => .inr z) v1 pz.rel nd
      have vv : ∀ (j i : Nat) (d : D), vs[j]? = some (.pl i, d) → ∃ x, xs[j]? = some x ∧ slAt σ i = some x := fun j i d e => by
        obtain ⟨x, e1, e2⟩ := vOks_get v1 e
        exact ⟨x, e1, e2⟩
      have hne : Φ f (lend vs e1) ≠ .st := fun z => by rw [z] at k; exact k
      refine ⟨by rw [vOks_len v1, ← lend_len vs e1]; exact hn _ hne, _, lend vs e1, RL, ?_⟩
      cases hf : Φ f (lend vs e1) with
      | st => exact hne hf
      | ex x outs =>
        rw [hf] at k
        simp only [callE] at k
        cases hb : back vs outs e1 with
        | none => rw [hb] at k; exact k.elim
        | some e2 =>
          rw [hb] at k
          intro F3 H3 cls dd P hx
          exact k F3 H3 cls dd (pz.trans (back_pst vv pz.rel nd RL P hb)) hx
      | ok o d outs =>
        rw [hf] at k
        simp only [callE] at k
        cases hb : back vs outs e1 with
        | none => rw [hb] at k; exact k.elim
        | some e2 =>
          rw [hb] at k
          intro F3 H3 v P hv
          have P2 := back_pst vv pz.rel nd RL P hb
          have k : kE G W F H env σ Q (.ok (flOf o) d e2) := k
          refine k F3 H3 v (pz.trans P2) ?_ ?_
          · cases o with
            | false => rw [if_neg Bool.false_ne_true] at hv; exact hv
            | true =>
              rw [if_pos rfl] at hv
              obtain ⟨a, ea, nF, hnew, nM, r⟩ := hv
              refine ⟨a, ea, nF, fun ⟨i, h1, h2⟩ => ?_, r⟩
              have hlt : ∀ i ∈ places vs, i < e1.length := fun i hi => by
                obtain ⟨j, d, e⟩ := places_of hi
                obtain ⟨x, _, e2⟩ := vv j i d e
                rw [pz.rel.len]
                exact (List.getElem?_eq_some_iff.mp (slAt_some e2)).1
              have bg := back_get hb nd hlt i
              by_cases hi : i ∈ places vs
              · obtain ⟨j, d', e⟩ := places_of hi
                obtain ⟨x, e3, e4⟩ := vv j i d' e
                rw [bg.1 j d' e] at h1
                rw [h2] at e4; cases e4
                exact nM ⟨j, h1, by rw [slAt_map]; exact e3⟩
              · rw [bg.2 hi] at h1
                exact pz.rel.there ⟨i, h1, h2⟩ hnew
          · intro ef a ea
            cases o with
            | false => cases ef
            | true =>
              rw [if_pos rfl] at hv
              obtain ⟨b, eb, nF, hnew, nM, r⟩ := hv
              rw [eb] at ea; cases ea
              exact pz.ext.alive a hnew
    · exact k.elim
variable {mg : Str → Option Value} {base : Heap} {k : Nat}
/-- a constant that stands for a module's function -/
def biD : D → Option String
  | .ins c [] [] => if c = "math.gcd" then some "math.gcd" else if c = "math.lcm" then some "math.lcm" else none
  | _ => none
/-- the program around a def: its names, its constants, its defs -/
structure Top (G : Gp) (mg : Str → Option Value) (base : Heap) (Φ : Str → List Sl → FR) (γ : Str → Option D) (bns : List Str) (fns : Str → Bool) (k : Nat) : Prop where
  gl : ∀ x d, γ x = some d → biD d = none → ∃ u v, mg x = some u ∧ RelV v u ∧ ∀ F H, relF G F H d v
  im : ∀ x d id, γ x = some d → biD d = some id → mg x = some (.builtin id)
  bn : ∀ x ∈ bns, mg x = none
  fn : ∀ f, fns f = true → ∃ fa fd ps, mg f = some (.ref fa) ∧ PySem.W.keepIn G.K (.ref fa) = true ∧ Binds G.K fd ps [] ∧ (∀ as, Φ f as ≠ .st → as.length = ps.length) ∧ FnOk G.P G.w G.K mg base (L2.CX G.P G.w) k fa fd ps (spOf G (Φ f) ps.length)
/-- a scope: its names, the names whose cells are its own -/
structure Sc where
  scope : Scope
  fn : Str → Bool
/-- the context -/
structure Cok (G : Gp) (mg : Str → Option Value) (base : Heap) (N : List Str) (k : Nat) (sc : Sc) (X : Cx) (W : WX) : Prop where
  P : X.prog = G.P
  w : X.w = G.w
  K : X.K = G.K
  mg : X.mg = mg
  base : X.base = base
  names : X.N = N
  scope : X.env.scope = sc.scope
  fn : X.fn = sc.fn
  room : Room k X.A
  calm : X.calm = true
  nd : N.Nodup
  tk : Takes X W
theorem e_call {bns : List Str} {fns : Str → Bool} {N : List Str} {sc : Sc} (T : Top G mg base Φ γ bns fns k) (C : Cok G mg base N k sc X W) {p pos : Pos} {e : Expr} {es : List Expr} {m : E} {ms : List E} (hf : fns f = true) (hg : Gl X f) (hdb : (f == ("__debug__" : Str)) = false) (ns : (e :: es).all notStar = true)
    (h : PA X (e :: es) (rdEs G Φ γ W (m :: ms))) : PE X (.Call (.Name f p) (e :: es) [] pos) (rdE G Φ γ W (.call f (m :: ms))) := by
  obtain ⟨fa, fd, ps, h1, h2, h3, h4, h5⟩ := T.fn f hf
  rw [List.all_cons, Bool.and_eq_true] at ns
  have FF : FnOk X.prog X.w X.K X.mg X.base (L2.CX X.prog X.w) k fa fd ps (spOf G (Φ f) ps.length) := by rw [C.P, C.w, C.K, C.mg, C.base]; exact h5
  refine PE.imp (pe_callSD (dvs := []) (ds := []) (E := WE W) FF C.room hg (by rw [C.mg]; exact h1) (by rw [C.K]; exact h2) (by rw [C.K]; exact h3) .nil (fun σ => passAt C.tk σ) h hdb (star_cons ns.1) (back_any ns.2)) fun σ H Q h => ?_
  have := call_rd h4 h
  show rdEs G Φ γ W (m :: ms) σ H fun vs H1 => spOf G (Φ f) ps.length (vs ++ []) H1 Q (WE W σ)
  simp only [List.append_nil]
  exact this
theorem e_call0 {bns : List Str} {fns : Str → Bool} {N : List Str} {sc : Sc} (T : Top G mg base Φ γ bns fns k) (C : Cok G mg base N k sc X W) {p pos : Pos} (hf : fns f = true) (hg : Gl X f) (hdb : (f == ("__debug__" : Str)) = false) :
    PE X (.Call (.Name f p) [] [] pos) (rdE G Φ γ W (.call f [])) := by
  obtain ⟨fa, fd, ps, h1, h2, h3, h4, h5⟩ := T.fn f hf
  have FF : FnOk X.prog X.w X.K X.mg X.base (L2.CX X.prog X.w) k fa fd ps (spOf G (Φ f) ps.length) := by rw [C.P, C.w, C.K, C.mg, C.base]; exact h5
  refine ⟨fun pins s σ H Q I h => ?_⟩
  refine wpAny_Call_Name_kw (ld_glob I hg (by rw [C.mg]; exact h1) ?_ hdb)
  exact PySem.W.callWith_K0 I.kIn (by rw [C.K]; exact h2) (run_fnSD (dvs := []) (ds := []) (us := []) (E := WE W) FF C.room (by rw [C.K]; exact h3) .nil (passAt C.tk σ) I .nil (rdEs_nil (call_rd h4 h)))
end
section
variable (G : Gp)
/-- the iterator J yields ds, whatever becomes of the slots that are not locked, and of lists Z that stood ahead (at H0) and are nobody's -/
def ItOk (H0 : Hp) (F : Addr → Prop) (H : Hp) (e : Env) (σ : L2.St) (ds : List D) (ls : List Nat) (J : L2.It) : Prop :=
  ∀ (Z : Addr → Prop) F2 H2, (∀ a, Z a → H0 a ≠ none ∧ ¬ F a ∧ ¬ Ml e σ a ∧ ∃ xs, H a = some (.lst xs)) → Ext (fun a => Mo (lockAll ls e) σ a ∨ Z a) F H F2 H2 → ∀ i : Nat, (ds.length ≤ i → J.stop i H2) ∧ ∀ d, ds[i]? = some d → J.go i H2 ∧ ∀ x H3, J.yld i H2 x H3 → (∀ a o, H2 a = some o → H3 a = some o) ∧ relF G F2 H3 d x
theorem ItOk.at0 {H0 : Hp} {F : Addr → Prop} {H : Hp} {e : Env} {σ : L2.St} {ds : List D} {ls : List Nat} {J : L2.It} (h : ItOk G H0 F H e σ ds ls J) : ∀ F2 H2, Ext (Mo (lockAll ls e) σ) F H F2 H2 → ∀ i : Nat, (ds.length ≤ i → J.stop i H2) ∧ ∀ d, ds[i]? = some d → J.go i H2 ∧ ∀ x H3, J.yld i H2 x H3 → (∀ a o, H2 a = some o → H3 a = some o) ∧ relF G F2 H3 d x :=
  fun F2 H2 E => h (fun _ => False) F2 H2 (fun _ z => z.elim) (E.weak fun _ z => .inl z)
theorem ItOk.back {H0 H1 : Hp} {F : Addr → Prop} {H : Hp} {e : Env} {σ : L2.St} {ds : List D} {ls : List Nat} {J : L2.It} (h : ItOk G H1 F H e σ ds ls J) (al : ∀ a, H1 a = none → H0 a = none) : ItOk G H0 F H e σ ds ls J :=
  fun Z F2 H2 hz E => h Z F2 H2 (fun a z => ⟨fun q => (hz a z).1 (al a q), (hz a z).2⟩) E
def kI (W : WX) (F : Addr → Prop) (H : Hp) (env : Env) (σ : L2.St) (R : L2.It → Hp → Prop) : RI → Prop
  | .ok ds ls e' => ∀ F' H' J, Pst G F H env σ F' H' e' σ → ItOk G H F' H' e' σ ds ls J → R J H'
  | .ex x e' => ∀ F' H' cls dd, Pst G F H env σ F' H' e' σ → exOk G F' H' x cls dd → W cls dd σ H'
  | .st => False
def rdI (Φ : Str → List Sl → FR) (γ : Str → Option D) (W : WX) (m : It) : TI := fun σ H R => ∃ F env, Rel G F H env σ ∧ kI G W F H env σ R (evI Φ γ m env)
end
section
variable {G : Gp} {Φ : Str → List Sl → FR} {γ : Str → Option D} {W : WX} {X : Cx} {F : Addr → Prop} {H : Hp} {env : Env} {σ : L2.St} {e : Expr} {m : E} {tg : Expr}
theorem lockS_get (e : Env) (i j : Nat) : getS (lockS e i) j = if i = j then (match getS e j with | .ow d => .lk d | s => s) else getS e j := by
  unfold lockS
  cases h : getS e i with
  | ow d =>
    show getS (setS e i (.lk d)) j = _
    have hi : i < e.length := getS_lt (by rw [h]; exact fun z => nomatch z)
    rw [getS_setS]
    by_cases z : i = j
    · subst z; rw [if_pos ⟨rfl, hi⟩, if_pos rfl, h]
    · rw [if_neg fun q => z q.1, if_neg z]
  | _ =>
    show getS e j = _
    split
    · rename_i z; subst z; rw [h]
    · rfl
theorem Mo_lockS {e : Env} {i : Nat} {a : Addr} (h : Mo (lockS e i) σ a) : Mo e σ a ∧ ∀ d, getS e i = .ow d → slAt σ i = some (.ref a) → ∃ j, j ≠ i ∧ isOwn (getS e j) = true ∧ slAt σ j = some (.ref a) := by
  obtain ⟨j, d, h1, h2⟩ := h
  rw [lockS_get] at h1
  split at h1
  · rename_i z
    subst z
    cases q : getS e i <;> rw [q] at h1 <;> cases h1
  · rename_i z
    exact ⟨⟨j, d, h1, h2⟩, fun _ _ _ => ⟨j, fun q => z q.symm, by rw [h1]; rfl, h2⟩⟩
/-- a value that is walked is not written: it is shared, new, or its slot is locked -/
theorem walk_at {H0 : Hp} {f : Fl} {d : D} {v : V} {a : Addr} {d' : D} (R : Rel G F H env σ) (h : vOk G F H env σ f d v) (hn : vNew H0 f v) (e : v = .ref a) (hl : late f d env = some d') (hd : (∃ ds, d' = .lst ds) ∨ ∃ ks vs, d' = .dct ks vs) : ¬ Mo (lockAll (lockOf f) env) σ a ∧ (F a ∨ Ml env σ a ∨ H0 a = none) := by
  cases f with
  | fr =>
    cases hl
    have : F a := by
      rcases hd with ⟨ds, rfl⟩ | ⟨ks, vs, rfl⟩
      · simp only [vOk, relF] at h
        obtain ⟨b, xs, e1, hF, _⟩ := h
        rw [e] at e1; cases e1; exact hF
      · simp only [vOk, relF] at h
        obtain ⟨b, kx, vx, e1, hF, _⟩ := h
        rw [e] at e1; cases e1; exact hF
    exact ⟨fun m => (R.apart a m).1 this, .inl this⟩
  | ow =>
    obtain ⟨b, e1, _, nM, _⟩ := h
    rw [e] at e1; cases e1
    exact ⟨fun m => nM m.ml, .inr (.inr (hn rfl a e))⟩
  | pl i =>
    have h : slAt σ i = some v := h
    subst e
    show ¬ Mo (lockS env i) σ a ∧ _
    have q := R.slot i
    have hl : (getS env i).d? = some d' := hl
    cases hs : getS env i with
    | non => rw [hs] at hl; cases hl
    | fr x =>
      rw [hs] at hl q
      cases hl
      obtain ⟨u, h1, h2⟩ := q
      rw [h] at h1; cases h1
      have : F a := by
        rcases hd with ⟨ds, rfl⟩ | ⟨ks, vs, rfl⟩
        · simp only [relF] at h2
          obtain ⟨b, xs, e1, hF, _⟩ := h2
          cases e1; exact hF
        · simp only [relF] at h2
          obtain ⟨b, kx, vx, e1, hF, _⟩ := h2
          cases e1; exact hF
      exact ⟨fun m => (R.apart a (Mo_lockS m).1).1 this, .inl this⟩
    | ow x =>
      refine ⟨fun m => ?_, .inr (.inl ⟨i, by rw [hs]; rfl, h⟩)⟩
      obtain ⟨j, hj, h1, h2⟩ := (Mo_lockS m).2 x hs h
      exact hj (R.one j i a h1 (by rw [hs]; rfl) h2 h)
    | lk x =>
      refine ⟨fun m => ?_, .inr (.inl ⟨i, by rw [hs]; rfl, h⟩)⟩
      obtain ⟨j, d2, h1, h2⟩ := (Mo_lockS m).1
      have : j = i := R.one j i a (by rw [h1]; rfl) (by rw [hs]; rfl) h2 h
      subst this
      rw [hs] at h1; cases h1
theorem apart_lock (R : Rel G F H env σ) (ls : List Nat) : ∀ a, Mo (lockAll ls env) σ a → Mo env σ a := by
  have go : ∀ (ls : List Nat) (e : Env) a, Mo (ls.foldl lockS e) σ a → Mo e σ a := by
    intro ls
    induction ls with
    | nil => intro e a h; exact h
    | cons i r ih => intro e a h; exact (Mo_lockS (ih _ a h)).1
  exact go ls env
theorem ap_lock (R : Rel G F H env σ) (ls : List Nat) : Apart (Mo (lockAll ls env) σ) F H := fun a h => R.apart a (apart_lock R ls a h)
/-- Z is apart too -/
theorem ap_z {H0 : Hp} {Z : Addr → Prop} (R : Rel G F H env σ) (ls : List Nat) (hz : ∀ a, Z a → H0 a ≠ none ∧ ¬ F a ∧ ¬ Ml env σ a ∧ ∃ xs, H a = some (.lst xs)) : Apart (fun a => Mo (lockAll ls env) σ a ∨ Z a) F H := fun a h => by
  rcases h with h | h
  · exact ap_lock R ls a h
  · obtain ⟨_, nF, _, xs, e⟩ := hz a h
    exact ⟨nF, fun ys q => by (rw [e] at q; cases q), fun o u q => by (rw [e] at q; cases q)⟩
theorem n_z {H0 : Hp} {Z : Addr → Prop} {ls : List Nat} {a : Addr} (hz : ∀ a, Z a → H0 a ≠ none ∧ ¬ F a ∧ ¬ Ml env σ a ∧ ∃ xs, H a = some (.lst xs)) (n : ¬ Mo (lockAll ls env) σ a ∧ (F a ∨ Ml env σ a ∨ H0 a = none)) : ¬ (Mo (lockAll ls env) σ a ∨ Z a) := fun h => by
  rcases h with h | h
  · exact n.1 h
  · obtain ⟨q1, q2, q3, _⟩ := hz a h
    rcases n.2 with z | z | z
    · exact q2 z
    · exact q3 z
    · exact q1 z
theorem SqL_rd {K : PySem.W.Frag} {a : Addr} {xs : List V} (h : Rd H a (.lst xs)) : SqL K H a xs := .inl h
/-- a list -/
theorem itOk_list {H0 : Hp} {ls : List Nat} {ds : List D} {xs : List V} {a : Addr} (R : Rel G F H env σ) (n : ¬ Mo (lockAll ls env) σ a ∧ (F a ∨ Ml env σ a ∨ H0 a = none)) (h1 : Rd H a (.lst xs)) (h2 : relFs G F H ds xs) : ItOk G H0 F H env σ ds ls (Itl G.K a) := fun Z F2 H2 hz E i => by
  have r1 := Rd_ext E (n_z hz n) h1
  have r2 := relFs_ext E (ap_z R ls hz) ds xs h2
  have l := relFs_length h2
  refine ⟨fun hi => ⟨xs, SqL_rd r1, by omega⟩, fun d hd => ?_⟩
  obtain ⟨x, e1, e2⟩ := relFs_get r2 hd
  refine ⟨⟨xs, x, SqL_rd r1, e1⟩, fun y H3 ⟨e, hy⟩ => ?_⟩
  subst e
  have := hy xs (SqL_rd r1)
  rw [e1] at this; cases this
  exact ⟨fun _ _ q => q, e2⟩
theorem itOk_tup {H0 : Hp} {ls : List Nat} {ds : List D} {xs : List V} {a : Addr} (R : Rel G F H env σ) (h1 : SqT G.K H a xs) (h2 : relFs G F H ds xs) : ItOk G H0 F H env σ ds ls (Itt G.K a) := fun Z F2 H2 hz E i => by
  have r1 := SqT_ext E (ap_z R ls hz) h1
  have r2 := relFs_ext E (ap_z R ls hz) ds xs h2
  have l := relFs_length h2
  refine ⟨fun hi => ⟨xs, r1, by omega⟩, fun d hd => ?_⟩
  obtain ⟨x, e1, e2⟩ := relFs_get r2 hd
  refine ⟨⟨xs, x, r1, e1⟩, fun y H3 ⟨e, hy⟩ => ?_⟩
  subst e
  have := hy xs r1
  rw [e1] at this; cases this
  exact ⟨fun _ _ q => q, e2⟩
theorem itOk_str {H0 : Hp} {ls : List Nat} {z : Str} : ItOk G H0 F H env σ (z.cps.toList.map fun c => D.str ⟨#[c]⟩) ls (Its z) := fun Z F2 H2 hz E i => by
  refine ⟨fun hi => ?_, fun d hd => ?_⟩
  · show z.cps.size ≤ i
    simpa using hi
  · rw [List.getElem?_map] at hd
    cases q : z.cps.toList[i]? with
    | none => rw [q] at hd; cases hd
    | some c =>
      rw [q] at hd; cases hd
      have q' : z.cps[i]? = some c := by rw [← Array.getElem?_toList]; exact q
      refine ⟨(Array.getElem?_eq_some_iff.mp q').1, fun y H3 ⟨e, c', h1, h2⟩ => ?_⟩
      subst e
      rw [q'] at h1; cases h1
      refine ⟨fun _ _ q => q, ?_⟩
      simp only [relF]; exact h2
theorem itOk_rng {H0 : Hp} {ls : List Nat} {lo : Int} {n : Nat} : ItOk G H0 F H env σ ((List.range n).map fun (k : Nat) => D.int (lo + (k : Int))) ls (Itr lo n) := fun Z F2 H2 hz E i => by
  refine ⟨fun hi => ?_, fun d hd => ?_⟩
  · show n ≤ i
    simpa using hi
  · rw [List.getElem?_map] at hd
    cases q : (List.range n)[i]? with
    | none => rw [q] at hd; cases hd
    | some c =>
      rw [q] at hd; cases hd
      obtain ⟨q1, q2⟩ := List.getElem?_eq_some_iff.mp q
      have hi : i < n := by simpa using q1
      have ec : c = i := by rw [← q2]; simp
      subst ec
      refine ⟨hi, fun y H3 ⟨e, h1⟩ => ?_⟩
      subst e
      refine ⟨fun _ _ q => q, ?_⟩
      simp only [relF]; exact h1
/-- a walk over a value -/
theorem kI_of {t : It} {R0 : L2.It → Hp → Prop} {kk : Fl → D → Env → RI} (k : kI G W F H env σ R0 ((ev Φ γ m env).bdI kk)) {Q1 : VK}
    (i : ∀ f d e1, ∀ F1 H1 v, Pst G F H env σ F1 H1 e1 σ → vOk G F1 H1 e1 σ f d v → vNew H f v → kI G W F H env σ R0 (kk f d e1) → Q1 v H1) : kE G W F H env σ Q1 (ev Φ γ m env) := by
  cases e : ev Φ γ m env with
  | ok f d e1 => rw [e] at k; exact fun F1 H1 v p vo n => i f d e1 F1 H1 v p vo n k
  | ex x e1 => rw [e] at k; exact k
  | st => rw [e] at k; exact k
theorem i_seq (hK : X.K = G.K)
    (he : PE X e (rdE G Φ γ W m)) : PI X tg e (rdI G Φ γ W (.seq m)) := by
  refine ⟨fun pins s σ H R I h => ?_⟩
  obtain ⟨F, env, Rl, k⟩ := h
  rw [evI] at k
  -- which make of value it is, is known beforehand
  cases ee : ev Φ γ m env with
  | st => rw [ee] at k; exact k.elim
  | ex x e1 => exact (pi_list he).run pins s σ H R I ⟨F, env, Rl, by rw [ee] at k ⊢; exact k⟩
  | ok f d e1 =>
    have k0 := k
    rw [ee] at k
    simp only [RE.bdI] at k
    cases hl : late f d e1 with
    | none => rw [hl] at k; exact k.elim
    | some d' =>
      rw [hl] at k
      cases d' with
      | lst ds =>
        refine (pi_list he).run pins s σ H R I ⟨F, env, Rl, ?_⟩
        rw [ee]
        intro F1 H1 v p1 v1 n1
        obtain ⟨a, xs, rfl, h1, h2⟩ := rLst (v1.late p1.rel hl)
        refine ⟨a, rfl, ⟨xs, SqL_rd h1⟩, ?_⟩
        rw [hK]
        exact k F1 H1 _ p1 (itOk_list p1.rel (walk_at p1.rel v1 n1 rfl hl (.inl ⟨ds, rfl⟩)) h1 h2)
      | tup ds =>
        refine (pi_tup he).run pins s σ H R I ⟨F, env, Rl, ?_⟩
        rw [ee]
        intro F1 H1 v p1 v1 n1
        obtain ⟨a, xs, rfl, h1, h2⟩ := rTup (v1.late p1.rel hl)
        refine ⟨a, rfl, ⟨xs, by rw [hK]; exact h1⟩, ?_⟩
        rw [hK]
        exact k F1 H1 _ p1 (itOk_tup p1.rel h1 h2)
      | str z =>
        refine (pi_str he).run pins s σ H R I ⟨F, env, Rl, ?_⟩
        rw [ee]
        intro F1 H1 v p1 v1 n1
        have := rStr (v1.late p1.rel hl)
        exact ⟨z, this, k F1 H1 _ p1 itOk_str⟩
      | _ => exact k.elim
theorem i_rng1 {p pos : Pos} (hg : Gl X "range") (hm : X.mg "range" = none) (he : PE X e (rdE G Φ γ W m)) (ns : notStar e = true) : PI X tg (.Call (.Name "range" p) [e] [] pos) (rdI G Φ γ W (.rng1 m)) :=
  PI.imp (pi_range1 hg hm (pa_cons he pa_nil (star_cons ns)) (star_cons ns)) fun σ H R ⟨F, env, Rl, k⟩ => by
    rw [evI] at k
    refine ⟨F, env, Rl, kI_of (t := .rng1 m) k fun f d e1 F1 H1 v p1 v1 n1 k1 => ?_⟩
    cases hl : late f d e1 with
    | none => rw [hl] at k1; exact k1.elim
    | some d' =>
      rw [hl] at k1
      cases d' with
      | int j =>
        simp only [rng1I] at k1
        split at k1
        · rename_i h
          simp only [Bool.and_eq_true, decide_eq_true_eq] at h
          refine ⟨j, by rw [rInt (v1.late p1.rel hl)], h.1, h.2, k1 F1 H1 _ p1 ?_⟩
          have := itOk_rng (G := G) (H0 := H) (F := F1) (H := H1) (env := e1) (σ := σ) (ls := []) (lo := 0) (n := j.toNat)
          simpa using this
        · exact k1.elim
      | _ => exact k1.elim
end
end PF
set_option Elab.async false
set_option linter.all false
set_option maxRecDepth 100000
set_option maxHeartbeats 1000000
namespace PF
open PySem PySem.Spec PyProof.Rows L2
section
variable {G : Gp} {F F' F1 : Addr → Prop} {H H' H1 : Hp} {env e1 e2 e' : Env} {σ σ' : L2.St}
theorem slAt_set {i j : Nat} {v : V} : slAt (σ.set i (some v)) j = if i = j ∧ i < σ.length then some v else slAt σ j := by
  unfold slAt
  rw [List.getElem?_set]
  by_cases h : i = j
  · subst h
    by_cases hl : i < σ.length
    · rw [if_pos rfl, if_pos hl, if_pos ⟨rfl, hl⟩]; rfl
    · rw [if_pos rfl, if_neg hl, if_neg fun q => hl q.2, List.getElem?_eq_none (by omega)]
  · rw [if_neg h, if_neg fun q => h q.1]
/-- a slot is set to a shared value -/
theorem Pst.setF {i : Nat} {d : D} {v : V} (R : Rel G F H env σ) (h : relF G F H d v) : Pst G F H env σ F H (setS env i (.fr d)) (σ.set i (some v)) := by
  have get : ∀ j, (getS (setS env i (.fr d)) j = .fr d ∧ slAt (σ.set i (some v)) j = some v) ∨ (getS (setS env i (.fr d)) j = getS env j ∧ slAt (σ.set i (some v)) j = slAt σ j) := fun j => by
    rw [getS_setS, slAt_set, R.len]
    by_cases z : i = j ∧ i < σ.length
    · rw [if_pos z, if_pos z]; exact .inl ⟨rfl, rfl⟩
    · rw [if_neg z, if_neg z]; exact .inr ⟨rfl, rfl⟩
  have own : ∀ j, isOwn (getS (setS env i (.fr d)) j) = true → getS (setS env i (.fr d)) j = getS env j ∧ slAt (σ.set i (some v)) j = slAt σ j := fun j hj => by
    rcases get j with ⟨h1, _⟩ | h1
    · rw [h1] at hj; cases hj
    · exact h1
  refine ⟨.refl, ⟨by rw [setS_length, List.length_set]; exact R.len, fun j => ?_, fun j k a hj hk ej ek => ?_, R.fin⟩, fun a ⟨j, h1, h2⟩ => ?_, fun a ⟨j, d', h1, h2⟩ => ?_, fun j d' h1 => ?_⟩
  · rcases get j with ⟨h1, h2⟩ | ⟨h1, h2⟩
    · rw [h1, h2]; exact ⟨v, rfl, h⟩
    · rw [h1, h2]; exact R.slot j
  · obtain ⟨h1, h2⟩ := own j hj
    obtain ⟨h3, h4⟩ := own k hk
    rw [h1] at hj; rw [h3] at hk; rw [h2] at ej; rw [h4] at ek
    exact R.one j k a hj hk ej ek
  · obtain ⟨h3, h4⟩ := own j h1
    rw [h3] at h1; rw [h4] at h2
    exact .inl ⟨j, h1, h2⟩
  · obtain ⟨h3, h4⟩ := own j (by rw [h1]; rfl)
    rw [h3] at h1; rw [h4] at h2
    exact .inl ⟨j, d', h1, h2⟩
  · obtain ⟨h3, h4⟩ := own j (by rw [h1]; rfl)
    rw [h3] at h1
    exact ⟨h1, h4⟩
/-- .. to a new object, made since the start -/
theorem Pst.setO {F0 : Addr → Prop} {H0 : Hp} {e0 : Env} {σ0 : L2.St} {i : Nat} {d : D} {a : Addr} (p : Pst G F0 H0 e0 σ0 F H env σ) (nF : ¬ F a) (nM : ¬ Ml env σ a) (h : relO G F H d a) (hn : H0 a = none) :
    Pst G F0 H0 e0 σ0 F H (setS env i (.ow d)) (σ.set i (some (.ref a))) := by
  have R := p.rel
  have get : ∀ j, (getS (setS env i (.ow d)) j = .ow d ∧ slAt (σ.set i (some (.ref a))) j = some (.ref a) ∧ i = j) ∨ (getS (setS env i (.ow d)) j = getS env j ∧ slAt (σ.set i (some (.ref a))) j = slAt σ j) := fun j => by
    rw [getS_setS, slAt_set, R.len]
    by_cases z : i = j ∧ i < σ.length
    · rw [if_pos z, if_pos z]; exact .inl ⟨rfl, rfl, z.1⟩
    · rw [if_neg z, if_neg z]; exact .inr ⟨rfl, rfl⟩
  refine ⟨p.ext, ⟨by rw [setS_length, List.length_set]; exact R.len, fun j => ?_, fun j k b hj hk ej ek => ?_, R.fin⟩, fun b ⟨j, h1, h2⟩ => ?_, fun b ⟨j, d', h1, h2⟩ => ?_, fun j d' h1 => ?_⟩
  · rcases get j with ⟨h1, h2, _⟩ | ⟨h1, h2⟩
    · rw [h1, h2]; exact ⟨a, rfl, nF, h⟩
    · rw [h1, h2]; exact R.slot j
  · rcases get j with ⟨h1, h2, h3⟩ | ⟨h1, h2⟩
    · rcases get k with ⟨h4, h5, h6⟩ | ⟨h4, h5⟩
      · rw [← h3, ← h6]
      · rw [h2] at ej; cases ej
        rw [h4] at hk; rw [h5] at ek
        exact (nM ⟨k, hk, ek⟩).elim
    · rcases get k with ⟨h4, h5, h6⟩ | ⟨h4, h5⟩
      · rw [h5] at ek; cases ek
        rw [h1] at hj; rw [h2] at ej
        exact (nM ⟨j, hj, ej⟩).elim
      · rw [h1] at hj; rw [h2] at ej; rw [h4] at hk; rw [h5] at ek
        exact R.one j k b hj hk ej ek
  · rcases get j with ⟨h3, h4, _⟩ | ⟨h3, h4⟩
    · rw [h4] at h2; cases h2; exact .inr hn
    · rw [h3] at h1; rw [h4] at h2; exact p.mo b ⟨j, h1, h2⟩
  · rcases get j with ⟨h3, h4, _⟩ | ⟨h3, h4⟩
    · rw [h4] at h2; cases h2; exact .inr hn
    · rw [h3] at h1; rw [h4] at h2; exact p.mw b ⟨j, d', h1, h2⟩
  · rcases get j with ⟨h3, h4, _⟩ | ⟨h3, h4⟩
    · rw [h3] at h1; cases h1
    · rw [h3] at h1; rw [h4]; exact p.lk j d' h1
/-- an object of our own that no slot holds is written -/
theorem Pst.scratch {F0 : Addr → Prop} {H0 : Hp} {e0 : Env} {σ0 : L2.St} {a : Addr} {o o' : HO} (p : Pst G F0 H0 e0 σ0 F H env σ) (hn : H0 a = none) (nF : ¬ F a) (nM : ¬ Ml env σ a) (h : H a = some o) (nt : ∀ xs, o ≠ .tup xs) (nf : ∀ u v, o ≠ .frz u v) :
    Pst G F0 H0 e0 σ0 F (upd H a o') env σ ∧ ∀ ds xs, relFs G F H ds xs → relFs G F (upd H a o') ds xs := by
  have E : Ext (fun b => b = a) F H F (upd H a o') := ⟨fun b u e n => by rw [upd_ne n]; exact e, fun b e => by
    by_cases z : b = a
    · subst z; rw [upd_same] at e; cases e
    · rw [upd_ne z] at e; exact e, fun _ z => z, fun _ z => .inl z⟩
  have ap : Apart (fun b => b = a) F H := fun b hb => by
    rw [hb]
    exact ⟨nF, fun xs e => by rw [h] at e; cases e; exact nt xs rfl, fun u v e => by rw [h] at e; cases e; exact nf u v rfl⟩
  exact ⟨⟨p.ext.trans E fun x hx => .inr (by rw [hx]; exact hn), p.rel.ext E ap (fun b m z => nM (by rw [← z]; exact m)) (fun b m => (p.rel.apartL b m).1) (fun b hb e => p.rel.fin b hb (E.alive b e)), p.mo, p.mw, p.lk⟩, fun ds xs r => relFs_ext E ap ds xs r⟩
theorem lockAll_get : ∀ (ls : List Nat) (e : Env) (j : Nat), getS (lockAll ls e) j = if j ∈ ls then (match getS e j with | .ow d => .lk d | s => s) else getS e j
  | [], e, j => by simp [lockAll]
  | i :: r, e, j => by
    show getS (lockAll r (lockS e i)) j = _
    rw [lockAll_get r (lockS e i) j, lockS_get]
    by_cases h1 : j ∈ r
    · rw [if_pos h1, if_pos (List.mem_cons_of_mem _ h1)]
      cases getS e j <;> (by_cases h2 : i = j <;> simp [h2])
    · rw [if_neg h1]
      by_cases h2 : i = j
      · subst h2; rw [if_pos rfl, if_pos List.mem_cons_self]; try (cases getS e i <;> rfl)
      · rw [if_neg h2, if_neg fun q => (List.mem_cons.mp q).elim (fun z => h2 z.symm) h1]
theorem lockS_length (e : Env) (i : Nat) : (lockS e i).length = e.length := by
  unfold lockS
  split
  · rw [setS_length]
  · rfl
theorem lockAll_length : ∀ (ls : List Nat) (e : Env), (lockAll ls e).length = e.length
  | [], e => rfl
  | i :: r, e => by show (lockAll r (lockS e i)).length = _; rw [lockAll_length r, lockS_length]
theorem unlockS_length (e : Env) (i : Nat) : (unlockS e i).length = e.length := by
  unfold unlockS
  split
  · rw [setS_length]
  · rfl
theorem unlockS_get (e : Env) (i j : Nat) : getS (unlockS e i) j = if i = j then (match getS e j with | .lk d => .ow d | s => s) else getS e j := by
  unfold unlockS
  cases h : getS e i with
  | lk d =>
    show getS (setS e i (.ow d)) j = _
    have hi : i < e.length := getS_lt (by rw [h]; exact fun z => nomatch z)
    rw [getS_setS]
    by_cases z : i = j
    · subst z; rw [if_pos ⟨rfl, hi⟩, if_pos rfl, h]
    · rw [if_neg fun q => z q.1, if_neg z]
  | _ =>
    show getS e j = _
    split
    · rename_i z; subst z; rw [h]
    · rfl
theorem unlocks_get : ∀ (ls : List Nat) (e : Env) (j : Nat), getS (ls.foldl unlockS e) j = if j ∈ ls then (match getS e j with | .lk d => .ow d | s => s) else getS e j
  | [], e, j => by simp
  | i :: r, e, j => by
    show getS (r.foldl unlockS (unlockS e i)) j = _
    rw [unlocks_get r (unlockS e i) j, unlockS_get]
    by_cases h1 : j ∈ r
    · rw [if_pos h1, if_pos (List.mem_cons_of_mem _ h1)]
      cases getS e j <;> (by_cases h2 : i = j <;> simp [h2])
    · rw [if_neg h1]
      by_cases h2 : i = j
      · subst h2; rw [if_pos rfl, if_pos List.mem_cons_self]
      · rw [if_neg h2, if_neg fun q => (List.mem_cons.mp q).elim (fun z => h2 z.symm) h1]
theorem unlocks_length : ∀ (ls : List Nat) (e : Env), (ls.foldl unlockS e).length = e.length
  | [], e => rfl
  | i :: r, e => by show (r.foldl unlockS (unlockS e i)).length = _; rw [unlocks_length r, unlockS_length]
theorem isOwn_lock (ls : List Nat) (e : Env) (j : Nat) : isOwn (getS (lockAll ls e) j) = isOwn (getS e j) := by
  rw [lockAll_get]
  split
  · cases getS e j <;> rfl
  · rfl
theorem Ml_lock {ls : List Nat} {a : Addr} : Ml (lockAll ls env) σ a ↔ Ml env σ a := by
  constructor
  · rintro ⟨j, h1, h2⟩; rw [isOwn_lock] at h1; exact ⟨j, h1, h2⟩
  · rintro ⟨j, h1, h2⟩; exact ⟨j, by rw [isOwn_lock]; exact h1, h2⟩
theorem Rel.lock (R : Rel G F H env σ) (ls : List Nat) : Rel G F H (lockAll ls env) σ := by
  refine ⟨by rw [lockAll_length]; exact R.len, fun j => ?_, fun j k a hj hk => R.one j k a (by rw [← isOwn_lock ls]; exact hj) (by rw [← isOwn_lock ls]; exact hk), R.fin⟩
  rw [lockAll_get]
  have q := R.slot j
  split
  · cases h : getS env j <;> rw [h] at q <;> exact q
  · exact q
theorem unlockAll_get (ls : List Nat) (e0 e : Env) (j : Nat) : getS (unlockAll ls e0 e) j = if j ∈ ls ∧ isOw (getS e0 j) = true then (match getS e j with | .lk d => .ow d | s => s) else getS e j := by
  unfold unlockAll
  rw [unlocks_get]
  simp only [List.mem_filter]
theorem unlockAll_length (ls : List Nat) (e0 e : Env) : (unlockAll ls e0 e).length = e.length := unlocks_length _ _
theorem isOwn_unlock (ls : List Nat) (e0 e : Env) (j : Nat) : isOwn (getS (unlockAll ls e0 e) j) = isOwn (getS e j) := by
  rw [unlockAll_get]
  split
  · cases getS e j <;> rfl
  · rfl
theorem Pst.unlock {ls : List Nat} (R : Rel G F H env σ) (P : Pst G F H (lockAll ls env) σ F' H' e' σ') : Pst G F H env σ F' H' (unlockAll ls env e') σ' := by
  refine ⟨P.ext.weak (apart_lock R ls), ⟨by rw [unlockAll_length]; exact P.rel.len, fun j => ?_, fun j k a hj hk => P.rel.one j k a (by rw [← isOwn_unlock ls env]; exact hj) (by rw [← isOwn_unlock ls env]; exact hk), P.rel.fin⟩, fun a ⟨j, h1, h2⟩ => ?_, fun a ⟨j, d, h1, h2⟩ => ?_, fun j d h => ?_⟩
  · have q := P.rel.slot j
    rw [unlockAll_get]
    split
    · cases h : getS e' j <;> rw [h] at q <;> exact q
    · exact q
  · rw [isOwn_unlock] at h1
    exact (P.mo a ⟨j, h1, h2⟩).imp_left fun z => Ml_lock.mp z
  · rw [unlockAll_get] at h1
    split at h1
    · rename_i hj
      cases hs : getS e' j with
      | lk d' =>
        obtain ⟨h3, h4⟩ := P.lk j d' hs
        have : ∃ d2, getS env j = .ow d2 := by
          cases q : getS env j with
          | ow d2 => exact ⟨d2, rfl⟩
          | _ => rw [q] at hj; cases hj.2
        obtain ⟨d2, e⟩ := this
        exact .inl ⟨j, d2, e, by rw [← h4]; exact h2⟩
      | ow d' => exact (P.mw a ⟨j, d', hs, h2⟩).imp_left (apart_lock R ls a)
      | non => rw [hs] at h1; cases h1
      | fr _ => rw [hs] at h1; cases h1
    · exact (P.mw a ⟨j, d, h1, h2⟩).imp_left (apart_lock R ls a)
  · rw [unlockAll_get] at h
    split at h
    · cases hs : getS e' j <;> rw [hs] at h <;> cases h
    · rename_i hj
      obtain ⟨h3, h4⟩ := P.lk j d h
      refine ⟨?_, h4⟩
      rw [lockAll_get] at h3
      split at h3
      · rename_i hm
        cases q : getS env j with
        | ow d2 => rw [q] at hj; exact (hj ⟨hm, rfl⟩).elim
        | lk d2 => rw [q] at h3; exact h3
        | non => rw [q] at h3; cases h3
        | fr _ => rw [q] at h3; cases h3
      · exact h3
theorem wipeS_length (e : Env) : ∀ vs : List Nat, (wipeS e vs).length = e.length
  | [] => rfl
  | v :: vs => by rw [wipeS, setS_length, wipeS_length e vs]
theorem wipeS_get (e : Env) : ∀ (vs : List Nat) (j : Nat), getS (wipeS e vs) j = if j ∈ vs then .non else getS e j
  | [], j => by simp [wipeS]
  | v :: vs, j => by
    rw [wipeS, getS_setS, wipeS_length, wipeS_get e vs j]
    by_cases h : v = j
    · subst h
      rw [if_pos List.mem_cons_self]
      by_cases hl : v < e.length
      · rw [if_pos ⟨rfl, hl⟩]
      · rw [if_neg fun q => hl q.2, getS_ge (by omega)]; split <;> rfl
    · rw [if_neg fun q => h q.1]
      by_cases h2 : j ∈ vs
      · rw [if_pos h2, if_pos (List.mem_cons_of_mem _ h2)]
      · rw [if_neg h2, if_neg fun q => (List.mem_cons.mp q).elim (fun z => h z.symm) h2]
theorem restS_length (e e0 : Env) : ∀ vs : List Nat, (restS e e0 vs).length = e.length
  | [] => rfl
  | v :: vs => by rw [restS, setS_length, restS_length e e0 vs]
theorem restS_get (e e0 : Env) (hl : e.length = e0.length) : ∀ (vs : List Nat) (j : Nat), getS (restS e e0 vs) j = if j ∈ vs then getS e0 j else getS e j
  | [], j => by simp [restS]
  | v :: vs, j => by
    rw [restS, getS_setS, restS_length, restS_get e e0 hl vs j]
    by_cases h : v = j
    · subst h
      rw [if_pos List.mem_cons_self]
      by_cases hv : v < e.length
      · rw [if_pos ⟨rfl, hv⟩]
      · rw [if_neg fun q => hv q.2, getS_ge (env := e) (by omega), getS_ge (env := e0) (by omega)]; split <;> rfl
    · rw [if_neg fun q => h q.1]
      by_cases h2 : j ∈ vs
      · rw [if_pos h2, if_pos (List.mem_cons_of_mem _ h2)]
      · rw [if_neg h2, if_neg fun q => (List.mem_cons.mp q).elim (fun z => h z.symm) h2]
theorem wipe_get (σ : L2.St) : ∀ (vs : List Nat) (j : Nat), slAt (wipe σ vs) j = if j ∈ vs then none else slAt σ j
  | [], j => by simp [wipe]
  | v :: vs, j => by
    rw [wipe]
    have ih := wipe_get σ vs j
    by_cases h : v = j
    · subst h
      rw [if_pos List.mem_cons_self]
      unfold slAt
      rw [List.getElem?_set]
      rw [if_pos rfl]
      split <;> rfl
    · have e : slAt ((wipe σ vs).set v none) j = slAt (wipe σ vs) j := by
        unfold slAt
        rw [List.getElem?_set_ne h]
      rw [e, ih]
      by_cases h2 : j ∈ vs
      · rw [if_pos h2, if_pos (List.mem_cons_of_mem _ h2)]
      · rw [if_neg h2, if_neg fun q => (List.mem_cons.mp q).elim (fun z => h z.symm) h2]
theorem Rel.wipe (R : Rel G F H env σ) (vs : List Nat) : Rel G F H (wipeS env vs) (L2.wipe σ vs) := by
  have own : ∀ j, isOwn (getS (wipeS env vs) j) = true → j ∉ vs ∧ isOwn (getS env j) = true := fun j hj => by
    rw [wipeS_get] at hj
    split at hj
    · cases hj
    · exact ⟨by assumption, hj⟩
  refine ⟨by rw [wipeS_length, wipe_length]; exact R.len, fun j => ?_, fun j k a hj hk ej ek => ?_, R.fin⟩
  · rw [wipeS_get]
    split
    · trivial
    · rename_i h
      rw [wipe_get, if_neg h]
      exact R.slot j
  · obtain ⟨h1, h2⟩ := own j hj
    obtain ⟨h3, h4⟩ := own k hk
    rw [wipe_get, if_neg h1] at ej
    rw [wipe_get, if_neg h3] at ek
    exact R.one j k a h2 h4 ej ek
theorem Pst.rest {vs : List Nat} (R : Rel G F H env σ) (P : Pst G F H (wipeS env vs) (L2.wipe σ vs) F' H' e' (L2.wipe σ vs)) : Pst G F H env σ F' H' (restS e' env vs) σ := by
  have hl : e'.length = env.length := by
    have := P.rel.len
    rw [wipe_length] at this
    rw [this, R.len]
  have get := restS_get e' env hl vs
  have ml : ∀ a, Ml (wipeS env vs) (L2.wipe σ vs) a → ∃ k, k ∉ vs ∧ isOwn (getS env k) = true ∧ slAt σ k = some (.ref a) := fun a ⟨k, h1, h2⟩ => by
    rw [wipeS_get] at h1
    split at h1
    · cases h1
    · rename_i h
      rw [wipe_get, if_neg h] at h2
      exact ⟨k, h, h1, h2⟩
  have mo : ∀ a, Mo (wipeS env vs) (L2.wipe σ vs) a → Mo env σ a := fun a ⟨k, d, h1, h2⟩ => by
    rw [wipeS_get] at h1
    split at h1
    · cases h1
    · rename_i h
      rw [wipe_get, if_neg h] at h2
      exact ⟨k, d, h1, h2⟩
  have away : ∀ j, j ∈ vs → isOwn (getS env j) = true → ∀ a, slAt σ j = some (.ref a) → ¬ Ml (wipeS env vs) (L2.wipe σ vs) a := fun j hj ho a ha m => by
    obtain ⟨k, h1, h2, h3⟩ := ml a m
    have := R.one j k a ho h2 ha h3
    subst this
    exact h1 hj
  have notF' : ∀ j, j ∈ vs → isOwn (getS env j) = true → ∀ a, slAt σ j = some (.ref a) → ¬ F a → ¬ F' a := fun j hj ho a ha nF z => by
    rcases P.ext.new a z with z | z | z
    · exact nF z
    · exact away j hj ho a ha z.ml
    · exact R.there ⟨j, ho, ha⟩ z
  refine ⟨P.ext.weak mo, ⟨by rw [restS_length, hl]; exact R.len, fun j => ?_, fun j k a hj hk ej ek => ?_, P.rel.fin⟩, fun a ⟨j, h1, h2⟩ => ?_, fun a ⟨j, d, h1, h2⟩ => ?_, fun j d h => ?_⟩
  · rw [get]
    split
    · rename_i hj
      have q := R.slot j
      have aw := away j hj
      have nf := notF' j hj
      have ap := (R.wipe vs).apart
      cases hs : getS env j with
      | non => trivial
      | fr y =>
        rw [hs] at q
        obtain ⟨u, h4, h5⟩ := q
        exact ⟨u, h4, relF_ext P.ext ap y u h5⟩
      | ow y =>
        rw [hs] at q aw nf
        obtain ⟨u, h4, h6, h5⟩ := q
        exact ⟨u, h4, nf rfl u h4 h6, relO_ext P.ext ap (fun z => aw rfl u h4 z.ml) h5⟩
      | lk y =>
        rw [hs] at q aw nf
        obtain ⟨u, h4, h6, h5⟩ := q
        exact ⟨u, h4, nf rfl u h4 h6, relO_ext P.ext ap (fun z => aw rfl u h4 z.ml) h5⟩
    · rename_i hj
      have q := P.rel.slot j
      rw [wipe_get, if_neg hj] at q
      exact q
  · have mixed : ∀ j k : Nat, j ∈ vs → isOwn (getS env j) = true → slAt σ j = some (.ref a) → k ∉ vs → isOwn (getS e' k) = true → slAt σ k = some (.ref a) → False := fun j k hj ho ej hk hk2 ek => by
      rcases P.mo a ⟨k, hk2, by rw [wipe_get, if_neg hk]; exact ek⟩ with z | z
      · exact away j hj ho a ej z
      · exact R.there ⟨j, ho, ej⟩ z
    rw [get] at hj hk
    split at hj
    · rename_i h1
      split at hk
      · exact R.one j k a hj hk ej ek
      · rename_i h2; exact (mixed j k h1 hj ej h2 hk ek).elim
    · rename_i h1
      split at hk
      · rename_i h2; exact (mixed k j h2 hk ek h1 hj ej).elim
      · rename_i h2
        exact P.rel.one j k a hj hk (by rw [wipe_get, if_neg h1]; exact ej) (by rw [wipe_get, if_neg h2]; exact ek)
  · rw [get] at h1
    split at h1
    · exact .inl ⟨j, h1, h2⟩
    · rename_i hj
      rcases P.mo a ⟨j, h1, by rw [wipe_get, if_neg hj]; exact h2⟩ with z | z
      · obtain ⟨k, _, h3, h4⟩ := ml a z
        exact .inl ⟨k, h3, h4⟩
      · exact .inr z
  · rw [get] at h1
    split at h1
    · exact .inl ⟨j, d, h1, h2⟩
    · rename_i hj
      exact (P.mw a ⟨j, d, h1, by rw [wipe_get, if_neg hj]; exact h2⟩).imp_left (mo a)
  · rw [get] at h
    split at h
    · exact ⟨h, rfl⟩
    · rename_i hj
      obtain ⟨h3, _⟩ := P.lk j d h
      rw [wipeS_get, if_neg hj] at h3
      exact ⟨h3, rfl⟩
end
mutual
def gT (K : PySem.W.Frag) : T → TG
  | .nm i => gName i
  | .tup ts => gTup K ts.length (gTs K ts)
def gTs (K : PySem.W.Frag) : List T → TGs
  | [] => gNil
  | t :: ts => gCons (gT K t) (gTs K ts)
end
/-- slots but those at vs are as they were -/
def keptS (vs : List Nat) (σ σ' : L2.St) : Prop := σ'.length = σ.length ∧ ∀ j, j ∉ vs → slAt σ' j = slAt σ j
section
variable {G : Gp} {F : Addr → Prop} {H : Hp}
theorem asgTs_len : ∀ {ts : List T} {ds : List D} {e e' : Env}, asgTs ts ds e = some e' → ds.length = ts.length
  | [], [], _, _, _ => rfl
  | [], _ :: _, _, _, h => by simp [asgTs] at h
  | _ :: _, [], _, _, h => by simp [asgTs] at h
  | t :: ts, d :: ds, e, e', h => by
    rw [asgTs] at h
    cases q : asgT t d e with
    | none => rw [q] at h; cases h
    | some e1 => rw [q] at h; rw [List.length_cons, List.length_cons, asgTs_len h]
mutual
theorem gT_ok : ∀ (t : T) (d : D) (v : V) (e e1 : Env) (σ : L2.St) (Q : L2.St → Hp → Prop), asgT t d e = some e1 → Rel G F H e σ → relF G F H d v →
    (∀ σ1, Pst G F H e σ F H e1 σ1 → keptS (tvars t) σ σ1 → Q σ1 H) → gT G.K t v σ H Q
  | .nm i, d, v, e, e1, σ, Q, h, R, r, k => by
    rw [asgT] at h
    cases h
    refine k _ (Pst.setF R r) ⟨by rw [List.length_set], fun j hj => ?_⟩
    rw [slAt_set, if_neg fun q => hj (by simp [tvars, q.1])]
  | .tup ts, d, v, e, e1, σ, Q, h, R, r, k => by
    cases d with
    | tup ds =>
      rw [asgT] at h
      simp only [relF] at r
      obtain ⟨a, xs, rfl, h1, h2⟩ := r
      exact ⟨a, xs, rfl, h1, by rw [relFs_length h2, asgTs_len h], gTs_ok ts ds xs e e1 σ Q h R h2 k⟩
    | _ => simp [asgT] at h
theorem gTs_ok : ∀ (ts : List T) (ds : List D) (xs : List V) (e e1 : Env) (σ : L2.St) (Q : L2.St → Hp → Prop), asgTs ts ds e = some e1 → Rel G F H e σ → relFs G F H ds xs →
    (∀ σ1, Pst G F H e σ F H e1 σ1 → keptS (tvarss ts) σ σ1 → Q σ1 H) → gTs G.K ts xs σ H Q
  | [], [], xs, e, e1, σ, Q, h, R, r, k => by
    simp only [asgTs, Option.some.injEq] at h
    subst h
    simp only [relFs] at r
    exact ⟨r, k σ (.refl R) ⟨rfl, fun _ _ => rfl⟩⟩
  | [], _ :: _, _, _, _, _, _, h, _, _, _ => by simp [asgTs] at h
  | _ :: _, [], _, _, _, _, _, h, _, _, _ => by simp [asgTs] at h
  | t :: ts, d :: ds, xs, e, e1, σ, Q, h, R, r, k => by
    rw [asgTs] at h
    cases q : asgT t d e with
    | none => rw [q] at h; cases h
    | some e2 =>
      rw [q] at h
      simp only [relFs] at r
      obtain ⟨x, xr, rfl, r1, r2⟩ := r
      refine ⟨x, xr, rfl, gT_ok t d x e e2 σ _ q R r1 fun σ1 P1 k1 => gTs_ok ts ds xr e2 e1 σ1 _ h P1.rel r2 fun σ2 P2 k2 => k σ2 (P1.trans P2) ⟨k2.1.trans k1.1, fun j hj => ?_⟩⟩
      have hj : j ∉ tvars t ∧ j ∉ tvarss ts := by simpa [tvarss, not_or] using hj
      rw [k2.2 j hj.2, k1.2 j hj.1]
end
theorem slAt_ext {σ σ' : L2.St} (hl : σ'.length = σ.length) (h : ∀ j, slAt σ' j = slAt σ j) : σ' = σ := by
  refine List.ext_getElem? fun j => ?_
  have := h j
  unfold slAt at this
  by_cases hj : j < σ.length
  · rw [List.getElem?_eq_getElem hj, List.getElem?_eq_getElem (by omega)] at this ⊢
    simpa using this
  · rw [List.getElem?_eq_none (by omega), List.getElem?_eq_none (by omega)]
theorem wipe_kept {vs us : List Nat} {σ σ' : L2.St} (h : keptS us σ σ') (hs : ∀ j ∈ us, j ∈ vs) : L2.wipe σ' vs = L2.wipe σ vs := by
  refine slAt_ext (by rw [wipe_length, wipe_length, h.1]) fun j => ?_
  rw [wipe_get, wipe_get]
  split
  · rfl
  · rename_i hj
    exact h.2 j fun q => hj (hs j q)
theorem wipe_wipe {vs : List Nat} {σ : L2.St} : L2.wipe (L2.wipe σ vs) vs = L2.wipe σ vs := by
  refine slAt_ext (by rw [wipe_length]) fun j => ?_
  rw [wipe_get, wipe_get]
  split <;> rfl
end
end PF
set_option Elab.async false
set_option linter.all false
set_option maxRecDepth 100000
set_option maxHeartbeats 1000000
namespace PF
open PySem PySem.Spec PyProof.Rows L2
abbrev W0 : WX := fun _ _ _ _ => False
section
variable {G : Gp} {F F' F1 : Addr → Prop} {H H' H1 : Hp} {env e1 e2 e' : Env} {σ σ' : L2.St}
theorem env_ext : ∀ {a b : Env}, a.length = b.length → (∀ j, getS a j = getS b j) → a = b
  | [], [], _, _ => rfl
  | [], _ :: _, h, _ => by simp at h
  | _ :: _, [], h, _ => by simp at h
  | x :: a, y :: b, h, k => by
    have h0 : x = y := k 0
    rw [h0, env_ext (a := a) (b := b) (by simpa using h) fun j => k (j + 1)]
theorem restS_wipeS {e E : Env} {vs : List Nat} (h : e.length = E.length) : restS (wipeS e vs) E vs = restS e E vs := by
  refine env_ext (by rw [restS_length, restS_length, wipeS_length]) fun j => ?_
  rw [restS_get _ _ (by rw [wipeS_length]; exact h), restS_get _ _ h, wipeS_get]
  split
  · rfl
  · rfl
/-- names of the block are forgotten -/
theorem Pst.wiped {F0 : Addr → Prop} {H0 : Hp} {e0 : Env} {σ0 : L2.St} (p : Pst G F0 H0 e0 σ0 F H env σ) (vs : List Nat) : Pst G F0 H0 e0 σ0 F H (wipeS env vs) (L2.wipe σ vs) := by
  have own : ∀ j, isOwn (getS (wipeS env vs) j) = true → j ∉ vs ∧ getS (wipeS env vs) j = getS env j := fun j hj => by
    rw [wipeS_get] at hj ⊢
    split at hj
    · cases hj
    · rename_i h; rw [if_neg h]; exact ⟨h, rfl⟩
  refine ⟨p.ext, p.rel.wipe vs, fun a ⟨j, h1, h2⟩ => ?_, fun a ⟨j, d, h1, h2⟩ => ?_, fun j d h => ?_⟩
  · obtain ⟨h3, h4⟩ := own j h1
    rw [h4] at h1
    rw [wipe_get, if_neg h3] at h2
    exact p.mo a ⟨j, h1, h2⟩
  · obtain ⟨h3, h4⟩ := own j (by rw [h1]; rfl)
    rw [h4] at h1
    rw [wipe_get, if_neg h3] at h2
    exact p.mw a ⟨j, d, h1, h2⟩
  · obtain ⟨h3, h4⟩ := own j (by rw [h]; rfl)
    rw [h4] at h
    rw [wipe_get, if_neg h3]
    exact p.lk j d h
theorem Mo_wipe {vs : List Nat} {a : Addr} (h : Mo (wipeS env vs) (L2.wipe σ vs) a) : Mo env σ a := by
  obtain ⟨j, d, h1, h2⟩ := h
  rw [wipeS_get] at h1
  split at h1
  · cases h1
  · rename_i hj
    rw [wipe_get, if_neg hj] at h2
    exact ⟨j, d, h1, h2⟩
end
section
variable {G : Gp} {Φ : Str → List Sl → FR} {γ : Str → Option D} {W : WX} {X : Cx}
def rdTs (G : Gp) (Φ : Str → List Sl → FR) (γ : Str → Option D) (W : WX) (ms : List E) : TT := fun σ H Q => ∃ F env, Rel G F H env σ ∧ kT G W F H env σ Q (evTs Φ γ ms env)
theorem PTs.imp {es : List Expr} {t t' : TT} (h : PTs X es t) (i : ∀ σ H Q, t' σ H Q → t σ H Q) : PTs X es t' := ⟨fun pins s σ H Q I q => h.run pins s σ H Q I (i σ H Q q)⟩
theorem ts_nil : PTs X [] (rdTs G Φ γ W []) := PTs.imp pts_nil fun σ H Q ⟨F, env, R, k⟩ => by
  rw [evTs] at k
  exact k F H (.refl R)
theorem ts_one {c : Expr} {m : E} (h : PT X c (rdT G Φ γ W m)) : PTs X [c] (rdTs G Φ γ W [m]) := PTs.imp (pts_one h) fun σ H Q ⟨F, env, R, k⟩ => ⟨F, env, R, by
  simp only [evTs] at k; exact k⟩
/-- a turn's end: the list grown -/
theorem lc_loop {F1 : Addr → Prop} {H1 : Hp} {σ : L2.St} {vs : List Nat} {t : T} {mi : List E} {me : E} {ds : List D} {ls : List Nat} {J : L2.It} {D' : Addr} {env1 : Env} {rl : RL} {Qd : Hp → Prop} {acc0 : List D} {axs0 : List V}
    (R1 : Rel G F1 H1 env1 σ) (hJ : ∀ F2 H2, Ext (Mo (lockAll ls env1) σ) F1 H1 F2 H2 → H2 D' ≠ none → ∀ i : Nat, (ds.length ≤ i → J.stop i H2) ∧ ∀ d, ds[i]? = some d → J.go i H2 ∧ ∀ x H3, J.yld i H2 x H3 → (∀ a o, H2 a = some o → H3 a = some o) ∧ relF G F2 H3 d x)
    (hD : H1 D' = none) (hr0 : relFs G F1 (upd H1 D' (.lst axs0)) acc0 axs0) (hv : ∀ j ∈ tvars t, j ∈ vs) (hrl : lcGo (asgW vs t) (evTs Φ γ mi) (ev Φ γ me) ds (lockAll ls env1) acc0 = rl) (hne : rl ≠ .st)
    (fin : ∀ F e acc axs H, rl = .ok acc e → Pst G F1 H1 (wipeS (lockAll ls env1) vs) (L2.wipe σ vs) F H (wipeS e vs) (L2.wipe σ vs) → H D' = some (.lst axs) → relFs G F H acc axs → ¬ F D' → ¬ Ml (wipeS e vs) (L2.wipe σ vs) D' → Qd H) :
    ∃ W : Nat → Nat → Hp → Prop, (∃ m, W 0 m (upd H1 D' (.lst axs0))) ∧ ∀ i m H, W i m H →
      (J.stop i H ∧ Qd H) ∨ (J.go i H ∧ ∃ Nx : Hp → Prop, (∀ H', Nx H' → ∃ m', m' < m ∧ W (i + 1) m' H') ∧ ∀ x H', J.yld i H x H' → gT G.K t x (L2.wipe σ vs) H' fun σ2 H2 => L2.wipe σ2 vs = L2.wipe σ vs ∧ rdTs G Φ γ W0 mi σ2 H2 fun b H3 =>
        if b = true then rdE G Φ γ W0 me σ2 H3 fun y H4 => ∃ acc, H4 D' = some (.lst acc) ∧ acc.length < sizeLine ∧ Nx (upd H4 D' (.lst (acc ++ [y]))) else Nx H3) := by
  have Rs := (R1.lock ls).wipe vs
  refine ⟨fun i m H => ∃ F e acc axs, m = ds.length - i ∧ i ≤ ds.length ∧ Pst G F1 H1 (wipeS (lockAll ls env1) vs) (L2.wipe σ vs) F H (wipeS e vs) (L2.wipe σ vs) ∧ H D' = some (.lst axs) ∧ relFs G F H acc axs ∧ ¬ F D' ∧ ¬ Ml (wipeS e vs) (L2.wipe σ vs) D' ∧ e.length = env1.length ∧
    lcGo (asgW vs t) (evTs Φ γ mi) (ev Φ γ me) (ds.drop i) e acc = rl, ⟨ds.length, F1, lockAll ls env1, acc0, axs0, by simp, Nat.zero_le _, Pst.grow Rs (grow_new hD), upd_same, hr0, fun z => R1.fin _ z hD, fun z => Rs.there z hD, lockAll_length _ _, by simpa using hrl⟩, ?_⟩
  rintro i m H ⟨F, e, acc, axs, rfl, hi, P, hH, hr, nF, nM, hlen, hgo⟩
  have E0 : Ext (Mo (lockAll ls env1) σ) F1 H1 F H := P.ext.weak fun a => Mo_wipe
  have hDn : H D' ≠ none := by rw [hH]; exact fun z => nomatch z
  by_cases hlt : i < ds.length
  · have hd : ds[i]? = some ds[i] := List.getElem?_eq_getElem hlt
    obtain ⟨hgoJ, hyld⟩ := (hJ F H E0 hDn i).2 _ hd
    refine .inr ⟨hgoJ, fun H' => ∃ F e acc axs, i + 1 ≤ ds.length ∧ Pst G F1 H1 (wipeS (lockAll ls env1) vs) (L2.wipe σ vs) F H' (wipeS e vs) (L2.wipe σ vs) ∧ H' D' = some (.lst axs) ∧ relFs G F H' acc axs ∧ ¬ F D' ∧ ¬ Ml (wipeS e vs) (L2.wipe σ vs) D' ∧ e.length = env1.length ∧
      lcGo (asgW vs t) (evTs Φ γ mi) (ev Φ γ me) (ds.drop (i + 1)) e acc = rl, fun H' ⟨F, e, acc, axs, h1, h2⟩ => ⟨ds.length - (i + 1), by omega, F, e, acc, axs, rfl, h1, h2⟩, fun x H' hy => ?_⟩
    obtain ⟨g1, rx⟩ := hyld x H' hy
    rw [List.drop_eq_getElem_cons hlt, lcGo] at hgo
    cases ha : asgW vs t ds[i] e with
    | none => rw [ha] at hgo; simp only [onL] at hgo; exact absurd hgo.symm hne
    | some ea =>
      rw [ha] at hgo
      simp only [onL] at hgo
      have P1 := P.trans (Pst.grow P.rel g1)
      have hD1 : H' D' = some (.lst axs) := g1 _ _ hH
      have hr1 := relFs_grow g1 hr
      refine gT_ok t _ x _ ea _ _ ha P1.rel rx fun σ2 P2 k2 => ?_
      have hw : L2.wipe σ2 vs = L2.wipe σ vs := (wipe_kept k2 hv).trans wipe_wipe
      refine ⟨hw, F, ea, P2.rel, ?_⟩
      have nM2 : ¬ Ml ea σ2 D' := fun z => (P2.mo _ z).elim nM fun q => by rw [hD1] at q; cases q
      have P12 := P1.trans P2
      cases ht : evTs Φ γ mi ea with
      | st => rw [ht] at hgo; exact absurd hgo.symm hne
      | ex x e2 => rw [ht] at hgo; exact absurd hgo.symm hne
      | ok b e2 =>
        rw [ht] at hgo
        simp only [RT.bdL] at hgo
        intro F3 H3 P3
        have keepD : ∀ {F3 : Addr → Prop} {H2 H3 : Hp} {F2 : Addr → Prop} {e2 e3 : Env} {ys : List V}, Pst G F2 H2 e2 σ2 F3 H3 e3 σ2 → H2 D' = some (.lst ys) → ¬ F2 D' → ¬ Ml e2 σ2 D' → H3 D' = some (.lst ys) ∧ ¬ F3 D' ∧ ¬ Ml e3 σ2 D' := fun p h1 h2 h3 =>
          ⟨p.ext.frm _ _ h1 fun z => h3 z.ml, fun z => (p.ext.new _ z).elim h2 fun q => q.elim (fun z => h3 z.ml) (fun z => by rw [h1] at z; cases z),
            fun z => (p.mo _ z).elim h3 fun q => by rw [h1] at q; cases q⟩
        obtain ⟨hD3, nF3, nM3⟩ := keepD P3 hD1 nF nM2
        have hr3 : relFs G F3 H3 acc axs := relFs_ext P3.ext P2.rel.apart _ _ hr1
        have len2 : e2.length = env1.length := by
          have h1 := P3.rel.len
          have h2 := k2.1
          have h3 := P.rel.len
          rw [wipeS_length] at h3
          omega
        have toW : ∀ {F4 : Addr → Prop} {H4 : Hp} {e4 : Env}, Pst G F1 H1 (wipeS (lockAll ls env1) vs) (L2.wipe σ vs) F4 H4 e4 σ2 → Pst G F1 H1 (wipeS (lockAll ls env1) vs) (L2.wipe σ vs) F4 H4 (wipeS e4 vs) (L2.wipe σ vs) := fun p => by
          have := p.wiped vs
          rw [hw] at this
          exact this
        have nMw : ∀ {e4 : Env}, ¬ Ml e4 σ2 D' → ¬ Ml (wipeS e4 vs) (L2.wipe σ vs) D' := fun n z => by
          rw [← hw] at z
          obtain ⟨j, h1, h2⟩ := z
          rw [wipeS_get] at h1
          split at h1
          · cases h1
          · rename_i hj
            rw [wipe_get, if_neg hj] at h2
            exact n ⟨j, h1, h2⟩
        cases b with
        | false =>
          rw [if_neg Bool.false_ne_true] at hgo ⊢
          exact ⟨F3, e2, acc, axs, hlt, toW (P12.trans P3), hD3, hr3, nF3, nMw nM3, len2, hgo⟩
        | true =>
          rw [if_pos rfl] at hgo ⊢
          refine ⟨F3, e2, P3.rel, ?_⟩
          cases he : ev Φ γ me e2 with
          | st => rw [he] at hgo; exact absurd hgo.symm hne
          | ex x e3 => rw [he] at hgo; exact absurd hgo.symm hne
          | ok f y e3 =>
            rw [he] at hgo
            simp only [RE.bdL] at hgo
            intro F4 H4 v P4 v4 n4
            obtain ⟨hD4, nF4, nM4⟩ := keepD P4 hD3 nF3 nM3
            have hr4 : relFs G F4 H4 acc axs := relFs_ext P4.ext P3.rel.apart _ _ hr3
            have lacc := relFs_length hr4
            have P1234 := (P12.trans P3).trans P4
            have hD0 : H1 D' = none := hD
            -- the value, shared
            have sh : f ≠ .fr → f ≠ .ow → False := fun h1 h2 => by
              cases f with
              | fr => exact h1 rfl
              | ow => exact h2 rfl
              | pl j => simp only [keepL] at hgo; exact hne hgo.symm
            have main : ∃ F5, Pst G F1 H1 (wipeS (lockAll ls env1) vs) (L2.wipe σ vs) F5 H4 e3 σ2 ∧ ¬ F5 D' ∧ relF G F5 H4 y v ∧ relFs G F5 H4 acc axs ∧ (if acc.length < sizeLine then lcGo (asgW vs t) (evTs Φ γ mi) (ev Φ γ me) (ds.drop (i + 1)) e3 (acc ++ [y]) else .st) = rl := by
              cases f with
              | fr => exact ⟨F4, P1234, nF4, v4, hr4, hgo⟩
              | ow =>
                obtain ⟨a, ea, k1, k2, k3⟩ := v4
                have hn : H3 a = none := n4 rfl a ea
                have aD : D' ≠ a := fun z => by rw [← z, hD3] at hn; cases hn
                refine ⟨fun b => F4 b ∨ b = a, P1234.freeze fun b hb => ?_, fun z => z.elim nF4 aD, by rw [ea]; exact relF_of_relO (relO_sub (fun _ z => .inl z) k3) (.inr rfl), relFs_sub (fun _ z => .inl z) _ _ hr4, hgo⟩
                rw [hb]
                obtain ⟨⟨o, ho⟩, _⟩ := relO_there k3
                exact ⟨k2, by rw [ho]; exact (fun z => nomatch z), .inr ((P12.trans P3).ext.alive a hn)⟩
              | pl j => exact (sh (fun z => nomatch z) (fun z => nomatch z)).elim
            obtain ⟨F5, P5, nF5, ry, hr5, hgo5⟩ := main
            split at hgo5
            · rename_i hz
              refine ⟨axs, hD4, by rw [lacc]; exact hz, ?_⟩
              obtain ⟨P6, up⟩ := Pst.scratch (o' := .lst (axs ++ [v])) P5 hD nF5 nM4 hD4 (fun xs z => nomatch z) (fun u w z => nomatch z)
              have len3 : e3.length = env1.length := by
                have h1 := P4.rel.len
                have h2 := P3.rel.len
                omega
              exact ⟨F5, e3, acc ++ [y], axs ++ [v], hlt, toW P6, upd_same, up _ _ (relFs_append hr5 (by simp only [relFs]; exact ⟨v, [], rfl, ry, rfl⟩)), nF5, nMw nM4, len3, hgo5⟩
            · exact absurd hgo5.symm hne
  · have hie : i = ds.length := by omega
    subst hie
    refine .inl ⟨(hJ F H E0 hDn ds.length).1 (Nat.le_refl _), ?_⟩
    rw [List.drop_length, lcGo] at hgo
    exact fin F e acc axs H hgo.symm P hH hr nF nM
theorem lc_rd {it : It} {t : T} {mi : List E} {me : E} {vs : List Nat} (hv : ∀ j ∈ tvars t, j ∈ vs) {σ : L2.St} {H : Hp} {Q : VK} (h : rdE G Φ γ W (.lc vs t it mi me) σ H Q) : tLc (rdI G Φ γ W it) (gT G.K t) (rdTs G Φ γ W0 mi) (rdE G Φ γ W0 me) vs σ H Q := by
  obtain ⟨F, env, R, k⟩ := h
  refine ⟨F, env, R, ?_⟩
  rw [ev] at k
  cases hi : evI Φ γ it env with
  | st => rw [hi] at k; exact k
  | ex x e1 => rw [hi] at k; exact k
  | ok ds ls e1 =>
    rw [hi] at k
    simp only [RI.bd] at k
    intro F1 H1 J p1 hJ D' hD
    generalize hrl : lcGo (asgW vs t) (evTs Φ γ mi) (ev Φ γ me) ds (lockAll ls e1) [] = rl at k
    have hne : rl ≠ .st := fun z => by rw [z] at k; exact k
    refine lc_loop p1.rel (fun F2 H2 E _ => hJ.at0 G F2 H2 E) hD (by simp [relFs]) hv hrl hne fun F2 e acc axs H2 hok P hH hr nF nM => ?_
    rw [hok] at k
    simp only [RL.bd] at k
    have hl : e.length = (lockAll ls e1).length := by
      have h1 := P.rel.len
      rw [wipeS_length, wipe_length] at h1
      rw [h1, lockAll_length, p1.rel.len]
    have P2 := Pst.rest (p1.rel.lock ls) P
    rw [restS_wipeS hl] at P2
    have P3 := Pst.unlock p1.rel P2
    refine k F2 H2 _ (p1.trans P3) ⟨D', rfl, nF, fun z => ?_, axs, hH, hr⟩ fun _ a ea => by cases ea; exact p1.ext.alive D' hD
    obtain ⟨j, h1, h2⟩ := z
    rw [isOwn_unlock, restS_get _ _ hl] at h1
    split at h1
    · rw [isOwn_lock] at h1
      exact p1.rel.there ⟨j, h1, h2⟩ hD
    · rename_i hj
      refine nM ⟨j, ?_, ?_⟩
      · rw [wipeS_get, if_neg hj]; exact h1
      · rw [wipe_get, if_neg hj]; exact h2
end
end PF
set_option Elab.async false
set_option linter.all false
set_option maxRecDepth 100000
set_option maxHeartbeats 1000000
namespace PF
open PySem PySem.Spec PyProof.Rows L2
section
variable {G : Gp} {Φ : Str → List Sl → FR} {γ : Str → Option D} {W : WX} {X : Cx} {F : Addr → Prop} {H : Hp} {env : Env} {σ : L2.St} {a b : Expr} {ma mb : E} {tg : Expr}
theorem kIs_of {ms : List E} {R0 : L2.It → Hp → Prop} {kk : List (Fl × D) → Env → RI} (k : kI G W F H env σ R0 ((evs Φ γ ms env).bdI kk)) {Q1 : List V → Hp → Prop}
    (i : ∀ vs e1, ∀ F1 H1 xs, Pst G F H env σ F1 H1 e1 σ → vOks G F1 H1 e1 σ vs xs → vNews H vs xs → kI G W F H env σ R0 (kk vs e1) → Q1 xs H1) : kEs G W F H env σ Q1 (evs Φ γ ms env) := by
  cases e : evs Φ γ ms env with
  | ok vs e1 => rw [e] at k; exact fun F1 H1 xs p vo n => i vs e1 F1 H1 xs p vo n k
  | ex x e1 => rw [e] at k; exact k
  | st => rw [e] at k; exact k
theorem i_rng2 {p pos : Pos} (hg : Gl X "range") (hm : X.mg "range" = none) (ha : PE X a (rdE G Φ γ W ma)) (hb : PE X b (rdE G Φ γ W mb)) (ns : notStar a = true) (ns2 : notStar b = true) : PI X tg (.Call (.Name "range" p) [a, b] [] pos) (rdI G Φ γ W (.rng2 [ma, mb])) :=
  PI.imp (pi_range2 hg hm (pa_rd_cons ha (pa_rd_cons hb pa_rd_nil (star_cons ns2)) (star_cons ns)) (by rw [star_cons ns, star_cons ns2]; rfl) (star_cons ns2)) fun σ H R ⟨F, env, Rl, k⟩ => by
    rw [evI] at k
    refine ⟨F, env, Rl, kIs_of k fun vs e1 F1 H1 xs p1 v1 n1 k1 => ?_⟩
    cases hl : lates vs e1 with
    | none => rw [hl] at k1; exact k1.elim
    | some ds =>
      rw [hl] at k1
      have hr := lates_ok v1 p1.rel hl
      unfold rng2I at k1
      split at k1
      · rename_i i j e0
        cases e0
        split at k1
        · rename_i h
          simp only [Bool.and_eq_true, decide_eq_true_eq] at h
          obtain ⟨x, xr, rfl, h1, y, yr, rfl, h2, h3⟩ := hr
          have h3 : yr = [] := h3
          subst h3
          exact ⟨i, j, by rw [rInt h1, rInt h2], ⟨h.1.1.1, h.1.1.2, h.1.2, h.2⟩, k1 F1 H1 _ p1 itOk_rng⟩
        · exact k1.elim
      · exact k1.elim
theorem Mo_lockAll {ls : List Nat} {x : Addr} (h : Mo (lockAll ls env) σ x) : ∃ (j : Nat) (d : D), j ∉ ls ∧ getS env j = .ow d ∧ slAt σ j = some (.ref x) := by
  obtain ⟨j, d, h1, h2⟩ := h
  rw [lockAll_get] at h1
  split at h1
  · cases hs : getS env j <;> rw [hs] at h1 <;> cases h1
  · rename_i hj; exact ⟨j, d, hj, h1, h2⟩
theorem Mo_more {ls ls' : List Nat} (hs : ∀ j ∈ ls', j ∈ ls) {x : Addr} (h : Mo (lockAll ls env) σ x) : Mo (lockAll ls' env) σ x := by
  obtain ⟨j, d, h1, h2, h3⟩ := Mo_lockAll h
  exact ⟨j, d, by rw [lockAll_get, if_neg fun q => h1 (hs j q)]; exact h2, h3⟩
theorem walk_in {H0 : Hp} {ls : List Nat} {f : Fl} {d : D} {v : V} {x : Addr} {ds : List D} (R : Rel G F H env σ) (h : vOk G F H env σ f d v) (hn : vNew H0 f v) (e : v = .ref x) (hl : late f d env = some (.lst ds)) (hs : ∀ j ∈ lockOf f, j ∈ ls) : ¬ Mo (lockAll ls env) σ x ∧ (F x ∨ Ml env σ x ∨ H0 x = none) :=
  let q := walk_at R h hn e hl (.inl ⟨ds, rfl⟩); ⟨fun m => q.1 (Mo_more hs m), q.2⟩
theorem zipD_get {xs ys : List D} {i : Nat} {d : D} (h : (zipD xs ys)[i]? = some d) : ∃ u v, xs[i]? = some u ∧ ys[i]? = some v ∧ d = .tup [u, v] := by
  unfold zipD at h
  rw [List.getElem?_zipWith] at h
  cases hx : xs[i]? with
  | none => rw [hx] at h; cases h
  | some u =>
    cases hy : ys[i]? with
    | none => rw [hx, hy] at h; cases h
    | some v => rw [hx, hy] at h; cases h; exact ⟨u, v, rfl, rfl, rfl⟩
theorem zipD_len (xs ys : List D) : (zipD xs ys).length = min xs.length ys.length := by unfold zipD; exact List.length_zipWith
theorem relF_pair {F2 : Addr → Prop} {H2 : Hp} {u v : D} {x y : V} {p : Addr} (hp : H2 p = none) (h1 : relF G F2 H2 u x) (h2 : relF G F2 H2 v y) : relF G F2 (upd H2 p (.tup [x, y])) (.tup [u, v]) (.ref p) := by
  have := (resT (G := G) (F := F2) hp (ds := [u, v]) (xs := [x, y]) (by simp only [relFs]; exact ⟨x, [y], rfl, h1, y, [], rfl, h2, rfl⟩)).2
  rw [if_neg Bool.false_ne_true] at this
  exact this
theorem itOk_zipL {H0 : Hp} {ls : List Nat} {ds es : List D} {xs ys : List V} {p q : Addr} (R : Rel G F H env σ) (n1 : ¬ Mo (lockAll ls env) σ p ∧ (F p ∨ Ml env σ p ∨ H0 p = none)) (n2 : ¬ Mo (lockAll ls env) σ q ∧ (F q ∨ Ml env σ q ∨ H0 q = none)) (h1 : Rd H p (.lst xs)) (h2 : relFs G F H ds xs) (h3 : Rd H q (.lst ys)) (h4 : relFs G F H es ys) :
    ItOk G H0 F H env σ (zipD ds es) ls (Itz G.K p q) := fun Z F2 H2 hz E i => by
  have r1 := Rd_ext E (n_z hz n1) h1
  have r2 := relFs_ext E (ap_z R ls hz) ds xs h2
  have r3 := Rd_ext E (n_z hz n2) h3
  have r4 := relFs_ext E (ap_z R ls hz) es ys h4
  have l1 := relFs_length h2
  have l2 := relFs_length h4
  refine ⟨fun hi => ⟨xs, ys, SqL_rd r1, SqL_rd r3, by rw [zipD_len] at hi; omega⟩, fun d hd => ?_⟩
  obtain ⟨u, v, e1, e2, rfl⟩ := zipD_get hd
  obtain ⟨x, e3, e4⟩ := relFs_get r2 e1
  obtain ⟨y, e5, e6⟩ := relFs_get r4 e2
  refine ⟨⟨xs, ys, x, y, SqL_rd r1, SqL_rd r3, e3, e5⟩, fun w H3 ⟨T, x', y', ew, hT, eH, hx, hy⟩ => ?_⟩
  have := hx xs (SqL_rd r1); rw [e3] at this; cases this
  have := hy ys (SqL_rd r3); rw [e5] at this; cases this
  subst ew eH
  exact ⟨grow_new hT, relF_pair hT e4 e6⟩
theorem itOk_zipT {H0 : Hp} {ls : List Nat} {ds es : List D} {xs ys : List V} {p q : Addr} (R : Rel G F H env σ) (h1 : SqT G.K H p xs) (h2 : relFs G F H ds xs) (h3 : SqT G.K H q ys) (h4 : relFs G F H es ys) :
    ItOk G H0 F H env σ (zipD ds es) ls (RZ.ItzT G.K p q) := fun Z F2 H2 hz E i => by
  have r1 := SqT_ext E (ap_z R ls hz) h1
  have r2 := relFs_ext E (ap_z R ls hz) ds xs h2
  have r3 := SqT_ext E (ap_z R ls hz) h3
  have r4 := relFs_ext E (ap_z R ls hz) es ys h4
  have l1 := relFs_length h2
  have l2 := relFs_length h4
  refine ⟨fun hi => ⟨xs, ys, r1, r3, by rw [zipD_len] at hi; omega⟩, fun d hd => ?_⟩
  obtain ⟨u, v, e1, e2, rfl⟩ := zipD_get hd
  obtain ⟨x, e3, e4⟩ := relFs_get r2 e1
  obtain ⟨y, e5, e6⟩ := relFs_get r4 e2
  refine ⟨⟨xs, ys, x, y, r1, r3, e3, e5⟩, fun w H3 ⟨T, x', y', ew, hT, eH, hx, hy⟩ => ?_⟩
  have := hx xs r1; rw [e3] at this; cases this
  have := hy ys r3; rw [e5] at this; cases this
  subst ew eH
  exact ⟨grow_new hT, relF_pair hT e4 e6⟩
theorem i_zip {p pos tpos : Pos} {elts : List Expr} {kk : Nat} (hK : X.K = G.K) (hg : Gl X "zip") (hm : X.mg "zip" = none) (ha : PE X a (rdE G Φ γ W ma)) (hb : PE X b (rdE G Φ γ W mb)) (ns : notStar a = true) (ns2 : notStar b = true) :
    PI X (.Tuple elts kk tpos) (.Call (.Name "zip" p) [a, b] [] pos) (rdI G Φ γ W (.zip [ma, mb])) :=
  PI.imp (RZ.pi_zipA hg hm (pa_rd_cons ha (pa_rd_cons hb pa_rd_nil (star_cons ns2)) (star_cons ns)) (star_cons ns) (back_any (by simp [ns2]))) fun σ H R ⟨F, env, Rl, k⟩ => by
    rw [evI] at k
    refine ⟨F, env, Rl, kIs_of k fun vs e1 F1 H1 xs p1 v1 n1 k1 => ?_⟩
    rcases vs with _ | ⟨⟨f1, d1⟩, _ | ⟨⟨f2, d2⟩, r⟩⟩
    · exact k1.elim
    · simp only [lates] at k1
      cases h1 : late f1 d1 e1 with
      | none => rw [h1] at k1; exact k1.elim
      | some u =>
        rw [h1] at k1
        have e1 : zipI (places [(f1, d1)]) e1 (some [u]) = .st := by cases u <;> rfl
        have k1 : kI G W F H env σ R (zipI (places [(f1, d1)]) _ (some [u])) := k1
        rw [e1] at k1
        exact k1.elim
    · obtain ⟨x, xr, rfl, o1, y, yr, rfl, o2, o3⟩ := v1
      obtain ⟨m1, m2, m3⟩ := n1
      cases h1 : late f1 d1 e1 with
      | none => simp only [lates, h1] at k1; exact k1.elim
      | some u =>
        cases h2 : late f2 d2 e1 with
        | none => simp only [lates, h1, h2] at k1; exact k1.elim
        | some v =>
          cases h3 : lates r e1 with
          | none => simp only [lates, h1, h2, h3] at k1; exact k1.elim
          | some rs =>
            simp only [lates, h1, h2, h3] at k1
            unfold zipI at k1
            split at k1
            · rename_i us ws e0
              cases e0
              have hr : r = [] := by
                cases r with
                | nil => rfl
                | cons q r => obtain ⟨f, d⟩ := q; rw [lates] at h3; split at h3 <;> cases h3
              subst hr
              have o3 : yr = [] := o3
              subst o3
              obtain ⟨pa, xs1, rfl, q1, q2⟩ := rLst (o1.late p1.rel h1)
              obtain ⟨pb, ys1, rfl, q3, q4⟩ := rLst (o2.late p1.rel h2)
              have i1 : ∀ j ∈ lockOf f1, j ∈ places [(f1, d1), (f2, d2)] := fun j hj => by cases f1 <;> simp [lockOf, places] at hj ⊢; simp [hj]
              have i2 : ∀ j ∈ lockOf f2, j ∈ places [(f1, d1), (f2, d2)] := fun j hj => by cases f1 <;> cases f2 <;> simp [lockOf, places] at hj ⊢ <;> simp [hj]
              refine ⟨pa, pb, xs1, ys1, rfl, .inl ⟨SqL_rd q1, SqL_rd q3, ?_⟩⟩
              rw [hK]
              exact k1 F1 H1 _ p1 (itOk_zipL p1.rel (walk_in p1.rel o1 m1 rfl h1 i1) (walk_in p1.rel o2 m2 rfl h2 i2) q1 q2 q3 q4)
            · rename_i us ws e0
              cases e0
              have hr : r = [] := by
                cases r with
                | nil => rfl
                | cons q r => obtain ⟨f, d⟩ := q; rw [lates] at h3; split at h3 <;> cases h3
              subst hr
              have o3 : yr = [] := o3
              subst o3
              obtain ⟨pa, xs1, rfl, q1, q2⟩ := rTup (o1.late p1.rel h1)
              obtain ⟨pb, ys1, rfl, q3, q4⟩ := rTup (o2.late p1.rel h2)
              refine ⟨pa, pb, xs1, ys1, rfl, .inr ⟨by rw [hK]; exact q1, by rw [hK]; exact q3, ?_⟩⟩
              rw [hK]
              exact k1 F1 H1 _ p1 (itOk_zipT p1.rel q1 q2 q3 q4)
            · exact k1.elim
theorem enumD_get {xs : List D} {i : Nat} {d : D} (h : (enumD xs)[i]? = some d) : ∃ u, xs[i]? = some u ∧ d = .tup [.int (i : Int), u] := by
  unfold enumD at h
  rw [List.getElem?_zipWith] at h
  cases hx : xs[i]? with
  | none =>
    rw [hx] at h
    cases hr : (List.range xs.length)[i]? <;> rw [hr] at h <;> cases h
  | some u =>
    have hi : i < xs.length := (List.getElem?_eq_some_iff.mp hx).1
    have hr : (List.range xs.length)[i]? = some i := by rw [List.getElem?_eq_getElem (by simpa using hi)]; simp
    rw [hx, hr] at h
    cases h
    exact ⟨u, rfl, rfl⟩
theorem enumD_len (xs : List D) : (enumD xs).length = xs.length := by unfold enumD; rw [List.length_zipWith, List.length_range]; omega
theorem i_enum {p pos tpos : Pos} {elts : List Expr} {kk : Nat} (hK : X.K = G.K) (hg : Gl X "enumerate") (hm : X.mg "enumerate" = none) (ha : PE X a (rdE G Φ γ W ma)) (ns : notStar a = true) :
    PI X (.Tuple elts kk tpos) (.Call (.Name "enumerate" p) [a] [] pos) (rdI G Φ γ W (.enum ma)) :=
  PI.imp (pi_enum hg hm (pa_cons ha pa_nil (star_cons ns)) (star_cons ns)) fun σ H R ⟨F, env, Rl, k⟩ => by
    rw [evI] at k
    refine ⟨F, env, Rl, kI_of (t := .enum ma) k fun f d e1 F1 H1 v p1 v1 nw k1 => ?_⟩
    cases hl : late f d e1 with
    | none => rw [hl] at k1; exact k1.elim
    | some d' =>
      rw [hl] at k1
      cases d' with
      | lst ds =>
        obtain ⟨pa, xs1, rfl, q1, q2⟩ := rLst (v1.late p1.rel hl)
        have n1 := walk_at p1.rel v1 nw rfl hl (.inl ⟨ds, rfl⟩)
        refine ⟨pa, xs1, rfl, SqL_rd q1, ?_⟩
        rw [hK]
        refine k1 F1 H1 _ p1 fun Z F2 H2 hz E i => ?_
        have r1 := Rd_ext E (n_z hz n1) q1
        have r2 := relFs_ext E (ap_z p1.rel (lockOf f) hz) ds xs1 q2
        have l1 := relFs_length q2
        refine ⟨fun hi => ⟨xs1, SqL_rd r1, by rw [enumD_len] at hi; omega⟩, fun d hd => ?_⟩
        obtain ⟨u, e1, rfl⟩ := enumD_get hd
        obtain ⟨x, e3, e4⟩ := relFs_get r2 e1
        refine ⟨⟨xs1, x, SqL_rd r1, e3⟩, fun w H3 ⟨T, x', ew, hT, eH, hx⟩ => ?_⟩
        have := hx xs1 (SqL_rd r1); rw [e3] at this; cases this
        subst ew eH
        exact ⟨grow_new hT, relF_pair hT (by simp only [relF]) e4⟩
      | _ => exact k1.elim
end
end PF
set_option Elab.async false
set_option linter.all false
set_option maxRecDepth 100000
set_option maxHeartbeats 1000000
namespace PF
open PySem PySem.Spec PyProof.Rows L2
/-- the heap without what stands at a -/
def hole (H : Hp) (a : Addr) : Hp := fun b => if b = a then none else H b
section
variable {G : Gp} {F F' : Addr → Prop} {H : Hp} {env : Env} {σ : L2.St} {a : Addr}
theorem hole_at : hole H a a = none := by unfold hole; rw [if_pos rfl]
theorem hole_ne {b : Addr} (h : b ≠ a) : hole H a b = H b := by unfold hole; rw [if_neg h]
theorem hole_upd {o : HO} (h : H a = some o) : upd (hole H a) a o = H := by
  funext b
  by_cases hb : b = a
  · subst hb; rw [upd_same, h]
  · rw [upd_ne hb, hole_ne hb]
theorem SqT_hole {b : Addr} {xs ys : List V} (hl : H a = some (.lst ys)) (h : SqT G.K H b xs) : SqT G.K (hole H a) b xs := by
  rcases h with (h | ⟨o, h⟩) | h
  · have ne : b ≠ a := fun z => by subst z; rw [hl] at h; cases h
    exact .inl (.inl (by rw [hole_ne ne]; exact h))
  · have ne : b ≠ a := fun z => by subst z; rw [hl] at h; cases h
    exact .inl (.inr ⟨o, by rw [hole_ne ne]; exact h⟩)
  · exact .inr h
theorem Rd_hole {b : Addr} {u : HO} (ne : b ≠ a) (h : Rd H b u) : Rd (hole H a) b u := by
  rcases h with h | ⟨o, h⟩
  · exact .inl (by rw [hole_ne ne]; exact h)
  · exact .inr ⟨o, by rw [hole_ne ne]; exact h⟩
theorem DHolds_hole {b : Addr} {ks : List D} {kx vx : List V} (ne : b ≠ a) (h : DHolds G H b ks kx vx) : DHolds G (hole H a) b ks kx vx := by
  rcases h with ⟨kvs, h, r⟩ | ⟨on, nz, xs, h, r⟩
  · exact .inl ⟨kvs, by rw [hole_ne ne]; exact h, r⟩
  · exact .inr ⟨on, nz, xs, by rw [hole_ne ne]; exact h, r⟩
mutual
theorem relF_hole {ys : List V} (hl : H a = some (.lst ys)) (nF : ¬ F a) : ∀ (d : D) (v : V), relF G F H d v → relF G F (hole H a) d v
  | .non, v, h => by simp only [relF] at h ⊢; exact h
  | .bl b, v, h => by simp only [relF] at h ⊢; exact h
  | .int i, v, h => by simp only [relF] at h ⊢; exact h
  | .str s, v, h => by simp only [relF] at h ⊢; exact h
  | .tup ds, v, h => by
    simp only [relF] at h ⊢
    obtain ⟨b, xs, e, h1, h2⟩ := h
    exact ⟨b, xs, e, SqT_hole hl h1, relFs_hole hl nF ds xs h2⟩
  | .lst ds, v, h => by
    simp only [relF] at h ⊢
    obtain ⟨b, xs, e, hF, h1, h2⟩ := h
    exact ⟨b, xs, e, hF, Rd_hole (fun z => nF (by rw [← z]; exact hF)) h1, relFs_hole hl nF ds xs h2⟩
  | .dct ks vs, v, h => by
    simp only [relF] at h ⊢
    obtain ⟨b, kx, vx, e, hF, h1, h2, h3⟩ := h
    exact ⟨b, kx, vx, e, hF, DHolds_hole (fun z => nF (by rw [← z]; exact hF)) h1, relFs_hole hl nF ks kx h2, relFs_hole hl nF vs vx h3⟩
  | .ins c ns vs, v, h => by simp only [relF] at h
theorem relFs_hole {ys : List V} (hl : H a = some (.lst ys)) (nF : ¬ F a) : ∀ (ds : List D) (xs : List V), relFs G F H ds xs → relFs G F (hole H a) ds xs
  | [], xs, h => by simp only [relFs] at h ⊢; exact h
  | d :: ds, xs, h => by
    simp only [relFs] at h ⊢
    obtain ⟨x, r, e, h1, h2⟩ := h
    exact ⟨x, r, e, relF_hole hl nF d x h1, relFs_hole hl nF ds r h2⟩
end
theorem relO_hole {ys : List V} {d : D} {b : Addr} (hl : H a = some (.lst ys)) (nF : ¬ F a) (ne : b ≠ a) (h : relO G F H d b) : relO G F (hole H a) d b := by
  cases d with
  | lst ds =>
    obtain ⟨xs, h1, h2⟩ := h
    exact ⟨xs, by rw [hole_ne ne]; exact h1, relFs_hole hl nF _ _ h2⟩
  | dct ks vs =>
    obtain ⟨kx, vx, h1, h2, h3⟩ := h
    exact ⟨kx, vx, DHolds_hole ne h1, relFs_hole hl nF _ _ h2, relFs_hole hl nF _ _ h3⟩
  | _ => exact h.elim
/-- a list of our own that nobody holds is put aside -/
theorem Pst.hole_ {F0 : Addr → Prop} {H0 : Hp} {e0 : Env} {σ0 : L2.St} {ys : List V} (p : Pst G F0 H0 e0 σ0 F H env σ) (hn : H0 a = none) (nF : ¬ F a) (nM : ¬ Ml env σ a) (hl : H a = some (.lst ys)) : Pst G F0 H0 e0 σ0 F (hole H a) env σ := by
  refine ⟨⟨fun b o e n => ?_, fun b e => ?_, p.ext.fF, p.ext.new⟩, ⟨p.rel.len, fun i => ?_, p.rel.one, fun b hb e => ?_⟩, p.mo, p.mw, p.lk⟩
  · have ne : b ≠ a := fun z => by subst z; rw [hn] at e; cases e
    rw [hole_ne ne]; exact p.ext.frm b o e n
  · by_cases hb : b = a
    · subst hb; exact hn
    · rw [hole_ne hb] at e; exact p.ext.alive b e
  · have q := p.rel.slot i
    have ne : isOwn (getS env i) = true → ∀ b, slAt σ i = some (.ref b) → b ≠ a := fun ho b hb z => by subst z; exact nM ⟨i, ho, hb⟩
    cases hs : getS env i with
    | non => trivial
    | fr d =>
      rw [hs] at q
      obtain ⟨v, h1, h2⟩ := q
      exact ⟨v, h1, relF_hole hl nF d v h2⟩
    | ow d =>
      rw [hs] at q ne
      obtain ⟨b, h1, h2, h3⟩ := q
      exact ⟨b, h1, h2, relO_hole hl nF (ne rfl b h1) h3⟩
    | lk d =>
      rw [hs] at q ne
      obtain ⟨b, h1, h2, h3⟩ := q
      exact ⟨b, h1, h2, relO_hole hl nF (ne rfl b h1) h3⟩
  · have ne : b ≠ a := fun z => by subst z; exact nF hb
    rw [hole_ne ne] at e
    exact p.rel.fin b hb e
end
section
variable {G : Gp} {Φ : Str → List Sl → FR} {γ : Str → Option D} {W : WX}
theorem lc2_rd {it it2 : It} {t t2 : T} {mi mi2 : List E} {me : E} {vs : List Nat} (hv : ∀ j ∈ tvars t, j ∈ vs) (hv2 : ∀ j ∈ tvars t2, j ∈ vs) {σ : L2.St} {H : Hp} {Q : VK} (h : rdE G Φ γ W (.lc2 vs t it mi t2 it2 mi2 me) σ H Q) :
    tLc2 (rdI G Φ γ W it) (gT G.K t) (rdTs G Φ γ W0 mi) (rdI G Φ γ W0 it2) (gT G.K t2) (rdTs G Φ γ W0 mi2) (rdE G Φ γ W0 me) vs (tvars t2) σ H Q := by
  obtain ⟨F, env, R, k⟩ := h
  refine ⟨F, env, R, ?_⟩
  rw [ev] at k
  cases hi : evI Φ γ it env with
  | st => rw [hi] at k; exact k
  | ex x e1 => rw [hi] at k; exact k
  | ok ds ls e1 =>
    rw [hi] at k
    simp only [RI.bd] at k
    intro F1 H1 J p1 hJ D' hD
    generalize hin : (fun (e3 : Env) (acc : List D) => (evI Φ γ it2 e3).bdL fun ds2 ls2 e4 => (lcGo (asgW (tvars t2) t2) (evTs Φ γ mi2) (ev Φ γ me) ds2 (lockAll ls2 e4) acc).bdL fun acc' e5 => RL.ok acc' (unlockAll ls2 e4 e5)) = inner at k
    generalize hrl : lc2Go (asgW vs t) (evTs Φ γ mi) inner ds (lockAll ls e1) [] = rl at k
    have hne : rl ≠ .st := fun z => by rw [z] at k; exact k
    have Rs := (p1.rel.lock ls).wipe vs
    refine ⟨fun i m H => ∃ F e acc axs, m = ds.length - i ∧ i ≤ ds.length ∧ Pst G F1 H1 (wipeS (lockAll ls e1) vs) (L2.wipe σ vs) F H (wipeS e vs) (L2.wipe σ vs) ∧ H D' = some (.lst axs) ∧ relFs G F H acc axs ∧ ¬ F D' ∧ ¬ Ml (wipeS e vs) (L2.wipe σ vs) D' ∧ e.length = e1.length ∧
      lc2Go (asgW vs t) (evTs Φ γ mi) inner (ds.drop i) e acc = rl, ⟨ds.length, F1, lockAll ls e1, [], [], by simp, Nat.zero_le _, Pst.grow Rs (grow_new hD), upd_same, by simp [relFs], fun z => p1.rel.fin _ z hD, fun z => Rs.there z hD, lockAll_length _ _, by simpa using hrl⟩, ?_⟩
    rintro i m H2 ⟨F2, e, acc, axs, rfl, hi2, P, hH, hr, nF, nM, hlen, hgo⟩
    have E0 : Ext (Mo (lockAll ls e1) σ) F1 H1 F2 H2 := P.ext.weak fun a => Mo_wipe
    by_cases hlt : i < ds.length
    · have hd : ds[i]? = some ds[i] := List.getElem?_eq_getElem hlt
      obtain ⟨hgoJ, hyld⟩ := (hJ.at0 G F2 H2 E0 i).2 _ hd
      refine .inr ⟨hgoJ, fun H' => ∃ F e acc axs, i + 1 ≤ ds.length ∧ Pst G F1 H1 (wipeS (lockAll ls e1) vs) (L2.wipe σ vs) F H' (wipeS e vs) (L2.wipe σ vs) ∧ H' D' = some (.lst axs) ∧ relFs G F H' acc axs ∧ ¬ F D' ∧ ¬ Ml (wipeS e vs) (L2.wipe σ vs) D' ∧ e.length = e1.length ∧
        lc2Go (asgW vs t) (evTs Φ γ mi) inner (ds.drop (i + 1)) e acc = rl, fun H' ⟨F, e, acc, axs, h1, h2⟩ => ⟨ds.length - (i + 1), by omega, F, e, acc, axs, rfl, h1, h2⟩, fun x H' hy => ?_⟩
      obtain ⟨g1, rx⟩ := hyld x H' hy
      rw [List.drop_eq_getElem_cons hlt, lc2Go] at hgo
      cases ha : asgW vs t ds[i] e with
      | none => rw [ha] at hgo; simp only [onL] at hgo; exact absurd hgo.symm hne
      | some ea =>
        rw [ha] at hgo
        simp only [onL] at hgo
        have P1 := P.trans (Pst.grow P.rel g1)
        have hD1 : H' D' = some (.lst axs) := g1 _ _ hH
        have hr1 := relFs_grow g1 hr
        refine gT_ok t _ x _ ea _ _ ha P1.rel rx fun σ2 P2 k2 => ?_
        have hw : L2.wipe σ2 vs = L2.wipe σ vs := (wipe_kept k2 hv).trans wipe_wipe
        refine ⟨hw, F2, ea, P2.rel, ?_⟩
        have nM2 : ¬ Ml ea σ2 D' := fun z => (P2.mo _ z).elim nM fun q => by rw [hD1] at q; cases q
        have P12 := P1.trans P2
        have keepD : ∀ {F3 : Addr → Prop} {H2 H3 : Hp} {F2 : Addr → Prop} {e2 e3 : Env} {ys : List V}, Pst G F2 H2 e2 σ2 F3 H3 e3 σ2 → H2 D' = some (.lst ys) → ¬ F2 D' → ¬ Ml e2 σ2 D' → H3 D' = some (.lst ys) ∧ ¬ F3 D' ∧ ¬ Ml e3 σ2 D' := fun p h1 h2 h3 =>
          ⟨p.ext.frm _ _ h1 fun z => h3 z.ml, fun z => (p.ext.new _ z).elim h2 fun q => q.elim (fun z => h3 z.ml) (fun z => by rw [h1] at z; cases z),
            fun z => (p.mo _ z).elim h3 fun q => by rw [h1] at q; cases q⟩
        have toW : ∀ {F4 : Addr → Prop} {H4 : Hp} {e4 : Env}, Pst G F1 H1 (wipeS (lockAll ls e1) vs) (L2.wipe σ vs) F4 H4 e4 σ2 → Pst G F1 H1 (wipeS (lockAll ls e1) vs) (L2.wipe σ vs) F4 H4 (wipeS e4 vs) (L2.wipe σ vs) := fun p => by
          have := p.wiped vs
          rw [hw] at this
          exact this
        have nMw : ∀ {e4 : Env}, ¬ Ml e4 σ2 D' → ¬ Ml (wipeS e4 vs) (L2.wipe σ vs) D' := fun n z => by
          rw [← hw] at z
          obtain ⟨j, h1, h2⟩ := z
          rw [wipeS_get] at h1
          split at h1
          · cases h1
          · rename_i hj
            rw [wipe_get, if_neg hj] at h2
            exact n ⟨j, h1, h2⟩
        cases ht : evTs Φ γ mi ea with
        | st => rw [ht] at hgo; exact absurd hgo.symm hne
        | ex x e2 => rw [ht] at hgo; exact absurd hgo.symm hne
        | ok b e2 =>
          rw [ht] at hgo
          simp only [RT.bdL] at hgo
          intro F3 H3 P3
          obtain ⟨hD3, nF3, nM3⟩ := keepD P3 hD1 nF nM2
          have hr3 : relFs G F3 H3 acc axs := relFs_ext P3.ext P2.rel.apart _ _ hr1
          have lenσ : σ2.length = e1.length := by
            have h2 := k2.1
            have h3 := P.rel.len
            rw [wipeS_length] at h3
            omega
          have len2 : e2.length = e1.length := by have h1 := P3.rel.len; omega
          cases b with
          | false =>
            rw [if_neg Bool.false_ne_true] at hgo ⊢
            exact ⟨F3, e2, acc, axs, hlt, toW (P12.trans P3), hD3, hr3, nF3, nMw nM3, len2, hgo⟩
          | true =>
            rw [if_pos rfl] at hgo ⊢
            refine ⟨F3, e2, P3.rel, ?_⟩
            have hin2 : inner e2 acc = (evI Φ γ it2 e2).bdL fun ds2 ls2 e4 => (lcGo (asgW (tvars t2) t2) (evTs Φ γ mi2) (ev Φ γ me) ds2 (lockAll ls2 e4) acc).bdL fun acc' e5 => RL.ok acc' (unlockAll ls2 e4 e5) := by rw [← hin]
            rw [hin2] at hgo
            cases hi2 : evI Φ γ it2 e2 with
            | st => rw [hi2] at hgo; exact absurd hgo.symm hne
            | ex x e4 => rw [hi2] at hgo; exact absurd hgo.symm hne
            | ok ds2 ls2 e4 =>
              rw [hi2] at hgo
              simp only [RI.bdL] at hgo
              intro F4 H4 J1 P4 hJ1
              obtain ⟨hD4, nF4, nM4⟩ := keepD P4 hD3 nF3 nM3
              have hr4 : relFs G F4 H4 acc axs := relFs_ext P4.ext P3.rel.apart _ _ hr3
              have PA4 := (P12.trans P3).trans P4
              have PH := PA4.hole_ hD nF4 nM4 hD4
              generalize hrl2 : lcGo (asgW (tvars t2) t2) (evTs Φ γ mi2) (ev Φ γ me) ds2 (lockAll ls2 e4) acc = rl2 at hgo
              have hne2 : rl2 ≠ .st := fun z => by rw [z] at hgo; exact absurd hgo.symm hne
              have lc := lc_loop (G := G) (Φ := Φ) (γ := γ) (ds := ds2) (ls := ls2) (J := J1) (D' := D') (vs := tvars t2) (t := t2) (mi := mi2) (me := me) (acc0 := acc) (axs0 := axs) (rl := rl2)
                (Qd := fun H' => ∃ F e acc axs, i + 1 ≤ ds.length ∧ Pst G F1 H1 (wipeS (lockAll ls e1) vs) (L2.wipe σ vs) F H' (wipeS e vs) (L2.wipe σ vs) ∧ H' D' = some (.lst axs) ∧ relFs G F H' acc axs ∧ ¬ F D' ∧ ¬ Ml (wipeS e vs) (L2.wipe σ vs) D' ∧ e.length = e1.length ∧ lc2Go (asgW vs t) (evTs Φ γ mi) inner (ds.drop (i + 1)) e acc = rl)
                PH.rel (fun F5 H5 E hne5 i => hJ1 (fun a => a = D') F5 H5 (fun a ha => by rw [ha]; exact ⟨by rw [hD3]; exact (fun z => nomatch z), nF4, nM4, axs, hD4⟩)
                  ⟨fun b o eb n => E.frm b o (by rw [hole_ne fun z => n (.inr z)]; exact eb) fun z => n (.inl z), fun b eb => by
                    by_cases hb : b = D'
                    · subst hb; exact absurd eb hne5
                    · have := E.alive b eb; rw [hole_ne hb] at this; exact this, E.fF, fun b hb => (E.new b hb).imp_right fun z => z.elim (fun z => .inl (.inl z)) fun z => by
                    by_cases hb2 : b = D'
                    · exact .inl (.inr hb2)
                    · rw [hole_ne hb2] at z; exact .inr z⟩ i)
                hole_at (by rw [hole_upd hD4]; exact hr4) (fun j hj => hj) hrl2 hne2 (fun F5 e5 acc5 axs5 H5 hok P5 hH5 hr5 nF5 nM5 => by
                  rw [hok] at hgo
                  simp only [RL.bdL] at hgo
                  have hl5 : e5.length = (lockAll ls2 e4).length := by
                    have h1 := P5.rel.len
                    have h2 := P4.rel.len
                    rw [wipeS_length, wipe_length] at h1
                    rw [h1, lockAll_length]; omega
                  have P6 := Pst.rest (PH.rel.lock ls2) P5
                  rw [restS_wipeS hl5] at P6
                  have P7 := Pst.unlock PH.rel P6
                  have P8 := toW (PH.trans P7)
                  have ew : wipeS (unlockAll ls2 e4 (restS e5 (lockAll ls2 e4) (tvars t2))) vs = wipeS (unlockAll ls2 e4 e5) vs := by
                    refine env_ext (by rw [wipeS_length, wipeS_length, unlockAll_length, unlockAll_length, restS_length]) fun j => ?_
                    rw [wipeS_get, wipeS_get]
                    split
                    · rfl
                    · rename_i hj
                      rw [unlockAll_get, unlockAll_get, restS_get _ _ hl5, if_neg fun q => hj (hv2 j q)]
                  rw [ew] at P8
                  refine ⟨F5, unlockAll ls2 e4 e5, acc5, axs5, hlt, P8, hH5, hr5, nF5, fun ⟨j, h1, h2⟩ => ?_, by rw [unlockAll_length, hl5, lockAll_length]; have := P4.rel.len; omega, hgo⟩
                  rw [wipeS_get] at h1
                  split at h1
                  · cases h1
                  · rename_i hj
                    rw [isOwn_unlock] at h1
                    rw [wipe_get, if_neg hj] at h2
                    have hj2 : j ∉ tvars t2 := fun q => hj (hv2 j q)
                    have e3 : slAt σ2 j = slAt σ j := by
                      have := k2.2 j fun q => hj (hv j q)
                      rw [this, wipe_get, if_neg hj]
                    exact nM5 ⟨j, by rw [wipeS_get, if_neg hj2]; exact h1, by rw [wipe_get, if_neg hj2, e3]; exact h2⟩)
              rw [hole_upd hD4] at lc
              exact lc
    · have hie : i = ds.length := by omega
      subst hie
      refine .inl ⟨(hJ.at0 G F2 H2 E0 ds.length).1 (Nat.le_refl _), ?_⟩
      rw [List.drop_length, lc2Go] at hgo
      rw [← hgo] at k
      simp only [RL.bd] at k
      have hl : e.length = (lockAll ls e1).length := by rw [lockAll_length]; exact hlen
      have P2 := Pst.rest (p1.rel.lock ls) P
      rw [restS_wipeS hl] at P2
      have P3 := Pst.unlock p1.rel P2
      refine k F2 H2 _ (p1.trans P3) ⟨D', rfl, nF, fun z => ?_, axs, hH, hr⟩ fun _ a ea => by cases ea; exact p1.ext.alive D' hD
      obtain ⟨j, h1, h2⟩ := z
      rw [isOwn_unlock, restS_get _ _ hl] at h1
      split at h1
      · rw [isOwn_lock] at h1
        exact p1.rel.there ⟨j, h1, h2⟩ hD
      · rename_i hj
        refine nM ⟨j, ?_, ?_⟩
        · rw [wipeS_get, if_neg hj]; exact h1
        · rw [wipe_get, if_neg hj]; exact h2
end
end PF
set_option Elab.async false
set_option linter.all false
set_option maxRecDepth 100000
set_option maxHeartbeats 1000000
namespace PF
open PySem PySem.Spec PyProof.Rows L2
section
variable {G : Gp} {X : Cx} {Φ : Str → List Sl → FR} {γ : Str → Option D} {W : WX}
theorem e_dnew {pos : Pos} : PE X (.Dict [] [] pos) (rdE G Φ γ W .dnew) :=
  PE.imp pe_dnewK fun σ H Q ⟨F, env, R, k⟩ => by
    rw [ev] at k
    intro p hp
    have g := grow_new (o := .dK []) hp
    exact k _ _ _ (Pst.grow R g) ⟨p, rfl, fun z => R.fin p z hp, fun z => R.there z hp, [], [], .inl ⟨[], upd_same, rfl, rfl, rfl⟩, by simp only [relFs], by simp only [relFs]⟩ fun _ a ea => by cases ea; exact hp
/-- d.get(k, x), whatever the keys -/
def tGetD (G : Gp) (td ty tx : TE) : TE := fun σ H Q => td σ H fun x H1 => ∃ a F ks vs, x = .ref a ∧ relR G F H1 (.dct ks vs) x ∧ ty σ H1 fun y H2 => tx σ H2 fun z H3 => ∃ F ks vs k, relR G F H3 (.dct ks vs) x ∧ relR G F H3 k y ∧ keyOk k ks = true ∧
  (∀ w, dGet k ks vs = some w → ∀ u, relF G F H3 w u → Q u H3) ∧ (dGet k ks vs = none → Q z H3)
theorem pe_getD {a b f : Expr} {td ty tx : TE} {apos cpos : Pos} (hP : X.prog = G.P) (hw : X.w = G.w) (hK : X.K = G.K) (hu : X.A.units + 64 < cLine) (ha : PE X a td) (hb : PE X b ty) (hc : PE X f tx) (m : M2 X a "get" apos b f cpos) :
    PE X (.Call (.Attribute a "get" apos) [b, f] [] cpos) (tGetD G td ty tx) := by
  refine ⟨fun pins s σ H Q I h => ?_⟩
  refine wpAny_Call_method m.base m.few m.line PySem.F.plainAttrs_dict PySem.F.slot_dict_get PySem.F.type_dict_get ?_
  refine thn (ha.run pins s σ H _ I h) fun u s1 q0 => ?_
  obtain ⟨x, H1, I1, rx, ad, F, ks, vs, ex, r1, q1⟩ := q0
  subst ex
  obtain rfl : u = Value.ref ad := rx
  obtain ⟨a1, kx, vx, e1, g1, g2, _⟩ := (show ∃ a kx vx, V.ref ad = V.ref a ∧ DHolds G H1 a ks kx vx ∧ relFs G F H1 ks kx ∧ relFs G F H1 vs vx from r1)
  cases e1
  obtain ⟨es, ep, dr, hd, _⟩ := dct_raw hP hw hK I1 g1 g2
  refine ⟨dr.typeIs, ?_, ?_⟩
  · intro b q
    cases q
    obtain ⟨o, go, x, _⟩ := dr
    exact ⟨o, go, x.2.1⟩
  rw [m.trees]
  refine Calls.callWith_builtin rfl (Calls.evalArgs_plain (Calls.spliced_cons ?_))
  refine thn (hb.run pins s1 σ H1 _ I1 q1) fun iv s2 q2 => ?_
  obtain ⟨y, H2, I2, ry, q2⟩ := q2
  refine Calls.spliced_cons (thn (hc.run pins s2 σ H2 _ I2 q2) fun fv s3 q3 => ?_)
  obtain ⟨z, H3, I3, rz, F3, ks3, vs3, k, r3, rk, hk, qs, qn⟩ := q3
  refine Calls.spliced_nil ?_
  rcases keyOk_cases hk with ⟨hk1, hk2⟩ | ⟨hk1, hk2⟩
  · obtain ⟨kk, rfl⟩ := leaf_inv hk1
    obtain ⟨a', kvs, e4, e5, rfl, hv⟩ := relR_dct_inv hk2 r3
    cases e4
    have := relR_kD rk
    subst this
    refine d_get2 (by omega) I3 (DGet.k (k := kk) e5) ry rz fun w' s4 I4 rw' => ⟨_, H3, I4, rw', ?_⟩
    cases hg : dGet (kD kk) (kvs.map fun p => kD p.1) vs3 with
    | some w =>
      obtain ⟨w1, k1, k2⟩ := dGet_val hv hg
      rw [k1]
      exact qs w hg _ k2
    | none =>
      rw [dGet_none hv hg]
      exact qn hg
  · obtain ⟨a', kx3, vx3, e4, h1, h2, h3⟩ := (show ∃ a kx vx, V.ref ad = V.ref a ∧ DHolds G H3 a ks3 kx vx ∧ relFs G F3 H3 ks3 kx ∧ relFs G F3 H3 vs3 vx from r3)
    cases e4
    obtain ⟨xs, dd, hd3, _, _, rv, hn, _⟩ := dn_raw hP hw hK I3 h1 h2 hk2
    obtain ⟨b', rfl, kb⟩ := key_is hK I3 hk1 rk
    obtain rfl : iv = Value.ref b' := ry
    obtain ⟨gs, gn⟩ := dn_get hk1 hk2 hn h3 rv
    refine getOr_keyed (knd := nestedKind X.prog X.w) (by show X.A.units + 1 + 8 < cLine; omega) kb hd3 ⟨xs, dd, rfl⟩ ?_
    rw [valueAt_pairsH]
    cases hg : dGet k ks3 vs3 with
    | some w =>
      obtain ⟨p, z1, e6, rz1, fz⟩ := gs w hg
      rw [e6]
      exact ⟨z1, H3, I3.tok _, rz1, qs w hg _ fz⟩
    | none =>
      rw [gn hg]
      exact ⟨z, H3, I3.tok _, rz, qn hg⟩
theorem e_get {a b f : Expr} {ma mb mc : E} {apos cpos : Pos} (hP : X.prog = G.P) (hw : X.w = G.w) (hK : X.K = G.K) (hu : X.A.units + 64 < cLine) (ha : PE X a (rdE G Φ γ W ma)) (hb : PE X b (rdE G Φ γ W mb)) (hc : PE X f (rdE G Φ γ W mc)) (m : M2 X a "get" apos b f cpos) :
    PE X (.Call (.Attribute a "get" apos) [b, f] [] cpos) (rdE G Φ γ W (.get ma mb mc)) :=
  PE.imp (pe_getD hP hw hK hu ha hb hc m) fun σ H Q ⟨F, env, R, k⟩ => by
    rw [ev] at k
    refine ⟨F, env, R, ?_⟩
    cases hs : ev Φ γ ma env with
    | st => rw [hs] at k; exact k
    | ex x e1 => rw [hs] at k; exact k
    | ok f1 d1 e1 =>
      rw [hs] at k
      intro F1 H1 x p1 v1 n1
      simp only [RE.bd] at k
      split at k
      · rename_i hd
        obtain ⟨ks, vs, hl⟩ : ∃ ks vs, late f1 d1 e1 = some (.dct ks vs) := by
          unfold isDct at hd
          split at hd
          · rename_i ks vs hq; exact ⟨ks, vs, hq⟩
          · cases hd
        have r0 := v1.late p1.rel hl
        obtain ⟨ad, kx0, vx0, rfl, _⟩ := (show ∃ a kx vx, x = V.ref a ∧ DHolds G H1 a ks kx vx ∧ relFs G F1 H1 ks kx ∧ relFs G F1 H1 vs vx from r0)
        refine ⟨ad, F1, ks, vs, rfl, r0, F1, e1, p1.rel, ?_⟩
        cases hs2 : ev Φ γ mb e1 with
        | st => rw [hs2] at k; exact k.elim
        | ex x e2 => rw [hs2] at k; exact fun F' H' cls dd p q => k F' H' cls dd (p1.trans p) q
        | ok f2 d2 e2 =>
          rw [hs2] at k
          intro F2 H2 y p2 v2 n2
          refine ⟨F2, e2, p2.rel, ?_⟩
          simp only at k
          cases hs3 : ev Φ γ mc e2 with
          | st => rw [hs3] at k; exact k.elim
          | ex x e3 => rw [hs3] at k; exact fun F' H' cls dd p q => k F' H' cls dd (p1.trans (p2.trans p)) q
          | ok f3 d3 e3 =>
            rw [hs3] at k
            intro F3 H3 z p3 v3 n3
            simp only at k
            cases f3 with
            | fr =>
              simp only [getE] at k
              cases hl1 : late f1 d1 e3 with
              | none => rw [hl1] at k; exact k.elim
              | some av =>
                cases hl2 : late f2 d2 e3 with
                | none => rw [hl1, hl2] at k; exact k.elim
                | some bv =>
                  rw [hl1, hl2] at k
                  simp only [onE] at k
                  have r1 := ((v1.step p1.rel p2).step p2.rel p3).late p3.rel hl1
                  have r2 := (v2.step p2.rel p3).late p3.rel hl2
                  cases av with
                  | dct ks' vs' =>
                    simp only [getD3] at k
                    by_cases hk : keyOk bv ks' = true
                    · rw [if_pos hk] at k
                      refine ⟨F3, ks', vs', bv, r1, r2, hk, fun w hg u fu => ?_, fun hg => ?_⟩
                      · rw [hg] at k
                        exact k F3 H3 u (p1.trans (p2.trans p3)) fu (fun z => by cases z)
                      · rw [hg] at k
                        exact k F3 H3 z (p1.trans (p2.trans p3)) v3 (fun z => by cases z)
                    · rw [if_neg hk] at k; exact k.elim
                  | _ => exact k.elim
            | ow => exact k.elim
            | pl i => exact k.elim
      · exact k.elim
end
end PF
set_option Elab.async false
set_option linter.all false
set_option maxRecDepth 100000
set_option maxHeartbeats 1000000
namespace PF
open PySem PySem.Spec PyProof.Rows L2
section
variable {G : Gp} {F : Addr → Prop} {H : Hp}
theorem dPutV_rel {k : Key} {d : D} {v : V} (hd : relF G F H d v) : ∀ {kvs : List (Key × V)} {vs : List D}, relFs G F H vs (kvs.map (·.2)) → relFs G F H (dPutV (kD k) d (kvs.map fun p => kD p.1) vs) ((kvs.map fun kv => if kv.1 = k then (kv.1, v) else kv).map (·.2))
  | [], [], _ => by simp only [List.map_nil, dPutV, relFs]
  | [], _ :: _, h => by
    simp only [List.map_nil, relFs] at h
    obtain ⟨_, _, e, _⟩ := h
    cases e
  | p :: kvs, [], h => by simp only [List.map_cons, relFs] at h; cases h
  | p :: kvs, w :: vs, h => by
    simp only [List.map_cons, relFs] at h
    obtain ⟨x, r, e1, h1, h2⟩ := h
    cases e1
    simp only [List.map_cons, dPutV, relFs]
    refine ⟨_, _, rfl, ?_, dPutV_rel hd h2⟩
    by_cases hp : p.1 = k
    · rw [if_pos (by rw [hp]), if_pos hp]; exact hd
    · rw [if_neg fun z => hp (kD_inj z), if_neg hp]; exact h1
theorem put_keys (k : Key) (v : V) : ∀ kvs : List (Key × V), (kvs.map fun kv => if kv.1 = k then (kv.1, v) else kv).map (fun p => kD p.1) = kvs.map fun p => kD p.1
  | [] => rfl
  | p :: kvs => by
    simp only [List.map_cons]
    rw [put_keys k v kvs]
    split <;> rfl
theorem mem_kD {k : Key} {kvs : List (Key × V)} : (kD k ∈ kvs.map fun p => kD p.1) ↔ (kvs.any fun kv => decide (kv.1 = k)) = true := by
  rw [List.any_eq_true]
  constructor
  · intro h
    obtain ⟨p, hp, e⟩ := List.mem_map.mp h
    exact ⟨p, hp, decide_eq_true (kD_inj e)⟩
  · rintro ⟨p, hp, e⟩
    rw [decide_eq_true_eq] at e
    exact List.mem_map.mpr ⟨p, hp, by rw [e]⟩
theorem dPut_keys (k : Key) (d : D) (v : V) (kvs : List (Key × V)) (vs : List D) : (dPut (kD k) d (kvs.map fun p => kD p.1) vs).1 = (putK kvs k v).map fun p => kD p.1 := by
  unfold dPut putK
  by_cases hc : (kvs.any fun kv => decide (kv.1 = k)) = true
  · rw [if_pos (mem_kD.mpr hc), if_pos hc, put_keys]
  · rw [if_neg (fun z => hc (mem_kD.mp z)), if_neg hc, List.map_append]
    rfl
theorem dPut_vals {k : Key} {d : D} {v : V} {kvs : List (Key × V)} {vs : List D} (hd : relF G F H d v) (hv : relFs G F H vs (kvs.map (·.2))) : relFs G F H (dPut (kD k) d (kvs.map fun p => kD p.1) vs).2 ((putK kvs k v).map (·.2)) := by
  unfold dPut putK
  by_cases hc : (kvs.any fun kv => decide (kv.1 = k)) = true
  · rw [if_pos (mem_kD.mpr hc), if_pos hc]
    exact dPutV_rel hd hv
  · rw [if_neg (fun z => hc (mem_kD.mp z)), if_neg hc, List.map_append]
    exact relFs_append hv (by simp only [List.map_cons, List.map_nil, relFs]; exact ⟨_, _, rfl, hd, rfl⟩)
theorem relO_dct {a : Addr} {kvs : List (Key × V)} {vs : List D} (hH : H a = some (.dK kvs)) (hv : relFs G F H vs (kvs.map (·.2))) : relO G F H (.dct (kvs.map fun p => kD p.1) vs) a :=
  ⟨_, _, .inl ⟨kvs, hH, rfl, rfl, all_kD kvs⟩, relFs_keys_mk kvs, hv⟩
/-- the dict behind d[k] = v -/
theorem dPut_rel {a : Addr} {k : Key} {d : D} {v : V} {kvs : List (Key × V)} {vs : List D} (hd : relF G F H d v) (hv : relFs G F H vs (kvs.map (·.2))) (hH : H a = some (.dK (putK kvs k v))) :
    relO G F H (.dct (dPut (kD k) d (kvs.map fun p => kD p.1) vs).1 (dPut (kD k) d (kvs.map fun p => kD p.1) vs).2) a := by
  rw [dPut_keys k d v]
  exact relO_dct hH (dPut_vals hd hv)
end
section
variable {G : Gp} {Φ : Str → List Sl → FR} {γ : Str → Option D} {W : WX} {X : Cx}
theorem dc_loop {F1 : Addr → Prop} {H1 : Hp} {σ : L2.St} {vs : List Nat} {t : T} {mi : List E} {mk mv : E} {ds : List D} {ls : List Nat} {J : L2.It} {D' : Addr} {env1 : Env} {rl : RD} {Qd : Hp → Prop}
    (R1 : Rel G F1 H1 env1 σ) (hJ : ∀ F2 H2, Ext (Mo (lockAll ls env1) σ) F1 H1 F2 H2 → H2 D' ≠ none → ∀ i : Nat, (ds.length ≤ i → J.stop i H2) ∧ ∀ d, ds[i]? = some d → J.go i H2 ∧ ∀ x H3, J.yld i H2 x H3 → (∀ a o, H2 a = some o → H3 a = some o) ∧ relF G F2 H3 d x)
    (hD : H1 D' = none) (hv : ∀ j ∈ tvars t, j ∈ vs) (hrl : dcGo (asgW vs t) (evTs Φ γ mi) (ev Φ γ mk) (ev Φ γ mv) ds (lockAll ls env1) [] [] = rl) (hne : rl ≠ .st)
    (fin : ∀ F e kvs ws H, rl = .ok (kvs.map fun p => kD p.1) ws e → Pst G F1 H1 (wipeS (lockAll ls env1) vs) (L2.wipe σ vs) F H (wipeS e vs) (L2.wipe σ vs) → H D' = some (.dK kvs) → relFs G F H ws (kvs.map (·.2)) → ¬ F D' → ¬ Ml (wipeS e vs) (L2.wipe σ vs) D' → Qd H) :
    ∃ W : Nat → Nat → Hp → Prop, (∃ m, W 0 m (upd H1 D' (.dK []))) ∧ ∀ i m H, W i m H →
      (J.stop i H ∧ Qd H) ∨ (J.go i H ∧ ∃ Nx : Hp → Prop, (∀ H', Nx H' → ∃ m', m' < m ∧ W (i + 1) m' H') ∧ ∀ x H', J.yld i H x H' → gT G.K t x (L2.wipe σ vs) H' fun σ2 H2 => L2.wipe σ2 vs = L2.wipe σ vs ∧ rdTs G Φ γ W0 mi σ2 H2 fun b H3 =>
        if b = true then rdE G Φ γ W0 mk σ2 H3 fun y H4 => rdE G Φ γ W0 mv σ2 H4 fun z H5 => ∃ kvs k, y = kV k ∧ H5 D' = some (.dK kvs) ∧ kvs.length < sizeLine ∧ Nx (upd H5 D' (.dK (putK kvs k z))) else Nx H3) := by
  have Rs := (R1.lock ls).wipe vs
  refine ⟨fun i m H => ∃ F e kvs ws, m = ds.length - i ∧ i ≤ ds.length ∧ Pst G F1 H1 (wipeS (lockAll ls env1) vs) (L2.wipe σ vs) F H (wipeS e vs) (L2.wipe σ vs) ∧ H D' = some (.dK kvs) ∧ relFs G F H ws (kvs.map (·.2)) ∧ ¬ F D' ∧ ¬ Ml (wipeS e vs) (L2.wipe σ vs) D' ∧ e.length = env1.length ∧
    dcGo (asgW vs t) (evTs Φ γ mi) (ev Φ γ mk) (ev Φ γ mv) (ds.drop i) e (kvs.map fun p => kD p.1) ws = rl, ⟨ds.length, F1, lockAll ls env1, [], [], by simp, Nat.zero_le _, Pst.grow Rs (grow_new hD), upd_same, by simp only [List.map_nil, relFs], fun z => R1.fin _ z hD, fun z => Rs.there z hD, lockAll_length _ _, by simpa using hrl⟩, ?_⟩
  rintro i m H ⟨F, e, kvs, ws, rfl, hi, P, hH, hr, nF, nM, hlen, hgo⟩
  have E0 : Ext (Mo (lockAll ls env1) σ) F1 H1 F H := P.ext.weak fun a => Mo_wipe
  have hDn : H D' ≠ none := by rw [hH]; exact fun z => nomatch z
  by_cases hlt : i < ds.length
  · have hd : ds[i]? = some ds[i] := List.getElem?_eq_getElem hlt
    obtain ⟨hgoJ, hyld⟩ := (hJ F H E0 hDn i).2 _ hd
    refine .inr ⟨hgoJ, fun H' => ∃ F e kvs ws, i + 1 ≤ ds.length ∧ Pst G F1 H1 (wipeS (lockAll ls env1) vs) (L2.wipe σ vs) F H' (wipeS e vs) (L2.wipe σ vs) ∧ H' D' = some (.dK kvs) ∧ relFs G F H' ws (kvs.map (·.2)) ∧ ¬ F D' ∧ ¬ Ml (wipeS e vs) (L2.wipe σ vs) D' ∧ e.length = env1.length ∧
      dcGo (asgW vs t) (evTs Φ γ mi) (ev Φ γ mk) (ev Φ γ mv) (ds.drop (i + 1)) e (kvs.map fun p => kD p.1) ws = rl, fun H' ⟨F, e, kvs, ws, h1, h2⟩ => ⟨ds.length - (i + 1), by omega, F, e, kvs, ws, rfl, h1, h2⟩, fun x H' hy => ?_⟩
    obtain ⟨g1, rx⟩ := hyld x H' hy
    rw [List.drop_eq_getElem_cons hlt, dcGo] at hgo
    cases ha : asgW vs t ds[i] e with
    | none => rw [ha] at hgo; simp only [onD] at hgo; exact absurd hgo.symm hne
    | some ea =>
      rw [ha] at hgo
      simp only [onD] at hgo
      have P1 := P.trans (Pst.grow P.rel g1)
      have hD1 : H' D' = some (.dK kvs) := g1 _ _ hH
      have hr1 := relFs_grow g1 hr
      refine gT_ok t _ x _ ea _ _ ha P1.rel rx fun σ2 P2 k2 => ?_
      have hw : L2.wipe σ2 vs = L2.wipe σ vs := (wipe_kept k2 hv).trans wipe_wipe
      refine ⟨hw, F, ea, P2.rel, ?_⟩
      have nM2 : ¬ Ml ea σ2 D' := fun z => (P2.mo _ z).elim nM fun q => by rw [hD1] at q; cases q
      have P12 := P1.trans P2
      cases ht : evTs Φ γ mi ea with
      | st => rw [ht] at hgo; exact absurd hgo.symm hne
      | ex x e2 => rw [ht] at hgo; exact absurd hgo.symm hne
      | ok b e2 =>
        rw [ht] at hgo
        simp only [RT.bdD] at hgo
        intro F3 H3 P3
        have keepX : ∀ {F3 : Addr → Prop} {H2 H3 : Hp} {F2 : Addr → Prop} {e2 e3 : Env} {ys : List (Key × V)}, Pst G F2 H2 e2 σ2 F3 H3 e3 σ2 → H2 D' = some (.dK ys) → ¬ F2 D' → ¬ Ml e2 σ2 D' → H3 D' = some (.dK ys) ∧ ¬ F3 D' ∧ ¬ Ml e3 σ2 D' := fun p h1 h2 h3 =>
          ⟨p.ext.frm _ _ h1 fun z => h3 z.ml, fun z => (p.ext.new _ z).elim h2 fun q => q.elim (fun z => h3 z.ml) (fun z => by rw [h1] at z; cases z),
            fun z => (p.mo _ z).elim h3 fun q => by rw [h1] at q; cases q⟩
        obtain ⟨hD3, nF3, nM3⟩ := keepX P3 hD1 nF nM2
        have hr3 : relFs G F3 H3 ws (kvs.map (·.2)) := relFs_ext P3.ext P2.rel.apart _ _ hr1
        have len2 : e2.length = env1.length := by
          have h1 := P3.rel.len
          have h2 := k2.1
          have h3 := P.rel.len
          rw [wipeS_length] at h3
          omega
        have toW : ∀ {F4 : Addr → Prop} {H4 : Hp} {e4 : Env}, Pst G F1 H1 (wipeS (lockAll ls env1) vs) (L2.wipe σ vs) F4 H4 e4 σ2 → Pst G F1 H1 (wipeS (lockAll ls env1) vs) (L2.wipe σ vs) F4 H4 (wipeS e4 vs) (L2.wipe σ vs) := fun p => by
          have := p.wiped vs
          rw [hw] at this
          exact this
        have nMw : ∀ {e4 : Env}, ¬ Ml e4 σ2 D' → ¬ Ml (wipeS e4 vs) (L2.wipe σ vs) D' := fun n z => by
          rw [← hw] at z
          obtain ⟨j, h1, h2⟩ := z
          rw [wipeS_get] at h1
          split at h1
          · cases h1
          · rename_i hj
            rw [wipe_get, if_neg hj] at h2
            exact n ⟨j, h1, h2⟩
        cases b with
        | false =>
          rw [if_neg Bool.false_ne_true] at hgo ⊢
          exact ⟨F3, e2, kvs, ws, hlt, toW (P12.trans P3), hD3, hr3, nF3, nMw nM3, len2, hgo⟩
        | true =>
          rw [if_pos rfl] at hgo ⊢
          refine ⟨F3, e2, P3.rel, ?_⟩
          cases hk : ev Φ γ mk e2 with
          | st => rw [hk] at hgo; exact absurd hgo.symm hne
          | ex x e3 => rw [hk] at hgo; exact absurd hgo.symm hne
          | ok fk y e3 =>
            rw [hk] at hgo
            simp only [RE.bdD] at hgo
            intro F4 H4 vy P4 v4 n4
            obtain ⟨hD4, nF4, nM4⟩ := keepX P4 hD3 nF3 nM3
            have hr4 : relFs G F4 H4 ws (kvs.map (·.2)) := relFs_ext P4.ext P3.rel.apart _ _ hr3
            refine ⟨F4, e3, P4.rel, ?_⟩
            have hgo1 : ((ev Φ γ mv e3).bdD fun fv v e4 => keepD fv (if leafOk y (kvs.map fun p => kD p.1) && decide ((kvs.map fun p => kD p.1).length < sizeLine) then dcGo (asgW vs t) (evTs Φ γ mi) (ev Φ γ mk) (ev Φ γ mv) (ds.drop (i + 1)) e4 (dPut y v (kvs.map fun p => kD p.1) ws).1 (dPut y v (kvs.map fun p => kD p.1) ws).2 else .st)) = rl ∧ ∀ j, fk ≠ .pl j := by
              cases fk with
              | fr => exact ⟨hgo, fun j z => by cases z⟩
              | ow => exact ⟨hgo, fun j z => by cases z⟩
              | pl j => exact absurd hgo.symm hne
            obtain ⟨hgo, hfk⟩ := hgo1
            cases he : ev Φ γ mv e3 with
            | st => rw [he] at hgo; exact absurd hgo.symm hne
            | ex x e4 => rw [he] at hgo; exact absurd hgo.symm hne
            | ok f w e4 =>
              rw [he] at hgo
              simp only [RE.bdD] at hgo
              intro F5 H5 v P5 v5 n5
              obtain ⟨hD5, nF5, nM5⟩ := keepX P5 hD4 nF4 nM4
              have hr5 : relFs G F5 H5 ws (kvs.map (·.2)) := relFs_ext P5.ext P4.rel.apart _ _ hr4
              have P123 := P12.trans P3
              have P1234 := P123.trans P4
              have P5' := P1234.trans P5
              have main : ∃ F6, Pst G F1 H1 (wipeS (lockAll ls env1) vs) (L2.wipe σ vs) F6 H5 e4 σ2 ∧ ¬ F6 D' ∧ relF G F6 H5 w v ∧ relFs G F6 H5 ws (kvs.map (·.2)) ∧ (if leafOk y (kvs.map fun p => kD p.1) && decide ((kvs.map fun p => kD p.1).length < sizeLine) then dcGo (asgW vs t) (evTs Φ γ mi) (ev Φ γ mk) (ev Φ γ mv) (ds.drop (i + 1)) e4 (dPut y w (kvs.map fun p => kD p.1) ws).1 (dPut y w (kvs.map fun p => kD p.1) ws).2 else .st) = rl := by
                cases f with
                | fr => exact ⟨F5, P5', nF5, v5, hr5, hgo⟩
                | ow =>
                  obtain ⟨a, ea, k1, k2, k3⟩ := v5
                  have hn : H4 a = none := n5 rfl a ea
                  have aD : D' ≠ a := fun z => by rw [← z, hD4] at hn; cases hn
                  refine ⟨fun b => F5 b ∨ b = a, P5'.freeze fun b hb => ?_, fun z => z.elim nF5 aD, by rw [ea]; exact relF_of_relO (relO_sub (fun _ z => .inl z) k3) (.inr rfl), relFs_sub (fun _ z => .inl z) _ _ hr5, hgo⟩
                  rw [hb]
                  obtain ⟨⟨o, ho⟩, _⟩ := relO_there k3
                  exact ⟨k2, by rw [ho]; exact (fun z => nomatch z), .inr (P1234.ext.alive a hn)⟩
                | pl j => exact absurd hgo.symm hne
              obtain ⟨F6, P6, nF6, ry, hr6, hgo6⟩ := main
              split at hgo6
              · rename_i hz
                rw [Bool.and_eq_true, decide_eq_true_eq, List.length_map] at hz
                obtain ⟨kk, rfl⟩ := leaf_inv (Bool.and_eq_true _ _ |>.mp hz.1).1
                have hy : vy = kV kk := by
                  cases fk with
                  | fr => exact relF_kD v4
                  | ow =>
                    obtain ⟨a, _, _, _, k3⟩ := v4
                    cases kk <;> exact k3.elim
                  | pl j => exact absurd rfl (hfk j)
                refine ⟨kvs, kk, hy, hD5, hz.2, ?_⟩
                obtain ⟨P7, up⟩ := Pst.scratch (o' := .dK (putK kvs kk v)) P6 hD nF6 nM5 hD5 (fun xs z => nomatch z) (fun u w z => nomatch z)
                have len4 : e4.length = env1.length := by
                  have h1 := P5.rel.len
                  have h2 := P4.rel.len
                  have h3 := P3.rel.len
                  omega
                have hw6 : relF G F6 (upd H5 D' (.dK (putK kvs kk v))) w v := by
                  have := up [w] [v] (by simp only [relFs]; exact ⟨_, _, rfl, ry, rfl⟩)
                  simp only [relFs] at this
                  obtain ⟨_, _, e, h, _⟩ := this
                  cases e
                  exact h
                exact ⟨F6, e4, putK kvs kk v, _, hlt, toW P7, upd_same, dPut_vals hw6 (up _ _ hr6), nF6, nMw nM5, len4, by rw [← dPut_keys kk w v kvs ws]; exact hgo6⟩
              · exact absurd hgo6.symm hne
  · have hie : i = ds.length := by omega
    subst hie
    refine .inl ⟨(hJ F H E0 hDn ds.length).1 (Nat.le_refl _), ?_⟩
    rw [List.drop_length, dcGo] at hgo
    exact fin F e kvs ws H hgo.symm P hH hr nF nM
theorem dc_rd {it : It} {t : T} {mi : List E} {mk mv : E} {vs : List Nat} (hv : ∀ j ∈ tvars t, j ∈ vs) {σ : L2.St} {H : Hp} {Q : VK} (h : rdE G Φ γ W (.dc vs t it mi mk mv) σ H Q) : tDc (rdI G Φ γ W it) (gT G.K t) (rdTs G Φ γ W0 mi) (rdE G Φ γ W0 mk) (rdE G Φ γ W0 mv) vs σ H Q := by
  obtain ⟨F, env, R, k⟩ := h
  refine ⟨F, env, R, ?_⟩
  rw [ev] at k
  cases hi : evI Φ γ it env with
  | st => rw [hi] at k; exact k
  | ex x e1 => rw [hi] at k; exact k
  | ok ds ls e1 =>
    rw [hi] at k
    simp only [RI.bd] at k
    intro F1 H1 J p1 hJ D' hD
    generalize hrl : dcGo (asgW vs t) (evTs Φ γ mi) (ev Φ γ mk) (ev Φ γ mv) ds (lockAll ls e1) [] [] = rl at k
    have hne : rl ≠ .st := fun z => by rw [z] at k; exact k
    refine dc_loop p1.rel (fun F2 H2 E _ => hJ.at0 G F2 H2 E) hD hv hrl hne fun F2 e kvs ws H2 hok P hH hr nF nM => ?_
    rw [hok] at k
    simp only [RD.bd] at k
    have hl : e.length = (lockAll ls e1).length := by
      have h1 := P.rel.len
      rw [wipeS_length, wipe_length] at h1
      rw [h1, lockAll_length, p1.rel.len]
    have P2 := Pst.rest (p1.rel.lock ls) P
    rw [restS_wipeS hl] at P2
    have P3 := Pst.unlock p1.rel P2
    refine k F2 H2 _ (p1.trans P3) ⟨D', rfl, nF, fun z => ?_, relO_dct hH hr⟩ fun _ a ea => by cases ea; exact p1.ext.alive D' hD
    obtain ⟨j, h1, h2⟩ := z
    rw [isOwn_unlock, restS_get _ _ hl] at h1
    split at h1
    · rw [isOwn_lock] at h1
      exact p1.rel.there ⟨j, h1, h2⟩ hD
    · rename_i hj
      refine nM ⟨j, ?_, ?_⟩
      · rw [wipeS_get, if_neg hj]; exact h1
      · rw [wipe_get, if_neg hj]; exact h2
/-- name = {..} on one line, the name a local -/
theorem ps_setDc {i : Nat} {y : Str} {py : Pos} {kx vx tg iter : Expr} {ifs : List Expr} {scope : Scope} {own : List (Str × Nat)} {pos spos : Pos} {wi : TI} {g : TG} {tt : TT} {tk tv : TE} (hc : X.calm = true) (hN : X.N.Nodup) (hy : X.N[i]? = some y) (hyl : X.env.scope.names.lookup y = some .local)
    (hsw : swapsWith (.DictComp kx vx [⟨tg, iter, ifs, 0⟩] scope pos) (some (.Name y py)) spos.line X.env = pure true) (hi : PI X tg iter wi) (ok : BlkOk X.N X.env.scope scope own)
    (hg : ∀ (s : Shared) (H : Hp) (C : Addr) (cl : List (Str × Addr)) (fp : List Addr), PG (X.blk s H scope (compEnvC scope cl C X.env) fp) tg g) (ht : ∀ (s : Shared) (H : Hp) (C : Addr) (cl : List (Str × Addr)) (fp : List Addr), PTs (X.blk s H scope (compEnvC scope cl C X.env) fp) ifs tt)
    (hk : ∀ (s : Shared) (H : Hp) (C : Addr) (cl : List (Str × Addr)) (fp : List Addr), PE (X.blk s H scope (compEnvC scope cl C X.env) fp) kx tk)
    (he : ∀ (s : Shared) (H : Hp) (C : Addr) (cl : List (Str × Addr)) (fp : List Addr), PE (X.blk s H scope (compEnvC scope cl C X.env) fp) vx tv) (hs : ∀ x, foldedSetIterable iter X.env x = pure x) :
    PS X (.Assign [.Name y py] (.DictComp kx vx [⟨tg, iter, ifs, 0⟩] scope pos) spos) (tAsg (tDc wi g tt tk tv (own.map (·.2))) (gName i)) := by
  refine ⟨fun pins s σ H D I h => ?_⟩
  rw [exec_Assign_Name_used _ _ _ _ hsw]
  refine wpAny_bind (wpAny_standAt (wpAny_bind ?_))
  show wpAny _ X.A (do let _ ← comprehension (.DictComp kx vx [⟨tg, iter, ifs, 0⟩] scope pos) scope X.env (firstIterPos [⟨tg, iter, ifs, 0⟩] pos) newDict false (eval iter X.env) (some (assign (.Name y py) X.env))) _ _ s
  have h : tDc wi g tt tk tv (own.map (·.2)) σ H (fun x H1 => gName i x σ H1 D.nx) := h
  refine wpAny_bind (thn (dc_core (Qf := fun _ s' => SP X pins D .next s') hc hN I hi ok hg ht hk he hs h fun L C s' m H' I' q hn f => ?_) fun _ s' hq => wpAny_pure (wpAny_pure hq))
  show wpAny _ _ (assign (.Name y py) X.env (.ref L)) _ _ _
  refine wpAny_assign_Name (store_ok2 (v := V.ref L) I' hN hy (.inl hyl) rfl (fun s2 I2 ⟨a, sb, ha⟩ => ?_) (.inr hyl))
  obtain ⟨f0, f1, f2, f3, f4, f5⟩ := f
  have haC : C ≠ a := by
    rcases ha with z | z
    · rw [z]; exact f1
    · exact fun e => f4 y a z e.symm
  refine ⟨m, hn.sameBut sb haC, fun h3 sb3 => ?_⟩
  exact ⟨_, H', I2.turned (t' := s2.toks) (fun b o hb e => (sb3.2 b hb).trans e) f0 f1 f3 f4 f5, q⟩
end
end PF
set_option Elab.async false
set_option linter.all false
set_option maxRecDepth 100000
set_option maxHeartbeats 1000000
namespace PF
open PySem PySem.Spec PyProof.Rows L2
section
variable {K : Type} [DecidableEq K] {P : Program} {w : World} {knd : PySem.KeyKind P w K}
/-- keys and the entries that hold them -/
abbrev Ents (knd : PySem.KeyKind P w K) : List K → List (Int × Value) → Prop := Paired fun k e => knd.is k e.2 = true ∧ e.1 = knd.hash k ∧ e.2.scannable = true
/-- the set at a holds just these keys, each once -/
def KSet (knd : PySem.KeyKind P w K) (h : Heap) (a : Addr) (ks : List K) : Prop :=
  ∃ o es ep t l, h.get? a = some o ∧ o.ExactSet ∧ o.data = .set es ep t ∧ l.Perm es.toList ∧ Ents knd ks l ∧ ks.Nodup ∧ es.size < scanBound ∧ t.fits es.size = true ∧ Ris t.place.toList ∧ (w.params.followText "set-order" = true ∨ t.led = true)
theorem KSet.keep {h h' : Heap} {a : Addr} {ks : List K} (R : KSet knd h a ks) (k : ∀ o, h.get? a = some o → h'.get? a = some o) : KSet knd h' a ks := by
  obtain ⟨o, es, ep, t, l, g, r⟩ := R
  exact ⟨o, es, ep, t, l, k o g, r⟩
theorem ents_len {ks : List K} {l : List (Int × Value)} (h : Ents knd ks l) : ks.length = l.length := Paired.length h
theorem ents_elems {ks : List K} {l : List (Int × Value)} (h : Ents knd ks l) : ElemsOf knd l := by
  induction h with
  | nil => intro e he; cases he
  | @cons k e ks l h1 _ ih =>
    intro x hx
    rcases List.mem_cons.mp hx with rfl | hx
    · exact ⟨⟨k, h1.1, h1.2.1⟩, h1.2.2⟩
    · exact ih x hx
theorem ents_mem {ks : List K} {l : List (Int × Value)} (h : Ents knd ks l) (k : K) : (∃ e ∈ l, knd.is k e.2 = true) ↔ k ∈ ks := by
  induction h with
  | nil => simp
  | @cons k' e ks l h1 _ ih =>
    rw [List.mem_cons, ← ih]
    constructor
    · rintro ⟨x, hx, hk⟩
      rcases List.mem_cons.mp hx with rfl | hx
      · exact .inl (knd.inj _ _ _ hk h1.1)
      · exact .inr ⟨x, hx, hk⟩
    · rintro (rfl | ⟨x, hx, hk⟩)
      · exact ⟨e, List.mem_cons_self .., h1.1⟩
      · exact ⟨x, List.mem_cons_of_mem _ hx, hk⟩
variable {A : Around} {E : Value → Shared → Prop} {s : Shared} {a : Addr} {ks : List K}
/-- the table stored, and laid anew where it is too full -/
theorem kset_store {gv : Bool → Sem Unit} (hgv : ∀ (b : Bool) (s₁ : Shared) (Z : Unit → Shared → Prop), Z () s₁ → wpAny (model P w) A (gv b) Z E s₁)
    {o : Obj} {es0 : Array (Int × Value)} {ep : Nat} {t0 : SetTable} (go : s.heap.get? a = some o) (ex : o.ExactSet) (da : o.data = .set es0 ep t0)
    {es : Array (Int × Value)} {t : SetTable} {l : List (Int × Value)} (pm : l.Perm es.toList) (en : Ents knd ks l) (nd : ks.Nodup) (sb : es.size < scanBound) (ft : t.fits es.size = true) (ri : Ris t.place.toList)
    (le : w.params.followText "set-order" = true ∨ t.led = true) {dm : Bool} {Z : Option Bool → Shared → Prop} (hZ : ∀ h', Heap.SameBut a s.heap h' → KSet knd h' a ks → Z (some true) { s with heap := h' }) :
    wpAny (model P w) A (storeSet a es t) (fun _ s1 => wpAny (model P w) A (if (!dm && t.tooFull) = true then (gv (relayAll t es (SetTable.grown es.size)).2.2 >>= fun _ => storeSet a (relayAll t es (SetTable.grown es.size)).1 (relayAll t es (SetTable.grown es.size)).2.1 >>= fun _ => pure (some true)) else pure (some true)) Z E s1) E s := by
  refine wpAny_storeSet_of go da ?_ (fits_of_scanBound sb)
  have g1 := store_at (es' := es) (t' := t) go da
  have b1 := Heap.SameBut.update s.heap a (Obj.putSet es t)
  by_cases full : (!dm && t.tooFull) = true
  · rw [if_pos full]
    have q1 := relayAll_perm t es (SetTable.grown es.size)
    have q2 := relayAll_fits t es (SetTable.grown es.size)
    have q3 := relayAll_ris t es (SetTable.grown es.size)
    have q4 := relayAll_led t es (SetTable.grown es.size)
    generalize relayAll t es (SetTable.grown es.size) = Y at q1 q2 q3 q4 ⊢
    obtain ⟨es2, t2, gave⟩ := Y
    dsimp only at q1 q2 q3 q4 ⊢
    have z2 : es2.size = es.size := by rw [← Array.length_toList, q1.length_eq, Array.length_toList]
    have sb2 : es2.size < scanBound := by rw [z2]; exact sb
    refine wpAny_bind (hgv _ _ _ (wpAny_bind (wpAny_storeSet_of g1 rfl ?_ (fits_of_scanBound sb2))))
    have g2 := store_at (es' := es2) (t' := t2) g1 rfl
    exact wpAny_pure (hZ _ (b1.trans (Heap.SameBut.update _ a _)) ⟨_, es2, _, t2, l, g2, ex, rfl, pm.trans q1.symm, en, nd, sb2, q2, q3, le.imp id fun z => by rw [q4]; exact z⟩)
  · rw [if_neg full]
    exact wpAny_pure (hZ _ b1 ⟨_, es, _, t, l, g1, ex, rfl, pm, en, nd, sb, ft, ri, le⟩)
/-- a key put in -/
theorem kset_add {k : K} {u : Value} {Z : Bool → Shared → Prop} (R : KSet knd s.heap a ks) (hk : knd.is k u = true) (hu : u.scannable = true) (room : ks.length + 1 < scanBound)
    (hZ : ∀ h', Heap.SameBut a s.heap h' → KSet knd h' a (if k ∈ ks then ks else k :: ks) → Z (!decide (k ∈ ks)) { s with heap := h' }) : wpAny (model P w) A (setAddHashed a u (knd.hash k)) Z E s := by
  obtain ⟨o, es, ep, t, l, go, ex, da, pm, en, nd, sb, ft, ri, le⟩ := R
  have el : ElemsOf knd es.toList := (ents_elems en).perm pm.symm
  have mem : (∃ e ∈ es.toList, knd.is k e.2 = true) ↔ k ∈ ks := by
    rw [← ents_mem en k]
    exact ⟨fun ⟨e, h1, h2⟩ => ⟨e, pm.mem_iff.mpr h1, h2⟩, fun ⟨e, h1, h2⟩ => ⟨e, pm.mem_iff.mp h1, h2⟩⟩
  unfold setAddHashed setAddHashedIn
  refine wpAny_holding (wpAny_bind (wpAny_setState_of go da ft ?_))
  dsimp only
  rw [byScan_of hu sb el]
  simp only [↓reduceIte]
  unfold setAddByScan
  refine wpAny_bind (wpAny_bind (wpAny_rule (wpAny_bind (wpAny_setScan_of hk go da ft el ?_))))
  cases fi : List.findIdx? (fun e => knd.is k e.2) es.toList with
  | some j =>
    dsimp only
    obtain ⟨hj, pj, _⟩ := List.findIdx?_eq_some_iff_getElem.mp fi
    have hin : k ∈ ks := mem.mp ⟨es.toList[j], List.getElem_mem hj, pj⟩
    have q := hZ s.heap (Heap.SameBut.refl a s.heap) (by rw [if_pos hin]; exact ⟨o, es, ep, t, l, go, ex, da, pm, en, nd, sb, ft, ri, le⟩)
    rw [decide_eq_true hin] at q
    exact wpAny_pure (wpAny_pure q)
  | none =>
    dsimp only
    have hno : k ∉ ks := fun z => by
      obtain ⟨e, h1, h2⟩ := mem.mpr z
      have := List.findIdx?_eq_none_iff.mp fi e h1
      rw [h2] at this
      cases this
    have q1 := layNew_perm t es (knd.hash k) u
    have q2 := layNew_fits t es (knd.hash k) u
    have q3 := layNew_ris t es (knd.hash k) u ri
    have q4 := layNew_led t es (knd.hash k) u
    generalize layNew t es (knd.hash k) u = Y at q1 q2 q3 q4 ⊢
    obtain ⟨es1, t1, dm, gave⟩ := Y
    dsimp only at q1 q2 q3 q4 ⊢
    rw [Array.toList_push] at q1
    have pm1 : ((knd.hash k, u) :: l).Perm es1.toList := ((List.Perm.cons _ pm).trans (List.perm_append_singleton _ _).symm).trans q1.symm
    have en1 : Ents knd (k :: ks) ((knd.hash k, u) :: l) := .cons ⟨hk, rfl, hu⟩ en
    have nd1 : (k :: ks).Nodup := List.nodup_cons.mpr ⟨hno, nd⟩
    have z1 : es1.size = ks.length + 1 := by rw [← Array.length_toList, ← pm1.length_eq, List.length_cons, ents_len en]
    have le1 : w.params.followText "set-order" = true ∨ t1.led = true := le.imp id fun z => by rw [q4]; exact z
    have fin : ∀ h', Heap.SameBut a s.heap h' → KSet knd h' a (k :: ks) → Z true { s with heap := h' } := fun h' b r => by
      have q := hZ h' b (by rw [if_neg hno]; exact r)
      rwa [decide_eq_false hno] at q
    have hgv : ∀ (b : Bool) (s₁ : Shared) (W : Unit → Shared → Prop), W () s₁ → wpAny (model P w) A (match b with | true => rule "set.scan.the-table-gave-way" | false => pure ()) W E s₁ := by
      intro b s₁ W q
      cases b with
      | false => exact wpAny_pure q
      | true => exact wpAny_rule q
    have sb1 : es1.size < scanBound := by omega
    refine wpAny_bind (hgv _ _ _ ?_)
    split
    · refine wpAny_bind ?_
      rw [hashByValue_scannable 8 hu]
      refine wpAny_pure (wpAny_bind ?_)
      refine kset_store (gv := _) ?_ go ex da pm1 en1 nd1 sb1 ?_ ?_ ?_ ?_
      · intro b s₁ W q
        cases b <;> first | exact wpAny_pure q | exact wpAny_rule q
      · first | exact q2 | (split <;> first | exact q2 | exact SetTable.fits_plain_off q2)
      · first | exact q3 | (split <;> exact q3)
      · first | exact le1 | (split <;> exact le1)
      · intro h' b r
        exact wpAny_pure (fin h' b r)
    · refine wpAny_bind (wpAny_pure (wpAny_bind ?_))
      simp only [↓reduceIte]
      refine kset_store (gv := _) ?_ go ex da pm1 en1 nd1 sb1 q2 q3 le1 ?_
      · intro b s₁ W q
        cases b <;> first | exact wpAny_pure q | exact wpAny_rule q
      intro h' b r
      exact wpAny_pure (fin h' b r)
/-- a set as it is made -/
abbrev bare (w : World) : Obj := { cls := .type "set", dict := none, data := .set #[] 0 (.fresh 0 0 (!w.params.followText "set-order")) }
theorem kset_bare {h : Heap} (g : h.get? a = some (bare w)) : KSet knd h a [] :=
  ⟨_, #[], 0, _, [], g, ⟨rfl, rfl, rfl⟩, rfl, .refl _, .nil, .nil, by decide, by rfl, List.Pairwise.nil, by
    show _ ∨ (!w.params.followText "set-order") = true
    cases w.params.followText "set-order"
    · exact .inr rfl
    · exact .inl rfl⟩
/-- what is walked, put in one by one -/
theorem kset_loop {I : Addr} {fp wr : List Addr} {Gr : Array GenState → Array GenState → Prop} {n : Nat} {Pv : Nat → Value → Prop} {St : Nat → Shared → Prop} {R : Result → Shared → Prop}
    (W : WalksS P w A.in1 I fp wr Gr n Pv St) (S : Addr) (sf : S ∉ fp) (ks0 : List K) (hn : n = ks0.length) (room : ks0.length + 1 < scanBound) (hv : ∀ i v, Pv i v → ∃ k, ks0[i]? = some k ∧ knd.is k v = true ∧ v.scannable = true) :
    ∀ (m i : Nat) (s : Shared), n - i = m → i ≤ n → St i s → (∃ ks, (∀ x, x ∈ ks ↔ x ∈ ks0.take i) ∧ ks.length ≤ i ∧ KSet knd s.heap S ks) →
      (∀ t ks, Moved (S :: wr) Gr s t → (∀ x, x ∈ ks ↔ x ∈ ks0) → ks.length ≤ n → KSet knd t.heap S ks → R (.ok (.ret .none)) t) →
      codeAny (model P w) A (.builtin "set.update.loop" ⟨[.ref S, .ref I], []⟩) R s := by
  have sw : S ∉ wr := fun z => sf (W.sub _ z)
  have up : ∀ b ∈ wr, b ∈ S :: wr := fun b z => .tail _ z
  intro m
  induction m with
  | zero =>
    intro i s hm hi st ⟨ks, h1, h2, h3⟩ hR
    obtain rfl : i = n := by omega
    refine codeAny_builtin PyProof.Rows.F.entry_set_update_loop ?_
    rw [Around.under_plainId PyProof.Rows.F.plain_set_update_loop _]
    show wpAny _ A.in1 (pyNext (.ref I) >>= _) _ _ s
    refine wpAny_bind (W.done s _ _ st fun t mv => ?_)
    show wpAny _ A.in1 (ret Value.none) _ _ t
    rw [List.take_of_length_le (by omega)] at h1
    exact wpAny_pure (hR t ks (mv.mono up) h1 h2 (h3.keep fun o e => mv.heap S o sw e))
  | succ m ih =>
    intro i s hm hi st ⟨ks, h1, h2, h3⟩ hR
    have lt : i < n := by omega
    refine codeAny_builtin PyProof.Rows.F.entry_set_update_loop ?_
    rw [Around.under_plainId PyProof.Rows.F.plain_set_update_loop _]
    show wpAny _ A.in1 (pyNext (.ref I) >>= _) _ _ s
    refine wpAny_bind (W.item i s _ _ lt st fun v t pv st1 mv => ?_)
    obtain ⟨k, hk, isk, sc⟩ := hv i v pv
    have h4 : KSet knd t.heap S ks := h3.keep fun o e => mv.heap S o sw e
    show wpAny _ A.in1 (holding [v] (setAdd S v) >>= _) _ _ t
    refine wpAny_bind (wpAny_holding ?_)
    unfold setAdd
    refine wpAny_holding (wpAny_bind (knd.pyHash isk ?_))
    refine kset_add (s := { t with toks := t.toks + 1 }) h4 isk sc (by omega) fun h' sb r => ?_
    have memb : ∀ x, x ∈ (if k ∈ ks then ks else k :: ks) ↔ x ∈ ks0.take (i + 1) := by
      intro x
      rw [List.take_add_one, hk, List.mem_append, ← h1]
      split
      · rename_i z
        simp only [Option.toList, List.mem_singleton]
        exact ⟨.inl, fun q => q.elim id fun e => e ▸ z⟩
      · simp only [Option.toList, List.mem_singleton]
        rw [List.mem_cons]
        exact Or.comm
    have leng : (if k ∈ ks then ks else k :: ks).length ≤ i + 1 := by
      split
      · omega
      · rw [List.length_cons]; omega
    refine wpAny_pure ⟨plainId_quiet PyProof.Rows.F.plain_set_update_loop _, ih (i + 1) _ (by omega) lt (W.frame _ t _ _ st1 (Nat.le_succ _) fun b hb o e => ?_) ⟨_, memb, leng, r⟩ fun t2 ks2 mv2 g1 g2 g3 => ?_⟩
    · exact (sb.2 b fun z => sf (z ▸ hb)).trans e
    · refine hR t2 ks2 (Moved.trans W.gtrans ((mv.mono up).then_heap (Nat.le_succ _) fun b o hb e => ?_) mv2) g1 g2 g3
      exact (sb.2 b fun z => hb (z ▸ List.mem_cons_self)).trans e
set_option maxHeartbeats 3200000 in
theorem kset_list {l : Addr} {its : Array Value} (ks0 : List K) {Q : Value → Shared → Prop} (hh : A.handled = none) (hl : s.heap.IsList l its) (hz : its.size = ks0.length) (hi : ∀ (i : Nat) (v : Value), its[i]? = some v → ∃ k, ks0[i]? = some k ∧ knd.is k v = true ∧ v.scannable = true) (room : ks0.length + 1 < scanBound)
    (fin : ∀ h' tk ks, KSet knd h' s.heap.objs.size ks → (∀ x, x ∈ ks ↔ x ∈ ks0) → ks.length ≤ ks0.length → (∀ b o, s.heap.get? b = some o → h'.get? b = some o) → Q (.ref s.heap.objs.size) { s with heap := h', toks := tk }) :
    wpAny (model P w) A (call (.type "set") [.ref l]) Q E s := by
  obtain ⟨mc, mt, hmro⟩ := PySem.F.called_set.mro
  have m1 := PySem.F.called_set.made
  have m2 := PySem.F.called_set.sub
  refine wpAny_call (codeAny_of_tree ?_)
  show wpAny _ _ (callAny (.type "set") _) _ _ _
  refine wpAny_pure ⟨Code.quiet_builtin _ (by decide +kernel), codeAny_builtin PySem.F.entry_type_call ?_⟩
  rw [Around.under_plain (weight_type_call_type "set" [.ref l] []) rfl]
  have m3 := PySem.F.called_set.notType
  have m4 := PySem.F.called_set.canCreate
  have m5 := PySem.F.typeCall_set_1 (.ref l)
  repeat (any_goals (first | assumption | wp_step))
  refine codeAny_mono (code_set_led1 (.ref l) (E := E) (Q₁ := fun v t => v = .ref s.heap.objs.size ∧ t = { s with heap := s.heap.push (bare w) }) ⟨rfl, rfl⟩) fun r1 t1 q1 => ?_
  cases r1 with
  | error e => exact q1
  | ok f1 =>
    cases f1 with
    | ret v1 =>
      obtain ⟨rfl, rfl⟩ := q1
      have g1 : (s.heap.push (bare w)).get? s.heap.objs.size = some (bare w) := Heap.get?_push_size _ rfl
      have ty : Shared.TypeIs { s with heap := s.heap.push (bare w) } (.ref s.heap.objs.size) "set" := ⟨_, g1, rfl⟩
      have m6 := PySem.F.called_set.init.lookup
      have m7 := PySem.F.called_set.init.bind (.ref s.heap.objs.size)
      repeat (any_goals (first | assumption | wp_step))
      refine codeAny_mono (codeAny_call_builtin (R := wants (fun r t => r = .none ∧ ∃ h' tk ks, t = { s with heap := h', toks := tk } ∧ KSet knd h' s.heap.objs.size ks ∧ (∀ x, x ∈ ks ↔ x ∈ ks0) ∧ ks.length ≤ ks0.length ∧ (∀ b o, s.heap.get? b = some o → h'.get? b = some o)) E) PySem.F.called_set.init.plain PySem.F.entry_set_init (check_set_init_1 ty ?_)) fun r2 t2 q2 => ?_
      · obtain ⟨⟨oc, od, oda, os⟩, go, rfl, nl, rfl⟩ := hl
        have go1 : (s.heap.push (bare w)).get? l = some { cls := .type "list", dict := od, data := .seq its nl, slots := os } := Heap.get?_push_of_some _ go
        have d1 := PySem.F.sub_list_set
        have d2 := PySem.F.sub_list_frozenset
        have d3 : (Value.type "list" == Value.type "dict") = false := by decide
        have l1 : (s.heap.push (bare w)).IsList l its := ⟨_, go1, rfl, nl, rfl⟩
        unfold Builtin.«set.__init__» noKeywords Builtin.Frozenset.updateFrom
        generalize hPI : pyIter = PI
        wp_walk
        subst hPI
        refine wpAny_pyIter_list l1 (wpAny_bind (wpAny_runValue ?_))
        have z1 : (s.heap.push (bare w)).objs.size = s.heap.objs.size + 1 := Heap.size_push ..
        have lt := Heap.lt_size go
        have n1 : l ≠ (s.heap.push (bare w)).objs.size := by
          rw [z1]
          exact Nat.ne_of_lt (Nat.lt_succ_of_lt lt)
        have n2 : s.heap.objs.size ∉ [(s.heap.push (bare w)).objs.size, l] := by
          rw [z1]
          simp only [List.mem_cons, List.not_mem_nil, or_false, not_or]
          exact ⟨Nat.ne_of_lt (Nat.lt_succ_self _), Nat.ne_of_gt lt⟩
        refine kset_loop ((Walks.list (by simp [hh]) _ l n1 its).toS) s.heap.objs.size n2 ks0 hz room hi (its.size - 0) 0 _ (by omega) (Nat.zero_le _) ⟨⟨_, Heap.get?_push_size _ rfl, rfl, rfl⟩, l1.push _⟩ ?first ?last
        case first =>
          refine ⟨[], ?_, Nat.le_refl 0, kset_bare (Heap.get?_push_of_some _ g1)⟩
          intro x
          simp
        case last =>
          intro t ks mv hm hlen hK
          obtain ⟨h', g2, d', tk', os'⟩ := t
          have eg : g2 = s.gens := mv.gens
          have ed : d' = s.drawn := mv.drawn
          have eo : os' = s.os := mv.os
          subst eg ed eo
          show wpAny _ _ _ _ _ _
          refine wpAny_pure ?_
          show wpAny _ _ (ret Value.none) _ _ _
          rw [hz] at hlen
          refine wpAny_pure ⟨rfl, h', tk', ks, rfl, hK, hm, hlen, fun b o e => ?_⟩
          have lb := Heap.lt_size e
          refine mv.heap b o ?_ (Heap.get?_push_of_some _ (Heap.get?_push_of_some _ e))
          rw [z1]
          simp only [List.mem_cons, List.not_mem_nil, or_false, not_or]
          exact ⟨Nat.ne_of_lt lb, Nat.ne_of_lt (Nat.lt_succ_of_lt lb)⟩
      · cases r2 with
        | error e => exact q2
        | ok f2 =>
          cases f2 with
          | ret r =>
            obtain ⟨rfl, h', tk, ks, rfl, hK, hm, hlen, kp⟩ := q2
            repeat (any_goals (first | assumption | wp_step))
            exact fin _ _ _ hK hm hlen kp
          | _ => exact q2.elim
    | _ => exact q1.elim
set_option maxHeartbeats 3200000 in
theorem kset_tuple {l : Addr} {its : Array Value} (ks0 : List K) {Q : Value → Shared → Prop} (hh : A.handled = none) (hl : s.heap.IsTuple l its) (hz : its.size = ks0.length) (hi : ∀ (i : Nat) (v : Value), its[i]? = some v → ∃ k, ks0[i]? = some k ∧ knd.is k v = true ∧ v.scannable = true) (room : ks0.length + 1 < scanBound)
    (fin : ∀ h' tk ks, KSet knd h' s.heap.objs.size ks → (∀ x, x ∈ ks ↔ x ∈ ks0) → ks.length ≤ ks0.length → (∀ b o, s.heap.get? b = some o → h'.get? b = some o) → Q (.ref s.heap.objs.size) { s with heap := h', toks := tk }) :
    wpAny (model P w) A (call (.type "set") [.ref l]) Q E s := by
  obtain ⟨mc, mt, hmro⟩ := PySem.F.called_set.mro
  have m1 := PySem.F.called_set.made
  have m2 := PySem.F.called_set.sub
  refine wpAny_call (codeAny_of_tree ?_)
  show wpAny _ _ (callAny (.type "set") _) _ _ _
  refine wpAny_pure ⟨Code.quiet_builtin _ (by decide +kernel), codeAny_builtin PySem.F.entry_type_call ?_⟩
  rw [Around.under_plain (weight_type_call_type "set" [.ref l] []) rfl]
  have m3 := PySem.F.called_set.notType
  have m4 := PySem.F.called_set.canCreate
  have m5 := PySem.F.typeCall_set_1 (.ref l)
  repeat (any_goals (first | assumption | wp_step))
  refine codeAny_mono (code_set_led1 (.ref l) (E := E) (Q₁ := fun v t => v = .ref s.heap.objs.size ∧ t = { s with heap := s.heap.push (bare w) }) ⟨rfl, rfl⟩) fun r1 t1 q1 => ?_
  cases r1 with
  | error e => exact q1
  | ok f1 =>
    cases f1 with
    | ret v1 =>
      obtain ⟨rfl, rfl⟩ := q1
      have g1 : (s.heap.push (bare w)).get? s.heap.objs.size = some (bare w) := Heap.get?_push_size _ rfl
      have ty : Shared.TypeIs { s with heap := s.heap.push (bare w) } (.ref s.heap.objs.size) "set" := ⟨_, g1, rfl⟩
      have m6 := PySem.F.called_set.init.lookup
      have m7 := PySem.F.called_set.init.bind (.ref s.heap.objs.size)
      repeat (any_goals (first | assumption | wp_step))
      refine codeAny_mono (codeAny_call_builtin (R := wants (fun r t => r = .none ∧ ∃ h' tk ks, t = { s with heap := h', toks := tk } ∧ KSet knd h' s.heap.objs.size ks ∧ (∀ x, x ∈ ks ↔ x ∈ ks0) ∧ ks.length ≤ ks0.length ∧ (∀ b o, s.heap.get? b = some o → h'.get? b = some o)) E) PySem.F.called_set.init.plain PySem.F.entry_set_init (check_set_init_1 ty ?_)) fun r2 t2 q2 => ?_
      · obtain ⟨⟨oc, od, oda, os⟩, go, rfl, nl, rfl⟩ := hl
        have go1 : (s.heap.push (bare w)).get? l = some { cls := .type "tuple", dict := od, data := .seq its nl, slots := os } := Heap.get?_push_of_some _ go
        have d1 := PySem.F.sub_tuple_set
        have d2 := PySem.F.sub_tuple_frozenset
        have d3 : (Value.type "tuple" == Value.type "dict") = false := by decide
        have l1 : (s.heap.push (bare w)).IsTuple l its := ⟨_, go1, rfl, nl, rfl⟩
        unfold Builtin.«set.__init__» noKeywords Builtin.Frozenset.updateFrom
        generalize hPI : pyIter = PI
        wp_walk
        subst hPI
        refine wpAny_pyIter_tuple l1 (wpAny_bind (wpAny_runValue ?_))
        have z1 : (s.heap.push (bare w)).objs.size = s.heap.objs.size + 1 := Heap.size_push ..
        have lt := Heap.lt_size go
        have n1 : l ≠ (s.heap.push (bare w)).objs.size := by
          rw [z1]
          exact Nat.ne_of_lt (Nat.lt_succ_of_lt lt)
        have n2 : s.heap.objs.size ∉ [(s.heap.push (bare w)).objs.size, l] := by
          rw [z1]
          simp only [List.mem_cons, List.not_mem_nil, or_false, not_or]
          exact ⟨Nat.ne_of_lt (Nat.lt_succ_self _), Nat.ne_of_gt lt⟩
        refine kset_loop ((Walks.tuple (by simp [hh]) _ l n1 its).toS) s.heap.objs.size n2 ks0 hz room hi (its.size - 0) 0 _ (by omega) (Nat.zero_le _) ⟨⟨_, Heap.get?_push_size _ rfl, rfl, rfl⟩, l1.push _⟩ ?first ?last
        case first =>
          refine ⟨[], ?_, Nat.le_refl 0, kset_bare (Heap.get?_push_of_some _ g1)⟩
          intro x
          simp
        case last =>
          intro t ks mv hm hlen hK
          obtain ⟨h', g2, d', tk', os'⟩ := t
          have eg : g2 = s.gens := mv.gens
          have ed : d' = s.drawn := mv.drawn
          have eo : os' = s.os := mv.os
          subst eg ed eo
          show wpAny _ _ _ _ _ _
          refine wpAny_pure ?_
          show wpAny _ _ (ret Value.none) _ _ _
          rw [hz] at hlen
          refine wpAny_pure ⟨rfl, h', tk', ks, rfl, hK, hm, hlen, fun b o e => ?_⟩
          have lb := Heap.lt_size e
          refine mv.heap b o ?_ (Heap.get?_push_of_some _ (Heap.get?_push_of_some _ e))
          rw [z1]
          simp only [List.mem_cons, List.not_mem_nil, or_false, not_or]
          exact ⟨Nat.ne_of_lt lb, Nat.ne_of_lt (Nat.lt_succ_of_lt lb)⟩
      · cases r2 with
        | error e => exact q2
        | ok f2 =>
          cases f2 with
          | ret r =>
            obtain ⟨rfl, h', tk, ks, rfl, hK, hm, hlen, kp⟩ := q2
            repeat (any_goals (first | assumption | wp_step))
            exact fin _ _ _ hK hm hlen kp
          | _ => exact q2.elim
    | _ => exact q1.elim
end
end PF
set_option Elab.async false
set_option linter.all false
set_option maxRecDepth 100000
set_option maxHeartbeats 1000000
namespace PF
open PySem PySem.Spec PyProof.Rows L2
theorem firsts_mem {x : D} : ∀ {ds : List D}, x ∈ firsts ds ↔ x ∈ ds
  | [] => Iff.rfl
  | d :: ds => by
    rw [firsts, List.mem_cons, List.mem_filter, firsts_mem (ds := ds), List.mem_cons]
    constructor
    · rintro (h | h)
      · exact .inl h
      · exact .inr h.1
    · rintro (h | h)
      · exact .inl h
      · by_cases e : x = d
        · exact .inl e
        · exact .inr ⟨h, decide_eq_true e⟩
theorem firsts_nodup : ∀ ds : List D, (firsts ds).Nodup
  | [] => .nil
  | d :: ds => by
    rw [firsts, List.nodup_cons]
    refine ⟨fun h => ?_, (firsts_nodup ds).filter _⟩
    have := (List.mem_filter.mp h).2
    simp at this
theorem le_int (a b : Int) : D.le (.int a) (.int b) = decide (a ≤ b) :=
  congrFun (congrFun (W.dataLe_int (β := Int) id) a) b
theorem le_str (a b : Str) : D.le (.str a) (.str b) = decide (a.cps.toList ≤ b.cps.toList) :=
  congrFun (congrFun (W.dataLe_str (β := Str) id) a) b
theorem srt_ints (is : List Int) : srt (is.map .int) = (is.mergeSort fun a b => decide (a ≤ b)).map .int := by
  unfold srt
  exact (List.map_mergeSort fun a _ b _ => by rw [le_int]).symm
theorem srt_strs (xs : List Str) : srt (xs.map .str) = (xs.mergeSort fun a b => decide (a.cps.toList ≤ b.cps.toList)).map .str := by
  unfold srt
  exact (List.map_mergeSort fun a _ b _ => by rw [le_str]).symm
theorem all_ints : ∀ {ds : List D}, (∀ d ∈ ds, isI d = true) → ∃ is : List Int, ds = is.map .int
  | [], _ => ⟨[], rfl⟩
  | d :: ds, h => by
    obtain ⟨is, e⟩ := all_ints fun x hx => h x (.tail _ hx)
    have h1 := h d (.head _)
    cases d <;> first | (cases h1; done) | skip
    exact ⟨_ :: is, by rw [e]; rfl⟩
theorem all_strs : ∀ {ds : List D}, (∀ d ∈ ds, isS d = true) → ∃ xs : List Str, ds = xs.map .str
  | [], _ => ⟨[], rfl⟩
  | d :: ds, h => by
    obtain ⟨is, e⟩ := all_strs fun x hx => h x (.tail _ hx)
    have h1 := h d (.head _)
    cases d <;> first | (cases h1; done) | skip
    exact ⟨_ :: is, by rw [e]; rfl⟩
theorem perm_unmap {α β : Type} {f : α → β} (hf : ∀ a b, f a = f b → a = b) [DecidableEq α] [DecidableEq β] {l m : List α} (h : (l.map f).Perm (m.map f)) : l.Perm m := by
  rw [List.perm_iff_count] at h ⊢
  intro a
  have e : ∀ l : List α, (l.map f).count (f a) = l.count a := by
    intro l
    induction l with
    | nil => rfl
    | cons x l ih =>
      rw [List.map_cons, List.count_cons, List.count_cons, ih]
      by_cases c : x = a
      · rw [c]; simp
      · have : ¬ f x = f a := fun z => c (hf _ _ z)
        simp [c, this]
  rw [← e l, ← e m]
  exact h _
theorem str_toList {a b : Str} (h : a.cps.toList = b.cps.toList) : a = b := by
  cases a; cases b
  congr 1
  exact Array.toList_inj.mp h
/-- what is put in order is the same from any order -/
theorem srt_perm {ds es : List D} (p : ds.Perm es) (h : (∀ d ∈ ds, isI d = true) ∨ ∀ d ∈ ds, isS d = true) : srt ds = srt es := by
  rcases h with h | h
  · obtain ⟨is, rfl⟩ := all_ints h
    obtain ⟨js, rfl⟩ := all_ints fun d hd => h d (p.mem_iff.mpr hd)
    have q : is.Perm js := perm_unmap (fun a b e => by cases e; rfl) p
    rw [srt_ints, srt_ints]
    congr 1
    refine List.Perm.eq_of_pairwise (le := fun a b => decide (a ≤ b) = true) ?_ (List.pairwise_mergeSort ?_ ?_ _) (List.pairwise_mergeSort ?_ ?_ _) (((List.mergeSort_perm _ _).trans q).trans (List.mergeSort_perm _ _).symm)
    · intro a b _ _ h1 h2
      simp only [decide_eq_true_eq] at h1 h2
      omega
    all_goals (intro a b; simp only [decide_eq_true_eq, Bool.or_eq_true]; omega)
  · obtain ⟨is, rfl⟩ := all_strs h
    obtain ⟨js, rfl⟩ := all_strs fun d hd => h d (p.mem_iff.mpr hd)
    have q : is.Perm js := perm_unmap (fun a b e => by cases e; rfl) p
    rw [srt_strs, srt_strs]
    congr 1
    have tr : ∀ a b c : Str, decide (a.cps.toList ≤ b.cps.toList) = true → decide (b.cps.toList ≤ c.cps.toList) = true → decide (a.cps.toList ≤ c.cps.toList) = true := by
      intro a b c h1 h2
      simp only [decide_eq_true_eq] at h1 h2 ⊢
      exact List.le_trans h1 h2
    have tt : ∀ a b : Str, (decide (a.cps.toList ≤ b.cps.toList) || decide (b.cps.toList ≤ a.cps.toList)) = true := by
      intro a b
      simp only [decide_eq_true_eq, Bool.or_eq_true]
      exact List.le_total ..
    refine List.Perm.eq_of_pairwise (le := fun (a b : Str) => decide (a.cps.toList ≤ b.cps.toList) = true) ?_ (List.pairwise_mergeSort tr tt _) (List.pairwise_mergeSort tr tt _) (((List.mergeSort_perm _ _).trans q).trans (List.mergeSort_perm _ _).symm)
    intro a b _ _ h1 h2
    simp only [decide_eq_true_eq] at h1 h2
    exact str_toList (List.le_antisymm h1 h2)
def kR (v : Value) (d : D) : Prop := ∃ k, d = kD k ∧ RelV (kV k) v
theorem kR_back : ∀ {vs : List Value} {ds : List D}, W.EachIs kR vs ds → ∃ ks : List Key, ds = ks.map kD ∧ Vals (ks.map kV) vs
  | [], ds, h => by
    cases h
    exact ⟨[], rfl, .nil⟩
  | v :: vs, ds, h => by
    cases h with
    | cons h1 h2 =>
      obtain ⟨k, rfl, r⟩ := h1
      obtain ⟨ks, rfl, rs⟩ := kR_back h2
      exact ⟨k :: ks, rfl, .cons r rs⟩
theorem kR_reads {h : Heap} {v : Value} {d : D} {a : Addr} (r : kR v d) : ∃ as, Reads h v d.py as ∧ a ∉ as := by
  obtain ⟨k, rfl, rv⟩ := r
  cases k with
  | inl i => obtain ⟨t, rfl⟩ := rv; exact ⟨[], .int i t, by simp⟩
  | inr x => obtain ⟨t, rfl⟩ := rv; exact ⟨[], .str x t, by simp⟩
theorem kR_scan {k : Key} {u : Value} (r : RelV (kV k) u) : u.scannable = true := by
  cases k with
  | inl i => obtain ⟨t, rfl⟩ := r; rfl
  | inr x => obtain ⟨t, rfl⟩ := r; rfl
theorem key_rel {P : Program} {w : World} {k : Key} {u : Value} (h : (mixKind P w).is k u = true) : RelV (kV k) u := by
  rcases keyIs_shape h with ⟨i, t, rfl, rfl⟩ | ⟨x, t, rfl, rfl⟩
  · exact ⟨t, rfl⟩
  · exact ⟨t, rfl⟩
theorem each_perm {R : Value → D → Prop} {vs us : List Value} (p : vs.Perm us) : ∀ {ds : List D}, W.EachIs R us ds → ∃ es, W.EachIs R vs es ∧ es.Perm ds := by
  induction p with
  | nil =>
    intro ds h
    exact ⟨ds, h, .refl _⟩
  | cons x _ ih =>
    intro ds h
    cases h with
    | cons h1 h2 =>
      obtain ⟨es, e1, e2⟩ := ih h2
      exact ⟨_ :: es, .cons h1 e1, e2.cons _⟩
  | swap x y l =>
    intro ds h
    cases h with
    | cons h1 h2 =>
      cases h2 with
      | cons h2 h3 => exact ⟨_ :: _ :: _, .cons h2 (.cons h1 h3), .swap ..⟩
  | trans _ _ ih1 ih2 =>
    intro ds h
    obtain ⟨es, e1, e2⟩ := ih2 h
    obtain ⟨fs, f1, f2⟩ := ih1 e1
    exact ⟨fs, f1, f2.trans e2⟩
def SetO (P : Program) (w : World) (a : Addr) (ks0 : List Key) : HO := .ext fun h => ∃ ks : List Key, (∀ x, x ∈ ks ↔ x ∈ ks0) ∧ KSet (mixKind P w) h a ks
theorem setO_new {P : Program} {w : World} {H : Hp} {h : Heap} {a : Addr} {ks ks0 : List Key} (m : ∀ x, x ∈ ks ↔ x ∈ ks0) (R : KSet (mixKind P w) h a ks) : ObjOk P w H h a (SetO P w a ks0) := by
  refine ⟨⟨ks, m, R⟩, ?_, ?_⟩
  · obtain ⟨o, es, ep, t, l, g, _⟩ := R
    exact ⟨o, g⟩
  · rintro h1 h2 ⟨ks, m, R⟩ k
    exact ⟨ks, m, R.keep k⟩
section
variable {X : Cx} {G : Gp} {F : Addr → Prop} {H : Hp}
theorem relFs_kD : ∀ {ds : List D} {ys : List V}, relFs G F H ds ys → ds.all keyLeaf = true → ∃ ks : List Key, ds = ks.map kD ∧ ys = ks.map kV
  | [], ys, h, _ => by
    simp only [relFs] at h
    exact ⟨[], rfl, h⟩
  | d :: ds, ys, h, hk => by
    simp only [relFs] at h
    obtain ⟨y, r, rfl, h1, h2⟩ := h
    simp only [List.all_cons, Bool.and_eq_true] at hk
    obtain ⟨k, rfl⟩ := leaf_inv hk.1
    obtain ⟨ks, rfl, rfl⟩ := relFs_kD h2 hk.2
    exact ⟨k :: ks, rfl, by rw [relF_kD h1]; rfl⟩
theorem relFs_kD_mk : ∀ ks : List Key, relFs G F H (ks.map kD) (ks.map kV)
  | [] => by simp only [List.map_nil, relFs]
  | k :: ks => by simp only [List.map_cons, relFs]; exact ⟨_, _, rfl, relF_kD_mk k, relFs_kD_mk ks⟩
theorem vals_at {ks : List Key} : ∀ {us : List Value}, Vals (ks.map kV) us → ∀ (i : Nat) (v : Value), us[i]? = some v → ∃ k, ks[i]? = some k ∧ RelV (kV k) v := by
  induction ks with
  | nil =>
    intro us r i v e
    cases r
    cases e
  | cons k ks ih =>
    intro us r i v e
    cases r with
    | cons r1 r2 =>
      cases i with
      | zero => cases e; exact ⟨k, rfl, r1⟩
      | succ i => exact ih r2 i v e
def rSetK (X : Cx) (G : Gp) : List V → Hp → VK → Prop := fun xs H Q => ∃ x Fz a ds, xs = [x] ∧ seq? a = some ds ∧ relR G Fz H a x ∧ ds.all keyLeaf = true ∧ ds.length ≤ 4000 ∧ ∀ ks p, ds = ks.map kD → H p = none → Q (.ref p) (upd H p (SetO X.prog X.w p ks))
theorem cr_set (hc : X.calm = true) (hK : X.K = G.K) : CallR X (.type "set") (rSetK X G) := by
  rintro pins s σ H xs us Q I rs ⟨x, Fz, a, ds, rfl, ha, h1, hk, hl, q⟩
  rcases (seq_inv ha).symm with rfl | rfl
  · obtain ⟨p, ys, rfl, t1, f1⟩ := rLst h1
    rw [Vals.ref1 rs]
    obtain ⟨its, rv, pl, hz⟩ := I.list (.inl t1)
    obtain ⟨ks, rfl, rfl⟩ := relFs_kD f1 hk
    rw [List.length_map] at hl
    have ll : its.toArray.size = ks.length := by rw [List.size_toArray, ← rv.length, List.length_map]
    refine kset_list (knd := mixKind X.prog X.w) ks (I.ok.hd hc) pl.isList ll ?_ (by unfold scanBound; omega) ?_
    · intro i v e
      obtain ⟨k, e1, r⟩ := vals_at rv i v (by simpa using e)
      exact ⟨k, e1, kV_is r, kR_scan r⟩
    · intro h' tk ks' R m _ kp
      exact ⟨.ref s.heap.objs.size, _, I.laid (t' := tk) kp (Nat.le_refl _) (setO_new m R), rfl, q ks _ rfl (I.hok.fresh (Nat.le_refl _))⟩
  · obtain ⟨p, ys, rfl, t1, f1⟩ := rTup h1
    rw [Vals.ref1 rs]
    obtain ⟨its, rv, pl, hz⟩ := I.tuple (hK ▸ t1)
    obtain ⟨ks, rfl, rfl⟩ := relFs_kD f1 hk
    rw [List.length_map] at hl
    have ll : its.toArray.size = ks.length := by rw [List.size_toArray, ← rv.length, List.length_map]
    refine kset_tuple (knd := mixKind X.prog X.w) ks (I.ok.hd hc) pl ll ?_ (by unfold scanBound; omega) ?_
    · intro i v e
      obtain ⟨k, e1, r⟩ := vals_at rv i v (by simpa using e)
      exact ⟨k, e1, kV_is r, kR_scan r⟩
    · intro h' tk ks' R m _ kp
      exact ⟨.ref s.heap.objs.size, _, I.laid (t' := tk) kp (Nat.le_refl _) (setO_new m R), rfl, q ks _ rfl (I.hok.fresh (Nat.le_refl _))⟩
/-- the members, in order -/
theorem sorted_kset {P : Program} {w : World} {A : Around} {E : Value → Shared → Prop} {s : Shared} {a : Addr} {ks : List Key} {Q : Value → Shared → Prop} (R : KSet (mixKind P w) s.heap a ks) (hh : A.handled = none) (hu : A.units + 64 < cLine)
    (ty : (∀ d ∈ ks.map kD, isI d = true) ∨ ∀ d ∈ ks.map kD, isS d = true)
    (fin : ∀ s' p c (out : List Value) (zs : List Key), (∀ b o, s.heap.get? b = some o → s'.heap.get? b = some o) → s'.gens = s.gens → s'.os = s.os → s.heap.objs.size ≤ p → s'.heap.get? p = some (seqObj "list" out.toArray c) → Vals (zs.map kV) out → srt (ks.map kD) = zs.map kD → out.length = ks.length → Q (.ref p) s') :
    wpAny (model P w) A (call (.builtin "sorted") [.ref a]) Q E s := by
  obtain ⟨o, es, ep, t, l, go, ex, da, pm, en, nd, sb, ft, ri, le⟩ := R
  refine Calls.call_function_entry kind_sorted plain_sorted entry_sorted (args_sorted1 _) ?_
  unfold Builtin.«sorted»
  refine wpAny_bind (m := checkCount "sorted" 1 1 _) (wpAny_pure (wpAny_bind ?_))
  refine collect_set (A := A.in1) hh ⟨o, go, ex.1, da⟩ ft sb ri le fun s1 vs k1 hz g1 o1 pv => ?_
  have each : ∀ {ks : List Key} {l : List (Int × Value)}, Ents (mixKind P w) ks l → W.EachIs kR (l.map (·.2)) (ks.map kD) := by
    intro ks l h
    induction h with
    | nil => exact .nil
    | @cons k e ks l h1 _ ih => exact .cons ⟨k, rfl, key_rel h1.1⟩ ih
  have e0 := each en
  have pv2 : vs.Perm (l.map (·.2)) := pv.trans (pm.map _).symm
  obtain ⟨ds, e1, pd⟩ := each_perm pv2 e0
  have hlen : vs.length = ks.length := by rw [e1.length, pd.length_eq, List.length_map]
  have kl : ks.length < 4096 := by
    have := ents_len en
    rw [this, pm.length_eq, Array.length_toList]
    exact sb
  refine wpAny_bind (wpAny_newList ?_ (by rw [hlen, sizeLine_eq]; omega))
  have gL : (s1.heap.push (seqObj "list" vs.toArray 0)).get? s1.heap.objs.size = some (seqObj "list" vs.toArray 0) := Heap.get?_push_size _ rfl
  have ty' : (∀ d ∈ ds, isI d = true) ∨ ∀ d ∈ ds, isS d = true := ty.imp (fun h d hd => h d (pd.mem_iff.mp hd)) fun h d hd => h d (pd.mem_iff.mp hd)
  refine wpAny_bind (wpAny_holding (W.list_sort_data (s := { s1 with heap := s1.heap.push (seqObj "list" vs.toArray 0) }) (enc := D.py) gL e1 (e1.mono fun v d r => kR_reads r) ?_ ?_ (by rw [← e1.length, hlen, sizeLine_eq]; omega) ?_ fun out ho eo => ?_))
  · intro x hx y hy
    obtain ⟨x', hx', rfl⟩ := List.mem_map.mp hx
    obtain ⟨y', hy', rfl⟩ := List.mem_map.mp hy
    rcases ty' with h | h
    · have a1 := h x' hx'
      have a2 := h y' hy'
      cases x' <;> first | (cases a1; done) | skip
      cases y' <;> first | (cases a2; done) | rfl
    · have a1 := h x' hx'
      have a2 := h y' hy'
      cases x' <;> first | (cases a1; done) | skip
      cases y' <;> first | (cases a2; done) | rfl
  · refine .inr fun x hx => ?_
    obtain ⟨x', hx', rfl⟩ := List.mem_map.mp hx
    rcases ty' with h | h
    · have a1 := h x' hx'
      cases x' <;> first | (cases a1; done) | simp [D.py]
    · have a1 := h x' hx'
      cases x' <;> first | (cases a1; done) | simp [D.py]
  · intro b hb
    have dz : b.py.depth = 0 := by
      rcases ty' with h | h
      · have a1 := h b hb
        cases b <;> first | (cases a1; done) | rfl
      · have a1 := h b hb
        cases b <;> first | (cases a1; done) | rfl
    rw [dz]
    show A.units + 1 + 1 + 0 < cLine
    omega
  · have es : ds.mergeSort (W.dataLe false D.py) = srt ds := rfl
    rw [es] at eo
    obtain ⟨zs, ez, rz⟩ := kR_back eo
    obtain ⟨c, hc⟩ := sortedHeap_at (vs := vs) (out := out.toArray) gL
    refine wpAny_pure ⟨_, rfl, fin _ s1.heap.objs.size c out zs (fun b u e => ?_) g1 o1 hz hc rz ?_ ?_⟩
    · have q := k1 b u e
      have lt := Heap.lt_size q
      show (sortedHeap (s1.heap.push (seqObj "list" vs.toArray 0)) s1.heap.objs.size vs out.toArray).get? b = some u
      rw [sortedHeap_old (Nat.ne_of_lt lt) (by rw [size_push']; exact Nat.lt_succ_of_lt lt)]
      exact Heap.get?_push_of_some _ q
    · rw [← ez]
      exact (srt_perm pd ty').symm
    · rw [ho, ← e1.length, hlen]
theorem set_perm {P : Program} {w : World} {h : Heap} {a : Addr} {ks ks0 : List Key} (R : KSet (mixKind P w) h a ks) (m : ∀ x, x ∈ ks ↔ x ∈ ks0) : (ks.map kD).Perm (firsts (ks0.map kD)) := by
  obtain ⟨o, es, ep, t, l, go, ex, da, pm, en, nd, _⟩ := R
  refine (List.perm_ext_iff_of_nodup (List.pairwise_map.mpr (nd.imp fun ne e => ne (kD_inj e))) (firsts_nodup _)).mpr fun d => ?_
  rw [firsts_mem, List.mem_map, List.mem_map]
  exact ⟨fun ⟨k, h1, h2⟩ => ⟨k, (m k).mp h1, h2⟩, fun ⟨k, h1, h2⟩ => ⟨k, (m k).mpr h1, h2⟩⟩
def rSortedK (X : Cx) : List V → Hp → VK → Prop := fun xs H Q => ∃ (p : Addr) (ks : List Key), xs = [.ref p] ∧ H p = some (SetO X.prog X.w p ks) ∧ ((∀ d ∈ ks.map kD, isI d = true) ∨ ∀ d ∈ ks.map kD, isS d = true) ∧
  ∀ (q : Addr) (zs : List Key), H q = none → srt (firsts (ks.map kD)) = zs.map kD → Q (.ref q) (upd H q (.lst (zs.map kV)))
theorem cr_sortedK (hc : X.calm = true) (hu : X.A.units + 64 < cLine) : CallR X (.builtin "sorted") (rSortedK X) := by
  rintro pins s σ H xs us Q I rs ⟨p, ks, rfl, ha, ty, q⟩
  rw [Vals.ref1 rs]
  obtain ⟨⟨ks', m, R⟩, _⟩ := I.hok p _ ha
  have pp := set_perm R m
  have ty' : (∀ d ∈ ks'.map kD, isI d = true) ∨ ∀ d ∈ ks'.map kD, isS d = true := ty.imp (fun h d hd => h d (firsts_mem.mp (pp.mem_iff.mp hd))) fun h d hd => h d (firsts_mem.mp (pp.mem_iff.mp hd))
  have kl : ks'.length < 4096 := by
    obtain ⟨o, es, ep, t, l, go, ex, da, pm, en, nd, sb, _⟩ := R
    rw [ents_len en, pm.length_eq, Array.length_toList]
    exact sb
  refine sorted_kset R (I.ok.hd hc) hu ty' fun s' b c out zs k g o hb ho rv es el => ?_
  have hn : H b = none := I.hok.fresh hb
  have lz : (zs.map kV).length ≤ sizeLine := by rw [rv.length, el, sizeLine_eq]; omega
  have J : Inv X pins σ (upd H b (.lst (zs.map kV))) { s with heap := s'.heap, gens := s'.gens, drawn := s'.drawn, toks := s'.toks } :=
    I.call (ch := []) (Un.laid k hb hn) (I.hok.laid k hb ⟨lz, out, c, rv, ho⟩) (by rw [g]; exact I.bare) (fun _ z => nomatch z)
  obtain ⟨h1, g1, d1, t1, o1⟩ := s'
  cases o
  exact ⟨.ref b, _, J, rfl, q b zs hn (by rw [← es]; exact (srt_perm pp ty').symm)⟩
def rLenK (X : Cx) : List V → Hp → VK → Prop := fun xs H Q => ∃ (p : Addr) (ks : List Key), xs = [.ref p] ∧ H p = some (SetO X.prog X.w p ks) ∧ Q (.int (firsts (ks.map kD)).length) H
theorem cr_lenK : CallR X (.builtin "len") (rLenK X) := by
  rintro pins s σ H xs us Q I rs ⟨p, ks, rfl, ha, q⟩
  rw [Vals.ref1 rs]
  obtain ⟨⟨ks', m, R⟩, _⟩ := I.hok p _ ha
  have pp := set_perm R m
  obtain ⟨o, es, ep, t, l, go, ex, da, pm, en, nd, sb, ft, _⟩ := R
  have e : es.size = (firsts (ks.map kD)).length := by
    rw [← pp.length_eq, List.length_map, ents_len en, pm.length_eq, Array.length_toList]
  have sb' : es.size < 4096 := sb
  exact call_len_set go ex da ft (by omega) ⟨.int (firsts (ks.map kD)).length, H, I.tok _, ⟨_, by rw [e]⟩, q⟩
end
end PF
set_option Elab.async false
set_option linter.all false
set_option maxRecDepth 100000
set_option maxHeartbeats 1000000
namespace PF
open PySem PySem.Spec PyProof.Rows L2
section
variable {P : Program} {w : World} {A : Around} {E : Value → Shared → Prop} {s : Shared}
def ClsAt (P : Program) (w : World) (n : Nat) (s : Shared) (v : Value) : Prop := ∀ (A : Around) (E : Value → Shared → Prop) (Q : Bool → Shared → Prop), Q false s → wpAny (model P w) A (ofAClassStatement n v) Q E s
def ByvAt (P : Program) (w : World) (n : Nat) (s : Shared) (v : Value) : Prop := ∀ (A : Around) (E : Value → Shared → Prop) (Q : Bool → Shared → Prop), (∀ c, Q c s) → wpAny (model P w) A (hashByValue n v) Q E s
theorem cls_tup {n m : Nat} {b : Addr} {o : Obj} {its : Array Value} (g : s.heap.get? b = some o) (c : o.cls = .type "tuple") (d : o.data = .seq its m) (hi : ∀ v ∈ its.toList, ClsAt P w n s v) : ClsAt P w (n + 1) s (.ref b) := by
  intro A E Q q
  have ty : s.TypeIs (.ref b) "tuple" := ⟨o, g, c⟩
  unfold ofAClassStatement
  refine wpAny_bind (wpAny_typeOf ty ?_)
  dsimp only
  rw [show (("tuple" : String) == "tuple") = true from by decide]
  simp only [↓reduceIte, Bool.not_true, Bool.false_eq_true]
  first
    | refine wpAny_bind (wpAny_pure ?_)
    | skip
  try simp only [Bool.not_true, Bool.false_eq_true, ↓reduceIte]
  show wpAny _ _ (seqItems? (.ref b) >>= _) _ _ s
  refine wpAny_bind (wpAny_seqItems g d (wpAny_bind ?_))
  show wpAny _ _ (forIn its _ _) _ _ s
  rw [← Array.forIn_toList]
  refine wpAny_forIn_list _ (fun l r z => (r.1 = none ∧ z = s) ∧ ∀ v ∈ l, ClsAt P w n s v) _ ?step ?stop _ _ ⟨⟨rfl, rfl⟩, hi⟩
  case step =>
    rintro v l r z ⟨⟨hr, rfl⟩, al⟩
    refine wpAny_bind (al v (.head _) _ _ _ ?_)
    simp only [↓reduceIte, Bool.false_eq_true]
    exact wpAny_pure ⟨⟨rfl, rfl⟩, fun u hu => al u (.tail _ hu)⟩
  case stop =>
    rintro ⟨r1, r2⟩ z ⟨⟨hr, rfl⟩, _⟩
    cases hr
    exact wpAny_pure q
theorem byv_tup {n m : Nat} {b : Addr} {o : Obj} {its : Array Value} (g : s.heap.get? b = some o) (c : o.cls = .type "tuple") (d : o.data = .seq its m) (hi : ∀ v ∈ its.toList, ByvAt P w n s v) : ByvAt P w (n + 1) s (.ref b) := by
  intro A E Q q
  have ty : s.TypeIs (.ref b) "tuple" := ⟨o, g, c⟩
  unfold hashByValue
  refine wpAny_bind (wpAny_specialOf ty F.slot_tuple_hash.lookup ?_)
  show wpAny _ _ (seqItems? (.ref b) >>= _) _ _ s
  refine wpAny_bind (wpAny_seqItems g d (wpAny_bind ?_))
  show wpAny _ _ (forIn its _ _) _ _ s
  rw [← Array.forIn_toList]
  refine wpAny_forIn_list _ (fun l r z => (r.1 = none ∧ z = s) ∧ ∀ v ∈ l, ByvAt P w n s v) _ ?step ?stop _ _ ⟨⟨rfl, rfl⟩, hi⟩
  case step =>
    rintro v l r z ⟨⟨hr, rfl⟩, al⟩
    refine wpAny_bind (al v (.head _) _ _ _ fun c => ?_)
    cases c with
    | true =>
      simp only [Bool.not_true, Bool.false_eq_true, ↓reduceIte]
      exact wpAny_pure ⟨⟨rfl, rfl⟩, fun u hu => al u (.tail _ hu)⟩
    | false =>
      simp only [Bool.not_false, ↓reduceIte]
      exact wpAny_pure (wpAny_pure (q false))
  case stop =>
    rintro ⟨r1, r2⟩ z ⟨⟨hr, rfl⟩, _⟩
    cases hr
    exact wpAny_pure (q true)
mutual
theorem cls_key : ∀ (k : NestedKey) (v : Value) (n : Nat), NestedIs s.heap k v → k.depth ≤ n → ClsAt P w n s v
  | .none, v, n, x, _ => by cases x; cases n <;> exact fun A E Q q => wpAny_pure q
  | .num i, v, n, x, _ => by cases x <;> cases n <;> exact fun A E Q q => wpAny_pure q
  | .text i, v, n, x, _ => by cases x; cases n <;> exact fun A E Q q => wpAny_pure q
  | .tup ks, v, n, x, h => by
    cases x with
    | tup g c d al =>
      simp only [NestedKey.depth] at h
      obtain ⟨m, rfl⟩ : ∃ m, n = m + 1 := ⟨n - 1, by omega⟩
      exact cls_tup g c d (cls_keys ks _ m al (by omega))
theorem cls_keys : ∀ (ks : List NestedKey) (vs : List Value) (n : Nat), NestedAll s.heap ks vs → NestedKey.depthAll ks ≤ n → ∀ v ∈ vs, ClsAt P w n s v
  | [], vs, n, x, _ => by cases x; intro v h; cases h
  | k :: ks, vs, n, x, h => by
    cases x with
    | cons x1 x2 =>
      simp only [NestedKey.depthAll] at h
      intro v hv
      rcases List.mem_cons.mp hv with rfl | hv
      · exact cls_key k _ n x1 (by omega)
      · exact cls_keys ks _ n x2 (by omega) v hv
end
mutual
theorem byv_key : ∀ (k : NestedKey) (v : Value) (n : Nat), NestedIs s.heap k v → ByvAt P w n s v
  | .none, v, n, x => by cases x; cases n <;> exact fun A E Q q => wpAny_pure (q _)
  | .num i, v, n, x => by cases x <;> cases n <;> exact fun A E Q q => wpAny_pure (q _)
  | .text i, v, n, x => by cases x; cases n <;> exact fun A E Q q => wpAny_pure (q _)
  | .tup ks, v, n, x => by
    cases x with
    | tup g c d al =>
      cases n with
      | zero => exact fun A E Q q => wpAny_pure (q _)
      | succ n => exact byv_tup g c d (byv_keys ks _ n al)
theorem byv_keys : ∀ (ks : List NestedKey) (vs : List Value) (n : Nat), NestedAll s.heap ks vs → ∀ v ∈ vs, ByvAt P w n s v
  | [], vs, n, x => by cases x; intro v h; cases h
  | k :: ks, vs, n, x => by
    cases x with
    | cons x1 x2 =>
      intro v hv
      rcases List.mem_cons.mp hv with rfl | hv
      · exact byv_key k _ n x1
      · exact byv_keys ks _ n x2 v hv
end
abbrev nKd (P : Program) (w : World) : HeapKind P w NestedKey := nestedKind P w
abbrev tent (P : Program) (w : World) (p : Addr × NestedKey) : Int × Value := ((nKd P w).hash p.2, .ref p.1)
abbrev nh (P : Program) (w : World) (p : Addr × NestedKey) : Int := (nKd P w).hash p.2
theorem seen_keys {k : NestedKey} {b : Addr} {Q : Bool → Shared → Prop} (hk : (nKd P w).is s.heap k b) {ys : List Value} (hy : ∀ y ∈ ys, ∃ k' c, y = Value.ref c ∧ (nKd P w).is s.heap k' c) (h : Q false s) :
    wpAny (model P w) A (searchCouldBeSeen (.ref b) ys) Q E s := by
  unfold searchCouldBeSeen
  refine wpAny_bind (wpAny_forIn_list _ (fun l r z => (r.1 = none ∧ z = s) ∧ ∀ y ∈ l, ∃ k' c, y = Value.ref c ∧ (nKd P w).is s.heap k' c) _ ?step ?stop _ _ ⟨⟨rfl, rfl⟩, hy⟩)
  case step =>
    rintro v l r z ⟨⟨hr, rfl⟩, al⟩
    obtain ⟨k', c, rfl, hc⟩ := al v (.head _)
    have al' : ∀ y ∈ l, ∃ k' c, y = Value.ref c ∧ (nKd P w).is z.heap k' c := fun u hu => al u (.tail _ hu)
    dsimp only
    by_cases hv : (b == c || (carriedByValue (.ref b) && carriedByValue (.ref c))) = true
    · exact wp_if_pos hv (wpAny_pure ⟨⟨rfl, rfl⟩, al'⟩)
    · refine wp_if_neg hv (wpAny_bind ((nKd P w).quiet hk ?_))
      simp only [Bool.not_true, Bool.false_eq_true, ↓reduceIte]
      refine wpAny_bind ((nKd P w).quiet hc ?_)
      simp only [Bool.not_true, Bool.false_eq_true, ↓reduceIte]
      refine wpAny_bind (cls_key k _ 8 hk.1 hk.2 _ _ _ ?_)
      simp only [Bool.false_eq_true, ↓reduceIte]
      refine wpAny_bind (cls_key k' _ 8 hc.1 hc.2 _ _ _ ?_)
      simp only [Bool.false_eq_true, ↓reduceIte]
      exact wpAny_pure ⟨⟨rfl, rfl⟩, al'⟩
  case stop =>
    rintro ⟨r1, r2⟩ z ⟨⟨hr, rfl⟩, _⟩
    cases hr
    exact wpAny_pure h
structure TuS (P : Program) (w : World) (h : Heap) (a : Addr) (L : List (Addr × NestedKey)) (es : Array (Int × Value)) (ep : Nat) (t : SetTable) : Prop where
  ob : ∃ o, h.get? a = some o ∧ o.ExactSet ∧ o.data = .set es ep t
  rows : es.toList = L.map (tent P w)
  tab : TabOk t (L.map (nh P w))
  nd : (L.map (·.2)).Nodup
  is : ∀ p ∈ L, (nKd P w).is h p.2 p.1
  led : w.params.followText "set-order" = true ∨ t.led = true
  room : L.length * 5 < t.mask * 3
  few : L.length < 64
variable {a : Addr} {L : List (Addr × NestedKey)} {es : Array (Int × Value)} {ep : Nat} {t : SetTable}
theorem rows_len (h : es.toList = L.map (tent P w)) : es.size = L.length := by
  rw [← Array.length_toList, h, List.length_map]
theorem rows_get (h : es.toList = L.map (tent P w)) {i : Nat} {p : Addr × NestedKey} (hp : L[i]? = some p) : es[i]? = some (tent P w p) := by
  rw [← Array.getElem?_toList, h, List.getElem?_map, hp]; rfl
theorem fits_of {hs : List Int} (T : TabOk t hs) (hl : hs.length ≤ t.mask) : t.fits hs.length = true := by
  have z := T.sz
  rw [SetTable.fits, SetTable.fill, T.dm, Bool.and_eq_true, beq_iff_eq, decide_eq_true_eq, z]
  exact ⟨rfl, hl⟩
theorem TuS.fit (R : TuS P w s.heap a L es ep t) : t.fits es.size = true := by
  have q := fits_of R.tab (by rw [List.length_map]; have := R.room; omega)
  rwa [List.length_map, ← rows_len R.rows] at q
/-- the probe behind c steps -/
abbrev prb (m : Nat) (h : Int) (c : Nat) : SetTable.Probe := nth m (runAt m (SetTable.bits h % (m + 1)) (SetTable.bits h)) c
theorem prb_add (m : Nat) (h : Int) (c q : Nat) : nth m (prb m h c) q = prb m h (c + q) := (nth_add m c _ q).symm
theorem prb_dm (m : Nat) (h : Int) (c : Nat) : (prb m h c).dummy = none := by
  have key : ∀ (n : Nat) (p : SetTable.Probe), p.dummy = none → (nth m p n).dummy = none := by
    intro n
    induction n with
    | zero => exact fun p q => q
    | succ n ih =>
      intro p q
      refine ih (adv m p) ?_
      unfold adv
      split <;> exact q
  exact key c _ rfl
/-- the search, from the c-th step on: found, or a free place -/
theorem ts_search (R : TuS P w s.heap a L es ep t) {x : Addr} {k : NestedKey} (hx : (nKd P w).is s.heap k x) (hu : (nKd P w).room A) {N : Nat} (hN : N < 10 * SetTable.turns t.mask)
    (free : way t.mask ((nKd P w).hash k) N ∉ t.place.toList) (full : ∀ c, c < N → way t.mask ((nKd P w).hash k) c ∈ t.place.toList) {Q : SetFound → Shared → Prop}
    (yes : k ∈ L.map (·.2) → Q (.there none) s) (no : k ∉ L.map (·.2) → Q (.free (way t.mask ((nKd P w).hash k) N) false) s) :
    ∀ (f c : Nat) (stand : Option SetTable.Probe), stand.getD (t.probeStart ((nKd P w).hash k)) = prb t.mask ((nKd P w).hash k) c → c ≤ N → N - c < f →
      (∀ (i : Nat) p, L[i]? = some p → p.2 = k → ∃ c', c ≤ c' ∧ c' < N ∧ t.place.toList[i]? = some (way t.mask ((nKd P w).hash k) c')) →
      wpAny (model P w) A (setSearchFrom a (.ref x) ((nKd P w).hash k) true f stand) Q E s := by
  intro f
  induction f with
  | zero => exact fun c stand _ _ z _ => absurd z (Nat.not_lt_zero _)
  | succ f ih =>
    intro c stand start le lf ahead
    obtain ⟨o, go, gx, gd⟩ := R.ob
    have gw : ¬ t.gaveWay = true := by
      rw [SetTable.gaveWay, mask_odd R.tab.mok]
      decide
    rw [setSearchFrom_succ]
    refine wpAny_bind (wpAny_setState_of go gd R.fit (wp_if_neg gw ?_))
    first
      | refine wpAny_bind (wpAny_pure ?_)
      | skip
    have jq : ∀ q, (nth t.mask (prb t.mask ((nKd P w).hash k) c) q).j = way t.mask ((nKd P w).hash k) (c + q) := fun q => congrArg SetTable.Probe.j (prb_add _ _ _ _)
    have eN : c + (N - c) = N := by omega
    have hat : ∀ (i : Nat) p, L[i]? = some p → (fun i => (es[i]?.map (·.1)).getD 0) i = nh P w p := fun i p hp => by
      show (es[i]?.map (·.1)).getD 0 = _
      rw [rows_get R.rows hp]; rfl
    rcases go_spec t R.tab.ris R.tab.dm (fun i => (es[i]?.map (·.1)).getD 0) ((nKd P w).hash k) (10 * SetTable.turns t.mask) (N - c) _ (prb_dm t.mask ((nKd P w).hash k) c) (by omega)
      (fun q hq => by rw [jq]; exact full (c + q) (by omega)) (by rw [jq, eN]; exact free) with ⟨q, i, hq, hi, hh, bef, pr⟩ | ⟨bef, pr⟩
    · have pr2 : t.probe (fun i => (es[i]?.map (·.1)).getD 0) ((nKd P w).hash k) (stand.getD (t.probeStart ((nKd P w).hash k))) = some (.candidate (way t.mask ((nKd P w).hash k) (c + q)) i (prb t.mask ((nKd P w).hash k) (c + (q + 1)))) := by
        rw [start, ← jq, ← prb_add]
        exact pr
      rw [pr2]
      rw [jq] at hi
      have li : i < L.length := by
        have z1 : i < t.place.toList.length := (List.getElem?_eq_some_iff.mp hi).1
        have z2 := R.tab.sz
        rw [List.length_map] at z2
        rw [Array.length_toList] at z1
        omega
      obtain ⟨p, hp⟩ : ∃ p, L[i]? = some p := ⟨_, List.getElem?_eq_getElem li⟩
      have mp : p ∈ L := List.mem_of_getElem? hp
      have tail : wpAny (model P w) A (searchRest a (.ref x) ((nKd P w).hash k) true f es t (way t.mask ((nKd P w).hash k) (c + q)) i (prb t.mask ((nKd P w).hash k) (c + (q + 1)))) Q E s := by
        have sl : t.slot (way t.mask ((nKd P w).hash k) (c + q)) = .live i := slot_live R.tab.ris hi
        unfold searchRest
        rw [rows_get R.rows hp]
        refine wpAny_bind (wpAny_holding ((nKd P w).eqBool hu (R.is p mp) hx ?_))
        refine wpAny_bind (wpAny_setState_of go gd R.fit ?_)
        dsimp only
        by_cases ek : p.2 = k
        · exact wp_if_pos (by simp [ek]) (wpAny_pure (yes (List.mem_map.mpr ⟨p, mp, ek⟩)))
        · refine wp_if_neg (by simp [ek]) ?_
          first
            | refine wpAny_bind (wpAny_pure ?_)
            | skip
          rw [sameMem]
          simp only [↓reduceIte, sl, rows_get R.rows hp]
          refine wpAny_bind (wpAny_isSame_ref_self (wpAny_bind (wpAny_pure ?_)))
          simp only [↓reduceIte]
          refine wp_if_neg (by simp [ek]) (ih (c + (q + 1)) _ rfl (by omega) (by omega) fun i0 p0 h0 k0 => ?_)
          obtain ⟨c', b1, b2, b3⟩ := ahead i0 p0 h0 k0
          have far : c + q < c' := by
            rcases Nat.lt_trichotomy c' (c + q) with y | y | y
            · exact absurd ((hat i0 p0 h0).trans (congrArg (nKd P w).hash k0)) (bef (c' - c) i0 (by omega) (by rw [jq, show c + (c' - c) = c' by omega]; exact b3))
            · rw [y] at b3
              have s0 := slot_live R.tab.ris b3
              rw [sl] at s0
              injection s0 with s0
              rw [← s0, hp] at h0
              cases h0
              exact absurd k0 ek
            · exact y
          exact ⟨c', by omega, b2, b3⟩
      dsimp only
      by_cases ld : t.led = true
      · refine wp_if_neg (by simp [ld]) ?_
        first
          | exact tail
          | exact wpAny_bind (wpAny_pure tail)
      · refine wp_if_pos (by simp [ld]) (wpAny_bind (seen_keys hx (fun y hy => ?_) ?_))
        · obtain ⟨e, he, rfl⟩ := List.mem_map.mp hy
          have he2 : e ∈ es.toList := by
            have : e ∈ es ∧ e.1 = (nKd P w).hash k := by simpa using he
            simpa using this.1
          rw [R.rows] at he2
          obtain ⟨p2, m2, rfl⟩ := List.mem_map.mp he2
          exact ⟨p2.2, p2.1, rfl, R.is p2 m2⟩
        · refine wp_if_neg (by decide) ?_
          first
            | exact tail
            | exact wpAny_bind (wpAny_pure tail)
    · have pr2 : t.probe (fun i => (es[i]?.map (·.1)).getD 0) ((nKd P w).hash k) (stand.getD (t.probeStart ((nKd P w).hash k))) = some (.empty (way t.mask ((nKd P w).hash k) N) none) := by
        rw [start, show way t.mask ((nKd P w).hash k) N = (nth t.mask (prb t.mask ((nKd P w).hash k) c) (N - c)).j by rw [jq, eN]]
        exact pr
      rw [pr2]
      refine wpAny_pure (no fun hm => ?_)
      obtain ⟨p0, m0, k0⟩ := List.mem_map.mp hm
      obtain ⟨i0, h0⟩ := List.mem_iff_getElem?.mp m0
      obtain ⟨c', b1, b2, b3⟩ := ahead i0 p0 h0 k0
      exact bef (c' - c) i0 (by omega) (by rw [jq, show c + (c' - c) = c' by omega]; exact b3) ((hat i0 p0 h0).trans (congrArg (nKd P w).hash k0))
theorem ts_find (R : TuS P w s.heap a L es ep t) {x : Addr} {k : NestedKey} (hx : (nKd P w).is s.heap k x) (hu : (nKd P w).room A) {Q : SetFound → Shared → Prop} (yes : k ∈ L.map (·.2) → Q (.there none) s)
    (no : ∀ N, k ∉ L.map (·.2) → way t.mask ((nKd P w).hash k) N ∉ t.place.toList → (∀ c, c < N → way t.mask ((nKd P w).hash k) c ∈ t.place.toList) → Q (.free (way t.mask ((nKd P w).hash k) N) false) s) :
    wpAny (model P w) A (setSearch a (.ref x) ((nKd P w).hash k) true) Q E s := by
  have rm := R.room
  obtain ⟨N, n1, n2, n3⟩ := R.tab.first (by rw [List.length_map]; omega) ((nKd P w).hash k)
  have nb : N < 100000 := by
    have : 10 * SetTable.turns t.mask ≤ 1420 := by
      rw [SetTable.turns]
      rcases R.tab.mok with e | e | e <;> omega
    omega
  unfold setSearch
  refine ts_search R hx hu n1 n2 n3 yes (fun z => no N z n2 n3) 100000 0 none rfl (Nat.zero_le _) (by omega) fun i p hp ek => ?_
  have hi : (L.map (nh P w))[i]? = some ((nKd P w).hash k) := by rw [List.getElem?_map, hp, ← ek]; rfl
  have li : i < t.place.toList.length := by
    have z1 : i < L.length := (List.getElem?_eq_some_iff.mp hp).1
    have z2 := R.tab.sz
    rw [List.length_map] at z2
    rw [Array.length_toList]
    omega
  obtain ⟨c, c1, c2⟩ := R.tab.before n2 hi (List.getElem?_eq_getElem li)
  exact ⟨c, Nat.zero_le _, c1, by rw [List.getElem?_eq_getElem li, c2]⟩
end
end PF
set_option Elab.async false
set_option linter.all false
set_option maxRecDepth 100000
set_option maxHeartbeats 1000000
namespace PF
open PySem PySem.Spec PyProof.Rows L2
section
variable {P : Program} {w : World} {A : Around} {E : Value → Shared → Prop} {s : Shared}
theorem is_same {h h' : Heap} {a b : Addr} {k : NestedKey} {o : Obj} {es : Array (Int × Value)} {ep : Nat} {t : SetTable} (x : (nKd P w).is h k b) (go : h.get? a = some o) (gd : o.data = .set es ep t) (sb : Heap.SameBut a h h') : (nKd P w).is h' k b :=
  nestedKind_stays.stays (fun c u vs n e d => (sb.2 c fun z => by
    rw [z, go] at e
    cases e
    rw [gd] at d
    cases d).trans e) x
theorem is_keep {h h' : Heap} {b : Addr} {k : NestedKey} (x : (nKd P w).is h k b) (kp : ∀ c o, h.get? c = some o → h'.get? c = some o) : (nKd P w).is h' k b := nestedKind_stays.stays (fun c u vs n e _ => kp c u e) x
theorem rows_opt {L : List (Addr × NestedKey)} {es : Array (Int × Value)} (h : es.toList = L.map (tent P w)) (i : Nat) : es[i]? = (L[i]?).map (tent P w) := by
  rw [← Array.getElem?_toList, h, List.getElem?_map]
theorem range_all {α : Type} (L : List α) : ∀ n, n ≤ L.length → (List.range n).filterMap (fun i => L[i]?) = L.take n := by
  intro n
  induction n with
  | zero => exact fun _ => by simp
  | succ n ih =>
    intro h
    have q := List.getElem?_eq_getElem (l := L) (i := n) h
    rw [List.range_succ, List.filterMap_append, ih (by omega), List.filterMap_cons_some q, List.filterMap_nil, List.take_add_one, q]
    rfl
theorem order_all {L : List (Addr × NestedKey)} {es : Array (Int × Value)} {order : Array Nat} (h : es.toList = L.map (tent P w)) (hp : order.toList.Perm (List.range L.length)) :
    ∃ L2 : List (Addr × NestedKey), (order.filterMap (es[·]?)).toList = L2.map (tent P w) ∧ L2.Perm L ∧ L2.map (nh P w) = order.toList.map fun i => (es.map (·.1)).getD i 0 := by
  refine ⟨order.toList.filterMap fun i => L[i]?, ?_, ?_, ?_⟩
  · rw [Array.toList_filterMap, List.map_filterMap]
    congr 1
    funext i
    exact rows_opt h i
  · have q := hp.filterMap fun i => L[i]?
    rwa [range_all L L.length (Nat.le_refl _), List.take_length] at q
  · have key : ∀ l : List Nat, (∀ i ∈ l, i < L.length) → (l.filterMap fun i => L[i]?).map (nh P w) = l.map fun i => (es.map (·.1)).getD i 0 := by
      intro l
      induction l with
      | nil => exact fun _ => rfl
      | cons i l ih =>
        intro hl
        obtain ⟨p, q⟩ : ∃ p, L[i]? = some p := ⟨_, List.getElem?_eq_getElem (hl i (.head _))⟩
        rw [List.filterMap_cons_some q, List.map_cons, List.map_cons, ih fun j hj => hl j (.tail _ hj)]
        have e5 : (es.map (·.1))[i]? = some (nh P w p) := by
          rw [Array.getElem?_map, rows_opt h i, q]
          rfl
        congr 1
        rw [Array.getD_eq_getD_getElem?, e5]
        rfl
    exact key _ fun i hi => List.mem_range.mp (hp.mem_iff.mp hi)
variable {a : Addr} {L : List (Addr × NestedKey)} {es : Array (Int × Value)} {ep : Nat} {t : SetTable}
/-- laid anew, larger -/
theorem ts_relay {o : Obj} (go : s.heap.get? a = some o) (gx : o.ExactSet) (gd : o.data = .set es ep t) (hr : es.toList = L.map (tent P w)) (T : TabOk t (L.map (nh P w))) (hfl : L.length ≤ t.mask) (nd : (L.map (·.2)).Nodup) (is : ∀ p ∈ L, (nKd P w).is s.heap p.2 p.1)
    (ld : w.params.followText "set-order" = true ∨ t.led = true) (few : L.length < 64) {wanted M : Nat} (hw : SetTable.sizeAbove wanted - 1 = M) (hM : MaskOk M) (hw2 : SetTable.sizeAbove wanted ≤ 128) (hn : L.length * 5 < M * 3) {Q : Unit → Shared → Prop}
    (hQ : ∀ h' L' es' ep' t', Heap.SameBut a s.heap h' → TuS P w h' a L' es' ep' t' → L'.Perm L → Q () { s with heap := h' }) : wpAny (model P w) A (setRelay a wanted) Q E s := by
  have zl := rows_len hr
  have ft : t.fits es.size = true := by
    have q := fits_of T (by rw [List.length_map]; exact hfl)
    rwa [List.length_map, ← zl] at q
  obtain ⟨t', order, e, hp, T', em, el, _, _⟩ := relaid_ok t (hs := es.map (·.1)) (wanted := wanted) hw hM (by rw [Array.size_map, zl]; omega)
  rw [Array.size_map, zl] at hp
  obtain ⟨L2, r1, r2, r3⟩ := order_all hr hp
  rw [← r3] at T'
  have z2 : (order.filterMap (es[·]?)).size = es.size := by rw [rows_len r1, r2.length_eq, zl]
  rw [setRelay_eq]
  refine wpAny_bind (wpAny_setState_of go gd ft (wp_if_neg (by rw [sizeLine_eq]; omega) ?_))
  first
    | refine wpAny_bind (wpAny_pure ?_)
    | skip
  rw [e]
  refine wpAny_bind (wp_if_neg (by rw [z2]; simp) ?_)
  first
    | refine wpAny_bind (wpAny_pure ?_)
    | skip
  refine wpAny_pure (wpAny_storeSet_of go gd ?_ (by rw [z2, zl, sizeLine_eq]; omega))
  have sb : Heap.SameBut a s.heap (s.heap.update a (Obj.putSet (order.filterMap (es[·]?)) t')) := Heap.SameBut.update ..
  refine hQ _ L2 (order.filterMap (es[·]?)) (ep + 1) t' sb ⟨⟨_, store_at go gd, ⟨gx.1, gx.2.1, gx.2.2⟩, rfl⟩, r1, T', ?_, fun p pm => is_same (is p (r2.mem_iff.mp pm)) go gd sb, ?_, ?_, ?_⟩ r2
  · exact (r2.map (·.2)).nodup_iff.mpr nd
  · rw [el]; exact ld
  · rw [r2.length_eq, em]; exact hn
  · rw [r2.length_eq]; exact few
/-- put in -/
theorem ts_add (R : TuS P w s.heap a L es ep t) {x : Addr} {k : NestedKey} (hx : (nKd P w).is s.heap k x) (hu : (nKd P w).room A) (few : L.length + 1 < 64) {Q : Bool → Shared → Prop}
    (hQ : ∀ b h' L' es' ep' t', Heap.SameBut a s.heap h' → TuS P w h' a L' es' ep' t' → (k ∈ L.map (·.2) → L' = L) → (k ∉ L.map (·.2) → L'.Perm ((x, k) :: L)) → Q b { s with heap := h' }) :
    wpAny (model P w) A (setAddHashed a (.ref x) ((nKd P w).hash k)) Q E s := by
  obtain ⟨o, go, gx, gd⟩ := R.ob
  have zl := rows_len R.rows
  have rm := R.room
  rw [setAddHashed]
  refine wpAny_holding ?_
  rw [show (100000 : Nat) = 99999 + 1 from rfl, setAddHashedIn_succ]
  refine wpAny_bind (wpAny_setState_of go gd R.fit (wp_if_neg (by simp [byScan, Value.scannable]) ?_))
  first
    | refine wpAny_bind (wpAny_pure ?_)
    | skip
  refine wpAny_bind (ts_find R hx hu (fun hm => wpAny_pure (hQ false s.heap L es ep t (Heap.SameBut.refl a s.heap) R (fun _ => rfl) fun z => absurd hm z)) fun N hm n1 n2 => ?_)
  refine wpAny_bind (wpAny_setState_of go gd R.fit ?_)
  dsimp only
  obtain ⟨q1, q2, q3, q4, q5, q6, q7, q8, q9⟩ := R.tab.put n1 n2
  generalize hpt : t.put (way t.mask ((nKd P w).hash k) N) = pt at q1 q3 q4 q5 q6 q7 q8 q9 ⊢
  obtain ⟨t1, p⟩ := pt
  dsimp only at q1 q3 q4 q5 q6 q7 q8 q9 ⊢
  subst q1
  have mid : ∀ (t2 : SetTable), t2.place = t1.place → t2.dummies = t1.dummies → t2.mask = t1.mask → t2.led = t1.led → t2.fill = t1.fill → t2.tooFull = t1.tooFull → TabOk t2 (((L.map (nh P w)).take (SetTable.below t.place (way t.mask ((nKd P w).hash k) N))) ++ (nKd P w).hash k :: (L.map (nh P w)).drop (SetTable.below t.place (way t.mask ((nKd P w).hash k) N))) →
      wpAny (model P w) A (do
        storeSet a (SetTable.insertAt es (SetTable.below t.place (way t.mask ((nKd P w).hash k) N)) ((nKd P w).hash k, Value.ref x)) t2
        if !false && t2.tooFull then setRelay a (SetTable.grown (es.size + 1))
        return true) Q E s := by
    intro t2 _ _ e3 e4 e5 e6 T2
    have hin : (SetTable.insertAt es (SetTable.below t.place (way t.mask ((nKd P w).hash k) N)) ((nKd P w).hash k, Value.ref x)).toList = (L.take (SetTable.below t.place (way t.mask ((nKd P w).hash k) N)) ++ (x, k) :: L.drop (SetTable.below t.place (way t.mask ((nKd P w).hash k) N))).map (tent P w) := by
      rw [SetTable.toList_insertAt, R.rows, List.map_append, List.map_cons, List.map_take, List.map_drop]
    have ehs : (L.take (SetTable.below t.place (way t.mask ((nKd P w).hash k) N)) ++ (x, k) :: L.drop (SetTable.below t.place (way t.mask ((nKd P w).hash k) N))).map (nh P w) = (L.map (nh P w)).take (SetTable.below t.place (way t.mask ((nKd P w).hash k) N)) ++ (nKd P w).hash k :: (L.map (nh P w)).drop (SetTable.below t.place (way t.mask ((nKd P w).hash k) N)) := by
      rw [List.map_append, List.map_cons, List.map_take, List.map_drop]
    rw [← ehs] at T2
    generalize hpp : SetTable.below t.place (way t.mask ((nKd P w).hash k) N) = p at hin T2 ⊢
    have pm := put_perm L p (x, k)
    have nd1 : ((L.take p ++ (x, k) :: L.drop p).map (·.2)).Nodup := by
      refine (pm.map (·.2)).nodup_iff.mpr ?_
      rw [List.map_cons]
      exact List.nodup_cons.mpr ⟨hm, R.nd⟩
    have hes := rows_len hin
    generalize SetTable.insertAt es p ((nKd P w).hash k, Value.ref x) = es1 at hin hes ⊢
    generalize L.take p ++ (x, k) :: L.drop p = L1 at pm T2 nd1 hin hes
    have hlen : L1.length = L.length + 1 := pm.length_eq
    rw [hlen] at hes
    refine wpAny_bind (wpAny_storeSet_of go gd ?_ (by rw [hes, sizeLine_eq]; omega))
    have sb : Heap.SameBut a s.heap (s.heap.update a (Obj.putSet es1 t2)) := Heap.SameBut.update ..
    have g1 := store_at (es' := es1) (t' := t2) go gd
    generalize s.heap.update a (Obj.putSet es1 t2) = h1 at sb g1 ⊢
    have is1 : ∀ p ∈ L1, (nKd P w).is h1 p.2 p.1 := fun p hp => by
      rcases List.mem_cons.mp (pm.mem_iff.mp hp) with e | hp
      · rw [e]; exact is_same hx go gd sb
      · exact is_same (R.is p hp) go gd sb
    have ld1 : w.params.followText "set-order" = true ∨ t2.led = true := by rw [e4, q5]; exact R.led
    have q9' : t2.fill = L.length + 1 := by rw [e5, q9, List.length_map]
    have qm : t2.mask = t.mask := by rw [e3, q4]
    by_cases hf : t2.tooFull = true
    · have hfull : (L.length + 1) * 5 ≥ t2.mask * 3 := by
        have z := hf
        rw [SetTable.tooFull, decide_eq_true_eq, q9'] at z
        exact z
      have c2 : (t.mask = 7 ∧ L.length = 4) ∨ (t.mask = 31 ∧ L.length = 18) := by
        rcases R.tab.mok with e | e | e
        · exact .inl ⟨e, by rw [qm, e] at hfull; rw [e] at rm; omega⟩
        · exact .inr ⟨e, by rw [qm, e] at hfull; rw [e] at rm; omega⟩
        · exfalso
          rw [qm, e] at hfull
          omega
      rw [zl]
      have lay : ∀ M, SetTable.sizeAbove (SetTable.grown (L.length + 1)) - 1 = M → MaskOk M → SetTable.sizeAbove (SetTable.grown (L.length + 1)) ≤ 128 → (L.length + 1) * 5 < M * 3 →
          wpAny (model P w) A (setRelay a (SetTable.grown (L.length + 1))) (fun _ z => wpAny (model P w) A (pure true) Q E z) E { s with heap := h1 } := fun M m1 m2 m3 m4 =>
        ts_relay (s := { s with heap := h1 }) g1 ⟨gx.1, gx.2.1, gx.2.2⟩ rfl hin T2 (by rw [hlen, qm]; rcases c2 with ⟨e, e2⟩ | ⟨e, e2⟩ <;> omega) nd1 is1 ld1 (by rw [hlen]; exact few) m1 m2 m3 (by rw [hlen]; exact m4) fun h2 L2 es2 ep2 t3 sb2 R2 pm2 =>
          wpAny_pure (hQ true h2 L2 es2 ep2 t3 (sb.trans sb2) R2 (fun z => absurd z hm) fun _ => pm2.trans pm)
      have go2 : wpAny (model P w) A (setRelay a (SetTable.grown (L.length + 1))) (fun _ z => wpAny (model P w) A (pure true) Q E z) E { s with heap := h1 } := by
        rcases c2 with ⟨_, e2⟩ | ⟨_, e2⟩
        · exact lay 31 (by rw [e2, size_20]) (.inr (.inl rfl)) (by rw [e2, size_20]; decide) (by omega)
        · exact lay 127 (by rw [e2, size_76]) (.inr (.inr rfl)) (by rw [e2, size_76]; decide) (by omega)
      first
        | exact wpAny_bind (wp_if_pos (by simp [hf]) go2)
        | exact wp_if_pos (by simp [hf]) (wpAny_bind go2)
    · have fin : Q true { s with heap := h1 } := by
        refine hQ true h1 L1 es1 (ep + 1) t2 sb ⟨⟨_, g1, ⟨gx.1, gx.2.1, gx.2.2⟩, rfl⟩, hin, T2, nd1, is1, ld1, ?_, by rw [hlen]; exact few⟩ (fun z => absurd z hm) fun _ => pm
        have z := hf
        rw [SetTable.tooFull, decide_eq_true_eq, q9'] at z
        rw [hlen]
        omega
      first
        | exact wp_if_neg (by simp [hf]) (wpAny_pure fin)
        | exact wpAny_bind (wp_if_neg (by simp [hf]) (wpAny_pure (wpAny_pure fin)))
  have done : ∀ c : Bool, wpAny (model P w) A (do
        storeSet a (SetTable.insertAt es (SetTable.below t.place (way t.mask ((nKd P w).hash k) N)) ((nKd P w).hash k, Value.ref x)) (if c then t1 else { t1 with plain := false })
        if !false && (if c then t1 else { t1 with plain := false }).tooFull then setRelay a (SetTable.grown (es.size + 1))
        return true) Q E s := by
    intro c
    cases c with
    | true => exact mid t1 rfl rfl rfl rfl rfl rfl q3
    | false => exact mid { t1 with plain := false } rfl rfl rfl rfl rfl rfl ⟨q3.ris, q3.dm, q3.sz, q3.mok, q3.bd, q3.reach⟩
  by_cases pl : t1.plain = true
  · first
      | exact wpAny_bind (wp_if_pos pl (byv_key k _ 8 hx.1 _ _ _ fun c => done c))
      | exact wp_if_pos pl (wpAny_bind (byv_key k _ 8 hx.1 _ _ _ fun c => done c))
  · first
      | exact wpAny_bind (wp_if_neg pl (wpAny_pure (done true)))
      | exact wp_if_neg pl (wpAny_bind (wpAny_pure (done true)))
      | exact wp_if_neg pl (done true)
end
end PF
set_option Elab.async false
set_option linter.all false
set_option maxRecDepth 100000
set_option maxHeartbeats 1000000
namespace PF
open PySem PySem.Spec PyProof.Rows L2
section
variable {P : Program} {w : World} {A : Around} {E : Value → Shared → Prop} {s : Shared} {a : Addr}
/-- the set holds the keys of ks0, each once -/
structure TGot (P : Program) (w : World) (h : Heap) (a : Addr) (L ks0 : List (Addr × NestedKey)) : Prop where
  ts : ∃ es ep t, TuS P w h a L es ep t
  mem : ∀ k, k ∈ L.map (·.2) ↔ k ∈ ks0.map (·.2)
  sub : ∀ p ∈ L, p ∈ ks0
theorem ts_keep {h h' : Heap} {L : List (Addr × NestedKey)} {es : Array (Int × Value)} {ep : Nat} {t : SetTable} (R : TuS P w h a L es ep t) (ha : ∀ o, h.get? a = some o → h'.get? a = some o) (hi : ∀ p ∈ L, (nKd P w).is h' p.2 p.1) : TuS P w h' a L es ep t := by
  obtain ⟨o, go, r⟩ := R.ob
  exact ⟨⟨o, ha o go, r⟩, R.rows, R.tab, R.nd, hi, R.led, R.room, R.few⟩
theorem ts_bare {h : Heap} (g : h.get? a = some (bare w)) : TuS P w h a [] #[] 0 (.fresh 0 0 (!w.params.followText "set-order")) := by
  refine ⟨⟨_, g, ⟨rfl, rfl, rfl⟩, rfl⟩, rfl, ⟨List.Pairwise.nil, rfl, rfl, .inl rfl, fun x hx => (by cases hx), fun i h j hi => (by simp at hi)⟩, List.nodup_nil, fun p hp => (by cases hp), ?_, by show 0 * 5 < 7 * 3; decide, by show 0 < 64; decide⟩
  show _ ∨ (!w.params.followText "set-order") = true
  cases w.params.followText "set-order"
  · exact .inr rfl
  · exact .inl rfl
theorem tset_loop {I : Addr} {fp wr : List Addr} {Gr : Array GenState → Array GenState → Prop} {n : Nat} {Pv : Nat → Value → Prop} {St : Nat → Shared → Prop} {R : Result → Shared → Prop}
    (W : WalksS P w A.in1 I fp wr Gr n Pv St) (S : Addr) (sf : S ∉ fp) (ks0 : List (Addr × NestedKey)) (hn : n = ks0.length) (room : ∀ L : List (Addr × NestedKey), (L.map (·.2)).Nodup → (∀ p ∈ L, p ∈ ks0) → L.length + 1 < 64) (hv : ∀ i v, Pv i v → ∃ p, ks0[i]? = some p ∧ v = .ref p.1)
    (h0 : Heap) (hi0 : ∀ p ∈ ks0, (nKd P w).is h0 p.2 p.1) (hS0 : h0.get? S = none) (hw0 : ∀ b ∈ wr, h0.get? b = none) (hu : (nKd P w).room A.in1) :
    ∀ (m i : Nat) (s : Shared), n - i = m → i ≤ n → St i s → (∀ b o, h0.get? b = some o → s.heap.get? b = some o) → (∃ L, TGot P w s.heap S L (ks0.take i) ∧ L.length ≤ i) →
      (∀ t L, Moved (S :: wr) Gr s t → TGot P w t.heap S L ks0 → (∀ b o, h0.get? b = some o → t.heap.get? b = some o) → R (.ok (.ret .none)) t) →
      codeAny (model P w) A (.builtin "set.update.loop" ⟨[.ref S, .ref I], []⟩) R s := by
  have sw : S ∉ wr := fun z => sf (W.sub _ z)
  have up : ∀ b ∈ wr, b ∈ S :: wr := fun b z => .tail _ z
  have kept : ∀ {s t : Shared}, Moved wr Gr s t → (∀ b o, h0.get? b = some o → s.heap.get? b = some o) → ∀ b o, h0.get? b = some o → t.heap.get? b = some o := fun mv kp b o e =>
    mv.heap b o (fun hb => by rw [hw0 b hb] at e; cases e) (kp b o e)
  intro m
  induction m with
  | zero =>
    intro i s hm hi st kp ⟨L, g, hl⟩ hR
    obtain rfl : i = n := by omega
    refine codeAny_builtin PyProof.Rows.F.entry_set_update_loop ?_
    rw [Around.under_plainId PyProof.Rows.F.plain_set_update_loop _]
    show wpAny _ A.in1 (pyNext (.ref I) >>= _) _ _ s
    refine wpAny_bind (W.done s _ _ st fun t mv => ?_)
    show wpAny _ A.in1 (ret Value.none) _ _ t
    rw [List.take_of_length_le (by omega)] at g
    obtain ⟨es, ep, tb, ts⟩ := g.ts
    exact wpAny_pure (hR t L (mv.mono up) ⟨⟨es, ep, tb, ts_keep ts (fun o e => mv.heap S o sw e) fun p hp => is_keep (hi0 p (g.sub p hp)) (kept mv kp)⟩, g.mem, g.sub⟩ (kept mv kp))
  | succ m ih =>
    intro i s hm hi st kp ⟨L, g, hl⟩ hR
    have lt : i < n := by omega
    refine codeAny_builtin PyProof.Rows.F.entry_set_update_loop ?_
    rw [Around.under_plainId PyProof.Rows.F.plain_set_update_loop _]
    show wpAny _ A.in1 (pyNext (.ref I) >>= _) _ _ s
    refine wpAny_bind (W.item i s _ _ lt st fun v t pv st1 mv => ?_)
    obtain ⟨p, hp, rfl⟩ := hv i v pv
    have kp1 := kept mv kp
    have sub0 : ∀ q ∈ L, q ∈ ks0 := fun q hq => List.mem_of_mem_take (g.sub q hq)
    obtain ⟨es, ep, tb, ts⟩ := g.ts
    have ts1 := ts_keep ts (fun o e => mv.heap S o sw e) fun q hq => is_keep (hi0 q (sub0 q hq)) kp1
    have hx : (nKd P w).is t.heap p.2 p.1 := is_keep (hi0 p (List.mem_of_getElem? hp)) kp1
    show wpAny _ A.in1 (holding [Value.ref p.1] (setAdd S (.ref p.1)) >>= _) _ _ t
    refine wpAny_bind (wpAny_holding ?_)
    unfold setAdd
    refine wpAny_holding (wpAny_bind ((nKd P w).pyHash hu hx ?_))
    refine ts_add (s := { t with toks := t.toks + (nKd P w).draws p.2 }) ts1 hx hu (room L ts1.nd sub0) fun b h' L2 es2 ep2 tb2 sb ts2 c1 c2 => ?_
    have g2 : TGot P w h' S L2 (ks0.take (i + 1)) ∧ L2.length ≤ i + 1 := by
      rw [List.take_add_one, hp]
      by_cases c : p.2 ∈ L.map (·.2)
      · cases c1 c
        refine ⟨⟨⟨es2, ep2, tb2, ts2⟩, fun k => ?_, fun q hq => List.mem_append_left _ (g.sub q hq)⟩, by omega⟩
        rw [List.map_append, List.mem_append, ← g.mem k]
        exact ⟨.inl, fun z => z.elim id fun z => by
          simp only [Option.toList, List.map_cons, List.map_nil, List.mem_singleton] at z
          exact z ▸ c⟩
      · have pm := c2 c
        refine ⟨⟨⟨es2, ep2, tb2, ts2⟩, fun k => ?_, fun q hq => ?_⟩, by rw [pm.length_eq, List.length_cons]; omega⟩
        · rw [(pm.map (·.2)).mem_iff, List.map_append, List.mem_append, ← g.mem k, List.map_cons, List.mem_cons]
          simp only [Option.toList, List.map_cons, List.map_nil, List.mem_singleton]
          exact Or.comm
        · rcases List.mem_cons.mp (pm.mem_iff.mp hq) with rfl | hq
          · exact List.mem_append_right _ (by simp)
          · exact List.mem_append_left _ (g.sub q hq)
    have kp2 : ∀ b o, h0.get? b = some o → h'.get? b = some o := fun b o e => (sb.2 b fun z => by rw [z, hS0] at e; cases e).trans (kp1 b o e)
    refine wpAny_pure ⟨plainId_quiet PyProof.Rows.F.plain_set_update_loop _, ih (i + 1) _ (by omega) lt (W.frame _ t _ _ st1 (Nat.le_add_right _ _) fun b hb o e => ?_) kp2 ⟨L2, g2⟩ fun t2 L3 mv2 g3 kp3 => ?_⟩
    · exact (sb.2 b fun z => sf (z ▸ hb)).trans e
    · refine hR t2 L3 (Moved.trans W.gtrans ((mv.mono up).then_heap (Nat.le_add_right _ _) fun b o hb e => ?_) mv2) g3 kp3
      exact (sb.2 b fun z => hb (z ▸ List.mem_cons_self)).trans e
set_option maxHeartbeats 3200000 in
theorem tset_list {l : Addr} {its : Array Value} (ks0 : List (Addr × NestedKey)) {Q : Value → Shared → Prop} (hh : A.handled = none) (hu : A.units + 64 < cLine) (hl : s.heap.IsList l its) (hit : its.toList = ks0.map fun p => Value.ref p.1) (hi : ∀ p ∈ ks0, (nKd P w).is s.heap p.2 p.1) (room : ∀ L : List (Addr × NestedKey), (L.map (·.2)).Nodup → (∀ p ∈ L, p ∈ ks0) → L.length + 1 < 64)
    (fin : ∀ h' tk ks, TGot P w h' s.heap.objs.size ks ks0 → (∀ b o, s.heap.get? b = some o → h'.get? b = some o) → Q (.ref s.heap.objs.size) { s with heap := h', toks := tk }) :
    wpAny (model P w) A (call (.type "set") [.ref l]) Q E s := by
  obtain ⟨mc, mt, hmro⟩ := PySem.F.called_set.mro
  have m1 := PySem.F.called_set.made
  have m2 := PySem.F.called_set.sub
  refine wpAny_call (codeAny_of_tree ?_)
  show wpAny _ _ (callAny (.type "set") _) _ _ _
  refine wpAny_pure ⟨Code.quiet_builtin _ (by decide +kernel), codeAny_builtin PySem.F.entry_type_call ?_⟩
  rw [Around.under_plain (weight_type_call_type "set" [.ref l] []) rfl]
  have m3 := PySem.F.called_set.notType
  have m4 := PySem.F.called_set.canCreate
  have m5 := PySem.F.typeCall_set_1 (.ref l)
  repeat (any_goals (first | assumption | wp_step))
  refine codeAny_mono (code_set_led1 (.ref l) (E := E) (Q₁ := fun v t => v = .ref s.heap.objs.size ∧ t = { s with heap := s.heap.push (bare w) }) ⟨rfl, rfl⟩) fun r1 t1 q1 => ?_
  cases r1 with
  | error e => exact q1
  | ok f1 =>
    cases f1 with
    | ret v1 =>
      obtain ⟨rfl, rfl⟩ := q1
      have g1 : (s.heap.push (bare w)).get? s.heap.objs.size = some (bare w) := Heap.get?_push_size _ rfl
      have ty : Shared.TypeIs { s with heap := s.heap.push (bare w) } (.ref s.heap.objs.size) "set" := ⟨_, g1, rfl⟩
      have m6 := PySem.F.called_set.init.lookup
      have m7 := PySem.F.called_set.init.bind (.ref s.heap.objs.size)
      repeat (any_goals (first | assumption | wp_step))
      refine codeAny_mono (codeAny_call_builtin (R := wants (fun r t => r = .none ∧ ∃ h' tk ks, t = { s with heap := h', toks := tk } ∧ TGot P w h' s.heap.objs.size ks ks0 ∧ (∀ b o, s.heap.get? b = some o → h'.get? b = some o)) E) PySem.F.called_set.init.plain PySem.F.entry_set_init (check_set_init_1 ty ?_)) fun r2 t2 q2 => ?_
      · obtain ⟨⟨oc, od, oda, os⟩, go, rfl, nl, rfl⟩ := hl
        have go1 : (s.heap.push (bare w)).get? l = some { cls := .type "list", dict := od, data := .seq its nl, slots := os } := Heap.get?_push_of_some _ go
        have d1 := PySem.F.sub_list_set
        have d2 := PySem.F.sub_list_frozenset
        have d3 : (Value.type "list" == Value.type "dict") = false := by decide
        have l1 : (s.heap.push (bare w)).IsList l its := ⟨_, go1, rfl, nl, rfl⟩
        unfold Builtin.«set.__init__» noKeywords Builtin.Frozenset.updateFrom
        generalize hPI : pyIter = PI
        wp_walk
        subst hPI
        refine wpAny_pyIter_list l1 (wpAny_bind (wpAny_runValue ?_))
        have z1 : (s.heap.push (bare w)).objs.size = s.heap.objs.size + 1 := Heap.size_push ..
        have lt := Heap.lt_size go
        have n1 : l ≠ (s.heap.push (bare w)).objs.size := by
          rw [z1]
          exact Nat.ne_of_lt (Nat.lt_succ_of_lt lt)
        have n2 : s.heap.objs.size ∉ [(s.heap.push (bare w)).objs.size, l] := by
          rw [z1]
          simp only [List.mem_cons, List.not_mem_nil, or_false, not_or]
          exact ⟨Nat.ne_of_lt (Nat.lt_succ_self _), Nat.ne_of_gt lt⟩
        have hz : its.size = ks0.length := by rw [← Array.length_toList, hit, List.length_map]
        have old : ∀ b, s.heap.objs.size ≤ b → s.heap.get? b = none := fun b hb => by
          cases q : s.heap.get? b with
          | none => rfl
          | some o => exact absurd (Nat.lt_of_lt_of_le (Heap.lt_size q) hb) (Nat.lt_irrefl _)
        refine tset_loop ((Walks.list (by simp [hh]) _ l n1 its).toS) s.heap.objs.size n2 ks0 hz room (fun i v e => ?_) s.heap hi (old _ (Nat.le_refl _)) (fun b hb => old b (by rw [List.mem_singleton.mp hb, z1]; exact Nat.le_succ _)) (by show A.units + 1 + 1 + 1 + 8 < cLine; omega) (its.size - 0) 0 _ (by omega) (Nat.zero_le _) ⟨⟨_, Heap.get?_push_size _ rfl, rfl, rfl⟩, l1.push _⟩ (fun b o e => Heap.get?_push_of_some _ (Heap.get?_push_of_some _ e)) ?first ?last
        · have q : its.toList[i]? = some v := by rw [Array.getElem?_toList]; exact e
          rw [hit, List.getElem?_map] at q
          obtain ⟨p, h1, h2⟩ := Option.map_eq_some_iff.mp q
          exact ⟨p, h1, h2.symm⟩
        case first =>
          exact ⟨[], ⟨⟨#[], 0, _, ts_bare (Heap.get?_push_of_some _ g1)⟩, fun k => by simp, fun p h => by cases h⟩, Nat.le_refl 0⟩
        case last =>
          intro t ks mv hK kp
          obtain ⟨h', g2, d', tk', os'⟩ := t
          have eg : g2 = s.gens := mv.gens
          have ed : d' = s.drawn := mv.drawn
          have eo : os' = s.os := mv.os
          subst eg ed eo
          show wpAny _ _ _ _ _ _
          refine wpAny_pure ?_
          show wpAny _ _ (ret Value.none) _ _ _
          exact wpAny_pure ⟨rfl, h', tk', ks, rfl, hK, kp⟩
      · cases r2 with
        | error e => exact q2
        | ok f2 =>
          cases f2 with
          | ret r =>
            obtain ⟨rfl, h', tk, ks, rfl, hK, kp⟩ := q2
            repeat (any_goals (first | assumption | wp_step))
            exact fin _ _ _ hK kp
          | _ => exact q2.elim
    | _ => exact q1.elim
set_option maxHeartbeats 3200000 in
theorem tset_tuple {l : Addr} {its : Array Value} (ks0 : List (Addr × NestedKey)) {Q : Value → Shared → Prop} (hh : A.handled = none) (hu : A.units + 64 < cLine) (hl : s.heap.IsTuple l its) (hit : its.toList = ks0.map fun p => Value.ref p.1) (hi : ∀ p ∈ ks0, (nKd P w).is s.heap p.2 p.1) (room : ∀ L : List (Addr × NestedKey), (L.map (·.2)).Nodup → (∀ p ∈ L, p ∈ ks0) → L.length + 1 < 64)
    (fin : ∀ h' tk ks, TGot P w h' s.heap.objs.size ks ks0 → (∀ b o, s.heap.get? b = some o → h'.get? b = some o) → Q (.ref s.heap.objs.size) { s with heap := h', toks := tk }) :
    wpAny (model P w) A (call (.type "set") [.ref l]) Q E s := by
  obtain ⟨mc, mt, hmro⟩ := PySem.F.called_set.mro
  have m1 := PySem.F.called_set.made
  have m2 := PySem.F.called_set.sub
  refine wpAny_call (codeAny_of_tree ?_)
  show wpAny _ _ (callAny (.type "set") _) _ _ _
  refine wpAny_pure ⟨Code.quiet_builtin _ (by decide +kernel), codeAny_builtin PySem.F.entry_type_call ?_⟩
  rw [Around.under_plain (weight_type_call_type "set" [.ref l] []) rfl]
  have m3 := PySem.F.called_set.notType
  have m4 := PySem.F.called_set.canCreate
  have m5 := PySem.F.typeCall_set_1 (.ref l)
  repeat (any_goals (first | assumption | wp_step))
  refine codeAny_mono (code_set_led1 (.ref l) (E := E) (Q₁ := fun v t => v = .ref s.heap.objs.size ∧ t = { s with heap := s.heap.push (bare w) }) ⟨rfl, rfl⟩) fun r1 t1 q1 => ?_
  cases r1 with
  | error e => exact q1
  | ok f1 =>
    cases f1 with
    | ret v1 =>
      obtain ⟨rfl, rfl⟩ := q1
      have g1 : (s.heap.push (bare w)).get? s.heap.objs.size = some (bare w) := Heap.get?_push_size _ rfl
      have ty : Shared.TypeIs { s with heap := s.heap.push (bare w) } (.ref s.heap.objs.size) "set" := ⟨_, g1, rfl⟩
      have m6 := PySem.F.called_set.init.lookup
      have m7 := PySem.F.called_set.init.bind (.ref s.heap.objs.size)
      repeat (any_goals (first | assumption | wp_step))
      refine codeAny_mono (codeAny_call_builtin (R := wants (fun r t => r = .none ∧ ∃ h' tk ks, t = { s with heap := h', toks := tk } ∧ TGot P w h' s.heap.objs.size ks ks0 ∧ (∀ b o, s.heap.get? b = some o → h'.get? b = some o)) E) PySem.F.called_set.init.plain PySem.F.entry_set_init (check_set_init_1 ty ?_)) fun r2 t2 q2 => ?_
      · obtain ⟨⟨oc, od, oda, os⟩, go, rfl, nl, rfl⟩ := hl
        have go1 : (s.heap.push (bare w)).get? l = some { cls := .type "tuple", dict := od, data := .seq its nl, slots := os } := Heap.get?_push_of_some _ go
        have d1 := PySem.F.sub_tuple_set
        have d2 := PySem.F.sub_tuple_frozenset
        have d3 : (Value.type "tuple" == Value.type "dict") = false := by decide
        have l1 : (s.heap.push (bare w)).IsTuple l its := ⟨_, go1, rfl, nl, rfl⟩
        unfold Builtin.«set.__init__» noKeywords Builtin.Frozenset.updateFrom
        generalize hPI : pyIter = PI
        wp_walk
        subst hPI
        refine wpAny_pyIter_tuple l1 (wpAny_bind (wpAny_runValue ?_))
        have z1 : (s.heap.push (bare w)).objs.size = s.heap.objs.size + 1 := Heap.size_push ..
        have lt := Heap.lt_size go
        have n1 : l ≠ (s.heap.push (bare w)).objs.size := by
          rw [z1]
          exact Nat.ne_of_lt (Nat.lt_succ_of_lt lt)
        have n2 : s.heap.objs.size ∉ [(s.heap.push (bare w)).objs.size, l] := by
          rw [z1]
          simp only [List.mem_cons, List.not_mem_nil, or_false, not_or]
          exact ⟨Nat.ne_of_lt (Nat.lt_succ_self _), Nat.ne_of_gt lt⟩
        have hz : its.size = ks0.length := by rw [← Array.length_toList, hit, List.length_map]
        have old : ∀ b, s.heap.objs.size ≤ b → s.heap.get? b = none := fun b hb => by
          cases q : s.heap.get? b with
          | none => rfl
          | some o => exact absurd (Nat.lt_of_lt_of_le (Heap.lt_size q) hb) (Nat.lt_irrefl _)
        refine tset_loop ((Walks.tuple (by simp [hh]) _ l n1 its).toS) s.heap.objs.size n2 ks0 hz room (fun i v e => ?_) s.heap hi (old _ (Nat.le_refl _)) (fun b hb => old b (by rw [List.mem_singleton.mp hb, z1]; exact Nat.le_succ _)) (by show A.units + 1 + 1 + 1 + 8 < cLine; omega) (its.size - 0) 0 _ (by omega) (Nat.zero_le _) ⟨⟨_, Heap.get?_push_size _ rfl, rfl, rfl⟩, l1.push _⟩ (fun b o e => Heap.get?_push_of_some _ (Heap.get?_push_of_some _ e)) ?first ?last
        · have q : its.toList[i]? = some v := by rw [Array.getElem?_toList]; exact e
          rw [hit, List.getElem?_map] at q
          obtain ⟨p, h1, h2⟩ := Option.map_eq_some_iff.mp q
          exact ⟨p, h1, h2.symm⟩
        case first =>
          exact ⟨[], ⟨⟨#[], 0, _, ts_bare (Heap.get?_push_of_some _ g1)⟩, fun k => by simp, fun p h => by cases h⟩, Nat.le_refl 0⟩
        case last =>
          intro t ks mv hK kp
          obtain ⟨h', g2, d', tk', os'⟩ := t
          have eg : g2 = s.gens := mv.gens
          have ed : d' = s.drawn := mv.drawn
          have eo : os' = s.os := mv.os
          subst eg ed eo
          show wpAny _ _ _ _ _ _
          refine wpAny_pure ?_
          show wpAny _ _ (ret Value.none) _ _ _
          exact wpAny_pure ⟨rfl, h', tk', ks, rfl, hK, kp⟩
      · cases r2 with
        | error e => exact q2
        | ok f2 =>
          cases f2 with
          | ret r =>
            obtain ⟨rfl, h', tk, ks, rfl, hK, kp⟩ := q2
            repeat (any_goals (first | assumption | wp_step))
            exact fin _ _ _ hK kp
          | _ => exact q2.elim
    | _ => exact q1.elim
end
end PF
set_option Elab.async false
set_option linter.all false
set_option maxRecDepth 100000
set_option maxHeartbeats 1000000
namespace PF
open PySem PySem.Spec PyProof.Rows L2
mutual
theorem key_eqv : ∀ a b : D, keyIn a = true → keyIn b = true → PyData.eqv a.py b.py = true → a = b
  | .non, b, _, hb, e => by cases b <;> first | rfl | (cases hb; done) | (simp [D.py, PyData.eqv] at e)
  | .int i, b, _, hb, e => by
    cases b <;> first | (cases hb; done) | (simp [D.py, PyData.eqv] at e; done) | skip
    simp only [D.py, PyData.eqv, beq_iff_eq, decide_eq_true_eq] at e
    rw [e]
  | .str x, b, _, hb, e => by
    cases b <;> first | (cases hb; done) | (simp [D.py, PyData.eqv] at e; done) | skip
    simp only [D.py, PyData.eqv, beq_iff_eq, decide_eq_true_eq] at e
    rw [e]
  | .tup ds, b, ha, hb, e => by
    cases b with
    | tup es =>
      simp only [keyIn] at ha hb
      simp only [D.py, PyData.eqv] at e
      rw [keys_eqv ds es ha hb e]
    | _ => first | (cases hb; done) | (simp [D.py, PyData.eqv] at e)
  | .bl _, _, h, _, _ => by cases h
  | .lst _, _, h, _, _ => by cases h
  | .dct _ _, _, h, _, _ => by cases h
  | .ins _ _ _, _, h, _, _ => by cases h
theorem keys_eqv : ∀ as bs : List D, keyIns as = true → keyIns bs = true → PyData.eqvAll (D.pys as) (D.pys bs) = true → as = bs
  | [], bs, _, _, e => by
    cases bs with
    | nil => rfl
    | cons b bs => simp [D.pys, PyData.eqvAll] at e
  | a :: as, bs, ha, hb, e => by
    cases bs with
    | nil => simp [D.pys, PyData.eqvAll] at e
    | cons b bs =>
      simp only [keyIns, Bool.and_eq_true] at ha hb
      simp only [D.pys, PyData.eqvAll, Bool.and_eq_true] at e
      rw [key_eqv a b ha.1 hb.1 e.1, keys_eqv as bs ha.2 hb.2 e.2]
end
theorem toks_key {a b : D} (ha : keyIn a = true) (hb : keyIn b = true) (al : D.alk a b = true) (e : W.keyToks a.py = W.keyToks b.py) : a = b := by
  refine key_eqv a b ha hb ?_
  cases h : PyData.eqv a.py b.py with
  | true => rfl
  | false =>
    have q := (W.toks_eqv a.py b.py al).2 h [.inl 0] [.inl 1]
    have ir : PyProof.Rows.lexLt itemOrd (W.keyToks b.py) (W.keyToks b.py) = false := (listOrd itemOrd).irrefl _
    rw [e, W.lex_pre, ir] at q
    exact absurd q (by decide)
theorem dLe_trans (a b c : D) (h1 : D.le a b = true) (h2 : D.le b c = true) : D.le a c = true := by
  unfold D.le at h1 h2 ⊢
  rw [Bool.not_eq_true'] at h1 h2 ⊢
  cases h : D.lt c a with
  | false => rfl
  | true =>
    rcases (listOrd itemOrd).negTrans _ (W.keyToks b.py) _ h with q | q
    · have q' : D.lt c b = true := q
      rw [q'] at h2; cases h2
    · have q' : D.lt b a = true := q
      rw [q'] at h1; cases h1
theorem dLe_total (a b : D) : (D.le a b || D.le b a) = true := by
  unfold D.le
  cases h : D.lt b a with
  | false => rfl
  | true =>
    cases h2 : D.lt a b with
    | false => rfl
    | true =>
      have q := (listOrd itemOrd).trans _ _ _ h h2
      rw [(listOrd itemOrd).irrefl] at q
      cases q
theorem srt_permK {ds es : List D} (p : ds.Perm es) (hk : ∀ d ∈ ds, keyIn d = true) (al : ∀ a ∈ ds, ∀ b ∈ ds, D.alk a b = true) : srt ds = srt es := by
  unfold srt
  refine List.Perm.eq_of_pairwise (le := fun a b => D.le a b = true) ?_ (List.pairwise_mergeSort dLe_trans dLe_total _) (List.pairwise_mergeSort dLe_trans dLe_total _) (((List.mergeSort_perm _ _).trans p).trans (List.mergeSort_perm _ _).symm)
  intro a b ma mb h1 h2
  have ma' : a ∈ ds := (List.mergeSort_perm _ _).mem_iff.mp ma
  have mb' : b ∈ ds := p.mem_iff.mpr ((List.mergeSort_perm _ _).mem_iff.mp mb)
  unfold D.le at h1 h2
  rw [Bool.not_eq_true'] at h1 h2
  exact toks_key (hk a ma') (hk b mb') (al a ma' b mb') ((listOrd itemOrd).total _ _ h2 h1)
theorem each_permG {β : Type} {R : Value → β → Prop} {vs us : List Value} (p : vs.Perm us) : ∀ {ds : List β}, W.EachIs R us ds → ∃ es, W.EachIs R vs es ∧ es.Perm ds := by
  induction p with
  | nil => exact fun {ds} h => ⟨ds, h, .refl _⟩
  | cons x _ ih =>
    intro ds h
    cases h with
    | cons h1 h2 =>
      obtain ⟨es, e1, e2⟩ := ih h2
      exact ⟨_ :: es, .cons h1 e1, e2.cons _⟩
  | swap x y l =>
    intro ds h
    cases h with
    | cons h1 h2 =>
      cases h2 with
      | cons h2 h3 => exact ⟨_ :: _ :: _, .cons h2 (.cons h1 h3), .swap ..⟩
  | trans _ _ ih1 ih2 =>
    intro ds h
    obtain ⟨es, e1, e2⟩ := ih2 h
    obtain ⟨fs, f1, f2⟩ := ih1 e1
    exact ⟨fs, f1, f2.trans e2⟩
def TSO (P : Program) (w : World) (a : Addr) (L : List (Addr × NestedKey)) : HO := .ext fun h => ∃ es ep t, (∃ o, h.get? a = some o ∧ o.ExactSet ∧ o.data = .set es ep t) ∧ es.toList = L.map (tent P w) ∧ TabOk t (L.map (nh P w)) ∧ (w.params.followText "set-order" = true ∨ t.led = true) ∧ L.length * 5 < t.mask * 3 ∧ L.length < 64
theorem tso_new {P : Program} {w : World} {H : Hp} {h : Heap} {a : Addr} {L : List (Addr × NestedKey)} (g : ∃ es ep t, TuS P w h a L es ep t) : ObjOk P w H h a (TSO P w a L) := by
  obtain ⟨es, ep, t, R⟩ := g
  obtain ⟨o, go, r⟩ := R.ob
  refine ⟨⟨es, ep, t, ⟨o, go, r⟩, R.rows, R.tab, R.led, R.room, R.few⟩, ⟨o, go⟩, ?_⟩
  rintro h1 h2 ⟨es, ep, t, ⟨o, go, r⟩, r2⟩ k
  exact ⟨es, ep, t, ⟨o, k o go, r⟩, r2⟩
section
variable {X : Cx} {G : Gp} {F : Addr → Prop} {H : Hp}
/-- the members of the set at hand: items of ds, as they stand -/
structure Mem (G : Gp) (F : Addr → Prop) (H : Hp) (ds : List D) (L : List (Addr × NestedKey)) : Prop where
  sub : ∀ q ∈ L, ∃ d ∈ ds, q.2 = nk d ∧ relF G F H d (.ref q.1)
  all : ∀ d ∈ ds, nk d ∈ L.map (·.2)
  nd : (L.map (·.2)).Nodup
theorem keys_at : ∀ {ds : List D} {ys : List V}, relFs G F H ds ys → ds.all keyTup = true → ∃ ks : List (Addr × NestedKey), ys = ks.map (fun p => V.ref p.1) ∧ ds.map nk = ks.map (·.2) ∧ ∀ q ∈ ks, ∃ d ∈ ds, q.2 = nk d ∧ relF G F H d (.ref q.1)
  | [], ys, h, _ => by
    simp only [relFs] at h
    exact ⟨[], h, rfl, fun q z => by cases z⟩
  | d :: ds, ys, h, hk => by
    simp only [relFs] at h
    obtain ⟨y, r, rfl, h1, h2⟩ := h
    simp only [List.all_cons, Bool.and_eq_true] at hk
    obtain ⟨ks, rfl, e2, e3⟩ := keys_at h2 hk.2
    have : ∃ b, y = .ref b := by
      cases d with
      | tup es =>
        simp only [relF] at h1
        obtain ⟨b, _, e, _⟩ := h1
        exact ⟨b, e⟩
      | _ => cases hk.1
    obtain ⟨b, rfl⟩ := this
    refine ⟨(b, nk d) :: ks, rfl, by rw [List.map_cons, e2]; rfl, fun q hq => ?_⟩
    rcases List.mem_cons.mp hq with rfl | hq
    · exact ⟨d, .head _, rfl, h1⟩
    · obtain ⟨d', m, r⟩ := e3 q hq
      exact ⟨d', .tail _ m, r⟩
theorem lenSubN {α : Type} [DecidableEq α] : ∀ {a b : List α}, a.Nodup → (∀ x ∈ a, x ∈ b) → a.length ≤ b.length
  | [], b, _, _ => Nat.zero_le _
  | x :: a, b, h, k => by
    rw [List.nodup_cons] at h
    have hx : x ∈ b := k x (.head _)
    have := lenSubN (a := a) (b := b.erase x) h.2 fun y hy => (List.mem_erase_of_ne fun e => h.1 (by rw [← e]; exact hy)).mpr (k y (.tail _ hy))
    rw [List.length_erase_of_mem hx] at this
    have := List.length_pos_of_mem hx
    rw [List.length_cons]
    omega
theorem room_of {ks : List (Addr × NestedKey)} {ds : List D} (e2 : ds.map nk = ks.map (·.2)) (hl : (firsts ds).length ≤ 62) : ∀ L : List (Addr × NestedKey), (L.map (·.2)).Nodup → (∀ p ∈ L, p ∈ ks) → L.length + 1 < 64 := fun L hn hs => by
  have := lenSubN (b := (firsts ds).map nk) hn fun k hk => by
    obtain ⟨p, hp, rfl⟩ := List.mem_map.mp hk
    have : p.2 ∈ ds.map nk := by rw [e2]; exact List.mem_map.mpr ⟨p, hs p hp, rfl⟩
    obtain ⟨d, hd, e⟩ := List.mem_map.mp this
    exact List.mem_map.mpr ⟨d, firsts_mem.mpr hd, e⟩
  rw [List.length_map, List.length_map] at this
  omega
def rSetN (X : Cx) (G : Gp) : List V → Hp → VK → Prop := fun xs H Q => ∃ x Fz a ds, xs = [x] ∧ seq? a = some ds ∧ relR G Fz H a x ∧ ds.all keyTup = true ∧ (firsts ds).length ≤ 62 ∧ ∀ L p, Mem G Fz H ds L → H p = none → Q (.ref p) (upd H p (TSO X.prog X.w p L))
theorem cr_setN (hc : X.calm = true) (hK : X.K = G.K) (hu : X.A.units + 64 < cLine) : CallR X (.type "set") (rSetN X G) := by
  rintro pins s σ H xs us Q I rs ⟨x, Fz, a, ds, rfl, ha, h1, hk, hl, q⟩
  rcases (seq_inv ha).symm with rfl | rfl
  · obtain ⟨p, ys, rfl, t1, f1⟩ := rLst h1
    rw [Vals.ref1 rs]
    obtain ⟨its, rv, pl, hz⟩ := I.list (.inl t1)
    obtain ⟨ks, rfl, e2, e3⟩ := keys_at f1 hk
    have zl : ks.length = ds.length := by
      have := congrArg List.length e2
      rw [List.length_map, List.length_map] at this
      exact this.symm
    have eit : its = ks.map fun p => Value.ref p.1 := by
      clear e2 e3 f1 t1 h1 zl pl hz
      induction ks generalizing its with
      | nil => cases rv; rfl
      | cons k ks ih =>
        rw [List.map_cons] at rv
        cases rv with
        | cons r1 r2 =>
          rw [ih _ r2, List.map_cons]
          congr 1
    have his : ∀ p ∈ ks, (nKd X.prog X.w).is s.heap p.2 p.1 := fun p hp => by
      obtain ⟨d, hd, e, r⟩ := e3 p hp
      obtain ⟨b, eb, z⟩ := key_is hK I (List.all_eq_true.mp hk d hd) (relR_of_relF r)
      injection eb with eb
      rw [e, eb]
      exact z
    refine tset_list ks (I.ok.hd hc) hu pl.isList (by simpa using eit) his (room_of e2 hl) fun h' tk L g kp => ?_
    refine ⟨.ref s.heap.objs.size, _, I.laid (t' := tk) kp (Nat.le_refl _) (tso_new g.ts), rfl, q L _ ⟨fun q hq => e3 q (g.sub q hq), fun d hd => ?_, ?_⟩ (I.hok.fresh (Nat.le_refl _))⟩
    · rw [g.mem, ← e2]
      exact List.mem_map.mpr ⟨d, hd, rfl⟩
    · obtain ⟨_, _, _, R⟩ := g.ts
      exact R.nd
  · obtain ⟨p, ys, rfl, t1, f1⟩ := rTup h1
    rw [Vals.ref1 rs]
    obtain ⟨its, rv, pl, hz⟩ := I.tuple (hK ▸ t1)
    obtain ⟨ks, rfl, e2, e3⟩ := keys_at f1 hk
    have zl : ks.length = ds.length := by
      have := congrArg List.length e2
      rw [List.length_map, List.length_map] at this
      exact this.symm
    have eit : its = ks.map fun p => Value.ref p.1 := by
      clear e2 e3 f1 t1 h1 zl pl hz
      induction ks generalizing its with
      | nil => cases rv; rfl
      | cons k ks ih =>
        rw [List.map_cons] at rv
        cases rv with
        | cons r1 r2 =>
          rw [ih _ r2, List.map_cons]
          congr 1
    have his : ∀ p ∈ ks, (nKd X.prog X.w).is s.heap p.2 p.1 := fun p hp => by
      obtain ⟨d, hd, e, r⟩ := e3 p hp
      obtain ⟨b, eb, z⟩ := key_is hK I (List.all_eq_true.mp hk d hd) (relR_of_relF r)
      injection eb with eb
      rw [e, eb]
      exact z
    refine tset_tuple ks (I.ok.hd hc) hu pl (by simpa using eit) his (room_of e2 hl) fun h' tk L g kp => ?_
    refine ⟨.ref s.heap.objs.size, _, I.laid (t' := tk) kp (Nat.le_refl _) (tso_new g.ts), rfl, q L _ ⟨fun q hq => e3 q (g.sub q hq), fun d hd => ?_, ?_⟩ (I.hok.fresh (Nat.le_refl _))⟩
    · rw [g.mem, ← e2]
      exact List.mem_map.mpr ⟨d, hd, rfl⟩
    · obtain ⟨_, _, _, R⟩ := g.ts
      exact R.nd
/-- the members, with their values -/
theorem mem_pairs : ∀ {L : List (Addr × NestedKey)} {ds : List D}, ds.all keyTup = true → (∀ q ∈ L, ∃ d ∈ ds, q.2 = nk d ∧ relF G F H d (.ref q.1)) →
    ∃ bs : List (D × V), W.EachIs (fun v (b : D × V) => (RelV b.2 v ∧ relF G F H b.1 b.2) ∧ keyTup b.1 = true) (L.map fun p => Value.ref p.1) bs ∧ bs.map (fun b => nk b.1) = L.map (·.2) ∧ ∀ b ∈ bs, b.1 ∈ ds
  | [], ds, _, _ => ⟨[], .nil, rfl, fun b h => by cases h⟩
  | q :: L, ds, hk, h => by
    obtain ⟨d, hd, e, r⟩ := h q (.head _)
    obtain ⟨bs, g1, g2, g3⟩ := mem_pairs (L := L) hk fun x hx => h x (.tail _ hx)
    refine ⟨(d, .ref q.1) :: bs, .cons ⟨⟨rfl, r⟩, List.all_eq_true.mp hk d hd⟩ g1, by rw [List.map_cons, List.map_cons, g2, e], fun b hb => ?_⟩
    rcases List.mem_cons.mp hb with rfl | hb
    · exact hd
    · exact g3 b hb
theorem mem_perm {ds : List D} {bs : List (D × V)} {L : List (Addr × NestedKey)} (hk : ds.all keyTup = true) (M : Mem G F H ds L) (e : bs.map (fun b => nk b.1) = L.map (·.2)) (hs : ∀ b ∈ bs, b.1 ∈ ds) : (bs.map (·.1)).Perm (firsts ds) := by
  have kt : ∀ d ∈ ds, keyTup d = true := List.all_eq_true.mp hk
  refine (List.perm_ext_iff_of_nodup ?_ (firsts_nodup _)).mpr fun d => ?_
  · have n := M.nd
    rw [← e] at n
    exact nodup_of_map (f := nk) (by rw [List.map_map]; exact n)
  · rw [firsts_mem, List.mem_map]
    constructor
    · rintro ⟨b, hb, rfl⟩
      exact hs b hb
    · intro hd
      have n := M.all d hd
      rw [← e] at n
      obtain ⟨b, hb, z⟩ := List.mem_map.mp n
      exact ⟨b, hb, keyTup_inj (kt _ (hs b hb)) (kt d hd) z⟩
def rSortedN (X : Cx) (G : Gp) : List V → Hp → VK → Prop := fun xs H Q => ∃ (p : Addr) (L : List (Addr × NestedKey)) (Fz : Addr → Prop) (ds : List D), xs = [.ref p] ∧ H p = some (TSO X.prog X.w p L) ∧ Mem G Fz H ds L ∧ ds.all keyTup = true ∧ sortableK ds = true ∧
  ∀ z H', resOk G Fz H true (.lst (srt (firsts ds))) z H' → Q z H'
theorem cr_sortedN (hc : X.calm = true) (hK : X.K = G.K) (hu : X.A.units + 64 < cLine) : CallR X (.builtin "sorted") (rSortedN X G) := by
  rintro pins s σ H xs us Q I rs ⟨p, L, Fz, ds, rfl, ha, M, hk, so, q⟩
  rw [Vals.ref1 rs]
  obtain ⟨⟨es, ep, t, ⟨o, go, gx, gd⟩, rows, tab, led, room, few⟩, _⟩ := I.hok p _ ha
  obtain ⟨bs, g1, g2, g3⟩ := mem_pairs hk M.sub
  have pm := mem_perm hk M g2 g3
  have zl := rows_len rows
  have kt : ∀ d ∈ ds, keyTup d = true := List.all_eq_true.mp hk
  simp only [Bool.and_eq_true, sortableK] at so
  have sa := List.all_eq_true.mp so.1
  have lb : bs.length = L.length := by
    have := congrArg List.length g2
    rw [List.length_map, List.length_map] at this
    exact this
  refine Calls.call_function_entry kind_sorted plain_sorted entry_sorted (args_sorted1 _) ?_
  unfold Builtin.«sorted»
  refine wpAny_bind (m := checkCount "sorted" 1 1 _) (wpAny_pure (wpAny_bind ?_))
  refine collect_set (A := X.A.in1) (I.ok.hd hc) ⟨o, go, gx.1, gd⟩ (by
    have q := fits_of tab (by rw [List.length_map]; omega)
    rwa [List.length_map, ← zl] at q) (by unfold scanBound; omega) tab.ris led fun s1 vs k1 hz gn os1 pv => ?_
  have pv2 : vs.Perm (L.map fun p => Value.ref p.1) := by
    have e : es.toList.map (·.2) = L.map fun p => Value.ref p.1 := by
      rw [rows, List.map_map]
      rfl
    rwa [e] at pv
  obtain ⟨cs, e1, pc⟩ := each_permG pv2 g1
  have lv : vs.length = L.length := by rw [e1.length, pc.length_eq, lb]
  refine wpAny_bind (wpAny_newList ?_ (by rw [lv, sizeLine_eq]; omega))
  have gL : (s1.heap.push (seqObj "list" vs.toArray 0)).get? s1.heap.objs.size = some (seqObj "list" vs.toArray 0) := Heap.get?_push_size _ rfl
  have kp2 : ∀ b o, s.heap.get? b = some o → (s1.heap.push (seqObj "list" vs.toArray 0)).get? b = some o := fun b o e => Heap.get?_push_of_some _ (k1 b o e)
  have er : W.EachIs (fun v (b : D × V) => ∃ as, Reads (s1.heap.push (seqObj "list" vs.toArray 0)) v b.1.py as ∧ s1.heap.objs.size ∉ as) vs cs := e1.mono fun v b ⟨⟨r1, r2⟩, r3⟩ => by
    have kn := (keyTup_in r3).1
    obtain ⟨as, r⟩ := reads_of hK I (keyIn_pl _ kn) (relR_of_relF r2) r1
    refine ⟨as, Reads.keeps kp2 r, ?_⟩
    rw [(nest_of _ _ _ kn r).2]
    simp
  have cds : ∀ b ∈ cs, b.1 ∈ ds := fun b hb => g3 b (pc.mem_iff.mp hb)
  have al : W.AllAlike (cs.map fun b => b.1.py) := by
    intro x hx y hy
    obtain ⟨x', hx', rfl⟩ := List.mem_map.mp hx
    obtain ⟨y', hy', rfl⟩ := List.mem_map.mp hy
    have := sa _ (cds x' hx')
    simp only [Bool.and_eq_true] at this
    exact List.all_eq_true.mp this.2 _ (cds y' hy')
  refine wpAny_bind (wpAny_holding (sort_mix (s := { s1 with heap := s1.heap.push (seqObj "list" vs.toArray 0) }) (R := prR G Fz H) (enc := fun b : D × V => b.1.py) gL (e1.mono fun v b z => z.1) er al ?_ (by rw [← e1.length, lv, sizeLine_eq]; omega) ?_ fun out ho eo => ?_))
  · intro x hx
    obtain ⟨b, hb, rfl⟩ := List.mem_map.mp hx
    have := kt _ (cds b hb)
    cases e : b.1 <;> rw [e] at this <;> first | (cases this; done) | exact ⟨_, rfl⟩
  · intro b hb
    have h0 := (keyTup_in (kt _ (cds b hb))).2
    rw [dep_py _ (keyIn_pl _ (keyTup_in (kt _ (cds b hb))).1)]
    show X.A.units + 1 + 1 + _ < cLine
    omega
  · obtain ⟨p1, p2⟩ := each_back eo
    rw [srt_fst] at p1
    have es : srt (cs.map (·.1)) = srt (firsts ds) := by
      refine srt_permK ((pc.map (·.1)).trans pm) (fun d hd => ?_) fun a ma b mb => ?_
      · obtain ⟨b, hb, rfl⟩ := List.mem_map.mp hd
        exact (keyTup_in (kt _ (cds b hb))).1
      · obtain ⟨x', hx', rfl⟩ := List.mem_map.mp ma
        obtain ⟨y', hy', rfl⟩ := List.mem_map.mp mb
        have := sa _ (cds x' hx')
        simp only [Bool.and_eq_true] at this
        exact List.all_eq_true.mp this.2 _ (cds y' hy')
    rw [es] at p1
    obtain ⟨c, hc'⟩ := sortedHeap_at (vs := vs) (out := out.toArray) gL
    have hn : H s1.heap.objs.size = none := I.hok.fresh hz
    have k3 : ∀ b o, s.heap.get? b = some o → (sortedHeap (s1.heap.push (seqObj "list" vs.toArray 0)) s1.heap.objs.size vs out.toArray).get? b = some o := fun b o e => by
      have lt := Heap.lt_size (k1 b o e)
      rw [sortedHeap_old (Nat.ne_of_lt lt) (by rw [size_push']; exact Nat.lt_succ_of_lt lt)]
      exact kp2 b o e
    have lz : ((cs.mergeSort (W.dataLe false fun b => b.1.py)).map (·.2)).length ≤ sizeLine := by
      rw [List.length_map, List.length_mergeSort, ← e1.length, lv, sizeLine_eq]; omega
    have J : Inv X pins σ (upd H s1.heap.objs.size (.lst ((cs.mergeSort (W.dataLe false fun b => b.1.py)).map (·.2)))) { s with heap := sortedHeap (s1.heap.push (seqObj "list" vs.toArray 0)) s1.heap.objs.size vs out.toArray, gens := s1.gens, drawn := s1.drawn, toks := s1.toks } :=
      I.call (ch := []) (Un.laid k3 hz hn) (I.hok.laid k3 hz (show ObjOk X.prog X.w _ _ _ (.lst _) from ⟨lz, out, c, p2, hc'⟩)) (by rw [gn]; exact I.bare) (fun _ z => nomatch z)
    obtain ⟨h1, g1', d1, t1, o1⟩ := s1
    cases os1
    exact wpAny_pure ⟨_, rfl, .ref h1.objs.size, _, J, rfl, q _ _ (resL hn p1)⟩
def rLenN (X : Cx) (G : Gp) : List V → Hp → VK → Prop := fun xs H Q => ∃ (p : Addr) (L : List (Addr × NestedKey)) (Fz : Addr → Prop) (ds : List D), xs = [.ref p] ∧ H p = some (TSO X.prog X.w p L) ∧ Mem G Fz H ds L ∧ ds.all keyTup = true ∧ Q (.int (firsts ds).length) H
theorem cr_lenN : CallR X (.builtin "len") (rLenN X G) := by
  rintro pins s σ H xs us Q I rs ⟨p, L, Fz, ds, rfl, ha, M, hk, q⟩
  rw [Vals.ref1 rs]
  obtain ⟨⟨es, ep, t, ⟨o, go, gx, gd⟩, rows, tab, led, room, few⟩, _⟩ := I.hok p _ ha
  obtain ⟨bs, g1, g2, g3⟩ := mem_pairs hk M.sub
  have pm := (mem_perm hk M g2 g3).length_eq
  have zl := rows_len rows
  have lb : bs.length = L.length := by
    have := congrArg List.length g2
    rw [List.length_map, List.length_map] at this
    exact this
  rw [List.length_map] at pm
  have e : es.size = (firsts ds).length := by omega
  refine call_len_set go gx gd (by
    have q := fits_of tab (by rw [List.length_map]; omega)
    rwa [List.length_map, ← zl] at q) (by omega) ⟨.int (firsts ds).length, H, I.tok _, ⟨_, by rw [e]⟩, q⟩
theorem Mem.grow {ds : List D} {L : List (Addr × NestedKey)} {p : Addr} {o : HO} (M : Mem G F H ds L) (hp : H p = none) : Mem G F (upd H p o) ds L :=
  ⟨fun q hq => by
    obtain ⟨d, hd, e, r⟩ := M.sub q hq
    have := relFs_grow (grow_new (o := o) hp) (ds := [d]) (xs := [.ref q.1]) (by simp only [relFs]; exact ⟨_, _, rfl, r, rfl⟩)
    simp only [relFs] at this
    obtain ⟨_, _, e2, r2, _⟩ := this
    cases e2
    exact ⟨d, hd, e, r2⟩, M.all, M.nd⟩
theorem resOk.grow {ds : List D} {z : V} {H' : Hp} {p : Addr} {o : HO} (hp : H p = none) (h : resOk G F (upd H p o) true (.lst ds) z H') : resOk G F H true (.lst ds) z H' := by
  obtain ⟨g, r⟩ := h
  refine ⟨fun a u e => g a u (grow_new hp a u e), ?_⟩
  rw [if_pos rfl] at r ⊢
  obtain ⟨q, e1, e2, ys, e3, e4⟩ := r
  refine ⟨q, e1, ?_, ys, e3, e4⟩
  by_cases c : q = p
  · rw [c]; exact hp
  · rwa [upd_ne c] at e2
def rSetA (X : Cx) (G : Gp) : List V → Hp → VK → Prop := fun xs H Q => rSetK X G xs H Q ∨ rSetN X G xs H Q
def rSortedA (X : Cx) (G : Gp) : List V → Hp → VK → Prop := fun xs H Q => rSortedK X xs H Q ∨ rSortedN X G xs H Q
def rLenA (X : Cx) (G : Gp) : List V → Hp → VK → Prop := fun xs H Q => rLenK X xs H Q ∨ rLenN X G xs H Q
theorem cr_or {f : Value} {r r' : List V → Hp → VK → Prop} (h : CallR X f r) (h' : CallR X f r') : CallR X f (fun xs H Q => r xs H Q ∨ r' xs H Q) := fun pins s σ H xs us Q I rs q => q.elim (h pins s σ H xs us Q I rs) (h' pins s σ H xs us Q I rs)
theorem ss_rP (v : V) {Q : VK} (h : rP G .sortedSet [v] H Q) : rSetA X G [v] H fun p H2 => rSortedA X G [p] H2 Q := by
  obtain ⟨Fz, ds0, o, d, hr, e, k⟩ := h
  obtain ⟨a, rfl, h1⟩ := rr1 hr
  have e : pSortedSet a = some (o, d) := e
  unfold pSortedSet at e
  cases e1 : seq? a with
  | none => rw [e1] at e; cases e
  | some ds =>
    rw [e1, Option.bind_some] at e
    split at e
    · rename_i hz
      cases e
      simp only [Bool.and_eq_true, decide_eq_true_eq] at hz
      obtain ⟨hz, hL⟩ := hz
      have lf : ds.all keyLeaf = true := by
        rcases Bool.or_eq_true _ _ |>.mp hz with hz | hz
        · exact List.all_eq_true.mpr fun d hd => by
            have := List.all_eq_true.mp hz d hd
            cases d <;> first | (cases this; done) | rfl
        · exact List.all_eq_true.mpr fun d hd => by
            have := List.all_eq_true.mp hz d hd
            cases d <;> first | (cases this; done) | rfl
      refine .inl ⟨v, Fz, a, ds, rfl, e1, h1, lf, hL, fun ks p ek hp => .inl ⟨p, ks, rfl, upd_same, ?_, fun q zs hq ez => k _ _ ?_⟩⟩
      · rw [← ek]
        exact (Bool.or_eq_true _ _ |>.mp hz).imp List.all_eq_true.mp List.all_eq_true.mp
      · have hqp : H q = none := by
          by_cases c : q = p
          · rw [c]; exact hp
          · rwa [upd_ne c] at hq
        rw [ek, ez]
        refine ⟨fun a u ea => grow_new hq a u (grow_new hp a u ea), ?_⟩
        rw [if_pos rfl]
        exact ⟨q, rfl, hqp, zs.map kV, upd_same, relFs_kD_mk zs⟩
    · split at e
      · rename_i hz
        cases e
        simp only [Bool.and_eq_true, decide_eq_true_eq] at hz
        exact .inr ⟨v, Fz, a, ds, rfl, e1, h1, hz.1.1, hz.2, fun L p M hp => .inr ⟨p, L, Fz, ds, rfl, upd_same, M.grow hp, hz.1.1, hz.1.2, fun z H' r => k z H' (r.grow hp)⟩⟩
      · cases e
theorem ls_rP (v : V) {Q : VK} (h : rP G .lenSet [v] H Q) : rSetA X G [v] H fun p H2 => rLenA X G [p] H2 Q := by
  obtain ⟨Fz, ds0, o, d, hr, e, k⟩ := h
  obtain ⟨a, rfl, h1⟩ := rr1 hr
  have e : pLenSet a = some (o, d) := e
  unfold pLenSet at e
  cases e1 : seq? a with
  | none => rw [e1] at e; cases e
  | some ds =>
    rw [e1, Option.bind_some] at e
    split at e
    · rename_i hz
      cases e
      simp only [Bool.and_eq_true, decide_eq_true_eq] at hz
      refine .inl ⟨v, Fz, a, ds, rfl, e1, h1, hz.1, hz.2, fun ks p ek hp => .inl ⟨p, ks, rfl, upd_same, k _ _ ?_⟩⟩
      rw [ek]
      refine ⟨grow_new hp, ?_⟩
      rw [if_neg Bool.false_ne_true]
      simp only [relF]
    · split at e
      · rename_i hz
        cases e
        simp only [Bool.and_eq_true, decide_eq_true_eq] at hz
        refine .inr ⟨v, Fz, a, ds, rfl, e1, h1, hz.1, hz.2, fun L p M hp => .inr ⟨p, L, Fz, ds, rfl, upd_same, M.grow hp, hz.1, k _ _ ?_⟩⟩
        refine ⟨grow_new hp, ?_⟩
        rw [if_neg Bool.false_ne_true]
        simp only [relF]
      · cases e
end
end PF
set_option Elab.async false
set_option linter.all false
set_option maxRecDepth 100000
set_option maxHeartbeats 1000000
namespace PF
open PySem PySem.Spec PyProof.Rows L2
section
variable {G : Gp} {Φ : Str → List Sl → FR} {γ : Str → Option D} {W : WX} {X : Cx} {a : Expr} {ma : E} {pos p2 pos2 : Pos}
theorem e_ofSet {p : Op} {id : String} {x : Str} {p1 : Pos} {r rs : List V → Hp → VK → Prop} (hr : ∀ v H Q, rP G p [v] H Q → rs [v] H fun q H2 => r [q] H2 Q) (hc : CallR X (.builtin id) r) (hs : CallR X (.type "set") rs)
    (hg : Gl X x) (hm : X.mg x = none) (hv : bootBuiltins x = some (.builtin id)) (hg2 : Gl X "set") (hm2 : X.mg "set" = none) (ha : PE X a (rdE G Φ γ W ma)) (ns : notStar a = true)
    (hn : x ≠ "__name__") (hdb : (x == ("__debug__" : Str)) = false) : PE X (.Call (.Name x p1) [.Call (.Name "set" p2) [a] [] pos2] [] pos) (rdE G Φ γ W (.op p [ma])) :=
  PE.imp (pe_callB hc hg hm hv (pa_cons (pe_callTy hs hg2 hm2 PyProof.Rows.boot_set (pa_cons ha pa_nil (star_cons ns)) (by decide) (by decide) (star_cons ns) rfl) pa_nil (star_cons rfl)) hn hdb (star_cons rfl) rfl) fun _ _ _ h =>
    rdE_mono (op1 h) fun v H1 h => hr v H1 _ h
end
end PF
set_option Elab.async false
set_option linter.all false
set_option maxRecDepth 100000
set_option maxHeartbeats 1000000
namespace PF
open PySem PySem.Spec PyProof.Rows L2
section
variable {G : Gp} {X : Cx} {Φ : Str → List Sl → FR} {γ : Str → Option D} {W : WX}
theorem recv1 {p : Op} {o : Option D} (h : recvK p o = 1) : ∃ ds, o = some (.lst ds) := by
  unfold recvK at h
  split at h
  · rename_i ds; exact ⟨ds, rfl⟩
  · split at h <;> cases h
  · cases h
theorem recv2 {p : Op} {o : Option D} (h : recvK p o = 2) : ∃ s, o = some (.str s) ∧ p = .index := by
  unfold recvK at h
  split at h
  · cases h
  · split at h
    · rename_i s hp; exact ⟨s, rfl, hp⟩
    · cases h
  · cases h
theorem recv_cases {p : Op} {o : Option D} (h : (recvK p o != 0) = true) : recvK p o = 1 ∨ recvK p o = 2 := by
  rcases o with _ | d
  · cases h
  · cases d <;> first | (exact .inl rfl) | (cases h; done) | skip
    by_cases hp : p = .index
    · exact .inr (if_pos hp)
    · rename_i sx
      have e : recvK p (some (D.str sx)) = 0 := if_neg hp
      rw [e] at h
      cases h
/-- what the method asks, what it answers -/
def rMet (G : Gp) (p : Op) : V → List V → Hp → VK → Prop := fun x xs H Q => ∃ y F ds o r, xs = [y] ∧ relRs G F H [.lst ds, o] [x, y] ∧ prim p [.lst ds, o] = some (false, .int r) ∧ Q (.int r) H
theorem mr_index (hK : X.K = G.K) (hu : X.A.units + 64 < cLine) : MtR X "list.index" (rMet G .index) := fun pins s σ H x xs v us Q I rx rs h => by
  obtain ⟨y, F, ds, o, r, e0, hr, e, k⟩ := h
  exact pr_indexL hK hu pins s σ H x xs v us Q I rx rs ⟨y, F, ds, o, .int r, e0, hr, e, k⟩
theorem mr_count (hK : X.K = G.K) (hu : X.A.units + 64 < cLine) : MtR X "list.count" (rMet G .count) := fun pins s σ H x xs v us Q I rx rs h => by
  obtain ⟨y, F, ds, o, r, e0, hr, e, k⟩ := h
  have e : (if o.pl && decide (o.dep ≤ 60) && ds.all (·.pl) then some (false, D.int (ds.countP fun d => D.eq d o)) else none) = some (false, .int r) := e
  split at e
  · rename_i g
    cases e
    exact pr_countL hK hu pins s σ H x xs v us Q I rx rs ⟨y, F, ds, o, e0, hr, g, k⟩
  · cases e
theorem met_int {p : Op} (hp : isMet p = true) {ds : List D} {b : D} {o : Bool} {d : D} (h : prim p [.lst ds, b] = some (o, d)) : o = false ∧ ∃ r, d = .int r := by
  cases p <;> first | (cases hp; done) | skip
  · have h : pIndex (.lst ds) b = some (o, d) := h
    unfold pIndex at h
    rw [show seq? (D.lst ds) = some ds from rfl, Option.bind_some] at h
    split at h
    · cases e : idxOf b ds with
      | none => rw [e] at h; cases h
      | some n => rw [e] at h; cases h; exact ⟨rfl, _, rfl⟩
    · cases h
  · have h : pCount (.lst ds) b = some (o, d) := h
    unfold pCount at h
    rw [show seq? (D.lst ds) = some ds from rfl, Option.bind_some] at h
    split at h
    · cases h; exact ⟨rfl, _, rfl⟩
    · cases h
/-- a text's -/
def rMetS (G : Gp) : V → List V → Hp → VK → Prop := fun x xs H Q => ∃ a b n, x = .str a ∧ xs = [.str b] ∧ strIndex a b = some n ∧ Q (.int (n : Int)) H
theorem mr_sindex : MtR X "str.index" (rMetS G) := fun pins s σ H x xs v us Q I rx rs h => by
  obtain ⟨a, b, n, rfl, rfl, e, k⟩ := h
  unfold strIndex at e
  cases e1 : Builtin.Str.occurrences a b 0 a.length 1 with
  | nil => rw [e1] at e; cases e
  | cons i rest =>
    rw [e1] at e
    cases e
    exact mt_sindex pins s σ H _ _ v us Q I rx rs ⟨a, b, n, rest, rfl, rfl, e1, k⟩
/-- a method whose type is known when the object is at hand -/
def tBm (K : PySem.W.Frag) (t1 t2 : TE) (r1 r2 : V → List V → Hp → VK → Prop) : TE := fun σ H Q => t1 σ H fun x H1 =>
  (tyV K "list" x H1 ∧ t2 σ H1 fun y H2 => r1 x [y] H2 Q) ∨ (tyV K "str" x H1 ∧ t2 σ H1 fun y H2 => r2 x [y] H2 Q)
theorem pe_met2 {o e : Expr} {apos cpos : Pos} {name : Str} {id1 id2 : String} {t1 t2 : TE} {r1 r2 : V → List V → Hp → VK → Prop} (slot1 : Slot "list" name id1) (hty1 : typeOf (.builtin id1) = pure (.type "method_descriptor")) (hm1 : MtR X id1 r1)
    (slot2 : Slot "str" name id2) (hty2 : typeOf (.builtin id2) = pure (.type "method_descriptor")) (hm2 : MtR X id2 r2) (ho : PE X o t1) (he : PE X e t2)
    (hbase : attributeBase o name X.env (eval o X.env) = eval o X.env)
    (hfew : ((backTo cpos (starEach [e] X.env)).all (fun x => !x.1) && (backToKw cpos (keywordEach [] X.env)).all (fun x => x.1.isSome)
      && decide (([e] : List Expr).length + ([] : List Keyword).length + (if ([] : List Keyword).isEmpty then 0 else 1) < 30)) = true)
    (hline : (apos.endLine == cpos.line) = true) (hs : starEach [e] X.env = (false, eval e X.env) :: starEach [] X.env) :
    PE X (.Call (.Attribute o name apos) [e] [] cpos) (tBm X.K t1 t2 r1 r2) := by
  refine ⟨fun pins s σ H Q I h => ?_⟩
  refine wpAny_Call_method_late hbase hfew hline rfl (thn (ho.run pins s σ H _ I h) fun v s1 ⟨x, H1, I1, rx, q1⟩ => ?_)
  rcases q1 with ⟨ty, q1⟩ | ⟨ty, q1⟩
  · obtain ⟨h1, h2⟩ := tyV_is I1 rx ty
    refine ⟨"list", _, F.plainAttrs_list, slot1, hty1, h1, h2, ?_⟩
    rw [hs]
    refine Calls.callWith_builtin rfl (Calls.evalArgs_plain (Calls.spliced_cons (thn (he.run pins s1 σ H1 _ I1 q1) fun u s2 ⟨y, H2, I2, ry, q2⟩ => Calls.spliced_nil ?_)))
    exact hm1 pins s2 σ H2 x [y] v [u] Q I2 rx (.cons ry .nil) q2
  · obtain ⟨h1, h2⟩ := tyV_is I1 rx ty
    refine ⟨"str", _, F.plainAttrs_str, slot2, hty2, h1, h2, ?_⟩
    rw [hs]
    refine Calls.callWith_builtin rfl (Calls.evalArgs_plain (Calls.spliced_cons (thn (he.run pins s1 σ H1 _ I1 q1) fun u s2 ⟨y, H2, I2, ry, q2⟩ => Calls.spliced_nil ?_)))
    exact hm2 pins s2 σ H2 x [y] v [u] Q I2 rx (.cons ry .nil) q2
theorem e_met {a b : Expr} {ma mb : E} {apos cpos : Pos} {p : Op} {name : Str} {id1 id2 : String} (slot1 : Slot "list" name id1) (hty1 : typeOf (.builtin id1) = pure (.type "method_descriptor")) (hm1 : MtR X id1 (rMet G p))
    (slot2 : Slot "str" name id2) (hty2 : typeOf (.builtin id2) = pure (.type "method_descriptor")) (hm2 : MtR X id2 (fun x xs H Q => p = .index ∧ rMetS G x xs H Q))
    (ha : PE X a (rdE G Φ γ W ma)) (hb : PE X b (rdE G Φ γ W mb)) (ns : notStar b = true) (hbase : attributeBase a name X.env (eval a X.env) = eval a X.env) (hline : (apos.endLine == cpos.line) = true) :
    PE X (.Call (.Attribute a name apos) [b] [] cpos) (rdE G Φ γ W (.met p ma mb)) :=
  PE.imp (pe_met2 slot1 hty1 hm1 slot2 hty2 hm2 ha hb hbase (few_ok (by simp [ns]) (by simp)) hline (star_cons ns)) fun σ H Q ⟨F, env, R, k⟩ => by
    rw [ev] at k
    refine ⟨F, env, R, ?_⟩
    cases hs : ev Φ γ ma env with
    | st => rw [hs] at k; exact k
    | ex x e1 => rw [hs] at k; exact k
    | ok f1 d1 e1 =>
      rw [hs] at k
      intro F1 H1 x p1 v1 n1
      simp only [RE.bd] at k
      split at k
      · rename_i hd
        rw [Bool.and_eq_true] at hd
        rcases recv_cases hd.2 with hr | hr
        · rw [hr] at k
          obtain ⟨ds, hl⟩ := recv1 hr
          have r0 := v1.late p1.rel hl
          obtain ⟨q, ys, rfl, t1, _⟩ := rLst r0
          refine .inl ⟨.inl ⟨rfl, ys, .inl t1⟩, F1, e1, p1.rel, ?_⟩
          cases hs2 : ev Φ γ mb e1 with
          | st => rw [hs2] at k; exact k.elim
          | ex x e2 => rw [hs2] at k; exact fun F' H' cls dd p q => k F' H' cls dd (p1.trans p) q
          | ok f2 d2 e2 =>
            rw [hs2] at k
            intro F2 H2 y p2 v2 n2
            simp only [metE] at k
            split at k
            · rename_i hd2
              obtain ⟨ds2, hl1⟩ := recv1 (beq_iff_eq.mp hd2)
              rw [hl1] at k
              cases hl2 : late f2 d2 e2 with
              | none => rw [hl2] at k; exact k.elim
              | some bv =>
                rw [hl2] at k
                simp only [onE] at k
                have r1 := (v1.step p1.rel p2).late p2.rel hl1
                have r2 := v2.late p2.rel hl2
                cases hq : prim p [.lst ds2, bv] with
                | none => rw [hq] at k; exact k.elim
                | some r =>
                  obtain ⟨o, d⟩ := r
                  obtain ⟨rfl, r, rfl⟩ := met_int hd.1 hq
                  rw [hq] at k
                  exact ⟨y, F2, ds2, bv, r, rfl, ⟨_, _, rfl, r1, _, _, rfl, r2, rfl⟩, hq, k F2 H2 (.int r) (p1.trans p2) (by show relF G F2 H2 (.int r) (.int r); simp only [relF]) fun z => by cases z⟩
            · exact k.elim
        · rw [hr] at k
          obtain ⟨sx, hl, hp⟩ := recv2 hr
          subst hp
          have r0 := v1.late p1.rel hl
          obtain rfl := rStr r0
          refine .inr ⟨rfl, F1, e1, p1.rel, ?_⟩
          cases hs2 : ev Φ γ mb e1 with
          | st => rw [hs2] at k; exact k.elim
          | ex x e2 => rw [hs2] at k; exact fun F' H' cls dd p q => k F' H' cls dd (p1.trans p) q
          | ok f2 d2 e2 =>
            rw [hs2] at k
            intro F2 H2 y p2 v2 n2
            simp only [metE] at k
            split at k
            · rename_i hd2
              obtain ⟨sx2, hl1, _⟩ := recv2 (beq_iff_eq.mp hd2)
              rw [hl1] at k
              cases hl2 : late f2 d2 e2 with
              | none => rw [hl2] at k; exact k.elim
              | some bv =>
                rw [hl2] at k
                simp only [onE] at k
                have r1 := (v1.step p1.rel p2).late p2.rel hl1
                have e1 := rStr r1
                cases e1
                have r2 := v2.late p2.rel hl2
                cases hq : prim .index [.str sx, bv] with
                | none => rw [hq] at k; exact k.elim
                | some r =>
                  obtain ⟨o, d⟩ := r
                  rw [hq] at k
                  have hq : pIndexS (.str sx) bv = some (o, d) := hq
                  cases bv with
                  | str sy =>
                    have hq : (strIndex sx sy).map (fun (n : Nat) => (false, D.int (n : Int))) = some (o, d) := hq
                    cases hx : strIndex sx sy with
                    | none => rw [hx] at hq; cases hq
                    | some n =>
                      rw [hx] at hq; cases hq
                      exact ⟨rfl, sx, sy, n, rfl, by rw [rStr r2], hx, k F2 H2 (.int n) (p1.trans p2) (by show relF G F2 H2 (.int n) (.int n); simp only [relF]) fun z => by cases z⟩
                  | _ => cases hq
            · exact k.elim
      · exact k.elim
end
end PF
set_option Elab.async false
set_option linter.all false
set_option maxRecDepth 100000
set_option maxHeartbeats 1000000
namespace PF
open PySem PySem.Spec PyProof.Rows L2
section
variable {G : Gp} {X : Cx} {Φ : Str → List Sl → FR} {γ : Str → Option D} {W : WX}
def rMinN (G : Gp) : List V → List V → Hp → VK → Prop := fun xs zs H Q => ∃ x, xs = [x] ∧ zs = [.non] ∧ rP G .min1n [x] H Q
theorem alike_ints (ns : List Int) : PySem.W.AlikeAll (ns.map PyData.int) := by
  refine ⟨fun x hx y hy => ?_, fun x hx => ?_⟩
  · obtain ⟨a, _, rfl⟩ := List.mem_map.mp hx
    obtain ⟨b, _, rfl⟩ := List.mem_map.mp hy
    rfl
  · obtain ⟨a, _, rfl⟩ := List.mem_map.mp hx
    intro z; cases z
theorem pys_ints : ∀ ns : List Int, D.pys (ns.map .int) = ns.map PyData.int
  | [] => rfl
  | n :: ns => by simp only [List.map_cons, D.pys, pys_ints ns]; rfl
theorem pls_ints : ∀ ns : List Int, D.pls (ns.map .int) = true
  | [] => rfl
  | n :: ns => by simp only [List.map_cons, D.pls, pls_ints ns]; rfl
theorem depth_ints : ∀ ns : List Int, PyData.depthAll (ns.map PyData.int) = 0
  | [] => rfl
  | n :: ns => by simp only [List.map_cons, PyData.depthAll, depth_ints ns]; rfl
theorem crk_min (hc : X.calm = true) (hK : X.K = G.K) (hu : X.A.units + 64 < cLine) : CallRK X (.builtin "min") [Str.ofString "default"] (rMinN G) := by
  intro pins s σ H vs zs us ws Q I r rz h
  obtain ⟨x, rfl, rfl, F, ds0, o, d, hr, e', k⟩ := h
  obtain ⟨a, rfl, h1⟩ := rr1 hr
  have e : pBest min (some .non) a = some (o, d) := e'
  clear e'
  unfold pBest at e
  cases e1 : lst? a with
  | none => rw [e1] at e; cases e
  | some ds =>
    rw [e1] at e
    obtain rfl := lst_inv e1
    cases e2 : ints? ds with
    | none => rw [Option.bind_some, e2] at e; cases e
    | some ns =>
      rw [Option.bind_some, e2, Option.bind_some] at e
      obtain rfl := ints_inv e2
      obtain ⟨p, xs, rfl, t1, f1⟩ := rLst h1
      obtain ⟨u, rfl, ru⟩ := vals1 r
      cases ru
      obtain ⟨w1, rfl, rw1⟩ := vals1 rz
      obtain rfl : w1 = Value.none := rw1
      obtain ⟨its, rv, pl, hz⟩ := I.list (.inl t1)
      obtain ⟨as, q1⟩ := readsAll_of hK I (pls_ints ns) f1 rv
      rw [pys_ints] at q1
      refine PySem.W.min_list_default (vs := its.toArray) (I.ok.hd hc) pl.isList (by simpa using q1) (alike_ints ns) (by rw [depth_ints]; omega) (fun h0 h' tk hk => ?_) fun y ys i v h' tk bs hy hv hm hk => ?_
      · have : ns = [] := List.map_eq_nil_iff.mp h0
        subst this
        cases e
        exact ⟨.non, H, I.kept hk, rfl, k _ _ resN⟩
      · cases ns with
        | nil => cases hy
        | cons n r =>
          injection hy with h2 h3
          subst h2 h3
          cases e
          rw [PySem.W.minD_ints] at hm
          cases hm
          exact ⟨.int _, H, I.kept hk, ⟨_, rfl⟩, k _ _ resI⟩
theorem e_min1n {x : Str} {p1 pos kpos jp : Pos} {j : Nat} {a : Expr} {ma : E} (hc : X.calm = true) (hK : X.K = G.K) (hu : X.A.units + 64 < cLine) (hg : Gl X x) (hm : X.mg x = none) (hv : bootBuiltins x = some (.builtin "min")) (ha : PE X a (rdE G Φ γ W ma)) (ns : notStar a = true)
    (hn : x ≠ "__name__") (hdb : (x == ("__debug__" : Str)) = false) : PE X (.Call (.Name x p1) [a] [⟨some (Str.ofString "default"), .Constant .none j jp, kpos⟩] pos) (rdE G Φ γ W (.op .min1n [ma])) :=
  PE.imp (pe_callBK (crk_min hc hK hu) hg hm hv (pa_cons ha pa_nil (star_cons ns)) (pk_cons pe_non pk_nil) hn hdb (by rw [star_cons ns]; rfl) (back_any (by simp [ns])) rfl rfl rfl) fun _ _ _ h => rdE_mono (op1 h) fun v _ h => ⟨v, rfl, rfl, h⟩
theorem pr_gcd : CallR X (.builtin "math.gcd") (fun xs H Q => ∃ x y, xs = [x, y] ∧ rP G .gcd [x, y] H Q) := by
  intro pins s σ H vs us Q I r h
  obtain ⟨x, y, rfl, F, ds, o, d, hr, e, k⟩ := h
  obtain ⟨a, b, rfl, h1, h2⟩ := rr2 hr
  cases a <;> cases b <;> first | (cases e; done) | skip
  rename_i i j
  have e : some (false, D.int ((i.natAbs.gcd j.natAbs : Nat) : Int)) = some (o, d) := e
  cases e
  have f1 : x = .int i := by simpa only [relR, relF] using h1
  have f2 : y = .int j := by simpa only [relR, relF] using h2
  subst f1 f2
  exact cr_gcd pins s σ H _ us Q I r ⟨i, j, rfl, k _ _ resI⟩
theorem pr_lcm : CallR X (.builtin "math.lcm") (fun xs H Q => ∃ x y, xs = [x, y] ∧ rP G .lcm [x, y] H Q) := by
  intro pins s σ H vs us Q I r h
  obtain ⟨x, y, rfl, F, ds, o, d, hr, e, k⟩ := h
  obtain ⟨a, b, rfl, h1, h2⟩ := rr2 hr
  cases a <;> cases b <;> first | (cases e; done) | skip
  rename_i i j
  have e : (pLcm i j).map (fun k => (false, D.int k)) = some (o, d) := e
  unfold pLcm at e
  split at e
  · rename_i hb
    rw [Bool.and_eq_true, decide_eq_true_eq, decide_eq_true_eq] at hb
    cases e
    have f1 : x = .int i := by simpa only [relR, relF] using h1
    have f2 : y = .int j := by simpa only [relR, relF] using h2
    subst f1 f2
    obtain ⟨t, u, rfl⟩ := Vals.int2 r
    have hl : ((i.natAbs.lcm j.natAbs : Nat) : Int).natAbs.log2 < bitsLine := by
      rw [Int.natAbs_natCast]
      have h3 : i.natAbs.lcm j.natAbs ≤ i.natAbs * j.natAbs := by
        rw [Nat.lcm]
        exact Nat.div_le_self _ _
      have h4 : i.natAbs * j.natAbs < 2 ^ 128 := by
        have := Nat.mul_lt_mul'' hb.1 hb.2
        exact Nat.lt_of_lt_of_le this (by decide)
      have h5 : (i.natAbs.lcm j.natAbs).log2 ≤ 128 := by
        by_cases z : i.natAbs.lcm j.natAbs = 0
        · rw [z]; decide
        · exact Nat.le_of_lt_succ (Nat.lt_succ_of_lt ((Nat.log2_lt z).mpr (Nat.lt_of_le_of_lt h3 h4)))
      exact Nat.lt_of_le_of_lt h5 (by decide)
    refine PySem.W.mg_lcm_v hb.1 hb.2 (c := ((i.natAbs.lcm j.natAbs : Nat) : Int)) (by rw [Nat.lcm_one_left]) hl ⟨.int _, H, I.tok _, ⟨_, rfl⟩, k _ _ resI⟩
  · cases e
theorem e_callM2 {p : Op} {id : String} {x : Str} {p1 pos : Pos} {a b : Expr} {ma mb : E} (hc : CallR X (.builtin id) (fun xs H Q => ∃ x y, xs = [x, y] ∧ rP G p [x, y] H Q)) (hg : Gl X x) (hm : X.mg x = some (.builtin id)) (ha : PE X a (rdE G Φ γ W ma)) (hb : PE X b (rdE G Φ γ W mb)) (ns : notStar a = true) (ns2 : notStar b = true)
    (hdb : (x == ("__debug__" : Str)) = false) : PE X (.Call (.Name x p1) [a, b] [] pos) (rdE G Φ γ W (.op p [ma, mb])) :=
  PE.imp (pe_callBfun hc hg hm (pa_cons ha (pa_cons hb pa_nil (star_cons ns2)) (star_cons ns)) hdb (star_cons ns) (back_any (by simp [ns2]))) fun _ _ _ h => rdE_mono (op2 h) fun v _ h => rdE_mono h fun w _ h => ⟨v, w, rfl, h⟩
end
end PF
set_option Elab.async false
set_option linter.all false
set_option maxRecDepth 100000
set_option maxHeartbeats 1000000
namespace PF
open PySem PySem.Spec PyProof.Rows L2
section
variable (G : Gp) (refs : List Nat) (W : WX) (F : Addr → Prop) (H : Hp) (env : Env) (σ : L2.St)
/-- the state behind, the lent slots as they were -/
def PstR (F : Addr → Prop) (H : Hp) (env : Env) (σ : L2.St) (F' : Addr → Prop) (H' : Hp) (env' : Env) (σ' : L2.St) : Prop := Pst G F H env σ F' H' env' σ' ∧ ∀ j ∈ refs, slAt σ' j = slAt σ j
/-- a value that is returned -/
def retOk (F : Addr → Prop) (H : Hp) (env : Env) (σ : L2.St) (F' : Addr → Prop) (H' : Hp) (e' : Env) (σ' : L2.St) (o : Bool) (d : D) (v : V) : Prop :=
  if o = true then ∃ a, v = .ref a ∧ ¬ F' a ∧ ¬ Ml e' σ' a ∧ relO G F' H' d a ∧ (Mo env σ a ∨ H a = none) else relF G F' H' d v
def kS (D : Ends) : RS → Prop
  | .nx e' => ∀ F' H' σ', PstR G refs F H env σ F' H' e' σ' → D.nx σ' H'
  | .bk e' => ∀ F' H' σ', PstR G refs F H env σ F' H' e' σ' → D.bk σ' H'
  | .ct e' => ∀ F' H' σ', PstR G refs F H env σ F' H' e' σ' → D.ct σ' H'
  | .rt o d e' => ∀ F' H' σ' v, PstR G refs F H env σ F' H' e' σ' → retOk G F H env σ F' H' e' σ' o d v → D.rt v H'
  | .ex x e' => ∀ F' H' σ' cls dd, PstR G refs F H env σ F' H' e' σ' → exOk G F' H' x cls dd → W cls dd σ' H'
  | .st => False
end
section
variable (G : Gp) (Φ : Str → List Sl → FR) (γ : Str → Option D) (refs : List Nat) (W : WX)
def rdS (m : S) : TS := fun D σ H => ∃ F env, Rel G F H env σ ∧ kS G refs W F H env σ D (exec Φ γ m env)
def rdSs (ms : List S) : TS := fun D σ H => ∃ F env, Rel G F H env σ ∧ kS G refs W F H env σ D (execs Φ γ ms env)
end
section
variable {G : Gp} {refs : List Nat} {W : WX} {F F1 F' : Addr → Prop} {H H1 H' : Hp} {env e1 e2 : Env} {σ σ1 σ' : L2.St}
theorem PstR.refl (R : Rel G F H env σ) : PstR G refs F H env σ F H env σ := ⟨.refl R, fun _ _ => rfl⟩
theorem PstR.of (p : Pst G F H env σ F1 H1 e1 σ) : PstR G refs F H env σ F1 H1 e1 σ := ⟨p, fun _ _ => rfl⟩
theorem PstR.trans {F2 : Addr → Prop} {H2 : Hp} {e2 : Env} {σ2 : L2.St} (a : PstR G refs F H env σ F1 H1 e1 σ1) (b : PstR G refs F1 H1 e1 σ1 F2 H2 e2 σ2) : PstR G refs F H env σ F2 H2 e2 σ2 := ⟨a.1.trans b.1, fun j hj => (b.2 j hj).trans (a.2 j hj)⟩
theorem retOk.back {e' : Env} {o : Bool} {d : D} {v : V} (p : Pst G F H env σ F1 H1 e1 σ1) (h : retOk G F1 H1 e1 σ1 F' H' e' σ' o d v) : retOk G F H env σ F' H' e' σ' o d v := by
  unfold retOk at h ⊢
  split
  · rename_i ho
    rw [if_pos ho] at h
    obtain ⟨a, h1, h2, h3, h4, h5⟩ := h
    refine ⟨a, h1, h2, h3, h4, h5.elim (fun z => p.mw a z) fun z => .inr (p.ext.alive a z)⟩
  · rename_i ho
    rw [if_neg ho] at h
    exact h
theorem kS.back {D : Ends} (p : PstR G refs F H env σ F1 H1 e1 σ1) : ∀ {r : RS}, kS G refs W F H env σ D r → kS G refs W F1 H1 e1 σ1 D r
  | .nx _, h => fun F' H' σ' q => h F' H' σ' (p.trans q)
  | .bk _, h => fun F' H' σ' q => h F' H' σ' (p.trans q)
  | .ct _, h => fun F' H' σ' q => h F' H' σ' (p.trans q)
  | .rt _ _ _, h => fun F' H' σ' v q r => h F' H' σ' v (p.trans q) (r.back p.1)
  | .ex _ _, h => fun F' H' σ' cls dd q x => h F' H' σ' cls dd (p.trans q) x
  | .st, h => h
/-- an expression, then the rest -/
theorem kE_bdS {D : Ends} {r : RE} {kk : Fl → PF.D → Env → RS} {Q1 : VK} (k : kS G refs W F H env σ D (r.bdS kk))
    (i : ∀ f d e1, r = .ok f d e1 → ∀ F1 H1 v, Pst G F H env σ F1 H1 e1 σ → vOk G F1 H1 e1 σ f d v → vNew H f v → kS G refs W F1 H1 e1 σ D (kk f d e1) → Q1 v H1) : kE G W F H env σ Q1 r := by
  cases r with
  | ok f d e1 => exact fun F1 H1 v p vo n => i f d e1 rfl F1 H1 v p vo n (kS.back (.of p) k)
  | ex x e1 => exact fun F' H' cls dd p x => k F' H' σ cls dd (.of p) x
  | st => exact k
end
section
variable {G : Gp} {Φ : Str → List Sl → FR} {γ : Str → Option D} {refs : List Nat} {W : WX} {X : Cx} {st : Stmt} {rest : List Stmt} {s : S} {ss : List S} {e : Expr} {m : E} {pos : Pos} {σ : L2.St} {H : Hp} {Dn : Ends}
theorem s_nil : PSs X [] (rdSs G Φ γ refs W []) := PSs.imp pss_nil fun D σ H ⟨F, env, R, k⟩ => by
  rw [execs] at k
  exact k F H σ (.refl R)
theorem s_cons (h1 : PS X st (rdS G Φ γ refs W s)) (h2 : PSs X rest (rdSs G Φ γ refs W ss)) : PSs X (st :: rest) (rdSs G Φ γ refs W (s :: ss)) := PSs.imp (pss_cons h1 h2) fun D σ H ⟨F, env, R, k⟩ => by
  rw [execs] at k
  refine ⟨F, env, R, ?_⟩
  cases h : exec Φ γ s env with
  | nx e1 => rw [h] at k; exact fun F' H' σ' p => ⟨F', e1, p.1.rel, kS.back p k⟩
  | rt o d e1 => rw [h] at k; exact k
  | bk e1 => rw [h] at k; exact k
  | ct e1 => rw [h] at k; exact k
  | ex x e1 => rw [h] at k; exact k
  | st => rw [h] at k; exact k
/-- a word about ownership: no statement of the program -/
theorem s_frz {i : Nat} (h : PSs X rest (rdSs G Φ γ refs W ss)) : PSs X rest (rdSs G Φ γ refs W (.frz i :: ss)) := PSs.imp h fun D σ H ⟨F, env, R, k⟩ => by
  rw [execs, exec] at k
  cases hs : getS env i with
  | fr d => rw [hs] at k; exact ⟨F, env, R, k⟩
  | ow d =>
    rw [hs] at k
    obtain ⟨a, h1, p, r⟩ := Pst.frz R hs
    exact ⟨_, _, p.rel, kS.back (.of p) k⟩
  | non => rw [hs] at k; exact k.elim
  | lk d => rw [hs] at k; exact k.elim
theorem s_pass : PS X (.Pass pos) (rdS G Φ γ refs W .pas) := PS.imp ps_pass fun D σ H ⟨F, env, R, k⟩ => by
  rw [exec] at k; exact k F H σ (.refl R)
/-- a statement that is never reached -/
theorem s_bad {st : Stmt} : PS X st (rdS G Φ γ refs W .bad) := ⟨fun pins s σ H D I h => by
  obtain ⟨F, env, R, k⟩ := h
  rw [exec] at k
  exact k.elim⟩
theorem s_break : PS X (.Break pos) (rdS G Φ γ refs W .brk) := PS.imp ps_break fun D σ H ⟨F, env, R, k⟩ => by
  rw [exec] at k; exact k F H σ (.refl R)
theorem s_continue : PS X (.Continue pos) (rdS G Φ γ refs W .cnt) := PS.imp ps_continue fun D σ H ⟨F, env, R, k⟩ => by
  rw [exec] at k; exact k F H σ (.refl R)
theorem s_if {c : Expr} {a b : List Stmt} {mc : E} {sa sb : List S} (hc : PT X c (rdT G Φ γ W mc)) (ha : PSs X a (rdSs G Φ γ refs W sa)) (hb : PSs X b (rdSs G Φ γ refs W sb)) : PS X (.If c a b pos) (rdS G Φ γ refs W (.iff mc sa sb)) := PS.imp (ps_if hc ha hb) fun D σ H ⟨F, env, R, k⟩ => by
  rw [exec] at k
  refine ⟨F, env, R, ?_⟩
  cases h : evT Φ γ mc env with
  | st => rw [h] at k; exact k
  | ex x e1 => rw [h] at k; exact fun F' H' cls dd p x => k F' H' σ cls dd (.of p) x
  | ok t e1 =>
    rw [h] at k
    intro F1 H1 p1
    cases t with
    | true => rw [if_pos rfl]; exact ⟨F1, e1, p1.rel, kS.back (.of p1) k⟩
    | false => rw [if_neg Bool.false_ne_true]; exact ⟨F1, e1, p1.rel, kS.back (.of p1) k⟩
theorem asg_rd {i : Nat} (hr : i ∉ refs) (h : rdS G Φ γ refs W (.asg i m) Dn σ H) : rdE G Φ γ W m σ H fun x H1 => Dn.nx (σ.set i (some x)) H1 := by
  obtain ⟨F, env, R, k⟩ := h
  rw [exec] at k
  have hk : ∀ (v : V) j, j ∈ refs → slAt (σ.set i (some v)) j = slAt σ j := fun v j hj => by
    rw [slAt_set, if_neg fun q => hr (by rw [q.1]; exact hj)]
  refine ⟨F, env, R, ?_⟩
  cases hm : ev Φ γ m env with
  | st => rw [hm] at k; exact k
  | ex x e1 => rw [hm] at k; exact fun F' H' cls dd p x => k F' H' σ cls dd (.of p) x
  | ok f d e1 =>
    rw [hm] at k
    intro F1 H1 v p1 v1 n1
    cases f with
    | fr => exact k F1 H1 _ ⟨p1.trans (Pst.setF p1.rel v1), hk v⟩
    | ow =>
      obtain ⟨a, rfl, h1, h2, h3⟩ := v1
      exact k F1 H1 _ ⟨Pst.setO p1 h1 h2 h3 (n1 rfl a rfl), hk _⟩
    | pl j => exact k.elim
theorem s_asg {i : Nat} {x : Str} {pos' : Pos} (hr : i ∉ refs) (hN : X.N.Nodup) (hi : X.N[i]? = some x) (hx : Loc X.env.scope x) (he : PE X e (rdE G Φ γ W m)) (hs : swapsWith e (some (.Name x pos')) pos.line X.env = pure false) (hf : X.fn x = true ∨ X.env.scope.names.lookup x = some .local) :
    PS X (.Assign [.Name x pos'] e pos) (rdS G Φ γ refs W (.asg i m)) := PS.imp (ps_set hN hi hx he hs hf) fun D σ H h => asg_rd hr h
theorem s_asgT {t : T} {tg : Expr} (hr : ∀ j ∈ tvars t, j ∉ refs) (hK : X.K = G.K) (he : PE X e (rdE G Φ γ W m)) (hg : PG X tg (gT G.K t)) (hs : swapsWithSole [tg] e pos.line X.env = pure false) (hw : swappedStores [tg] e X.env = pure none) (h1 : (assignEach [tg] X.env).map (·.2) = [assign tg X.env]) :
    PS X (.Assign [tg] e pos) (rdS G Φ γ refs W (.asgT t m)) := PS.imp (ps_asg he hg hs hw h1) fun D σ H ⟨F, env, R, k⟩ => by
  rw [exec] at k
  refine ⟨F, env, R, kE_bdS k fun f d e1 hm0 F1 H1 v p1 v1 n1 k1 => ?_⟩
  have hk : ∀ σ1, keptS (tvars t) σ σ1 → ∀ j ∈ refs, slAt σ1 j = slAt σ j := fun σ1 q j hj => q.2 j fun z => hr j z hj
  have main : ∀ F2, Pst G F1 H1 e1 σ F2 H1 e1 σ → relF G F2 H1 d v → kS G refs W F1 H1 e1 σ D (onS (asgT t d e1) fun e2 => .nx e2) → gT G.K t v σ H1 D.nx := fun F2 p2 rv k2 => by
    cases ha : asgT t d e1 with
    | none => rw [ha] at k2; exact k2.elim
    | some e2 =>
      rw [ha] at k2
      exact gT_ok t d v e1 e2 σ D.nx ha p2.rel rv fun σ1 P1 kk => k2 F2 H1 σ1 ⟨p2.trans P1, hk σ1 kk⟩
  cases f with
  | fr => exact main F1 (.refl p1.rel) v1 k1
  | ow =>
    obtain ⟨a, rfl, h2, h3, h4⟩ := v1
    have hn := n1 rfl a rfl
    obtain ⟨⟨o, ho⟩, _⟩ := relO_there h4
    -- a new list is no tuple
    cases t with
    | nm i =>
      have k1 : kS G refs W F1 H1 e1 σ D (.nx (setS e1 i (.fr d))) := k1
      have pz : Pst G F H env σ (fun b => F1 b ∨ b = a) H1 e1 σ := p1.freeze fun b hb => by rw [hb]; exact ⟨h3, by rw [ho]; exact (fun z => nomatch z), .inr hn⟩
      have k : kS G refs W F H env σ D (.nx (setS e1 i (.fr d))) := by
        have := k
        rw [hm0] at this
        exact this
      exact k _ H1 _ ⟨pz.trans (Pst.setF pz.rel (relF_of_relO (relO_sub (fun _ z => .inl z) h4) (.inr rfl))), fun j hj => by
        rw [slAt_set, if_neg fun q => hr j (by simp [tvars, q.1]) hj]⟩
    | tup ts =>
      cases d with
      | tup ds => exact h4.elim
      | lst ds => exact k1.elim
      | dct _ _ => exact k1.elim
      | _ => exact h4.elim
  | pl j => exact k1.elim
theorem s_ex (he : PE X e (rdE G Φ γ W m)) (hs : swapsWith e none pos.line X.env = pure false) : PS X (.Expr e pos) (rdS G Φ γ refs W (.ex m)) := PS.imp (ps_expr he hs) fun D σ H ⟨F, env, R, k⟩ => by
  rw [exec] at k
  exact ⟨F, env, R, kE_bdS k fun f d e1 _ F1 H1 v p1 v1 n1 k1 => k1 F1 H1 σ (.refl p1.rel)⟩
theorem s_ret (he : PE X e (rdE G Φ γ W m)) : PS X (.Return (some e) pos) (rdS G Φ γ refs W (.ret m)) := PS.imp (ps_ret he) fun D σ H ⟨F, env, R, k⟩ => by
  rw [exec] at k
  refine ⟨F, env, R, ?_⟩
  cases hm : ev Φ γ m env with
  | st => rw [hm] at k; exact k
  | ex x e1 => rw [hm] at k; exact fun F' H' cls dd p x => k F' H' σ cls dd (.of p) x
  | ok f d e1 =>
    rw [hm] at k
    intro F1 H1 v p1 v1 n1
    cases f with
    | fr => exact k F1 H1 σ v (.of p1) (by unfold retOk; rw [if_neg Bool.false_ne_true]; exact v1)
    | ow =>
      obtain ⟨a, rfl, h1, h2, h3⟩ := v1
      exact k F1 H1 σ _ (.of p1) (by unfold retOk; rw [if_pos rfl]; exact ⟨a, rfl, h1, h2, h3, .inr (n1 rfl a rfl)⟩)
    | pl j => exact k.elim
/-- a slot is given up -/
theorem Pst.drop {F : Addr → Prop} {env : Env} {i : Nat} (R : Rel G F H env σ) : Pst G F H env σ F H (setS env i .non) σ := by
  have own : ∀ j, isOwn (getS (setS env i .non) j) = true → getS (setS env i .non) j = getS env j := fun j hj => by
    rw [getS_setS] at hj ⊢
    split at hj
    · cases hj
    · rename_i z; rw [if_neg z]
  refine ⟨.refl, ⟨by rw [setS_length]; exact R.len, fun j => ?_, fun j k a hj hk => R.one j k a (by rw [← own j hj]; exact hj) (by rw [← own k hk]; exact hk), R.fin⟩, fun a ⟨j, h1, h2⟩ => .inl ⟨j, by rw [← own j h1]; exact h1, h2⟩, fun a ⟨j, d, h1, h2⟩ => .inl ⟨j, d, by rw [← own j (by rw [h1]; rfl)]; exact h1, h2⟩, fun j d h => ⟨by rw [← own j (by rw [h]; rfl)]; exact h, rfl⟩⟩
  rw [getS_setS]
  split
  · trivial
  · exact R.slot j
theorem s_retV {i : Nat} {x : Str} {p : Pos} (hN : X.N[i]? = some x) (hv : Vis X.env.scope x) (hd : (x == ("__debug__" : Str)) = false) (hcd : (x == ("__classdict__" : Str)) = false) : PS X (.Return (some (.Name x p)) pos) (rdS G Φ γ refs W (.retV i)) := PS.imp (ps_ret (pe_var hN hv hd hcd)) fun D σ H ⟨F, env, R, k⟩ => by
  rw [exec] at k
  have q := R.slot i
  cases hs : getS env i with
  | non => rw [hs] at k; exact k.elim
  | lk d => rw [hs] at k; exact k.elim
  | fr d =>
    rw [hs] at k q
    obtain ⟨v, h1, h2⟩ := q
    exact ⟨v, slAt_some h1, k F H σ v (.refl R) (by unfold retOk; rw [if_neg Bool.false_ne_true]; exact h2)⟩
  | ow d =>
    rw [hs] at k q
    obtain ⟨a, h1, h2, h3⟩ := q
    refine ⟨_, slAt_some h1, k F H σ _ (.of (Pst.drop R)) ?_⟩
    unfold retOk
    rw [if_pos rfl]
    refine ⟨a, rfl, h2, fun ⟨j, h4, h5⟩ => ?_, h3, .inl ⟨i, d, hs, h1⟩⟩
    rw [getS_setS] at h4
    split at h4
    · cases h4
    · rename_i z
      have hi : i < env.length := getS_lt (by rw [hs]; exact fun z => nomatch z)
      have := R.one i j a (by rw [hs]; rfl) h4 h1 h5
      exact z ⟨this, hi⟩
theorem s_retN : PS X (.Return none pos) (rdS G Φ γ refs W .retN) := PS.imp ps_retN fun D σ H ⟨F, env, R, k⟩ => by
  rw [exec] at k
  exact k F H σ _ (.refl R) (by unfold retOk; rw [if_neg Bool.false_ne_true]; simp only [relF])
theorem Mo_unlocked {env : Env} {ls : List Nat} {a : Addr} (h : Mo (lockAll ls env) σ a) : Mo env σ a := by
  obtain ⟨j, d, h1, h2⟩ := h
  rw [lockAll_get] at h1
  split at h1
  · cases hs : getS env j <;> rw [hs] at h1 <;> cases h1
  · exact ⟨j, d, h1, h2⟩
theorem unlock_ret {F F' : Addr → Prop} {H' : Hp} {env e' : Env} {σ' : L2.St} {ls : List Nat} {o : Bool} {d : PF.D} {v : V} (h : retOk G F H (lockAll ls env) σ F' H' e' σ' o d v) : retOk G F H env σ F' H' (unlockAll ls env e') σ' o d v := by
  unfold retOk at h ⊢
  split
  · rename_i ho
    rw [if_pos ho] at h
    obtain ⟨a, h1, h2, h3, h4, h5⟩ := h
    exact ⟨a, h1, h2, fun ⟨j, h6, h7⟩ => h3 ⟨j, by rw [← isOwn_unlock ls env]; exact h6, h7⟩, h4, h5.imp_left fun z => Mo_unlocked z⟩
  · rename_i ho
    rw [if_neg ho] at h
    exact h
theorem kS_unlock {F : Addr → Prop} {env : Env} {ls : List Nat} (R : Rel G F H env σ) {r : RS} (k : kS G refs W F H env σ Dn (r.env (unlockAll ls env))) : kS G refs W F H (lockAll ls env) σ Dn r := by
  cases r with
  | nx e => exact fun F' H' σ' p => k F' H' σ' ⟨Pst.unlock R p.1, p.2⟩
  | bk e => exact fun F' H' σ' p => k F' H' σ' ⟨Pst.unlock R p.1, p.2⟩
  | ct e => exact fun F' H' σ' p => k F' H' σ' ⟨Pst.unlock R p.1, p.2⟩
  | rt o d e => exact fun F' H' σ' v p r => k F' H' σ' v ⟨Pst.unlock R p.1, p.2⟩ (unlock_ret r)
  | ex x e => exact fun F' H' σ' cls dd p x => k F' H' σ' cls dd ⟨Pst.unlock R p.1, p.2⟩ x
  | st => exact k
/-- a turn of a loop -/
theorem kS_turn {F : Addr → Prop} {env : Env} {D : Ends} {N : L2.St → Hp → Prop} {r : RS} {kk : Env → RS} (k : kS G refs W F H env σ D (r.lp kk)) (n : ∀ e F' H' σ', (r = .nx e ∨ r = .ct e) → PstR G refs F H env σ F' H' e σ' → N σ' H') : kS G refs W F H env σ { D with nx := N, ct := N, bk := D.nx } r := by
  cases r with
  | nx e => exact fun F' H' σ' p => n e F' H' σ' (.inl rfl) p
  | bk e => exact k
  | ct e => exact fun F' H' σ' p => n e F' H' σ' (.inr rfl) p
  | rt o d e => exact k
  | ex x e => exact k
  | st => exact k
theorem s_for {t : T} {it : It} {bs : List S} {tg iter : Expr} {body : List Stmt} (hr : ∀ j ∈ tvars t, j ∉ refs) (hK : X.K = G.K) (hp : PassesOwn (model X.prog X.w) X.A X.env X.xe) (hc : X.calm = true) (hi : PI X tg iter (rdI G Φ γ W it)) (hg : PG X tg (gT G.K t)) (hb : PSs X body (rdSs G Φ γ refs W bs))
    (hs : ∀ x, foldedSetIterable iter X.env x = pure x) : PS X (.For tg iter body [] pos) (rdS G Φ γ refs W (.for_ t it bs)) := PS.imp (ps_for hp hc hi hg hb hs) fun D σ H ⟨F, env, R, k⟩ => by
  rw [exec] at k
  refine ⟨F, env, R, ?_⟩
  cases h : evI Φ γ it env with
  | st => rw [h] at k; exact k
  | ex x e1 => rw [h] at k; exact fun F' H' cls dd p x => k F' H' σ cls dd (.of p) x
  | ok ds ls e1 =>
    rw [h] at k
    simp only [RI.bdS] at k
    intro F1 H1 J p1 hJ
    have k1 := kS_unlock p1.rel (kS.back (.of p1) k)
    generalize hrl : forGo (asgT t) (execs Φ γ bs) ds (lockAll ls e1) = rl at k1
    have hne : rl ≠ .st := fun z => by rw [z] at k1; exact k1
    have R1 := p1.rel.lock ls
    refine ⟨fun i m σ' H' => ∃ F e, m = ds.length - i ∧ i ≤ ds.length ∧ PstR G refs F1 H1 (lockAll ls e1) σ F H' e σ' ∧ forGo (asgT t) (execs Φ γ bs) (ds.drop i) e = rl, ⟨ds.length, F1, lockAll ls e1, by simp, Nat.zero_le _, .refl R1, by simpa using hrl⟩, ?_⟩
    rintro i m σ' H' ⟨F, e, rfl, hi, P, hgo⟩
    have E0 : Ext (Mo (lockAll ls e1) σ) F1 H1 F H' := P.1.ext
    by_cases hlt : i < ds.length
    · obtain ⟨hgoJ, hyld⟩ := (hJ.at0 G F H' E0 i).2 _ (List.getElem?_eq_getElem hlt)
      refine .inr ⟨hgoJ, fun σ' H' => ∃ F e, i + 1 ≤ ds.length ∧ PstR G refs F1 H1 (lockAll ls e1) σ F H' e σ' ∧ forGo (asgT t) (execs Φ γ bs) (ds.drop (i + 1)) e = rl, fun σ' H' ⟨F, e, h1, h2⟩ => ⟨ds.length - (i + 1), by omega, F, e, rfl, h1, h2⟩, fun x H2 hy => ?_⟩
      obtain ⟨g1, rx⟩ := hyld x H2 hy
      rw [List.drop_eq_getElem_cons hlt, forGo] at hgo
      cases ha : asgT t ds[i] e with
      | none => rw [ha] at hgo; exact absurd hgo.symm hne
      | some ea =>
        rw [ha] at hgo
        simp only [onS] at hgo
        have P1 : PstR G refs F1 H1 (lockAll ls e1) σ F H2 e σ' := P.trans (.of (Pst.grow P.1.rel g1))
        refine gT_ok t _ x e ea σ' _ ha P1.1.rel rx fun σ2 P2 k2 => ?_
        have P3 : PstR G refs F1 H1 (lockAll ls e1) σ F H2 ea σ2 := P1.trans ⟨P2, fun j hj => k2.2 j fun z => hr j z hj⟩
        refine ⟨F, ea, P3.1.rel, kS_turn (kk := fun e2 => forGo (asgT t) (execs Φ γ bs) (ds.drop (i + 1)) e2) (by rw [hgo]; exact kS.back P3 k1) fun e2 F' H' σ3 hr2 p => ⟨F', e2, hlt, P3.trans p, ?_⟩⟩
        rcases hr2 with z | z
        · rw [z] at hgo; exact hgo
        · rw [z] at hgo; exact hgo
    · have hie : i = ds.length := by omega
      subst hie
      refine .inl ⟨(hJ.at0 G F H' E0 ds.length).1 (Nat.le_refl _), ?_⟩
      rw [List.drop_length, forGo] at hgo
      rw [← hgo] at k1
      exact k1 F H' σ' P
theorem s_while {c : Expr} {body : List Stmt} {mc : E} {bs : List S} (hp : PassesOwn (model X.prog X.w) X.A X.env X.xe) (hc : PT X c (rdT G Φ γ W mc)) (hb : PSs X body (rdSs G Φ γ refs W bs)) : PS X (.While c body [] pos) (rdS G Φ γ refs W (.whl mc bs)) := PS.imp (ps_while hp hc hb) fun D σ H ⟨F, env, R, k⟩ => by
  rw [exec] at k
  generalize hrl : whlGo (evT Φ γ mc) (execs Φ γ bs) turnsMost env = rl at k
  have hne : rl ≠ .st := fun z => by rw [z] at k; exact k
  refine ⟨fun m σ' H' => ∃ F2 e, PstR G refs F H env σ F2 H' e σ' ∧ whlGo (evT Φ γ mc) (execs Φ γ bs) m e = rl, ⟨turnsMost, F, env, .refl R, hrl⟩, ?_⟩
  rintro m σ' H' ⟨F2, e, P, hgo⟩
  cases m with
  | zero => rw [whlGo] at hgo; exact absurd hgo.symm hne
  | succ m =>
    rw [whlGo] at hgo
    refine ⟨F2, e, P.1.rel, ?_⟩
    cases h : evT Φ γ mc e with
    | st => rw [h] at hgo; exact absurd hgo.symm hne
    | ex x e1 =>
      rw [h] at hgo
      simp only [RT.bdS] at hgo
      rw [← hgo] at k
      exact fun F' H' cls dd p x => k F' H' σ' cls dd (P.trans (.of p)) x
    | ok b e1 =>
      rw [h] at hgo
      simp only [RT.bdS] at hgo
      intro F3 H3 p3
      have P3 := P.trans (.of p3)
      cases b with
      | false =>
        rw [if_neg Bool.false_ne_true] at hgo ⊢
        rw [← hgo] at k
        exact k F3 H3 σ' P3
      | true =>
        rw [if_pos rfl] at hgo ⊢
        refine ⟨fun σ' H' => ∃ F2 e, PstR G refs F H env σ F2 H' e σ' ∧ whlGo (evT Φ γ mc) (execs Φ γ bs) m e = rl, fun σ' H' h => ⟨m, Nat.lt_succ_self _, h⟩, F3, e1, P3.1.rel, kS_turn (kk := fun e2 => whlGo (evT Φ γ mc) (execs Φ γ bs) m e2) (by rw [hgo]; exact kS.back P3 k) fun e2 F' H' σ3 hr2 p => ⟨F', e2, P3.trans p, ?_⟩⟩
        rcases hr2 with z | z
        · rw [z] at hgo; exact hgo
        · rw [z] at hgo; exact hgo
end
end PF
set_option Elab.async false
set_option linter.all false
set_option maxRecDepth 100000
set_option maxHeartbeats 1000000
namespace PF
open PySem PySem.Spec PyProof.Rows L2
/-- x[k] = v by values -/
def rSet (G : Gp) : TSet := fun o iv v H Q => ∃ F a x k d x', o = .ref a ∧ relO G F H x a ∧ relR G F H k iv ∧ ((∃ ds, x = .lst ds) ∨ relF G F H k iv) ∧ relF G F H d v ∧ setD x k d = some x' ∧
  (∀ o' es ys, relFs G F H es ys → relFs G F (upd H a o') es ys) ∧ ∀ o', relO G F (upd H a o') x' a → Q (upd H a o')
theorem psetImp {X : Cx} {t t' : TSet} (h : PSet X t) (i : ∀ o k v H Q, t' o k v H Q → t o k v H Q) : PSet X t' := fun pins s σ H o i' v ov iv u Q I ro ri rv q => h pins s σ H o i' v ov iv u Q I ro ri rv (i _ _ _ _ _ q)
theorem psetOr {X : Cx} {t t' : TSet} (h : PSet X t) (h' : PSet X t') : PSet X (fun o k v H Q => t o k v H Q ∨ t' o k v H Q) := fun pins s σ H o i' v ov iv u Q I ro ri rv q => q.elim (h pins s σ H o i' v ov iv u Q I ro ri rv) (h' pins s σ H o i' v ov iv u Q I ro ri rv)
section
variable {G : Gp} {X : Cx}
theorem pset_all (dct : PSet X (fun o iv v H Q => rSet G o iv v H Q ∧ ∃ F ks vs a, o = .ref a ∧ relO G F H (.dct ks vs) a)) : PSet X (rSet G) :=
  psetImp (psetOr set_list dct) fun o iv v H Q h => by
    have h0 := h
    obtain ⟨F, a, x, k, d, x', e0, ho, hk, hk2, hd, hs, hu, q⟩ := h
    cases x with
    | lst ds =>
      refine .inl ?_
      cases k with
      | int i =>
        rw [show setD (.lst ds) (.int i) d = (ixN ds.length i).map fun j => .lst (ds.set j d) from rfl] at hs
        cases e1 : ixN ds.length i with
        | none => rw [e1] at hs; cases hs
        | some j =>
          rw [e1] at hs; cases hs
          obtain ⟨xs, h1, h2⟩ := relO_lst ho
          exact ⟨a, xs, i, j, e0, rInt hk, h1, by rw [relFs_length h2]; exact e1, q _ (relO_lst_mk (hu _ _ _ (relFs_set j h2 hd)))⟩
      | _ => cases hs
    | dct ks vs => exact .inr ⟨h0, F, ks, vs, a, e0, ho⟩
    | _ => exact ho.elim
variable {Φ : Str → List Sl → FR} {γ : Str → Option D} {refs : List Nat} {W : WX} {e ek : Expr} {m mk : E} {pos p1 p2 : Pos}
theorem s_setI {i : Nat} {x : Str} (hset : PSet X (rSet G)) (hN : X.N[i]? = some x) (hv : Vis X.env.scope x) (hd : (x == ("__debug__" : Str)) = false) (hcd : (x == ("__classdict__" : Str)) = false)
    (he : PE X e (rdE G Φ γ W m)) (hk : PE X ek (rdE G Φ γ W mk)) (hs : swapsWithSole [.Subscript (.Name x p1) ek p2] e pos.line X.env = pure false) (hw : swappedStores [.Subscript (.Name x p1) ek p2] e X.env = pure none)
    (ha : ∀ v, assign (.Subscript (.Name x p1) ek p2) X.env v = (do
      let ov ← holding [v] (eval (.Name x p1) X.env)
      let iv ← holding [v, ov] (eval ek X.env)
      standAt p2
      holding [v, ov, iv] (setItem ov iv v)
      release [v, ov, iv] []))
    : PS X (.Assign [.Subscript (.Name x p1) ek p2] e pos) (rdS G Φ γ refs W (.setI i mk m)) :=
  PS.imp (ps_asg he (pg_sub (pe_var hN hv hd hcd) hk hset ha) hs hw rfl) fun D σ H ⟨F, env, R, k⟩ => by
    rw [exec] at k
    refine ⟨F, env, R, kE_bdS k fun f d e1 hm0 F1 H1 v p1 v1 n1 k1 => ?_⟩
    have main : ∀ F2, Rel G F2 H1 e1 σ → relF G F2 H1 d v → kS G refs W F2 H1 e1 σ D (onS (owOf (getS e1 i)) fun _ => (ev Φ γ mk e1).bdS fun fk dk e2 => setIS i d fk dk e2) → gSub (tVar i) (rdE G Φ γ W mk) (rSet G) v σ H1 D.nx := fun F2 R2 rv k2 => by
      cases ho : getS e1 i with
      | ow x0 =>
        rw [ho] at k2
        simp only [owOf, onS] at k2
        obtain ⟨a, ha, _, _⟩ := R2.ow_at ho
        refine ⟨_, slAt_some ha, F2, e1, R2, kE_bdS k2 fun fk dk e2 _ F3 H3 iv p3 v3 n3 k3 => ?_⟩
        unfold setIS at k3
        cases hl : late fk dk e2 with
        | none => rw [hl] at k3; exact k3.elim
        | some kd =>
          rw [hl] at k3
          simp only [onS] at k3
          cases ho2 : getS e2 i with
          | ow x =>
            rw [ho2] at k3
            simp only [owOf] at k3
            split at k3
            · rename_i hfl
              cases hs : setD x kd d with
              | none => rw [hs] at k3; exact k3.elim
              | some x' =>
                rw [hs] at k3
                obtain ⟨a', ha', _, h3⟩ := p3.rel.ow_at ho2
                rw [ha] at ha'; cases ha'
                refine ⟨F3, a, x, kd, d, x', rfl, h3, v3.late p3.rel hl, ?_, relF_ext p3.ext R2.apart d v rv, hs, fun o' es ys h => relFs_upd p3.rel ho2 ha h, fun o' ro => k3 F3 _ σ (.of (Pst.write p3.rel ho2 ha ro))⟩
                cases fk with
                | fr => cases hl; exact .inr v3
                | _ =>
                  cases x with
                  | lst ds => exact .inl ⟨ds, rfl⟩
                  | _ => cases hfl
            · exact k3.elim
          | non => rw [ho2] at k3; exact k3.elim
          | fr _ => rw [ho2] at k3; exact k3.elim
          | lk _ => rw [ho2] at k3; exact k3.elim
      | non => rw [ho] at k2; exact k2.elim
      | fr _ => rw [ho] at k2; exact k2.elim
      | lk _ => rw [ho] at k2; exact k2.elim
    cases f with
    | fr => exact main F1 p1.rel v1 k1
    | ow =>
      obtain ⟨a, rfl, h2, h3, h4⟩ := v1
      have hn := n1 rfl a rfl
      obtain ⟨⟨o, ho⟩, _⟩ := relO_there h4
      have pz : Pst G F H env σ (fun b => F1 b ∨ b = a) H1 e1 σ := p1.freeze fun b hb => by rw [hb]; exact ⟨h3, by rw [ho]; exact (fun z => nomatch z), .inr hn⟩
      have k' := k
      rw [hm0] at k'
      exact main _ pz.rel (relF_of_relO (relO_sub (fun _ z => .inl z) h4) (.inr rfl)) (kS.back (.of pz) k')
    | pl j => exact k1.elim
theorem s_aug {i : Nat} {x : Str} {pos' : Pos} (hr : i ∉ refs) (hN : X.N.Nodup) (hi : X.N[i]? = some x) (hx : Loc X.env.scope x) (he : PE X e (rdE G Φ γ W m)) (hf : X.fn x = true ∨ X.env.scope.names.lookup x = some .local) :
    PS X (.AugAssign (.Name x pos') .Add e pos) (rdS G Φ γ refs W (.aug i .add m)) := PS.imp (ps_aug hN hi hx he ip_add hf) fun D σ H ⟨F, env, R, k⟩ => by
  rw [exec] at k
  cases hs : getS env i with
  | fr d0 =>
    rw [hs] at k
    simp only [frOf, onS] at k
    have q := R.slot i
    rw [hs] at q
    obtain ⟨v0, h1, h2⟩ := q
    refine ⟨v0, slAt_some h1, F, env, R, kE_bdS k fun f d e1 _ F1 H1 v p1 v1 n1 k1 => ?_⟩
    cases hl : late f d e1 with
    | none => rw [hl] at k1; exact k1.elim
    | some d1 =>
      rw [hl] at k1
      simp only [onS] at k1
      have r0 : relF G F1 H1 d0 v0 := relF_ext p1.ext R.apart d0 v0 h2
      have r1 := v1.late p1.rel hl
      have go : ∃ a b, d0 = .int a ∧ d1 = .int b ∧ kS G refs W F1 H1 e1 σ D (.nx (setS e1 i (.fr (.int (a + b))))) := by
        rw [show prim .add [d0, d1] = pAdd d0 d1 from rfl] at k1
        unfold pAdd at k1
        split at k1
        · exact ⟨_, _, rfl, rfl, k1⟩
        · split at k1 <;> exact k1.elim
        · split at k1 <;> exact k1.elim
        · split at k1 <;> exact k1.elim
        · exact k1.elim
      obtain ⟨a, b, rfl, rfl, k2⟩ := go
      have e0 : v0 = .int a := by simpa only [relF] using r0
      exact ⟨a, b, e0, rInt r1, k2 F1 H1 _ ⟨Pst.setF p1.rel (by simp only [relF]), fun j hj => by rw [slAt_set, if_neg fun q => hr (by rw [q.1]; exact hj)]⟩⟩
  | non => rw [hs] at k; exact k.elim
  | ow _ => rw [hs] at k; exact k.elim
  | lk _ => rw [hs] at k; exact k.elim
end
end PF
set_option Elab.async false
set_option linter.all false
set_option maxRecDepth 100000
set_option maxHeartbeats 1000000
namespace PF
open PySem PySem.Spec PyProof.Rows L2
theorem dGetD_mem {k w : D} : ∀ {ks vs : List D}, dGet k ks vs = some w → w ∈ vs
  | [], _, h => by cases h
  | _ :: _, [], h => by cases h
  | a :: ks, v :: vs, h => by
    rw [dGet] at h
    split at h
    · cases h; exact .head _
    · exact .tail _ (dGetD_mem h)
theorem plsD_mem {w : D} : ∀ {vs : List D}, D.pls vs = true → w ∈ vs → w.pl = true
  | v :: vs, h, hw => by
    rw [D.pls, Bool.and_eq_true] at h
    rcases List.mem_cons.mp hw with rfl | hw
    · exact h.1
    · exact plsD_mem h.2 hw
section
variable {X : Cx} {G : Gp} {pins : List (Addr × Obj)} {σ : L2.St} {H : Hp} {s : Shared} {F : Addr → Prop}
theorem dct_hits {A : Around} (hK : X.K = G.K) (I : Inv X pins σ H s) (hu : A.units + 60 < cLine) {kvs2 : List (Key × V)} {es2 : List (Key × Value)} {vs2 : List D} (r2 : KV kvs2 es2) (f2 : relFs G F H vs2 (kvs2.map (·.2))) (p2 : D.pls vs2 = true) :
    ∀ {kvs : List (Key × V)} {es : List (Key × Value)} {vs : List D}, KV kvs es → relFs G F H vs (kvs.map (·.2)) → D.pls vs = true → D.deps vs ≤ 60 → PySem.W.KeqHits A s es2 es (dEqV (kvs2.map fun p => kD p.1) vs2 (kvs.map fun p => kD p.1) vs) := by
  intro kvs es vs r
  unfold KV at r
  induction r generalizing vs with
  | nil =>
    intro _ _ _
    cases vs <;> exact .nil
  | @cons p q kvs es h t ih =>
    intro f pl hd
    obtain ⟨pk, pv⟩ := p
    obtain ⟨qk, qv⟩ := q
    obtain ⟨h1, h2⟩ := h
    have h1 : pk = qk := h1
    have h2 : RelV pv qv := h2
    subst h1
    cases vs with
    | nil => simp only [List.map_cons, relFs] at f; cases f
    | cons d vs =>
      simp only [List.map_cons, relFs] at f
      obtain ⟨x, r, e1, g1, g2⟩ := f
      cases e1
      rw [D.pls, Bool.and_eq_true] at pl
      rw [D.deps] at hd
      have ih := ih g2 pl.2 (by omega)
      have rv := r2.val pk
      simp only [List.map_cons, dEqV]
      cases hg : dGet (kD pk) (kvs2.map fun p => kD p.1) vs2 with
      | none =>
        rw [dGet_none f2 hg] at rv
        have : valueAt es2 pk = none := by
          cases e : valueAt es2 pk with
          | none => rfl
          | some y => rw [e] at rv; exact (show False from rv).elim
        rw [show ((false && dEqV _ _ _ _ : Bool)) = false from rfl]
        exact .miss this
      | some w =>
        obtain ⟨v2, k1, k2⟩ := dGet_val f2 hg
        rw [k1] at rv
        cases e : valueAt es2 pk with
        | none => rw [e] at rv; exact (show False from rv).elim
        | some y =>
          rw [e] at rv
          have rv : RelV v2 y := rv
          have wp := plsD_mem p2 (dGetD_mem hg)
          obtain ⟨as, q1⟩ := reads_of hK I pl.1 (relR_of_relF g1) h2
          obtain ⟨bs, q2⟩ := reads_of hK I wp (relR_of_relF k2) rv
          exact .hit e (SeqAt.eqAt_plain _ _ _ _ _ _ _ _ q1 q2 (plain_py d pl.1) (plain_py w wp) (by rw [dep_py d pl.1, dep_py w wp]; omega)) ih
theorem dct_eqv {a b : D} {x y : V} {v u : Value} (hK : X.K = G.K) (I : Inv X pins σ H s) (hu : X.A.units + 64 < cLine) (ha : relR G F H a x) (hb : relR G F H b y) (rx : RelV x v) (ry : RelV y u) (h : dEqOk a b = true) :
    ∃ p q es es2 r, v = .ref p ∧ u = .ref q ∧ (p == sysModules) = false ∧ (q == sysModules) = false ∧ s.heap.DictOf (mixKind X.prog X.w) p es ∧ s.heap.DictOf (mixKind X.prog X.w) q es2 ∧ PySem.W.KeqHits X.A.in1 s es2 es r ∧ dEqB a b = (es.length == es2.length && r) := by
  unfold dEqOk at h
  split at h
  · rename_i ks vs ks2 vs2
    simp only [Bool.and_eq_true, decide_eq_true_eq] at h
    obtain ⟨⟨⟨⟨h1, h2⟩, h3⟩, h4⟩, h5⟩ := h
    obtain ⟨p, kvs, rfl, e1, rfl, f1⟩ := relR_dct_inv h1 ha
    obtain ⟨q, kvs2, rfl, e2, rfl, f2⟩ := relR_dct_inv h2 hb
    obtain rfl : v = Value.ref p := rx
    obtain rfl : u = Value.ref q := ry
    obtain ⟨z1, hd1, es, r1, d1⟩ := dk_of I.hok e1
    obtain ⟨z2, hd2, es2, r2, d2⟩ := dk_of I.hok e2
    refine ⟨p, q, es, es2, _, rfl, rfl, hd1, hd2, d1, d2, dct_hits hK I (by show X.A.units + 1 + 60 < _; omega) r2 f2 h4 r1 f1 h3 h5, ?_⟩
    show (_ == _ && _) = _
    rw [List.length_map, List.length_map, r1.length, r2.length]
  · cases h
theorem dct_eq (hK : X.K = G.K) (hu : X.A.units + 64 < cLine) : OpR X (compareOp .Eq) (fun x y H Q => ∃ F a b, relR G F H a x ∧ relR G F H b y ∧ dEqOk a b = true ∧ Q (.bl (dEqB a b)) H) := fun pins s σ H x y v u Q I rx ry ⟨F, a, b, h1, h2, h, q⟩ => by
  obtain ⟨p, q', es, es2, r, rfl, rfl, l1, l2, d1, d2, hh, e⟩ := dct_eqv hK I hu h1 h2 rx ry h
  rw [e] at q
  exact PySem.W.keq_eq l1 l2 d1 d2 (by omega) (fun _ => hh) ⟨.bl _, H, I, rfl, q⟩
theorem dct_ne (hK : X.K = G.K) (hu : X.A.units + 64 < cLine) : OpR X (compareOp .NotEq) (fun x y H Q => ∃ F a b, relR G F H a x ∧ relR G F H b y ∧ dEqOk a b = true ∧ Q (.bl (!dEqB a b)) H) := fun pins s σ H x y v u Q I rx ry ⟨F, a, b, h1, h2, h, q⟩ => by
  obtain ⟨p, q', es, es2, r, rfl, rfl, l1, l2, d1, d2, hh, e⟩ := dct_eqv hK I hu h1 h2 rx ry h
  rw [e] at q
  exact PySem.W.keq_ne l1 l2 d1 d2 (by omega) (fun _ => hh) ⟨.bl _, H, I, rfl, q⟩
theorem pr_dict : CallR X (.type "dict") (fun xs H Q => ∃ x, xs = [x] ∧ rP G .dict [x] H Q) :=
  call1 (g := pDict) (fun _ => rfl) call_dictD fun Fz H a x o d Q h1 e k => by
    unfold pDict at e
    split at e
    · split at e
      · rename_i ks vs hl
        cases e
        obtain ⟨p, kvs, rfl, e1, rfl, f1⟩ := relR_dct_inv hl h1
        refine ⟨p, kvs, rfl, .inl e1, fun q hq => k _ _ ⟨grow_new hq, ?_⟩⟩
        rw [if_pos rfl]
        exact ⟨q, rfl, hq, _, _, .inl ⟨kvs, upd_same, rfl, rfl, all_kD kvs⟩, relFs_keys_mk kvs, relFs_grow (grow_new hq) f1⟩
      · cases e
    · cases e
end
end PF
set_option Elab.async false
set_option linter.all false
set_option maxRecDepth 100000
set_option maxHeartbeats 1000000
namespace PF
open PySem PySem.Spec PyProof.Rows L2
section
variable {G : Gp} {X : Cx} {Φ : Str → List Sl → FR} {γ : Str → Option D} {W : WX}
theorem place_of {b : D} : ∀ {ds : List D} {n : Nat}, idxOf b ds = some n → SeqAt.dataPlace (D.pys ds) b.py = some n
  | [], _, h => by cases h
  | d :: ds, n, h => by
    rw [idxOf] at h
    unfold SeqAt.dataPlace
    rw [D.pys, List.findIdx?_cons]
    show (if D.eq d b = true then _ else _) = _
    split at h
    · rename_i e
      cases h
      rw [if_pos e]
    · rename_i e
      rw [if_neg e]
      cases e1 : idxOf b ds with
      | none => rw [e1] at h; cases h
      | some m =>
        rw [e1] at h
        have := place_of e1
        unfold SeqAt.dataPlace at this
        rw [this]
        exact h
theorem mu_remove (hK : X.K = G.K) (hu : X.A.units + 64 < cLine) : MtR X "list.remove" (fun x xs H Q => xs.length = 1 ∧ rMu G .remove x xs H Q) := fun pins s σ H x xs v us Q I rx rs ⟨hl, Fz, a, d, ds, d', r, e0, ho, hr, hm, hup, k⟩ => by
  have go : ∃ es b n, d = .lst es ∧ ds = [b] ∧ b.pl = true ∧ b.dep ≤ 60 ∧ es.all (·.pl) = true ∧ idxOf b es = some n ∧ d' = .lst (es.eraseIdx n) ∧ r = .non := by
    unfold muD at hm
    split at hm <;> first
      | (rename_i es b _
         split at hm
         · rename_i h
           simp only [Bool.and_eq_true, decide_eq_true_eq] at h
           cases e1 : idxOf b es with
           | none => rw [e1] at hm; cases hm
           | some n => rw [e1] at hm; cases hm; exact ⟨es, b, n, rfl, rfl, h.1.1, h.1.2, h.2, e1, rfl, rfl⟩
         · cases hm)
      | simp at *
  obtain ⟨es, b, n, rfl, rfl, hb, hd, hes, hn, rfl, rfl⟩ := go
  obtain ⟨ys, h1, h2⟩ := relO_lst ho
  simp only [relFs] at hr
  obtain ⟨y, yr, rfl, h3, rfl⟩ := hr
  subst e0
  cases rx
  obtain ⟨u, rfl, ru⟩ := rs.one
  have hpl : D.pls es = true := by rw [pls_all]; exact hes
  obtain ⟨z, its, m, rv, hlen, e⟩ := I.lstM h1
  obtain ⟨as, q1⟩ := readsAll_of hK I hpl h2 rv
  obtain ⟨bs, q2⟩ := reads_of hK I hb (relR_of_relF h3) ru
  refine SeqAt.remove_list_data (vs := its.toArray) ⟨_, e, rfl, m, rfl⟩ (by simpa using q1) q2 (plain_pys es hpl) (plain_py _ hb) (by rw [dep_py _ hb]; omega) (place_of hn) (by rw [List.size_toArray, ← rv.length]; exact z) ?_
  refine ⟨.non, _, I.lset (its' := its.eraseIdx n) h1 e ?_ (rv.eraseIdx n) ?_, rfl, k _ _ (relO_lst_mk (hup _ _ _ (relFs_eraseIdx n h2))) (by simp only [relF])⟩
  · show its.toArray.eraseIdxIfInBounds n = (its.eraseIdx n).toArray
    rw [List.eraseIdxIfInBounds_toArray]
  · have := List.length_eraseIdx_le ys n
    omega
theorem upd_self {H : Hp} {a : Addr} {o : HO} (h : H a = some o) : upd H a o = H := by
  funext b
  by_cases z : b = a
  · subst z; rw [upd_same, h]
  · rw [upd_ne z]
theorem mu_tyD {m : Mu} {i : Nat} {ms : List E} {σ : L2.St} {H : Hp} {Q : VK} (hd : muIsDict m = true) (h : rdE G Φ γ W (.mu m i ms) σ H Q) : ∃ a, σ[i]? = some (some (.ref a)) ∧ IsD H a ∧ rdEs G Φ γ W ms σ H fun xs H2 => rMu G m (.ref a) xs H2 Q := by
  obtain ⟨⟨Fz, env, R, hf, _⟩, a, ha, h2⟩ := mu_rd h
  refine ⟨a, slAt_some ha, ?_, h2⟩
  have : ∃ ks vs, getS env i = .ow (.dct ks vs) ∧ ks.all keyLeaf = true := by
    cases e : getS env i with
    | ow d =>
      rw [e] at hf
      cases d with
      | dct ks vs =>
        have hf : (muIsDict m && ks.all keyLeaf) = true := hf
        rw [Bool.and_eq_true] at hf
        exact ⟨ks, vs, rfl, hf.2⟩
      | lst ds =>
        have hf : (!muIsDict m) = true := hf
        rw [hd] at hf; cases hf
      | _ => cases hf
    | _ => rw [e] at hf; cases hf
  obtain ⟨ks, vs, e, hl⟩ := this
  obtain ⟨b, hb, _, r⟩ := R.ow_at e
  rw [ha] at hb; cases hb
  obtain ⟨kx, vx, g1, _⟩ := (show ∃ kx vx, DHolds G H a ks kx vx ∧ relFs G Fz H ks kx ∧ relFs G Fz H vs vx from r)
  obtain ⟨kvs, h3, _⟩ := DHolds_leaf hl g1
  exact .inl ⟨kvs, .inl h3⟩
theorem not_mem_kD {k : Key} : ∀ {kvs : List (Key × V)}, valV kvs k = none → kD k ∉ kvs.map fun p => kD p.1
  | [], _, h => by cases h
  | p :: kvs, e, h => by
    by_cases hp : p.1 = k
    · rw [valV_pos hp] at e; cases e
    · rw [valV_neg hp] at e
      rcases List.mem_cons.mp h with h | h
      · exact hp (kD_inj h).symm
      · exact not_mem_kD e h
theorem e_setd {a b : Expr} {ma mb : E} {i : Nat} {x : Str} {p1 apos cpos : Pos} (hN : X.N[i]? = some x) (hv : Vis X.env.scope x) (hdb : (x == ("__debug__" : Str)) = false) (hcd : (x == ("__classdict__" : Str)) = false)
    (ha : PE X a (rdE G Φ γ W ma)) (hb : PE X b (rdE G Φ γ W mb)) (m : M2 X (.Name x p1) "setdefault" apos a b cpos) :
    PE X (.Call (.Attribute (.Name x p1) "setdefault" apos) [a, b] [] cpos) (rdE G Φ γ W (.mu .setdefault i [ma, mb])) :=
  PE.imp (pe_dsetd (pe_var hN hv hdb hcd) ha hb m) fun σ H Q h => by
    obtain ⟨a, h1, h2, h3⟩ := mu_tyD rfl h
    refine ⟨_, h1, a, rfl, h2, rdE_mono (rdEs_cons h3) fun v H2 h => rdE_mono (rdEs_cons h) fun w H3 h => ?_⟩
    have h := rdEs_nil h
    obtain ⟨F, a', d, ds, d', r, e0, ho, hr, hm, hup, k⟩ := h
    cases e0
    have go : ∃ ks vs kk z, d = .dct ks vs ∧ ds = [kk, z] ∧ leafOk kk ks = true ∧ ks.length < sizeLine ∧ ((∃ w, dGet kk ks vs = some w ∧ d' = .dct ks vs ∧ r = w) ∨ (dGet kk ks vs = none ∧ d' = .dct (ks ++ [kk]) (vs ++ [z]) ∧ r = z)) := by
      unfold muD at hm
      split at hm <;> first
        | (rename_i ks vs kk z _
           split at hm
           · rename_i h
             simp only [Bool.and_eq_true, decide_eq_true_eq] at h
             cases e1 : dGet kk ks vs with
             | none => rw [e1] at hm; cases hm; exact ⟨ks, vs, kk, r, rfl, rfl, h.1, h.2, .inr ⟨e1, rfl, rfl⟩⟩
             | some w => rw [e1] at hm; cases hm; exact ⟨ks, vs, kk, z, rfl, rfl, h.1, h.2, .inl ⟨_, e1, rfl, rfl⟩⟩
           · cases hm)
        | simp at *
    obtain ⟨ks, vs, kk, z, rfl, rfl, hk, hz, hc⟩ := go
    unfold leafOk at hk
    rw [Bool.and_eq_true] at hk
    obtain ⟨kk, rfl⟩ := leaf_inv hk.1
    obtain ⟨_, kvs, e4, e5, rfl, f5⟩ := relR_dct_inv hk.2 (relR_of_relO ho)
    cases e4
    simp only [relFs] at hr
    obtain ⟨y1, yr, e6, g1, y2, yr2, e7, g2, e8⟩ := hr
    subst e8 e7
    simp only [List.cons.injEq, and_true] at e6
    obtain ⟨rfl, rfl⟩ := e6
    rw [List.length_map] at hz
    refine ⟨kvs, kk, e5, relF_kD g1, hz, fun v0 hv0 => ?_, fun hn => ?_⟩
    · rcases hc with ⟨w0, e1, rfl, rfl⟩ | ⟨e1, _, _⟩
      · obtain ⟨v1, q1, q2⟩ := dGet_val f5 e1
        rw [hv0] at q1; cases q1
        have := k (.dK kvs) v0 (by rw [upd_self e5]; exact ho) (by rw [upd_self e5]; exact q2)
        rw [upd_self e5] at this
        exact this
      · rw [dGet_none f5 e1] at hv0; cases hv0
    · rcases hc with ⟨w0, e1, _, _⟩ | ⟨e1, rfl, rfl⟩
      · obtain ⟨v1, q1, _⟩ := dGet_val f5 e1
        rw [hn] at q1; cases q1
      · have hq : putK kvs kk w = kvs ++ [(kk, w)] := by
          unfold putK
          rw [if_neg]
          intro z
          exact not_mem_kD hn (mem_kD.mpr z)
        have hx := hup (.dK (putK kvs kk w)) [r] [w] (by simp only [relFs]; exact ⟨w, [], rfl, g2, rfl⟩)
        simp only [relFs] at hx
        obtain ⟨_, _, e9, hx, _⟩ := hx
        cases e9
        refine k _ _ ?_ hx
        have := dPut_rel (k := kk) (d := r) (v := w) (vs := vs) hx (hup (.dK (putK kvs kk w)) _ _ f5) upd_same
        unfold dPut at this
        rw [if_neg (not_mem_kD hn)] at this
        exact this
theorem pr_max1 (hc : X.calm = true) (hK : X.K = G.K) (hu : X.A.units + 64 < cLine) : CallR X (.builtin "max") (fun xs H Q => ∃ x, xs = [x] ∧ rP G .max1 [x] H Q) := by
  intro pins s σ H vs us Q I r h
  obtain ⟨x, rfl, F, ds0, o, d, hr, e', k⟩ := h
  obtain ⟨a, rfl, h1⟩ := rr1 hr
  have e : pBest max none a = some (o, d) := e'
  clear e'
  unfold pBest at e
  cases e1 : lst? a with
  | none => rw [e1] at e; cases e
  | some ds =>
    rw [e1] at e
    obtain rfl := lst_inv e1
    cases e2 : ints? ds with
    | none => rw [Option.bind_some, e2] at e; cases e
    | some ns =>
      rw [Option.bind_some, e2, Option.bind_some] at e
      obtain rfl := ints_inv e2
      cases ns with
      | nil => cases e
      | cons n ns =>
        cases e
        obtain ⟨p, xs, rfl, t1, f1⟩ := rLst h1
        obtain ⟨u, rfl, ru⟩ := vals1 r
        cases ru
        obtain ⟨its, rv, pl, hz⟩ := I.list (.inl t1)
        obtain ⟨as, q1⟩ := readsAll_of hK I (pls_ints (n :: ns)) f1 rv
        rw [pys_ints] at q1
        refine PySem.W.max_list_data (vs := its.toArray) (x := .int n) (xs := ns.map .int) (I.ok.hd hc) pl.isList (by simpa using q1) (alike_ints (n :: ns)) (by have := depth_ints (n :: ns); rw [List.map_cons] at this; rw [this]; omega) fun i v h' tk bs hv hm hk => ?_
        rw [PySem.W.maxD_ints] at hm
        cases hm
        exact ⟨.int _, H, I.kept hk, ⟨_, rfl⟩, k _ _ resI⟩
end
end PF
set_option Elab.async false
set_option linter.all false
set_option maxRecDepth 100000
set_option maxHeartbeats 2000000
namespace PF
open PySem PySem.Spec PyProof.Rows L2
/-- what is fixed for a def: its names, the built-ins that are not the module's, the defs, the constants -/
structure Ck where
  N : List Str
  bns : List Str
  fns : Str → Bool
  γ : Str → Option D
def visB (sc : Sc) (x : Str) : Bool := match sc.scope.names.lookup x with
  | some .local => true
  | some .cell => true
  | some .free => true
  | _ => false
def globB (sc : Sc) (x : Str) : Bool := match sc.scope.names.lookup x with
  | some .globalImplicit => true
  | _ => false
def locB (sc : Sc) (x : Str) : Bool := match sc.scope.names.lookup x with
  | some .local => true
  | some .cell => sc.fn x
  | _ => false
def noDbg (x : Str) : Bool := !(x == ("__debug__" : Str)) && !(x == ("__classdict__" : Str))
def atB (c : Ck) (i : Nat) (x : Str) : Bool := match c.N[i]? with
  | some y => decide (y = x)
  | none => false
def nameB (c : Ck) (sc : Sc) (i : Nat) (x : Str) : Bool := atB c i x && visB sc x && noDbg x
def bi (c : Ck) (sc : Sc) (nm x : Str) : Bool := decide (x = nm) && globB sc x && c.bns.contains nm
def notSet : Expr → Bool
  | .Set _ _ _ => false
  | _ => true
def notSlice : Expr → Bool
  | .Slice _ _ _ _ => false
  | _ => true
def notComp : Expr → Bool
  | .ListComp _ _ _ _ => false
  | .SetComp _ _ _ _ => false
  | .DictComp _ _ _ _ _ => false
  | _ => true
def notTup : Expr → Bool
  | .Tuple _ _ _ => false
  | _ => true
def plainT : Expr → Bool
  | .UnaryOp .Not _ _ => false
  | .BoolOp _ _ _ => false
  | .IfExp _ _ _ _ => false
  | .Compare _ _ _ _ => false
  | _ => true
theorem behind_of {op : CmpOp} {b : Expr} (h : notSet b = true) : behindInMarks op b = false := by
  cases b <;> first | rfl | cases h
theorem plainIx_of {b : Expr} (h : notSlice b = true) : PlainIx b := by
  cases b <;> first | (intro _ _; rfl) | cases h
theorem folded_of {e : Expr} {env : PySem.Env} (h : notSet e = true) : ∀ x, foldedSetIterable e env x = pure x := by
  cases e <;> first | (intro _; rfl) | cases h
theorem swaps_of {e : Expr} {t : Option Expr} {l : Nat} {env : PySem.Env} (h : notComp e = true) : swapsWith e t l env = pure false := by
  cases e <;> first | rfl | cases h
theorem isTrue_of {e : Expr} {env : PySem.Env} (h : plainT e = true) : ∀ whole, isTrue e env whole = (do let v ← whole; standAt e.pos; holding [v] (PySem.truthy v)) := by
  intro whole
  cases e with
  | UnaryOp op a pos => cases op <;> first | rfl | cases h
  | _ => first | rfl | cases h
section
variable {G : Gp} {mg : Str → Option Value} {base : Heap} {Φ : Str → List Sl → FR} {k : Nat} {sc : Sc} {X : Cx} {W : WX} {c : Ck}
theorem visB_ok {x : Str} (C : Cok G mg base c.N k sc X W) (h : visB sc x = true) : Vis X.env.scope x := by
  unfold visB at h
  unfold Vis
  rw [C.scope]
  split at h
  · exact .inl (by assumption)
  · exact .inr (.inl (by assumption))
  · exact .inr (.inr (by assumption))
  · cases h
theorem globB_ok {x : Str} (C : Cok G mg base c.N k sc X W) (h : globB sc x = true) : Gl X x := by
  unfold globB at h
  show X.env.scope.names.lookup x = _
  rw [C.scope]
  split at h
  · assumption
  · cases h
theorem locB_ok {x : Str} (C : Cok G mg base c.N k sc X W) (h : locB sc x = true) : L2.Loc X.env.scope x ∧ (X.fn x = true ∨ X.env.scope.names.lookup x = some .local) := by
  unfold locB at h
  unfold L2.Loc
  rw [C.scope, C.fn]
  split at h
  · rename_i q; exact ⟨.inl q, .inr q⟩
  · rename_i q; exact ⟨.inr q, .inl h⟩
  · cases h
theorem atB_ok {i : Nat} {x : Str} (C : Cok G mg base c.N k sc X W) (h : atB c i x = true) : X.N[i]? = some x := by
  unfold atB at h
  rw [C.names]
  split at h
  · rename_i y e
    have : y = x := by simpa using h
    rw [e, this]
  · cases h
theorem noDbg_ok {x : Str} (h : noDbg x = true) : (x == ("__debug__" : Str)) = false ∧ (x == ("__classdict__" : Str)) = false := by
  unfold noDbg at h
  simp only [Bool.and_eq_true, Bool.not_eq_true'] at h
  exact h
theorem nameB_ok {i : Nat} {x : Str} (C : Cok G mg base c.N k sc X W) (h : nameB c sc i x = true) : X.N[i]? = some x ∧ Vis X.env.scope x ∧ (x == ("__debug__" : Str)) = false ∧ (x == ("__classdict__" : Str)) = false := by
  unfold nameB at h
  simp only [Bool.and_eq_true] at h
  exact ⟨atB_ok C h.1.1, visB_ok C h.1.2, noDbg_ok h.2⟩
theorem bi_ok {nm x : Str} (T : Top G mg base Φ c.γ c.bns c.fns k) (C : Cok G mg base c.N k sc X W) (h : bi c sc nm x = true) : x = nm ∧ Gl X nm ∧ X.mg nm = none := by
  unfold bi at h
  simp only [Bool.and_eq_true, decide_eq_true_eq, List.contains_eq_mem] at h
  obtain ⟨⟨rfl, h1⟩, h2⟩ := h
  exact ⟨rfl, globB_ok C h1, by rw [C.mg]; exact T.bn _ h2⟩
end
def ckLit : D → Expr → Bool
  | .int i, .Constant (.int j) _ _ => decide (i = j)
  | .str x, .Constant (.str y) _ _ => decide (x = y)
  | .bl a, .Constant (.bool b) _ _ => a == b
  | .non, .Constant .none _ _ => true
  | _, _ => false
def ckName (c : Ck) (sc : Sc) (i : Nat) : Expr → Bool
  | .Name x _ => nameB c sc i x
  | _ => false
def ckGl (c : Ck) (sc : Sc) (x : Str) : Expr → Bool
  | .Name y _ => decide (y = x) && globB sc y && noDbg y && decide ((c.γ x).map biD = some none)
  | _ => false
def asTup : Expr → Option (List Expr)
  | .Tuple es _ _ => some es
  | _ => none
def asLst : Expr → Option (List Expr)
  | .List es _ => some es
  | _ => none
def tyB (c : Ck) (sc : Sc) (t : Ty) : Expr → Bool
  | .Name x _ => bi c sc (tyNm t) x
  | _ => false
def tysB (c : Ck) (sc : Sc) : List Ty → List Expr → Bool
  | [], [] => true
  | t :: ts, e :: es => tyB c sc t e && tysB c sc ts es
  | _, _ => false
/-- the second argument of isinstance -/
def isiB (c : Ck) (sc : Sc) (ts : List Ty) : Expr → Bool
  | .Tuple es _ _ => tysB c sc ts es && decide (ts.length ≤ 10)
  | e => match ts with
    | [t] => tyB c sc t e
    | _ => false
/-- a call of a built-in of one argument -/
def as1 (c : Ck) (sc : Sc) (nm : Str) : Expr → Option (List Expr)
  | .Call (.Name x _) [a] [] _ => if bi c sc nm x then some [a] else none
  | _ => none
/-- a built-in of a set made on the spot -/
def asSet (c : Ck) (sc : Sc) (nm : Str) : Expr → Option (List Expr)
  | .Call (.Name x _) [.Call (.Name y _) [a] [] _] [] _ => if bi c sc nm x && bi c sc "set" y then some [a] else none
  | _ => none
def as2 (c : Ck) (sc : Sc) (nm : Str) : Expr → Option (List Expr)
  | .Call (.Name x _) [a, b] [] _ => if bi c sc nm x then some [a, b] else none
  | _ => none
/-- a module's function -/
def asIm (c : Ck) (sc : Sc) (id : String) : Expr → Option (List Expr)
  | .Call (.Name x _) [a, b] [] _ => if globB sc x && noDbg x && decide ((c.γ x).map biD = some (some id)) then some [a, b] else none
  | _ => none
def asMinN (c : Ck) (sc : Sc) : Expr → Option (List Expr)
  | .Call (.Name x _) [a] [⟨some nm, .Constant .none _ _, _⟩] _ => if bi c sc "min" x && decide (nm = "default") then some [a] else none
  | _ => none
def binOf : Op → Option Operator
  | .add => some .Add
  | .sub => some .Sub
  | .mul => some .Mult
  | .fdiv => some .FloorDiv
  | .mod => some .Mod
  | .pow => some .Pow
  | .bor => some .BitOr
  | .shl => some .LShift
  | _ => none
def cmpOf : Op → Option CmpOp
  | .eq => some .Eq
  | .ne => some .NotEq
  | .lt => some .Lt
  | .le => some .LtE
  | .gt => some .Gt
  | .ge => some .GtE
  | .isIn => some .In
  | .notIn => some .NotIn
  | _ => none
def isOf : Op → Option CmpOp
  | .isN => some .Is
  | .notN => some .IsNot
  | _ => none
def asBin : Expr → Option (Operator × List Expr)
  | .BinOp a o b _ => some (o, [a, b])
  | _ => none
def asCmp : Expr → Option (CmpOp × List Expr)
  | .Compare a [o] [b] _ => if notSet b then some (o, [a, b]) else none
  | _ => none
def asIs : Expr → Option (CmpOp × List Expr)
  | .Compare a [o] [.Constant .none _ _] _ => some (o, [a])
  | _ => none
def fn1Of : Op → Option Str
  | .len => some "len"
  | .toInt => some "int"
  | .toStr => some "str"
  | .abs => some "abs"
  | .sum => some "sum"
  | .tuple => some "tuple"
  | .list => some "list"
  | .all => some "all"
  | .any => some "any"
  | .sorted => some "sorted"
  | .dict => some "dict"
  | .max1 => some "max"
  | _ => none
def fn2Of : Op → Option Str
  | .min2 => some "min"
  | .max2 => some "max"
  | _ => none
def asSub : Expr → Option (List Expr)
  | .Subscript a b _ => if notSlice b then some [a, b] else none
  | _ => none
def asSlLo : Expr → Option (List Expr)
  | .Subscript a (.Slice (some b) none none _) _ => some [a, b]
  | _ => none
def asSlHi : Expr → Option (List Expr)
  | .Subscript a (.Slice none (some b) none _) _ => some [a, b]
  | _ => none
def asIsi (c : Ck) (sc : Sc) (ts : List Ty) : Expr → Option (List Expr)
  | .Call (.Name x _) [a, t] [] _ => if bi c sc "isinstance" x && isiB c sc ts t then some [a] else none
  | _ => none
def asNeg : Expr → Option (List Expr)
  | .UnaryOp .USub a _ => some [a]
  | _ => none
def isStrLit : Expr → Bool
  | .Constant (.str _) _ _ => true
  | _ => false
def litStr : List E → Bool
  | [.lit (.str _), _] => true
  | _ => false
def asJoin (ms : List E) : Expr → Option (List Expr)
  | .Call (.Attribute a nm apos) [b] [] cpos => if decide (nm = ("join" : Str)) && isStrLit a && litStr ms && (apos.endLine == cpos.line) then some [a, b] else none
  | _ => none
def opParts (c : Ck) (sc : Sc) (p : Op) (ms : List E) (e : Expr) : Option (List Expr) :=
  match binOf p with
  | some o => match asBin e with
    | some (o', es) => if o' = o then some es else none
    | none => none
  | none => match cmpOf p with
  | some o => match asCmp e with
    | some (o', es) => if o' = o then some es else none
    | none => none
  | none => match isOf p with
  | some o => match asIs e with
    | some (o', es) => if o' = o then some es else none
    | none => none
  | none => match fn1Of p with
  | some nm => as1 c sc nm e
  | none => match fn2Of p with
  | some nm => as2 c sc nm e
  | none => match p with
    | .neg => asNeg e
    | .idx => asSub e
    | .slLo => asSlLo e
    | .slHi => asSlHi e
    | .isinst ts => asIsi c sc ts e
    | .join => asJoin ms e
    | .sortedSet => asSet c sc "sorted" e
    | .lenSet => asSet c sc "len" e
    | .gcd => asIm c sc "math.gcd" e
    | .lcm => asIm c sc "math.lcm" e
    | .min1n => asMinN c sc e
    | _ => none
def PEs (X : Cx) (rd : E → TE) : List Expr → List E → Prop
  | [], [] => True
  | e :: es, m :: ms => (notStar e = true ∧ PE X e (rd m)) ∧ PEs X rd es ms
  | _, _ => False
section
variable {G : Gp} {mg : Str → Option Value} {base : Heap} {Φ : Str → List Sl → FR} {k : Nat} {sc : Sc} {X : Cx} {W : WX} {c : Ck} {ms : List E} {e : Expr} {es : List Expr}
theorem PEs1 {rd : E → TE} {a : Expr} (h : PEs X rd [a] ms) : ∃ m, ms = [m] ∧ notStar a = true ∧ PE X a (rd m) := by
  match ms, h with
  | [m], h => exact ⟨m, rfl, h.1.1, h.1.2⟩
theorem PEs2 {rd : E → TE} {a b : Expr} (h : PEs X rd [a, b] ms) : ∃ m n, ms = [m, n] ∧ (notStar a = true ∧ PE X a (rd m)) ∧ notStar b = true ∧ PE X b (rd n) := by
  match ms, h with
  | [m, n], h => exact ⟨m, n, rfl, h.1, h.2.1⟩
theorem PEs_star {rd : E → TE} : ∀ {es : List Expr} {ms : List E}, PEs X rd es ms → es.all notStar = true
  | [], [], _ => rfl
  | e :: es, m :: ms, h => by rw [List.all_cons, h.1.1, PEs_star h.2]; rfl
  | [], _ :: _, h => h.elim
  | _ :: _, [], h => h.elim
theorem PEs_pa {γ : Str → Option D} : ∀ {es : List Expr} {ms : List E}, PEs X (rdE G Φ γ W) es ms → PA X es (rdEs G Φ γ W ms)
  | [], [], _ => pa_rd_nil
  | e :: es, m :: ms, h => pa_rd_cons h.1.2 (PEs_pa h.2) (star_cons h.1.1)
  | [], _ :: _, h => h.elim
  | _ :: _, [], h => h.elim
theorem opR_bin (hK : X.K = G.K) {p : Op} {o : Operator} (h : binOf p = some o) : OpR X (binaryOp o) (fun x y => rP G p [x, y]) := by
  unfold binOf at h
  split at h <;> first
    | (cases h; first | exact pr_add hK | exact pr_sub | exact pr_mul hK | exact pr_fdiv | exact pr_mod | exact pr_pow | exact pr_bor | exact pr_shl)
    | cases h
theorem opR_cmp (hP : X.prog = G.P) (hw : X.w = G.w) (hK : X.K = G.K) (hu : X.A.units + 64 < cLine) {p : Op} {o : CmpOp} (h : cmpOf p = some o) : OpR X (compareOp o) (fun x y => rP G p [x, y]) := by
  unfold cmpOf at h
  split at h <;> first
    | (cases h; first | exact pr_eq hK hu (dct_eq hK hu) | exact pr_ne hK hu (dct_ne hK hu) | exact pr_lt hK hu | exact pr_le hK hu | exact pr_gt hK hu | exact pr_ge hK hu | exact pr_in0 false rfl (fun _ _ => rfl) hK hu (dct_in hP hw hK hu) | exact pr_in0 true rfl (fun _ _ => rfl) hK hu (dct_notIn hP hw hK hu))
    | cases h
theorem opR_is {p : Op} {o : CmpOp} (h : isOf p = some o) : OpR X (compareOp o) (fun x y H Q => y = .non ∧ rP G p [x] H Q) := by
  unfold isOf at h
  split at h <;> first
    | (cases h; first | exact pr_isN (y := .non) | exact pr_notN (y := .non))
    | cases h
theorem tyB_ok (T : Top G mg base Φ c.γ c.bns c.fns k) (C : Cok G mg base c.N k sc X W) {t : Ty} (h : tyB c sc t e = true) : ∃ p, e = .Name (tyNm t) p ∧ Gl X (tyNm t) ∧ X.mg (tyNm t) = none := by
  unfold tyB at h
  split at h
  · obtain ⟨rfl, h1, h2⟩ := bi_ok T C h
    exact ⟨_, rfl, h1, h2⟩
  · cases h
theorem tysB_ok (T : Top G mg base Φ c.γ c.bns c.fns k) (C : Cok G mg base c.N k sc X W) : ∀ {ts : List Ty} {es : List Expr}, tysB c sc ts es = true → ∃ ps : List Pos, es = tyNames ts ps ∧ ts.length = ps.length ∧ ∀ t ∈ ts, Gl X (tyNm t) ∧ X.mg (tyNm t) = none
  | [], [], _ => ⟨[], rfl, rfl, fun _ h => by simp at h⟩
  | t :: ts, e :: es, h => by
    unfold tysB at h
    rw [Bool.and_eq_true] at h
    obtain ⟨p, rfl, h1, h2⟩ := tyB_ok T C h.1
    obtain ⟨ps, rfl, h3, h4⟩ := tysB_ok T C h.2
    refine ⟨p :: ps, rfl, by rw [List.length_cons, List.length_cons, h3], fun u hu => ?_⟩
    rcases List.mem_cons.mp hu with rfl | hu
    · exact ⟨h1, h2⟩
    · exact h4 u hu
  | [], _ :: _, h => by cases h
  | _ :: _, [], h => by cases h
theorem sound_1 (T : Top G mg base Φ c.γ c.bns c.fns k) (C : Cok G mg base c.N k sc X W) {p : Op} {nm : Str} (hn : fn1Of p = some nm) (h : as1 c sc nm e = some es) (hp : PEs X (rdE G Φ c.γ W) es ms) : PE X e (rdE G Φ c.γ W (.op p ms)) := by
  unfold as1 at h
  split at h
  · split at h
    · rename_i hb
      cases h
      obtain ⟨rfl, hg, hm⟩ := bi_ok T C hb
      obtain ⟨m, rfl, ns, pe⟩ := PEs1 hp
      unfold fn1Of at hn
      split at hn <;> first
        | (cases hn
           first
             | exact e_callB (pr_len C.K (dct_len C.P C.w C.K)) hg hm rfl pe ns (by decide) (by decide)
             | exact e_callT pr_int hg hm rfl pe ns (by decide) (by decide)
             | exact e_callT pr_str hg hm rfl pe ns (by decide) (by decide)
             | exact e_callB pr_abs hg hm rfl pe ns (by decide) (by decide)
             | exact e_callB (pr_sum C.calm) hg hm rfl pe ns (by decide) (by decide)
             | exact e_callT (pr_tuple C.K) hg hm rfl pe ns (by decide) (by decide)
             | exact e_callT (pr_list C.K) hg hm rfl pe ns (by decide) (by decide)
             | exact e_callB (pr_all C.calm) hg hm rfl pe ns (by decide) (by decide)
             | exact e_callB (pr_any C.calm) hg hm rfl pe ns (by decide) (by decide)
             | exact e_callT pr_dict hg hm rfl pe ns (by decide) (by decide)
             | exact e_callB (pr_max1 C.calm C.K C.room.units) hg hm rfl pe ns (by decide) (by decide)
             | exact e_callB (pr_sorted C.calm C.P C.w C.K C.room.units) hg hm rfl pe ns (by decide) (by decide))
        | cases hn
    · cases h
  · cases h
theorem sound_2 (T : Top G mg base Φ c.γ c.bns c.fns k) (C : Cok G mg base c.N k sc X W) {p : Op} {nm : Str} (hn : fn2Of p = some nm) (h : as2 c sc nm e = some es) (hp : PEs X (rdE G Φ c.γ W) es ms) : PE X e (rdE G Φ c.γ W (.op p ms)) := by
  unfold as2 at h
  split at h
  · split at h
    · rename_i hb
      cases h
      obtain ⟨rfl, hg, hm⟩ := bi_ok T C hb
      obtain ⟨m, n, rfl, ⟨ns, pe⟩, ns2, pe2⟩ := PEs2 hp
      unfold fn2Of at hn
      split at hn <;> first
        | (cases hn
           first
             | exact e_callB2 (pr_min2 C.calm) hg hm rfl pe pe2 ns ns2 (by decide) (by decide)
             | exact e_callB2 (pr_max2 C.calm) hg hm rfl pe pe2 ns ns2 (by decide) (by decide))
        | cases hn
    · cases h
  · cases h
theorem sound_op (T : Top G mg base Φ c.γ c.bns c.fns k) (C : Cok G mg base c.N k sc X W) {p : Op} (h : opParts c sc p ms e = some es) (hp : PEs X (rdE G Φ c.γ W) es ms) : PE X e (rdE G Φ c.γ W (.op p ms)) := by
  unfold opParts at h
  split at h
  · rename_i o ho
    split at h
    · rename_i o' es' he
      split at h
      · rename_i e1
        subst e1
        cases h
        unfold asBin at he
        split at he
        · cases he
          obtain ⟨m, n, rfl, ⟨ns, pe⟩, ns2, pe2⟩ := PEs2 hp
          exact e_bin (opR_bin C.K ho) pe pe2
        · cases he
      · cases h
    · cases h
  · split at h
    · rename_i o ho
      split at h
      · rename_i o' es' he
        split at h
        · rename_i e1
          subst e1
          cases h
          unfold asCmp at he
          split at he
          · split at he
            · rename_i hs
              cases he
              obtain ⟨m, n, rfl, ⟨ns, pe⟩, ns2, pe2⟩ := PEs2 hp
              exact e_cmp (opR_cmp C.P C.w C.K C.room.units ho) pe pe2 (behind_of hs)
            · cases he
          · cases he
        · cases h
      · cases h
    · split at h
      · rename_i o ho
        split at h
        · rename_i o' es' he
          split at h
          · rename_i e1
            subst e1
            cases h
            unfold asIs at he
            split at he
            · cases he
              obtain ⟨m, rfl, ns, pe⟩ := PEs1 hp
              exact e_is (opR_is ho) pe
            · cases he
          · cases h
        · cases h
      · split at h
        · rename_i nm hn; exact sound_1 T C hn h hp
        · split at h
          · rename_i nm hn; exact sound_2 T C hn h hp
          · split at h
            · unfold asNeg at h
              split at h
              · cases h
                obtain ⟨m, rfl, ns, pe⟩ := PEs1 hp
                exact e_un pr_neg pe
              · cases h
            · unfold asSub at h
              split at h
              · split at h
                · rename_i hs
                  cases h
                  obtain ⟨m, n, rfl, ⟨ns, pe⟩, ns2, pe2⟩ := PEs2 hp
                  exact e_ix (pr_idx C.K (dct_idx C.P C.w C.K C.room.units)) pe pe2 (plainIx_of hs)
                · cases h
              · cases h
            · unfold asSlLo at h
              split at h
              · cases h
                obtain ⟨m, n, rfl, ⟨ns, pe⟩, ns2, pe2⟩ := PEs2 hp
                exact e_slLo C.K pe pe2
              · cases h
            · unfold asSlHi at h
              split at h
              · cases h
                obtain ⟨m, n, rfl, ⟨ns, pe⟩, ns2, pe2⟩ := PEs2 hp
                exact e_slHi C.K pe pe2
              · cases h
            · rename_i ts _ _ _ _ _
              unfold asIsi at h
              split at h
              · split at h
                · rename_i hb
                  rw [Bool.and_eq_true] at hb
                  cases h
                  obtain ⟨rfl, hg, hm⟩ := bi_ok T C hb.1
                  obtain ⟨m, rfl, ns, pe⟩ := PEs1 hp
                  have hb2 := hb.2
                  unfold isiB at hb2
                  split at hb2
                  · rw [Bool.and_eq_true, decide_eq_true_eq] at hb2
                    obtain ⟨ps, rfl, h3, h4⟩ := tysB_ok T C hb2.1
                    exact e_isiT (x := "isinstance") C.K hg hm h3 hb2.2 h4 pe ns
                  · split at hb2
                    · obtain ⟨p, rfl, h1, h2⟩ := tyB_ok T C hb2
                      exact e_isi (x := "isinstance") C.K hg hm h1 h2 pe ns
                    · cases hb2
                · cases h
              · cases h
            · unfold asJoin at h
              split at h
              · split at h
                · rename_i hb
                  simp only [Bool.and_eq_true, decide_eq_true_eq] at hb
                  obtain ⟨⟨⟨rfl, h1⟩, h2⟩, h3⟩ := hb
                  cases h
                  obtain ⟨m, n, rfl, ⟨ns, pe⟩, ns2, pe2⟩ := PEs2 hp
                  unfold litStr at h2
                  split at h2
                  · rename_i z _ e1
                    cases e1
                    refine e_join pe pe2 ns2 ?_ h3
                    unfold isStrLit at h1
                    split at h1
                    · rfl
                    · cases h1
                  · cases h2
                · cases h
              · cases h
            · unfold asSet at h
              split at h
              · split at h
                · rename_i hb
                  simp only [Bool.and_eq_true] at hb
                  cases h
                  obtain ⟨rfl, hg, hm⟩ := bi_ok T C hb.1
                  obtain ⟨rfl, hg2, hm2⟩ := bi_ok T C hb.2
                  obtain ⟨m, rfl, ns, pe⟩ := PEs1 hp
                  exact e_ofSet (fun v H Q h => ss_rP v h) (cr_or (cr_sortedK C.calm C.room.units) (cr_sortedN C.calm C.K C.room.units)) (cr_or (cr_set C.calm C.K) (cr_setN C.calm C.K C.room.units)) hg hm rfl hg2 hm2 pe ns (by decide) (by decide)
                · cases h
              · cases h
            · unfold asSet at h
              split at h
              · split at h
                · rename_i hb
                  simp only [Bool.and_eq_true] at hb
                  cases h
                  obtain ⟨rfl, hg, hm⟩ := bi_ok T C hb.1
                  obtain ⟨rfl, hg2, hm2⟩ := bi_ok T C hb.2
                  obtain ⟨m, rfl, ns, pe⟩ := PEs1 hp
                  exact e_ofSet (fun v H Q h => ls_rP v h) (cr_or cr_lenK cr_lenN) (cr_or (cr_set C.calm C.K) (cr_setN C.calm C.K C.room.units)) hg hm rfl hg2 hm2 pe ns (by decide) (by decide)
                · cases h
              · cases h
            · unfold asIm at h
              split at h
              · split at h
                · rename_i hb
                  simp only [Bool.and_eq_true, decide_eq_true_eq] at hb
                  cases h
                  obtain ⟨⟨h1, h2⟩, h3⟩ := hb
                  obtain ⟨d, hd, h4⟩ := Option.map_eq_some_iff.mp h3
                  obtain ⟨m, n, rfl, ⟨ns, pe⟩, ns2, pe2⟩ := PEs2 hp
                  exact e_callM2 pr_gcd (globB_ok C h1) (by rw [C.mg]; exact T.im _ _ _ hd h4) pe pe2 ns ns2 (noDbg_ok h2).1
                · cases h
              · cases h
            · unfold asIm at h
              split at h
              · split at h
                · rename_i hb
                  simp only [Bool.and_eq_true, decide_eq_true_eq] at hb
                  cases h
                  obtain ⟨⟨h1, h2⟩, h3⟩ := hb
                  obtain ⟨d, hd, h4⟩ := Option.map_eq_some_iff.mp h3
                  obtain ⟨m, n, rfl, ⟨ns, pe⟩, ns2, pe2⟩ := PEs2 hp
                  exact e_callM2 pr_lcm (globB_ok C h1) (by rw [C.mg]; exact T.im _ _ _ hd h4) pe pe2 ns ns2 (noDbg_ok h2).1
                · cases h
              · cases h
            · unfold asMinN at h
              split at h
              · split at h
                · rename_i hb
                  simp only [Bool.and_eq_true, decide_eq_true_eq] at hb
                  cases h
                  obtain ⟨rfl, hg, hm⟩ := bi_ok T C hb.1
                  obtain ⟨m, rfl, ns, pe⟩ := PEs1 hp
                  obtain rfl := hb.2
                  exact e_min1n C.calm C.K C.room.units hg hm rfl pe ns (by decide) (by decide)
                · cases h
              · cases h
            · cases h
end
end PF
set_option Elab.async false
set_option linter.all false
set_option maxRecDepth 100000
set_option maxHeartbeats 2000000
namespace PF
open PySem PySem.Spec PyProof.Rows L2
def asSl : Expr → Option (Expr × Expr × Expr)
  | .Subscript a (.Slice (some b) (some c) none _) _ => some (a, b, c)
  | _ => none
def asBoo (cj : Bool) : Expr → Option (List Expr × Pos)
  | .BoolOp .And es p => if cj then some (es, p) else none
  | .BoolOp .Or es p => if cj then none else some (es, p)
  | _ => none
def asNot : Expr → Option Expr
  | .UnaryOp .Not a _ => some a
  | _ => none
def asIf : Expr → Option (Expr × Expr × Expr)
  | .IfExp a b c _ => some (a, b, c)
  | _ => none
def asCall (c : Ck) (sc : Sc) (f : Str) : Expr → Option (List Expr)
  | .Call (.Name x _) es [] _ => if decide (x = f) && c.fns f && globB sc f && noDbg f then some es else none
  | _ => none
def muNm : Mu → Str
  | .append => "append"
  | .extend => "extend"
  | .pop => "pop"
  | .popAt => "pop"
  | .insert => "insert"
  | .reverse => "reverse"
  | .remove => "remove"
  | .setdefault => "setdefault"
def muAr : Mu → Option Nat
  | .append => some 1
  | .extend => some 1
  | .pop => some 0
  | .popAt => some 1
  | .insert => some 2
  | .reverse => some 0
  | .remove => some 1
  | .setdefault => some 2
def asMu (c : Ck) (sc : Sc) (m : Mu) (i : Nat) : Expr → Option (List Expr)
  | .Call (.Attribute (.Name x _) nm apos) es [] cpos => if decide (nm = muNm m) && nameB c sc i x && (apos.endLine == cpos.line) && decide (muAr m = some es.length) then some es else none
  | _ => none
def asLc : Expr → Option (Expr × Expr × Expr × List Expr × Scope)
  | .ListComp elt [⟨tg, it, ifs, 0⟩] scope _ => some (elt, tg, it, ifs, scope)
  | _ => none
def asLc2 : Expr → Option (Expr × Expr × Expr × List Expr × Expr × Expr × List Expr × Scope)
  | .ListComp elt [⟨tg, it, ifs, 0⟩, ⟨tg2, it2, ifs2, 0⟩] scope _ => some (elt, tg, it, ifs, tg2, it2, ifs2, scope)
  | _ => none
def isTupE : Expr → Bool
  | .Tuple _ _ _ => true
  | _ => false
def asCall2 (c : Ck) (sc : Sc) (nm : Str) : Expr → Option (Expr × Expr)
  | .Call (.Name x _) [a, b] [] _ => if bi c sc nm x && notStar a && notStar b then some (a, b) else none
  | _ => none
def asCall1 (c : Ck) (sc : Sc) (nm : Str) : Expr → Option Expr
  | .Call (.Name x _) [a] [] _ => if bi c sc nm x && notStar a then some a else none
  | _ => none
mutual
def tgB (c : Ck) (sc : Sc) : T → Expr → Bool
  | .nm i, .Name x _ => atB c i x && locB sc x
  | .tup ts, .Tuple es _ _ => tgsB c sc ts es
  | _, _ => false
def tgsB (c : Ck) (sc : Sc) : List T → List Expr → Bool
  | [], [] => true
  | t :: ts, e :: es => notStar e && (tgB c sc t e && tgsB c sc ts es)
  | _, _ => false
end
/-- the scope of a comprehension's block -/
def blkSc (scope : Scope) (sc : Sc) : Sc := ⟨relS scope sc.scope, fun x => scope.names.lookup x == some .cell⟩
def ownOf (N : List Str) (vs : List Nat) : List (Str × Nat) := vs.map fun v => (N.getD v (⟨#[]⟩ : Str), v)
def kindIs (k : NameKind) (o : Option NameKind) : Bool := match o with
  | some q => decide (q = k)
  | none => false
def blkB (N : List Str) (sc scope : Scope) (vs : List Nat) : Bool :=
  decide (scope.kind = .function) && scope.names.all (fun y => kindIs y.2 (scope.names.lookup y.1)) && vs.all (fun v => decide (v < N.length)) &&
  scope.names.all (fun y => !decide (y.2 = .free) || kindIs .cell (sc.names.lookup y.1) || kindIs .free (sc.names.lookup y.1)) &&
  scope.names.all (fun y => !(decide (y.2 = .local) || decide (y.2 = .cell)) || ((ownOf N vs).map (·.1)).contains y.1 || !N.contains y.1)
theorem kindIs_ok {k : NameKind} {o : Option NameKind} (h : kindIs k o = true) : o = some k := by
  unfold kindIs at h
  split at h
  · rw [of_decide_eq_true h]
  · cases h
theorem blkB_ok {N : List Str} {sc scope : Scope} {vs : List Nat} (h : blkB N sc scope vs = true) : BlkOk N sc scope (ownOf N vs) := by
  unfold blkB at h
  simp only [Bool.and_eq_true] at h
  obtain ⟨⟨⟨⟨h1, h2⟩, h3⟩, h4⟩, h5⟩ := h
  refine ⟨of_decide_eq_true h1, fun y hy => kindIs_ok (List.all_eq_true.mp h2 y hy), fun p hp => ?_, fun y hy hf => ?_, fun y hy hl => ?_⟩
  · unfold ownOf at hp
    obtain ⟨v, hv, rfl⟩ := List.mem_map.mp hp
    have := of_decide_eq_true (List.all_eq_true.mp h3 v hv)
    simp [List.getElem?_eq_getElem this]
  · have := List.all_eq_true.mp h4 y hy
    simp only [Bool.or_eq_true, Bool.not_eq_true', decide_eq_false_iff_not] at this
    rcases this with (z | z) | z
    · exact absurd hf z
    · exact .inl (kindIs_ok z)
    · exact .inr (kindIs_ok z)
  · have := List.all_eq_true.mp h5 y hy
    simp only [Bool.or_eq_true, Bool.not_eq_true', Bool.or_eq_false_iff, decide_eq_false_iff_not] at this
    rcases this with (z | z) | z
    · exact absurd hl (fun q => q.elim z.1 z.2)
    · exact .inl (by simpa [List.contains_eq_mem] using z)
    · exact .inr (by simpa [List.contains_eq_mem] using z)
theorem ownOf_snd {N : List Str} {vs : List Nat} : (ownOf N vs).map (·.2) = vs := by
  unfold ownOf
  rw [List.map_map]
  exact List.map_id vs
def subB (a b : List Nat) : Bool := a.all b.contains
theorem subB_ok {a b : List Nat} (h : subB a b = true) : ∀ j ∈ a, j ∈ b := fun j hj => by
  have := List.all_eq_true.mp h j hj
  simpa [List.contains_eq_mem] using this
def asDc : Expr → Option (Expr × Expr × Expr × Expr × List Expr × Scope)
  | .DictComp k v [⟨tg, it, ifs, 0⟩] scope _ => some (k, v, tg, it, ifs, scope)
  | _ => none
def isDnew : Expr → Bool
  | .Dict [] [] _ => true
  | _ => false
def isNm : Expr → Bool
  | .Name _ _ => true
  | _ => false
/-- what a method may be asked of -/
def isRcv : Expr → Bool
  | .Name _ _ => true
  | .Subscript _ _ _ => true
  | .Constant (.str _) _ _ => true
  | _ => false
/-- d.get(k, x) -/
def asGet : Expr → Option (Expr × Expr × Expr)
  | .Call (.Attribute o nm apos) [b, f] [] cpos => if isNm o && decide (nm = "get") && (apos.endLine == cpos.line) && notStar b && notStar f then some (o, b, f) else none
  | _ => none
/-- xs.index(x), xs.count(x) -/
def metName : Op → Option Str
  | .index => some "index"
  | .count => some "count"
  | _ => none
def asMet (p : Op) : Expr → Option (Expr × Expr)
  | .Call (.Attribute o nm apos) [b] [] cpos => if isRcv o && decide (metName p = some nm) && (apos.endLine == cpos.line) && notStar b then some (o, b) else none
  | _ => none
/-- what is walked, apart -/
def asRng1 (c : Ck) (sc : Sc) : Expr → Option Expr
  | .Call (.Name x _) [a] [] _ => if bi c sc "range" x && notStar a then some a else none
  | _ => none
mutual
/-- an expression as a value (t = false), as a test (t = true) -/
def chkE (c : Ck) (sc : Sc) (t : Bool) : E → Expr → Bool
  | .var i, e => ckName c sc i e
  | .pk i, e => ckName c sc i e
  | .lit d, e => ckLit d e
  | .gl x, e => ckGl c sc x e
  | .tup ms, e => match asTup e with
    | some es => chkEs c sc ms es
    | none => false
  | .lst ms, e => match asLst e with
    | some es => chkEs c sc ms es
    | none => false
  | .dnew, e => isDnew e
  | .op p ms, e => match opParts c sc p ms e with
    | some es => chkEs c sc ms es && (!t || isCmp p || plainT e)
    | none => false
  | .sl m1 m2 m3, e => match asSl e with
    | some (e1, e2, e3) => chkE c sc false m1 e1 && chkE c sc false m2 e2 && chkE c sc false m3 e3
    | none => false
  | .boo cj ms, e => match asBoo cj e with
    | some (es, _) => !ms.isEmpty && chkB c sc t ms es
    | none => false
  | .not_ m, e => match asNot e with
    | some a => chkE c sc t m a
    | none => false
  | .ife m1 m2 m3, e => match asIf e with
    | some (e1, e2, e3) => !t && chkE c sc true m1 e1 && chkE c sc false m2 e2 && chkE c sc false m3 e3
    | none => false
  | .get m1 m2 m3, e => match asGet e with
    | some (e1, e2, e3) => !t && chkE c sc false m1 e1 && chkE c sc false m2 e2 && chkE c sc false m3 e3
    | none => false
  | .met p m1 m2, e => match asMet p e with
    | some (e1, e2) => !t && chkE c sc false m1 e1 && chkE c sc false m2 e2
    | none => false
  | .call f ms, e => match asCall c sc f e with
    | some es => chkEs c sc ms es
    | none => false
  | .mu m i ms, e => match asMu c sc m i e with
    | some es => chkEs c sc ms es
    | none => false
  | .lc vs tt it ifs elt, e => match asLc e with
    | some (e1, tg, ite, ifes, scope) => chkI c sc it tg ite && blkB c.N sc.scope scope vs && subB (tvars tt) vs && tgB c (blkSc scope sc) tt tg && notStar tg && notSet ite && chkTs c (blkSc scope sc) ifs ifes && chkE c (blkSc scope sc) false elt e1
    | none => false
  | .lc2 vs tt it ifs t2 it2 ifs2 elt, e => match asLc2 e with
    | some (e1, tg, ite, ifes, tg2, ite2, ifes2, scope) => chkI c sc it tg ite && blkB c.N sc.scope scope vs && subB (tvars tt) vs && tgB c (blkSc scope sc) tt tg && subB (tvars t2) vs && notSet ite && chkTs c (blkSc scope sc) ifs ifes && chkE c (blkSc scope sc) false elt e1
        && chkI c (blkSc scope sc) it2 tg2 ite2 && tgB c (blkSc scope sc) t2 tg2 && notSet ite2 && chkTs c (blkSc scope sc) ifs2 ifes2
    | none => false
  | .dc vs tt it ifs k v, e => match asDc e with
    | some (e1, e2, tg, ite, ifes, scope) => chkI c sc it tg ite && blkB c.N sc.scope scope vs && subB (tvars tt) vs && tgB c (blkSc scope sc) tt tg && notStar tg && notSet ite && chkTs c (blkSc scope sc) ifs ifes && chkE c (blkSc scope sc) false k e1 && chkE c (blkSc scope sc) false v e2
    | none => false
def chkEs (c : Ck) (sc : Sc) : List E → List Expr → Bool
  | [], es => es.isEmpty
  | m :: ms, es => match es with
    | e :: es => notStar e && chkE c sc false m e && chkEs c sc ms es
    | [] => false
def chkB (c : Ck) (sc : Sc) (t : Bool) : List E → List Expr → Bool
  | [], es => es.isEmpty
  | m :: ms, es => match es with
    | e :: es => chkE c sc t m e && chkB c sc t ms es
    | [] => false
def chkTs (c : Ck) (sc : Sc) : List E → List Expr → Bool
  | [], es => es.isEmpty
  | m :: ms, es => ms.isEmpty && (match es with
    | [e] => chkE c sc true m e
    | _ => false)
def chkI (c : Ck) (sc : Sc) : It → Expr → Expr → Bool
  | .seq m, _, e => chkE c sc false m e
  | .rng1 m, _, e => match asRng1 c sc e with
    | some a => chkE c sc false m a
    | none => false
  | .rng2 ms, _, e => match asCall2 c sc "range" e with
    | some (a, b) => chkEs c sc ms [a, b]
    | none => false
  | .zip ms, tg, e => match asCall2 c sc "zip" e with
    | some (a, b) => isTupE tg && chkEs c sc ms [a, b]
    | none => false
  | .enum m, tg, e => match asCall1 c sc "enumerate" e with
    | some a => isTupE tg && chkE c sc false m a
    | none => false
  | .items _, _, _ => false
end
section
variable {G : Gp} {mg : Str → Option Value} {base : Heap} {Φ : Str → List Sl → FR} {k : Nat} {c : Ck}
theorem asgEach_cons {e : Expr} {es : List Expr} {env : PySem.Env} (h : notStar e = true) : assignEach (e :: es) env = (false, assign e env) :: assignEach es env := by
  cases e <;> first | rfl | cases h
theorem asgEach_len {env : PySem.Env} : ∀ {es : List Expr}, es.all notStar = true → (assignEach es env).length = es.length ∧ (assignEach es env).findIdx? (·.1) = none
  | [], _ => ⟨rfl, rfl⟩
  | e :: es, h => by
    rw [List.all_cons, Bool.and_eq_true] at h
    obtain ⟨h1, h2⟩ := asgEach_len (env := env) h.2
    rw [asgEach_cons h.1]
    refine ⟨by rw [List.length_cons, List.length_cons, h1], ?_⟩
    rw [List.findIdx?_cons, h2]; rfl
mutual
theorem tg_ok {sc : Sc} {X : Cx} {W : WX} (C : Cok G mg base c.N k sc X W) : ∀ (t : T) (e : Expr), tgB c sc t e = true → PG X e (gT G.K t)
  | .nm i, e, h => by
    cases e with
    | Name x p =>
      simp only [tgB, Bool.and_eq_true] at h
      obtain ⟨h1, h2⟩ := locB_ok C h.2
      exact pg_name (by rw [C.names]; exact C.nd) (atB_ok C h.1) h1 h2
    | _ => simp [tgB] at h
  | .tup ts, e, h => by
    cases e with
    | Tuple es x p =>
      simp only [tgB] at h
      obtain ⟨h1, h2, h3⟩ := tgs_ok C ts es h
      have hl := asgEach_len (env := X.env) h2
      rw [gT, ← C.K]
      refine pg_tup C.calm (by rw [C.K]; exact h1) (by rw [hl.1, h3]) hl.2
    | _ => simp [tgB] at h
theorem tgs_ok {sc : Sc} {X : Cx} {W : WX} (C : Cok G mg base c.N k sc X W) : ∀ (ts : List T) (es : List Expr), tgsB c sc ts es = true → PGs X es (gTs G.K ts) ∧ es.all notStar = true ∧ es.length = ts.length
  | [], [], _ => ⟨pgs_nil, rfl, rfl⟩
  | t :: ts, e :: es, h => by
    simp only [tgsB, Bool.and_eq_true] at h
    obtain ⟨h1, h2, h3⟩ := tgs_ok C ts es h.2.2
    refine ⟨pgs_cons (tg_ok C t e h.2.1) h1 (by rw [asgEach_cons h.1]; rfl), by rw [List.all_cons, h.1, h2]; rfl, by rw [List.length_cons, List.length_cons, h3]⟩
  | [], _ :: _, h => by simp [tgsB] at h
  | _ :: _, [], h => by simp [tgsB] at h
end
/-- as a value, as a test -/
def Sd (G : Gp) (Φ : Str → List Sl → FR) (γ : Str → Option D) (W : WX) (X : Cx) (t : Bool) (m : E) (e : Expr) : Prop := match t with
  | false => PE X e (rdE G Φ γ W m)
  | true => PT X e (rdT G Φ γ W m)
def SdB (G : Gp) (Φ : Str → List Sl → FR) (γ : Str → Option D) (W : WX) (X : Cx) (t cj : Bool) (ms : List E) (e : Expr) : Prop := match t with
  | false => PE X e (rdEB G Φ γ W cj ms)
  | true => PW X e (rdTB G Φ γ W cj ms)
theorem sd_of {sc : Sc} {X : Cx} {W : WX} (C : Cok G mg base c.N k sc X W) {t : Bool} {m : E} {e : Expr} (h : PE X e (rdE G Φ c.γ W m)) (ht : plainT e = true) : Sd G Φ c.γ W X t m e := by
  cases t with
  | false => exact h
  | true => exact t_val C.P C.w C.K h (isTrue_of ht)
theorem sd_cmp {sc : Sc} {X : Cx} {W : WX} (C : Cok G mg base c.N k sc X W) {p : Op} {ms : List E} {e : Expr} {es : List Expr} (hc : isCmp p = true) (h : opParts c sc p ms e = some es) (hp : PEs X (rdE G Φ c.γ W) es ms) : PT X e (rdT G Φ c.γ W (.op p ms)) := by
  unfold opParts at h
  split at h
  · rename_i o ho
    cases p <;> first | (simp [isCmp] at hc; done) | (simp [binOf] at ho; done)
  · split at h
    · rename_i o ho
      split at h
      · rename_i o' es' he
        split at h
        · rename_i e1
          subst e1
          cases h
          unfold asCmp at he
          split at he
          · split at he
            · rename_i hs
              cases he
              obtain ⟨m, n, rfl, ⟨ns, pe⟩, ns2, pe2⟩ := PEs2 hp
              exact t_cmp hc (opR_cmp C.P C.w C.K C.room.units ho) pe pe2 (behind_of hs)
            · cases he
          · cases he
        · cases h
      · cases h
    · split at h
      · rename_i o ho
        split at h
        · rename_i o' es' he
          split at h
          · rename_i e1
            subst e1
            cases h
            unfold asIs at he
            split at he
            · cases he
              obtain ⟨m, rfl, ns, pe⟩ := PEs1 hp
              exact t_is hc (opR_is ho) pe
            · cases he
          · cases h
        · cases h
      · rename_i q2 _ q3
        cases p <;> first | (simp [isCmp] at hc; done) | (simp_all [cmpOf, isOf]; done)
theorem lit_ok {X : Cx} {W : WX} {γ : Str → Option D} {d : D} {e : Expr} (h : ckLit d e = true) : PE X e (rdE G Φ γ W (.lit d)) ∧ plainT e = true := by
  unfold ckLit at h
  split at h
  · have := of_decide_eq_true h; subst this; exact ⟨e_lit pe_int (fun F H => by simp only [relF]), rfl⟩
  · have := of_decide_eq_true h; subst this; exact ⟨e_lit pe_str (fun F H => by simp only [relF]), rfl⟩
  · have := beq_iff_eq.mp h; subst this; exact ⟨e_lit pe_bl (fun F H => by simp only [relF]), rfl⟩
  · exact ⟨e_lit pe_non (fun F H => by simp only [relF]), rfl⟩
  · cases h
theorem mu_ok {sc : Sc} {X : Cx} {W : WX} (C : Cok G mg base c.N k sc X W) {m : Mu} {i : Nat} {ms : List E} {e : Expr} {es : List Expr} (h : asMu c sc m i e = some es) (hp : PEs X (rdE G Φ c.γ W) es ms) : PE X e (rdE G Φ c.γ W (.mu m i ms)) ∧ plainT e = true := by
  unfold asMu at h
  split at h
  · split at h
    · rename_i hb
      simp only [Bool.and_eq_true, decide_eq_true_eq] at hb
      obtain ⟨⟨⟨rfl, hn⟩, hl⟩, har⟩ := hb
      cases h
      obtain ⟨h1, h2, h3, h4⟩ := nameB_ok C hn
      refine ⟨?_, rfl⟩
      have ar0 : es.length = 0 → ms = [] ∧ es = [] := fun z => by
        have : es = [] := List.length_eq_zero_iff.mp z
        subst this
        cases ms with
        | nil => exact ⟨rfl, rfl⟩
        | cons _ _ => exact hp.elim
      have ar1 : es.length = 1 → ∃ a n, es = [a] ∧ ms = [n] ∧ notStar a = true ∧ PE X a (rdE G Φ c.γ W n) := fun z => by
        obtain ⟨a, rfl⟩ := List.length_eq_one_iff.mp z
        obtain ⟨n, rfl, q⟩ := PEs1 hp
        exact ⟨a, n, rfl, rfl, q⟩
      have ar2 : es.length = 2 → ∃ a b n q, es = [a, b] ∧ ms = [n, q] ∧ (notStar a = true ∧ PE X a (rdE G Φ c.γ W n)) ∧ notStar b = true ∧ PE X b (rdE G Φ c.γ W q) := fun z => by
        match es, z with
        | [a, b], _ =>
          obtain ⟨n, q, rfl, r⟩ := PEs2 hp
          exact ⟨a, b, n, q, rfl, rfl, r⟩
      cases m with
      | append =>
        obtain ⟨a, n, rfl, rfl, ns, pe⟩ := ar1 (Option.some.inj har).symm
        exact e_mu1 C.K rfl F.slot_list_append F.type_list_append mu_append h1 h2 h3 h4 hl pe ns
      | extend =>
        obtain ⟨a, n, rfl, rfl, ns, pe⟩ := ar1 (Option.some.inj har).symm
        exact e_mu1 C.K rfl F.slot_list_extend F.type_list_extend mu_extend h1 h2 h3 h4 hl pe ns
      | popAt =>
        obtain ⟨a, n, rfl, rfl, ns, pe⟩ := ar1 (Option.some.inj har).symm
        exact e_mu1 C.K rfl F.slot_list_pop F.type_list_pop mu_popAt h1 h2 h3 h4 hl pe ns
      | pop =>
        obtain ⟨rfl, rfl⟩ := ar0 (Option.some.inj har).symm
        exact e_mu0 C.K rfl F.slot_list_pop F.type_list_pop mu_pop h1 h2 h3 h4 hl
      | reverse =>
        obtain ⟨rfl, rfl⟩ := ar0 (Option.some.inj har).symm
        exact e_mu0 C.K rfl F.slot_list_reverse F.type_list_reverse mu_reverse h1 h2 h3 h4 hl
      | insert =>
        obtain ⟨a, b, n, q, rfl, rfl, ⟨ns, pe⟩, ns2, pe2⟩ := ar2 (Option.some.inj har).symm
        exact e_mu2 C.K rfl F.slot_list_insert F.type_list_insert mu_insert h1 h2 h3 h4 hl pe ns pe2 ns2
      | remove =>
        obtain ⟨a, n, rfl, rfl, ns, pe⟩ := ar1 (Option.some.inj har).symm
        exact e_mu1 C.K rfl F.slot_list_remove F.type_list_remove (mu_remove C.K C.room.units) h1 h2 h3 h4 hl pe ns
      | setdefault =>
        obtain ⟨a, b, n, q, rfl, rfl, ⟨ns, pe⟩, ns2, pe2⟩ := ar2 (Option.some.inj har).symm
        exact e_setd h1 h2 h3 h4 pe pe2 ⟨rfl, few_ok (by simp [ns, ns2]) (by simp), hl, by rw [star_cons ns, star_cons ns2]; rfl⟩
    · cases h
  · cases h
/-- the block's context -/
theorem Cok.blk {sc : Sc} {X : Cx} {W : WX} (C : Cok G mg base c.N k sc X W) (s : Shared) (H : Hp) (scope : Scope) (A : Addr) (cl : List (Str × Addr)) (fp : List Addr) : Cok G mg base c.N k (blkSc scope sc) (X.blk s H scope (compEnvC scope cl A X.env) fp) W0 :=
  ⟨C.P, C.w, C.K, C.mg, C.base, C.names, by show relS scope X.env.scope = relS scope sc.scope; rw [C.scope], rfl, C.room, C.calm, C.nd, takes0⟩
end
end PF
set_option Elab.async false
set_option linter.all false
set_option maxRecDepth 100000
set_option maxHeartbeats 2000000
namespace PF
open PySem PySem.Spec PyProof.Rows L2
section
variable {G : Gp} {mg : Str → Option Value} {base : Heap} {Φ : Str → List Sl → FR} {k : Nat} {c : Ck}
mutual
theorem soundE (T : Top G mg base Φ c.γ c.bns c.fns k) : ∀ (m : E) (t : Bool) (sc : Sc) (X : Cx) (W : WX) (e : Expr), Cok G mg base c.N k sc X W → chkE c sc t m e = true → Sd G Φ c.γ W X t m e
  | .var i, t, sc, X, W, e, C, h => by
    rw [chkE] at h
    unfold ckName at h
    split at h
    · obtain ⟨h1, h2, h3, h4⟩ := nameB_ok C h
      exact sd_of C (e_var h1 h2 h3 h4) rfl
    · cases h
  | .pk i, t, sc, X, W, e, C, h => by
    rw [chkE] at h
    unfold ckName at h
    split at h
    · obtain ⟨h1, h2, h3, h4⟩ := nameB_ok C h
      exact sd_of C (e_pk h1 h2 h3 h4) rfl
    · cases h
  | .lit d, t, sc, X, W, e, C, h => by
    rw [chkE] at h
    obtain ⟨h1, h2⟩ := lit_ok (G := G) (Φ := Φ) (X := X) (W := W) (γ := c.γ) h
    exact sd_of C h1 h2
  | .gl x, t, sc, X, W, e, C, h => by
    rw [chkE] at h
    unfold ckGl at h
    split at h
    · simp only [Bool.and_eq_true, decide_eq_true_eq] at h
      obtain ⟨⟨⟨rfl, h1⟩, h2⟩, h3⟩ := h
      obtain ⟨d, hd, hb⟩ := Option.map_eq_some_iff.mp h3
      obtain ⟨u, v, h4, h5, h6⟩ := T.gl _ _ hd hb
      exact sd_of C (e_gl (pe_glob (globB_ok C h1) (by rw [C.mg]; exact h4) h5 (noDbg_ok h2).1) hd h6) rfl
    · cases h
  | .tup ms, t, sc, X, W, e, C, h => by
    rw [chkE] at h
    unfold asTup at h
    split at h
    · rename_i es he
      split at he
      · cases he
        exact sd_of C (e_tup (PEs_pa (soundEs T ms sc X W es C h))) rfl
      · cases he
    · cases h
  | .lst ms, t, sc, X, W, e, C, h => by
    rw [chkE] at h
    unfold asLst at h
    split at h
    · rename_i es he
      split at he
      · cases he
        exact sd_of C (e_lst (PEs_pa (soundEs T ms sc X W es C h))) rfl
      · cases he
    · cases h
  | .dnew, t, sc, X, W, e, C, h => by
    rw [chkE] at h
    unfold isDnew at h
    split at h
    · exact sd_of C e_dnew rfl
    · cases h
  | .op p ms, t, sc, X, W, e, C, h => by
    rw [chkE] at h
    split at h
    · rename_i es he
      rw [Bool.and_eq_true] at h
      have hp := soundEs T ms sc X W es C h.1
      have h2 := h.2
      cases t with
      | false => exact sound_op T C he hp
      | true =>
        cases hc : isCmp p with
        | true => exact sd_cmp C hc he hp
        | false =>
          rw [hc] at h2
          exact sd_of C (sound_op T C he hp) (by simpa using h2)
    · cases h
  | .sl m1 m2 m3, t, sc, X, W, e, C, h => by
    rw [chkE] at h
    unfold asSl at h
    split at h
    · rename_i e1 e2 e3 he
      split at he
      · cases he
        simp only [Bool.and_eq_true] at h
        have h1 := soundE T m1 false sc X W _ C h.1.1
        have h2 := soundE T m2 false sc X W _ C h.1.2
        have h3 := soundE T m3 false sc X W _ C h.2
        exact sd_of C (e_sl C.K h1 h2 h3) rfl
      · cases he
    · cases h
  | .boo cj ms, t, sc, X, W, e, C, h => by
    rw [chkE] at h
    unfold asBoo at h
    split at h
    · rename_i es p he
      rw [Bool.and_eq_true] at h
      have hne : ms ≠ [] := fun z => by rw [z] at h; simp at h
      split at he
      · split at he
        · rename_i hc
          cases he
          subst hc
          have := soundB T ms t true sc X W es p C hne h.2
          cases t with
          | false => exact e_boo this
          | true => exact t_boo this
        · cases he
      · split at he
        · cases he
        · rename_i hc
          have hc : cj = false := by simpa using hc
          cases he
          subst hc
          have := soundB T ms t false sc X W es p C hne h.2
          cases t with
          | false => exact e_boo this
          | true => exact t_boo this
      · cases he
    · cases h
  | .not_ m, t, sc, X, W, e, C, h => by
    rw [chkE] at h
    unfold asNot at h
    split at h
    · rename_i a he
      split at he
      · cases he
        have := soundE T m t sc X W _ C h
        cases t with
        | false => exact e_not this
        | true => exact t_not this
      · cases he
    · cases h
  | .ife m1 m2 m3, t, sc, X, W, e, C, h => by
    rw [chkE] at h
    unfold asIf at h
    split at h
    · rename_i e1 e2 e3 he
      split at he
      · cases he
        simp only [Bool.and_eq_true, Bool.not_eq_true'] at h
        have h1 := soundE T m1 true sc X W _ C h.1.1.2
        have h2 := soundE T m2 false sc X W _ C h.1.2
        have h3 := soundE T m3 false sc X W _ C h.2
        have ht : t = false := h.1.1.1
        subst ht
        exact e_ife h1 h2 h3
      · cases he
    · cases h
  | .get m1 m2 m3, t, sc, X, W, e, C, h => by
    rw [chkE] at h
    unfold asGet at h
    split at h
    · rename_i e1 e2 e3 he
      split at he
      · rename_i o nm apos b f cpos
        split at he
        · rename_i hc
          cases he
          simp only [Bool.and_eq_true, decide_eq_true_eq] at hc
          obtain ⟨⟨⟨⟨h0, h1⟩, h2⟩, h3⟩, h4⟩ := hc
          subst h1
          simp only [Bool.and_eq_true, Bool.not_eq_true'] at h
          have g1 := soundE T m1 false sc X W _ C h.1.1.2
          have g2 := soundE T m2 false sc X W _ C h.1.2
          have g3 := soundE T m3 false sc X W _ C h.2
          have ht : t = false := h.1.1.1
          subst ht
          have hbase : attributeBase e1 "get" X.env (eval e1 X.env) = eval e1 X.env := by
            cases e1 <;> first | rfl | (cases h0; done)
          exact e_get C.P C.w C.K C.room.units g1 g2 g3 ⟨hbase, few_ok (by simp [h3, h4]) (by simp), h2, by rw [star_cons h3, star_cons h4]; rfl⟩
        · cases he
      · cases he
    · cases h
  | .met p m1 m2, t, sc, X, W, e, C, h => by
    rw [chkE] at h
    unfold asMet at h
    split at h
    · rename_i e1 e2 he
      split at he
      · rename_i o nm apos b cpos
        split at he
        · rename_i hc
          cases he
          simp only [Bool.and_eq_true, decide_eq_true_eq] at hc
          obtain ⟨⟨⟨h0, h1⟩, h2⟩, h3⟩ := hc
          simp only [Bool.and_eq_true, Bool.not_eq_true'] at h
          have g1 := soundE T m1 false sc X W _ C h.1.2
          have g2 := soundE T m2 false sc X W _ C h.2
          have ht : t = false := h.1.1
          subst ht
          have hbase : attributeBase e1 nm X.env (eval e1 X.env) = eval e1 X.env := by
            cases e1 <;> first | rfl | (cases h0; done)
          cases p <;> first | (cases h1; done) | skip
          · cases h1
            exact e_met PySem.F.slot_list_index PySem.F.type_list_index (mr_index C.K C.room.units) PySem.F.slot_str_index PySem.F.type_str_index (fun pins s σ H x xs v us Q I rx rs h => mr_sindex (G := G) pins s σ H x xs v us Q I rx rs h.2) g1 g2 h3 hbase h2
          · cases h1
            exact e_met PySem.F.slot_list_count PySem.F.type_list_count (mr_count C.K C.room.units) PySem.F.slot_str_count PySem.F.type_str_count (fun pins s σ H x xs v us Q I rx rs h => by cases h.1) g1 g2 h3 hbase h2
        · cases he
      · cases he
    · cases h
  | .call f ms, t, sc, X, W, e, C, h => by
    rw [chkE] at h
    unfold asCall at h
    split at h
    · rename_i es he
      split at he
      · split at he
        · rename_i hb
          simp only [Bool.and_eq_true, decide_eq_true_eq] at hb
          obtain ⟨⟨⟨rfl, h1⟩, h2⟩, h3⟩ := hb
          cases he
          have hp := soundEs T ms sc X W es C h
          cases es with
          | nil =>
            cases ms with
            | nil => exact sd_of C (e_call0 T C h1 (globB_ok C h2) (noDbg_ok h3).1) rfl
            | cons _ _ => exact hp.elim
          | cons e es =>
            cases ms with
            | nil => exact hp.elim
            | cons m ms => exact sd_of C (e_call T C h1 (globB_ok C h2) (noDbg_ok h3).1 (PEs_star hp) (PEs_pa hp)) rfl
        · cases he
      · cases he
    · cases h
  | .mu m i ms, t, sc, X, W, e, C, h => by
    rw [chkE] at h
    split at h
    · rename_i es he
      obtain ⟨h1, h2⟩ := mu_ok C he (soundEs T ms sc X W es C h)
      exact sd_of C h1 h2
    · cases h
  | .lc vs tt it ifs elt, t, sc, X, W, e, C, h => by
    rw [chkE] at h
    unfold asLc at h
    split at h
    · rename_i e1 tg ite ifes scope he
      split at he
      · cases he
        simp only [Bool.and_eq_true] at h
        obtain ⟨⟨⟨⟨⟨⟨⟨h1, h2⟩, h3⟩, h4⟩, h5⟩, h6⟩, h7⟩, h8⟩ := h
        have ok := blkB_ok h2
        refine sd_of C (PE.imp (pe_lc (own := ownOf c.N vs) (g := gT G.K tt) (tt := rdTs G Φ c.γ W0 ifs) (te := rdE G Φ c.γ W0 elt) C.calm (by rw [C.names]; exact C.nd) (soundI T it sc X W tg ite C h1) (by rw [C.names, C.scope]; exact ok) (fun s H A cl fp => ?_) (fun s H A cl fp => ?_) (fun s H A cl fp => ?_) (folded_of h6)) fun σ H Q hh => ?_) rfl
        · exact tg_ok (C.blk s H scope A cl fp) tt tg h4
        · exact soundTs T ifs (blkSc scope sc) _ W0 ifes (C.blk s H scope A cl fp) h7
        · exact soundE T elt false (blkSc scope sc) _ W0 e1 (C.blk s H scope A cl fp) h8
        · rw [ownOf_snd]
          exact lc_rd (subB_ok h3) hh
      · cases he
    · cases h
  | .lc2 vs tt it ifs t2 it2 ifs2 elt, t, sc, X, W, e, C, h => by
    rw [chkE] at h
    unfold asLc2 at h
    split at h
    · rename_i e1 tg ite ifes tg2 ite2 ifes2 scope he
      split at he
      · cases he
        simp only [Bool.and_eq_true] at h
        obtain ⟨⟨⟨⟨⟨⟨⟨⟨⟨⟨⟨h1, h2⟩, h3⟩, h4⟩, h5⟩, h6⟩, h7⟩, h8⟩, h9⟩, h10⟩, h11⟩, h12⟩ := h
        have ok := blkB_ok h2
        refine sd_of C (PE.imp (pe_lc2 (own := ownOf c.N vs) (vs1 := tvars t2) (g := gT G.K tt) (tt := rdTs G Φ c.γ W0 ifs) (te := rdE G Φ c.γ W0 elt) (wi1 := rdI G Φ c.γ W0 it2) (g1 := gT G.K t2) (tt1 := rdTs G Φ c.γ W0 ifs2) C.calm (by rw [C.names]; exact C.nd) (soundI T it sc X W tg ite C h1) (by rw [C.names, C.scope]; exact ok) (by rw [ownOf_snd]; exact subB_ok h5) (fun s H A cl fp => ?_) (fun s H A cl fp => ?_) (fun s H A cl fp => ?_) (fun s H A cl fp => ?_) (fun s H A cl fp => ?_) (fun s H A cl fp => ?_) (folded_of h6) (fun env => folded_of h11)) fun σ H Q hh => ?_) rfl
        · exact tg_ok (C.blk s H scope A cl fp) tt tg h4
        · exact soundTs T ifs (blkSc scope sc) _ W0 ifes (C.blk s H scope A cl fp) h7
        · exact soundI T it2 (blkSc scope sc) _ W0 tg2 ite2 (C.blk s H scope A cl fp) h9
        · exact tg_ok (C.blk s H scope A cl fp) t2 tg2 h10
        · exact soundTs T ifs2 (blkSc scope sc) _ W0 ifes2 (C.blk s H scope A cl fp) h12
        · exact soundE T elt false (blkSc scope sc) _ W0 e1 (C.blk s H scope A cl fp) h8
        · rw [ownOf_snd]
          exact lc2_rd (subB_ok h3) (subB_ok h5) hh
      · cases he
    · cases h
  | .dc vs tt it ifs kk v, t, sc, X, W, e, C, h => by
    rw [chkE] at h
    unfold asDc at h
    split at h
    · rename_i e1 e2 tg ite ifes scope he
      split at he
      · cases he
        simp only [Bool.and_eq_true] at h
        obtain ⟨⟨⟨⟨⟨⟨⟨⟨h1, h2⟩, h3⟩, h4⟩, h5⟩, h6⟩, h7⟩, h8⟩, h9⟩ := h
        have ok := blkB_ok h2
        refine sd_of C (PE.imp (pe_dc (own := ownOf c.N vs) (g := gT G.K tt) (tt := rdTs G Φ c.γ W0 ifs) (tk := rdE G Φ c.γ W0 kk) (tv := rdE G Φ c.γ W0 v) C.calm (by rw [C.names]; exact C.nd) (soundI T it sc X W tg ite C h1) (by rw [C.names, C.scope]; exact ok) (fun s H A cl fp => ?_) (fun s H A cl fp => ?_) (fun s H A cl fp => ?_) (fun s H A cl fp => ?_) (folded_of h6)) fun σ H Q hh => ?_) rfl
        · exact tg_ok (C.blk s H scope A cl fp) tt tg h4
        · exact soundTs T ifs (blkSc scope sc) _ W0 ifes (C.blk s H scope A cl fp) h7
        · exact soundE T kk false (blkSc scope sc) _ W0 e1 (C.blk s H scope A cl fp) h8
        · exact soundE T v false (blkSc scope sc) _ W0 e2 (C.blk s H scope A cl fp) h9
        · rw [ownOf_snd]
          exact dc_rd (subB_ok h3) hh
      · cases he
    · cases h
theorem soundEs (T : Top G mg base Φ c.γ c.bns c.fns k) : ∀ (ms : List E) (sc : Sc) (X : Cx) (W : WX) (es : List Expr), Cok G mg base c.N k sc X W → chkEs c sc ms es = true → PEs X (rdE G Φ c.γ W) es ms
  | [], sc, X, W, es, C, h => by
    rw [chkEs] at h
    cases es with
    | nil => trivial
    | cons _ _ => cases h
  | m :: ms, sc, X, W, es, C, h => by
    cases es with
    | nil => simp [chkEs] at h
    | cons e es =>
      simp only [chkEs, Bool.and_eq_true] at h
      exact ⟨⟨h.1.1, soundE T m false sc X W e C h.1.2⟩, soundEs T ms sc X W es C h.2⟩
theorem soundB (T : Top G mg base Φ c.γ c.bns c.fns k) : ∀ (ms : List E) (t cj : Bool) (sc : Sc) (X : Cx) (W : WX) (es : List Expr) (p : Pos), Cok G mg base c.N k sc X W → ms ≠ [] → chkB c sc t ms es = true → SdB G Φ c.γ W X t cj ms (.BoolOp (if cj = true then .And else .Or) es p)
  | [], t, cj, sc, X, W, es, p, C, hn, h => absurd rfl hn
  | m :: ms, t, cj, sc, X, W, es, p, C, hn, h => by
    cases es with
    | nil => simp [chkB] at h
    | cons e es =>
      simp only [chkB, Bool.and_eq_true] at h
      have h1 := soundE T m t sc X W e C h.1
      cases ms with
      | nil =>
        have h2 := h.2
        rw [chkB] at h2
        cases es with
        | cons _ _ => cases h2
        | nil =>
          cases t with
          | false => cases cj <;> exact eb_one h1
          | true =>
            cases cj with
            | false => exact tb_or1 h1
            | true => exact tb_and1 h1
      | cons m2 ms =>
        cases es with
        | nil => simp [chkB] at h
        | cons e2 es =>
          have h2 := soundB T (m2 :: ms) t cj sc X W (e2 :: es) p C (fun z => nomatch z) h.2
          cases t with
          | false =>
            cases cj with
            | false => exact eb_or h1 h2
            | true => exact eb_and h1 h2
          | true =>
            cases cj with
            | false => exact tb_or h1 h2
            | true => exact tb_and h1 h2
theorem soundTs (T : Top G mg base Φ c.γ c.bns c.fns k) : ∀ (ms : List E) (sc : Sc) (X : Cx) (W : WX) (es : List Expr), Cok G mg base c.N k sc X W → chkTs c sc ms es = true → PTs X es (rdTs G Φ c.γ W ms)
  | [], sc, X, W, es, C, h => by
    rw [chkTs] at h
    cases es with
    | nil => exact ts_nil
    | cons _ _ => cases h
  | m :: ms, sc, X, W, es, C, h => by
    rcases es with _ | ⟨e, _ | ⟨e2, r⟩⟩
    · simp [chkTs] at h
    · simp only [chkTs, Bool.and_eq_true] at h
      cases ms with
      | cons _ _ => cases h.1
      | nil => exact ts_one (soundE T m true sc X W e C h.2)
    · simp [chkTs] at h
theorem soundI (T : Top G mg base Φ c.γ c.bns c.fns k) : ∀ (m : It) (sc : Sc) (X : Cx) (W : WX) (tg e : Expr), Cok G mg base c.N k sc X W → chkI c sc m tg e = true → PI X tg e (rdI G Φ c.γ W m)
  | .seq m, sc, X, W, tg, e, C, h => by
    rw [chkI] at h
    have he := soundE T m false sc X W e C h
    exact i_seq C.K he
  | .rng1 m, sc, X, W, tg, e, C, h => by
    rw [chkI] at h
    unfold asRng1 at h
    split at h
    · rename_i a he
      split at he
      · split at he
        · rename_i hb
          rw [Bool.and_eq_true] at hb
          cases he
          obtain ⟨rfl, hg, hm⟩ := bi_ok T C hb.1
          exact i_rng1 hg hm (soundE T m false sc X W _ C h) hb.2
        · cases he
      · cases he
    · cases h
  | .rng2 ms, sc, X, W, tg, e, C, h => by
    rw [chkI] at h
    unfold asCall2 at h
    split at h
    · rename_i a b he
      split at he
      · split at he
        · rename_i hb
          simp only [Bool.and_eq_true] at hb
          cases he
          obtain ⟨rfl, hg, hm⟩ := bi_ok T C hb.1.1
          obtain ⟨m, n, rfl, ⟨ns, pe⟩, ns2, pe2⟩ := PEs2 (soundEs T ms sc X W _ C h)
          exact i_rng2 hg hm pe pe2 ns ns2
        · cases he
      · cases he
    · cases h
  | .zip ms, sc, X, W, tg, e, C, h => by
    rw [chkI] at h
    unfold asCall2 at h
    split at h
    · rename_i a b he
      split at he
      · split at he
        · rename_i hb
          simp only [Bool.and_eq_true] at hb
          cases he
          rw [Bool.and_eq_true] at h
          obtain ⟨rfl, hg, hm⟩ := bi_ok T C hb.1.1
          obtain ⟨m, n, rfl, ⟨ns, pe⟩, ns2, pe2⟩ := PEs2 (soundEs T ms sc X W _ C h.2)
          have ht := h.1
          unfold isTupE at ht
          split at ht
          · exact i_zip C.K hg hm pe pe2 ns ns2
          · cases ht
        · cases he
      · cases he
    · cases h
  | .enum m, sc, X, W, tg, e, C, h => by
    rw [chkI] at h
    unfold asCall1 at h
    split at h
    · rename_i a he
      split at he
      · split at he
        · rename_i hb
          simp only [Bool.and_eq_true] at hb
          cases he
          rw [Bool.and_eq_true] at h
          obtain ⟨rfl, hg, hm⟩ := bi_ok T C hb.1
          have ht := h.1
          unfold isTupE at ht
          split at ht
          · exact i_enum C.K hg hm (soundE T m false sc X W _ C h.2) hb.2
          · cases ht
        · cases he
      · cases he
    · cases h
  | .items _, sc, X, W, tg, e, C, h => by rw [chkI] at h; cases h
end
end
end PF
set_option Elab.async false
set_option linter.all false
set_option maxRecDepth 100000
set_option maxHeartbeats 2000000
namespace PF
open PySem PySem.Spec PyProof.Rows L2
/-- a comprehension that is stored in a name: whether the stores are exchanged -/
def swapB (sc : Sc) (x : Str) (px : Pos) : Expr → Bool
  | .ListComp _ _ s p => kindIs .local (sc.scope.names.lookup x) && px.line == p.line && !(s.names.any fun (n, k) => n == x && (k == .local || k == .cell))
  | .SetComp _ _ s p => kindIs .local (sc.scope.names.lookup x) && px.line == p.line && !(s.names.any fun (n, k) => n == x && (k == .local || k == .cell))
  | .DictComp _ _ _ s p => kindIs .local (sc.scope.names.lookup x) && px.line == p.line && !(s.names.any fun (n, k) => n == x && (k == .local || k == .cell))
  | _ => false
theorem swapB_ok {sc : Sc} {env : PySem.Env} {x : Str} {px : Pos} {e : Expr} {ln : Nat} (h1 : env.scope = sc.scope) (h2 : env.blockKind = .function) : swapsWith e (some (.Name x px)) ln env = pure (swapB sc x px e) := by
  have key : ∀ (s : Scope) (p : Pos), (env.blockKind == .function && env.kindOf x == some .local && px.line == p.line && !(s.names.any fun (n, k) => n == x && (k == .local || k == .cell))) = (kindIs .local (sc.scope.names.lookup x) && px.line == p.line && !(s.names.any fun (n, k) => n == x && (k == .local || k == .cell))) := fun s p => by
    have e1 : (env.kindOf x == some NameKind.local) = kindIs .local (sc.scope.names.lookup x) := by
      unfold Env.kindOf kindIs
      rw [h1]
      cases q : sc.scope.names.lookup x with
      | none => rfl
      | some k => cases k <;> rfl
    rw [h2, e1]
    rfl
  cases e with
  | ListComp elt gs s p => show (pure _ : Sem Bool) = _; exact congrArg pure (key s p)
  | SetComp elt gs s p => show (pure _ : Sem Bool) = _; exact congrArg pure (key s p)
  | DictComp a b gs s p => show (pure _ : Sem Bool) = _; exact congrArg pure (key s p)
  | _ => rfl
theorem sole_of {t e : Expr} {l : Nat} {env : PySem.Env} (h : notComp e = true) : swapsWithSole [t] e l env = pure false := by
  show swapsWith e (some t) l env = pure false
  exact swaps_of h
def asAsg : Stmt → Option (Str × Pos × Expr × Pos)
  | .Assign [.Name x px] e pos => some (x, px, e, pos)
  | _ => none
def asAsgT : Stmt → Option (Expr × Expr)
  | .Assign [tg] e _ => some (tg, e)
  | _ => none
def asSetI : Stmt → Option (Str × Expr × Expr)
  | .Assign [.Subscript (.Name x _) k _] e _ => some (x, k, e)
  | _ => none
def asAug : Stmt → Option (Str × Expr)
  | .AugAssign (.Name x _) .Add e _ => some (x, e)
  | _ => none
def asEx : Stmt → Option Expr
  | .Expr e _ => some e
  | _ => none
def asRet : Stmt → Option Expr
  | .Return (some e) _ => some e
  | _ => none
def isRetN : Stmt → Bool
  | .Return none _ => true
  | _ => false
def asIfS : Stmt → Option (Expr × List Stmt × List Stmt)
  | .If c a b _ => some (c, a, b)
  | _ => none
def asFor : Stmt → Option (Expr × Expr × List Stmt)
  | .For tg it b [] _ => some (tg, it, b)
  | _ => none
def asWhl : Stmt → Option (Expr × List Stmt)
  | .While c b [] _ => some (c, b)
  | _ => none
def isBrk : Stmt → Bool
  | .Break _ => true
  | _ => false
def isCnt : Stmt → Bool
  | .Continue _ => true
  | _ => false
def isPas : Stmt → Bool
  | .Pass _ => true
  | _ => false
def isFrz : S → Bool
  | .frz _ => true
  | _ => false
def isTupT : T → Bool
  | .tup _ => true
  | _ => false
/-- what is not a list comprehension, or is one that is stored plainly -/
def asgB (c : Ck) (sc : Sc) (refs : List Nat) (i : Nat) (m : E) (q : Str × Pos × Expr × Pos) : Bool :=
  !refs.contains i && atB c i q.1 && locB sc q.1 && chkE c sc false m q.2.2.1 && (notComp q.2.2.1 || !(swapB sc q.1 q.2.1 q.2.2.1) || (match m with
    | .lc _ _ _ _ _ => kindIs .local (sc.scope.names.lookup q.1)
    | .lc2 _ _ _ _ _ _ _ _ => kindIs .local (sc.scope.names.lookup q.1)
    | .dc _ _ _ _ _ _ => kindIs .local (sc.scope.names.lookup q.1)
    | _ => false))
mutual
def chkS (c : Ck) (sc : Sc) (refs : List Nat) : S → Stmt → Bool
  | .asg i m, st => match asAsg st with
    | some q => asgB c sc refs i m q
    | none => false
  | .asgT t m, st => match asAsgT st with
    | some (tg, e) => isTupT t && tgB c sc t tg && notStar tg && (tvars t).all (fun j => !refs.contains j) && notTup e && notComp e && chkE c sc false m e
    | none => false
  | .setI i k m, st => match asSetI st with
    | some (x, ke, e) => nameB c sc i x && notSlice ke && notComp e && chkE c sc false k ke && chkE c sc false m e
    | none => false
  | .delI _ _, _ => false
  | .aug i p m, st => match asAug st with
    | some (x, e) => decide (p = .add) && !refs.contains i && atB c i x && locB sc x && chkE c sc false m e
    | none => false
  | .ex m, st => match asEx st with
    | some e => notComp e && chkE c sc false m e
    | none => false
  | .ret m, st => match asRet st with
    | some e => chkE c sc false m e
    | none => false
  | .retV i, st => match asRet st with
    | some e => ckName c sc i e
    | none => false
  | .retN, st => isRetN st
  | .iff m a b, st => match asIfS st with
    | some (e, x, y) => chkE c sc true m e && chkSs c sc refs a x && chkSs c sc refs b y
    | none => false
  | .for_ t it b, st => match asFor st with
    | some (tg, ie, x) => tgB c sc t tg && notStar tg && notSet ie && (tvars t).all (fun j => !refs.contains j) && chkI c sc it tg ie && chkSs c sc refs b x
    | none => false
  | .whl m b, st => match asWhl st with
    | some (e, x) => chkE c sc true m e && chkSs c sc refs b x
    | none => false
  | .brk, st => isBrk st
  | .cnt, st => isCnt st
  | .pas, st => isPas st
  | .bad, _ => true
  | .frz _, _ => false
def chkSs (c : Ck) (sc : Sc) (refs : List Nat) : List S → List Stmt → Bool
  | [], sts => sts.isEmpty
  | s :: ss, sts => if isFrz s then chkSs c sc refs ss sts else match sts with
    | [] => false
    | st :: sts => chkS c sc refs s st && chkSs c sc refs ss sts
end
section
variable {G : Gp} {mg : Str → Option Value} {base : Heap} {Φ : Str → List Sl → FR} {k : Nat} {c : Ck} {sc : Sc} {X : Cx} {W : WX} {refs : List Nat}
theorem notIn_of {r : List Nat} {i : Nat} (h : (!r.contains i) = true) : i ∉ r := by
  simpa [List.contains_eq_mem] using h
theorem allNot_of {r vs : List Nat} (h : vs.all (fun j => !r.contains j) = true) : ∀ j ∈ vs, j ∉ r := fun j hj => notIn_of (List.all_eq_true.mp h j hj)
/-- the rest of the context of a def's body -/
structure Dok (X : Cx) : Prop where
  own : PassesOwn (model X.prog X.w) X.A X.env X.xe
  blk : X.env.blockKind = .function
theorem dct_set {X : Cx} (hP : X.prog = G.P) (hw : X.w = G.w) (hK : X.K = G.K) (hu : X.A.units + 64 < cLine) : PSet X (fun o iv v H Q => rSet G o iv v H Q ∧ ∃ F ks vs a, o = .ref a ∧ relO G F H (.dct ks vs) a) := fun pins s σ H o i v ov iv u Q I ro ri rv ⟨⟨F, a, x, k, d, x', e0, ho, hk, hk2, hd, hs, hup, q⟩, F2, ks2, vs2, a2, e2, ho2⟩ => by
  subst e0
  cases e2
  cases x with
  | dct ks vs =>
    have hs : (if keyOk k ks && decide (ks.length < sizeLine) then some (D.dct (dPut k d ks vs).1 (dPut k d ks vs).2) else none) = some x' := hs
    split at hs
    · rename_i hc
      rw [Bool.and_eq_true, decide_eq_true_eq] at hc
      cases hs
      obtain rfl : ov = Value.ref a := ro
      rcases keyOk_cases hc.1 with ⟨hk1, hk3⟩ | ⟨hk1, hk3⟩
      · obtain ⟨a', kvs, e1, e3, rfl, hv⟩ := relR_dct_inv hk3 (relR_of_relO ho)
        cases e1
        obtain ⟨kk, rfl⟩ := leaf_inv hk1
        have hkv := relR_kD hk
        subst hkv
        have hz := hc.2
        rw [List.length_map] at hz
        refine d_setItem (by omega) I (DPut.k e3 hz) ri rv fun s' I' => ⟨_, I', q _ ?_⟩
        have hd2 : relF G F (upd H a (.dK (putK kvs kk v))) d v := by
          have := hup (.dK (putK kvs kk v)) [d] [v] (by simp only [relFs]; exact ⟨_, _, rfl, hd, rfl⟩)
          simp only [relFs] at this
          obtain ⟨_, _, e, h, _⟩ := this
          cases e
          exact h
        exact dPut_rel hd2 (hup _ _ _ hv) (by simp [upd])
      · obtain ⟨kx, vx, g1, g2, g3⟩ := ho
        obtain ⟨xs, dd, hsm, hz, rfl, rvx, hn, mu⟩ := dn_raw hP hw hK I g1 g2 hk3
        obtain ⟨b, rfl, kb⟩ := key_is hK I hk1 hk
        obtain rfl : iv = Value.ref b := ri
        obtain ⟨vx', p1, p2, p3, p4, p5, p6, p7⟩ := dn_put hk1 (relR_ref hk1 hk) hd rv hk3 hn g2 g3 rvx
        have lk : xs.length = ks.length := by have := relFs_length g2; rw [List.length_map] at this; exact this
        refine wpAny_setItem_heap (knd := nestedKind X.prog X.w) (by show X.A.units + 1 + 8 < cLine; omega) kb dd (fun h' dd' hsb => ?_) hz
        obtain ⟨o, es, ep, go, ex, da, es', _, nd⟩ := dd'
        have J := d_write (t' := s.toks + (nestedKind X.prog X.w).draws (nk k)) (ob := dN G a (storedH xs (nk k) b u)) I mu hsb ⟨o, go⟩ ⟨⟨o, es, ep, go, ex, da, by rw [← hP, ← hw]; exact es', nd, hsm, by omega⟩, ⟨o, go⟩, fun h1 h2 ⟨o, es, ep, go, r⟩ kp => ⟨o, es, ep, kp o go, r⟩⟩
        exact ⟨_, J, q _ ⟨_, vx', .inr ⟨rfl, p6, _, upd_same, rfl, p3, p5, p4⟩, hup _ _ _ p1, hup _ _ _ p2⟩⟩
    · cases hs
  | lst ds =>
    obtain ⟨xs, h1, _⟩ := ho
    obtain ⟨kx, vx, h2, _⟩ := ho2
    rcases h2 with ⟨kvs, e3, _⟩ | ⟨_, _, ys, e3, _⟩
    · rw [h1] at e3
      cases e3
    · rw [h1] at e3
      injection e3 with e3
      cases e3
  | _ => exact ho.elim
theorem sound_asg (T : Top G mg base Φ c.γ c.bns c.fns k) (C : Cok G mg base c.N k sc X W) (Dk : Dok X) {i : Nat} {m : E} {q : Str × Pos × Expr × Pos} (h : asgB c sc refs i m q = true) : PS X (.Assign [.Name q.1 q.2.1] q.2.2.1 q.2.2.2) (rdS G Φ c.γ refs W (.asg i m)) := by
  obtain ⟨x, px, e, pos⟩ := q
  unfold asgB at h
  simp only [Bool.and_eq_true] at h
  obtain ⟨⟨⟨⟨h1, h2⟩, h3⟩, h4⟩, h5⟩ := h
  have hr := notIn_of h1
  have hN := atB_ok C h2
  obtain ⟨hl, hf⟩ := locB_ok C h3
  have nd : X.N.Nodup := by rw [C.names]; exact C.nd
  have he := soundE T m false sc X W e C h4
  have plain : swapsWith e (some (.Name x px)) pos.line X.env = pure false → PS X (.Assign [.Name x px] e pos) (rdS G Φ c.γ refs W (.asg i m)) := fun hs => s_asg hr nd hN hl he hs hf
  simp only [Bool.or_eq_true] at h5
  rcases h5 with (h5 | h5) | h5
  · exact plain (swaps_of h5)
  · refine plain ?_
    rw [swapB_ok C.scope Dk.blk]
    rw [Bool.not_eq_true'] at h5
    rw [h5]
  · cases hsw : swapB sc x px e with
    | false => exact plain (by rw [swapB_ok C.scope Dk.blk, hsw])
    | true =>
      cases m with
      | lc vs tt it ifs elt =>
        have hloc : X.env.scope.names.lookup x = some .local := by rw [C.scope]; exact kindIs_ok h5
        rw [chkE] at h4
        unfold asLc at h4
        split at h4
        · rename_i e1 tg ite ifes scope hee
          split at hee
          · cases hee
            simp only [Bool.and_eq_true] at h4
            obtain ⟨⟨⟨⟨⟨⟨⟨g1, g2⟩, g3⟩, g4⟩, g5⟩, g6⟩, g7⟩, g8⟩ := h4
            have ok := blkB_ok g2
            refine PS.imp (ps_setLc (own := ownOf c.N vs) (g := gT G.K tt) (tt := rdTs G Φ c.γ W0 ifs) (te := rdE G Φ c.γ W0 elt) C.calm nd hN hloc (by rw [swapB_ok C.scope Dk.blk, hsw]) (soundI T it sc X W tg ite C g1) (by rw [C.names, C.scope]; exact ok) (fun s H A cl fp => ?_) (fun s H A cl fp => ?_) (fun s H A cl fp => ?_) (folded_of g6)) fun D σ H hh => ?_
            · exact tg_ok (C.blk s H scope A cl fp) tt tg g4
            · exact soundTs T ifs (blkSc scope sc) _ W0 ifes (C.blk s H scope A cl fp) g7
            · exact soundE T elt false (blkSc scope sc) _ W0 e1 (C.blk s H scope A cl fp) g8
            · rw [ownOf_snd]
              exact lc_rd (subB_ok g3) (asg_rd hr hh)
          · cases hee
        · cases h4
      | dc vs tt it ifs kk v =>
        have hloc : X.env.scope.names.lookup x = some .local := by rw [C.scope]; exact kindIs_ok h5
        rw [chkE] at h4
        unfold asDc at h4
        split at h4
        · rename_i e1 e2 tg ite ifes scope hee
          split at hee
          · cases hee
            simp only [Bool.and_eq_true] at h4
            obtain ⟨⟨⟨⟨⟨⟨⟨⟨g1, g2⟩, g3⟩, g4⟩, g5⟩, g6⟩, g7⟩, g8⟩, g9⟩ := h4
            have ok := blkB_ok g2
            refine PS.imp (ps_setDc (own := ownOf c.N vs) (g := gT G.K tt) (tt := rdTs G Φ c.γ W0 ifs) (tk := rdE G Φ c.γ W0 kk) (tv := rdE G Φ c.γ W0 v) C.calm nd hN hloc (by rw [swapB_ok C.scope Dk.blk, hsw]) (soundI T it sc X W tg ite C g1) (by rw [C.names, C.scope]; exact ok) (fun s H A cl fp => ?_) (fun s H A cl fp => ?_) (fun s H A cl fp => ?_) (fun s H A cl fp => ?_) (folded_of g6)) fun D σ H hh => ?_
            · exact tg_ok (C.blk s H scope A cl fp) tt tg g4
            · exact soundTs T ifs (blkSc scope sc) _ W0 ifes (C.blk s H scope A cl fp) g7
            · exact soundE T kk false (blkSc scope sc) _ W0 e1 (C.blk s H scope A cl fp) g8
            · exact soundE T v false (blkSc scope sc) _ W0 e2 (C.blk s H scope A cl fp) g9
            · rw [ownOf_snd]
              exact dc_rd (subB_ok g3) (asg_rd hr hh)
          · cases hee
        · cases h4
      | lc2 vs tt it ifs t2 it2 ifs2 elt =>
        have hloc : X.env.scope.names.lookup x = some .local := by rw [C.scope]; exact kindIs_ok h5
        rw [chkE] at h4
        unfold asLc2 at h4
        split at h4
        · rename_i e1 tg ite ifes tg2 ite2 ifes2 scope hee
          split at hee
          · cases hee
            simp only [Bool.and_eq_true] at h4
            obtain ⟨⟨⟨⟨⟨⟨⟨⟨⟨⟨⟨g1, g2⟩, g3⟩, g4⟩, g5⟩, g6⟩, g7⟩, g8⟩, g9⟩, g10⟩, g11⟩, g12⟩ := h4
            have ok := blkB_ok g2
            refine PS.imp (ps_setLc2 (own := ownOf c.N vs) (vs1 := tvars t2) (g := gT G.K tt) (tt := rdTs G Φ c.γ W0 ifs) (te := rdE G Φ c.γ W0 elt) (wi1 := rdI G Φ c.γ W0 it2) (g1 := gT G.K t2) (tt1 := rdTs G Φ c.γ W0 ifs2) C.calm nd hN hloc (by rw [swapB_ok C.scope Dk.blk, hsw]) (soundI T it sc X W tg ite C g1) (by rw [C.names, C.scope]; exact ok) (by rw [ownOf_snd]; exact subB_ok g5) (fun s H A cl fp => ?_) (fun s H A cl fp => ?_) (fun s H A cl fp => ?_) (fun s H A cl fp => ?_) (fun s H A cl fp => ?_) (fun s H A cl fp => ?_) (folded_of g6) (fun env => folded_of g11)) fun D σ H hh => ?_
            · exact tg_ok (C.blk s H scope A cl fp) tt tg g4
            · exact soundTs T ifs (blkSc scope sc) _ W0 ifes (C.blk s H scope A cl fp) g7
            · exact soundI T it2 (blkSc scope sc) _ W0 tg2 ite2 (C.blk s H scope A cl fp) g9
            · exact tg_ok (C.blk s H scope A cl fp) t2 tg2 g10
            · exact soundTs T ifs2 (blkSc scope sc) _ W0 ifes2 (C.blk s H scope A cl fp) g12
            · exact soundE T elt false (blkSc scope sc) _ W0 e1 (C.blk s H scope A cl fp) g8
            · rw [ownOf_snd]
              exact lc2_rd (subB_ok g3) (subB_ok g5) (asg_rd hr hh)
          · cases hee
        · cases h4
      | _ => cases h5
mutual
theorem soundS (T : Top G mg base Φ c.γ c.bns c.fns k) (C : Cok G mg base c.N k sc X W) (Dk : Dok X) : ∀ (s : S) (st : Stmt), chkS c sc refs s st = true → PS X st (rdS G Φ c.γ refs W s)
  | .asg i m, st, h => by
    rw [chkS] at h
    unfold asAsg at h
    split at h
    · rename_i q hq
      split at hq
      · cases hq; exact sound_asg T C Dk h
      · cases hq
    · cases h
  | .asgT t m, st, h => by
    rw [chkS] at h
    unfold asAsgT at h
    split at h
    · rename_i tg e hq
      split at hq
      · cases hq
        simp only [Bool.and_eq_true] at h
        obtain ⟨⟨⟨⟨⟨⟨h0, h1⟩, h2⟩, h3⟩, h4⟩, h5⟩, h6⟩ := h
        have ht : ∃ es x p, tg = .Tuple es x p := by
          cases t with
          | nm _ => cases h0
          | tup ts => cases tg <;> first | exact ⟨_, _, _, rfl⟩ | simp [tgB] at h1
        obtain ⟨es, x, p, rfl⟩ := ht
        exact s_asgT (allNot_of h3) C.K (soundE T m false sc X W _ C h6) (tg_ok C t _ h1) (sole_of h5) (by cases e <;> first | rfl | cases h4) rfl
      · cases hq
    · cases h
  | .setI i kk m, st, h => by
    rw [chkS] at h
    unfold asSetI at h
    split at h
    · rename_i x ke e hq
      split at hq
      · cases hq
        simp only [Bool.and_eq_true] at h
        obtain ⟨⟨⟨⟨h1, h2⟩, h3⟩, h4⟩, h5⟩ := h
        obtain ⟨n1, n2, n3, n4⟩ := nameB_ok C h1
        exact s_setI (pset_all (dct_set C.P C.w C.K C.room.units)) n1 n2 n3 n4 (soundE T m false sc X W _ C h5) (soundE T kk false sc X W _ C h4) (sole_of h3) rfl (by intro v; cases ke <;> first | rfl | cases h2)
      · cases hq
    · cases h
  | .delI _ _, st, h => by rw [chkS] at h; cases h
  | .aug i p m, st, h => by
    rw [chkS] at h
    unfold asAug at h
    split at h
    · rename_i x e hq
      split at hq
      · cases hq
        simp only [Bool.and_eq_true, decide_eq_true_eq] at h
        obtain ⟨⟨⟨⟨rfl, h1⟩, h2⟩, h3⟩, h4⟩ := h
        obtain ⟨hl, hf⟩ := locB_ok C h3
        exact s_aug (notIn_of h1) (by rw [C.names]; exact C.nd) (atB_ok C h2) hl (soundE T m false sc X W _ C h4) hf
      · cases hq
    · cases h
  | .ex m, st, h => by
    rw [chkS] at h
    unfold asEx at h
    split at h
    · rename_i e hq
      split at hq
      · cases hq
        simp only [Bool.and_eq_true] at h
        exact s_ex (soundE T m false sc X W _ C h.2) (swaps_of h.1)
      · cases hq
    · cases h
  | .ret m, st, h => by
    rw [chkS] at h
    unfold asRet at h
    split at h
    · rename_i e hq
      split at hq
      · cases hq
        exact s_ret (soundE T m false sc X W _ C h)
      · cases hq
    · cases h
  | .retV i, st, h => by
    rw [chkS] at h
    unfold asRet at h
    split at h
    · rename_i e hq
      split at hq
      · cases hq
        unfold ckName at h
        split at h
        · obtain ⟨n1, n2, n3, n4⟩ := nameB_ok C h
          exact s_retV n1 n2 n3 n4
        · cases h
      · cases hq
    · cases h
  | .retN, st, h => by
    rw [chkS] at h
    unfold isRetN at h
    split at h
    · exact s_retN
    · cases h
  | .iff m a b, st, h => by
    rw [chkS] at h
    unfold asIfS at h
    split at h
    · rename_i e x y hq
      split at hq
      · cases hq
        simp only [Bool.and_eq_true] at h
        exact s_if (soundE T m true sc X W _ C h.1.1) (soundSs T C Dk a _ h.1.2) (soundSs T C Dk b _ h.2)
      · cases hq
    · cases h
  | .for_ t it b, st, h => by
    rw [chkS] at h
    unfold asFor at h
    split at h
    · rename_i tg ie x hq
      split at hq
      · cases hq
        simp only [Bool.and_eq_true] at h
        obtain ⟨⟨⟨⟨⟨h1, h2⟩, h3⟩, h4⟩, h5⟩, h6⟩ := h
        exact s_for (allNot_of h4) C.K Dk.own C.calm (soundI T it sc X W _ _ C h5) (tg_ok C t _ h1) (soundSs T C Dk b _ h6) (folded_of h3)
      · cases hq
    · cases h
  | .whl m b, st, h => by
    rw [chkS] at h
    unfold asWhl at h
    split at h
    · rename_i e x hq
      split at hq
      · cases hq
        simp only [Bool.and_eq_true] at h
        exact s_while Dk.own (soundE T m true sc X W _ C h.1) (soundSs T C Dk b _ h.2)
      · cases hq
    · cases h
  | .brk, st, h => by
    rw [chkS] at h
    unfold isBrk at h
    split at h
    · exact s_break
    · cases h
  | .cnt, st, h => by
    rw [chkS] at h
    unfold isCnt at h
    split at h
    · exact s_continue
    · cases h
  | .pas, st, h => by
    rw [chkS] at h
    unfold isPas at h
    split at h
    · exact s_pass
    · cases h
  | .bad, st, h => s_bad
  | .frz _, st, h => by rw [chkS] at h; cases h
theorem soundSs (T : Top G mg base Φ c.γ c.bns c.fns k) (C : Cok G mg base c.N k sc X W) (Dk : Dok X) : ∀ (ss : List S) (sts : List Stmt), chkSs c sc refs ss sts = true → PSs X sts (rdSs G Φ c.γ refs W ss)
  | [], sts, h => by
    rw [chkSs] at h
    cases sts with
    | nil => exact s_nil
    | cons _ _ => cases h
  | s :: ss, sts, h => by
    rw [chkSs.eq_def] at h
    simp only at h
    split at h
    · rename_i hf
      cases s with
      | frz i => exact s_frz (soundSs T C Dk ss sts h)
      | _ => cases hf
    · cases sts with
      | nil => cases h
      | cons st sts =>
        simp only [Bool.and_eq_true] at h
        exact s_cons (soundS T C Dk s st h.1) (soundSs T C Dk ss sts h.2)
end
end
end PF
set_option Elab.async false
set_option linter.all false
set_option maxRecDepth 100000
set_option maxHeartbeats 1000000
namespace PF
open PySem PySem.Spec PyProof.Rows L2
section
variable {G : Gp} {F F' : Addr → Prop} {H H' : Hp} {as : List Sl} {vs : List V}
theorem outsFrom_get (refs : List Nat) (e : Env) : ∀ (n j i : Nat), getS (outsFrom refs j n e) i = if i < n ∧ refs.contains (j + i) = true then getS e (j + i) else .non
  | 0, j, i => by
    rw [if_neg fun q => absurd q.1 (Nat.not_lt_zero _)]
    cases i <;> rfl
  | n + 1, j, 0 => by
    show (if refs.contains j then getS e j else .non) = _
    by_cases h : refs.contains j = true
    · rw [if_pos h, if_pos ⟨Nat.succ_pos _, h⟩]; rfl
    · rw [if_neg h, if_neg fun q => h q.2]
  | n + 1, j, i + 1 => by
    show getS (outsFrom refs (j + 1) n e) i = _
    rw [outsFrom_get refs e n (j + 1) i]
    have e1 : j + 1 + i = j + (i + 1) := by omega
    rw [e1]
    simp only [Nat.add_lt_add_iff_right]
theorem outsOf_get (refs : List Nat) (e : Env) (n i : Nat) : getS (outsOf refs n e) i = if i < n ∧ refs.contains i = true then getS e i else .non := by
  unfold outsOf
  rw [outsFrom_get]
  simp only [Nat.zero_add]
theorem outsFrom_len (refs : List Nat) (e : Env) : ∀ (n j : Nat), (outsFrom refs j n e).length = n
  | 0, j => rfl
  | n + 1, j => by
    show (outsFrom refs (j + 1) n e).length + 1 = _
    rw [outsFrom_len refs e n (j + 1)]
theorem getS_app : ∀ (as : List Sl) (r : List Sl) (j : Nat), getS (as ++ r) j = if j < as.length then getS as j else getS r (j - as.length)
  | [], r, j => by simp
  | a :: as, r, 0 => by simp [getS]
  | a :: as, r, j + 1 => by
    show getS (as ++ r) j = _
    rw [getS_app as r j]
    simp only [List.length_cons, Nat.add_lt_add_iff_right, Nat.add_sub_add_right]
    rfl
theorem getS_rep : ∀ (n j : Nat), getS (List.replicate n Sl.non) j = .non
  | 0, j => by cases j <;> rfl
  | n + 1, 0 => rfl
  | n + 1, j + 1 => getS_rep n j
theorem argsOk_get {refs : List Nat} : ∀ {as : List Sl} {j : Nat}, argsOk refs j as = true → ∀ i, isOwn (getS as i) = true → refs.contains (j + i) = true
  | [], j, _, i, h => by cases i <;> cases h
  | a :: as, j, h, 0, hi => by
    unfold argsOk at h
    simp only [Bool.and_eq_true, Bool.or_eq_true, Bool.not_eq_true'] at h
    have hi : isOwn a = true := hi
    rcases h.1 with q | q
    · exact q
    · rw [hi] at q; cases q
  | a :: as, j, h, i + 1, hi => by
    unfold argsOk at h
    simp only [Bool.and_eq_true] at h
    have := argsOk_get h.2 i hi
    have e1 : j + 1 + i = j + (i + 1) := by omega
    rw [e1] at this
    exact this
/-- the slots at a def's entry -/
theorem entry {N : List Str} {n : Nat} (R : Rel G F H as (vs.map some)) (hn : n = N.length) (hl : vs.length ≤ N.length) :
    Rel G F H (as ++ List.replicate (n - as.length) .non) (L2.start N vs) ∧ (∀ j, j < as.length → getS (as ++ List.replicate (n - as.length) .non) j = getS as j ∧ slAt (L2.start N vs) j = slAt (vs.map some) j) ∧ ∀ j, as.length ≤ j → getS (as ++ List.replicate (n - as.length) .non) j = .non := by
  have la : as.length = vs.length := by have := R.len; rw [List.length_map] at this; exact this
  have g1 : ∀ j, j < as.length → getS (as ++ List.replicate (n - as.length) .non) j = getS as j := fun j hj => by rw [getS_app, if_pos hj]
  have g2 : ∀ j, as.length ≤ j → getS (as ++ List.replicate (n - as.length) .non) j = .non := fun j hj => by rw [getS_app, if_neg (by omega), getS_rep]
  have s1 : ∀ j, j < as.length → slAt (L2.start N vs) j = slAt (vs.map some) j := fun j hj => by
    unfold slAt L2.start
    rw [List.getElem?_append_left (by rw [List.length_map]; omega)]
  have own : ∀ j, isOwn (getS (as ++ List.replicate (n - as.length) .non) j) = true → j < as.length := fun j hj => by
    by_cases z : j < as.length
    · exact z
    · rw [g2 j (by omega)] at hj; cases hj
  refine ⟨⟨?_, fun j => ?_, fun i j a hi hj ei ej => ?_, R.fin⟩, fun j hj => ⟨g1 j hj, s1 j hj⟩, g2⟩
  · unfold L2.start
    simp only [List.length_append, List.length_replicate, List.length_map]
    omega
  · by_cases z : j < as.length
    · rw [g1 j z, s1 j z]; exact R.slot j
    · rw [g2 j (by omega)]; trivial
  · have h1 := own i hi
    have h2 := own j hj
    rw [g1 i h1] at hi; rw [g1 j h2] at hj; rw [s1 i h1] at ei; rw [s1 j h2] at ej
    exact R.one i j a hi hj ei ej
/-- .. at its end -/
theorem exit {refs : List Nat} {E0 e' : Env} {σ0 σ' : L2.St} {ps : Nat} (hps : ps = as.length) (R : Rel G F H as (vs.map some)) (h1 : ∀ j, j < as.length → getS E0 j = getS as j ∧ slAt σ0 j = slAt (vs.map some) j) (h2 : ∀ j, as.length ≤ j → getS E0 j = .non) (P : PstR G refs F H E0 σ0 F' H' e' σ') :
    Pst G F H as (vs.map some) F' H' (outsOf refs ps e') (vs.map some) := by
  subst hps
  have ml : ∀ a, Ml E0 σ0 a → Ml as (vs.map some) a := fun a ⟨j, q1, q2⟩ => by
    by_cases z : j < as.length
    · rw [(h1 j z).1] at q1; rw [(h1 j z).2] at q2; exact ⟨j, q1, q2⟩
    · rw [h2 j (by omega)] at q1; cases q1
  have mo : ∀ a, Mo E0 σ0 a → Mo as (vs.map some) a := fun a ⟨j, d, q1, q2⟩ => by
    by_cases z : j < as.length
    · rw [(h1 j z).1] at q1; rw [(h1 j z).2] at q2; exact ⟨j, d, q1, q2⟩
    · rw [h2 j (by omega)] at q1; cases q1
  have at_ : ∀ j, getS (outsOf refs as.length e') j = .non ∨ (getS (outsOf refs as.length e') j = getS e' j ∧ slAt (vs.map some) j = slAt σ' j ∧ j < as.length) := fun j => by
    rw [outsOf_get]
    split
    · rename_i hj
      refine .inr ⟨rfl, ?_, hj.1⟩
      have hm : j ∈ refs := by simpa [List.contains_eq_mem] using hj.2
      rw [P.2 j hm, (h1 j hj.1).2]
    · exact .inl rfl
  have own : ∀ j, isOwn (getS (outsOf refs as.length e') j) = true → getS (outsOf refs as.length e') j = getS e' j ∧ slAt (vs.map some) j = slAt σ' j ∧ j < as.length := fun j hj => by
    rcases at_ j with z | z
    · rw [z] at hj; cases hj
    · exact z
  refine ⟨P.1.ext.weak mo, ⟨by unfold outsOf; rw [outsFrom_len]; exact R.len, fun j => ?_, fun i j a hi hj ei ej => ?_, P.1.rel.fin⟩, fun a ⟨j, q1, q2⟩ => ?_, fun a ⟨j, d, q1, q2⟩ => ?_, fun j d q => ?_⟩
  · rcases at_ j with z | ⟨z1, z2, _⟩
    · rw [z]; trivial
    · rw [z1, z2]; exact P.1.rel.slot j
  · obtain ⟨a1, a2, _⟩ := own i hi
    obtain ⟨b1, b2, _⟩ := own j hj
    rw [a1] at hi; rw [b1] at hj; rw [a2] at ei; rw [b2] at ej
    exact P.1.rel.one i j a hi hj ei ej
  · obtain ⟨a1, a2, _⟩ := own j q1
    rw [a1] at q1; rw [a2] at q2
    exact (P.1.mo a ⟨j, q1, q2⟩).imp_left (ml a)
  · obtain ⟨a1, a2, _⟩ := own j (by rw [q1]; rfl)
    rw [a1] at q1; rw [a2] at q2
    exact (P.1.mw a ⟨j, d, q1, q2⟩).imp_left (mo a)
  · obtain ⟨a1, a2, a3⟩ := own j (by rw [q]; rfl)
    rw [a1] at q
    have := (P.1.lk j d q).1
    rw [(h1 j a3).1] at this
    exact ⟨this, rfl⟩
/-- what a def answers, from how its body ends -/
theorem body_end {refs : List Nat} {E0 : Env} {σ0 : L2.St} {ps : Nat} {r : RS} {Q : VK} {E : XK} (hps : ps = as.length) (R : Rel G F H as (vs.map some)) (h1 : ∀ j, j < as.length → getS E0 j = getS as j ∧ slAt σ0 j = slAt (vs.map some) j) (h2 : ∀ j, as.length ≤ j → getS E0 j = .non)
    (hargs : argsOk refs 0 as = true) (k : kF G F H as vs Q E (r.out refs ps as)) : kS G refs (fun cls d _ H => E cls d H) F H E0 σ0 { nx := fun _ H' => Q .non H', rt := Q } r := by
  cases r with
  | nx e' => exact fun F' H' σ' P => k F' H' _ (exit hps R h1 h2 P) (by rw [if_neg Bool.false_ne_true]; simp only [relF])
  | bk e' => exact k.elim
  | ct e' => exact k.elim
  | ex x e' => exact fun F' H' σ' cls dd P hx => k F' H' cls dd (exit hps R h1 h2 P) hx
  | st => exact k.elim
  | rt o d e' =>
    intro F' H' σ' v P hv
    have X0 := exit hps R h1 h2 P
    unfold retOk at hv
    cases o with
    | false =>
      rw [if_neg Bool.false_ne_true] at hv
      exact k F' H' v X0 (by rw [Bool.false_and, if_neg Bool.false_ne_true]; exact hv)
    | true =>
      rw [if_pos rfl] at hv
      obtain ⟨a, ea, nF, nM, ro, ho⟩ := hv
      have k : kF G F H as vs Q E (.ok (true && keptO refs as e') d (outsOf refs ps e')) := k
      rw [Bool.true_and] at k
      cases hk : keptO refs as e' with
      | true =>
        rw [hk] at k
        refine k F' H' v X0 ?_
        rw [if_pos rfl]
        have hn : H a = none := by
          rcases ho with ⟨j, d', q1, q2⟩ | z
          · exfalso
            by_cases z : j < as.length
            · rw [(h1 j z).1] at q1
              have hr := argsOk_get hargs j (by rw [q1]; rfl)
              rw [Nat.zero_add] at hr
              have hm : j ∈ refs := by simpa [List.contains_eq_mem] using hr
              unfold keptO at hk
              have hkj := List.all_eq_true.mp hk j hm
              rw [q1] at hkj
              have hkj : isOwn (getS e' j) = true := by simpa [isOwn] using hkj
              exact nM ⟨j, hkj, by rw [P.2 j hm]; exact q2⟩
            · rw [h2 j (by omega)] at q1; cases q1
          · exact z
        refine ⟨a, ea, nF, hn, fun ⟨j, q1, q2⟩ => ?_, ro⟩
        rw [outsOf_get] at q1
        split at q1
        · rename_i hj
          have hm : j ∈ refs := by simpa [List.contains_eq_mem] using hj.2
          have hlt : j < as.length := by rw [← hps]; exact hj.1
          exact nM ⟨j, q1, by rw [P.2 j hm, (h1 j hlt).2]; exact q2⟩
        · cases q1
      | false =>
        rw [hk] at k
        obtain ⟨⟨o, hoo⟩, _⟩ := relO_there ro
        have P2 : PstR G refs F H E0 σ0 (fun b => F' b ∨ b = a) H' e' σ' := ⟨P.1.freeze fun b hb => by rw [hb]; exact ⟨nM, by rw [hoo]; exact (fun z => nomatch z), ho⟩, P.2⟩
        refine k _ H' v (exit hps R h1 h2 P2) ?_
        rw [if_neg Bool.false_ne_true, ea]
        exact relF_of_relO (relO_sub (fun _ z => .inl z) ro) (.inr rfl)
end
/-- a def keeps its promise -/
theorem fn_ok {G : Gp} {mg : Str → Option Value} {base : Heap} {Φ : Str → List Sl → FR} {k : Nat} {c : Ck} {x qual : Str} {params : Arguments} {body : List Stmt} {scope : Scope} {ps : List Str} {f : Addr} {fd : FuncData} {fn : Fn}
    (T : Top G mg base Φ c.γ c.bns c.fns k) (FD : FunD G.K x qual params body scope [] [] f fd) (S : FnScope c.N ps scope) (hps : fn.ps = ps.length) (hn : fn.n = c.N.length) (hc : chkSs c ⟨scope, fun _ => true⟩ fn.refs fn.body body = true) :
    FnOk G.P G.w G.K mg base (L2.CX G.P G.w) (k + 1) f fd ps (spOf G (fn.run Φ c.γ) ps.length) := by
  refine FunD.ok FD S (fun vs H Q E h => h.1) fun cdv A outer s H vs Q E hr h => ?_
  refine ⟨rdSs G Φ c.γ fn.refs (fun cls d _ H => E cls d H) fn.body, ?_, ?_⟩
  · refine soundSs T (W := fun cls d _ H => E cls d H) ⟨rfl, rfl, rfl, rfl, rfl, rfl, rfl, rfl, hr, rfl, S.nd, takes_of rfl rfl rfl rfl⟩ ⟨passes_of rfl, ?_⟩ _ _ hc
    show Env.blockKind (envOfC qual scope s.heap.objs.size f cdv) = .function
    unfold Env.blockKind
    have e : (envOfC qual scope s.heap.objs.size f cdv).scope.kind = .function := S.kind
    rw [e]; rfl
  · obtain ⟨hl, F, as, R, kk⟩ := h
    have hpl : ps.length ≤ c.N.length := by have := congrArg List.length S.pre; rw [List.length_take] at this; omega
    have la : as.length = vs.length := by have := R.len; rw [List.length_map] at this; exact this
    unfold Fn.run at kk
    split at kk
    · rename_i hh
      simp only [Bool.and_eq_true, decide_eq_true_eq] at hh
      obtain ⟨R0, h1, h2⟩ := entry (N := c.N) (n := fn.n) R hn (by omega)
      rw [← hh.1] at kk
      exact ⟨F, _, R0, body_end rfl R h1 h2 hh.2 kk⟩
    · exact kk.elim
end PF
set_option Elab.async false
set_option linter.all false
set_option maxRecDepth 100000
set_option maxHeartbeats 1000000
namespace PF
open PySem PySem.Spec PyProof.Rows L2
/-- a def as a datum -/
structure Df where
  name : Str
  N : List Str
  ps : List Str
  fn : Fn
  params : Arguments
  body : List Stmt
  scope : Scope
def Df.he (d : Df) : He.DefD := ⟨(d.name, none), d.name, d.name, d.params, d.body, d.scope, [], []⟩
def findD : List Df → Str → Option Df
  | [], _ => none
  | d :: r, f => if decide (d.name = f) then some d else findD r f
def tabOf (ds : List Df) (f : Str) : Option Fn := (findD ds f).map (·.fn)
def fnsOf (ds : List Df) (f : Str) : Bool := (findD ds f).isSome
def γOf : List (Str × D) → Str → Option D
  | [], _ => none
  | (y, d) :: r, x => if decide (y = x) then some d else γOf r x
def fnScB (d : Df) : Bool :=
  decide (d.scope.kind = .function) && !d.scope.isCoroutine && !d.scope.isGenerator && decide d.N.Nodup && decide (d.N.take d.ps.length = d.ps) && d.ps.all (fun x => kindIs .local (d.scope.names.lookup x) || kindIs .cell (d.scope.names.lookup x)) && d.scope.names.all (fun y => !decide (y.2 = .free))
theorem fnScB_ok {d : Df} (h : fnScB d = true) : FnScope d.N d.ps d.scope := by
  unfold fnScB at h
  simp only [Bool.and_eq_true, decide_eq_true_eq, Bool.not_eq_true'] at h
  obtain ⟨⟨⟨⟨⟨⟨h1, h2⟩, h3⟩, h4⟩, h5⟩, h6⟩, h7⟩ := h
  refine ⟨h1, h2, h3, h4, h5, fun x hx => ?_, fun y hy => ?_⟩
  · have := List.all_eq_true.mp h6 x hx
    rw [Bool.or_eq_true] at this
    exact this.imp kindIs_ok kindIs_ok
  · have := List.all_eq_true.mp h7 y hy
    simpa using this
def Df.ckOf (d : Df) (ds : List Df) (bns : List Str) (cs : List (Str × D)) : Ck := ⟨d.N, bns, fnsOf ds, γOf cs⟩
def Df.ok (ds : List Df) (bns : List Str) (cs : List (Str × D)) (d : Df) : Bool :=
  chkSs (d.ckOf ds bns cs) ⟨d.scope, fun _ => true⟩ d.fn.refs d.fn.body d.body && decide (d.fn.ps = d.ps.length) && decide (d.fn.n = d.N.length) && fnScB d
def BindsD (d : Df) : Prop := ∀ (kV doc pm : Value) (an : Option Addr) (cdv ct : Value) (us : List Value), us.length = d.ps.length → bindArgs (PySem.W.fnOf d.name d.name d.params d.body d.scope .none kV doc pm an cdv ct) ⟨us, []⟩ = pure (d.ps.zip us)
def BindsAll : List Df → Prop
  | [] => True
  | d :: r => BindsD d ∧ BindsAll r
theorem BindsAll.at_ : ∀ {ds : List Df}, BindsAll ds → ∀ d ∈ ds, BindsD d
  | [], _, d, h => by simp at h
  | e :: r, hb, d, h => by
    rcases List.mem_cons.mp h with rfl | h
    · exact hb.1
    · exact hb.2.at_ d h
theorem findD_some : ∀ {ds : List Df} {f : Str} {d : Df}, findD ds f = some d → d ∈ ds ∧ d.name = f
  | [], _, _, h => by cases h
  | e :: r, f, d, h => by
    unfold findD at h
    split at h
    · rename_i q
      cases h
      exact ⟨List.mem_cons_self, of_decide_eq_true q⟩
    · obtain ⟨h1, h2⟩ := findD_some h
      exact ⟨List.mem_cons_of_mem _ h1, h2⟩
theorem γOf_some : ∀ {cs : List (Str × D)} {x : Str} {d : D}, γOf cs x = some d → (x, d) ∈ cs
  | [], _, _, h => by cases h
  | (y, e) :: r, x, d, h => by
    unfold γOf at h
    split at h
    · rename_i q
      cases h
      rw [of_decide_eq_true q]
      exact List.mem_cons_self
    · exact List.mem_cons_of_mem _ (γOf_some h)
def cutK (K : PySem.W.Frag) (a : Addr) : PySem.W.Frag := K.filter fun q => !(q.1 == a)
theorem cutK_lookup {a b : Addr} : ∀ {K : PySem.W.Frag}, b ≠ a → (cutK K a).lookup b = K.lookup b
  | [], _ => rfl
  | (c, o) :: r, h => by
    unfold cutK
    rw [List.filter_cons]
    have ih : (List.filter (fun q : Addr × Obj => !(q.1 == a)) r).lookup b = r.lookup b := cutK_lookup h
    by_cases hc : c = a
    · subst hc
      have e1 : (!((c, o).1 == c)) = false := by simp
      rw [e1]
      have e2 : (b == c) = false := by simpa using h
      simp only [Bool.false_eq_true, if_false, List.lookup_cons, e2]
      exact ih
    · have e1 : (!((c, o).1 == a)) = true := by simpa using hc
      rw [e1, if_pos rfl, List.lookup_cons, List.lookup_cons, ih]
theorem cutK_none {a : Addr} : ∀ {K : PySem.W.Frag}, (cutK K a).lookup a = none
  | [] => rfl
  | (c, o) :: r => by
    unfold cutK
    rw [List.filter_cons]
    by_cases hc : c = a
    · subst hc
      have e1 : (!((c, o).1 == c)) = false := by simp
      rw [e1]
      exact cutK_none (K := r)
    · have e1 : (!((c, o).1 == a)) = true := by simpa using hc
      have e2 : (a == c) = false := by simpa using Ne.symm hc
      rw [e1, if_pos rfl, List.lookup_cons, e2]
      exact cutK_none (K := r)
theorem cutK_in {K : PySem.W.Frag} {a : Addr} {h : Heap} (X : K.In h) : (cutK K a).In h := fun b o e => by
  by_cases hb : b = a
  · subst hb; rw [cutK_none] at e; cases e
  · rw [cutK_lookup hb] at e; exact X b o e
/-- the script's object -/
structure ScrAt (K : PySem.W.Frag) (a : Addr) : Prop where
  lst : ∀ o, K.lookup a = some o → o.cls = .type "list" ∧ ∃ its n, o.data = .seq its n
theorem ScrAt.ne {K : PySem.W.Frag} {a b : Addr} {o : Obj} (s : ScrAt K a) (e : K.lookup b = some o) (h : o.cls ≠ .type "list" ∨ ∀ its n, o.data ≠ .seq its n) : b ≠ a := fun z => by
  subst z
  obtain ⟨h1, its, n, h2⟩ := s.lst o e
  rcases h with h | h
  · exact h h1
  · exact h its n h2
theorem keepIn_cut {K : PySem.W.Frag} {a f : Addr} {fd : FuncData} {oc : Value} {od : Option Addr} {osl : Array (Option Value)} (s : ScrAt K a) (e : K.lookup f = some ⟨oc, od, .func fd, osl⟩) : (cutK K a).lookup f = some ⟨oc, od, .func fd, osl⟩ ∧ PySem.W.keepIn (cutK K a) (.ref f) = true := by
  have ne : f ≠ a := s.ne e (.inr fun _ _ z => nomatch z)
  have e2 : (cutK K a).lookup f = some ⟨oc, od, .func fd, osl⟩ := (cutK_lookup ne).trans e
  refine ⟨e2, ?_⟩
  simp only [PySem.W.keepIn, e2]
theorem codeIn_cut {K : PySem.W.Frag} {a : Addr} {cd : Value} {q : Str} (s : ScrAt K a) (e : PySem.W.codeIn K cd q = true) : PySem.W.codeIn (cutK K a) cd q = true := by
  unfold PySem.W.codeIn at e ⊢
  cases cd with
  | ref c =>
    simp only at e ⊢
    cases hc : K.lookup c with
    | none => rw [hc] at e; cases e
    | some o =>
      rw [hc] at e
      obtain ⟨oc, od, dt, osl⟩ := o
      cases dt with
      | fields vs =>
        have ne : c ≠ a := s.ne hc (.inr fun _ _ z => nomatch z)
        rw [cutK_lookup ne, hc]
        exact e
      | _ => cases e
  | _ => cases e
theorem FunD_cut {K : PySem.W.Frag} {a : Addr} {x qual : Str} {params : Arguments} {body : List Stmt} {scope : Scope} {f : Addr} {fd : FuncData} (s : ScrAt K a) (F : FunD K x qual params body scope [] [] f fd) : FunD (cutK K a) x qual params body scope [] [] f fd := by
  obtain ⟨oc, od, dV, kV, doc, pm, an, cdv, ct, osl, e1, e2, e3, e4, e5⟩ := F.ex
  obtain ⟨h1, h2⟩ := keepIn_cut s e2
  exact ⟨⟨oc, od, dV, kV, doc, pm, an, cdv, ct, osl, e1, h1, codeIn_cut s e3, e4.elim .inl fun z => absurd rfl z.1, .inl rfl⟩, h2⟩
mutual
def cV (K : PySem.W.Frag) : D → Value → Bool
  | .int i, .int j _ => decide (i = j)
  | .str x, .str y _ => decide (x = y)
  | .bl b, .bool c => b == c
  | .non, .none => true
  | .tup ds, .ref p => match K.lookup p with
    | some ⟨.type c, _, .seq its _, _⟩ => decide (c = "tuple") && decide (its.size ≤ sizeLine) && cVs K ds its.toList
    | _ => false
  | _, _ => false
def cVs (K : PySem.W.Frag) : List D → List Value → Bool
  | [], [] => true
  | d :: ds, v :: vs => cV K d v && cVs K ds vs
  | _, _ => false
end
mutual
theorem cV_ok {G : Gp} {K : PySem.W.Frag} {a : Addr} (hK : G.K = cutK K a) (s : ScrAt K a) : ∀ (d : D) (u : Value), cV K d u = true → ∃ v, RelV v u ∧ ∀ F H, relF G F H d v
  | .int i, u, h => by
    cases u <;> simp only [cV] at h <;> first | (have := of_decide_eq_true h; subst this; exact ⟨.int i, ⟨_, rfl⟩, fun F H => by simp only [relF]⟩) | cases h
  | .str x, u, h => by
    cases u <;> simp only [cV] at h <;> first | (have := of_decide_eq_true h; subst this; exact ⟨.str x, ⟨_, rfl⟩, fun F H => by simp only [relF]⟩) | cases h
  | .bl b, u, h => by
    cases u <;> simp only [cV] at h <;> first | (have := beq_iff_eq.mp h; subst this; exact ⟨.bl b, rfl, fun F H => by simp only [relF]⟩) | cases h
  | .non, u, h => by
    cases u <;> simp only [cV] at h <;> first | exact ⟨.non, rfl, fun F H => by simp only [relF]⟩ | cases h
  | .tup ds, u, h => by
    cases u with
    | ref p =>
      simp only [cV] at h
      split at h
      · rename_i c od its n sl e
        simp only [Bool.and_eq_true, decide_eq_true_eq] at h
        obtain ⟨⟨rfl, h2⟩, h3⟩ := h
        obtain ⟨vs, h4, h5⟩ := cVs_ok hK s ds its.toList h3
        have ne : p ≠ a := s.ne e (.inl (by simp))
        refine ⟨.ref p, rfl, fun F H => ?_⟩
        simp only [relF]
        exact ⟨p, vs, rfl, .inr ⟨_, its, n, by rw [hK, cutK_lookup ne]; exact e, rfl, rfl, h2, h4⟩, h5 F H⟩
      · cases h
    | _ => simp [cV] at h
  | .lst _, u, h => by simp [cV] at h
  | .dct _ _, u, h => by simp [cV] at h
  | .ins _ _ _, u, h => by simp [cV] at h
theorem cVs_ok {G : Gp} {K : PySem.W.Frag} {a : Addr} (hK : G.K = cutK K a) (s : ScrAt K a) : ∀ (ds : List D) (us : List Value), cVs K ds us = true → ∃ vs, Vals vs us ∧ ∀ F H, relFs G F H ds vs
  | [], [], _ => ⟨[], .nil, fun F H => by simp only [relFs]⟩
  | d :: ds, u :: us, h => by
    simp only [cVs, Bool.and_eq_true] at h
    obtain ⟨v, h1, h2⟩ := cV_ok hK s d u h.1
    obtain ⟨vs, h3, h4⟩ := cVs_ok hK s ds us h.2
    exact ⟨v :: vs, .cons h1 h3, fun F H => by simp only [relFs]; exact ⟨v, vs, rfl, h2 F H, h4 F H⟩⟩
  | [], _ :: _, h => by simp [cVs] at h
  | _ :: _, [], h => by simp [cVs] at h
end
def csB (cs : List (Str × D)) (K : PySem.W.Frag) : Bool := cs.all fun q => match PySem.W.nsIn K mainGlobals q.1 with
  | some (some u) => (match biD q.2 with
    | some id => (match u with
      | .builtin f => decide (f = id)
      | _ => false)
    | none => cV K q.2 u)
  | _ => false
abbrev AlC : Type := He.AlD × Bool
def obsCG (n : Nat) (fa : List He.Fa) (fn : List He.DefD) (ex : PySem.W.Frag → Bool) (g : Addr → Option Obj) : AlC := (He.obsDG n fa fn g, ex (He.frG g (He.asD g n)))
def hookC (n : Nat) (fa : List He.Fa) (fn : List He.DefD) (ex : PySem.W.Frag → Bool) : PySem.W.Hook where
  α := AlC
  obs := fun s => obsCG n fa fn ex s.heap.get?
  val := fun _ => (He.valD fn, true)
  says := fun _ h => ∃ K : PySem.W.Frag, K.In h ∧ He.SaysD fa fn K ∧ ex K = true
  of := fun _ _ e => ⟨_, He.frG_in, congrArg Prod.fst e, congrArg Prod.snd e⟩
  keeps := fun _ _ _ ⟨K, hK, c⟩ k => ⟨K, PySem.W.Frag.In.keeps hK k, c⟩
theorem obsCG_eq {n : Nat} {fa : List He.Fa} {fn : List He.DefD} {ex : PySem.W.Frag → Bool} {g : Addr → Option Obj} {s : Shared} (h : ∀ a, g a = s.heap.get? a) : obsCG n fa fn ex g = (hookC n fa fn ex).obs s := by
  have e : g = s.heap.get? := funext h
  rw [e] <;> rfl
def faOf (ds : List Df) (bns : List Str) : List He.Fa := ds.map (fun d => .glo d.name) ++ bns.map .free
def noEx : (Addr → Prop) → Hp → Exn → Value → Option Addr → Prop := fun _ _ _ _ _ => False
/-- every def of the table keeps its promise, k calls deep -/
theorem tops {ds : List Df} {bns : List Str} {cs : List (Str × D)} {P : Program} {w : World} {K : PySem.W.Frag} {a : Addr} {h : Heap} {mg : Str → Option Value} {base : Heap} (X : K.In h) (Ns : h.Ns mainGlobals mg) (s : ScrAt K a)
    (c : He.SaysD (faOf ds bns) (ds.map Df.he) K) (hcs : csB cs K = true) (hok : ds.all (Df.ok ds bns cs) = true) (hb : BindsAll ds) : ∀ k, Top ⟨P, w, cutK K a, noEx⟩ mg base (run (tabOf ds) (γOf cs) k) (γOf cs) bns (fnsOf ds) k := by
  have names : ∀ d ∈ ds, mg d.name = some (.ref (He.ga K d.name)) ∧ ∃ fd, FunD K d.name d.name d.params d.body d.scope [] [] (He.ga K d.name) fd := fun d hd => by
    obtain ⟨i, hi⟩ := List.getElem?_of_mem hd
    refine ⟨He.glo_ok X Ns (c.fact i (f := .glo d.name) ?_), ?_⟩
    · unfold faOf
      have hlt : i < ds.length := (List.getElem?_eq_some_iff.mp hi).1
      rw [List.getElem?_append_left (by rw [List.length_map]; exact hlt), List.getElem?_map, hi]; rfl
    · obtain ⟨fd, F⟩ := c.def_ i (d := d.he) (by rw [List.getElem?_map, hi]; rfl)
      exact ⟨fd, F⟩
  have im : ∀ x d id, γOf cs x = some d → biD d = some id → mg x = some (.builtin id) := fun x d id hx hb => by
    have hm := γOf_some hx
    have := List.all_eq_true.mp hcs _ hm
    simp only at this
    split at this
    · rename_i u e
      rw [hb] at this
      simp only at this
      split at this
      · have := of_decide_eq_true this
        subst this
        exact PySem.W.mg_of X Ns e
      · cases this
    · cases this
  have gl : ∀ x d, γOf cs x = some d → biD d = none → ∃ u v, mg x = some u ∧ RelV v u ∧ ∀ F H, relF ⟨P, w, cutK K a, noEx⟩ F H d v := fun x d hx hb => by
    have hm := γOf_some hx
    have := List.all_eq_true.mp hcs _ hm
    simp only at this
    split at this
    · rename_i u e
      rw [hb] at this
      simp only at this
      obtain ⟨v, h1, h2⟩ := cV_ok (G := ⟨P, w, cutK K a, noEx⟩) rfl s d u this
      exact ⟨u, v, PySem.W.mg_of X Ns e, h1, h2⟩
    · cases this
  have bn : ∀ x ∈ bns, mg x = none := fun x hx => by
    obtain ⟨i, hi⟩ := List.getElem?_of_mem hx
    refine He.free_ok X Ns (c.fact (ds.length + i) (f := .free x) ?_)
    unfold faOf
    rw [List.getElem?_append_right (by rw [List.length_map]; omega), List.length_map, Nat.add_sub_cancel_left, List.getElem?_map, hi]; rfl
  intro k
  induction k with
  | zero =>
    refine ⟨gl, im, bn, fun f hf => ?_⟩
    obtain ⟨d, hd⟩ := Option.isSome_iff_exists.mp hf
    obtain ⟨hm, rfl⟩ := findD_some hd
    obtain ⟨h1, fd, F⟩ := names d hm
    have F' := FunD_cut s F
    refine ⟨_, fd, d.ps, h1, F'.kp, F'.bindsN (hb.at_ d hm), fun as z => absurd rfl z, ⟨fun vs H Q E q => q.1, fun A outer s H args us vs Q E hr e hbd hv q => ?_⟩⟩
    obtain ⟨_, _, _, _, kk⟩ := q
    exact kk.elim
  | succ k ih =>
    refine ⟨gl, im, bn, fun f hf => ?_⟩
    obtain ⟨d, hd⟩ := Option.isSome_iff_exists.mp hf
    obtain ⟨hm, rfl⟩ := findD_some hd
    obtain ⟨h1, fd, F⟩ := names d hm
    have F' := FunD_cut s F
    have hdk := List.all_eq_true.mp hok d hm
    unfold Df.ok at hdk
    simp only [Bool.and_eq_true, decide_eq_true_eq] at hdk
    obtain ⟨⟨⟨k1, k2⟩, k3⟩, k4⟩ := hdk
    have er : run (tabOf ds) (γOf cs) (k + 1) d.name = d.fn.run (run (tabOf ds) (γOf cs) k) (γOf cs) := by
      funext as
      have e : tabOf ds d.name = some d.fn := by unfold tabOf; rw [hd]; rfl
      rw [run, e]
    refine ⟨_, fd, d.ps, h1, F'.kp, F'.bindsN (hb.at_ d hm), fun as z => ?_, ?_⟩
    · rw [er] at z
      unfold Fn.run at z
      split at z
      · rename_i q
        simp only [Bool.and_eq_true, decide_eq_true_eq] at q
        rw [q.1, k2]
      · exact absurd rfl z
    · rw [er]
      exact fn_ok (c := d.ckOf ds bns cs) ih F' (fnScB_ok k4) k2 k3 k1
/-- THE LAW: from what the evaluator answers -/
theorem pf_walk {l : PySem.W.OpenLaw} {n k nH : Nat} {q : Program} {loose : List Str} {XP : (Str → Option Value) → Heap → Prop} {d : DefRec} {ds : List Df} {bns : List Str} {cs : List (Str × D)} {x : Str} {dl : Df}
    (hn : l.most = some n) (hn2 : n ≤ sizeLine) (hdf : d.params.defaults = []) (hr : Room (k + 1) callerA) (hname : d.name = dl.name) (hlaw : findD ds dl.name = some dl) (hps : dl.ps = [x])
    (hok : ds.all (Df.ok ds bns cs) = true) (hb : BindsAll ds)
    (plain : ∀ ns : List Int, ns.length ≤ n → (∀ z ∈ ns, Builtin.Int.intBits z ≤ 1048576) → ∃ outs, run (tabOf ds) (γOf cs) (k + 1) dl.name [.fr (.lst (ns.map .int))] = .ok false (.bl true) outs) :
    PySem.W.WalkO q loose XP (hookC nH (faOf ds bns) (ds.map Df.he) (csB cs)).says l.row.toRowW d [] (fun f vs => PySem.call f vs) := by
  refine Att.attach_callB hn hdf fun w s₀ s₁ mg mb fa o pm cd doc a vs ns G Y ho hd hcd hmg hobj hints hlen hbits hg => ?_
  obtain ⟨K, KX, c, hcs⟩ := Y
  have s : ScrAt K a := ⟨fun o' e => by
    have e2 := KX a o' e
    rw [hobj] at e2
    cases e2
    exact ⟨rfl, _, _, rfl⟩⟩
  obtain ⟨hm, -⟩ := findD_some hlaw
  obtain ⟨i, hi⟩ := List.getElem?_of_mem hm
  have hga : mg dl.name = some (.ref (He.ga K dl.name)) := He.glo_ok KX G.T.g (c.fact i (f := .glo dl.name) (by
    unfold faOf
    have hlt : i < ds.length := (List.getElem?_eq_some_iff.mp hi).1
    rw [List.getElem?_append_left (by rw [List.length_map]; exact hlt), List.getElem?_map, hi]; rfl))
  obtain ⟨fd, F⟩ := c.def_ i (d := dl.he) (by rw [List.getElem?_map, hi]; rfl)
  have F : FunD K dl.name dl.name dl.params dl.body dl.scope [] [] (He.ga K dl.name) fd := F
  have efa : fa = He.ga K dl.name := by
    rw [hname, hga] at hmg
    cases hmg; rfl
  have F' := FunD_cut s F
  have hdk := List.all_eq_true.mp hok dl hm
  unfold Df.ok at hdk
  simp only [Bool.and_eq_true, decide_eq_true_eq] at hdk
  obtain ⟨⟨⟨k1, k2⟩, k3⟩, k4⟩ := hdk
  have er : run (tabOf ds) (γOf cs) (k + 1) dl.name = dl.fn.run (run (tabOf ds) (γOf cs) k) (γOf cs) := by
    funext as
    have e : tabOf ds dl.name = some dl.fn := by unfold tabOf; rw [hlaw]; rfl
    rw [run, e]
  have hF : ∀ base : Heap, (cutK K a).In base → base.Ns mainGlobals mg → FnOk l.prog w (cutK K a) mg base (L2.CX l.prog w) (k + 1) fa fd [x] (spOf ⟨l.prog, w, cutK K a, noEx⟩ (run (tabOf ds) (γOf cs) (k + 1) dl.name) 1) := fun base _ _ => by
    have := fn_ok (c := dl.ckOf ds bns cs) (tops (P := l.prog) (w := w) (base := base) KX G.T.g s c hcs hok hb k) F' (fnScB_ok k4) k2 k3 k1
    rw [hps] at this
    rw [efa, er]
    exact this
  have hbind := FunD.bindsA (ps := dl.ps) F (hb.at_ dl hm)
  refine law_call (cutK_in KX) G.T.g G.T.b G.T.builtins G.T.nolimit hg hobj hints (Nat.le_trans hlen hn2) hr hF (fun s u => ?_) (fun H hO hS => ?_) fun H e s' z => ?_
  · have := hbind s [u] (by rw [hps]; rfl)
    rw [hps] at this
    exact this
  · refine ⟨rfl, fun b => b = a, [.fr (.lst (ns.map .int))], ?_, ?_⟩
    · have hR : Rd H a (.lst (ns.map V.int)) := by
        rcases hS with h | ⟨o, its, n, e, _⟩
        · exact h
        · rw [cutK_none] at e; cases e
      have hrl : relF ⟨l.prog, w, cutK K a, noEx⟩ (fun b => b = a) H (.lst (ns.map .int)) (.ref a) := by
        simp only [relF]
        refine ⟨a, _, rfl, rfl, hR, ?_⟩
        have go : ∀ ns : List Int, relFs ⟨l.prog, w, cutK K a, noEx⟩ (fun b => b = a) H (ns.map D.int) (ns.map V.int) := by
          intro ns
          induction ns with
          | nil => simp [relFs]
          | cons z r ih => simp only [List.map_cons, relFs]; exact ⟨_, _, rfl, by simp only [relF], ih⟩
        exact go ns
      refine ⟨rfl, fun j => ?_, fun i j b hi _ _ _ => ?_, fun b hb hn => ?_⟩
      · cases j with
        | zero => exact ⟨.ref a, rfl, hrl⟩
        | succ j =>
          have : getS [Sl.fr (.lst (ns.map D.int))] (j + 1) = .non := by cases j <;> rfl
          rw [this]; trivial
      · cases i with
        | zero => cases hi
        | succ i =>
          have : getS [Sl.fr (.lst (ns.map D.int))] (i + 1) = .non := by cases i <;> rfl
          rw [this] at hi; cases hi
      · rw [hb] at hn
        rcases hR with h | ⟨o, h⟩
        · rw [hn] at h; cases h
        · rw [hn] at h; cases h
    · obtain ⟨outs, e⟩ := plain ns hlen hbits
      rw [e]
      intro F' H' v P hv
      rw [if_neg Bool.false_ne_true] at hv
      simpa only [relF] using hv
  · obtain ⟨_, _, _, _, _, _, _, _, _, _, _, _, z⟩ := z
    exact z.elim
end PF
set_option Elab.async false
set_option linter.all false
set_option maxRecDepth 100000
namespace PF
open PySem PySem.Spec PyProof.Rows L2
variable {Φ : Str → List Sl → FR} {γ : Str → Option D} {e e0 e1 : Env} {d d' : D} {i j n : Nat} {f : Fl} {α : Type}
section
@[simp] theorem q1 {k} : RE.bd (.ok f d e) k = k f d e := rfl
@[simp] theorem q2 {x k} : RE.bd (.ex x e) k = .ex x e := rfl
@[simp] theorem q3 {k} : RE.bd .st k = .st := rfl
@[simp] theorem q4 {k} : RE.bds (.ok f d e) k = k f d e := rfl
@[simp] theorem q5 {x k} : RE.bds (.ex x e) k = .ex x e := rfl
@[simp] theorem q6 {k} : RE.bds .st k = .st := rfl
@[simp] theorem q7 {k} : RE.bdI (.ok f d e) k = k f d e := rfl
@[simp] theorem q8 {x k} : RE.bdI (.ex x e) k = .ex x e := rfl
@[simp] theorem q9 {k} : RE.bdI .st k = .st := rfl
@[simp] theorem q10 {k} : RE.bdT (.ok f d e) k = k f d e := rfl
@[simp] theorem q11 {x k} : RE.bdT (.ex x e) k = .ex x e := rfl
@[simp] theorem q12 {k} : RE.bdT .st k = .st := rfl
@[simp] theorem q13 {k} : RE.bdS (.ok f d e) k = k f d e := rfl
@[simp] theorem q14 {x k} : RE.bdS (.ex x e) k = .ex x e := rfl
@[simp] theorem q15 {k} : RE.bdS .st k = .st := rfl
@[simp] theorem q16 {vs k} : REs.bds (.ok vs e) k = k vs e := rfl
@[simp] theorem q17 {x k} : REs.bds (.ex x e) k = .ex x e := rfl
@[simp] theorem q18 {k} : REs.bds .st k = .st := rfl
@[simp] theorem q19 {vs k} : REs.bd (.ok vs e) k = k vs e := rfl
@[simp] theorem q20 {x k} : REs.bd (.ex x e) k = .ex x e := rfl
@[simp] theorem q21 {k} : REs.bd .st k = .st := rfl
@[simp] theorem q22 {vs k} : REs.bdI (.ok vs e) k = k vs e := rfl
@[simp] theorem q23 {x k} : REs.bdI (.ex x e) k = .ex x e := rfl
@[simp] theorem q24 {k} : REs.bdI .st k = .st := rfl
@[simp] theorem q25 {ds ls k} : RI.bd (.ok ds ls e) k = k ds ls e := rfl
@[simp] theorem q26 {x k} : RI.bd (.ex x e) k = .ex x e := rfl
@[simp] theorem q27 {k} : RI.bd .st k = .st := rfl
@[simp] theorem q28 {ds ls k} : RI.bdS (.ok ds ls e) k = k ds ls e := rfl
@[simp] theorem q29 {x k} : RI.bdS (.ex x e) k = .ex x e := rfl
@[simp] theorem q30 {k} : RI.bdS .st k = .st := rfl
@[simp] theorem q31 {b k} : RT.bd (.ok b e) k = k b e := rfl
@[simp] theorem q32 {x k} : RT.bd (.ex x e) k = .ex x e := rfl
@[simp] theorem q33 {k} : RT.bd .st k = .st := rfl
@[simp] theorem q34 {b k} : RT.bdS (.ok b e) k = k b e := rfl
@[simp] theorem q35 {x k} : RT.bdS (.ex x e) k = .ex x e := rfl
@[simp] theorem q36 {k} : RT.bdS .st k = .st := rfl
@[simp] theorem q37 {a k} : RL.bd (.ok a e) k = k a e := rfl
@[simp] theorem q38 {k} : RL.bd .st k = .st := rfl
@[simp] theorem q39 {a k} : RL.bdL (.ok a e) k = k a e := rfl
@[simp] theorem q40 {k} : RL.bdL .st k = .st := rfl
@[simp] theorem q41 {a b k} : RD.bd (.ok a b e) k = k a b e := rfl
@[simp] theorem q42 {k} : RD.bd .st k = .st := rfl
@[simp] theorem q43 {b k} : RT.bdL (.ok b e) k = k b e := rfl
@[simp] theorem q44 {x k} : RT.bdL (.ex x e) k = .st := rfl
@[simp] theorem q45 {k} : RT.bdL .st k = .st := rfl
@[simp] theorem q46 {b k} : RT.bdD (.ok b e) k = k b e := rfl
@[simp] theorem q47 {x k} : RT.bdD (.ex x e) k = .st := rfl
@[simp] theorem q48 {k} : RT.bdD .st k = .st := rfl
@[simp] theorem q49 {k} : RE.bdL (.ok f d e) k = k f d e := rfl
@[simp] theorem q50 {x k} : RE.bdL (.ex x e) k = .st := rfl
@[simp] theorem q51 {k} : RE.bdL .st k = .st := rfl
@[simp] theorem q52 {k} : RE.bdD (.ok f d e) k = k f d e := rfl
@[simp] theorem q53 {x k} : RE.bdD (.ex x e) k = .st := rfl
@[simp] theorem q54 {k} : RE.bdD .st k = .st := rfl
@[simp] theorem q55 {ds ls k} : RI.bdL (.ok ds ls e) k = k ds ls e := rfl
@[simp] theorem q56 {x k} : RI.bdL (.ex x e) k = .st := rfl
@[simp] theorem q57 {k} : RI.bdL .st k = .st := rfl
@[simp] theorem q58 {o k} : RS.bd (.rt o d e) k = .rt o d e := rfl
@[simp] theorem q59 { k} : RS.bd (.bk e) k = .bk e := rfl
@[simp] theorem q60 { k} : RS.bd (.ct e) k = .ct e := rfl
@[simp] theorem q61 {x k} : RS.bd (.ex x e) k = .ex x e := rfl
@[simp] theorem q62 { k} : RS.bd (.st) k = .st := rfl
@[simp] theorem q63 {k} : RS.bd (.nx e) k = k e := rfl
@[simp] theorem q64 {k} : RS.lp (.nx e) k = k e := rfl
@[simp] theorem q65 {k} : RS.lp (.ct e) k = k e := rfl
@[simp] theorem q66 {k} : RS.lp (.bk e) k = .nx e := rfl
@[simp] theorem q67 {o k} : RS.lp (.rt o d e) k = .rt o d e := rfl
@[simp] theorem q68 {x k} : RS.lp (.ex x e) k = .ex x e := rfl
@[simp] theorem q69 {k} : RS.lp .st k = .st := rfl
@[simp] theorem q70 { g} : RS.env g (.nx e) = .nx (g e) := rfl
@[simp] theorem q71 {o g} : RS.env g (.rt o d e) = .rt o d (g e) := rfl
@[simp] theorem q72 { g} : RS.env g (.bk e) = .bk (g e) := rfl
@[simp] theorem q73 { g} : RS.env g (.ct e) = .ct (g e) := rfl
@[simp] theorem q74 {x g} : RS.env g (.ex x e) = .ex x (g e) := rfl
@[simp] theorem q75 {g} : RS.env g .st = .st := rfl
@[simp] theorem q76 {a : α} {k} : onE (some a) k = k a := rfl
@[simp] theorem q77 {k : α → _} : onE none k = .st := rfl
@[simp] theorem q80 {a : α} {k} : onT (some a) k = k a := rfl
@[simp] theorem q81 {k : α → _} : onT none k = .st := rfl
@[simp] theorem q82 {a : α} {k} : onS (some a) k = k a := rfl
@[simp] theorem q83 {k : α → _} : onS none k = .st := rfl
@[simp] theorem q84 {a : α} {k} : onL (some a) k = k a := rfl
@[simp] theorem q85 {k : α → _} : onL none k = .st := rfl
@[simp] theorem q86 {a : α} {k} : onD (some a) k = k a := rfl
@[simp] theorem q87 {k : α → _} : onD none k = .st := rfl
@[simp] theorem q88 {k} : keepE .fr k = k false := rfl
@[simp] theorem q89 {k} : keepE .ow k = k true := rfl
@[simp] theorem q90 {k} : keepE (.pl i) k = .st := rfl
@[simp] theorem q91 {k} : keepS .fr k = k false := rfl
@[simp] theorem q92 {k} : keepS .ow k = k true := rfl
@[simp] theorem q93 {k} : keepS (.pl i) k = .st := rfl
@[simp] theorem q94 {r} : keepL .fr r = r := rfl
@[simp] theorem q95 {r} : keepL .ow r = r := rfl
@[simp] theorem q96 {r} : keepL (.pl i) r = .st := rfl
@[simp] theorem q97 {r} : keepD .fr r = r := rfl
@[simp] theorem q98 {r} : keepD .ow r = r := rfl
@[simp] theorem q99 {r} : keepD (.pl i) r = .st := rfl
@[simp] theorem q100 : late .fr d e = some d := rfl
@[simp] theorem q101 : late .ow d e = some d := rfl
@[simp] theorem q102 : late (.pl i) d e = (getS e i).d? := rfl
@[simp] theorem q103 : lates [] e = some [] := rfl
@[simp] theorem q104 {r} : lates ((f, d) :: r) e = match late f d e, lates r e with | some x, some xs => some (x :: xs) | _, _ => none := rfl
@[simp] theorem q105 : PF.stored [] = some [] := rfl
@[simp] theorem q106 {r} : PF.stored ((.pl i, d) :: r) = none := rfl
@[simp] theorem q107 {r} : PF.stored ((.fr, d) :: r) = (PF.stored r).map (d :: ·) := rfl
@[simp] theorem q108 {r} : PF.stored ((.ow, d) :: r) = (PF.stored r).map (d :: ·) := rfl
@[simp] theorem q109 : lend [] e = [] := rfl
@[simp] theorem q110 {r} : lend ((.pl i, d) :: r) e = getS e i :: lend r e := rfl
@[simp] theorem q111 {r} : lend ((.fr, d) :: r) e = .fr d :: lend r e := rfl
@[simp] theorem q112 {r} : lend ((.ow, d) :: r) e = .fr d :: lend r e := rfl
@[simp] theorem q113 : places [] = [] := rfl
@[simp] theorem q114 {r} : places ((.pl i, d) :: r) = i :: places r := rfl
@[simp] theorem q115 {r} : places ((.fr, d) :: r) = places r := rfl
@[simp] theorem q116 {r} : places ((.ow, d) :: r) = places r := rfl
@[simp] theorem q117 {outs} : back [] outs e = some e := rfl
@[simp] theorem q118 {r o outs} : back ((.pl i, d) :: r) (o :: outs) e = if isNon o then none else back r outs (setS e i o) := rfl
@[simp] theorem q119 {r o outs} : back ((.fr, d) :: r) (o :: outs) e = back r outs e := rfl
@[simp] theorem q120 {r o outs} : back ((.ow, d) :: r) (o :: outs) e = back r outs e := rfl
@[simp] theorem q121 : isNon .non = true := rfl
@[simp] theorem q122 : isNon (.fr d) = false := rfl
@[simp] theorem q123 : isNon (.ow d) = false := rfl
@[simp] theorem q124 : isNon (.lk d) = false := rfl
@[simp] theorem q125 : nodupN [] = true := rfl
@[simp] theorem q126 {a r} : nodupN (a :: r) = (!(r.contains a) && nodupN r) := rfl
@[simp] theorem q127 : flOf true = .ow := rfl
@[simp] theorem q128 : flOf false = .fr := rfl
@[simp] theorem q129 {x r} : getS (x :: r) 0 = x := rfl
@[simp] theorem q130 {x r} : getS (x :: r) (i + 1) = getS r i := rfl
@[simp] theorem q131 {x y r} : setS (x :: r) 0 y = y :: r := rfl
@[simp] theorem q132 {x y r} : setS (x :: r) (i + 1) y = x :: setS r i y := rfl
@[simp] theorem q133 {x r} : getS (x :: r) 1 = getS r 0 := rfl
@[simp] theorem q134 {x y r} : setS (x :: r) 1 y = x :: setS r 0 y := rfl
@[simp] theorem q135 {x r} : getS (x :: r) 2 = getS r 1 := rfl
@[simp] theorem q136 {x y r} : setS (x :: r) 2 y = x :: setS r 1 y := rfl
@[simp] theorem q137 {x r} : getS (x :: r) 3 = getS r 2 := rfl
@[simp] theorem q138 {x y r} : setS (x :: r) 3 y = x :: setS r 2 y := rfl
@[simp] theorem q139 {x r} : getS (x :: r) 4 = getS r 3 := rfl
@[simp] theorem q140 {x y r} : setS (x :: r) 4 y = x :: setS r 3 y := rfl
@[simp] theorem q141 {x r} : getS (x :: r) 5 = getS r 4 := rfl
@[simp] theorem q142 {x y r} : setS (x :: r) 5 y = x :: setS r 4 y := rfl
@[simp] theorem q143 {x r} : getS (x :: r) 6 = getS r 5 := rfl
@[simp] theorem q144 {x y r} : setS (x :: r) 6 y = x :: setS r 5 y := rfl
@[simp] theorem q145 {x r} : getS (x :: r) 7 = getS r 6 := rfl
@[simp] theorem q146 {x y r} : setS (x :: r) 7 y = x :: setS r 6 y := rfl
@[simp] theorem q147 {x r} : getS (x :: r) 8 = getS r 7 := rfl
@[simp] theorem q148 {x y r} : setS (x :: r) 8 y = x :: setS r 7 y := rfl
@[simp] theorem q149 {x r} : getS (x :: r) 9 = getS r 8 := rfl
@[simp] theorem q150 {x y r} : setS (x :: r) 9 y = x :: setS r 8 y := rfl
@[simp] theorem q151 {x r} : getS (x :: r) 10 = getS r 9 := rfl
@[simp] theorem q152 {x y r} : setS (x :: r) 10 y = x :: setS r 9 y := rfl
@[simp] theorem q153 {x r} : getS (x :: r) 11 = getS r 10 := rfl
@[simp] theorem q154 {x y r} : setS (x :: r) 11 y = x :: setS r 10 y := rfl
@[simp] theorem q155 {x r} : getS (x :: r) 12 = getS r 11 := rfl
@[simp] theorem q156 {x y r} : setS (x :: r) 12 y = x :: setS r 11 y := rfl
@[simp] theorem q157 {x r} : getS (x :: r) 13 = getS r 12 := rfl
@[simp] theorem q158 {x y r} : setS (x :: r) 13 y = x :: setS r 12 y := rfl
@[simp] theorem q159 {x r} : getS (x :: r) 14 = getS r 13 := rfl
@[simp] theorem q160 {x y r} : setS (x :: r) 14 y = x :: setS r 13 y := rfl
@[simp] theorem q161 {x r} : getS (x :: r) 15 = getS r 14 := rfl
@[simp] theorem q162 {x y r} : setS (x :: r) 15 y = x :: setS r 14 y := rfl
@[simp] theorem q163 {x r} : getS (x :: r) 16 = getS r 15 := rfl
@[simp] theorem q164 {x y r} : setS (x :: r) 16 y = x :: setS r 15 y := rfl
@[simp] theorem q165 {x r} : getS (x :: r) 17 = getS r 16 := rfl
@[simp] theorem q166 {x y r} : setS (x :: r) 17 y = x :: setS r 16 y := rfl
@[simp] theorem q167 {x r} : getS (x :: r) 18 = getS r 17 := rfl
@[simp] theorem q168 {x y r} : setS (x :: r) 18 y = x :: setS r 17 y := rfl
@[simp] theorem q169 {x r} : getS (x :: r) 19 = getS r 18 := rfl
@[simp] theorem q170 {x y r} : setS (x :: r) 19 y = x :: setS r 18 y := rfl
@[simp] theorem q171 {x r} : getS (x :: r) 20 = getS r 19 := rfl
@[simp] theorem q172 {x y r} : setS (x :: r) 20 y = x :: setS r 19 y := rfl
@[simp] theorem q173 {x r} : getS (x :: r) 21 = getS r 20 := rfl
@[simp] theorem q174 {x y r} : setS (x :: r) 21 y = x :: setS r 20 y := rfl
@[simp] theorem q175 {x r} : getS (x :: r) 22 = getS r 21 := rfl
@[simp] theorem q176 {x y r} : setS (x :: r) 22 y = x :: setS r 21 y := rfl
@[simp] theorem q177 {x r} : getS (x :: r) 23 = getS r 22 := rfl
@[simp] theorem q178 {x y r} : setS (x :: r) 23 y = x :: setS r 22 y := rfl
@[simp] theorem q179 {x r} : getS (x :: r) 24 = getS r 23 := rfl
@[simp] theorem q180 {x y r} : setS (x :: r) 24 y = x :: setS r 23 y := rfl
@[simp] theorem q181 {x r} : getS (x :: r) 25 = getS r 24 := rfl
@[simp] theorem q182 {x y r} : setS (x :: r) 25 y = x :: setS r 24 y := rfl
@[simp] theorem q183 {x r} : getS (x :: r) 26 = getS r 25 := rfl
@[simp] theorem q184 {x y r} : setS (x :: r) 26 y = x :: setS r 25 y := rfl
@[simp] theorem q185 {x r} : getS (x :: r) 27 = getS r 26 := rfl
@[simp] theorem q186 {x y r} : setS (x :: r) 27 y = x :: setS r 26 y := rfl
@[simp] theorem q187 {x r} : getS (x :: r) 28 = getS r 27 := rfl
@[simp] theorem q188 {x y r} : setS (x :: r) 28 y = x :: setS r 27 y := rfl
@[simp] theorem q189 {x r} : getS (x :: r) 29 = getS r 28 := rfl
@[simp] theorem q190 {x y r} : setS (x :: r) 29 y = x :: setS r 28 y := rfl
@[simp] theorem q191 {x r} : getS (x :: r) 30 = getS r 29 := rfl
@[simp] theorem q192 {x y r} : setS (x :: r) 30 y = x :: setS r 29 y := rfl
@[simp] theorem q193 {x r} : getS (x :: r) 31 = getS r 30 := rfl
@[simp] theorem q194 {x y r} : setS (x :: r) 31 y = x :: setS r 30 y := rfl
@[simp] theorem q195 {x r} : getS (x :: r) 32 = getS r 31 := rfl
@[simp] theorem q196 {x y r} : setS (x :: r) 32 y = x :: setS r 31 y := rfl
@[simp] theorem q197 {x r} : getS (x :: r) 33 = getS r 32 := rfl
@[simp] theorem q198 {x y r} : setS (x :: r) 33 y = x :: setS r 32 y := rfl
@[simp] theorem q199 {x r} : getS (x :: r) 34 = getS r 33 := rfl
@[simp] theorem q200 {x y r} : setS (x :: r) 34 y = x :: setS r 33 y := rfl
@[simp] theorem q201 {x r} : getS (x :: r) 35 = getS r 34 := rfl
@[simp] theorem q202 {x y r} : setS (x :: r) 35 y = x :: setS r 34 y := rfl
@[simp] theorem q203 {x r} : getS (x :: r) 36 = getS r 35 := rfl
@[simp] theorem q204 {x y r} : setS (x :: r) 36 y = x :: setS r 35 y := rfl
@[simp] theorem q205 {x r} : getS (x :: r) 37 = getS r 36 := rfl
@[simp] theorem q206 {x y r} : setS (x :: r) 37 y = x :: setS r 36 y := rfl
@[simp] theorem q207 {x r} : getS (x :: r) 38 = getS r 37 := rfl
@[simp] theorem q208 {x y r} : setS (x :: r) 38 y = x :: setS r 37 y := rfl
@[simp] theorem q209 {x r} : getS (x :: r) 39 = getS r 38 := rfl
@[simp] theorem q210 {x y r} : setS (x :: r) 39 y = x :: setS r 38 y := rfl
@[simp] theorem q211 : Sl.d? .non = none := rfl
@[simp] theorem q212 : Sl.d? (.fr d) = some d := rfl
@[simp] theorem q213 : Sl.d? (.ow d) = some d := rfl
@[simp] theorem q214 : Sl.d? (.lk d) = some d := rfl
@[simp] theorem q215 : asgT (.nm i) d e = some (setS e i (.fr d)) := rfl
@[simp] theorem q216 {ts ds} : asgT (.tup ts) (.tup ds) e = asgTs ts ds e := rfl
@[simp] theorem q217 : asgTs [] [] e = some e := rfl
@[simp] theorem q218 {t ts ds} : asgTs (t :: ts) (d :: ds) e = match asgT t d e with | some e' => asgTs ts ds e' | none => none := rfl
@[simp] theorem q219 {t ts} : asgTs (t :: ts) [] e = none := rfl
@[simp] theorem q220 {ds} : asgTs [] (d :: ds) e = none := rfl
@[simp] theorem q221 : isOw .non = false := rfl
@[simp] theorem q222 : isOw (.fr d) = false := rfl
@[simp] theorem q223 : isOw (.ow d) = true := rfl
@[simp] theorem q224 : isOw (.lk d) = false := rfl
@[simp] theorem q225 {vs t} : asgW vs t d e = asgT t d (wipeS e vs) := rfl
@[simp] theorem q226 {i} : tvars (.nm i) = [i] := rfl
@[simp] theorem q227 {ts} : tvars (.tup ts) = tvarss ts := rfl
@[simp] theorem q228 : tvarss [] = [] := rfl
@[simp] theorem q229 {t ts} : tvarss (t :: ts) = tvars t ++ tvarss ts := rfl
@[simp] theorem q230 : wipeS e [] = e := rfl
@[simp] theorem q231 {v vs} : wipeS e (v :: vs) = setS (wipeS e vs) v .non := rfl
@[simp] theorem q232 : restS e e0 [] = e := rfl
@[simp] theorem q233 {v vs} : restS e e0 (v :: vs) = setS (restS e e0 vs) v (getS e0 v) := rfl
@[simp] theorem q234 {r : RE} : r.truth = r.bdT fun f d e => onT ((late f d e).bind truthy) fun b => .ok b e := rfl
@[simp] theorem q235 {tgt tst elt acc} : lcGo tgt tst elt [] e acc = .ok acc e := rfl
@[simp] theorem q236 {tgt tst inner acc} : lc2Go tgt tst inner [] e acc = .ok acc e := rfl
@[simp] theorem q237 {tgt tst k v ks vs} : dcGo tgt tst k v [] e ks vs = .ok ks vs e := rfl
@[simp] theorem q238 : muIsDict .setdefault = true := rfl
@[simp] theorem q239 : muIsDict .append = false := rfl
@[simp] theorem q240 : muIsDict .extend = false := rfl
@[simp] theorem q241 : muIsDict .pop = false := rfl
@[simp] theorem q242 : muIsDict .popAt = false := rfl
@[simp] theorem q243 : muIsDict .insert = false := rfl
@[simp] theorem q244 : muIsDict .reverse = false := rfl
@[simp] theorem q245 : muIsDict .remove = false := rfl
@[simp] theorem q246 {m ds} : slotFits m (.ow (.lst ds)) = !muIsDict m := rfl
@[simp] theorem q247 {m ks vs} : slotFits m (.ow (.dct ks vs)) = (muIsDict m && ks.all keyLeaf) := rfl
@[simp] theorem q248 : owOf (.ow d) = some d := rfl
@[simp] theorem q249 : owOf (.fr d) = none := rfl
@[simp] theorem q250 : owOf (.lk d) = none := rfl
@[simp] theorem q251 : owOf .non = none := rfl
@[simp] theorem q252 : frOf (.fr d) = some d := rfl
@[simp] theorem q253 : frOf (.ow d) = none := rfl
@[simp] theorem q254 : lockOf .fr = [] := rfl
@[simp] theorem q255 : lockOf .ow = [] := rfl
@[simp] theorem q256 : lockOf (.pl i) = [i] := rfl
@[simp] theorem q257 : varE i e (.fr d) = .ok .fr d e := rfl
@[simp] theorem q258 : varE i e (.ow d) = .ok .fr d (setS e i (.fr d)) := rfl
@[simp] theorem q259 : lockAll [] e = e := rfl
@[simp] theorem q260 {a ls} : lockAll (a :: ls) e = lockAll ls (lockS e a) := rfl
@[simp] theorem q261 {ls} : unlockAll ls e0 e = (ls.filter fun i => isOw (getS e0 i)).foldl unlockS e := rfl
@[simp] theorem q262 : lockS e i = match getS e i with | .ow d => setS e i (.lk d) | _ => e := rfl
@[simp] theorem q263 : unlockS e i = match getS e i with | .lk d => setS e i (.ow d) | _ => e := rfl
@[simp] theorem q264 {r} : primE e r = onE r fun q => .ok (flOf q.1) q.2 e := rfl
@[simp] theorem q265 {vs k} : storedE vs k = onE (PF.stored vs) k := rfl
@[simp] theorem q266 {vs o outs} : callE vs e (.ok o d outs) = onE (back vs outs e) fun e2 => .ok (flOf o) d e2 := rfl
@[simp] theorem q267 {vs x outs} : callE vs e (.ex x outs) = onE (back vs outs e) fun e2 => .ex x e2 := rfl
@[simp] theorem q268 {vs} : callE vs e .st = .st := rfl
@[simp] theorem q269 {m ds} : muE m i e ds = onE (owOf (getS e i)) fun d => onE (muD m d ds) fun q => .ok .fr q.2 (setS e i (.ow q.1)) := rfl
@[simp] theorem q270 {b k} : boolE (some (.bl b)) k = k b := rfl
@[simp] theorem q271 {i k} : intE (some (.int i)) k = k i := rfl
@[simp] theorem q272 {a b c} : ev Φ γ (.sl a b c) e = (ev Φ γ a e).bd fun fa da e1 => (ev Φ γ b e1).bd fun fb db e2 => intE (late fb db e2) fun i => (ev Φ γ c e2).bd fun fc dc e3 => intE (late fc dc e3) fun j => onE (late fa da e3) fun x => primE e3 (cutD x (some i) (some j)) := rfl
@[simp] theorem q273 {ds} : seqI f e (some (.lst ds)) = .ok ds (lockOf f) e := rfl
@[simp] theorem q274 {ds} : seqI f e (some (.tup ds)) = .ok ds [] e := rfl
@[simp] theorem q275 {z} : seqI f e (some (.str z)) = .ok (z.cps.toList.map fun c => .str ⟨#[c]⟩) [] e := rfl
@[simp] theorem q276 {j} : rng1I e (some (.int j)) = if decide (-(2 ^ 62) ≤ j) && decide (j < 2 ^ 62) then .ok ((List.range j.toNat).map fun (k : Nat) => D.int (k : Int)) [] e else .st := rfl
@[simp] theorem q277 {i j} : rng2I e (some [.int i, .int j]) = if decide (-(2 ^ 62) ≤ i) && decide (i < 2 ^ 62) && decide (-(2 ^ 62) ≤ j) && decide (j < 2 ^ 62) then .ok ((List.range (j - i).toNat).map fun (k : Nat) => D.int (i + (k : Int))) [] e else .st := rfl
@[simp] theorem q278 {ls xs ys} : zipI ls e (some [.lst xs, .lst ys]) = .ok (zipD xs ys) ls e := rfl
@[simp] theorem q279 {ls xs ys} : zipI ls e (some [.tup xs, .tup ys]) = .ok (zipD xs ys) [] e := rfl
@[simp] theorem q280 {xs} : enumI f e (some (.lst xs)) = .ok (enumD xs) (lockOf f) e := rfl
@[simp] theorem q281 {ks vs} : itemsI f e (some (.dct ks vs)) = .ok (List.zipWith (fun k v => .tup [k, v]) ks vs) (lockOf f) e := rfl
@[simp] theorem q282 {ks vs b c} : getD3 (.dct ks vs) b c = if keyOk b ks then some ((dGet b ks vs).getD c) else none := rfl
@[simp] theorem q283 : glE e (some d) = .ok .fr d e := rfl
@[simp] theorem q284 {ds} : seq? (.tup ds) = some ds := rfl
@[simp] theorem q285 {ds} : seq? (.lst ds) = some ds := rfl
@[simp] theorem q286 : ev Φ γ (.var i) e = varE i e (getS e i) := rfl
@[simp] theorem q287 : ev Φ γ (.pk i) e = onE (getS e i).d? fun d => .ok (.pl i) d e := rfl
@[simp] theorem q288 : ev Φ γ (.lit d) e = .ok .fr d e := rfl
@[simp] theorem q289 {x} : ev Φ γ (.gl x) e = glE e (γ x) := rfl
@[simp] theorem q290 {es} : ev Φ γ (.tup es) e = (evs Φ γ es e).bd fun vs e1 => storedE vs fun ds => if ds.length ≤ sizeLine then .ok .fr (.tup ds) e1 else .st := rfl
@[simp] theorem q291 {es} : ev Φ γ (.lst es) e = (evs Φ γ es e).bd fun vs e1 => storedE vs fun ds => if ds.length ≤ sizeLine then .ok .ow (.lst ds) e1 else .st := rfl
@[simp] theorem q292 : ev Φ γ .dnew e = .ok .ow (.dct [] []) e := rfl
@[simp] theorem q293 {p es} : ev Φ γ (.op p es) e = (evs Φ γ es e).bd fun vs e1 => onE (lates vs e1) fun ds => primE e1 (prim p ds) := rfl
@[simp] theorem q294 {c es} : ev Φ γ (.boo c es) e = evB Φ γ c es e := rfl
@[simp] theorem q295 {a} : ev Φ γ (.not_ a) e = (ev Φ γ a e).bd fun f d e1 => boolE (late f d e1) fun b => .ok .fr (.bl (!b)) e1 := rfl
@[simp] theorem q296 {c a b} : ev Φ γ (.ife c a b) e = (ev Φ γ c e).truth.bd fun t e1 => if t then ev Φ γ a e1 else ev Φ γ b e1 := rfl
@[simp] theorem q297 {a b c} : ev Φ γ (.get a b c) e = (ev Φ γ a e).bd fun f1 d1 e1 => if isDct (late f1 d1 e1) then (ev Φ γ b e1).bd fun f2 d2 e2 => (ev Φ γ c e2).bd fun f3 d3 e3 => getE f1 d1 f2 d2 f3 d3 e3 else .st := rfl
@[simp] theorem q298 {f1 d1 f2 d2 d3} : getE f1 d1 f2 d2 .fr d3 e = onE (late f1 d1 e) fun a => onE (late f2 d2 e) fun b => onE (getD3 a b d3) fun r => .ok .fr r e := rfl
@[simp] theorem q299 {ks vs} : isDct (some (.dct ks vs)) = true := rfl
@[simp] theorem q300 {p a b} : ev Φ γ (.met p a b) e = (ev Φ γ a e).bd fun f1 d1 e1 => if isMet p && recvK p (late f1 d1 e1) != 0 then (ev Φ γ b e1).bd fun f2 d2 e2 => metE p (recvK p (late f1 d1 e1)) f1 d1 f2 d2 e2 else .st := rfl
@[simp] theorem q301 {p r f1 d1 f2 d2} : metE p r f1 d1 f2 d2 e = if recvK p (late f1 d1 e) == r then onE (late f1 d1 e) fun a => onE (late f2 d2 e) fun b => primE e (prim p [a, b]) else .st := rfl
@[simp] theorem q302 {p ds} : recvK p (some (.lst ds)) = 1 := rfl
@[simp] theorem q303 {z} : recvK .index (some (.str z)) = 2 := rfl
@[simp] theorem q304 : isMet .index = true := rfl
@[simp] theorem q305 : isMet .count = true := rfl
@[simp] theorem q306 {g es} : ev Φ γ (.call g es) e = (evs Φ γ es e).bd fun vs e1 => if nodupN (places vs) then callE vs e1 (Φ g (lend vs e1)) else .st := rfl
@[simp] theorem q307 {m es} : ev Φ γ (.mu m i es) e = if slotFits m (getS e i) then (evs Φ γ es e).bd fun vs e1 => storedE vs fun ds => muE m i e1 ds else .st := rfl
@[simp] theorem q308 {vs t it ifs elt} : ev Φ γ (.lc vs t it ifs elt) e = (evI Φ γ it e).bd fun ds ls e1 =>
      (lcGo (asgW vs t) (evTs Φ γ ifs) (ev Φ γ elt) ds (lockAll ls e1) []).bd fun acc e2 => .ok .ow (.lst acc) (unlockAll ls e1 (restS e2 (lockAll ls e1) vs)) := rfl
@[simp] theorem q309 {vs t it ifs t2 it2 ifs2 elt} : ev Φ γ (.lc2 vs t it ifs t2 it2 ifs2 elt) e = (evI Φ γ it e).bd fun ds ls e1 =>
      (lc2Go (asgW vs t) (evTs Φ γ ifs) (fun e3 acc => (evI Φ γ it2 e3).bdL fun ds2 ls2 e4 =>
          (lcGo (asgW (tvars t2) t2) (evTs Φ γ ifs2) (ev Φ γ elt) ds2 (lockAll ls2 e4) acc).bdL fun acc' e5 => .ok acc' (unlockAll ls2 e4 e5)) ds (lockAll ls e1) []).bd
        fun acc e2 => .ok .ow (.lst acc) (unlockAll ls e1 (restS e2 (lockAll ls e1) vs)) := rfl
@[simp] theorem q310 {vs t it ifs k v} : ev Φ γ (.dc vs t it ifs k v) e = (evI Φ γ it e).bd fun ds ls e1 =>
      (dcGo (asgW vs t) (evTs Φ γ ifs) (ev Φ γ k) (ev Φ γ v) ds (lockAll ls e1) [] []).bd fun ks ws e2 => .ok .ow (.dct ks ws) (unlockAll ls e1 (restS e2 (lockAll ls e1) vs)) := rfl
@[simp] theorem q311 : evs Φ γ [] e = .ok [] e := rfl
@[simp] theorem q312 {a r} : evs Φ γ (a :: r) e = (ev Φ γ a e).bds fun f d e1 => (evs Φ γ r e1).bds fun vs e2 => .ok ((f, d) :: vs) e2 := rfl
@[simp] theorem q313 {c a} : evB Φ γ c [a] e = ev Φ γ a e := rfl
@[simp] theorem q314 {c a b r} : evB Φ γ c (a :: b :: r) e = (ev Φ γ a e).bd fun f d e1 => boolE (late f d e1) fun q => if q = c then evB Φ γ c (b :: r) e1 else .ok .fr (.bl q) e1 := rfl
@[simp] theorem q315 : evTs Φ γ [] e = .ok true e := rfl
@[simp] theorem q316 {a} : evTs Φ γ [a] e = (ev Φ γ a e).truth := rfl
@[simp] theorem q317 {a} : evI Φ γ (.seq a) e = (ev Φ γ a e).bdI fun f d e1 => seqI f e1 (late f d e1) := rfl
@[simp] theorem q318 {a} : evI Φ γ (.rng1 a) e = (ev Φ γ a e).bdI fun f d e1 => rng1I e1 (late f d e1) := rfl
@[simp] theorem q319 {es} : evI Φ γ (.rng2 es) e = (evs Φ γ es e).bdI fun vs e1 => rng2I e1 (lates vs e1) := rfl
@[simp] theorem q320 {es} : evI Φ γ (.zip es) e = (evs Φ γ es e).bdI fun vs e1 => zipI (places vs) e1 (lates vs e1) := rfl
@[simp] theorem q321 {a} : evI Φ γ (.enum a) e = (ev Φ γ a e).bdI fun f d e1 => enumI f e1 (late f d e1) := rfl
@[simp] theorem q322 {a} : evI Φ γ (.items a) e = (ev Φ γ a e).bdI fun f d e1 => itemsI f e1 (late f d e1) := rfl
@[simp] theorem q323 {m} : evT Φ γ m e = (ev Φ γ m e).truth := rfl
@[simp] theorem q324 {tgt body} : forGo tgt body [] e = .nx e := rfl
@[simp] theorem q325 : slOf true d = .ow d := rfl
@[simp] theorem q326 : slOf false d = .fr d := rfl
@[simp] theorem q327 {fk dk} : setIS i d fk dk e = onS (late fk dk e) fun k => onS (owOf (getS e i)) fun x => if keyFl fk x then onS (setD x k d) fun x' => .nx (setS e i (.ow x')) else .st := rfl
@[simp] theorem q328 : keyFl .fr d = true := rfl
@[simp] theorem q329 {ds} : keyFl (.pl i) (.lst ds) = true := rfl
@[simp] theorem q330 {ds} : keyFl .ow (.lst ds) = true := rfl
@[simp] theorem q331 {fk dk} : delIS i fk dk e = onS (late fk dk e) fun k => onS (owOf (getS e i)) fun x => onS (delD x k) fun x' => .nx (setS e i (.ow x')) := rfl
@[simp] theorem q332 : augS i e (some (false, .int n)) = .nx (setS e i (.fr (.int n))) := rfl
@[simp] theorem q333 : retVS i e (.fr d) = .rt false d e := rfl
@[simp] theorem q334 : retVS i e (.ow d) = .rt true d (setS e i .non) := rfl
@[simp] theorem q335 : frzS i e (.fr d) = .nx e := rfl
@[simp] theorem q336 : frzS i e (.ow d) = .nx (setS e i (.fr d)) := rfl
@[simp] theorem q337 {a} : exec Φ γ (.asg i a) e = (ev Φ γ a e).bdS fun f d e1 => keepS f fun o => .nx (setS e1 i (slOf o d)) := rfl
@[simp] theorem q338 {t a} : exec Φ γ (.asgT t a) e = (ev Φ γ a e).bdS fun f d e1 => keepS f fun _ => onS (asgT t d e1) fun e2 => .nx e2 := rfl
@[simp] theorem q339 {k a} : exec Φ γ (.setI i k a) e = (ev Φ γ a e).bdS fun f d e1 => keepS f fun _ => onS (owOf (getS e1 i)) fun _ => (ev Φ γ k e1).bdS fun fk dk e2 => setIS i d fk dk e2 := rfl
@[simp] theorem q340 {k} : exec Φ γ (.delI i k) e = (ev Φ γ k e).bdS fun fk dk e2 => delIS i fk dk e2 := rfl
@[simp] theorem q341 {p a} : exec Φ γ (.aug i p a) e = onS (frOf (getS e i)) fun d0 => (ev Φ γ a e).bdS fun f d e1 => onS (late f d e1) fun d1 => augS i e1 (prim p [d0, d1]) := rfl
@[simp] theorem q342 {a} : exec Φ γ (.ex a) e = (ev Φ γ a e).bdS fun _ _ e1 => .nx e1 := rfl
@[simp] theorem q343 {a} : exec Φ γ (.ret a) e = (ev Φ γ a e).bdS fun f d e1 => keepS f fun o => .rt o d e1 := rfl
@[simp] theorem q344 : exec Φ γ (.retV i) e = retVS i e (getS e i) := rfl
@[simp] theorem q345 : exec Φ γ .retN e = .rt false .non e := rfl
@[simp] theorem q346 {c a b} : exec Φ γ (.iff c a b) e = (evT Φ γ c e).bdS fun t e1 => if t then execs Φ γ a e1 else execs Φ γ b e1 := rfl
@[simp] theorem q347 {t it b} : exec Φ γ (.for_ t it b) e = (evI Φ γ it e).bdS fun ds ls e1 => (forGo (asgT t) (execs Φ γ b) ds (lockAll ls e1)).env (unlockAll ls e1) := rfl
@[simp] theorem q348 {c b} : exec Φ γ (.whl c b) e = whlGo (evT Φ γ c) (execs Φ γ b) turnsMost e := rfl
@[simp] theorem q349 : exec Φ γ .brk e = .bk e := rfl
@[simp] theorem q350 : exec Φ γ .cnt e = .ct e := rfl
@[simp] theorem q351 : exec Φ γ .pas e = .nx e := rfl
@[simp] theorem q352 : exec Φ γ .bad e = .st := rfl
@[simp] theorem q353 : exec Φ γ (.frz i) e = frzS i e (getS e i) := rfl
@[simp] theorem q354 : execs Φ γ [] e = .nx e := rfl
@[simp] theorem q355 {t r} : execs Φ γ (t :: r) e = (exec Φ γ t e).bd (execs Φ γ r) := rfl
@[simp] theorem q356 {refs j} : outsFrom refs j 0 e = [] := rfl
@[simp] theorem q357 {refs j n} : outsFrom refs j (n + 1) e = (if refs.contains j then getS e j else .non) :: outsFrom refs (j + 1) n e := rfl
@[simp] theorem q358 {refs n} : outsOf refs n e = outsFrom refs 0 n e := rfl
@[simp] theorem q359 {refs n as} : RS.out refs n as (.nx e) = .ok false .non (outsOf refs n e) := rfl
@[simp] theorem q360 {refs n as o} : RS.out refs n as (.rt o d e) = .ok (o && keptO refs as e) d (outsOf refs n e) := rfl
@[simp] theorem q361 {refs n as x} : RS.out refs n as (.ex x e) = .ex x (outsOf refs n e) := rfl
@[simp] theorem q362 {refs as} : keptO refs as e = refs.all fun j => !isOwn (getS as j) || isOwn (getS e j) := rfl
@[simp] theorem q363 {refs j} : argsOk refs j [] = true := rfl
@[simp] theorem q364 {refs j x r} : argsOk refs j (x :: r) = ((refs.contains j || !isOwn x) && argsOk refs (j + 1) r) := rfl
@[simp] theorem q365 : isOwn (.fr d) = false := rfl
@[simp] theorem q366 : isOwn (.ow d) = true := rfl
@[simp] theorem q367 : isOwn (.lk d) = true := rfl
@[simp] theorem q368 : isOwn .non = false := rfl
@[simp] theorem q369 : truthy .non = some false := rfl
@[simp] theorem q370 {b} : truthy (.bl b) = some b := rfl
@[simp] theorem q371 {z} : truthy (.int z) = some (z != 0) := rfl
@[simp] theorem q372 {ds} : truthy (.tup ds) = some (!ds.isEmpty) := rfl
@[simp] theorem q373 {ds} : truthy (.lst ds) = some (!ds.isEmpty) := rfl
@[simp] theorem q374 {z} : truthy (.str z) = if z.length ≤ sizeLine then some (z.length != 0) else none := rfl
@[simp] theorem q375 (a : D) (b : D) : prim (.add) [a, b] = pAdd a b := rfl
@[simp] theorem q376 (a : D) (b : D) : prim (.sub) [a, b] = pII (fun i j => some (i - j)) a b := rfl
@[simp] theorem q377 (a : D) (b : D) : prim (.mul) [a, b] = pMul a b := rfl
@[simp] theorem q378 (a : D) (b : D) : prim (.fdiv) [a, b] = pII pFdiv a b := rfl
@[simp] theorem q379 (a : D) (b : D) : prim (.mod) [a, b] = pII pMod a b := rfl
@[simp] theorem q380 (a : D) (b : D) : prim (.pow) [a, b] = pII pPow a b := rfl
@[simp] theorem q381 (a : D) (b : D) : prim (.bor) [a, b] = pII (fun i j => some (Builtin.bitOr i j)) a b := rfl
@[simp] theorem q382 (a : D) (b : D) : prim (.shl) [a, b] = pII pShl a b := rfl
@[simp] theorem q383 (a : D) : prim (.neg) [a] = pNeg a := rfl
@[simp] theorem q384 (a : D) (b : D) : prim (.eq) [a, b] = pEq false a b := rfl
@[simp] theorem q385 (a : D) (b : D) : prim (.ne) [a, b] = pEq true a b := rfl
@[simp] theorem q386 (a : D) (b : D) : prim (.lt) [a, b] = pLt false a b := rfl
@[simp] theorem q387 (a : D) (b : D) : prim (.ge) [a, b] = pLt true a b := rfl
@[simp] theorem q388 (a : D) (b : D) : prim (.gt) [a, b] = pLt false b a := rfl
@[simp] theorem q389 (a : D) (b : D) : prim (.le) [a, b] = pLt true b a := rfl
@[simp] theorem q390 (a : D) (b : D) : prim (.isIn) [a, b] = pIn false a b := rfl
@[simp] theorem q391 (a : D) (b : D) : prim (.notIn) [a, b] = pIn true a b := rfl
@[simp] theorem q392 (a : D) : prim (.isN) [a] = ob (decide (a = .non)) := rfl
@[simp] theorem q393 (a : D) : prim (.notN) [a] = ob (!decide (a = .non)) := rfl
@[simp] theorem q394 (a : D) (i : D) : prim (.idx) [a, i] = pIdx a i := rfl
@[simp] theorem q395 (a : D) (i : D) : prim (.slLo) [a, i] = pCut (oI i) (some none) a := rfl
@[simp] theorem q396 (a : D) (i : D) : prim (.slHi) [a, i] = pCut (some none) (oI i) a := rfl
@[simp] theorem q397 (a : D) (i : D) (j : D) : prim (.slLoHi) [a, i, j] = pCut (oI i) (oI j) a := rfl
@[simp] theorem q398 (a : D) : prim (.len) [a] = pLen a := rfl
@[simp] theorem q399 (a : D) : prim (.toInt) [a] = pInt a := rfl
@[simp] theorem q400 (a : D) : prim (.toStr) [a] = pStr a := rfl
@[simp] theorem q401 (a : D) : prim (.abs) [a] = pAbs a := rfl
@[simp] theorem q402 (a : D) (b : D) : prim (.min2) [a, b] = pII (fun i j => some (if j < i then j else i)) a b := rfl
@[simp] theorem q403 (a : D) (b : D) : prim (.max2) [a, b] = pII (fun i j => some (if j > i then j else i)) a b := rfl
@[simp] theorem q404 (a : D) (b : D) : prim (.gcd) [a, b] = pII (fun i j => some ((i.natAbs.gcd j.natAbs : Nat) : Int)) a b := rfl
@[simp] theorem q405 (a : D) (b : D) : prim (.lcm) [a, b] = pII pLcm a b := rfl
@[simp] theorem q406 (a : D) : prim (.min1) [a] = pBest min none a := rfl
@[simp] theorem q407 (a : D) : prim (.max1) [a] = pBest max none a := rfl
@[simp] theorem q408 (a : D) : prim (.min1n) [a] = pBest min (some .non) a := rfl
@[simp] theorem q409 (a : D) : prim (.sum) [a] = pSum a := rfl
@[simp] theorem q410 (a : D) : prim (.sorted) [a] = pSorted a := rfl
@[simp] theorem q411 (a : D) : prim (.sortedSet) [a] = pSortedSet a := rfl
@[simp] theorem q412 (a : D) : prim (.lenSet) [a] = pLenSet a := rfl
@[simp] theorem q413 (a : D) : prim (.tuple) [a] = pTuple a := rfl
@[simp] theorem q414 (a : D) : prim (.list) [a] = pList a := rfl
@[simp] theorem q415 (a : D) : prim (.all) [a] = pAll (·.all id) a := rfl
@[simp] theorem q416 (a : D) : prim (.any) [a] = pAll (·.any id) a := rfl
@[simp] theorem q417 (a : D) (ts : List Ty) : prim (.isinst ts) [a] = pIsi ts a := rfl
@[simp] theorem q418 (a : D) (b : D) : prim (.join) [a, b] = pJoin a b := rfl
@[simp] theorem q419 (a : D) (b : D) : prim (.index) [a, b] = pIndexS a b := rfl
@[simp] theorem q420 (a : D) (b : D) : prim (.count) [a, b] = pCount a b := rfl
@[simp] theorem q421 (a : D) : prim (.dict) [a] = pDict a := rfl
@[simp] theorem q422 {i : Int} {j : Int} : pAdd (.int i) (.int j) = some (false, .int (i + j)) := rfl
@[simp] theorem q423 {x : Str} {y : Str} : pAdd (.str x) (.str y) = if x.length + y.length ≤ sizeLine then some (false, .str (x ++ y)) else none := rfl
@[simp] theorem q424 {x : List D} {y : List D} : pAdd (.tup x) (.tup y) = if x.length + y.length ≤ sizeLine then some (false, .tup (x ++ y)) else none := rfl
@[simp] theorem q425 {x : List D} {y : List D} : pAdd (.lst x) (.lst y) = if x.length + y.length ≤ sizeLine then some (true, .lst (x ++ y)) else none := rfl
@[simp] theorem q426 {f : Int → Int → Option Int} {i : Int} {j : Int} : pII f (.int i) (.int j) = (f i j).map fun k => (false, .int k) := rfl
@[simp] theorem q427 {i : Int} {j : Int} : pMul (.int i) (.int j) = if mulOk i j then some (false, .int (i * j)) else none := rfl
@[simp] theorem q428 {x : List D} {j : Int} : pMul (.tup x) (.int j) = if j = 1 ∧ x ≠ [] then some (false, .tup x) else if decide (2 ≤ j) && decide (j ≤ 1000) && decide (x ≠ []) && decide (x.length ≤ 1000) then some (false, .tup (List.replicate j.toNat x).flatten) else none := rfl
@[simp] theorem q429 {x : Str} {j : Int} : pMul (.str x) (.int j) = if decide (-(2 ^ 62) ≤ j) && decide (j < 2 ^ 62) && decide (x.length * j.toNat ≤ sizeLine) then some (false, .str ⟨(List.replicate j.toNat x.cps.toList).flatten.toArray⟩) else none := rfl
@[simp] theorem q430 {i : Int} : pNeg (.int i) = some (false, .int (-i)) := rfl
@[simp] theorem q431 {neg : Bool} {x : D} {ds : List D} : pIn neg (x) (.tup ds) = (pyIn x ds).bind fun b => ob (if neg then !b else b) := by first | rfl | (cases x <;> rfl)
@[simp] theorem q432 {neg : Bool} {x : D} {ds : List D} : pIn neg (x) (.lst ds) = (pyIn x ds).bind fun b => ob (if neg then !b else b) := by first | rfl | (cases x <;> rfl)
@[simp] theorem q433 {neg : Bool} {x : D} {ks : List D} {vs : List D} : pIn neg (x) (.dct ks vs) = if keyOk x ks then ob (if neg then !dHas x ks else dHas x ks) else none := by first | rfl | (cases x <;> rfl)
@[simp] theorem q434 {neg : Bool} {x : Str} {y : Str} : pIn neg (.str x) (.str y) = ob (if neg then !strIn x y else strIn x y) := by first | rfl | (cases x <;> rfl)
@[simp] theorem q435 {ks : List D} {vs : List D} {k : D} : pIdx (.dct ks vs) (k) = if keyOk k ks then (dGet k ks vs).map fun v => (false, v) else none := rfl
@[simp] theorem q436 {ds : List D} {i : D} : pIdx (.tup ds) i = (idxD (.tup ds) i).map fun v => (false, v) := rfl
@[simp] theorem q437 {ds : List D} {i : D} : pIdx (.lst ds) i = (idxD (.lst ds) i).map fun v => (false, v) := rfl
@[simp] theorem q438 {s : Str} {i : D} : pIdx (.str s) i = (idxD (.str s) i).map fun v => (false, v) := rfl
@[simp] theorem q439 {s : Str} : pLen (.str s) = if s.length ≤ sizeLine then some (false, .int s.length) else none := rfl
@[simp] theorem q440 {ds : List D} : pLen (.tup ds) = some (false, .int ds.length) := rfl
@[simp] theorem q441 {ds : List D} : pLen (.lst ds) = some (false, .int ds.length) := rfl
@[simp] theorem q442 {ks : List D} {vs : List D} : pLen (.dct ks vs) = some (false, .int ks.length) := rfl
@[simp] theorem q443 {i : Int} : pInt (.int i) = some (false, .int i) := rfl
@[simp] theorem q444 {b : Bool} : pInt (.bl b) = some (false, .int (if b then 1 else 0)) := rfl
@[simp] theorem q445 {s : Str} : pInt (.str s) = if s.length ≤ 640 then (PySem.intText? s).map fun n => (false, .int n) else none := rfl
@[simp] theorem q446 {i : Int} : pStr (.int i) = if i.natAbs.log2 < 1920 then some (false, .str (toString i)) else none := rfl
@[simp] theorem q447 {i : Int} : pAbs (.int i) = some (false, .int (if i < 0 then -i else i)) := rfl
@[simp] theorem q448 {s : Str} {ds : List D} : pJoin (.str s) (.lst ds) = (strs? ds).bind fun xs => if (xs.map (·.length)).sum + xs.length * s.length ≤ 16777216 then some (false, .str (Txt.join s xs)) else none := rfl
@[simp] theorem q449 {neg a b} : pEq neg a b = if eqOk a b then ob (if neg then !D.eq a b else D.eq a b) else if dEqOk a b then ob (if neg then !dEqB a b else dEqB a b) else none := rfl
@[simp] theorem q450 {neg a b} : pLt neg a b = if ltOk a b then ob (if neg then !D.lt a b else D.lt a b) else none := rfl
@[simp] theorem q451 {z} : int? (.int z) = some z := rfl
@[simp] theorem q452 {z} : oI (.int z) = some (some z) := rfl
@[simp] theorem q453 {ds} : lst? (.lst ds) = some ds := rfl
@[simp] theorem q454 {i j} : pFdiv i j = if decide (0 < j) && decide (j.natAbs.log2 < 9000) then some (i / j) else none := rfl
@[simp] theorem q455 {i j} : pMod i j = if 0 < j then some (i % j) else none := rfl
@[simp] theorem q456 {i j} : pPow i j = if decide (0 ≤ j) && decide (j ≤ 1000000) && decide (i.natAbs < 2 ^ 64) then some (i ^ j.toNat) else none := rfl
@[simp] theorem q457 {i j} : pShl i j = if decide (0 ≤ j) && decide (j ≤ 1000000) && decide (i.natAbs < 2 ^ 64) then some (i * 2 ^ j.toNat) else none := rfl
@[simp] theorem q458 {g dflt a} : pBest g dflt a = ((lst? a).bind ints?).bind fun ns => match ns with | [] => dflt.map fun d => (false, d) | n :: r => some (false, .int (r.foldl g n)) := rfl
@[simp] theorem q459 {a} : pSum a = ((lst? a).bind ints?).map fun ns => (false, .int ns.sum) := rfl
@[simp] theorem q460 {ds} : its? (.lst ds) = some ds := rfl
@[simp] theorem q461 {ds} : its? (.tup ds) = some ds := rfl
@[simp] theorem q462 {ds} : pSorted (.lst ds) = if sortable ds && decide (ds.length ≤ sizeLine) then some (true, .lst (srt ds)) else none := rfl
@[simp] theorem q463 {ks vs} : pSorted (.dct ks vs) = if sortableK ks && decide (ks.length ≤ sizeLine) then some (true, .lst (srt ks)) else none := rfl
@[simp] theorem q464 {a} : pSortedSet a = (seq? a).bind fun ds => if (ds.all isI || ds.all isS) && decide (ds.length ≤ 4000) then some (true, .lst (srt (firsts ds))) else if ds.all keyTup && sortableK ds && decide ((firsts ds).length ≤ 62) then some (true, .lst (srt (firsts ds))) else none := rfl
@[simp] theorem q465 {a} : pLenSet a = (seq? a).bind fun ds => if ds.all keyLeaf && decide (ds.length ≤ 4000) then some (false, .int (firsts ds).length) else if ds.all keyTup && decide ((firsts ds).length ≤ 62) then some (false, .int (firsts ds).length) else none := rfl
@[simp] theorem q466 {a} : pTuple a = (seq? a).map fun ds => (false, .tup ds) := rfl
@[simp] theorem q467 {a} : pList a = (its? a).bind fun ds => if ds.length ≤ sizeLine then some (true, .lst ds) else none := rfl
@[simp] theorem q468 {g a} : pAll g a = ((lst? a).bind bls?).bind fun bs => ob (g bs) := rfl
@[simp] theorem q469 {ts} : pIsi ts d = if flatTy d then ob (ts.any (isTy d)) else none := rfl
@[simp] theorem q470 {ds b} : pIndexS (.lst ds) b = pIndex (.lst ds) b := rfl
@[simp] theorem q471 {x y} : pIndexS (.str x) (.str y) = (strIndex x y).map fun (n : Nat) => (false, D.int (n : Int)) := rfl
@[simp] theorem q472 {ks vs} : pDict (.dct ks vs) = if ks.all keyLeaf then some (true, .dct ks vs) else none := rfl
@[simp] theorem q473 {a x} : pIndex a x = (seq? a).bind fun ds => if x.pl && decide (x.dep ≤ 60) && ds.all (·.pl) then (idxOf x ds).map fun (n : Nat) => (false, D.int (n : Int)) else none := rfl
@[simp] theorem q474 {a x} : pCount a x = (seq? a).bind fun ds => if x.pl && decide (x.dep ≤ 60) && ds.all (·.pl) then some (false, .int (ds.countP fun d => D.eq d x)) else none := rfl
@[simp] theorem q475 {lo hi a} : pCut lo hi a = lo.bind fun l => hi.bind fun h => cutD a l h := rfl
@[simp] theorem q476 {ds i} : idxD (.tup ds) (.int i) = atI ds i := rfl
@[simp] theorem q477 {ds i} : idxD (.lst ds) (.int i) = atI ds i := rfl
@[simp] theorem q478 {s : Str} {i} : idxD (.str s) (.int i) = if s.length ≤ sizeLine then (atI s.cps.toList i).map fun c => .str ⟨#[c]⟩ else none := rfl
@[simp] theorem q479 {x lo hi} : cutD (.tup x) lo hi = some (false, .tup (cutL x lo hi)) := rfl
@[simp] theorem q480 {x lo hi} : cutD (.lst x) lo hi = some (true, .lst (cutL x lo hi)) := rfl
@[simp] theorem q481 {x lo hi} : cutD (.str x) lo hi = if x.length ≤ sizeLine then some (false, .str (cutS x lo hi)) else none := rfl
@[simp] theorem q482 {x v k : D} {ds ks vs xs : List D} {i : Int} : muD .append (.lst ds) [x] = if ds.length < sizeLine then some (.lst (ds ++ [x]), .non) else none := rfl
@[simp] theorem q483 {x v k : D} {ds ks vs xs : List D} {i : Int} : muD .extend (.lst ds) [.lst xs] = if ds.length + xs.length ≤ sizeLine then some (.lst (ds ++ xs), .non) else none := rfl
@[simp] theorem q484 {x v k : D} {ds ks vs xs : List D} {i : Int} : muD .pop (.lst ds) [] = (ds[ds.length - 1]?).map fun y => (.lst ds.dropLast, y) := rfl
@[simp] theorem q485 {x v k : D} {ds ks vs xs : List D} {i : Int} : muD .popAt (.lst ds) [.int i] = if decide (0 ≤ i) && decide (i < 2 ^ 62) then (ds[i.toNat]?).map fun y => (.lst (ds.eraseIdx i.toNat), y) else none := rfl
@[simp] theorem q486 {x v k : D} {ds ks vs xs : List D} {i : Int} : muD .insert (.lst ds) [.int i, x] = if decide (0 ≤ i) && decide (i.toNat ≤ ds.length) && decide (ds.length < sizeLine) then some (.lst (ds.take i.toNat ++ x :: ds.drop i.toNat), .non) else none := rfl
@[simp] theorem q487 {x v k : D} {ds ks vs xs : List D} {i : Int} : muD .reverse (.lst ds) [] = some (.lst ds.reverse, .non) := rfl
@[simp] theorem q488 {x v k : D} {ds ks vs xs : List D} {i : Int} : muD .remove (.lst ds) [x] = if x.pl && decide (x.dep ≤ 60) && ds.all (·.pl) then (idxOf x ds).map fun n => (.lst (ds.eraseIdx n), .non) else none := rfl
@[simp] theorem q489 {x v k : D} {ds ks vs xs : List D} {i : Int} : muD .setdefault (.dct ks vs) [k, v] = if leafOk k ks && decide (ks.length < sizeLine) then (match dGet k ks vs with
    | some w => some (.dct ks vs, w)
    | none => some (.dct (ks ++ [k]) (vs ++ [v]), v)) else none := rfl
@[simp] theorem q490 {ds i v} : setD (.lst ds) (.int i) v = (ixN ds.length i).map fun j => .lst (ds.set j v) := rfl
@[simp] theorem q491 {ks vs k v} : setD (.dct ks vs) k v = if keyOk k ks && decide (ks.length < sizeLine) then some (.dct (dPut k v ks vs).1 (dPut k v ks vs).2) else none := rfl
@[simp] theorem q492 {ks vs k} : delD (.dct ks vs) k = if keyOk k ks && dHas k ks then some (.dct (ks.erase k) (dDelV k ks vs)) else none := rfl
@[simp] theorem q493 : ints? [] = some [] := rfl
@[simp] theorem q494 {i r} : ints? (.int i :: r) = (ints? r).map (i :: ·) := rfl
@[simp] theorem q495 : bls? [] = some [] := rfl
@[simp] theorem q496 {b r} : bls? (.bl b :: r) = (bls? r).map (b :: ·) := rfl
@[simp] theorem q497 : strs? [] = some [] := rfl
@[simp] theorem q498 {z r} : strs? (.str z :: r) = (strs? r).map (z :: ·) := rfl
@[simp] theorem q499 {i} : isTy (.int i) .tInt = true := rfl
@[simp] theorem q500 {i} : isTy (.int i) .tStr = false := rfl
@[simp] theorem q501 {i} : isTy (.int i) .tBool = false := rfl
@[simp] theorem q502 {i} : isTy (.int i) .tTuple = false := rfl
@[simp] theorem q503 {i} : isTy (.int i) .tList = false := rfl
@[simp] theorem q504 {i} : flatTy (.int i) = true := rfl
@[simp] theorem q505 {b} : isTy (.bl b) .tInt = true := rfl
@[simp] theorem q506 {b} : isTy (.bl b) .tStr = false := rfl
@[simp] theorem q507 {b} : isTy (.bl b) .tBool = true := rfl
@[simp] theorem q508 {b} : isTy (.bl b) .tTuple = false := rfl
@[simp] theorem q509 {b} : isTy (.bl b) .tList = false := rfl
@[simp] theorem q510 {b} : flatTy (.bl b) = true := rfl
@[simp] theorem q511 {z} : isTy (.str z) .tInt = false := rfl
@[simp] theorem q512 {z} : isTy (.str z) .tStr = true := rfl
@[simp] theorem q513 {z} : isTy (.str z) .tBool = false := rfl
@[simp] theorem q514 {z} : isTy (.str z) .tTuple = false := rfl
@[simp] theorem q515 {z} : isTy (.str z) .tList = false := rfl
@[simp] theorem q516 {z} : flatTy (.str z) = true := rfl
@[simp] theorem q517 {ds} : isTy (.tup ds) .tInt = false := rfl
@[simp] theorem q518 {ds} : isTy (.tup ds) .tStr = false := rfl
@[simp] theorem q519 {ds} : isTy (.tup ds) .tBool = false := rfl
@[simp] theorem q520 {ds} : isTy (.tup ds) .tTuple = true := rfl
@[simp] theorem q521 {ds} : isTy (.tup ds) .tList = false := rfl
@[simp] theorem q522 {ds} : flatTy (.tup ds) = true := rfl
@[simp] theorem q523 {ds} : isTy (.lst ds) .tInt = false := rfl
@[simp] theorem q524 {ds} : isTy (.lst ds) .tStr = false := rfl
@[simp] theorem q525 {ds} : isTy (.lst ds) .tBool = false := rfl
@[simp] theorem q526 {ds} : isTy (.lst ds) .tTuple = false := rfl
@[simp] theorem q527 {ds} : isTy (.lst ds) .tList = true := rfl
@[simp] theorem q528 {ds} : flatTy (.lst ds) = true := rfl
@[simp] theorem q529  : isTy (.non) .tInt = false := rfl
@[simp] theorem q530  : isTy (.non) .tStr = false := rfl
@[simp] theorem q531  : isTy (.non) .tBool = false := rfl
@[simp] theorem q532  : isTy (.non) .tTuple = false := rfl
@[simp] theorem q533  : isTy (.non) .tList = false := rfl
@[simp] theorem q534  : flatTy (.non) = true := rfl
@[simp] theorem q535 {b} : ob b = some (false, .bl b) := rfl
@[simp] theorem q536 {i} : D.pl (.int i) = true := rfl
@[simp] theorem q537 {i} : D.dep (.int i) = 0 := rfl
@[simp] theorem q538 {b} : D.pl (.bl b) = true := rfl
@[simp] theorem q539 {b} : D.dep (.bl b) = 0 := rfl
@[simp] theorem q540 {z} : D.pl (.str z) = true := rfl
@[simp] theorem q541 {z} : D.dep (.str z) = 0 := rfl
@[simp] theorem q542  : D.pl (.non) = true := rfl
@[simp] theorem q543  : D.dep (.non) = 0 := rfl
@[simp] theorem q544 {ds} : D.pl (.tup ds) = D.pls ds := rfl
@[simp] theorem q545 {ds} : D.pl (.lst ds) = D.pls ds := rfl
@[simp] theorem q546 : D.pls [] = true := rfl
@[simp] theorem q547 {x r} : D.pls (x :: r) = (D.pl x && D.pls r) := rfl
@[simp] theorem q548 {ds} : D.dep (.tup ds) = D.deps ds + 1 := rfl
@[simp] theorem q549 {ds} : D.dep (.lst ds) = D.deps ds + 1 := rfl
@[simp] theorem q550 : D.deps [] = 0 := rfl
@[simp] theorem q551 {x r} : D.deps (x :: r) = max (D.dep x) (D.deps r) := rfl
end
end PF
set_option Elab.async false
set_option linter.all false
set_option maxRecDepth 100000
set_option maxHeartbeats 1000000
namespace PF
open PySem PySem.Spec PyProof.Rows L2
def Lint (ns : List Int) : D := .lst (ns.map .int)
@[simp] theorem eqII (a b : Int) : D.eq (.int a) (.int b) = decide (a = b) := by simp [D.eq, D.py, PyData.eqv, Bool.beq_eq_decide_eq]
@[simp] theorem eqSS (a b : Str) : D.eq (.str a) (.str b) = decide (a = b) := by simp [D.eq, D.py, PyData.eqv, Bool.beq_eq_decide_eq]
@[simp] theorem eqBB (a b : Bool) : D.eq (.bl a) (.bl b) = decide (a = b) := by cases a <;> cases b <;> rfl
@[simp] theorem eqOkII (a b : Int) : eqOk (.int a) (.int b) = true := rfl
@[simp] theorem eqOkSS (a b : Str) : eqOk (.str a) (.str b) = true := rfl
@[simp] theorem eqOkBB (a b : Bool) : eqOk (.bl a) (.bl b) = true := rfl
@[simp] theorem ltII (a b : Int) : D.lt (.int a) (.int b) = decide (a < b) := W.dataLt_int a b
@[simp] theorem ltOkII (a b : Int) : ltOk (.int a) (.int b) = true := by simp [ltOk, D.alk, D.py, W.alike, D.pl, D.dep]
@[simp] theorem slE : sizeLine = 16777216 := sizeLine_eq
@[simp] theorem nat1_ne (n : Nat) : (((n : Nat) : Int) + 1 = 0) = False := eq_false (by omega)
theorem lcGo_map {tgt : D → Env → Option Env} {tst : Env → RT} {elt : Env → RE} (P : Env → Prop) (g : D → D) : ∀ (ds : List D) (e : Env) (acc : List D), P e →
    (∀ d ∈ ds, ∀ e, P e → ∃ e1 e2 e3, tgt d e = some e1 ∧ tst e1 = .ok true e2 ∧ (elt e2 = .ok .fr (g d) e3 ∨ elt e2 = .ok .ow (g d) e3) ∧ P e3) → acc.length + ds.length ≤ sizeLine → ∃ e', P e' ∧ lcGo tgt tst elt ds e acc = .ok (acc ++ ds.map g) e'
  | [], e, acc, hP, _, _ => ⟨e, hP, by rw [lcGo, List.map_nil, List.append_nil]⟩
  | d :: ds, e, acc, hP, h, hl => by
    obtain ⟨e1, e2, e3, h1, h2, h3, h4⟩ := h d List.mem_cons_self e hP
    rw [List.length_cons] at hl
    obtain ⟨e', h5, h6⟩ := lcGo_map P g ds e3 (acc ++ [g d]) h4 (fun d hd => h d (List.mem_cons_of_mem _ hd)) (by rw [List.length_append, List.length_singleton]; omega)
    refine ⟨e', h5, ?_⟩
    rw [lcGo, h1]
    simp only [onL, h2, RT.bdL, if_pos]
    rcases h3 with h3 | h3 <;> (rw [h3]; simp only [RE.bdL, keepL]; rw [if_pos (by omega), h6]; simp)
/-- a comprehension whose values are only known to exist -/
theorem lcGo_ex {tgt : D → Env → Option Env} {tst : Env → RT} {elt : Env → RE} (P : Env → Prop) (V : D → Prop) : ∀ (ds : List D) (e : Env) (acc : List D), P e → (∀ v ∈ acc, V v) →
    (∀ d ∈ ds, ∀ e, P e → ∃ e1 e2 e3 v, tgt d e = some e1 ∧ tst e1 = .ok true e2 ∧ (elt e2 = .ok .fr v e3 ∨ elt e2 = .ok .ow v e3) ∧ V v ∧ P e3) → acc.length + ds.length ≤ sizeLine → ∃ e' vs, P e' ∧ (∀ v ∈ vs, V v) ∧ vs.length = acc.length + ds.length ∧ lcGo tgt tst elt ds e acc = .ok vs e'
  | [], e, acc, hP, hV, _, _ => ⟨e, acc, hP, hV, rfl, by rw [lcGo]⟩
  | d :: ds, e, acc, hP, hV, h, hl => by
    obtain ⟨e1, e2, e3, v, h1, h2, h3, h4, h4'⟩ := h d List.mem_cons_self e hP
    rw [List.length_cons] at hl
    obtain ⟨e', vs, h5, h6, h7, h8⟩ := lcGo_ex P V ds e3 (acc ++ [v]) h4' (fun w hw => (List.mem_append.mp hw).elim (hV w) fun z => by rw [List.mem_singleton.mp z]; exact h4) (fun d hd => h d (List.mem_cons_of_mem _ hd)) (by rw [List.length_append, List.length_singleton]; omega)
    refine ⟨e', vs, h5, h6, by rw [h7, List.length_append, List.length_singleton, List.length_cons]; omega, ?_⟩
    rw [lcGo, h1]
    simp only [onL, h2, RT.bdL, if_pos]
    rcases h3 with h3 | h3 <;> (rw [h3]; simp only [RE.bdL, keepL]; rw [if_pos (by omega), h8])
theorem forGo_inv {tgt : D → Env → Option Env} {body : Env → RS} (I : Nat → Env → Prop) : ∀ (ds : List D) (n : Nat) (e : Env), I n e →
    (∀ i d e, ds[i]? = some d → I (n + i) e → ∃ e1 e2, tgt d e = some e1 ∧ (body e1 = .nx e2 ∨ body e1 = .ct e2) ∧ I (n + i + 1) e2) → ∃ e', I (n + ds.length) e' ∧ forGo tgt body ds e = .nx e'
  | [], n, e, h0, _ => ⟨e, h0, by rw [forGo]⟩
  | d :: ds, n, e, h0, h => by
    obtain ⟨e1, e2, h1, h2, h3⟩ := h 0 d e rfl h0
    obtain ⟨e', h4, h5⟩ := forGo_inv I ds (n + 1) e2 h3 fun i d' e' hd hi => by
      have := h (i + 1) d' e' (by simpa using hd) (by rw [show n + (i + 1) = n + 1 + i by omega]; exact hi)
      rw [show n + (i + 1) + 1 = n + 1 + i + 1 by omega] at this
      exact this
    refine ⟨e', by rw [List.length_cons, show n + (ds.length + 1) = n + 1 + ds.length by omega]; exact h4, ?_⟩
    rw [forGo, h1]
    simp only [onS]
    rcases h2 with h2 | h2 <;> (rw [h2]; simp only [RS.lp]; exact h5)
theorem bits_small {a : Int} (h1 : -(2 ^ 64) < a) (h2 : a < 2 ^ 64) : bits a ≤ 64 := intBits_le_64 h1 h2
theorem mulOk_l {a b : Int} (h1 : -(2 ^ 64) < a) (h2 : a < 2 ^ 64) : mulOk a b = true := by
  unfold mulOk; rw [decide_eq_true (bits_small h1 h2)]; rfl
theorem mulOk_r {a b : Int} (h1 : -(2 ^ 64) < b) (h2 : b < 2 ^ 64) : mulOk a b = true := by
  unfold mulOk; rw [decide_eq_true (bits_small h1 h2)]; simp
theorem execs_app {Φ : Str → List Sl → FR} {γ : Str → Option D} : ∀ (a b : List S) (e : Env), execs Φ γ (a ++ b) e = (execs Φ γ a e).bd (execs Φ γ b)
  | [], b, e => by rw [execs]; rfl
  | s :: a, b, e => by
    rw [List.cons_append, execs, execs]
    cases exec Φ γ s e with
    | nx e1 => simp only [RS.bd]; exact execs_app a b e1
    | _ => rfl
theorem ixN_nat {n i : Nat} (h : i < n) : ixN n (i : Int) = some i := by
  unfold ixN
  simp
  omega
theorem atI_nat {α : Type} {xs : List α} {i : Nat} (h : i < xs.length) : atI xs (i : Int) = some xs[i] := by
  unfold atI
  rw [ixN_nat h]
  exact List.getElem?_eq_getElem h
theorem atI_map {α β : Type} (f : α → β) (xs : List α) (i : Int) : atI (xs.map f) i = (atI xs i).map f := by
  unfold atI
  rw [List.length_map]
  cases ixN xs.length i with
  | none => rfl
  | some j => simp
@[simp] theorem lint_inj (a b : List Int) : (Lint a = Lint b) = (a = b) := by
  have inj : ∀ a b : List Int, a.map D.int = b.map D.int → a = b := by
    intro a
    induction a with
    | nil => intro b h; cases b with
      | nil => rfl
      | cons _ _ => simp at h
    | cons x r ih => intro b h; cases b with
      | nil => simp at h
      | cons y t =>
        simp only [List.map_cons, List.cons.injEq, D.int.injEq] at h
        rw [h.1, ih t h.2]
  refine propext ⟨fun h => inj a b (by unfold Lint at h; injection h), fun h => by rw [h]⟩
@[simp] theorem lint_len (ns : List Int) : pLen (Lint ns) = some (false, .int ns.length) := by simp [Lint]
@[simp] theorem lint_idx (ns : List Int) (i : Int) : pIdx (Lint ns) (.int i) = (atI ns i).map fun z => (false, D.int z) := by
  show ((atI (ns.map D.int) i).map fun v => (false, v)) = _
  rw [atI_map]
  cases atI ns i <;> rfl
@[simp] theorem lint_fits (m : Mu) (ns : List Int) : slotFits m (.ow (Lint ns)) = !muIsDict m := rfl
@[simp] theorem lint_truthy (ns : List Int) : PF.truthy (Lint ns) = some (!ns.isEmpty) := by cases ns <;> rfl
@[simp] theorem lint_seqI (f : Fl) (e : Env) (ns : List Int) : seqI f e (some (Lint ns)) = .ok (ns.map .int) (lockOf f) e := rfl
@[simp] theorem lint_app (ns : List Int) (z : Int) : muD .append (Lint ns) [.int z] = if ns.length < 16777216 then some (Lint (ns ++ [z]), .non) else none := by
  show (if (ns.map D.int).length < sizeLine then some (D.lst (ns.map D.int ++ [.int z]), D.non) else none) = _
  simp [Lint]
def ch (c : Nat) : Str := ⟨#[c]⟩
theorem str_idx {s : Str} {i : Int} (h0 : 0 ≤ i) (h1 : i < s.length) (h2 : s.length ≤ 16777216) : ∃ c, c ∈ s.cps.toList ∧ pIdx (.str s) (.int i) = some (false, .str (ch c)) := by
  have hl : s.cps.toList.length = s.length := by simp [Str.length]
  obtain ⟨j, rfl⟩ : ∃ j : Nat, i = (j : Int) := ⟨i.toNat, by omega⟩
  have hj : j < s.cps.toList.length := by omega
  refine ⟨s.cps.toList[j], List.getElem_mem hj, ?_⟩
  show (if s.length ≤ sizeLine then (atI s.cps.toList (j : Int)).map fun c => D.str ⟨#[c]⟩ else none).map (fun v => (false, v)) = _
  rw [if_pos (by simpa using h2), atI_nat hj]
  rfl
theorem pLen_str {s : Str} (h : s.length ≤ 16777216) : pLen (.str s) = some (false, .int s.length) := by
  show (if s.length ≤ sizeLine then some (false, D.int s.length) else none) = _
  rw [if_pos (by simpa using h)]
theorem strs_ch : ∀ cs : List Nat, strs? (cs.map fun c => D.str (ch c)) = some (cs.map ch)
  | [] => rfl
  | c :: r => by
    rw [List.map_cons, List.map_cons]
    show (strs? (r.map fun c => D.str (ch c))).map (ch c :: ·) = _
    rw [strs_ch r]; rfl
theorem sum_ch : ∀ cs : List Nat, ((cs.map ch).map (·.length)).sum = cs.length
  | [] => rfl
  | c :: r => by
    have e : (ch c).length = 1 := rfl
    simp only [List.map_cons, List.sum_cons, List.length_cons, sum_ch r, e]; omega
theorem join_ch : ∀ cs : List Nat, Str.join ⟨#[]⟩ (cs.map ch) = ⟨cs.toArray⟩
  | [] => rfl
  | [c] => rfl
  | c :: d :: r => by
    show ch c ++ ⟨#[]⟩ ++ Str.join ⟨#[]⟩ ((d :: r).map ch) = _
    rw [join_ch (d :: r)]
    show (⟨#[c] ++ #[] ++ (d :: r).toArray⟩ : Str) = _
    simp
theorem pJoin_ch {cs : List Nat} (h : cs.length ≤ 16777216) : pJoin (.str "") (.lst (cs.map fun c => D.str (ch c))) = some (false, .str ⟨cs.toArray⟩) := by
  have e0 : ("" : Str) = ⟨#[]⟩ := by decide
  show ((strs? (cs.map fun c => D.str (ch c))).bind fun xs => if (xs.map (·.length)).sum + xs.length * ("" : Str).length ≤ 16777216 then some (false, D.str (Txt.join "" xs)) else none) = _
  rw [strs_ch, Option.bind_some, sum_ch, e0]
  have e1 : (⟨#[]⟩ : Str).length = 0 := rfl
  rw [e1, Nat.mul_zero, Nat.add_zero, if_pos h]
  show some (false, D.str (Builtin.Str.glued ⟨#[]⟩ (cs.map ch))) = _
  rw [StrLaws.glued_eq_join, join_ch]
/-- values that are single characters -/
theorem chs_of : ∀ {vs : List D} {p : Nat → Prop}, (∀ v ∈ vs, ∃ c, v = .str (ch c) ∧ p c) → ∃ cs : List Nat, vs = cs.map (fun c => D.str (ch c)) ∧ ∀ c ∈ cs, p c
  | [], _, _ => ⟨[], rfl, fun _ h => by simp at h⟩
  | v :: r, p, h => by
    obtain ⟨c, rfl, hc⟩ := h v List.mem_cons_self
    obtain ⟨cs, rfl, hcs⟩ := chs_of fun w hw => h w (List.mem_cons_of_mem _ hw)
    exact ⟨c :: cs, rfl, fun d hd => by
      rcases List.mem_cons.mp hd with rfl | hd
      · exact hc
      · exact hcs d hd⟩
end PF
set_option Elab.async false
set_option linter.all false
set_option maxRecDepth 100000
set_option maxHeartbeats 1000000
namespace PF
open PySem PySem.Spec PyProof.Rows L2
inductive Sh where
  | any | non | bl
  | int (lo hi : Int)
  | big (b : Nat)
  | str (lo hi : Nat)
  | tup (ts : List Sh)
  | tupN (t : Sh) (lo hi : Nat)
  | lsts (ts : List Sh)
  | lst (t : Sh) (lo hi : Nat)
  | alt (a b : Sh)
  | lit (d : D)
  deriving Inhabited
mutual
def Sh.has : Sh → D → Prop
  | .any, _ => True
  | .non, d => d = .non
  | .bl, d => ∃ b, d = .bl b
  | .int lo hi, d => ∃ n, d = .int n ∧ lo ≤ n ∧ n ≤ hi
  | .big b, d => ∃ n : Int, d = .int n ∧ n.natAbs < 2 ^ b
  | .str l m, d => ∃ s : Str, d = .str s ∧ l ≤ s.length ∧ s.length ≤ m
  | .tup ts, d => ∃ ds, d = .tup ds ∧ Sh.hasL ts ds
  | .tupN t lo hi, d => ∃ ds, d = .tup ds ∧ lo ≤ ds.length ∧ ds.length ≤ hi ∧ ∀ x ∈ ds, t.has x
  | .lsts ts, d => ∃ ds, d = .lst ds ∧ Sh.hasL ts ds
  | .lst t lo hi, d => ∃ ds, d = .lst ds ∧ lo ≤ ds.length ∧ ds.length ≤ hi ∧ ∀ x ∈ ds, t.has x
  | .alt a b, d => a.has d ∨ b.has d
  | .lit d', d => d = d'
def Sh.hasL : List Sh → List D → Prop
  | [], ds => ds = []
  | t :: ts, ds => ∃ d r, ds = d :: r ∧ t.has d ∧ Sh.hasL ts r
end
class Frc (α : Type) where
  frc : {β : Type} → α → (α → β) → β
  eq : ∀ {β : Type} (a : α) (k : α → β), frc a k = k a
def frcNat {β : Type} (n : Nat) (k : Nat → β) : β := match n with
  | 0 => k 0
  | m + 1 => k (m + 1)
theorem frcNat_eq {β : Type} (n : Nat) (k : Nat → β) : frcNat n k = k n := by cases n <;> rfl
def frcInt {β : Type} (i : Int) (k : Int → β) : β := match i with
  | .ofNat n => frcNat n fun n => k (.ofNat n)
  | .negSucc n => frcNat n fun n => k (.negSucc n)
theorem frcInt_eq {β : Type} (n : Int) (k : Int → β) : frcInt n k = k n := by cases n <;> simp [frcInt, frcNat_eq]
def frcBool {β : Type} (b : Bool) (k : Bool → β) : β := match b with
  | true => k true
  | false => k false
theorem frcBool_eq {β : Type} (b : Bool) (k : Bool → β) : frcBool b k = k b := by cases b <;> rfl
mutual
def D.frc {β : Type} : D → (D → β) → β
  | .non, k => k .non
  | .bl b, k => frcBool b fun b => k (.bl b)
  | .int i, k => frcInt i fun i => k (.int i)
  | .str s, k => k (.str s)
  | .tup ds, k => D.frcs ds fun ds => k (.tup ds)
  | .lst ds, k => D.frcs ds fun ds => k (.lst ds)
  | .dct a b, k => k (.dct a b)
  | .ins a b c, k => k (.ins a b c)
def D.frcs {β : Type} : List D → (List D → β) → β
  | [], k => k []
  | d :: ds, k => D.frc d fun d => D.frcs ds fun ds => k (d :: ds)
end
mutual
theorem D.frc_eq {β : Type} : ∀ (d : D) (k : D → β), d.frc k = k d
  | .non, k => rfl
  | .bl b, k => by simp only [D.frc, frcBool_eq]
  | .int i, k => by simp only [D.frc, frcInt_eq]
  | .str s, k => rfl
  | .tup ds, k => by simp only [D.frc]; exact D.frcs_eq ds _
  | .lst ds, k => by simp only [D.frc]; exact D.frcs_eq ds _
  | .dct a b, k => rfl
  | .ins a b c, k => rfl
theorem D.frcs_eq {β : Type} : ∀ (ds : List D) (k : List D → β), D.frcs ds k = k ds
  | [], k => rfl
  | d :: ds, k => by simp only [D.frcs]; rw [D.frc_eq d]; exact D.frcs_eq ds _
end
mutual
def Sh.frc {β : Type} : Sh → (Sh → β) → β
  | .any, k => k .any
  | .non, k => k .non
  | .bl, k => k .bl
  | .int l h, k => frcInt l fun l => frcInt h fun h => k (.int l h)
  | .big b, k => frcNat b fun b => k (.big b)
  | .str l h, k => frcNat l fun l => frcNat h fun h => k (.str l h)
  | .tup ts, k => Sh.frcs ts fun ts => k (.tup ts)
  | .tupN t l h, k => Sh.frc t fun t => frcNat l fun l => frcNat h fun h => k (.tupN t l h)
  | .lsts ts, k => Sh.frcs ts fun ts => k (.lsts ts)
  | .lst t l h, k => Sh.frc t fun t => frcNat l fun l => frcNat h fun h => k (.lst t l h)
  | .alt a b, k => Sh.frc a fun a => Sh.frc b fun b => k (.alt a b)
  | .lit d, k => D.frc d fun d => k (.lit d)
def Sh.frcs {β : Type} : List Sh → (List Sh → β) → β
  | [], k => k []
  | d :: ds, k => Sh.frc d fun d => Sh.frcs ds fun ds => k (d :: ds)
end
mutual
theorem Sh.frc_eq {β : Type} : ∀ (t : Sh) (k : Sh → β), t.frc k = k t
  | .any, k => rfl
  | .non, k => rfl
  | .bl, k => rfl
  | .int l h, k => by simp only [Sh.frc, frcInt_eq]
  | .big b, k => by simp only [Sh.frc, frcNat_eq]
  | .str l h, k => by simp only [Sh.frc, frcNat_eq]
  | .tup ts, k => by simp only [Sh.frc]; exact Sh.frcs_eq ts _
  | .tupN t l h, k => by simp only [Sh.frc, frcNat_eq]; exact Sh.frc_eq t _
  | .lsts ts, k => by simp only [Sh.frc]; exact Sh.frcs_eq ts _
  | .lst t l h, k => by simp only [Sh.frc, frcNat_eq]; exact Sh.frc_eq t _
  | .alt a b, k => by simp only [Sh.frc]; rw [Sh.frc_eq a]; exact Sh.frc_eq b _
  | .lit d, k => by simp only [Sh.frc]; exact D.frc_eq d _
theorem Sh.frcs_eq {β : Type} : ∀ (ds : List Sh) (k : List Sh → β), Sh.frcs ds k = k ds
  | [], k => rfl
  | d :: ds, k => by simp only [Sh.frcs]; rw [Sh.frc_eq d]; exact Sh.frcs_eq ds _
end
instance : Frc Sh := ⟨Sh.frc, Sh.frc_eq⟩
instance : Frc Nat := ⟨frcNat, frcNat_eq⟩
instance : Frc Int := ⟨frcInt, frcInt_eq⟩
instance : Frc Bool := ⟨frcBool, frcBool_eq⟩
instance : Frc D := ⟨D.frc, D.frc_eq⟩
instance : Frc Unit := ⟨fun a k => k a, fun _ _ => rfl⟩
instance {α γ : Type} [Frc α] [Frc γ] : Frc (α × γ) := ⟨fun q k => match q with
  | (a, b) => Frc.frc a fun a => Frc.frc b fun b => k (a, b), fun q k => by obtain ⟨a, b⟩ := q; simp only [Frc.eq]⟩
instance {α : Type} [Frc α] : Frc (Option α) := ⟨fun q k => match q with
  | some a => Frc.frc a fun a => k (some a)
  | none => k none, fun q k => by cases q <;> simp only [Frc.eq]⟩
def frcList {α β : Type} [Frc α] : List α → (List α → β) → β
  | [], k => k []
  | a :: r, k => Frc.frc a fun a => frcList r fun r => k (a :: r)
theorem frcList_eq {α β : Type} [Frc α] : ∀ (as : List α) (k : List α → β), frcList as k = k as
  | [], k => rfl
  | a :: r, k => by simp only [frcList, Frc.eq]; exact frcList_eq r _
instance {α : Type} [Frc α] : Frc (List α) := ⟨frcList, frcList_eq⟩
theorem hasL_all {p : D → Prop} : ∀ {ts : List Sh} {ds : List D}, Sh.hasL ts ds → (∀ t ∈ ts, ∀ d, t.has d → p d) → ∀ d ∈ ds, p d
  | [], ds, h, _ => by simp only [Sh.hasL] at h; subst h; simp
  | t :: ts, ds, h, q => by
    simp only [Sh.hasL] at h
    obtain ⟨d, r, rfl, h1, h2⟩ := h
    intro x hx
    rcases List.mem_cons.mp hx with rfl | hx
    · exact q t (List.mem_cons_self ..) _ h1
    · exact hasL_all h2 (fun t ht => q t (List.mem_cons_of_mem _ ht)) x hx
/-- the value is of the shape -/
def Sh.mem : Nat → Sh → D → Bool
  | 0, _, _ => false
  | n + 1, t, d => match t, d with
    | .any, _ => true
    | .non, .non => true
    | .bl, .bl _ => true
    | .int l h, .int m => decide (l ≤ m) && decide (m ≤ h)
    | .big b, .int m => decide (m.natAbs < 2 ^ b)
    | .str l h, .str s => decide (l ≤ s.length) && decide (s.length ≤ h)
    | .tup ts, .tup ds => decide (ts.length = ds.length) && (ts.zip ds).all fun p => p.1.mem n p.2
    | .lsts ts, .lst ds => decide (ts.length = ds.length) && (ts.zip ds).all fun p => p.1.mem n p.2
    | .tupN t l h, .tup ds => decide (l ≤ ds.length) && decide (ds.length ≤ h) && ds.all fun d => t.mem n d
    | .lst t l h, .lst ds => decide (l ≤ ds.length) && decide (ds.length ≤ h) && ds.all fun d => t.mem n d
    | .alt a b, d => a.mem n d || b.mem n d
    | .lit d', d => decide (d = d')
    | _, _ => false
/-- every value of the one is of the other -/
def Sh.le : Nat → Sh → Sh → Bool
  | 0, _, _ => false
  | n + 1, a, b => match a, b with
    | _, .any => true
    | .alt a b, c => a.le n c && b.le n c
    | .lit d, c => c.mem n d
    | .non, .non => true
    | .bl, .bl => true
    | .int l h, .int l' h' => decide (l' ≤ l) && decide (h ≤ h')
    | .int l h, .big b => decide (l.natAbs < 2 ^ b) && decide (h.natAbs < 2 ^ b)
    | .big a, .big b => decide (a ≤ b)
    | .str a b, .str c d => decide (c ≤ a) && decide (b ≤ d)
    | .tup ts, .tup us => decide (ts.length = us.length) && (ts.zip us).all fun p => p.1.le n p.2
    | .tup ts, .tupN u lo hi => decide (lo ≤ ts.length) && decide (ts.length ≤ hi) && ts.all fun t => t.le n u
    | .tupN t l h, .tupN u l' h' => decide (l' ≤ l) && decide (h ≤ h') && (decide (h = 0) || t.le n u)
    | .lsts ts, .lsts us => decide (ts.length = us.length) && (ts.zip us).all fun p => p.1.le n p.2
    | .lsts ts, .lst u lo hi => decide (lo ≤ ts.length) && decide (ts.length ≤ hi) && ts.all fun t => t.le n u
    | .lst t l h, .lst u l' h' => decide (l' ≤ l) && decide (h ≤ h') && (decide (h = 0) || t.le n u)
    | a, .alt b c => a.le n b || a.le n c
    | _, _ => false
def foldF (f : Sh → Sh → Sh) : List Sh → Sh → Sh
  | [], u => u
  | t :: ts, u => (f u t).frc fun v => foldF f ts v
def zipF {β : Type} (f : Sh → Sh → Sh) : List Sh → List Sh → (List Sh → β) → β
  | t :: ts, u :: us, k => (f t u).frc fun v => zipF f ts us fun vs => k (v :: vs)
  | _, _, k => k []
/-- of one make: a shape for both is of use -/
def Sh.kin : Sh → Sh → Bool
  | .tup (.lit a :: ts), .tup (.lit b :: us) => decide (a = b) && decide (ts.length = us.length)
  | .tup (.lit _ :: _), .tup _ => false
  | .tup _, .tup (.lit _ :: _) => false
  | .tup ts, .tup us => decide (ts.length = us.length)
  | .int _ _, .int _ _ => true
  | .int _ _, .big _ => true
  | .big _, .int _ _ => true
  | .big _, .big _ => true
  | .lit (.int _), .int _ _ => true
  | .int _ _, .lit (.int _) => true
  | .lit (.int _), .lit (.int _) => true
  | .str _ _, .str _ _ => true
  | .lit (.str _), .str _ _ => true
  | .str _ _, .lit (.str _) => true
  | .bl, .bl => true
  | .bl, .lit (.bl _) => true
  | .lit (.bl _), .bl => true
  | .lit (.bl _), .lit (.bl _) => true
  | .tupN _ _ _, .tupN _ _ _ => true
  | .lsts _, .lsts _ => true
  | .lsts _, .lst _ _ _ => true
  | .lst _ _ _, .lsts _ => true
  | .lst _ _ _, .lst _ _ _ => true
  | _, _ => false
/-- a shape for both, a guess -/
def Sh.guess : Nat → Sh → Sh → Sh
  | 0, a, b => .alt a b
  | n + 1, a, b => if a.le n b then b else if b.le n a then a else match a, b with
    | .int l h, .int l' h' => .int (min l l') (max h h')
    | .int l h, .big b => .big (max b (Nat.log2 (max l.natAbs h.natAbs) + 1))
    | .big b, .int l h => .big (max b (Nat.log2 (max l.natAbs h.natAbs) + 1))
    | .tup ts, .tup us => if (Sh.tup ts).kin (.tup us) then zipF (Sh.guess n) ts us fun vs => .tup vs else .alt a b
    | .str l h, .str l' h' => .str (min l l') (max h h')
    | .lit (.int a), .lit (.int b) => .int (min a b) (max a b)
    | .lit (.int a), .int l h => .int (min l a) (max h a)
    | .int l h, .lit (.int a) => .int (min l a) (max h a)
    | .lit (.str a), .str l h => .str (min l a.length) (max h a.length)
    | .str l h, .lit (.str a) => .str (min l a.length) (max h a.length)
    | .lit (.bl _), .lit (.bl _) => .bl
    | .tupN t l h, .tupN u l' h' => (if h = 0 then u else if h' = 0 then t else Sh.guess n t u).frc fun v => .tupN v (min l l') (max h h')
    | .lsts ts, .lsts us => if ts.length = us.length then zipF (Sh.guess n) ts us fun vs => .lsts vs else match ts, us with
      | [], u :: us => (foldF (Sh.guess n) us u).frc fun v => .lst v 0 (us.length + 1)
      | t :: ts, [] => (foldF (Sh.guess n) ts t).frc fun v => .lst v 0 (ts.length + 1)
      | t :: ts, us => (foldF (Sh.guess n) (ts ++ us) t).frc fun v => .lst v (min (ts.length + 1) us.length) (max (ts.length + 1) us.length)
      | [], [] => .lsts []
    | .lsts ts, .lst u l h => (foldF (Sh.guess n) ts u).frc fun v => .lst v (min ts.length l) (max ts.length h)
    | .lst u l h, .lsts ts => (foldF (Sh.guess n) ts u).frc fun v => .lst v (min ts.length l) (max ts.length h)
    | .lst t l h, .lst u l' h' => (if h = 0 then u else if h' = 0 then t else Sh.guess n t u).frc fun v => .lst v (min l l') (max h h')
    | x, .alt y z => (Sh.guess n x y).frc fun v => Sh.guess n v z
    | .alt x y, c => if x.kin c then (Sh.guess n x c).frc fun v => .alt v y else (Sh.guess n y c).frc fun v => .alt x v
    | a, b => .alt a b
def Sh.join (n : Nat) (a b : Sh) : Sh := (Sh.guess n a b).frc fun c => if a.le n c && b.le n c then c else .alt a b
/-- the join of some shapes -/
def Sh.joins (n : Nat) : List Sh → Option Sh
  | [] => none
  | [t] => some t
  | t :: u :: r => (Sh.joins n (u :: r)).bind fun v => (Sh.join n t v).frc some
inductive Al where
  | top | non | fr (t : Sh) | ow (t : Sh) | lk (t : Sh)
  deriving Inhabited
abbrev AEnv := List Al
def Al.has : Al → Sl → Prop
  | .top, _ => True
  | .non, s => s = .non
  | .fr t, s => ∃ d, s = .fr d ∧ t.has d
  | .ow t, s => ∃ d, s = .ow d ∧ t.has d
  | .lk t, s => ∃ d, s = .lk d ∧ t.has d
def AEnv.has : AEnv → Env → Prop
  | [], e => e = []
  | a :: r, e => ∃ s q, e = s :: q ∧ a.has s ∧ AEnv.has r q
def Al.join (n : Nat) : Al → Al → Al
  | .non, .non => .non
  | .fr a, .fr b => .fr (Sh.join n a b)
  | .ow a, .ow b => .ow (Sh.join n a b)
  | .lk a, .lk b => .lk (Sh.join n a b)
  | _, _ => .top
def AEnv.join (n : Nat) : AEnv → AEnv → Option AEnv
  | [], [] => some []
  | a :: r, b :: q => (AEnv.join n r q).map fun z => Al.join n a b :: z
  | _, _ => none
instance : Frc Al := ⟨fun a k => match a with
  | .top => k .top
  | .non => k .non
  | .fr t => t.frc fun t => k (.fr t)
  | .ow t => t.frc fun t => k (.ow t)
  | .lk t => t.frc fun t => k (.lk t), fun a k => by cases a <;> simp only [Sh.frc_eq]⟩
instance : Frc Fl := ⟨fun a k => match a with
  | .fr => k .fr
  | .ow => k .ow
  | .pl i => frcNat i fun i => k (.pl i), fun a k => by cases a <;> simp only [frcNat_eq]⟩
end PF
set_option Elab.async false
set_option linter.all false
set_option maxRecDepth 100000
set_option maxHeartbeats 1000000
namespace PF
open PySem PySem.Spec PyProof.Rows L2
/-- the fuel of joins -/
abbrev jn : Nat := 400
/-- an operation's shape: good for all values -/
def OpGood (p : Op) (f : List Sh → Option (Bool × Sh)) : Prop := ∀ ts o t ds, f ts = some (o, t) → Sh.hasL ts ds → ∃ d, prim p ds = some (o, d) ∧ t.has d
/-- the bits of an integer's shape -/
def Sh.bits : Sh → Option Nat
  | .int l h => some (Nat.log2 (max l.natAbs h.natAbs) + 1)
  | .big b => some b
  | _ => none
/-- what an item of a row is -/
def Sh.item : Sh → Option Sh
  | .tup ts => Sh.joins jn ts
  | .lsts ts => Sh.joins jn ts
  | .tupN t _ _ => some t
  | .lst t _ _ => some t
  | _ => none
/-- the first that answers -/
def orA (f g : List Sh → Option (Bool × Sh)) (ts : List Sh) : Option (Bool × Sh) := match f ts with
  | some r => some r
  | none => g ts
theorem OpGood.or {p : Op} {f g : List Sh → Option (Bool × Sh)} (hf : OpGood p f) (hg : OpGood p g) : OpGood p (orA f g) := fun ts o t ds e hd => by
  unfold orA at e
  split at e
  · rename_i r h
    cases e
    exact hf ts o t ds h hd
  · exact hg ts o t ds e hd
end PF
set_option Elab.async false
set_option linter.all false
set_option maxRecDepth 100000
set_option maxHeartbeats 1000000
namespace PF
open PySem PySem.Spec PyProof.Rows L2
theorem deps_le {n : Nat} : ∀ {ds : List D}, (∀ d ∈ ds, d.dep ≤ n) → D.deps ds ≤ n
  | [], _ => Nat.zero_le _
  | d :: ds, h => by
    simp only [D.deps]
    have := h d (List.mem_cons_self ..)
    have := deps_le fun x hx => h x (List.mem_cons_of_mem _ hx)
    omega
theorem pls_of : ∀ {ds : List D}, (∀ d ∈ ds, d.pl = true) → D.pls ds = true
  | [], _ => rfl
  | d :: ds, h => by
    simp only [D.pls, Bool.and_eq_true]
    exact ⟨h d (List.mem_cons_self ..), pls_of fun x hx => h x (List.mem_cons_of_mem _ hx)⟩
/-- plain, at most so deep -/
def Sh.flat : Nat → Sh → Bool
  | _, .non => true
  | _, .bl => true
  | _, .int _ _ => true
  | _, .big _ => true
  | _, .str _ _ => true
  | n + 1, .tup ts => ts.all fun t => t.flat n
  | n + 1, .lsts ts => ts.all fun t => t.flat n
  | n + 1, .tupN t _ _ => t.flat n
  | n + 1, .lst t _ _ => t.flat n
  | n + 1, .alt a b => a.flat n && b.flat n
  | n, .lit d => d.pl && decide (d.dep ≤ n)
  | _, _ => false
theorem flat_has : ∀ {n : Nat} {t : Sh} {d : D}, t.flat n = true → t.has d → d.pl = true ∧ d.dep ≤ n
  | n, t, d, h, hd => by
    unfold Sh.flat at h
    split at h
    · cases hd; exact ⟨rfl, Nat.zero_le _⟩
    · obtain ⟨b, rfl⟩ := hd; exact ⟨rfl, Nat.zero_le _⟩
    · obtain ⟨b, rfl, _⟩ := hd; exact ⟨rfl, Nat.zero_le _⟩
    · obtain ⟨b, rfl, _⟩ := hd; exact ⟨rfl, Nat.zero_le _⟩
    · obtain ⟨b, rfl, _⟩ := hd; exact ⟨rfl, Nat.zero_le _⟩
    · rename_i n ts
      obtain ⟨ds, rfl, hx⟩ := hd
      have := hasL_all (p := fun d => d.pl = true ∧ d.dep ≤ n) hx fun t ht d hd => flat_has (List.all_eq_true.mp h t ht) hd
      exact ⟨pls_of fun d hd => (this d hd).1, Nat.succ_le_succ (deps_le fun d hd => (this d hd).2)⟩
    · rename_i n ts
      obtain ⟨ds, rfl, hx⟩ := hd
      have := hasL_all (p := fun d => d.pl = true ∧ d.dep ≤ n) hx fun t ht d hd => flat_has (List.all_eq_true.mp h t ht) hd
      exact ⟨pls_of fun d hd => (this d hd).1, Nat.succ_le_succ (deps_le fun d hd => (this d hd).2)⟩
    · rename_i n t _ _
      obtain ⟨ds, rfl, _, _, hx⟩ := hd
      have := fun d hd => flat_has h (hx d hd)
      exact ⟨pls_of fun d hd => (this d hd).1, Nat.succ_le_succ (deps_le fun d hd => (this d hd).2)⟩
    · rename_i n t _ _
      obtain ⟨ds, rfl, _, _, hx⟩ := hd
      have := fun d hd => flat_has h (hx d hd)
      exact ⟨pls_of fun d hd => (this d hd).1, Nat.succ_le_succ (deps_le fun d hd => (this d hd).2)⟩
    · rename_i n a b
      rw [Bool.and_eq_true] at h
      simp only [Sh.has] at hd
      rcases hd with hd | hd
      · exact ⟨(flat_has h.1 hd).1, Nat.le_succ_of_le (flat_has h.1 hd).2⟩
      · exact ⟨(flat_has h.2 hd).1, Nat.le_succ_of_le (flat_has h.2 hd).2⟩
    · rw [Bool.and_eq_true, decide_eq_true_eq] at h
      cases hd
      exact h
    · cases h
end PF
set_option Elab.async false
set_option linter.all false
set_option maxRecDepth 100000
set_option maxHeartbeats 1000000
set_option Elab.async false
set_option linter.all false
set_option maxRecDepth 100000
set_option maxHeartbeats 1000000
namespace PF
open PySem PySem.Spec PyProof.Rows L2
/-- slots; (i, j): slot i holds an index of the row in slot j -/
structure AE where
  sl : AEnv
  fs : List (Nat × Nat)
def rowLen (s : Sl) : Option Nat := (s.d?.bind seq?).map List.length
def factOk (e : Env) (p : Nat × Nat) : Prop := ∃ (n : Int) (l : Nat), (getS e p.1).d? = some (.int n) ∧ rowLen (getS e p.2) = some l ∧ 0 ≤ n ∧ n < l
def AE.has (E : AE) (e : Env) : Prop := E.sl.has e ∧ ∀ p ∈ E.fs, factOk e p
def AE.set (E : AE) (i : Nat) (a : Al) : AE := ⟨E.sl.set i a, E.fs.filter fun p => decide (p.1 ≠ i) && decide (p.2 ≠ i)⟩
def AE.join (n : Nat) (E F : AE) : Option AE := (AEnv.join n E.sl F.sl).map fun s => ⟨s, E.fs.filter fun p => F.fs.contains p⟩
instance : Frc AE := ⟨fun K k => match K with
  | ⟨sl, fs⟩ => Frc.frc sl fun sl => Frc.frc fs fun fs => k ⟨sl, fs⟩, fun K k => by cases K; simp only [Frc.eq]⟩
end PF
set_option Elab.async false
set_option linter.all false
set_option maxRecDepth 100000
set_option maxHeartbeats 1000000
namespace PF
open PySem PySem.Spec PyProof.Rows L2
theorem lt_int (n m : Int) : D.lt (.int n) (.int m) = decide (n < m) := by
  unfold D.lt D.py
  simp [W.dataLt, W.keyToks, PyProof.Rows.lexLt, itemLt]
theorem pLt_intD (neg : Bool) (n m : Int) : pLt neg (.int n) (.int m) = some (false, .bl (if neg then !decide (n < m) else decide (n < m))) := by
  have : ltOk (.int n) (.int m) = true := rfl
  unfold pLt
  rw [if_pos this, lt_int]
  rfl
/-- every two can be compared -/
def Sh.alk : Nat → Sh → Sh → Bool
  | 0, _, _ => false
  | n + 1, a, b => match a, b with
    | .alt a b, c => a.alk n c && b.alk n c
    | a, .alt b c => a.alk n b && a.alk n c
    | .lit (.str _), .str _ _ => true
    | .str _ _, .lit (.str _) => true
    | .lit (.str _), .lit (.str _) => true
    | .str _ _, .str _ _ => true
    | .int _ _, .int _ _ => true
    | .int _ _, .big _ => true
    | .big _, .int _ _ => true
    | .big _, .big _ => true
    | .tup ts, .tup us => (ts.zip us).all fun p => p.1.alk n p.2
    | .tupN t _ _, .tupN u _ _ => t.alk n u
    | .lst t _ _, .lst u _ _ => t.alk n u
    | _, _ => false
end PF
set_option Elab.async false
set_option linter.all false
set_option maxRecDepth 100000
set_option maxHeartbeats 1000000
namespace PF
open PySem PySem.Spec PyProof.Rows L2
theorem cutS_len (s : Str) (lo hi : Option Int) : (cutS s lo hi).length ≤ s.length := by
  unfold cutS
  show (List.toArray _).size ≤ s.cps.size
  rw [List.size_toArray, List.length_take, List.length_drop, Array.length_toList]
  omega
theorem OpGood.none {p : Op} : OpGood p fun _ => none := fun _ _ _ _ e _ => by cases e
end PF
set_option Elab.async false
set_option linter.all false
set_option maxRecDepth 100000
set_option maxHeartbeats 1000000
namespace PF
open PySem PySem.Spec PyProof.Rows L2
/-- why it stops: a call without a summary, something not served -/
inductive Rq where
  | miss (f : Str) (as : List Al) | bad (s : String) (ts : List Sh)
abbrev A := Except Rq
def A.bd {α β : Type} [Frc α] (x : A α) (k : α → A β) : A β := match x with
  | .ok a => Frc.frc a k
  | .error e => .error e
def Al.le (n : Nat) : Al → Al → Bool
  | _, .top => true
  | .non, .non => true
  | .fr a, .fr b => a.le n b
  | .ow a, .ow b => a.le n b
  | .lk a, .lk b => a.le n b
  | _, _ => false
def AEnv.le (n : Nat) : AEnv → AEnv → Bool
  | [], [] => true
  | a :: r, b :: q => a.le n b && AEnv.le n r q
  | _, _ => false
def AE.le (n : Nat) (a b : AE) : Bool := AEnv.le n a.sl b.sl && b.fs.all fun p => a.fs.contains p
def hasO (o : Option AE) (e : Env) : Prop := ∃ K, o = some K ∧ K.has e
structure TR where
  isb : Bool
  t : Option AE
  f : Option AE
instance : Frc TR := ⟨fun q k => match q with
  | ⟨a, b, c⟩ => Frc.frc a fun a => Frc.frc b fun b => Frc.frc c fun c => k ⟨a, b, c⟩, fun q k => by cases q; simp only [Frc.eq]⟩
theorem setS_self : ∀ (e : Env) (i : Nat), setS e i (getS e i) = e
  | [], i => rfl
  | s :: r, 0 => rfl
  | s :: r, i + 1 => by show s :: setS r i (getS r i) = _; rw [setS_self r i]
end PF
set_option Elab.async false
set_option linter.all false
set_option maxRecDepth 100000
set_option maxHeartbeats 1000000
namespace PF
open PySem PySem.Spec PyProof.Rows L2
/-- what a def does with arguments of these shapes -/
structure Sum where
  f : Str
  args : List Al
  o : Bool
  res : Sh
  outs : List Al
instance : Frc Sum := ⟨fun s k => k s, fun _ _ => rfl⟩
/-- the law's own draw -/
def TakeOk (Φ : Str → List Sl → FR) (W : Sh) : Prop := ∀ d n, W.has d → 1 ≤ n → ∃ m d', Φ "_law_take" [.ow d, .fr (.int n)] = .ok false (.int m) [.ow d', .non] ∧ 0 ≤ m ∧ m < n ∧ W.has d'
structure Ctx where
  γ : Str → Option D
  W : Sh
  sums : List Sum
def TOk (r : RE) (q : TR) : Prop := ∃ f d e b, r = .ok f d e ∧ (late f d e).bind truthy = some b ∧ (q.isb = true → late f d e = some (.bl b)) ∧ hasO (if b then q.t else q.f) e
end PF
set_option Elab.async false
set_option linter.all false
set_option maxRecDepth 100000
set_option maxHeartbeats 1000000
namespace PF
open PySem PySem.Spec PyProof.Rows L2
def AE.grow (K : AE) (i : Nat) (a : Al) : AE := ⟨K.sl.set i a, K.fs.filter fun p => decide (p.1 ≠ i)⟩
structure Its where
  f : Nat → Sh
  lo : Nat
  hi : Nat
  ls : List Nat
instance : Frc Its := ⟨fun q k => match q with
  | ⟨f, a, b, c⟩ => Frc.frc a fun a => Frc.frc b fun b => Frc.frc c fun c => k ⟨f, a, b, c⟩, fun q k => by cases q; simp only [Frc.eq]⟩
end PF
set_option Elab.async false
set_option linter.all false
set_option maxRecDepth 100000
set_option maxHeartbeats 1000000
namespace PF
open PySem PySem.Spec PyProof.Rows L2
def reads : Nat → E → List Nat
  | 0, _ => []
  | n + 1, m => match m with
    | .pk i => [i]
    | .var i => [i]
    | .op _ es => es.flatMap (reads n)
    | _ => []
def Its.all (I : Its) : Option Sh := Sh.joins jn ((List.range I.hi).map I.f)
section
variable {Φ : Str → List Sl → FR} {c : Ctx}
theorem TOk.truth {r : RE} {q : TR} (h : TOk r q) : ∃ b e, r.truth = .ok b e ∧ hasO (if b then q.t else q.f) e := by
  obtain ⟨f, d, e, b, rfl, h1, _, h2⟩ := h
  exact ⟨b, e, by simp only [RE.truth, RE.bdT, h1, onT], h2⟩
end
end PF
set_option Elab.async false
set_option linter.all false
set_option maxRecDepth 100000
set_option maxHeartbeats 1000000
namespace PF
open PySem PySem.Spec PyProof.Rows L2
structure Out where
  nx : Option AE
  rt : Option (Bool × Sh × AE)
  bk : Option AE
  ct : Option AE
instance : Frc Out := ⟨fun q k => match q with
  | ⟨a, b, c, d⟩ => Frc.frc a fun a => Frc.frc b fun b => Frc.frc c fun c => Frc.frc d fun d => k ⟨a, b, c, d⟩, fun q k => by cases q; simp only [Frc.eq]⟩
end PF
set_option Elab.async false
set_option linter.all false
set_option maxRecDepth 100000
set_option maxHeartbeats 1000000
namespace PF
open PySem PySem.Spec PyProof.Rows L2
/-- the slot of a small draw, should what follows fail -/
def kindOf : S → Option Nat
  | .asg i (.call _ [_, .lit (.int m)]) => if m ≤ 20 then some i else none
  | _ => none
end PF
set_option Elab.async false
set_option linter.all false
set_option maxRecDepth 100000
set_option maxHeartbeats 2000000
namespace PF
open PySem PySem.Spec PyProof.Rows L2
def lpDraws : List S := [.asg 7 (.op .mod [(.pk 5), (.op .len [(.pk 2)])]), .iff (.op .ge [(.op .idx [(.pk 2), (.pk 7)]), (.op .pow [(.lit (.int 10)), (.lit (.int 18))])]) [.ex (.mu .append 4 [(.op .mod [(.op .toInt [(.op .idx [(.pk 3), (.pk 7)])]), (.lit (.int 1000))])]), .setI 3 (.var 7) (.op .fdiv [(.op .idx [(.pk 3), (.pk 7)]), (.lit (.int 1000))])] [.asg 8 (.op .mod [(.op .toInt [(.op .add [(.op .add [(.op .mul [(.op .idx [(.pk 2), (.pk 7)]), (.lit (.int 48271))]), (.op .mul [(.pk 5), (.lit (.int 69621))])]), (.lit (.int 11))])]), (.lit (.int 2147483647))]), .ex (.mu .append 4 [(.op .mod [(.op .toInt [(.op .add [(.op .add [(.op .mul [(.pk 8), (.pk 8)]), (.op .mul [(.lit (.int 3)), (.pk 8)])]), (.pk 5)])]), (.lit (.int 1000003))])])]]
def fnDraws : Fn := ⟨2, 9, [], [.asg 2 (.lc [6] (.nm 6) (.seq (.pk 0)) [] (.op .toInt [(.pk 6)])),
  .iff (.op .eq [(.op .len [(.pk 2)]), (.lit (.int 0))]) [.ex (.mu .append 2 [(.lit (.int 0))])] [],
  .asg 3 (.op .list [(.pk 2)]),
  .asg 4 (.lst []),
  .for_ (.nm 5) (.rng1 (.pk 1)) lpDraws,
  .ex (.mu .reverse 4 []),
  .retV 4]⟩
def fnTake : Fn := ⟨2, 2, [0], [.iff (.op .eq [(.op .len [(.pk 0)]), (.lit (.int 0))]) [.ret (.lit (.int 0))] [],
  .ret (.op .mod [(.op .toInt [(.mu .pop 0 [])]), (.pk 1)])]⟩
def takeV (ds : List Int) (m : Int) : Int := match ds.getLast? with | none => 0 | some x => x % m
theorem take_fn (Φ : Str → List Sl → FR) (γ : Str → Option D) (ds : List Int) (m : Int) (hm : 0 < m) :
    fnTake.run Φ γ [.ow (Lint ds), .fr (.int m)] = .ok false (.int (takeV ds m)) [.ow (Lint ds.dropLast), .non] := by
  rcases List.eq_nil_or_concat ds with rfl | ⟨xs, x, rfl⟩
  · simp [fnTake, Fn.run, Lint, takeV]
  · simp [fnTake, Fn.run, Lint, takeV, hm]
theorem takeV_range (ds : List Int) {m : Int} (hm : 0 < m) : 0 ≤ takeV ds m ∧ takeV ds m < m := by
  unfold takeV
  split
  · omega
  · exact ⟨Int.emod_nonneg _ (by omega), Int.emod_lt_of_pos _ hm⟩
@[simp] theorem pow1018 : pPow 10 18 = some 1000000000000000000 := by decide
@[simp] theorem log1000 : (Nat.log2 1000 < 9000) = True := eq_true (by decide)
theorem draws_step (Φ : Str → List Sl → FR) (γ : Str → Option D) (a b : Sl) (cs rest ds : List Int) (i : Nat) (h : cs ≠ []) (hr : rest.length = cs.length) (hi : i < 10000) (hd : ds.length < 16777216) (s6 s7 s8 : Sl) :
    ∃ rest' d s7' s8', execs Φ γ lpDraws [a, b, .ow (Lint cs), .ow (Lint rest), .ow (Lint ds), .fr (.int i), s6, s7, s8] = .nx [a, b, .ow (Lint cs), .ow (Lint rest'), .ow (Lint (ds ++ [d])), .fr (.int i), s6, s7', s8'] ∧ rest'.length = cs.length ∧ 0 ≤ d ∧ d ≤ 1000002 := by
  have hc : 0 < cs.length := List.length_pos_iff.mpr h
  have hc' : (0 : Int) < (cs.length : Int) := by omega
  obtain ⟨j, x, y, e1, hj, a1, a2, a3⟩ : ∃ (j : Nat) (x y : Int), (i : Int) % (cs.length : Int) = (j : Int) ∧ j < cs.length ∧ atI (cs.map D.int) (j : Int) = some (.int x) ∧ atI (rest.map D.int) (j : Int) = some (.int y) ∧ ixN rest.length (j : Int) = some j := by
    have hat : i % cs.length < cs.length := Nat.mod_lt _ hc
    exact ⟨i % cs.length, cs[i % cs.length], rest[i % cs.length], by omega, hat, by rw [atI_nat (by simpa using hat)]; simp, by rw [atI_nat (by simpa [hr] using hat)]; simp, ixN_nat (by omega)⟩
  by_cases hbig : (1000000000000000000 : Int) ≤ x
  · have hb2 : ¬ x < 1000000000000000000 := by omega
    refine ⟨rest.set j (y / 1000), y % 1000, .fr (.int j), s8, ?_, by simp [hr], by omega, by omega⟩
    simp [lpDraws, Lint, e1, hc, hc', a1, a2, a3, hb2, hd, List.map_set]
  · have hb2 : x < 1000000000000000000 := by omega
    have m1 : mulOk x 48271 = true := mulOk_r (by decide) (by decide)
    have m2 : mulOk (i : Int) 69621 = true := mulOk_r (by decide) (by decide)
    have r1 : 0 ≤ (x * 48271 + i * 69621 + 11) % 2147483647 ∧ (x * 48271 + i * 69621 + 11) % 2147483647 < 2147483647 := ⟨Int.emod_nonneg _ (by decide), Int.emod_lt_of_pos _ (by decide)⟩
    generalize hz : (x * 48271 + i * 69621 + 11) % 2147483647 = z at r1
    have m3 : mulOk z z = true := mulOk_r (by omega) (by omega)
    have m4 : mulOk 3 z = true := mulOk_l (by decide) (by decide)
    refine ⟨rest, (z * z + 3 * z + i) % 1000003, .fr (.int j), .fr (.int z), ?_, hr, Int.emod_nonneg _ (by decide), Int.le_of_lt_add_one (Int.emod_lt_of_pos _ (by decide))⟩
    simp [lpDraws, Lint, e1, hc, hc', a1, a2, a3, hb2, hd, m1, m2, hz, m3, m4]
theorem draws_fn (Φ : Str → List Sl → FR) (γ : Str → Option D) (ns : List Int) (hl : ns.length ≤ 63) (m : Int) (h0 : 0 ≤ m) (h1 : m ≤ 10000) :
    ∃ ds : List Int, fnDraws.run Φ γ [.fr (Lint ns), .fr (.int m)] = .ok true (Lint ds) [.non, .non] ∧ (ds.length : Int) ≤ m ∧ ∀ x ∈ ds, 0 ≤ x ∧ x ≤ 1000002 := by
  have hsz : sizeLine = 16777216 := sizeLine_eq
  obtain ⟨e1, ⟨s, he1⟩, hc⟩ := lcGo_map (tgt := asgW [6] (.nm 6)) (tst := evTs Φ γ []) (elt := ev Φ γ (.op .toInt [(.pk 6)]))
    (fun e => ∃ s, e = [.fr (Lint ns), .fr (.int m), .non, .non, .non, .non, s, .non, .non]) id (ns.map .int) [.fr (Lint ns), .fr (.int m), .non, .non, .non, .non, .non, .non, .non] [] ⟨_, rfl⟩ (by
      rintro d hd e ⟨s, rfl⟩
      obtain ⟨z, _, rfl⟩ := List.mem_map.mp hd
      exact ⟨_, _, _, by simp; rfl, by simp; rfl, .inl (by simp; rfl), _, rfl⟩) (by simp; omega)
  simp only [List.nil_append, List.map_id] at hc
  subst he1
  -- the cells, one at least
  obtain ⟨cs, hcs, hcl, hcells⟩ : ∃ cs : List Int, cs ≠ [] ∧ cs.length ≤ 63 ∧ execs Φ γ (fnDraws.body.take 4) [.fr (Lint ns), .fr (.int m), .non, .non, .non, .non, .non, .non, .non] =
      .nx [.fr (Lint ns), .fr (.int m), .ow (Lint cs), .ow (Lint cs), .ow (Lint []), .non, .non, .non, .non] := by
    cases ns with
    | nil => exact ⟨[0], by simp, by simp, by simp [fnDraws, Lint] at hc ⊢⟩
    | cons z r =>
      refine ⟨z :: r, by simp, hl, ?_⟩
      have hl2 : r.length + 1 ≤ 16777216 := by simp at hl; omega
      simp [fnDraws, Lint] at hc ⊢
      simp [hc, hl2]
  obtain ⟨e2, ⟨rest, ds, s5, s7, s8, rfl, hr, hdl, hin⟩, hfor⟩ := forGo_inv (tgt := asgT (.nm 5)) (body := execs Φ γ lpDraws)
    (fun i e => ∃ rest ds s5 s7 s8, e = [.fr (Lint ns), .fr (.int m), .ow (Lint cs), .ow (Lint rest), .ow (Lint ds), s5, .non, s7, s8] ∧ rest.length = cs.length ∧ ds.length = i ∧ ∀ x ∈ ds, 0 ≤ x ∧ x ≤ 1000002)
    ((List.range m.toNat).map fun (k : Nat) => D.int (k : Int)) 0 [.fr (Lint ns), .fr (.int m), .ow (Lint cs), .ow (Lint cs), .ow (Lint []), .non, .non, .non, .non] ⟨cs, [], _, _, _, rfl, rfl, rfl, fun _ h => by cases h⟩ (by
      rintro i d e hd ⟨rest, ds, s5, s7, s8, rfl, hr, hdl, hin⟩
      have hi : i < m.toNat ∧ d = .int (i : Int) := by
        rw [List.getElem?_map] at hd
        cases q : (List.range m.toNat)[i]? with
        | none => rw [q] at hd; cases hd
        | some c =>
          rw [q] at hd; cases hd
          obtain ⟨q1, q2⟩ := List.getElem?_eq_some_iff.mp q
          have : i < m.toNat := by simpa using q1
          refine ⟨this, ?_⟩
          have : c = i := by rw [← q2]; simp
          rw [this]
      obtain ⟨hi, rfl⟩ := hi
      obtain ⟨rest', d', s7', s8', hb, hr', hd1, hd2⟩ := draws_step Φ γ (.fr (Lint ns)) (.fr (.int m)) cs rest ds i hcs hr (by omega) (by omega) .non s7 s8
      exact ⟨_, _, by simp, .inl hb, rest', ds ++ [d'], _, _, _, rfl, hr', by simp [hdl], fun x hx => by
        rcases List.mem_append.mp hx with hx | hx
        · exact hin x hx
        · rw [List.mem_singleton.mp hx]; exact ⟨hd1, hd2⟩⟩)
  refine ⟨ds.reverse, ?_, by rw [List.length_reverse, hdl]; simp; omega, fun x hx => hin x (List.mem_reverse.mp hx)⟩
  have hsplit : fnDraws.body = fnDraws.body.take 4 ++ [.for_ (.nm 5) (.rng1 (.pk 1)) lpDraws, .ex (.mu .reverse 4 []), .retV 4] := by rfl
  have hb1 : (decide (-4611686018427387904 ≤ m) && decide (m < 4611686018427387904)) = true := by simp; omega
  have run0 : fnDraws.run Φ γ [.fr (Lint ns), .fr (.int m)] = (execs Φ γ fnDraws.body [.fr (Lint ns), .fr (.int m), .non, .non, .non, .non, .non, .non, .non]).out [] 2 [.fr (Lint ns), .fr (.int m)] := by
    simp [Fn.run, fnDraws]
  rw [run0, hsplit, execs_app, hcells]
  have hf : exec Φ γ (.for_ (.nm 5) (.rng1 (.pk 1)) lpDraws) [.fr (Lint ns), .fr (.int m), .ow (Lint cs), .ow (Lint cs), .ow (Lint []), .non, .non, .non, .non] = .nx [.fr (Lint ns), .fr (.int m), .ow (Lint cs), .ow (Lint rest), .ow (Lint ds), s5, .non, s7, s8] := by
    simp [rng1I] at hb1 ⊢
    simp [hb1] at hfor ⊢
    simp [hfor]
  simp only [RS.bd]
  rw [execs, hf]
  simp [Lint]
/-- the shape of the draws -/
abbrev drawW (n : Nat) : Sh := .lst (.int 0 1000002) 0 n
theorem ints_of {a b : Int} : ∀ {ds : List D}, (∀ d ∈ ds, (Sh.int a b).has d) → ∃ ns : List Int, ds = ns.map .int ∧ ∀ n ∈ ns, a ≤ n ∧ n ≤ b
  | [], _ => ⟨[], rfl, fun _ h => by cases h⟩
  | d :: ds, h => by
    obtain ⟨n, rfl, h1, h2⟩ := h d (List.mem_cons_self ..)
    obtain ⟨ns, rfl, h3⟩ := ints_of fun z hz => h z (List.mem_cons_of_mem _ hz)
    exact ⟨n :: ns, rfl, fun x hx => by
      rcases List.mem_cons.mp hx with rfl | hx
      · exact ⟨h1, h2⟩
      · exact h3 x hx⟩
theorem run_tab {tab : Str → Option Fn} {γ : Str → Option D} {k : Nat} {f : Str} {fn : Fn} (h : tab f = some fn) (as : List Sl) : run tab γ (k + 1) f as = fn.run (run tab γ k) γ as := by
  show (match tab f with | some fn => fn.run (run tab γ k) γ as | none => FR.st) = _
  rw [h]
theorem take_ok {tab : Str → Option Fn} {γ : Str → Option D} (h : tab "_law_take" = some fnTake) (n : Nat) : ∀ k, 1 ≤ k → TakeOk (run tab γ k) (drawW n) := by
  intro k hk d m hd hm
  obtain ⟨k', rfl⟩ : ∃ k', k = k' + 1 := ⟨k - 1, by omega⟩
  obtain ⟨ds, rfl, h1, h2, h3⟩ := hd
  obtain ⟨ns, rfl, h4⟩ := ints_of h3
  obtain ⟨r1, r2⟩ := takeV_range ns (m := m) (by omega)
  refine ⟨takeV ns m, Lint ns.dropLast, ?_, r1, r2, ⟨_, rfl, Nat.zero_le _, ?_, fun x hx => ?_⟩⟩
  · rw [run_tab h]
    exact take_fn _ _ ns m (by omega)
  · rw [List.length_map, List.length_dropLast]
    rw [List.length_map] at h2
    omega
  · obtain ⟨z, hz, rfl⟩ := List.mem_map.mp hx
    exact ⟨z, rfl, h4 z (List.dropLast_subset _ hz)⟩
theorem big_of {z : Int} {b : Nat} (h : Builtin.Int.intBits z ≤ b) : z.natAbs < 2 ^ b := PySem.intBits_le_iff.mp h
end PF
set_option Elab.async false
set_option linter.all false
set_option maxRecDepth 100000
set_option maxHeartbeats 0
namespace PF
open PySem PySem.Spec PyProof.Rows L2
def top (i : Nat) : Stmt := PySem.Challenge.pw_anyworth_k28_order_of_values.main.body.getD i (.Pass ⟨0, 0, 0, 0⟩)
/-- value_key(value) -/
def fn_value_key : Fn := ⟨1, 1, [], [.iff (.op (.isinst [.tStr]) [(.pk 0)]) [.ret (.tup [(.lit (.int 1)), (.lit (.int 0)), (.var 0)])] [],
  .ret (.tup [(.lit (.int 0)), (.var 0), (.lit (.str ""))])]⟩
def df_value_key : Df := ⟨"value_key", ["value"], ["value"], fn_value_key, defArgs (top 1), defBody (top 1), defScope (top 1)⟩
/-- row_key(row) -/
def fn_row_key : Fn := ⟨1, 2, [], [.ret (.op .tuple [(.lc [1] (.nm 1) (.seq (.pk 0)) [] (.call "value_key" [(.var 1)]))])]⟩
def df_row_key : Df := ⟨"row_key", ["row", "value"], ["row"], fn_row_key, defArgs (top 2), defBody (top 2), defScope (top 2)⟩
/-- compare_values(left, right) -/
def fn_compare_values : Fn := ⟨2, 2, [], [.iff (.op .eq [(.pk 0), (.pk 1)]) [.ret (.lit (.int 0))] [],
  .ret (.ife (.op .lt [(.call "value_key" [(.var 0)]), (.call "value_key" [(.var 1)])]) (.op .neg [(.lit (.int 1))]) (.lit (.int 1)))]⟩
def df_compare_values : Df := ⟨"compare_values", ["left", "right"], ["left", "right"], fn_compare_values, defArgs (top 3), defBody (top 3), defScope (top 3)⟩
def lp_sorted_rows_1 : List S := [.setI 1 (.call "row_key" [(.var 2)]) (.var 2)]
/-- sorted_rows(rows) -/
def fn_sorted_rows : Fn := ⟨1, 4, [], [.asg 1 .dnew,
  .for_ (.nm 2) (.seq (.pk 0)) lp_sorted_rows_1,
  .ret (.lc [3] (.nm 3) (.seq (.op .sorted [(.pk 1)])) [] (.op .idx [(.pk 1), (.pk 3)]))]⟩
def df_sorted_rows : Df := ⟨"sorted_rows", ["rows", "found", "row", "key"], ["rows"], fn_sorted_rows, defArgs (top 4), defBody (top 4), defScope (top 4)⟩
def lp_l_draws_1 : List S := [.asg 7 (.op .mod [(.pk 5), (.op .len [(.pk 2)])]), .iff (.op .ge [(.op .idx [(.pk 2), (.pk 7)]), (.op .pow [(.lit (.int 10)), (.lit (.int 18))])]) [.ex (.mu .append 4 [(.op .mod [(.op .toInt [(.op .idx [(.pk 3), (.pk 7)])]), (.lit (.int 1000))])]), .setI 3 (.var 7) (.op .fdiv [(.op .idx [(.pk 3), (.pk 7)]), (.lit (.int 1000))])] [.asg 8 (.op .mod [(.op .toInt [(.op .add [(.op .add [(.op .mul [(.op .idx [(.pk 2), (.pk 7)]), (.lit (.int 48271))]), (.op .mul [(.pk 5), (.lit (.int 69621))])]), (.lit (.int 11))])]), (.lit (.int 2147483647))]), .ex (.mu .append 4 [(.op .mod [(.op .toInt [(.op .add [(.op .add [(.op .mul [(.pk 8), (.pk 8)]), (.op .mul [(.lit (.int 3)), (.pk 8)])]), (.pk 5)])]), (.lit (.int 1000003))])])]]
/-- _law_draws(_law_script, _law_many) -/
def fn_l_draws : Fn := ⟨2, 9, [], [.asg 2 (.lc [6] (.nm 6) (.seq (.pk 0)) [] (.op .toInt [(.pk 6)])),
  .iff (.op .eq [(.op .len [(.pk 2)]), (.lit (.int 0))]) [.ex (.mu .append 2 [(.lit (.int 0))])] [],
  .asg 3 (.op .list [(.pk 2)]),
  .asg 4 (.lst []),
  .for_ (.nm 5) (.rng1 (.pk 1)) lp_l_draws_1,
  .ex (.mu .reverse 4 []),
  .retV 4]⟩
def df_l_draws : Df := ⟨"_law_draws", ["_law_script", "_law_many", "_law_cells", "_law_rest", "_law_draws_here", "_law_k", "_law_cell", "_law_at", "_law_mixed"], ["_law_script", "_law_many"], fn_l_draws, defArgs (top 6), defBody (top 6), defScope (top 6)⟩
/-- _law_take(_law_draws_here, _law_many) -/
def fn_l_take : Fn := ⟨2, 2, [0], [.iff (.op .eq [(.op .len [(.pk 0)]), (.lit (.int 0))]) [.ret (.lit (.int 0))] [],
  .ret (.op .mod [(.op .toInt [(.mu .pop 0 [])]), (.pk 1)])]⟩
def df_l_take : Df := ⟨"_law_take", ["_law_draws_here", "_law_many"], ["_law_draws_here", "_law_many"], fn_l_take, defArgs (top 7), defBody (top 7), defScope (top 7)⟩
/-- _law_pick(_law_draws_here, _law_row) -/
def fn_l_pick : Fn := ⟨2, 2, [0, 1], [.ret (.op .idx [(.pk 1), (.call "_law_take" [(.pk 0), (.op .len [(.pk 1)])])])]⟩
def df_l_pick : Df := ⟨"_law_pick", ["_law_draws_here", "_law_row"], ["_law_draws_here", "_law_row"], fn_l_pick, defArgs (top 8), defBody (top 8), defScope (top 8)⟩
def lp_l_size_1 : List S := [.asg 3 (.op .add [(.op .mul [(.pk 3), (.lit (.int 1000))]), (.call "_law_take" [(.pk 0), (.lit (.int 1000))])])]
/-- _law_size(_law_draws_here, _law_script) -/
def fn_l_size : Fn := ⟨2, 5, [0], [.asg 2 (.call "_law_take" [(.pk 0), (.lit (.int 8))]),
  .iff (.op .lt [(.pk 2), (.lit (.int 5))]) [.ret (.call "_law_take" [(.pk 0), (.lit (.int 12))])] [],
  .iff (.op .eq [(.pk 2), (.lit (.int 5))]) [.ret (.call "_law_take" [(.pk 0), (.lit (.int 100))])] [],
  .iff (.boo false [(.op .eq [(.pk 2), (.lit (.int 6))]), (.op .eq [(.op .len [(.pk 1)]), (.lit (.int 0))])]) [.asg 3 (.lit (.int 0)), .for_ (.nm 4) (.rng1 (.lit (.int 5))) lp_l_size_1, .retV 3] [],
  .ret (.op .abs [(.op .toInt [(.op .idx [(.pk 1), (.call "_law_take" [(.pk 0), (.op .len [(.pk 1)])])])])])]⟩
def df_l_size : Df := ⟨"_law_size", ["_law_draws_here", "_law_script", "_law_kind", "_law_number_here", "_law_k"], ["_law_draws_here", "_law_script"], fn_l_size, defArgs (top 9), defBody (top 9), defScope (top 9)⟩
/-- _law_same(_law_actual, _law_due) -/
def fn_l_same : Fn := ⟨2, 3, [1], [.iff (.op (.isinst [.tTuple, .tList]) [(.pk 1)]) [.iff (.boo false [(.op .ne [(.op (.isinst [.tTuple]) [(.pk 0)]), (.op (.isinst [.tTuple]) [(.pk 1)])]), (.op .ne [(.op (.isinst [.tList]) [(.pk 0)]), (.op (.isinst [.tList]) [(.pk 1)])])]) [.ret (.lit (.bl false))] [], .iff (.op .ne [(.op .len [(.pk 0)]), (.op .len [(.pk 1)])]) [.ret (.lit (.bl false))] [], .ret (.op .notIn [(.lit (.bl false)), (.lc [2] (.nm 2) (.rng1 (.op .len [(.pk 1)])) [] (.call "_law_same" [(.op .idx [(.pk 0), (.pk 2)]), (.op .idx [(.pk 1), (.pk 2)])]))])] [],
  .iff (.boo false [(.op .ne [(.op (.isinst [.tBool]) [(.pk 0)]), (.op (.isinst [.tBool]) [(.pk 1)])]), (.op .ne [(.op (.isinst [.tInt]) [(.pk 0)]), (.op (.isinst [.tInt]) [(.pk 1)])])]) [.ret (.lit (.bl false))] [],
  .iff (.boo false [(.op .ne [(.op (.isinst [.tStr]) [(.pk 0)]), (.op (.isinst [.tStr]) [(.pk 1)])]), (.op .ne [(.op .isN [(.pk 0)]), (.op .isN [(.pk 1)])])]) [.ret (.lit (.bl false))] [],
  .ret (.op .eq [(.pk 0), (.pk 1)])]⟩
def df_l_same : Df := ⟨"_law_same", ["_law_actual", "_law_due", "_law_k"], ["_law_actual", "_law_due"], fn_l_same, defArgs (top 10), defBody (top 10), defScope (top 10)⟩
def lp_l_words_1 : List S := [.asg 4 (.op .add [(.lit (.int 1)), (.call "_law_take" [(.pk 0), (.lit (.int 3))])]), .iff (.op .eq [(.call "_law_take" [(.pk 0), (.lit (.int 12))]), (.lit (.int 0))]) [.asg 4 (.op .add [(.op .add [(.pk 4), (.lit (.int 9))]), (.call "_law_take" [(.pk 0), (.lit (.int 12))])])] [], .asg 5 (.op .join [(.lit (.str "")), (.lc [6] (.nm 6) (.rng1 (.pk 4)) [] (.op .idx [(.lit (.str "abcdefghijklmnopqrstuvwxyz")), (.call "_law_take" [(.pk 0), (.lit (.int 26))])]))]), .iff (.op .isIn [(.pk 5), (.pk 2)]) [.asg 5 (.op .add [(.lit (.str "zzzz")), (.op .idx [(.lit (.str "abcdefghijklmnopqrstuvwxyz")), (.pk 3)])])] [], .ex (.mu .append 2 [(.var 5)])]
/-- _law_words(_law_draws_here, _law_many) -/
def fn_l_words : Fn := ⟨2, 7, [0], [.asg 2 (.lst []),
  .for_ (.nm 3) (.rng1 (.pk 1)) lp_l_words_1,
  .retV 2]⟩
def df_l_words : Df := ⟨"_law_words", ["_law_draws_here", "_law_many", "_law_words_here", "_law_k", "_law_size_here", "_law_word", "_law_j"], ["_law_draws_here", "_law_many"], fn_l_words, defArgs (top 11), defBody (top 11), defScope (top 11)⟩
/-- _law_number(_law_draws_here, _law_script) -/
def fn_l_number : Fn := ⟨2, 2, [0], [.ret (.op .mul [(.call "_law_size" [(.pk 0), (.var 1)]), (.op .sub [(.lit (.int 1)), (.op .mul [(.lit (.int 2)), (.call "_law_take" [(.pk 0), (.lit (.int 2))])])])])]⟩
def df_l_number : Df := ⟨"_law_number", ["_law_draws_here", "_law_script"], ["_law_draws_here", "_law_script"], fn_l_number, defArgs (top 12), defBody (top 12), defScope (top 12)⟩
/-- _law_near_value(_law_draws_here, _law_script, _law_seen) -/
def fn_l_near_value : Fn := ⟨3, 7, [0, 2], [.asg 3 (.call "_law_take" [(.pk 0), (.lit (.int 6))]),
  .iff (.boo true [(.op .lt [(.pk 3), (.lit (.int 3))]), (.op .gt [(.op .len [(.pk 2)]), (.lit (.int 0))])]) [.asg 4 (.call "_law_pick" [(.pk 0), (.pk 2)]), .asg 5 (.call "_law_take" [(.pk 0), (.lit (.int 3))]), .iff (.op (.isinst [.tStr]) [(.pk 4)]) [.asg 6 (.op .idx [(.lit (.str "abcdefghijklmnopqrstuvwxyz")), (.call "_law_take" [(.pk 0), (.lit (.int 26))])]), .ret (.op .idx [(.lst [(.var 4), (.op .add [(.pk 4), (.pk 6)]), (.op .add [(.op .slHi [(.pk 4), (.op .sub [(.op .len [(.pk 4)]), (.lit (.int 1))])]), (.pk 6)])]), (.pk 5)])] [], .ret (.op .sub [(.op .add [(.pk 4), (.pk 5)]), (.lit (.int 1))])] [],
  .iff (.op .eq [(.pk 3), (.lit (.int 3))]) [.ret (.op .idx [(.call "_law_words" [(.pk 0), (.lit (.int 1))]), (.lit (.int 0))])] [],
  .ret (.call "_law_number" [(.pk 0), (.var 1)])]⟩
def df_l_near_value : Df := ⟨"_law_near_value", ["_law_draws_here", "_law_script", "_law_seen", "_law_kind", "_law_near", "_law_turn", "_law_letter"], ["_law_draws_here", "_law_script", "_law_seen"], fn_l_near_value, defArgs (top 13), defBody (top 13), defScope (top 13)⟩
def lp_l_order_1 : List S := [.iff (.op .ne [(.op .idx [(.pk 0), (.pk 3)]), (.op .idx [(.pk 1), (.pk 3)])]) [.ret (.op .sub [(.lit (.int 1)), (.op .mul [(.lit (.int 2)), (.op .toInt [(.op .lt [(.met .index (.pk 2) (.op .idx [(.pk 0), (.pk 3)])), (.met .index (.pk 2) (.op .idx [(.pk 1), (.pk 3)]))])])])])] []]
/-- _law_order(_law_one, _law_other) -/
def fn_l_order : Fn := ⟨2, 4, [], [.iff (.boo true [(.op (.isinst [.tStr]) [(.pk 0)]), (.not_ (.op (.isinst [.tStr]) [(.pk 1)]))]) [.ret (.lit (.int 1))] [],
  .iff (.boo true [(.op (.isinst [.tStr]) [(.pk 1)]), (.not_ (.op (.isinst [.tStr]) [(.pk 0)]))]) [.ret (.op .neg [(.lit (.int 1))])] [],
  .iff (.op (.isinst [.tStr]) [(.pk 0)]) [.asg 2 (.lit (.str "abcdefghijklmnopqrstuvwxyz")), .for_ (.nm 3) (.rng1 (.op .min2 [(.op .len [(.pk 0)]), (.op .len [(.pk 1)])])) lp_l_order_1, .ret (.call "_law_order" [(.op .len [(.pk 0)]), (.op .len [(.pk 1)])])] [],
  .ret (.op .sub [(.op .toInt [(.op .gt [(.pk 0), (.pk 1)])]), (.op .toInt [(.op .lt [(.pk 0), (.pk 1)])])])]⟩
def df_l_order : Df := ⟨"_law_order", ["_law_one", "_law_other", "_law_letters", "_law_k"], ["_law_one", "_law_other"], fn_l_order, defArgs (top 14), defBody (top 14), defScope (top 14)⟩
def lp_l_row_order_1 : List S := [.iff (.op .ne [(.call "_law_order" [(.op .idx [(.pk 0), (.pk 2)]), (.op .idx [(.pk 1), (.pk 2)])]), (.lit (.int 0))]) [.ret (.call "_law_order" [(.op .idx [(.pk 0), (.pk 2)]), (.op .idx [(.pk 1), (.pk 2)])])] []]
/-- _law_row_order(_law_one, _law_other) -/
def fn_l_row_order : Fn := ⟨2, 3, [], [.for_ (.nm 2) (.rng1 (.op .min2 [(.op .len [(.pk 0)]), (.op .len [(.pk 1)])])) lp_l_row_order_1,
  .ret (.call "_law_order" [(.op .len [(.pk 0)]), (.op .len [(.pk 1)])])]⟩
def df_l_row_order : Df := ⟨"_law_row_order", ["_law_one", "_law_other", "_law_k"], ["_law_one", "_law_other"], fn_l_row_order, defArgs (top 15), defBody (top 15), defScope (top 15)⟩
/-- _law_near_row(_law_draws_here, _law_script, _law_seen, _law_rows) -/
def fn_l_near_row : Fn := ⟨4, 7, [0, 2, 3], [.asg 4 (.lc [5] (.nm 5) (.rng1 (.op .mul [(.call "_law_take" [(.pk 0), (.lit (.int 4))]), (.call "_law_take" [(.pk 0), (.lit (.int 4))])])) [] (.call "_law_near_value" [(.pk 0), (.var 1), (.pk 2)])),
  .iff (.boo true [(.op .gt [(.op .len [(.pk 3)]), (.lit (.int 0))]), (.op .eq [(.call "_law_take" [(.pk 0), (.lit (.int 2))]), (.lit (.int 0))])]) [.asg 4 (.op .list [(.call "_law_pick" [(.pk 0), (.pk 3)])]), .asg 6 (.call "_law_take" [(.pk 0), (.lit (.int 3))]), .iff (.boo true [(.op .eq [(.pk 6), (.lit (.int 0))]), (.op .gt [(.op .len [(.pk 4)]), (.lit (.int 0))])]) [.setI 4 (.call "_law_take" [(.pk 0), (.op .len [(.pk 4)])]) (.call "_law_near_value" [(.pk 0), (.var 1), (.pk 2)])] [.iff (.op .eq [(.pk 6), (.lit (.int 1))]) [.asg 4 (.op .add [(.pk 4), (.lst [(.call "_law_near_value" [(.pk 0), (.var 1), (.pk 2)])])])] [.asg 4 (.op .slHi [(.pk 4), (.call "_law_take" [(.pk 0), (.op .add [(.op .len [(.pk 4)]), (.lit (.int 1))])])])]]] [],
  .ret (.op .tuple [(.op .slHi [(.pk 4), (.lit (.int 8))])])]⟩
def df_l_near_row : Df := ⟨"_law_near_row", ["_law_draws_here", "_law_script", "_law_seen", "_law_rows", "_law_row", "_law_k", "_law_kind"], ["_law_draws_here", "_law_script", "_law_seen", "_law_rows"], fn_l_near_row, defArgs (top 16), defBody (top 16), defScope (top 16)⟩
def lp_law_1 : List S := [.ex (.mu .append 2 [(.call "_law_near_value" [(.pk 1), (.var 0), (.pk 2)])])]
def lp_law_2 : List S := [.iff (.not_ (.call "_law_same" [(.call "compare_values" [(.var 4), (.var 10)]), (.call "_law_order" [(.var 4), (.var 10)])])) [.ret (.lit (.bl false))] []]
def lp_law_3 : List S := [.for_ (.nm 10) (.seq (.pk 2)) lp_law_2]
def lp_law_4 : List S := [.ex (.mu .append 5 [(.call "_law_near_row" [(.pk 1), (.var 0), (.pk 2), (.pk 5)])]), .iff (.op .eq [(.call "_law_take" [(.pk 1), (.lit (.int 4))]), (.lit (.int 0))]) [.ex (.mu .append 5 [(.call "_law_pick" [(.pk 1), (.pk 5)])])] []]
def lp_law_5 : List S := [.iff (.op .eq [(.op .len [(.lc [8] (.nm 8) (.seq (.pk 5)) [(.call "_law_same" [(.op .idx [(.pk 7), (.pk 3)]), (.pk 8)])] (.var 8))]), (.lit (.int 0))]) [.ret (.lit (.bl false))] [], .iff (.boo true [(.op .gt [(.pk 3), (.lit (.int 0))]), (.op .ne [(.call "_law_row_order" [(.op .idx [(.pk 7), (.op .sub [(.pk 3), (.lit (.int 1))])]), (.op .idx [(.pk 7), (.pk 3)])]), (.op .neg [(.lit (.int 1))])])]) [.ret (.lit (.bl false))] []]
def lp_law_6 : List S := [.iff (.op .eq [(.op .len [(.lc [3] (.nm 3) (.rng1 (.op .len [(.pk 7)])) [(.call "_law_same" [(.op .idx [(.pk 7), (.pk 3)]), (.pk 8)])] (.var 3))]), (.lit (.int 0))]) [.ret (.lit (.bl false))] []]
/-- law(_law_script) -/
def fn_law : Fn := ⟨1, 11, [], [.asg 1 (.call "_law_draws" [(.var 0), (.lit (.int 900))]),
  .asg 2 (.lst []),
  .for_ (.nm 3) (.rng1 (.lit (.int 3))) lp_law_1,
  .for_ (.nm 4) (.seq (.pk 2)) lp_law_3,
  .asg 5 (.lst []),
  .for_ (.nm 3) (.rng1 (.call "_law_take" [(.pk 1), (.lit (.int 13))])) lp_law_4,
  .asg 6 (.op .list [(.pk 5)]),
  .asg 7 (.call "sorted_rows" [(.var 6)]),
  .iff (.boo false [(.not_ (.call "_law_same" [(.var 6), (.pk 5)])), (.not_ (.op (.isinst [.tList]) [(.pk 7)]))]) [.ret (.lit (.bl false))] [],
  .for_ (.nm 3) (.rng1 (.op .len [(.pk 7)])) lp_law_5,
  .for_ (.nm 8) (.seq (.pk 5)) lp_law_6,
  .asg 9 (.op .list [(.pk 7)]),
  .ex (.mu .append 7 [(.tup [(.lit (.int 0))])]),
  .ret (.boo true [(.call "_law_same" [(.var 6), (.pk 5)]), (.call "_law_same" [(.call "sorted_rows" [(.var 6)]), (.pk 9)])])]⟩
def df_law : Df := ⟨"law", ["_law_script", "_law_draws_here", "_law_seen", "_law_k", "_law_one", "_law_rows", "_law_passed", "_law_told", "_law_row", "_law_first", "_law_other"], ["_law_script"], fn_law, defArgs (top 17), defBody (top 17), defScope (top 17)⟩
def dfs : List Df := [df_value_key, df_row_key, df_compare_values, df_sorted_rows, df_l_draws, df_l_take, df_l_pick, df_l_size, df_l_same, df_l_words, df_l_number, df_l_near_value, df_l_order, df_l_row_order, df_l_near_row, df_law]
def csts : List (Str × D) := []
def bns : List Str := ["len", "int", "str", "abs", "tuple", "list", "min", "isinstance", "range", "sorted", "bool"]
theorem bd_value_key : BindsD df_value_key := fun _ _ _ _ _ _ us hl => match us, hl with | [_], _ => rfl
theorem bd_row_key : BindsD df_row_key := fun _ _ _ _ _ _ us hl => match us, hl with | [_], _ => rfl
theorem bd_compare_values : BindsD df_compare_values := fun _ _ _ _ _ _ us hl => match us, hl with | [_, _], _ => rfl
theorem bd_sorted_rows : BindsD df_sorted_rows := fun _ _ _ _ _ _ us hl => match us, hl with | [_], _ => rfl
theorem bd_l_draws : BindsD df_l_draws := fun _ _ _ _ _ _ us hl => match us, hl with | [_, _], _ => rfl
theorem bd_l_take : BindsD df_l_take := fun _ _ _ _ _ _ us hl => match us, hl with | [_, _], _ => rfl
theorem bd_l_pick : BindsD df_l_pick := fun _ _ _ _ _ _ us hl => match us, hl with | [_, _], _ => rfl
theorem bd_l_size : BindsD df_l_size := fun _ _ _ _ _ _ us hl => match us, hl with | [_, _], _ => rfl
theorem bd_l_same : BindsD df_l_same := fun _ _ _ _ _ _ us hl => match us, hl with | [_, _], _ => rfl
theorem bd_l_words : BindsD df_l_words := fun _ _ _ _ _ _ us hl => match us, hl with | [_, _], _ => rfl
theorem bd_l_number : BindsD df_l_number := fun _ _ _ _ _ _ us hl => match us, hl with | [_, _], _ => rfl
theorem bd_l_near_value : BindsD df_l_near_value := fun _ _ _ _ _ _ us hl => match us, hl with | [_, _, _], _ => rfl
theorem bd_l_order : BindsD df_l_order := fun _ _ _ _ _ _ us hl => match us, hl with | [_, _], _ => rfl
theorem bd_l_row_order : BindsD df_l_row_order := fun _ _ _ _ _ _ us hl => match us, hl with | [_, _], _ => rfl
theorem bd_l_near_row : BindsD df_l_near_row := fun _ _ _ _ _ _ us hl => match us, hl with | [_, _, _, _], _ => rfl
theorem bd_law : BindsD df_law := fun _ _ _ _ _ _ us hl => match us, hl with | [_], _ => rfl
theorem binds : BindsAll dfs := ⟨bd_value_key, bd_row_key, bd_compare_values, bd_sorted_rows, bd_l_draws, bd_l_take, bd_l_pick, bd_l_size, bd_l_same, bd_l_words, bd_l_number, bd_l_near_value, bd_l_order, bd_l_row_order, bd_l_near_row, bd_law, trivial⟩
theorem oks : dfs.all (Df.ok dfs bns csts) = true := by decide +kernel
end PF
set_option Elab.async false
set_option linter.all false
set_option maxRecDepth 100000
set_option maxHeartbeats 2000000
namespace PF
open PySem PySem.Spec PyProof.Rows L2
theorem setS_setS : ∀ (e : Env) (i : Nat) (a b : Sl), setS (setS e i a) i b = setS e i b
  | [], i, a, b => rfl
  | s :: r, 0, a, b => rfl
  | s :: r, i + 1, a, b => by show s :: setS (setS r i a) i b = s :: setS r i b; rw [setS_setS r i a b]
/-- what is walked is not owned -/
def free (ls : List Nat) (e : Env) : Prop := ∀ i ∈ ls, isOw (getS e i) = false
theorem lock_free : ∀ {ls : List Nat} {e : Env}, free ls e → lockAll ls e = e
  | [], e, _ => rfl
  | i :: r, e, h => by
    have h1 := h i (List.mem_cons_self ..)
    show lockAll r (lockS e i) = e
    have : lockS e i = e := by
      unfold lockS
      cases hs : getS e i with
      | ow d => rw [hs] at h1; cases h1
      | _ => rfl
    rw [this]
    exact lock_free fun j hj => h j (List.mem_cons_of_mem _ hj)
theorem unlock_free {ls : List Nat} {e0 e : Env} (h : free ls e0) : unlockAll ls e0 e = e := by
  unfold unlockAll
  have : ls.filter (fun i => isOw (getS e0 i)) = [] := List.filter_eq_nil_iff.mpr fun i hi => by rw [h i hi]; decide
  rw [this]
  rfl
section
variable {Φ : Str → List Sl → FR} {γ : Str → Option D}
theorem lcGo_pure {v : Nat} {e : Env} {tst : Env → RT} {elt : Env → RE} {p : D → Bool} {g : D → D} : ∀ {ds : List D} {acc : List D} {s : Sl}, (∀ d ∈ ds, tst (setS e v (.fr d)) = .ok (p d) (setS e v (.fr d))) →
    (∀ d ∈ ds, p d = true → ∃ o, elt (setS e v (.fr d)) = .ok (flOf o) (g d) (setS e v (.fr d))) → acc.length + ds.length ≤ sizeLine → ∃ s', lcGo (asgW [v] (.nm v)) tst elt ds (setS e v s) acc = .ok (acc ++ (ds.filter p).map g) (setS e v s')
  | [], acc, s, _, _, _ => ⟨s, by rw [lcGo]; simp⟩
  | d :: ds, acc, s, h1, h2, hl => by
    rw [List.length_cons] at hl
    have e1 : asgW [v] (.nm v) d (setS e v s) = some (setS e v (.fr d)) := by
      show some (setS (setS (setS e v s) v .non) v (.fr d)) = _
      rw [setS_setS, setS_setS]
    have t1 := h1 d (List.mem_cons_self ..)
    cases hp : p d with
    | true =>
      obtain ⟨o, g1⟩ := h2 d (List.mem_cons_self ..) hp
      obtain ⟨s', k⟩ := lcGo_pure (acc := acc ++ [g d]) (s := .fr d) (fun d hd => h1 d (List.mem_cons_of_mem _ hd)) (fun d hd => h2 d (List.mem_cons_of_mem _ hd)) (by rw [List.length_append, List.length_singleton]; omega)
      refine ⟨s', ?_⟩
      rw [lcGo, e1]
      simp only [onL, t1, hp, RT.bdL, if_true, g1, RE.bdL]
      rw [List.filter_cons_of_pos hp, List.map_cons]
      cases o
      · simp only [flOf, keepL, Bool.false_eq_true, if_false]; rw [if_pos (by omega), k]; simp
      · simp only [flOf, keepL, if_true]; rw [if_pos (by omega), k]; simp
    | false =>
      obtain ⟨s', k⟩ := lcGo_pure (acc := acc) (s := .fr d) (fun d hd => h1 d (List.mem_cons_of_mem _ hd)) (fun d hd => h2 d (List.mem_cons_of_mem _ hd)) (by omega)
      refine ⟨s', ?_⟩
      rw [lcGo, e1]
      simp only [onL, t1, hp, RT.bdL, Bool.false_eq_true, if_false]
      rw [List.filter_cons_of_neg (by rw [hp]; decide), k]
theorem lc_pure {v : Nat} {it : It} {ifs : List E} {elt : E} {ds : List D} {ls : List Nat} {p : D → Bool} {g : D → D} {e : Env} (hI : evI Φ γ it e = .ok ds ls e) (hf : free ls e) (h1 : ∀ d ∈ ds, evTs Φ γ ifs (setS e v (.fr d)) = .ok (p d) (setS e v (.fr d)))
    (h2 : ∀ d ∈ ds, p d = true → ∃ o, ev Φ γ elt (setS e v (.fr d)) = .ok (flOf o) (g d) (setS e v (.fr d))) (hl : ds.length ≤ sizeLine) : ev Φ γ (.lc [v] (.nm v) it ifs elt) e = .ok .ow (.lst ((ds.filter p).map g)) e := by
  obtain ⟨s', k⟩ := lcGo_pure (e := e) (v := v) (tst := evTs Φ γ ifs) (elt := ev Φ γ elt) (p := p) (g := g) (ds := ds) (acc := []) (s := getS e v) h1 h2 (by simpa using hl)
  rw [setS_self] at k
  simp only [ev, hI, RI.bd, lock_free hf, k, RL.bd]
  rw [unlock_free hf]
  show RE.ok .ow _ (setS (setS e v s') v (getS e v)) = _
  rw [setS_setS, setS_self, List.nil_append]
theorem lc_map {v : Nat} {it : It} {elt : E} {ds : List D} {ls : List Nat} {g : D → D} {e : Env} (hI : evI Φ γ it e = .ok ds ls e) (hf : free ls e)
    (h2 : ∀ d ∈ ds, ∃ o, ev Φ γ elt (setS e v (.fr d)) = .ok (flOf o) (g d) (setS e v (.fr d))) (hl : ds.length ≤ sizeLine) : ev Φ γ (.lc [v] (.nm v) it [] elt) e = .ok .ow (.lst (ds.map g)) e := by
  have := lc_pure (ifs := []) (p := fun _ => true) (g := g) hI hf (fun d _ => by simp only [evTs]) (fun d hd _ => h2 d hd) hl
  rwa [List.filter_eq_self.mpr fun _ _ => rfl] at this
/-- a loop that may end with the value r -/
theorem forGo_ret {v : Nat} {e : Env} {body : Env → RS} {bad : D → Bool} {r : D} : ∀ {ds : List D} {s : Sl}, (∀ d ∈ ds, body (setS e v (.fr d)) = if bad d then .rt false r (setS e v (.fr d)) else .nx (setS e v (.fr d))) →
    ∃ s', forGo (asgT (.nm v)) body ds (setS e v s) = if ds.any bad then .rt false r (setS e v s') else .nx (setS e v s')
  | [], s, _ => ⟨s, by rw [forGo]; rfl⟩
  | d :: ds, s, h => by
    have h1 := h d (List.mem_cons_self ..)
    have e1 : asgT (.nm v) d (setS e v s) = some (setS e v (.fr d)) := by
      show some (setS (setS e v s) v (.fr d)) = _
      rw [setS_setS]
    rw [forGo, e1]
    simp only [onS, h1]
    cases hb : bad d with
    | true => exact ⟨.fr d, by simp [RS.lp, hb]⟩
    | false =>
      obtain ⟨s', k⟩ := forGo_ret (s := .fr d) (ds := ds) fun d hd => h d (List.mem_cons_of_mem _ hd)
      exact ⟨s', by simp only [Bool.false_eq_true, if_false, RS.lp, k, List.any_cons, hb, Bool.false_or]⟩
end
structure Pla (n : Nat) (d : D) : Prop where
  pl : d.pl = true
  dep : d.dep ≤ n
theorem Pla.of {n : Nat} {t : Sh} {d : D} (h : t.flat n = true) (hd : t.has d) : Pla n d := ⟨(flat_has h hd).1, (flat_has h hd).2⟩
theorem Pla.mono {n m : Nat} {d : D} (h : Pla n d) (hm : n ≤ m) : Pla m d := ⟨h.pl, Nat.le_trans h.dep hm⟩
theorem pls_mem : ∀ {ds : List D}, D.pls ds = true → ∀ d ∈ ds, d.pl = true
  | [], _, d, h => by cases h
  | x :: xs, h, d, hd => by
    simp only [D.pls, Bool.and_eq_true] at h
    rcases List.mem_cons.mp hd with rfl | hd
    · exact h.1
    · exact pls_mem h.2 d hd
theorem deps_mem : ∀ {ds : List D}, ∀ d ∈ ds, d.dep ≤ D.deps ds
  | [], d, h => by cases h
  | x :: xs, d, hd => by
    simp only [D.deps]
    rcases List.mem_cons.mp hd with rfl | hd
    · exact Nat.le_max_left _ _
    · exact Nat.le_trans (deps_mem d hd) (Nat.le_max_right _ _)
theorem Pla.tup {n : Nat} {ds : List D} (h : Pla (n + 1) (.tup ds)) : ∀ d ∈ ds, Pla n d := fun d hd => ⟨pls_mem h.pl d hd, by have := deps_mem d hd; have := h.dep; simp only [D.dep] at this; omega⟩
theorem Pla.lst {n : Nat} {ds : List D} (h : Pla (n + 1) (.lst ds)) : ∀ d ∈ ds, Pla n d := fun d hd => ⟨pls_mem h.pl d hd, by have := deps_mem d hd; have := h.dep; simp only [D.dep] at this; omega⟩
/-- x in xs -/
def memB (x : D) (xs : List D) : Bool := xs.any fun d => D.eq d x
theorem pyIn_ok {x : D} {xs : List D} (h1 : x.pl = true) (h2 : x.dep ≤ 60) (h3 : ∀ d ∈ xs, d.pl = true) : pyIn x xs = some (memB x xs) := by
  unfold pyIn
  rw [if_pos (by rw [h1, decide_eq_true h2, List.all_eq_true.mpr h3]; rfl)]
  rfl
theorem pIn_lst {neg : Bool} {x : D} {xs : List D} (h1 : x.pl = true) (h2 : x.dep ≤ 60) (h3 : ∀ d ∈ xs, d.pl = true) : pIn neg x (.lst xs) = some (false, .bl (if neg then !memB x xs else memB x xs)) := by
  show ((pyIn x xs).bind fun b => ob (if neg then !b else b)) = _
  unfold pyIn
  rw [if_pos (by rw [h1, decide_eq_true h2, List.all_eq_true.mpr h3]; rfl)]
  rfl
def fnSame : Fn := ⟨2, 3, [], [.iff (.op (.isinst [.tTuple, .tList]) [(.pk 1)]) [.iff (.boo false [(.op .ne [(.op (.isinst [.tTuple]) [(.pk 0)]), (.op (.isinst [.tTuple]) [(.pk 1)])]), (.op .ne [(.op (.isinst [.tList]) [(.pk 0)]), (.op (.isinst [.tList]) [(.pk 1)])])]) [.ret (.lit (.bl false))] [], .iff (.op .ne [(.op .len [(.pk 0)]), (.op .len [(.pk 1)])]) [.ret (.lit (.bl false))] [], .ret (.op .notIn [(.lit (.bl false)), (.lc [2] (.nm 2) (.rng1 (.op .len [(.pk 1)])) [] (.call "_law_same" [(.op .idx [(.pk 0), (.pk 2)]), (.op .idx [(.pk 1), (.pk 2)])]))])] [],
  .iff (.boo false [(.op .ne [(.op (.isinst [.tBool]) [(.pk 0)]), (.op (.isinst [.tBool]) [(.pk 1)])]), (.op .ne [(.op (.isinst [.tInt]) [(.pk 0)]), (.op (.isinst [.tInt]) [(.pk 1)])])]) [.ret (.lit (.bl false))] [],
  .iff (.boo false [(.op .ne [(.op (.isinst [.tStr]) [(.pk 0)]), (.op (.isinst [.tStr]) [(.pk 1)])]), (.op .ne [(.op .isN [(.pk 0)]), (.op .isN [(.pk 1)])])]) [.ret (.lit (.bl false))] [],
  .ret (.op .eq [(.pk 0), (.pk 1)])]⟩
section
variable {tab : Str → Option Fn} {γ : Str → Option D}
theorem execs_rt {Φ : Str → List Sl → FR} {s : S} {r : List S} {e e' : Env} {o : Bool} {d : D} (h : exec Φ γ s e = .rt o d e') : execs Φ γ (s :: r) e = .rt o d e' := by simp only [execs, h, RS.bd]
theorem execs_nx {Φ : Str → List Sl → FR} {s : S} {r : List S} {e e' : Env} (h : exec Φ γ s e = .nx e') : execs Φ γ (s :: r) e = execs Φ γ r e' := by simp only [execs, h, RS.bd]
theorem iff_t {Φ : Str → List Sl → FR} {c : E} {a b : List S} {e e' : Env} (h : ev Φ γ c e = .ok .fr (.bl true) e') : exec Φ γ (.iff c a b) e = execs Φ γ a e' := by simp only [exec, evT, h, RE.truth, RE.bdT, late, Option.bind_some, truthy, onT, RT.bdS, if_true]
theorem iff_f {Φ : Str → List Sl → FR} {c : E} {a b : List S} {e e' : Env} (h : ev Φ γ c e = .ok .fr (.bl false) e') : exec Φ γ (.iff c a b) e = execs Φ γ b e' := by simp only [exec, evT, h, RE.truth, RE.bdT, late, Option.bind_some, truthy, onT, RT.bdS, Bool.false_eq_true, if_false]
theorem skip_f {Φ : Str → List Sl → FR} {c : E} {a r : List S} {e : Env} (h : ev Φ γ c e = .ok .fr (.bl false) e) : execs Φ γ (.iff c a [] :: r) e = execs Φ γ r e := execs_nx ((iff_f h).trans (by simp only [execs]))
/-- rows no longer than m, through and through -/
def longs (m : Nat) : Nat → D → Prop
  | 0, _ => True
  | n + 1, d => ∀ ds, d = .tup ds ∨ d = .lst ds → ds.length ≤ m ∧ ∀ x ∈ ds, longs m n x
end
section
variable {Φ : Str → List Sl → FR} {γ : Str → Option D} {e : Env}
def Val (Φ : Str → List Sl → FR) (γ : Str → Option D) (e : Env) (a : E) (d : D) : Prop := ∃ f x, ev Φ γ a e = .ok f x e ∧ late f x e = some d
theorem Val.of {a : E} {d : D} {o : Bool} (h : ev Φ γ a e = .ok (flOf o) d e) : Val Φ γ e a d := ⟨flOf o, d, h, by cases o <;> rfl⟩
theorem Val.pk {i : Nat} {d : D} (h : (getS e i).d? = some d) : Val Φ γ e (.pk i) d := ⟨.pl i, d, by simp only [ev, h, onE], h⟩
theorem Val.lit (d : D) : Val Φ γ e (.lit d) d := ⟨.fr, d, by simp only [ev], rfl⟩
theorem Val.var {i : Nat} {d : D} (h : getS e i = .fr d) : Val Φ γ e (.var i) d := ⟨.fr, d, by simp only [ev, h, varE], rfl⟩
theorem opV1 {p : Op} {a : E} {d r : D} {o : Bool} (h : Val Φ γ e a d) (hp : prim p [d] = some (o, r)) : ev Φ γ (.op p [a]) e = .ok (flOf o) r e := by
  obtain ⟨f, x, h1, h2⟩ := h
  rw [show ev Φ γ (.op p [a]) e = (evs Φ γ [a] e).bd fun vs e1 => onE (lates vs e1) fun ds => primE e1 (prim p ds) from by simp only [ev]]
  simp only [evs, h1, RE.bds, REs.bds, REs.bd, lates, h2, onE, hp, primE]
theorem opV2 {p : Op} {a b : E} {d1 d2 r : D} {o : Bool} (h : Val Φ γ e a d1) (h' : Val Φ γ e b d2) (hp : prim p [d1, d2] = some (o, r)) : ev Φ γ (.op p [a, b]) e = .ok (flOf o) r e := by
  obtain ⟨f, x, h1, h2⟩ := h
  obtain ⟨f', x', h3, h4⟩ := h'
  rw [show ev Φ γ (.op p [a, b]) e = (evs Φ γ [a, b] e).bd fun vs e1 => onE (lates vs e1) fun ds => primE e1 (prim p ds) from by simp only [ev]]
  simp only [evs, h1, h3, RE.bds, REs.bds, REs.bd, lates, h2, h4, onE, hp, primE]
theorem boo2 {c : Bool} {a b : E} {x y : Bool} (h : Val Φ γ e a (.bl x)) (h' : x = c → ev Φ γ b e = .ok .fr (.bl y) e) : ev Φ γ (.boo c [a, b]) e = .ok .fr (.bl (if x = c then y else x)) e := by
  obtain ⟨f, v, h1, h2⟩ := h
  simp only [ev, evB, h1, RE.bd, h2, boolE]
  split
  · rename_i q; rw [h' q]
  · rfl
theorem not1 {a : E} {x : Bool} (h : Val Φ γ e a (.bl x)) : ev Φ γ (.not_ a) e = .ok .fr (.bl (!x)) e := by
  obtain ⟨f, v, h1, h2⟩ := h
  simp only [ev, h1, RE.bd, h2, boolE]
theorem ret1 {a : E} {d : D} {o : Bool} {e' : Env} (h : ev Φ γ a e = .ok (flOf o) d e') : exec Φ γ (.ret a) e = .rt o d e' := by
  simp only [exec, h, RE.bdS]
  cases o <;> rfl
theorem asg1 {i : Nat} {a : E} {d : D} {o : Bool} {e' : Env} (h : ev Φ γ a e = .ok (flOf o) d e') : exec Φ γ (.asg i a) e = .nx (setS e' i (slOf o d)) := by
  simp only [exec, h, RE.bdS]
  cases o <;> rfl
theorem seqV {a : E} {f : Fl} {x d : D} (h : ev Φ γ a e = .ok f x e) (h2 : late f x e = some d) : evI Φ γ (.seq a) e = seqI f e (some d) := by
  simp only [evI, h, RE.bdI, h2]
theorem fn_rt {fn : Fn} {as : List Sl} {o : Bool} {d : D} {e' : Env} (ha : (decide (as.length = fn.ps) && argsOk fn.refs 0 as) = true) (hx : execs Φ γ fn.body (as ++ List.replicate (fn.n - fn.ps) .non) = .rt o d e') : fn.run Φ γ as = .ok (o && keptO fn.refs as e') d (outsOf fn.refs fn.ps e') := by
  unfold Fn.run
  rw [if_pos ha, hx]
  rfl
end
end PF
set_option Elab.async false
set_option linter.all false
set_option maxRecDepth 100000
set_option maxHeartbeats 2000000
namespace PF
open PySem PySem.Spec PyProof.Rows L2
def fst (p : D) : D := match p with
  | .tup (x :: _) => x
  | d => d
def snd (p : D) : D := match p with
  | .tup [_, t] => t
  | d => d
end PF
set_option Elab.async false
set_option linter.all false
set_option maxRecDepth 100000
set_option maxHeartbeats 2000000
namespace PF
open PySem PySem.Spec PyProof.Rows L2
section
variable {Φ : Str → List Sl → FR} {γ : Str → Option D} {e : Env}
/-- arguments by value: the names stay as they are -/
def ArgsF (Φ : Str → List Sl → FR) (γ : Str → Option D) (e : Env) : List E → List D → Prop
  | [], [] => True
  | a :: es, d :: ds => (∃ o, ev Φ γ a e = .ok (flOf o) d e) ∧ ArgsF Φ γ e es ds
  | _, _ => False
theorem args_evs : ∀ {es : List E} {ds : List D}, ArgsF Φ γ e es ds → ∃ vs, evs Φ γ es e = .ok vs e ∧ places vs = [] ∧ lend vs e = ds.map .fr ∧ stored vs = some ds ∧ ∀ outs, back vs outs e = some e
  | [], [], _ => ⟨[], by simp only [evs], rfl, rfl, rfl, fun outs => by simp only [back]⟩
  | a :: es, d :: ds, h => by
    obtain ⟨⟨o, h1⟩, h2⟩ := h
    obtain ⟨vs, k1, k2, k3, k4, k5⟩ := args_evs h2
    refine ⟨(flOf o, d) :: vs, by simp only [evs, h1, RE.bds, k1, REs.bds], ?_, ?_, ?_, fun outs => ?_⟩
    · cases o <;> simp [flOf, places, k2]
    · cases o <;> simp [flOf, lend, k3]
    · cases o <;> simp [flOf, stored, k4]
    · cases o <;> cases outs <;> simp [flOf, back, k5]
  | [], _ :: _, h => h.elim
  | _ :: _, [], h => h.elim
theorem argV {i : Nat} {d : D} (h : getS e i = .fr d) : ∃ o, ev Φ γ (.var i) e = .ok (flOf o) d e := ⟨false, by simp only [ev, h, varE]; rfl⟩
theorem argL (d : D) : ∃ o, ev Φ γ (.lit d) e = .ok (flOf o) d e := ⟨false, by simp only [ev]; rfl⟩
theorem callF {f : Str} {es : List E} {ds : List D} {o : Bool} {r : D} {outs : List Sl} (h : ArgsF Φ γ e es ds) (hf : Φ f (ds.map .fr) = .ok o r outs) : ev Φ γ (.call f es) e = .ok (flOf o) r e := by
  obtain ⟨vs, k1, k2, k3, _, k5⟩ := args_evs h
  simp only [ev, k1, REs.bd, k2, nodupN, if_true, k3, hf, callE, k5, onE]
theorem tupF {es : List E} {ds : List D} (h : ArgsF Φ γ e es ds) (hl : ds.length ≤ sizeLine) : ev Φ γ (.tup es) e = .ok .fr (.tup ds) e := by
  obtain ⟨vs, k1, _, _, k4, _⟩ := args_evs h
  simp only [ev, k1, REs.bd, storedE, k4, onE]
  rw [if_pos hl]
theorem lstF {es : List E} {ds : List D} (h : ArgsF Φ γ e es ds) (hl : ds.length ≤ sizeLine) : ev Φ γ (.lst es) e = .ok .ow (.lst ds) e := by
  obtain ⟨vs, k1, _, _, k4, _⟩ := args_evs h
  simp only [ev, k1, REs.bd, storedE, k4, onE]
  rw [if_pos hl]
/-- the place 0 is lent, the rest by value -/
theorem callP {f : Str} {i : Nat} {es : List E} {ds : List D} {o : Bool} {r s : D} {outs : List Sl} {x : Sl} (h0 : getS e i = x) (hx : x.d? = some s) (h : ArgsF Φ γ e es ds) {x' : Sl} (hn : isNon x' = false) (hf : Φ f (x :: ds.map .fr) = .ok o r (x' :: outs)) : ev Φ γ (.call f (.pk i :: es)) e = .ok (flOf o) r (setS e i x') := by
  obtain ⟨vs, k1, k2, k3, _, k5⟩ := args_evs h
  have e1 : evs Φ γ (.pk i :: es) e = .ok ((.pl i, s) :: vs) e := by
    simp only [evs, ev, h0, hx, onE, RE.bds, k1, REs.bds]
  have bk : ∀ {vs : List (Fl × D)} (outs : List Sl) (e' : Env), places vs = [] → back vs outs e' = some e' := by
    intro vs
    induction vs with
    | nil => intro outs e' _; simp only [back]
    | cons v vs ih =>
      intro outs e' hp
      obtain ⟨f, d⟩ := v
      cases f with
      | fr => cases outs <;> (simp only [back]; exact ih _ _ (by simpa [places] using hp))
      | ow => cases outs <;> (simp only [back]; exact ih _ _ (by simpa [places] using hp))
      | pl j => simp [places] at hp
  simp only [ev, e1, REs.bd, places, k2, nodupN, List.contains_nil, Bool.not_false, Bool.and_self, if_true, lend, h0, k3, hf, callE, back, hn, Bool.false_eq_true, if_false, bk outs _ k2, onE]
theorem idxV {a b : E} {x i r : D} (h : Val Φ γ e a x) (h' : Val Φ γ e b i) (hp : pIdx x i = some (false, r)) : ev Φ γ (.op .idx [a, b]) e = .ok .fr r e := opV2 (o := false) h h' hp
end
end PF
set_option Elab.async false
set_option linter.all false
set_option maxRecDepth 100000
set_option maxHeartbeats 1000000
namespace PF
open PySem PySem.Spec PyProof.Rows L2
abbrev Mon := List (Int × Int)
def pP (p : Int × Int) : PyData := .tuple [.int p.1, .int p.2]
theorem toks_cons (p : Int × Int) (r : List PyData) : W.keyToksAll (pP p :: r) = .inl 1 :: .inl 1 :: .inl p.1 :: .inl 1 :: .inl p.2 :: .inl 0 :: W.keyToksAll r := by
  simp [W.keyToksAll, W.keyToks, pP]
theorem toks_inj : ∀ {a b : Mon}, W.keyToksAll (a.map pP) = W.keyToksAll (b.map pP) → a = b
  | [], [], _ => rfl
  | [], q :: b, h => by
    rw [List.map_cons, toks_cons] at h
    simp [W.keyToksAll] at h
  | p :: a, [], h => by
    rw [List.map_cons, toks_cons] at h
    simp [W.keyToksAll] at h
  | p :: a, q :: b, h => by
    rw [List.map_cons, List.map_cons, toks_cons, toks_cons] at h
    simp only [List.cons.injEq, Sum.inl.injEq, true_and] at h
    rw [toks_inj h.2.2, Prod.ext h.1 h.2.1]
def mLt (a b : Mon) : Bool := (listOrd itemOrd).blt (W.keyToksAll (a.map pP)) (W.keyToksAll (b.map pP))
def mLe (a b : Mon) : Bool := !(mLt b a)
theorem mLe_trans (a b c : Mon) (h1 : mLe a b = true) (h2 : mLe b c = true) : mLe a c = true := by
  unfold mLe at h1 h2 ⊢
  rw [Bool.not_eq_true'] at h1 h2 ⊢
  cases h : mLt c a with
  | false => rfl
  | true =>
    rcases (listOrd itemOrd).negTrans _ (W.keyToksAll (b.map pP)) _ h with q | q
    · have q' : mLt c b = true := q
      rw [q'] at h2; cases h2
    · have q' : mLt b a = true := q
      rw [q'] at h1; cases h1
theorem mLe_total (a b : Mon) : (mLe a b || mLe b a) = true := by
  unfold mLe
  cases h : mLt b a with
  | false => rfl
  | true =>
    cases h2 : mLt a b with
    | false => rfl
    | true =>
      have q := (listOrd itemOrd).trans _ _ _ h h2
      rw [(listOrd itemOrd).irrefl] at q
      cases q
theorem mLe_antisymm {a b : Mon} (h1 : mLe a b = true) (h2 : mLe b a = true) : a = b := by
  unfold mLe at h1 h2
  rw [Bool.not_eq_true'] at h1 h2
  exact toks_inj ((listOrd itemOrd).total _ _ h2 h1)
def sortM (ms : List Mon) : List Mon := ms.mergeSort mLe
theorem mem_sortM {m : Mon} {a : List Mon} : m ∈ sortM a ↔ m ∈ a := (List.mergeSort_perm a mLe).mem_iff
theorem len_sortM (a : List Mon) : (sortM a).length = a.length := (List.mergeSort_perm a mLe).length_eq
def putK1 (acc : List Mon) (m : Mon) : List Mon := if m ∈ acc then acc else acc ++ [m]
/-- what the loop makes of the pairs -/
def kysF (acc : List Mon) : List (Mon × Int) → List Mon
  | [] => acc
  | q :: r => kysF (putK1 acc q.1) r
def tot (m : Mon) : List (Mon × Int) → Int
  | [] => 0
  | q :: r => (if q.1 = m then q.2 else 0) + tot m r
theorem kysF_mem {m : Mon} : ∀ {ps : List (Mon × Int)} {acc : List Mon}, m ∈ kysF acc ps ↔ m ∈ acc ∨ ∃ q ∈ ps, q.1 = m
  | [], acc => by simp [kysF]
  | q :: r, acc => by
    rw [kysF, kysF_mem]
    unfold putK1
    by_cases c : q.1 ∈ acc
    · rw [if_pos c]
      constructor
      · rintro (h | ⟨x, hx, e⟩)
        · exact .inl h
        · exact .inr ⟨x, .tail _ hx, e⟩
      · rintro (h | ⟨x, hx, e⟩)
        · exact .inl h
        · rcases List.mem_cons.mp hx with rfl | hx
          · exact .inl (e ▸ c)
          · exact .inr ⟨x, hx, e⟩
    · rw [if_neg c]
      constructor
      · rintro (h | ⟨x, hx, e⟩)
        · rcases List.mem_append.mp h with h | h
          · exact .inl h
          · exact .inr ⟨q, .head _, (List.mem_singleton.mp h).symm⟩
        · exact .inr ⟨x, .tail _ hx, e⟩
      · rintro (h | ⟨x, hx, e⟩)
        · exact .inl (List.mem_append_left _ h)
        · rcases List.mem_cons.mp hx with rfl | hx
          · exact .inl (List.mem_append_right _ (by simp [e]))
          · exact .inr ⟨x, hx, e⟩
theorem kysF_nodup : ∀ {ps : List (Mon × Int)} {acc : List Mon}, acc.Nodup → (kysF acc ps).Nodup
  | [], acc, h => h
  | q :: r, acc, h => by
    rw [kysF]
    refine kysF_nodup ?_
    unfold putK1
    split
    · exact h
    · rename_i c
      rw [List.nodup_append]
      exact ⟨h, by simp, fun a ha b hb z => c (by rw [List.mem_singleton] at hb; rw [← hb, ← z]; exact ha)⟩
theorem kysF_len : ∀ {ps : List (Mon × Int)} {acc : List Mon}, (kysF acc ps).length ≤ acc.length + ps.length
  | [], acc => by simp [kysF]
  | q :: r, acc => by
    rw [kysF]
    have := kysF_len (ps := r) (acc := putK1 acc q.1)
    have h2 : (putK1 acc q.1).length ≤ acc.length + 1 := by
      unfold putK1
      split
      · omega
      · simp
    rw [List.length_cons]
    omega
/-- the sum of a formula's pairs -/
def addF (ps : List (Mon × Int)) : List (Mon × Int) := (sortM (kysF [] ps)).map fun m => (m, tot m ps)
theorem addF_keys (ps : List (Mon × Int)) (m : Mon) : (∃ q ∈ addF ps, q.1 = m) ↔ ∃ q ∈ ps, q.1 = m := by
  unfold addF
  constructor
  · rintro ⟨q, hq, rfl⟩
    obtain ⟨m, hm, rfl⟩ := List.mem_map.mp hq
    have := kysF_mem.mp (mem_sortM.mp hm)
    simpa using this
  · rintro ⟨q, hq, rfl⟩
    exact ⟨(q.1, tot q.1 ps), List.mem_map.mpr ⟨q.1, mem_sortM.mpr (kysF_mem.mpr (.inr ⟨q, hq, rfl⟩)), rfl⟩, rfl⟩
theorem tot_pos {m : Mon} : ∀ {ps : List (Mon × Int)}, (∀ q ∈ ps, 1 ≤ q.2) → 0 ≤ tot m ps ∧ ((∃ q ∈ ps, q.1 = m) → 1 ≤ tot m ps)
  | [], _ => ⟨Int.le_refl 0, fun ⟨q, h, _⟩ => by cases h⟩
  | q :: r, h => by
    have ih := tot_pos (m := m) fun x hx => h x (.tail _ hx)
    have hq := h q (.head _)
    rw [tot]
    split
    · rename_i c
      exact ⟨by omega, fun _ => by omega⟩
    · rename_i c
      refine ⟨by omega, fun ⟨x, hx, e⟩ => ?_⟩
      rcases List.mem_cons.mp hx with rfl | hx
      · exact absurd e c
      · have := ih.2 ⟨x, hx, e⟩
        omega
theorem addF_pos {ps : List (Mon × Int)} (h : ∀ q ∈ ps, 1 ≤ q.2) : ∀ q ∈ addF ps, 1 ≤ q.2 := fun q hq => by
  unfold addF at hq
  obtain ⟨m, hm, rfl⟩ := List.mem_map.mp hq
  have := kysF_mem.mp (mem_sortM.mp hm)
  exact (tot_pos h).2 (by simpa using this)
theorem addF_len (ps : List (Mon × Int)) : (addF ps).length ≤ ps.length := by
  unfold addF
  rw [List.length_map, len_sortM]
  have := kysF_len (ps := ps) (acc := [])
  simpa using this
end PF
set_option Elab.async false
set_option linter.all false
set_option maxRecDepth 100000
set_option maxHeartbeats 2000000
namespace PF
open PySem PySem.Spec PyProof.Rows L2
section
variable (Φ : Str → List Sl → FR) (γ : Str → Option D)
theorem at0 (a : D) (r : List D) : atI (a :: r) 0 = some a := by simp [atI, ixN]
end
end PF
set_option Elab.async false
set_option linter.all false
set_option maxRecDepth 100000
set_option maxHeartbeats 1000000
namespace PF
open PySem PySem.Spec PyProof.Rows L2
def iLe (a b : Int) : Bool := decide (a ≤ b)
theorem iLe_trans (a b c : Int) (h1 : iLe a b = true) (h2 : iLe b c = true) : iLe a c = true := by
  unfold iLe at h1 h2 ⊢
  simp only [decide_eq_true_eq] at h1 h2 ⊢
  omega
theorem iLe_total (a b : Int) : (iLe a b || iLe b a) = true := by
  unfold iLe
  simp only [Bool.or_eq_true, decide_eq_true_eq]
  omega
def sortI (ms : List Int) : List Int := ms.mergeSort iLe
theorem mem_sortI {m : Int} {a : List Int} : m ∈ sortI a ↔ m ∈ a := (List.mergeSort_perm a iLe).mem_iff
theorem len_sortI (a : List Int) : (sortI a).length = a.length := (List.mergeSort_perm a iLe).length_eq
def putKi (acc : List Int) (m : Int) : List Int := if m ∈ acc then acc else acc ++ [m]
/-- what the loop makes of the pairs -/
def kysI (acc : List Int) : List (Int × Int) → List Int
  | [] => acc
  | q :: r => kysI (putKi acc q.1) r
def totI (m : Int) : List (Int × Int) → Int
  | [] => 0
  | q :: r => (if q.1 = m then q.2 else 0) + totI m r
theorem kysI_mem {m : Int} : ∀ {ps : List (Int × Int)} {acc : List Int}, m ∈ kysI acc ps ↔ m ∈ acc ∨ ∃ q ∈ ps, q.1 = m
  | [], acc => by simp [kysI]
  | q :: r, acc => by
    rw [kysI, kysI_mem]
    unfold putKi
    by_cases c : q.1 ∈ acc
    · rw [if_pos c]
      constructor
      · rintro (h | ⟨x, hx, e⟩)
        · exact .inl h
        · exact .inr ⟨x, .tail _ hx, e⟩
      · rintro (h | ⟨x, hx, e⟩)
        · exact .inl h
        · rcases List.mem_cons.mp hx with rfl | hx
          · exact .inl (e ▸ c)
          · exact .inr ⟨x, hx, e⟩
    · rw [if_neg c]
      constructor
      · rintro (h | ⟨x, hx, e⟩)
        · rcases List.mem_append.mp h with h | h
          · exact .inl h
          · exact .inr ⟨q, .head _, (List.mem_singleton.mp h).symm⟩
        · exact .inr ⟨x, .tail _ hx, e⟩
      · rintro (h | ⟨x, hx, e⟩)
        · exact .inl (List.mem_append_left _ h)
        · rcases List.mem_cons.mp hx with rfl | hx
          · exact .inl (List.mem_append_right _ (by simp [e]))
          · exact .inr ⟨x, hx, e⟩
theorem kysI_nodup : ∀ {ps : List (Int × Int)} {acc : List Int}, acc.Nodup → (kysI acc ps).Nodup
  | [], acc, h => h
  | q :: r, acc, h => by
    rw [kysI]
    refine kysI_nodup ?_
    unfold putKi
    split
    · exact h
    · rename_i c
      rw [List.nodup_append]
      exact ⟨h, by simp, fun a ha b hb z => c (by rw [List.mem_singleton] at hb; rw [← hb, ← z]; exact ha)⟩
theorem kysI_len : ∀ {ps : List (Int × Int)} {acc : List Int}, (kysI acc ps).length ≤ acc.length + ps.length
  | [], acc => by simp [kysI]
  | q :: r, acc => by
    rw [kysI]
    have := kysI_len (ps := r) (acc := putKi acc q.1)
    have h2 : (putKi acc q.1).length ≤ acc.length + 1 := by
      unfold putKi
      split
      · omega
      · simp
    rw [List.length_cons]
    omega
/-- the sum of a formula's pairs -/
def addI (ps : List (Int × Int)) : List (Int × Int) := (sortI (kysI [] ps)).map fun m => (m, totI m ps)
theorem addI_keys (ps : List (Int × Int)) (m : Int) : (∃ q ∈ addI ps, q.1 = m) ↔ ∃ q ∈ ps, q.1 = m := by
  unfold addI
  constructor
  · rintro ⟨q, hq, rfl⟩
    obtain ⟨m, hm, rfl⟩ := List.mem_map.mp hq
    have := kysI_mem.mp (mem_sortI.mp hm)
    simpa using this
  · rintro ⟨q, hq, rfl⟩
    exact ⟨(q.1, totI q.1 ps), List.mem_map.mpr ⟨q.1, mem_sortI.mpr (kysI_mem.mpr (.inr ⟨q, hq, rfl⟩)), rfl⟩, rfl⟩
theorem tot_posI {m : Int} : ∀ {ps : List (Int × Int)}, (∀ q ∈ ps, 1 ≤ q.2) → 0 ≤ totI m ps ∧ ((∃ q ∈ ps, q.1 = m) → 1 ≤ totI m ps)
  | [], _ => ⟨Int.le_refl 0, fun ⟨q, h, _⟩ => by cases h⟩
  | q :: r, h => by
    have ih := tot_posI (m := m) fun x hx => h x (.tail _ hx)
    have hq := h q (.head _)
    rw [totI]
    split
    · rename_i c
      exact ⟨by omega, fun _ => by omega⟩
    · rename_i c
      refine ⟨by omega, fun ⟨x, hx, e⟩ => ?_⟩
      rcases List.mem_cons.mp hx with rfl | hx
      · exact absurd e c
      · have := ih.2 ⟨x, hx, e⟩
        omega
theorem addI_pos {ps : List (Int × Int)} (h : ∀ q ∈ ps, 1 ≤ q.2) : ∀ q ∈ addI ps, 1 ≤ q.2 := fun q hq => by
  unfold addI at hq
  obtain ⟨m, hm, rfl⟩ := List.mem_map.mp hq
  have := kysI_mem.mp (mem_sortI.mp hm)
  exact (tot_posI h).2 (by simpa using this)
theorem addI_len (ps : List (Int × Int)) : (addI ps).length ≤ ps.length := by
  unfold addI
  rw [List.length_map, len_sortI]
  have := kysI_len (ps := ps) (acc := [])
  simpa using this
end PF
set_option Elab.async false
set_option linter.all false
set_option maxRecDepth 100000
set_option maxHeartbeats 2000000
namespace PF
open PySem PySem.Spec PyProof.Rows L2
theorem tot_le {m : Mon} {c : Int} : ∀ {ps : List (Mon × Int)}, (∀ q ∈ ps, 1 ≤ q.2 ∧ q.2 ≤ c) → tot m ps ≤ ps.length * c ∧ (ps ≠ [] → 0 ≤ c)
  | [], _ => ⟨by simp [tot], fun h => absurd rfl h⟩
  | q :: r, h => by
    have ih := (tot_le (m := m) fun x hx => h x (.tail _ hx)).1
    have hq := h q (.head _)
    refine ⟨?_, fun _ => by omega⟩
    rw [tot, List.length_cons]
    have e : ((r.length + 1 : Nat) : Int) * c = r.length * c + c := by push_cast; rw [Int.add_mul, Int.one_mul]
    rw [e]
    split <;> omega
end PF
set_option Elab.async false
set_option linter.all false
set_option maxRecDepth 100000
set_option maxHeartbeats 2000000
namespace PF
open PySem PySem.Spec PyProof.Rows L2
section
variable (Φ : Str → List Sl → FR) (γ : Str → Option D)
def hd1 : D → D
  | .tup (a :: _) => a
  | d => d
end
end PF
set_option Elab.async false
set_option linter.all false
set_option maxRecDepth 100000
set_option maxHeartbeats 2000000
namespace PF
open PySem PySem.Spec PyProof.Rows L2
def jM (ps : Mon) : Mon := addI ps
theorem jM_len (a : Mon) : (jM a).length ≤ a.length := addI_len a
end PF
set_option Elab.async false
set_option linter.all false
set_option maxRecDepth 100000
set_option maxHeartbeats 2000000
namespace PF
open PySem PySem.Spec PyProof.Rows L2
/-- coefficients that may be multiplied -/
def mulG (x : Int) : Prop := 1 ≤ x ∧ x ≤ 1000000000000000000
section
variable (Φ : Str → List Sl → FR) (γ : Str → Option D)
/-- formulas that may be multiplied -/
structure Mu2 (F O : List (Mon × Int)) : Prop where
  a : ∀ x ∈ F, mulG x.2
  b : ∀ x ∈ F, x.1.length ≤ 1000
  c : ∀ y ∈ O, y.1.length ≤ 1000
  d : F.length ≤ 100
  e : O.length ≤ 100
end
end PF
set_option Elab.async false
set_option linter.all false
set_option maxRecDepth 100000
set_option maxHeartbeats 2000000
namespace PF
open PySem PySem.Spec PyProof.Rows L2
def rt (rs : List Int) (p : Int × Int) : Int := if p.1 < 5 then rs.getD (p.1 - 1).toNat 0 else p.1
def rtS (rs : List Int) (acc : Mon) (p : Int × Int) : Mon := jM (acc ++ [(rt rs p, p.2)])
def rtM (rs : List Int) (m : Mon) : Mon := m.foldl (rtS rs) []
def retF (rs : List Int) (f : List (Mon × Int)) : List (Mon × Int) := f.map fun q => (rtM rs q.1, q.2)
theorem fold_len (rs : List Int) : ∀ (m acc : Mon), (m.foldl (rtS rs) acc).length ≤ acc.length + m.length
  | [], acc => Nat.le_refl _
  | p :: m, acc => by
    rw [List.foldl_cons]
    have := fold_len rs m (rtS rs acc p)
    have h2 : (rtS rs acc p).length ≤ acc.length + 1 := by
      unfold rtS
      have := jM_len (acc ++ [(rt rs p, p.2)])
      simpa using this
    rw [List.length_cons]
    omega
theorem rtM_len (rs : List Int) (m : Mon) : (rtM rs m).length ≤ m.length := by
  have := fold_len rs m []
  simpa [rtM] using this
/-- a formula within bounds: n pairs, coefficients to c -/
structure Fq (f : List (Mon × Int)) (n : Nat) (c : Int) : Prop where
  pos : ∀ q ∈ f, 1 ≤ q.2
  top : ∀ q ∈ f, q.2 ≤ c
  key : ∀ q ∈ f, q.1.length ≤ 8
  can : ∀ q ∈ f, jM q.1 = q.1
  len : f.length ≤ n
theorem Fq.add {f : List (Mon × Int)} {n : Nat} {c : Int} (h : Fq f n c) (hc : 0 ≤ c) : Fq (addF f) n (n * c) := by
  refine ⟨addF_pos h.pos, fun q hq => ?_, fun q hq => ?_, fun q hq => ?_, Nat.le_trans (addF_len f) h.len⟩
  · have e : q.2 = tot q.1 f := by
      unfold addF at hq
      obtain ⟨m, _, rfl⟩ := List.mem_map.mp hq
      rfl
    rw [e]
    have a := (tot_le (m := q.1) (c := c) (ps := f) fun x hx => ⟨h.pos x hx, h.top x hx⟩).1
    exact Int.le_trans a (Int.mul_le_mul_of_nonneg_right (by have := h.len; omega) hc)
  · obtain ⟨q0, h0, e⟩ := (addF_keys f q.1).mp ⟨q, hq, rfl⟩
    rw [← e]
    exact h.key q0 h0
  · obtain ⟨q0, h0, e⟩ := (addF_keys f q.1).mp ⟨q, hq, rfl⟩
    rw [← e]
    exact h.can q0 h0
end PF
set_option Elab.async false
set_option linter.all false
set_option maxRecDepth 100000
set_option maxHeartbeats 2000000
namespace PF
open PySem PySem.Spec PyProof.Rows L2
theorem longs_int (n : Nat) (i : Int) : longs 16777216 n (.int i) := by
  cases n with
  | zero => trivial
  | succ n =>
    intro ds hk
    rcases hk with hk | hk <;> cases hk
end PF
set_option Elab.async false
set_option linter.all false
set_option maxRecDepth 100000
set_option maxHeartbeats 2000000
namespace PF
open PySem PySem.Spec PyProof.Rows L2
def monGo (before : Int) : Mon → Bool
  | [] => true
  | p :: r => decide (before < p.1) && decide (1 ≤ p.2) && monGo p.1 r
def isMon (m : Mon) : Bool := monGo 0 m
theorem monGo_iff : ∀ (m : Mon) (b : Int), monGo b m = true ↔ (∀ p ∈ m, b < p.1 ∧ 1 ≤ p.2) ∧ (m.map (·.1)).Pairwise fun a b => a < b
  | [], b => by simp [monGo]
  | p :: m, b => by
    simp only [monGo, Bool.and_eq_true, decide_eq_true_eq, monGo_iff m p.1, List.map_cons, List.pairwise_cons, List.mem_cons, List.mem_map]
    constructor
    · rintro ⟨⟨h1, h2⟩, h3, h4⟩
      refine ⟨fun q hq => ?_, fun a ⟨q, hq, e⟩ => e ▸ (h3 q hq).1, h4⟩
      rcases hq with rfl | hq
      · exact ⟨h1, h2⟩
      · have := h3 q hq
        exact ⟨by omega, this.2⟩
    · rintro ⟨h1, h2, h3⟩
      exact ⟨h1 p (.inl rfl), fun q hq => ⟨h2 q.1 ⟨q, hq, rfl⟩, (h1 q (.inr hq)).2⟩, h3⟩
def upF (f : List (Mon × Int)) : Bool := decide ((f.map (·.1)).Pairwise fun a b => mLt a b = true)
def isFor (f : List (Mon × Int)) : Bool := (f.all fun q => isMon q.1 && decide (1 ≤ q.2)) && upF f
end PF
set_option Elab.async false
set_option linter.all false
set_option maxRecDepth 100000
set_option maxHeartbeats 2000000
namespace PF
open PySem PySem.Spec PyProof.Rows L2
theorem memB_fls {α : Type} (g : α → Bool) : ∀ xs : List α, memB (.bl false) (xs.map fun x => .bl (g x)) = !xs.all g
  | [] => rfl
  | x :: xs => by
    have ih := memB_fls g xs
    unfold memB at ih ⊢
    rw [List.map_cons, List.any_cons, ih, List.all_cons]
    have : D.eq (.bl (g x)) (.bl false) = !g x := by cases g x <;> rfl
    rw [this]
    cases g x <;> cases xs.all g <;> rfl
theorem pIn_fls {α : Type} {neg : Bool} (g : α → Bool) (xs : List α) : pIn neg (.bl false) (.lst (xs.map fun x => .bl (g x))) = some (false, .bl (if neg then xs.all g else !xs.all g)) := by
  rw [pIn_lst rfl (Nat.zero_le _) (fun d hd => by obtain ⟨_, _, rfl⟩ := List.mem_map.mp hd; rfl), memB_fls]
  cases neg <;> simp
theorem plsA {ds : List D} (h : ∀ d ∈ ds, d.pl = true) : D.pls ds = true := by
  rw [pls_all]
  exact List.all_eq_true.mpr h
theorem deps_all {n : Nat} : ∀ {ds : List D}, (∀ d ∈ ds, d.dep ≤ n) → D.deps ds ≤ n
  | [], _ => by simp [D.deps]
  | d :: ds, h => by
    have := deps_all (n := n) (ds := ds) fun x hx => h x (.tail _ hx)
    have := h d (.head _)
    simp only [D.deps]
    omega
end PF
set_option Elab.async false
set_option linter.all false
set_option maxRecDepth 100000
set_option maxHeartbeats 2000000
set_option Elab.async false
set_option linter.all false
set_option maxRecDepth 100000
set_option maxHeartbeats 2000000
namespace PF
open PySem PySem.Spec PyProof.Rows L2
theorem sortI_lt {ns : List Int} (h : ns.Nodup) : (sortI ns).Pairwise fun a b => a < b := by
  have p1 : (sortI ns).Pairwise fun a b => iLe a b = true := List.pairwise_mergeSort iLe_trans iLe_total ns
  have p2 : (sortI ns).Nodup := (List.mergeSort_perm ns iLe).nodup_iff.mpr h
  refine (p1.and p2).imp fun {a b} ⟨h1, h2⟩ => ?_
  unfold iLe at h1
  rw [decide_eq_true_eq] at h1
  have h2 : a ≠ b := h2
  omega
theorem sortM_lt {ms : List Mon} (h : ms.Nodup) : (sortM ms).Pairwise fun a b => mLt a b = true := by
  have p1 : (sortM ms).Pairwise fun a b => mLe a b = true := List.pairwise_mergeSort mLe_trans mLe_total ms
  have p2 : (sortM ms).Nodup := (List.mergeSort_perm ms mLe).nodup_iff.mpr h
  refine (p1.and p2).imp fun {a b} ⟨h1, h2⟩ => ?_
  cases q : mLt a b with
  | true => rfl
  | false => exact absurd (mLe_antisymm h1 (by unfold mLe; rw [q]; rfl)) h2
theorem isMon_jM {ps : Mon} (h : ∀ p ∈ ps, 1 ≤ p.1 ∧ 1 ≤ p.2) : isMon (jM ps) = true := by
  unfold isMon
  rw [monGo_iff]
  refine ⟨fun p hp => ⟨?_, addI_pos (fun q hq => (h q hq).2) p hp⟩, ?_⟩
  · obtain ⟨q, hq, e⟩ := (addI_keys ps p.1).mp ⟨p, hp, rfl⟩
    have := (h q hq).1
    omega
  · have e : (jM ps).map (·.1) = sortI (kysI [] ps) := by
      show ((sortI (kysI [] ps)).map _).map _ = _
      rw [List.map_map]
      conv => rhs; rw [← List.map_id (sortI (kysI [] ps))]
      exact List.map_congr_left fun _ _ => rfl
    rw [e]
    exact sortI_lt (kysI_nodup List.nodup_nil)
theorem isMon_in {m : Mon} (h : isMon m = true) : ∀ p ∈ m, 1 ≤ p.1 ∧ 1 ≤ p.2 := fun p hp => by
  have := ((monGo_iff m 0).mp h).1 p hp
  omega
theorem isFor_addF {ps : List (Mon × Int)} (h : ∀ q ∈ ps, isMon q.1 = true ∧ 1 ≤ q.2) : isFor (addF ps) = true := by
  unfold isFor upF
  rw [Bool.and_eq_true, List.all_eq_true, decide_eq_true_eq]
  refine ⟨fun q hq => ?_, ?_⟩
  · obtain ⟨q0, h0, e⟩ := (addF_keys ps q.1).mp ⟨q, hq, rfl⟩
    rw [← e, (h q0 h0).1, decide_eq_true (addF_pos (fun q hq => (h q hq).2) q hq)]
    rfl
  · have e : (addF ps).map (·.1) = sortM (kysF [] ps) := by
      show ((sortM (kysF [] ps)).map _).map _ = _
      rw [List.map_map]
      conv => rhs; rw [← List.map_id (sortM (kysF [] ps))]
      exact List.map_congr_left fun _ _ => rfl
    rw [e]
    exact sortM_lt (kysF_nodup List.nodup_nil)
theorem rng_ev {Φ : Str → List Sl → FR} {γ : Str → Option D} {a : E} {e e' : Env} {n : Nat} (h : ev Φ γ a e = .ok .fr (.int n) e') (hn : n ≤ 1000000) : evI Φ γ (.rng1 a) e = .ok ((List.range n).map fun (k : Nat) => D.int (k : Int)) [] e' := by
  have hb : (-(2 ^ 62) ≤ (n : Int)) ∧ ((n : Int) < 2 ^ 62) := by omega
  simp only [evI, h, RE.bdI, late, rng1I]
  rw [if_pos (by rw [decide_eq_true hb.1, decide_eq_true hb.2]; rfl), Int.toNat_natCast]
theorem toN {z : Int} (h : 0 ≤ z) : ∃ n : Nat, z = n := ⟨z.toNat, by omega⟩
end PF
set_option Elab.async false
set_option linter.all false
set_option maxRecDepth 100000
set_option maxHeartbeats 2000000
namespace PF
open PySem PySem.Spec PyProof.Rows L2
def wS (w : Mon → Int) : List (Mon × Int) → Int
  | [] => 0
  | q :: r => q.2 * w q.1 + wS w r
/-- a formula in its one form, with bounds -/
structure Gf (f : List (Mon × Int)) (n l : Nat) (c : Int) : Prop where
  mon : ∀ q ∈ f, isMon q.1 = true ∧ 1 ≤ q.2
  top : ∀ q ∈ f, q.2 ≤ c
  key : ∀ q ∈ f, q.1.length ≤ l
  len : f.length ≤ n
theorem Gf.mono {f : List (Mon × Int)} {n l n' l' : Nat} {c c' : Int} (h : Gf f n l c) (h1 : n ≤ n') (h2 : l ≤ l') (h3 : c ≤ c') : Gf f n' l' c' := ⟨h.mon, fun q hq => Int.le_trans (h.top q hq) h3, fun q hq => Nat.le_trans (h.key q hq) h2, Nat.le_trans h.len h1⟩
theorem Gf.add {f : List (Mon × Int)} {n l : Nat} {c : Int} (h : Gf f n l c) (hc : 0 ≤ c) : Gf (addF f) n l (n * c) := by
  have key : ∀ q ∈ addF f, ∃ q0 ∈ f, q0.1 = q.1 := fun q hq => (addF_keys f q.1).mp ⟨q, hq, rfl⟩
  refine ⟨fun q hq => ?_, fun q hq => ?_, fun q hq => ?_, Nat.le_trans (addF_len f) h.len⟩
  · obtain ⟨q0, h0, e⟩ := key q hq
    exact ⟨e ▸ (h.mon q0 h0).1, addF_pos (fun q hq => (h.mon q hq).2) q hq⟩
  · have e2 : q.2 = tot q.1 f := by
      unfold addF at hq
      obtain ⟨m, _, rfl⟩ := List.mem_map.mp hq
      rfl
    have := (tot_le (m := q.1) fun x hx => ⟨(h.mon x hx).2, h.top x hx⟩).1
    have hm : (f.length : Int) * c ≤ n * c := Int.mul_le_mul_of_nonneg_right (by have := h.len; omega) hc
    omega
  · obtain ⟨q0, h0, e⟩ := key q hq
    exact e ▸ h.key q0 h0
theorem Gf.form {f : List (Mon × Int)} {n l : Nat} {c : Int} (h : Gf f n l c) : isFor (addF f) = true := isFor_addF h.mon
theorem Gf.mu {f g : List (Mon × Int)} {n l n' l' : Nat} {c c' : Int} (h : Gf f n l c) (k : Gf g n' l' c') (h1 : n ≤ 100) (h2 : n' ≤ 100) (h3 : l ≤ 1000) (h4 : l' ≤ 1000) (h5 : c ≤ 1000000000000000000) : Mu2 f g :=
  ⟨fun x hx => ⟨(h.mon x hx).2, Int.le_trans (h.top x hx) h5⟩, fun x hx => Nat.le_trans (h.key x hx) h3, fun y hy => Nat.le_trans (k.key y hy) h4, Nat.le_trans h.len h1, Nat.le_trans k.len h2⟩
/-- retagged -/
theorem fold_mon {rs : List Int} (hr : ∀ r ∈ rs, 1 ≤ r) (hl : rs.length = 4) : ∀ (m acc : Mon), (∀ p ∈ m, 1 ≤ p.1 ∧ 1 ≤ p.2) → isMon acc = true → isMon (m.foldl (rtS rs) acc) = true
  | [], acc, _, h => h
  | p :: m, acc, hm, h => by
    rw [List.foldl_cons]
    refine fold_mon hr hl m _ (fun q hq => hm q (.tail _ hq)) ?_
    unfold rtS
    refine isMon_jM fun q hq => ?_
    rcases List.mem_append.mp hq with hq | hq
    · exact isMon_in h q hq
    · rw [List.mem_singleton] at hq
      subst hq
      have hp := hm p (.head _)
      refine ⟨?_, hp.2⟩
      show 1 ≤ rt rs p
      unfold rt
      split
      · rename_i c
        have hi : (p.1 - 1).toNat < rs.length := by omega
        rw [List.getD_eq_getElem?_getD, List.getElem?_eq_getElem hi]
        exact hr _ (List.getElem_mem hi)
      · omega
theorem Gf.ret {f : List (Mon × Int)} {rs : List Int} (hr : ∀ r ∈ rs, 1 ≤ r) (hl : rs.length = 4) {n l : Nat} {c : Int} (h1 : ∀ q ∈ f, (∀ p ∈ q.1, 1 ≤ p.1 ∧ 1 ≤ p.2) ∧ q.1.length ≤ l ∧ 1 ≤ q.2 ∧ q.2 ≤ c) (h2 : f.length ≤ n) : Gf (retF rs f) n l c := by
  have key : ∀ q ∈ retF rs f, ∃ q0 ∈ f, q = (rtM rs q0.1, q0.2) := fun q hq => by
    obtain ⟨q0, h0, e⟩ := List.mem_map.mp hq
    exact ⟨q0, h0, e.symm⟩
  refine ⟨fun q hq => ?_, fun q hq => ?_, fun q hq => ?_, by unfold retF; rw [List.length_map]; exact h2⟩ <;> obtain ⟨q0, h0, rfl⟩ := key q hq
  · exact ⟨fold_mon hr hl q0.1 [] (h1 q0 h0).1 rfl, (h1 q0 h0).2.2.1⟩
  · exact (h1 q0 h0).2.2.2
  · exact Nat.le_trans (rtM_len rs q0.1) (h1 q0 h0).2.1
end PF
set_option Elab.async false
set_option linter.all false
set_option maxRecDepth 100000
set_option maxHeartbeats 2000000
namespace PF
open PySem PySem.Spec PyProof.Rows L2
def ded {α : Type} [DecidableEq α] : List α → List α
  | [] => []
  | a :: r => a :: (ded r).filter fun x => decide (x ≠ a)
section
variable {α : Type} [DecidableEq α]
theorem mem_ded {x : α} : ∀ {xs : List α}, x ∈ ded xs ↔ x ∈ xs
  | [] => Iff.rfl
  | a :: r => by
    rw [ded, List.mem_cons, List.mem_filter, mem_ded (xs := r), List.mem_cons]
    constructor
    · rintro (h | h)
      · exact .inl h
      · exact .inr h.1
    · rintro (h | h)
      · exact .inl h
      · by_cases e : x = a
        · exact .inl e
        · exact .inr ⟨h, decide_eq_true e⟩
theorem ded_nodup : ∀ xs : List α, (ded xs).Nodup
  | [] => .nil
  | a :: r => by
    rw [ded, List.nodup_cons]
    refine ⟨fun h => ?_, (ded_nodup r).filter _⟩
    have := (List.mem_filter.mp h).2
    simp at this
end
/-- two lists that go up and have the same items are the same -/
theorem up_ext {α : Type} {R : α → α → Prop} (as : ∀ a b, R a b → R b a → False) {a b : List α} (ha : a.Pairwise R) (hb : b.Pairwise R) (h : ∀ x, x ∈ a ↔ x ∈ b) : a = b := by
  have nd : ∀ {l : List α}, l.Pairwise R → l.Nodup := fun {l} hl => List.Pairwise.imp (S := (· ≠ ·)) (fun {x y} r e => by
    subst e
    exact as _ _ r r) hl
  refine List.Perm.eq_of_pairwise (le := R) (fun x y _ _ h1 h2 => (as _ _ h1 h2).elim) ha hb ?_
  exact (List.perm_ext_iff_of_nodup (nd ha) (nd hb)).mpr h
theorem ilt_asym (a b : Int) (h : a < b) (k : b < a) : False := by omega
abbrev Row := List Int
def rLe2 (a b : Row) : Bool := !decide (b < a)
theorem rlt_asym (a b : Row) (h : a < b) (k : b < a) : False := List.lt_irrefl _ (List.lt_trans h k)
theorem rLe2_iff {a b : Row} : rLe2 a b = true ↔ a ≤ b := by
  unfold rLe2
  rw [Bool.not_eq_true', decide_eq_false_iff_not]
  exact List.not_lt
theorem rLe2_trans (a b c : Row) (h1 : rLe2 a b = true) (h2 : rLe2 b c = true) : rLe2 a c = true := rLe2_iff.mpr (List.le_trans (rLe2_iff.mp h1) (rLe2_iff.mp h2))
theorem rLe2_total (a b : Row) : (rLe2 a b || rLe2 b a) = true := by
  rw [Bool.or_eq_true, rLe2_iff, rLe2_iff]
  exact List.le_total ..
def sortR (rs : List Row) : List Row := rs.mergeSort rLe2
def norR (rs : List Row) : List Row := sortR (ded rs)
theorem mem_norR {x : Row} {rs : List Row} : x ∈ norR rs ↔ x ∈ rs := (List.mergeSort_perm _ _).mem_iff.trans mem_ded
theorem norR_up (rs : List Row) : (norR rs).Pairwise (· < ·) := by
  have h1 : (norR rs).Pairwise fun a b => rLe2 a b = true := List.pairwise_mergeSort rLe2_trans rLe2_total _
  have h2 : (norR rs).Nodup := ((List.mergeSort_perm _ _).nodup_iff).mpr (ded_nodup rs)
  exact (h1.and h2).imp fun {a b} h => by
    have := rLe2_iff.mp h.1
    by_cases c : a < b
    · exact c
    · exact absurd (List.le_antisymm this (List.not_lt.mp c)) h.2
def rle : Row → Row → Bool
  | [], [] => true
  | x :: a, y :: b => decide (x ≤ y) && rle a b
  | _, _ => false
/-- undercut by a row of these -/
def cutB (R : List Row) (r : Row) : Bool := R.any fun l => decide (l ≠ r) && rle l r
def lstR (rs : List Row) : List Row := (norR rs).filter fun r => !cutB (norR rs) r
theorem cut_iff {R : List Row} {r : Row} : cutB R r = true ↔ ∃ l ∈ R, l ≠ r ∧ rle l r = true := by
  unfold cutB
  rw [List.any_eq_true]
  simp only [Bool.and_eq_true, decide_eq_true_eq]
theorem mem_lstR {rs : List Row} {r : Row} : r ∈ lstR rs ↔ r ∈ rs ∧ ∀ l ∈ rs, rle l r = true → l = r := by
  unfold lstR
  rw [List.mem_filter, mem_norR, Bool.not_eq_true']
  refine and_congr_right fun _ => ?_
  constructor
  · intro h l hl k
    by_cases c : l = r
    · exact c
    · rw [cut_iff.mpr ⟨l, mem_norR.mpr hl, c, k⟩] at h
      cases h
  · intro h
    cases q : cutB (norR rs) r with
    | false => rfl
    | true =>
      obtain ⟨l, h1, h2, h3⟩ := cut_iff.mp q
      exact absurd (h l (mem_norR.mp h1) h3) h2
theorem lstR_up (rs : List Row) : (lstR rs).Pairwise (· < ·) := (norR_up rs).filter _
/-- a worth of price rows -/
structure Pri (n : Nat) (R : List Row) : Prop where
  row : ∀ r ∈ R, r.length = n ∧ ∀ x ∈ r, 0 ≤ x
  up : R.Pairwise (· < ·)
  anti : ∀ r ∈ R, ∀ l ∈ R, rle l r = true → l = r
theorem Pri.least {n : Nat} {R : List Row} (h : Pri n R) : lstR R = R := up_ext rlt_asym (lstR_up R) h.up fun r => by
  rw [mem_lstR]
  exact ⟨fun z => z.1, fun z => ⟨z, h.anti r z⟩⟩
def bor (x y : Int) : Int := Builtin.bitOr x y
/-- what comes of these numbers by or -/
inductive OrC (xs : List Int) : Int → Prop where
  | base {x : Int} : x ∈ xs → OrC xs x
  | or {x y : Int} : OrC xs x → OrC xs y → OrC xs (bor x y)
theorem OrC.sub {xs ys : List Int} (h : ∀ x ∈ xs, OrC ys x) {z : Int} (k : OrC xs z) : OrC ys z := by
  induction k with
  | base hx => exact h _ hx
  | or _ _ a b => exact .or a b
structure Fam (F : List Int) : Prop where
  nn : ∀ x ∈ F, 0 ≤ x
  up : F.Pairwise (· < ·)
  cl : ∀ x ∈ F, ∀ y ∈ F, bor x y ∈ F
theorem Fam.ext {A B : List Int} (ha : Fam A) (hb : Fam B) (h : ∀ z, z ∈ A ↔ z ∈ B) : A = B := up_ext ilt_asym ha.up hb.up h
end PF
set_option Elab.async false
set_option linter.all false
set_option maxRecDepth 100000
set_option maxHeartbeats 2000000
namespace PF
open PySem PySem.Spec PyProof.Rows L2
def gcdI (a b : Int) : Int := ((a.natAbs.gcd b.natAbs : Nat) : Int)
def lcmI (a b : Int) : Int := ((a.natAbs.lcm b.natAbs : Nat) : Int)
end PF
set_option Elab.async false
set_option linter.all false
set_option maxRecDepth 100000
set_option maxHeartbeats 2000000
namespace PF
open PySem PySem.Spec PyProof.Rows L2
def hos : List (List (D × List Int)) := [
  [(.tup [.str "modulo", .int 1], [0]), (.tup [.str "modulo", .int 1], [0]), (.tup [.str "chain", .int 1], [0, 1]), (.tup [.str "divisors", .int 6], [1, 2, 3, 6])],
  [(.tup [.str "capped", .int 2], [0, 1, 2]), (.tup [.str "modulo", .int 2], [0, 1]), (.tup [.str "chain", .int 2], [0, 1, 2]), (.tup [.str "divisors", .int 4], [1, 2, 4])],
  [(.tup [.str "chain", .int 3], [0, 1, 2, 3]), (.tup [.str "modulo", .int 3], [0, 1, 2]), (.tup [.str "chain", .int 3], [0, 1, 2, 3]), (.tup [.str "divisors", .int 8], [1, 2, 4, 8])],
  [(.tup [.str "divisors", .int 5], [1, 5]), (.tup [.str "modulo", .int 4], [0, 1, 2, 3]), (.tup [.str "chain", .int 4], [0, 1, 2, 3, 4]), (.tup [.str "divisors", .int 5], [1, 5])],
  [(.tup [.str "yes"], [0, 1]), (.tup [.str "modulo", .int 5], [0, 1, 2, 3, 4]), (.tup [.str "chain", .int 5], [0, 1, 2, 3, 4, 5]), (.tup [.str "divisors", .int 12], [1, 2, 3, 4, 6, 12])]]
abbrev hoL : E := .lst [(.var 2), (.tup [(.lit (.str "modulo")), (.op .add [(.pk 1), (.lit (.int 1))])]), (.tup [(.lit (.str "chain")), (.op .add [(.pk 1), (.lit (.int 1))])]), (.tup [(.lit (.str "divisors")), (.op .idx [(.lst [(.lit (.int 6)), (.lit (.int 4)), (.lit (.int 8)), (.lit (.int 5)), (.lit (.int 12))]), (.pk 1)])])]
/-- the house that is drawn, its worths -/
def hoOf (n z : Nat) : D × List Int := ((hos.getD n []).getD z (.non, []))
section
variable (Φ : Str → List Sl → FR) (γ : Str → Option D)
theorem ho2 (s0 s3 s4 s5 s6 s7 s8 s9 s10 : Sl) : ∀ n < 5, ev Φ γ hoL [s0, .fr (.int ((n : Nat) : Int)), .fr (hoOf n 0).1, s3, s4, s5, s6, s7, s8, s9, s10] = .ok .ow (.lst ((hos.getD n []).map (·.1))) [s0, .fr (.int ((n : Nat) : Int)), .fr (hoOf n 0).1, s3, s4, s5, s6, s7, s8, s9, s10]
  | 0, _ => rfl
  | 1, _ => rfl
  | 2, _ => rfl
  | 3, _ => rfl
  | 4, _ => rfl
  | n + 5, h => absurd h (by omega)
/-- what the small houses answer -/
structure TabOk : Prop where
  wor : ∀ n < 5, ∀ z < 4, Φ "_law_all_worths" [.fr (hoOf n z).1] = .ok true (.lst ((hoOf n z).2.map .int)) [.non]
  plus : ∀ n < 5, ∀ z < 4, ∀ a ∈ (hoOf n z).2, ∀ b ∈ (hoOf n z).2, ∃ c ∈ (hoOf n z).2, Φ "_law_plus" [.fr (hoOf n z).1, .fr (.int a), .fr (.int b)] = .ok false (.int c) [.non, .non, .non]
  times : ∀ n < 5, ∀ z < 4, ∀ a ∈ (hoOf n z).2, ∀ b ∈ (hoOf n z).2, ∃ c ∈ (hoOf n z).2, Φ "_law_times" [.fr (hoOf n z).1, .fr (.int a), .fr (.int b)] = .ok false (.int c) [.non, .non, .non]
  one : ∀ n < 5, ∀ z < 4, ∃ c ∈ (hoOf n z).2, Φ "_law_one" [.fr (hoOf n z).1] = .ok false (.int c) [.non]
end
end PF
set_option Elab.async false
set_option linter.all false
set_option maxRecDepth 100000
set_option maxHeartbeats 2000000
namespace PF
open PySem PySem.Spec PyProof.Rows L2
abbrev lpSize : List S := [.asg 3 (.op .add [(.op .mul [(.pk 3), (.lit (.int 1000))]), (.call "_law_take" [(.pk 0), (.lit (.int 1000))])])]
abbrev fnSize : Fn := ⟨2, 5, [0], [.asg 2 (.call "_law_take" [(.pk 0), (.lit (.int 8))]),
  .iff (.op .lt [(.pk 2), (.lit (.int 5))]) [.ret (.call "_law_take" [(.pk 0), (.lit (.int 12))])] [],
  .iff (.op .eq [(.pk 2), (.lit (.int 5))]) [.ret (.call "_law_take" [(.pk 0), (.lit (.int 100))])] [],
  .iff (.boo false [(.op .eq [(.pk 2), (.lit (.int 6))]), (.op .eq [(.op .len [(.pk 1)]), (.lit (.int 0))])]) [.asg 3 (.lit (.int 0)), .for_ (.nm 4) (.rng1 (.lit (.int 5))) lpSize, .retV 3] [],
  .ret (.op .abs [(.op .toInt [(.op .idx [(.pk 1), (.call "_law_take" [(.pk 0), (.op .len [(.pk 1)])])])])])]⟩
end PF
set_option Elab.async false
set_option linter.all false
set_option maxRecDepth 100000
set_option maxHeartbeats 2000000
namespace PF
open PySem PySem.Spec PyProof.Rows L2
def hugeI : Int := Int.ofNat (2 ^ 1048576)
section
variable (Φ : Str → List Sl → FR) (γ : Str → Option D) {W : Sh} (hT : TakeOk Φ W)
include hT
theorem size_fn2 {B : Int} (hB : 1000000000000000 ≤ B) {dr : D} (hd : W.has dr) (ns : List Int) (hb : ∀ z ∈ ns, (z.natAbs : Int) ≤ B) : ∃ z dr', fnSize.run Φ γ [.ow dr, .fr (.lst (ns.map .int))] = .ok false (.int z) [.ow dr', .non] ∧ (0 ≤ z ∧ z ≤ B) ∧ W.has dr' := by
  obtain ⟨a, dr1, h1, h2, h3, h4⟩ := hT dr 8 hd (by decide)
  have st0 : exec Φ γ (.asg 2 (.call "_law_take" [(.pk 0), (.lit (.int 8))])) [.ow dr, .fr (.lst (ns.map .int)), .non, .non, .non] = .nx [.ow dr1, .fr (.lst (ns.map .int)), .fr (.int a), .non, .non] := by
    generalize ns.map D.int = L
    simp [h1]
  by_cases c1 : a < 5
  · obtain ⟨b, dr2, k1, k2, k3, k4⟩ := hT dr1 12 h4 (by decide)
    refine ⟨b, dr2, fn_rt (o := false) (d := .int b) (fn := fnSize) (as := [.ow dr, .fr (.lst (ns.map .int))]) (e' := [.ow dr2, .fr (.lst (ns.map .int)), .fr (.int a), .non, .non]) rfl ((execs_nx st0).trans (execs_rt ?_)), ⟨k2, by omega⟩, k4⟩
    generalize ns.map D.int = L
    simp [c1, k1]
  · have s1 : ev Φ γ (.op .lt [(.pk 2), (.lit (.int 5))]) [.ow dr1, .fr (.lst (ns.map .int)), .fr (.int a), .non, .non] = .ok .fr (.bl false) [.ow dr1, .fr (.lst (ns.map .int)), .fr (.int a), .non, .non] := by
      generalize ns.map D.int = L
      simp [c1]
    by_cases c2 : a = 5
    · obtain ⟨b, dr2, k1, k2, k3, k4⟩ := hT dr1 100 h4 (by decide)
      refine ⟨b, dr2, fn_rt (o := false) (d := .int b) (fn := fnSize) (as := [.ow dr, .fr (.lst (ns.map .int))]) (e' := [.ow dr2, .fr (.lst (ns.map .int)), .fr (.int a), .non, .non]) rfl ((execs_nx st0).trans ((skip_f s1).trans (execs_rt ?_))), ⟨k2, by omega⟩, k4⟩
      generalize ns.map D.int = L
      simp [c2, k1, pEq, eqOk, eqII]
    · have s2 : ev Φ γ (.op .eq [(.pk 2), (.lit (.int 5))]) [.ow dr1, .fr (.lst (ns.map .int)), .fr (.int a), .non, .non] = .ok .fr (.bl false) [.ow dr1, .fr (.lst (ns.map .int)), .fr (.int a), .non, .non] := by
        generalize ns.map D.int = L
        simp [c2, pEq, eqOk, eqII]
      have s3 : ev Φ γ (.boo false [(.op .eq [(.pk 2), (.lit (.int 6))]), (.op .eq [(.op .len [(.pk 1)]), (.lit (.int 0))])]) [.ow dr1, .fr (.lst (ns.map .int)), .fr (.int a), .non, .non] = .ok .fr (.bl (decide (a = 6) || decide (ns.length = 0))) [.ow dr1, .fr (.lst (ns.map .int)), .fr (.int a), .non, .non] := by
        have hl : (ns.map D.int).length = ns.length := List.length_map ..
        generalize ns.map D.int = L at hl ⊢
        rw [← hl]
        by_cases c : a = 6
        · simp [c, pEq, eqOk, eqII]
        · simp [c, pEq, eqOk, eqII]
      by_cases c3 : a = 6 ∨ ns.length = 0
      · obtain ⟨e', ⟨dr2, x, s4, rfl, k1, k2, k5⟩, k3⟩ := forGo_inv (tgt := asgT (.nm 4)) (body := execs Φ γ lpSize) (fun i e => ∃ dr x s4, e = [.ow dr, .fr (.lst (ns.map .int)), .fr (.int a), .fr (.int x), s4] ∧ W.has dr ∧ 0 ≤ x ∧ x < 1000 ^ i)
          ((List.range 5).map fun (k : Nat) => D.int (k : Int)) 0 [.ow dr1, .fr (.lst (ns.map .int)), .fr (.int a), .fr (.int 0), .non] ⟨_, _, _, rfl, h4, Int.le_refl _, by decide⟩ (by
            rintro i d e hd ⟨dr, x, s4, rfl, a1, a2, a3⟩
            obtain ⟨b, dr2, k1, k2, k3, k4⟩ := hT dr 1000 a1 (by decide)
            have m1 : mulOk x 1000 = true := mulOk_r (by decide) (by decide)
            refine ⟨[.ow dr, .fr (.lst (ns.map .int)), .fr (.int a), .fr (.int x), .fr d], [.ow dr2, .fr (.lst (ns.map .int)), .fr (.int a), .fr (.int (x * 1000 + b)), .fr d], rfl, .inl ?_, dr2, _, _, rfl, k4, by omega, by rw [Int.pow_succ]; omega⟩
            generalize ns.map D.int = L
            simp [m1, k1])
        have s4' : exec Φ γ (.for_ (.nm 4) (.rng1 (.lit (.int 5))) lpSize) [.ow dr1, .fr (.lst (ns.map .int)), .fr (.int a), .fr (.int 0), .non] = .nx [.ow dr2, .fr (.lst (ns.map .int)), .fr (.int a), .fr (.int x), s4] := by
          have hI : evI Φ γ (.rng1 (.lit (.int 5))) [.ow dr1, .fr (.lst (ns.map .int)), .fr (.int a), .fr (.int 0), .non] = .ok ((List.range 5).map fun (k : Nat) => D.int (k : Int)) [] [.ow dr1, .fr (.lst (ns.map .int)), .fr (.int a), .fr (.int 0), .non] := rng_ev (n := 5) rfl (by decide)
          rw [exec, hI, RI.bdS]
          show (forGo _ _ _ [.ow dr1, .fr (.lst (ns.map .int)), .fr (.int a), .fr (.int 0), .non]).env _ = _
          rw [k3]
          rfl
        have c3' : (decide (a = 6) || decide (ns.length = 0)) = true := by simpa using c3
        rw [c3'] at s3
        refine ⟨x, dr2, fn_rt (fn := fnSize) (as := [.ow dr, .fr (.lst (ns.map .int))]) (e' := [.ow dr2, .fr (.lst (ns.map .int)), .fr (.int a), .fr (.int x), s4]) rfl ((execs_nx st0).trans ((skip_f s1).trans ((skip_f s2).trans (execs_rt ((iff_t s3).trans ((execs_nx rfl).trans ((execs_nx s4').trans rfl))))))), ⟨k2, by have k5 : x < 1000 ^ 5 := k5; omega⟩, k1⟩
      · have c3' : (decide (a = 6) || decide (ns.length = 0)) = false := by simpa using c3
        rw [c3'] at s3
        have hp : 1 ≤ (ns.length : Int) := by omega
        obtain ⟨b, dr2, k1, k2, k3, k4⟩ := hT dr1 ns.length h4 hp
        obtain ⟨n, rfl⟩ := toN k2
        have hn : n < ns.length := by omega
        have g : atI (ns.map D.int) (n : Int) = some (.int ns[n]) := by
          rw [atI_nat (by simpa using hn)]
          simp
        have hl : (ns.map D.int).length = ns.length := List.length_map ..
        refine ⟨ns[n].natAbs, dr2, fn_rt (o := false) (d := .int ns[n].natAbs) (fn := fnSize) (as := [.ow dr, .fr (.lst (ns.map .int))]) (e' := [.ow dr2, .fr (.lst (ns.map .int)), .fr (.int a), .non, .non]) rfl ((execs_nx st0).trans ((skip_f s1).trans ((skip_f s2).trans ((skip_f s3).trans (execs_rt ?_))))), ⟨by omega, hb _ (List.getElem_mem hn)⟩, k4⟩
        generalize ns.map D.int = L at hl g ⊢
        simp [k1, g, hl]
        split <;> omega
end
theorem huge_ge : (1000000000000000 : Int) ≤ hugeI := by
  have : (2 : Nat) ^ 50 ≤ 2 ^ 1048576 := Nat.pow_le_pow_right (by decide) (by decide)
  unfold hugeI
  have h2 : (1000000000000000 : Int) ≤ ((2 ^ 50 : Nat) : Int) := by decide
  exact Int.le_trans h2 (Int.ofNat_le.mpr this)
end PF
set_option Elab.async false
set_option linter.all false
set_option maxRecDepth 100000
set_option maxHeartbeats 4000000
namespace PF
open PySem PySem.Spec PyProof.Rows L2
inductive Ho where
  | counts | capped (n : Int) | modulo (n : Int) | yes | chain (n : Int) | least | sums | families | formulas | prices (n : Nat) | divisors (n : Int) | table (i : Int) (P M : D) | pair (a b : Ho)
def hD : Ho → D
  | .counts => .tup [.str "counts"]
  | .capped n => .tup [.str "capped", .int n]
  | .modulo n => .tup [.str "modulo", .int n]
  | .yes => .tup [.str "yes"]
  | .chain n => .tup [.str "chain", .int n]
  | .least => .tup [.str "least"]
  | .sums => .tup [.str "sums"]
  | .families => .tup [.str "families"]
  | .formulas => .tup [.str "formulas"]
  | .prices n => .tup [.str "prices", .int n]
  | .divisors n => .tup [.str "divisors", .int n]
  | .table i P M => .tup [.str "table", .int i, P, M]
  | .pair a b => .tup [.str "pair", hD a, hD b]
def Ho.dep : Ho → Nat
  | .pair a b => 1 + max a.dep b.dep
  | _ => 0
/-- the numbers in their ranges -/
def Ho.ok : Ho → Prop
  | .capped n => 1 ≤ n
  | .modulo n => 1 ≤ n
  | .chain n => 1 ≤ n
  | .prices n => 1 ≤ n ∧ n ≤ 40
  | .divisors n => 0 ≤ n
  | .pair a b => a.ok ∧ b.ok
  | _ => True
section
variable (Φ : Str → List Sl → FR) (γ : Str → Option D)
def Ho.num : Ho → Bool
  | .counts => true
  | .capped _ => true
  | .modulo _ => true
  | .yes => true
  | .chain _ => true
  | .least => true
  | .divisors _ => true
  | _ => false
end
/-- fit for _law_same -/
structure Fit (n : Nat) (d : D) : Prop where
  pla : Pla n d
  lon : ∀ m, longs 16777216 m d
theorem Fit.mono {n m : Nat} {d : D} (h : Fit n d) (k : n ≤ m) : Fit m d := ⟨h.pla.mono k, h.lon⟩
theorem fit_int (i : Int) : Fit 0 (.int i) := ⟨⟨rfl, Nat.le_refl _⟩, fun m => longs_int m i⟩
theorem fit_str (s : Str) : Fit 0 (.str s) := ⟨⟨rfl, Nat.le_refl _⟩, fun m => by
  cases m with
  | zero => trivial
  | succ m => intro ds h; rcases h with h | h <;> cases h⟩
theorem fit_tup {n : Nat} {ds : List D} (hl : ds.length ≤ 16777216) (h : ∀ d ∈ ds, Fit n d) : Fit (n + 1) (.tup ds) := by
  refine ⟨⟨plsA fun d hd => (h d hd).pla.pl, ?_⟩, fun m => ?_⟩
  · have := deps_all fun d hd => (h d hd).pla.dep
    simp only [D.dep]
    omega
  · cases m with
    | zero => trivial
    | succ m =>
      intro es k
      rcases k with k | k
      · cases k
        exact ⟨hl, fun x hx => (h x hx).lon m⟩
      · cases k
end PF
set_option Elab.async false
set_option linter.all false
set_option maxRecDepth 100000
set_option maxHeartbeats 4000000
namespace PF
open PySem PySem.Spec PyProof.Rows L2
inductive Wo where
  | num (z : Int) | non | nums (xs : List Int) | rows (R : List Row) | form (f : List (Mon × Int)) | pair (a b : Wo)
def tabD (p : Nat → Nat → Nat) (s : Nat) : D := .tup ((List.range s).map fun a => .tup ((List.range s).map fun b => .int (p a b : Nat)))
structure TabP (s o : Nat) (p m : Nat → Nat → Nat) : Prop where
  s1 : 1 ≤ s
  s6 : s ≤ 6
  ho : o < s
  cp : ∀ a < s, ∀ b < s, p a b < s
  cm : ∀ a < s, ∀ b < s, m a b < s
  pc : ∀ a < s, ∀ b < s, p a b = p b a
  mc : ∀ a < s, ∀ b < s, m a b = m b a
  pa : ∀ a < s, ∀ b < s, ∀ c < s, p (p a b) c = p a (p b c)
  ma : ∀ a < s, ∀ b < s, ∀ c < s, m (m a b) c = m a (m b c)
  sp : ∀ a < s, ∀ b < s, ∀ c < s, m a (p b c) = p (m a b) (m a c)
  p0 : ∀ a < s, p 0 a = a
  m1 : ∀ a < s, m o a = a
  m0 : ∀ a < s, m 0 a = 0
structure TabI (i : Int) (P M : D) (s o : Nat) (p m : Nat → Nat → Nat) : Prop where
  ei : i = o
  eP : P = tabD p s
  eM : M = tabD m s
  ok : TabP s o p m
def Ho.gd : Ho → Prop
  | .capped n => 1 ≤ n
  | .modulo n => 1 ≤ n
  | .chain n => 1 ≤ n
  | .prices n => 1 ≤ n ∧ n ≤ 40
  | .divisors n => 1 ≤ n ∧ n ≤ 13841287201
  | .pair a b => a.gd ∧ b.gd
  | .table i P M => ∃ s o p m, TabI i P M s o p m
  | _ => True
theorem Ho.gd.ok : ∀ {H : Ho}, H.gd → H.ok
  | .counts, h => h
  | .capped _, h => h
  | .modulo _, h => h
  | .yes, h => h
  | .chain _, h => h
  | .least, h => h
  | .sums, h => h
  | .families, h => h
  | .formulas, h => h
  | .prices _, h => h
  | .divisors _, h => by have := h.1; show 0 ≤ _; omega
  | .table _ _ _, _ => trivial
  | .pair _ _, h => ⟨h.1.ok, h.2.ok⟩
def minI (i j : Int) : Int := if j < i then j else i
def maxI (i j : Int) : Int := if j > i then j else i
end PF
set_option Elab.async false
set_option linter.all false
set_option maxRecDepth 100000
set_option maxHeartbeats 4000000
set_option Elab.async false
set_option linter.all false
set_option maxRecDepth 100000
set_option maxHeartbeats 4000000
set_option Elab.async false
set_option linter.all false
set_option maxRecDepth 100000
set_option maxHeartbeats 4000000
namespace PF
open PySem PySem.Spec PyProof.Rows L2
/-- bounds: price rows, sums, monomials, sum of coefficients, members of families, tags of a monomial -/
structure Bd where
  p : Nat
  s : Nat
  c : Nat
  t : Nat
  k : Nat
  l : Nat
  z : Nat
def Bd.add (a b : Bd) : Bd := ⟨a.p + b.p, a.s + b.s, a.c + b.c, a.t + b.t, a.k + b.k + a.k * b.k, max a.l b.l, max a.z b.z + 1⟩
def Bd.mul (a b : Bd) : Bd := ⟨a.p * b.p, a.s * b.s, a.c * b.c, a.t * b.t, a.k * b.k, a.l + b.l, a.z + b.z⟩
def Bd.le (a b : Bd) : Bool := decide (a.p ≤ b.p) && decide (a.s ≤ b.s) && decide (a.c ≤ b.c) && decide (a.t ≤ b.t) && decide (a.k ≤ b.k) && decide (a.l ≤ b.l) && decide (a.z ≤ b.z)
/-- what may be handed to the operations -/
def Bd.fit (a : Bd) : Bool := a.le ⟨60, 4000, 100, 1000000000000000000, 1900, 1000, 67108864⟩
def w1 : List (Mon × Int) → Int := wS fun _ => 1
structure Fsz (b : Bd) (f : List (Mon × Int)) : Prop where
  len : f.length ≤ b.c
  sum : w1 f ≤ b.t
  key : ∀ q ∈ f, q.1.length ≤ b.l
def WSz (b : Bd) : Ho → Wo → Prop
  | .counts, .num z => z.natAbs < 2 ^ b.z
  | .sums, .nums xs => xs.length ≤ b.s
  | .families, .nums xs => xs.length ≤ b.k
  | .prices _, .rows R => R.length ≤ b.p
  | .formulas, .form f => Fsz b f
  | .pair A B, .pair x y => WSz b A x ∧ WSz b B y
  | _, _ => True
theorem Bd.le_iff {a b : Bd} (h : a.le b = true) : a.p ≤ b.p ∧ a.s ≤ b.s ∧ a.c ≤ b.c ∧ a.t ≤ b.t ∧ a.k ≤ b.k ∧ a.l ≤ b.l ∧ a.z ≤ b.z := by
  simp only [Bd.le, Bool.and_eq_true, decide_eq_true_eq] at h
  obtain ⟨⟨⟨⟨⟨⟨h1, h2⟩, h3⟩, h4⟩, h5⟩, h6⟩, h7⟩ := h
  exact ⟨h1, h2, h3, h4, h5, h6, h7⟩
theorem WSz.mono {a b : Bd} (h : a.le b = true) : ∀ {H : Ho} {w : Wo}, WSz a H w → WSz b H w := by
  obtain ⟨h1, h2, h3, h4, h5, h6, h7⟩ := Bd.le_iff h
  intro H
  induction H with
  | pair A B ia ib => intro w; cases w <;> first | exact fun _ => trivial | exact fun z => ⟨ia z.1, ib z.2⟩
  | sums => intro w; cases w <;> first | exact fun _ => trivial | exact fun z => Nat.le_trans z h2
  | families => intro w; cases w <;> first | exact fun _ => trivial | exact fun z => Nat.le_trans z h5
  | prices n => intro w; cases w <;> first | exact fun _ => trivial | exact fun z => Nat.le_trans z h1
  | formulas => intro w; cases w <;> first | exact fun _ => trivial | exact fun z => ⟨Nat.le_trans z.len h3, Int.le_trans z.sum (Int.ofNat_le.mpr h4), fun q hq => Nat.le_trans (z.key q hq) h6⟩
  | counts => intro w; cases w <;> first | exact fun _ => trivial | exact fun z => Nat.lt_of_lt_of_le z (Nat.pow_le_pow_right (by decide) h7)
  | _ => intro w; cases w <;> exact fun _ => trivial
/-- the numbers of the house are not too large to be multiplied -/
def Ho.sm : Ho → Prop
  | .capped n => n.natAbs < 2 ^ 2000000
  | .modulo n => n.natAbs < 2 ^ 2000000
  | .pair a b => a.sm ∧ b.sm
  | _ => True
end PF
set_option Elab.async false
set_option linter.all false
set_option maxRecDepth 100000
set_option maxHeartbeats 4000000
namespace PF
open PySem PySem.Spec PyProof.Rows L2
/-- a sequence in the first name -/
def SqS (refs : List Nat) (s0 : Sl) (ds : List D) : Prop := s0 = .fr (.tup ds) ∨ s0 = .fr (.lst ds) ∨ s0 = .ow (.lst ds) ∧ refs.contains 0 = true
theorem SqS.val {refs : List Nat} {s0 : Sl} {ds : List D} (h : SqS refs s0 ds) : ∃ d, s0.d? = some d ∧ seq? d = some ds := by
  rcases h with rfl | rfl | ⟨rfl, h⟩
  · exact ⟨_, rfl, rfl⟩
  · exact ⟨_, rfl, rfl⟩
  · exact ⟨_, rfl, rfl⟩
end PF
set_option Elab.async false
set_option linter.all false
set_option maxRecDepth 100000
set_option maxHeartbeats 4000000
set_option Elab.async false
set_option linter.all false
set_option maxRecDepth 100000
set_option maxHeartbeats 4000000
set_option Elab.async false
set_option linter.all false
set_option maxRecDepth 100000
set_option maxHeartbeats 4000000
set_option Elab.async false
set_option linter.all false
set_option maxRecDepth 100000
set_option maxHeartbeats 4000000
namespace PF
open PySem PySem.Spec PyProof.Rows L2
section
variable {Φ : Str → List Sl → FR} {γ : Str → Option D}
theorem execs_one {s : S} {e e' : Env} (h : exec Φ γ s e = .nx e') : execs Φ γ [s] e = .nx e' := by rw [execs_nx h]; simp only [execs]
end
end PF
set_option Elab.async false
set_option linter.all false
set_option maxRecDepth 100000
set_option maxHeartbeats 4000000
set_option Elab.async false
set_option linter.all false
set_option maxRecDepth 100000
set_option maxHeartbeats 4000000
namespace PF
open PySem PySem.Spec PyProof.Rows L2
def hP : Ho → Int → Int → Int
  | .capped n, a, b => minI n (a + b)
  | .modulo n, a, b => (a + b) % n
  | .chain _, a, b => maxI a b
  | .yes, a, b => maxI a b
  | .divisors _, a, b => lcmI a b
  | _, a, _ => a
def hM : Ho → Int → Int → Int
  | .capped n, a, b => minI n (a * b)
  | .modulo n, a, b => (a * b) % n
  | .chain _, a, b => minI a b
  | .yes, a, b => minI a b
  | .divisors _, a, b => gcdI a b
  | _, a, _ => a
def hO : Ho → Int
  | .capped _ => 1
  | .modulo n => 1 % n
  | .chain n => n
  | .yes => 1
  | .divisors n => n
  | _ => 0
end PF
set_option Elab.async false
set_option linter.all false
set_option maxRecDepth 100000
set_option maxHeartbeats 4000000
namespace PF
open PySem PySem.Spec PyProof.Rows L2
section
variable {Φ : Str → List Sl → FR} {γ : Str → Option D} {W : Sh}
/-- the draws stand in the first name; the block's name is another -/
theorem lc_draw {v : Nat} {it : It} {elt : E} {V : D → Prop} {ds : List D} {e : Env} {dr1 : D} {r : Env} (hI : evI Φ γ it e = .ok ds [] (.ow dr1 :: r)) (hw : W.has dr1) (hl : ds.length ≤ sizeLine)
    (h : ∀ d ∈ ds, ∀ dr, W.has dr → ∃ x dr', (ev Φ γ elt (.ow dr :: setS r v (.fr d)) = .ok .fr x (.ow dr' :: setS r v (.fr d)) ∨ ev Φ γ elt (.ow dr :: setS r v (.fr d)) = .ok .ow x (.ow dr' :: setS r v (.fr d))) ∧ V x ∧ W.has dr') :
    ∃ xs dr', ev Φ γ (.lc [v + 1] (.nm (v + 1)) it [] elt) e = .ok .ow (.lst xs) (.ow dr' :: r) ∧ xs.length = ds.length ∧ (∀ x ∈ xs, V x) ∧ W.has dr' := by
  obtain ⟨e', xs, ⟨dr', s, rfl, hw'⟩, k1, k2, k3⟩ := lcGo_ex (tgt := asgW [v + 1] (.nm (v + 1))) (tst := evTs Φ γ []) (elt := ev Φ γ elt) (fun e' => ∃ dr s, e' = .ow dr :: setS r v s ∧ W.has dr) V ds (.ow dr1 :: r) [] ⟨dr1, getS r v, by rw [setS_self], hw⟩ (fun v h => by cases h) (by
    rintro d hd e' ⟨dr, s, rfl, hw⟩
    obtain ⟨x, dr', h1, h2, h3⟩ := h d hd dr hw
    refine ⟨.ow dr :: setS r v (.fr d), .ow dr :: setS r v (.fr d), .ow dr' :: setS r v (.fr d), x, ?_, by simp only [evTs], h1, h2, dr', .fr d, rfl, h3⟩
    show some (Sl.ow dr :: setS (setS (setS r v s) v .non) v (.fr d)) = _
    rw [setS_setS, setS_setS]) (by simpa using hl)
  refine ⟨xs, dr', ?_, by simpa using k2, k1, hw'⟩
  simp only [ev, hI, RI.bd]
  show RL.bd (lcGo _ _ _ ds (.ow dr1 :: r) []) _ = _
  rw [k3]
  show RE.ok .ow _ (Sl.ow dr' :: setS (setS r v s) v (getS r v)) = _
  rw [setS_setS, setS_self]
theorem take_ev (hT : TakeOk Φ W) {dr : D} (hw : W.has dr) {m : Int} (hm : 1 ≤ m) (r : Env) : ∃ x dr', ev Φ γ (.call "_law_take" [(.pk 0), (.lit (.int m))]) (.ow dr :: r) = .ok .fr (.int x) (.ow dr' :: r) ∧ 0 ≤ x ∧ x < m ∧ W.has dr' := by
  obtain ⟨x, dr', h1, h2, h3, h4⟩ := hT dr m hw hm
  exact ⟨x, dr', callP (o := false) (i := 0) (es := [.lit (.int m)]) (ds := [.int m]) (e := .ow dr :: r) rfl rfl ⟨argL _, trivial⟩ (x' := .ow dr') rfl h1, h2, h3, h4⟩
end
def Ho.tiny : Ho → Prop
  | .capped n => 1 ≤ n ∧ n ≤ 6
  | .modulo n => 1 ≤ n ∧ n ≤ 6
  | .chain n => 1 ≤ n ∧ n ≤ 6
  | .divisors n => n ∈ ([1, 12, 30, 7, 16, 36] : List Int)
  | .pair a b => a.tiny ∧ b.tiny
  | _ => True
structure HoG (H : Ho) (d : Nat) : Prop where
  gd : H.gd
  sm : H.sm
  ty : H.tiny
  dep : H.dep ≤ d
abbrev hs2 : S := .asg 3 (.op .add [(.pk 3), (.lst [(.tup [(.lit (.str "formulas"))]), (.tup [(.lit (.str "prices")), (.op .add [(.lit (.int 1)), (.op .fdiv [(.pk 2), (.lit (.int 2))])])]), (.tup [(.lit (.str "divisors")), (.op .idx [(.lst [(.lit (.int 1)), (.lit (.int 12)), (.lit (.int 30)), (.lit (.int 7)), (.lit (.int 16)), (.lit (.int 36))]), (.op .sub [(.pk 2), (.lit (.int 1))])])])])])
end PF
set_option Elab.async false
set_option linter.all false
set_option maxRecDepth 100000
set_option maxHeartbeats 4000000
namespace PF
open PySem PySem.Spec PyProof.Rows L2
section
variable {Φ : Str → List Sl → FR} {γ : Str → Option D} {W : Sh}
/-- in sequence: values, no places -/
theorem op1S {p : Op} {a : E} {d r : D} {o o1 : Bool} {e e1 : Env} (h : ev Φ γ a e = .ok (flOf o1) d e1) (hp : prim p [d] = some (o, r)) : ev Φ γ (.op p [a]) e = .ok (flOf o) r e1 := by
  rw [show ev Φ γ (.op p [a]) e = (evs Φ γ [a] e).bd fun vs e1 => onE (lates vs e1) fun ds => primE e1 (prim p ds) from by simp only [ev]]
  cases o1 <;> simp only [evs, h, flOf, RE.bds, REs.bds, REs.bd, lates, late, onE, hp, primE, if_true, Bool.false_eq_true, if_false]
theorem op2S {p : Op} {a b : E} {d1 d2 r : D} {o o1 o2 : Bool} {e e1 e2 : Env} (h : ev Φ γ a e = .ok (flOf o1) d1 e1) (h' : ev Φ γ b e1 = .ok (flOf o2) d2 e2) (hp : prim p [d1, d2] = some (o, r)) : ev Φ γ (.op p [a, b]) e = .ok (flOf o) r e2 := by
  rw [show ev Φ γ (.op p [a, b]) e = (evs Φ γ [a, b] e).bd fun vs e1 => onE (lates vs e1) fun ds => primE e1 (prim p ds) from by simp only [ev]]
  cases o1 <;> cases o2 <;> simp only [evs, h, h', flOf, RE.bds, REs.bds, REs.bd, lates, late, onE, hp, primE, if_true, Bool.false_eq_true, if_false]
end
/-- a house of numbers of any size, or a small one -/
def Ho.wide (H : Ho) : Prop := H.tiny ∨ ∃ n, H = .capped n ∨ H = .modulo n ∨ H = .chain n ∨ H = .divisors n
structure HoW (H : Ho) : Prop where
  gd : H.gd
  sm : H.sm
  wd : H.wide
  dep : H.dep ≤ 4
theorem HoG.w {H : Ho} {d : Nat} (h : HoG H d) (hd : d ≤ 4) : HoW H := ⟨h.gd, h.sm, .inl h.ty, Nat.le_trans h.dep hd⟩
end PF
set_option Elab.async false
set_option linter.all false
set_option maxRecDepth 100000
set_option maxHeartbeats 4000000
namespace PF
open PySem PySem.Spec PyProof.Rows L2
section
variable {Φ : Str → List Sl → FR} {γ : Str → Option D} {W : Sh}
theorem rng_i {n : Nat} {e : Env} (hn : n ≤ 1000000) : rng1I e (some (.int (n : Int))) = .ok ((List.range n).map fun (k : Nat) => D.int (k : Int)) [] e := by
  have hb : (-(2 ^ 62) ≤ (n : Int)) ∧ ((n : Int) < 2 ^ 62) := by omega
  simp only [rng1I]
  rw [if_pos (by rw [decide_eq_true hb.1, decide_eq_true hb.2]; rfl), Int.toNat_natCast]
theorem rng_pk {i n : Nat} {e : Env} (h : getS e i = .fr (.int (n : Int))) (hn : n ≤ 1000000) : evI Φ γ (.rng1 (.pk i)) e = .ok ((List.range n).map fun (k : Nat) => D.int (k : Int)) [] e := by
  simp only [evI, ev, h, Sl.d?, onE, RE.bdI, late]
  exact rng_i hn
def SizeOk (Φ : Str → List Sl → FR) (W : Sh) (s0 : D) : Prop := ∀ dr, W.has dr → ∃ (z : Int) (dr' : D), Φ "_law_size" [.ow dr, .fr s0] = .ok false (.int z) [.ow dr', .non] ∧ 0 ≤ z ∧ z ≤ hugeI ∧ W.has dr'
end
end PF
set_option Elab.async false
set_option linter.all false
set_option maxRecDepth 100000
set_option maxHeartbeats 4000000
namespace PF
open PySem PySem.Spec PyProof.Rows L2
section
variable {Φ : Str → List Sl → FR} {γ : Str → Option D} {W : Sh}
theorem booT {a b : E} {e e1 : Env} {y : Bool} (h : ev Φ γ a e = .ok .fr (.bl true) e) (h' : ev Φ γ b e = .ok .fr (.bl y) e1) : ev Φ γ (.boo true [a, b]) e = .ok .fr (.bl y) e1 := by
  simp only [ev, evB, h, RE.bd, late, boolE, if_true, h']
theorem booF {a b : E} {e : Env} (h : ev Φ γ a e = .ok .fr (.bl false) e) : ev Φ γ (.boo true [a, b]) e = .ok .fr (.bl false) e := by
  simp only [ev, evB, h, RE.bd, late, boolE, Bool.false_eq_true, if_false]
end
end PF
set_option Elab.async false
set_option linter.all false
set_option maxRecDepth 100000
set_option maxHeartbeats 4000000
namespace PF
open PySem PySem.Spec PyProof.Rows L2
theorem d_draws {tab : Str → Option Fn} {γ : Str → Option D} (h : tab "_law_draws" = some fnDraws) (n : Nat) (hn : n ≤ 10000) {ns : List Int} (hl : ns.length ≤ 63) : ∀ k, 1 ≤ k → ∃ dr, run tab γ k "_law_draws" [.fr (.lst (ns.map .int)), .fr (.int (n : Int))] = .ok true dr [.non, .non] ∧ (drawW n).has dr := fun k hk => by
  obtain ⟨k', rfl⟩ : ∃ k', k = k' + 1 := ⟨k - 1, by omega⟩
  obtain ⟨ds, e1, e2, e3⟩ := draws_fn (run tab γ k') γ ns hl (n : Int) (by omega) (by omega)
  refine ⟨Lint ds, by rw [run_tab h]; exact e1, ⟨_, rfl, Nat.zero_le _, by rw [List.length_map]; omega, fun x hx => ?_⟩⟩
  obtain ⟨z, hz, rfl⟩ := List.mem_map.mp hx
  exact ⟨z, rfl, e3 z hz⟩
theorem script_huge {ns : List Int} (hb : ∀ z ∈ ns, Builtin.Int.intBits z ≤ 1048576) : ∀ z ∈ ns, (z.natAbs : Int) ≤ hugeI := fun z hz => by
  have := big_of (hb z hz)
  unfold hugeI
  exact Int.ofNat_le.mpr (Nat.le_of_lt this)
end PF
set_option Elab.async false
set_option linter.all false
set_option maxRecDepth 100000
set_option maxHeartbeats 2000000
namespace PF
open PySem PySem.Spec PyProof.Rows L2
abbrev fnSameR (refs : List Nat) : Fn := ⟨2, 3, refs, fnSame.body⟩
section
variable {Φ : Str → List Sl → FR} {γ : Str → Option D}
theorem pIsi_ok {d : D} {ts : List Ty} (h : flatTy d = true) : pIsi ts d = some (false, .bl (ts.any (isTy d))) := by
  unfold pIsi
  rw [if_pos h]
  rfl
end
theorem fit_lst {n : Nat} {ds : List D} (hl : ds.length ≤ 16777216) (h : ∀ d ∈ ds, Fit n d) : Fit (n + 1) (.lst ds) := by
  refine ⟨⟨plsA fun d hd => (h d hd).pla.pl, ?_⟩, fun m => ?_⟩
  · have := deps_all fun d hd => (h d hd).pla.dep
    simp only [D.dep]
    omega
  · cases m with
    | zero => trivial
    | succ m =>
      intro es k
      rcases k with k | k
      · cases k
      · cases k
        exact ⟨hl, fun x hx => (h x hx).lon m⟩
end PF
set_option Elab.async false
set_option linter.all false
set_option maxRecDepth 100000
set_option maxHeartbeats 4000000
set_option Elab.async false
set_option linter.all false
set_option maxRecDepth 100000
set_option maxHeartbeats 4000000
namespace PF
open PySem PySem.Spec PyProof.Rows L2
def Ho.free : Ho → Bool
  | .prices _ => false
  | .sums => false
  | .formulas => false
  | .pair _ _ => false
  | _ => true
end PF
set_option Elab.async false
set_option linter.all false
set_option maxRecDepth 100000
set_option maxHeartbeats 4000000
set_option Elab.async false
set_option linter.all false
set_option maxRecDepth 100000
set_option maxHeartbeats 4000000
namespace PF
open PySem PySem.Spec PyProof.Rows L2
section
variable {Φ : Str → List Sl → FR} {γ : Str → Option D}
theorem eq_nat (a b : Nat) : prim .eq [.int (a : Int), .int (b : Int)] = some (false, .bl (decide (a = b))) := by
  show pEq false (.int (a : Int)) (.int (b : Int)) = _
  unfold pEq
  rw [if_pos (show eqOk (.int (a : Int)) (.int (b : Int)) = true from rfl), eqII]
  show some (false, D.bl (decide ((a : Int) = b))) = _
  rw [show decide ((a : Int) = b) = decide (a = b) from decide_eq_decide.mpr Int.ofNat_inj]
theorem lt_nat (a b : Nat) : prim .lt [.int (a : Int), .int (b : Int)] = some (false, .bl (decide (a < b))) := by
  show pLt false (.int (a : Int)) (.int (b : Int)) = _
  rw [pLt_intD]
  show some (false, D.bl (decide ((a : Int) < b))) = _
  rw [show decide ((a : Int) < b) = decide (a < b) from decide_eq_decide.mpr Int.ofNat_lt]
end
end PF
set_option Elab.async false
set_option linter.all false
set_option maxRecDepth 100000
set_option maxHeartbeats 4000000
namespace PF
open PySem PySem.Spec PyProof.Rows L2
section
variable (Φ : Str → List Sl → FR) (γ : Str → Option D) (W : Sh)
def DrE (o : Bool) (a : E) (r : Env) (V : D → Prop) : Prop := ∀ dr, W.has dr → ∃ x dr', ev Φ γ a (.ow dr :: r) = .ok (flOf o) x (.ow dr' :: r) ∧ V x ∧ W.has dr'
def DrN (b : List S) (r : Env) (Q : Env → Prop) : Prop := ∀ dr, W.has dr → ∃ r' dr', execs Φ γ b (.ow dr :: r) = .nx (.ow dr' :: r') ∧ Q r' ∧ W.has dr'
def DrB (o : Bool) (b : List S) (r : Env) (V : D → Prop) : Prop := ∀ dr, W.has dr → ∃ x r' dr', execs Φ γ b (.ow dr :: r) = .rt o x (.ow dr' :: r') ∧ V x ∧ W.has dr'
def isBl (d : D) : Prop := ∃ b, d = .bl b
def isN (m : Nat) (d : D) : Prop := ∃ n : Nat, d = .int (n : Int) ∧ n < m
end
variable {Φ : Str → List Sl → FR} {γ : Str → Option D} {W : Sh} {o o1 o2 : Bool} {a b c : E} {r : Env} {V V1 V2 : D → Prop}
theorem DrE.imp (h : DrE Φ γ W o a r V) (k : ∀ x, V x → V1 x) : DrE Φ γ W o a r V1 := fun dr hw => by
  obtain ⟨x, dr', h1, h2, h3⟩ := h dr hw
  exact ⟨x, dr', h1, k x h2, h3⟩
theorem DrE.take (hT : TakeOk Φ W) {m : Nat} (hm : 1 ≤ m) : DrE Φ γ W false (.call "_law_take" [(.pk 0), (.lit (.int (m : Int)))]) r (isN m) := fun dr hw => by
  obtain ⟨x, dr', h1, h2, h3, h4⟩ := take_ev (γ := γ) hT hw (m := (m : Int)) (by omega) r
  obtain ⟨n, rfl⟩ := toN h2
  exact ⟨_, dr', h1, ⟨n, rfl, by omega⟩, h4⟩
theorem DrE.lit (d : D) : DrE Φ γ W false (.lit d) r (· = d) := fun dr hw => ⟨d, dr, by simp only [ev]; rfl, rfl, hw⟩
theorem DrE.var {i : Nat} {d : D} (h : getS r i = .fr d) : DrE Φ γ W false (.var (i + 1)) r (· = d) := fun dr hw => ⟨d, dr, by simp only [ev, getS, h, varE]; rfl, rfl, hw⟩
theorem DrE.pure {d : D} (h : ∀ dr, W.has dr → ev Φ γ a (.ow dr :: r) = .ok (flOf o) d (.ow dr :: r)) : DrE Φ γ W o a r (· = d) := fun dr hw => ⟨d, dr, h dr hw, rfl, hw⟩
theorem DrE.op1 {p : Op} (h : DrE Φ γ W o1 a r V1) (hp : ∀ x, V1 x → ∃ y, prim p [x] = some (o, y) ∧ V y) : DrE Φ γ W o (.op p [a]) r V := fun dr hw => by
  obtain ⟨x, dr', h1, h2, h3⟩ := h dr hw
  obtain ⟨y, k1, k2⟩ := hp x h2
  exact ⟨y, dr', op1S h1 k1, k2, h3⟩
theorem DrE.op2 {p : Op} (h : DrE Φ γ W o1 a r V1) (h' : DrE Φ γ W o2 b r V2) (hp : ∀ x y, V1 x → V2 y → ∃ z, prim p [x, y] = some (o, z) ∧ V z) : DrE Φ γ W o (.op p [a, b]) r V := fun dr hw => by
  obtain ⟨x, dr1, h1, h2, h3⟩ := h dr hw
  obtain ⟨y, dr2, k1, k2, k3⟩ := h' dr1 h3
  obtain ⟨z, p1, p2⟩ := hp x y h2 k2
  exact ⟨z, dr2, op2S h1 k1 p1, p2, k3⟩
theorem DrE.lst1 (h : DrE Φ γ W o1 a r V1) : DrE Φ γ W true (.lst [a]) r (fun d => ∃ x, d = .lst [x] ∧ V1 x) := fun dr hw => by
  obtain ⟨x, dr1, h1, h2, h3⟩ := h dr hw
  refine ⟨.lst [x], dr1, ?_, ⟨x, rfl, h2⟩, h3⟩
  cases o1 <;> (simp only [ev, evs, h1, flOf, RE.bds, REs.bds, REs.bd, storedE, PF.stored, Option.map_some, onE, if_true, Bool.false_eq_true, if_false]; rw [if_pos (by rw [sizeLine_eq]; simp)])
/-- a call that is handed the draws first, then what is read -/
theorem DrE.call {f : Str} {es : List E} {ds : List D} {outs : List Sl} (hA : ∀ dr, W.has dr → ArgsF Φ γ (.ow dr :: r) es ds) (hf : ∀ dr, W.has dr → ∃ x dr', Φ f (.ow dr :: ds.map .fr) = .ok o x (.ow dr' :: outs) ∧ V x ∧ W.has dr') : DrE Φ γ W o (.call f (.pk 0 :: es)) r V := fun dr hw => by
  obtain ⟨x, dr', h1, h2, h3⟩ := hf dr hw
  exact ⟨x, dr', callP (i := 0) (x' := .ow dr') rfl rfl (hA dr hw) rfl h1, h2, h3⟩
theorem DrE.takeE (hT : TakeOk Φ W) {m : Nat} (hm : 1 ≤ m) (h : ∀ dr, W.has dr → ∃ o, ev Φ γ a (.ow dr :: r) = .ok (flOf o) (.int (m : Int)) (.ow dr :: r)) : DrE Φ γ W false (.call "_law_take" [(.pk 0), a]) r (isN m) :=
  DrE.call (es := [a]) (ds := [.int (m : Int)]) (outs := [.non]) (fun dr hw => ⟨h dr hw, trivial⟩) fun dr hw => by
    obtain ⟨x, dr', h1, h2, h3, h4⟩ := hT dr (m : Int) hw (by omega)
    obtain ⟨n, rfl⟩ := toN h2
    exact ⟨_, dr', h1, ⟨n, rfl, by omega⟩, h4⟩
theorem DrE.isz (h : DrE Φ γ W o1 a r (isN n)) (k : Nat) : DrE Φ γ W false (.op .eq [a, .lit (.int (k : Int))]) r isBl := DrE.op2 h (DrE.lit _) fun x y hx hy => by
  obtain ⟨n, rfl, _⟩ := hx
  subst hy
  exact ⟨_, eq_nat n k, _, rfl⟩
theorem flOr {x : D} {e e' : Env} (h : ev Φ γ a e = .ok (flOf o) x e') : ev Φ γ a e = .ok .fr x e' ∨ ev Φ γ a e = .ok .ow x e' := by
  cases o
  · exact .inl h
  · exact .inr h
/-- a comprehension over range -/
theorem DrE.lc {v n : Nat} {it : It} (hI : ∀ dr, W.has dr → ∃ m dr1, evI Φ γ it (.ow dr :: r) = .ok ((List.range m).map fun (k : Nat) => D.int (k : Int)) [] (.ow dr1 :: r) ∧ m ≤ n ∧ W.has dr1) (hn : n ≤ 1000000) (h : ∀ k : Nat, k < n → DrE Φ γ W o1 a (setS r v (.fr (.int (k : Int)))) V) :
    DrE Φ γ W true (.lc [v + 1] (.nm (v + 1)) it [] a) r (fun d => ∃ xs, d = .lst xs ∧ xs.length ≤ n ∧ ∀ x ∈ xs, V x) := fun dr hw => by
  obtain ⟨m, dr1, h1, h2, h3⟩ := hI dr hw
  obtain ⟨xs, dr', k1, k2, k3, k4⟩ := lc_draw (v := v) (V := V) h1 h3 (by rw [List.length_map, List.length_range, sizeLine_eq]; omega) (fun d hd dr hw => by
    obtain ⟨k, hk, rfl⟩ := List.mem_map.mp hd
    obtain ⟨x, dr', p1, p2, p3⟩ := h k (by rw [List.mem_range] at hk; omega) dr hw
    exact ⟨x, dr', flOr p1, p2, p3⟩)
  refine ⟨.lst xs, dr', k1, ⟨xs, rfl, ?_, k3⟩, k4⟩
  rw [List.length_map, List.length_range] at k2
  omega
/-- the same, of just so many -/
theorem DrE.lcN {v n : Nat} {it : It} (hI : ∀ dr, W.has dr → ∃ dr1, evI Φ γ it (.ow dr :: r) = .ok ((List.range n).map fun (k : Nat) => D.int (k : Int)) [] (.ow dr1 :: r) ∧ W.has dr1) (hn : n ≤ 1000000) (h : ∀ k : Nat, k < n → DrE Φ γ W o1 a (setS r v (.fr (.int (k : Int)))) V) :
    DrE Φ γ W true (.lc [v + 1] (.nm (v + 1)) it [] a) r (fun d => ∃ xs, d = .lst xs ∧ xs.length = n ∧ ∀ x ∈ xs, V x) := fun dr hw => by
  obtain ⟨dr1, h1, h3⟩ := hI dr hw
  obtain ⟨xs, dr', k1, k2, k3, k4⟩ := lc_draw (v := v) (V := V) h1 h3 (by rw [List.length_map, List.length_range, sizeLine_eq]; omega) (fun d hd dr hw => by
    obtain ⟨k, hk, rfl⟩ := List.mem_map.mp hd
    obtain ⟨x, dr', p1, p2, p3⟩ := h k (by rw [List.mem_range] at hk; omega) dr hw
    exact ⟨x, dr', flOr p1, p2, p3⟩)
  refine ⟨.lst xs, dr', k1, ⟨xs, rfl, ?_, k3⟩, k4⟩
  rw [List.length_map, List.length_range] at k2
  exact k2
theorem DrE.rng {m : Nat} (h : DrE Φ γ W false a r (isN m)) (hm : m ≤ 1000000) : ∀ dr, W.has dr → ∃ k dr1, evI Φ γ (.rng1 a) (.ow dr :: r) = .ok ((List.range k).map fun (k : Nat) => D.int (k : Int)) [] (.ow dr1 :: r) ∧ k ≤ m - 1 ∧ W.has dr1 := fun dr hw => by
  obtain ⟨x, dr1, h1, ⟨k, rfl, hk⟩, h3⟩ := h dr hw
  exact ⟨k, dr1, rng_ev h1 (by omega), by omega, h3⟩
theorem DrE.rngPk {i m : Nat} (h : getS r i = .fr (.int (m : Int))) (hm : m ≤ 1000000) : ∀ dr, W.has dr → ∃ dr1, evI Φ γ (.rng1 (.pk (i + 1))) (.ow dr :: r) = .ok ((List.range m).map fun (k : Nat) => D.int (k : Int)) [] (.ow dr1 :: r) ∧ W.has dr1 := fun dr hw => ⟨dr, rng_pk (i := i + 1) (by exact h) hm, hw⟩
/-- a and then b, by and -/
theorem DrE.and (h : DrE Φ γ W false a r isBl) (h' : DrE Φ γ W false b r isBl) : DrE Φ γ W false (.boo true [a, b]) r isBl := fun dr hw => by
  obtain ⟨x, dr1, h1, ⟨p, rfl⟩, h3⟩ := h dr hw
  obtain ⟨y, dr2, k1, ⟨q, rfl⟩, k3⟩ := h' dr1 h3
  have h1 : ev Φ γ a (.ow dr :: r) = .ok .fr (.bl p) (.ow dr1 :: r) := h1
  have k1 : ev Φ γ b (.ow dr1 :: r) = .ok .fr (.bl q) (.ow dr2 :: r) := k1
  cases p with
  | false => exact ⟨.bl false, dr1, by simp only [ev, evB, h1, RE.bd, late, boolE, Bool.false_eq_true, if_false]; rfl, ⟨_, rfl⟩, h3⟩
  | true => exact ⟨.bl q, dr2, by simp only [ev, evB, h1, RE.bd, late, boolE, if_true, k1]; rfl, ⟨_, rfl⟩, k3⟩
theorem DrB.ret {rest : List S} (h : DrE Φ γ W o a r V) : DrB Φ γ W o (.ret a :: rest) r V := fun dr hw => by
  obtain ⟨x, dr', h1, h2, h3⟩ := h dr hw
  exact ⟨x, r, dr', execs_rt (ret1 h1), h2, h3⟩
theorem DrB.asg {i : Nat} {rest : List S} (h : DrE Φ γ W o1 a r V1) (k : ∀ x, V1 x → DrB Φ γ W o rest (setS r i (slOf o1 x)) V) : DrB Φ γ W o (.asg (i + 1) a :: rest) r V := fun dr hw => by
  obtain ⟨x, dr1, h1, h2, h3⟩ := h dr hw
  obtain ⟨y, r', dr', k1, k2, k3⟩ := k x h2 dr1 h3
  exact ⟨y, r', dr', (execs_nx (asg1 h1)).trans k1, k2, k3⟩
theorem DrN.asg {i : Nat} {rest : List S} {Q : Env → Prop} (h : DrE Φ γ W o1 a r V1) (k : ∀ x, V1 x → DrN Φ γ W rest (setS r i (slOf o1 x)) Q) : DrN Φ γ W (.asg (i + 1) a :: rest) r Q := fun dr hw => by
  obtain ⟨x, dr1, h1, h2, h3⟩ := h dr hw
  obtain ⟨r', dr', k1, k2, k3⟩ := k x h2 dr1 h3
  exact ⟨r', dr', (execs_nx (asg1 h1)).trans k1, k2, k3⟩
theorem DrN.nil {Q : Env → Prop} (h : Q r) : DrN Φ γ W [] r Q := fun dr hw => ⟨r, dr, by simp only [execs], h, hw⟩
theorem execs_cons (s : S) (b : List S) (e : Env) : execs Φ γ (s :: b) e = (exec Φ γ s e).bd (execs Φ γ b) := by rw [execs]
theorem DrB.iff {A B rest : List S} (h : DrE Φ γ W false c r isBl) (k1 : DrB Φ γ W o (A ++ rest) r V) (k2 : DrB Φ γ W o (B ++ rest) r V) : DrB Φ γ W o (.iff c A B :: rest) r V := fun dr hw => by
  obtain ⟨x, dr1, h1, ⟨p, rfl⟩, h3⟩ := h dr hw
  cases p with
  | true =>
    obtain ⟨y, r', dr', q1, q2, q3⟩ := k1 dr1 h3
    exact ⟨y, r', dr', by rw [execs_cons, iff_t h1, ← execs_app]; exact q1, q2, q3⟩
  | false =>
    obtain ⟨y, r', dr', q1, q2, q3⟩ := k2 dr1 h3
    exact ⟨y, r', dr', by rw [execs_cons, iff_f h1, ← execs_app]; exact q1, q2, q3⟩
theorem DrN.iff {A B rest : List S} {Q : Env → Prop} (h : DrE Φ γ W false c r isBl) (k1 : DrN Φ γ W (A ++ rest) r Q) (k2 : DrN Φ γ W (B ++ rest) r Q) : DrN Φ γ W (.iff c A B :: rest) r Q := fun dr hw => by
  obtain ⟨x, dr1, h1, ⟨p, rfl⟩, h3⟩ := h dr hw
  cases p with
  | true =>
    obtain ⟨r', dr', q1, q2, q3⟩ := k1 dr1 h3
    exact ⟨r', dr', by rw [execs_cons, iff_t h1, ← execs_app]; exact q1, q2, q3⟩
  | false =>
    obtain ⟨r', dr', q1, q2, q3⟩ := k2 dr1 h3
    exact ⟨r', dr', by rw [execs_cons, iff_f h1, ← execs_app]; exact q1, q2, q3⟩
theorem DrB.seq {s : S} {rest : List S} {Q : Env → Prop} (h : DrN Φ γ W [s] r Q) (k : ∀ r', Q r' → DrB Φ γ W o rest r' V) : DrB Φ γ W o (s :: rest) r V := fun dr hw => by
  obtain ⟨r1, dr1, h1, h2, h3⟩ := h dr hw
  obtain ⟨y, r', dr', q1, q2, q3⟩ := k r1 h2 dr1 h3
  refine ⟨y, r', dr', ?_, q2, q3⟩
  rw [show s :: rest = [s] ++ rest from rfl, execs_app, h1]
  exact q1
theorem DrN.seq {s : S} {rest : List S} {Q Q1 : Env → Prop} (h : DrN Φ γ W [s] r Q1) (k : ∀ r', Q1 r' → DrN Φ γ W rest r' Q) : DrN Φ γ W (s :: rest) r Q := fun dr hw => by
  obtain ⟨r1, dr1, h1, h2, h3⟩ := h dr hw
  obtain ⟨r', dr', q1, q2, q3⟩ := k r1 h2 dr1 h3
  refine ⟨r', dr', ?_, q2, q3⟩
  rw [show s :: rest = [s] ++ rest from rfl, execs_app, h1]
  exact q1
/-- a line that draws nothing -/
theorem DrN.one {s : S} {r' : Env} (h : ∀ dr, W.has dr → exec Φ γ s (.ow dr :: r) = .nx (.ow dr :: r')) : DrN Φ γ W [s] r (· = r') := fun dr hw => ⟨r', dr, execs_one (h dr hw), rfl, hw⟩
theorem DrN.app {i : Nat} {L : List D} (hi : getS r i = .ow (.lst L)) (hl : L.length < sizeLine) (h : DrE Φ γ W o1 a r V1) : DrN Φ γ W [.ex (.mu .append (i + 1) [a])] r (fun r' => ∃ x, r' = setS r i (.ow (.lst (L ++ [x]))) ∧ V1 x) := fun dr hw => by
  obtain ⟨x, dr1, h1, h2, h3⟩ := h dr hw
  refine ⟨setS r i (.ow (.lst (L ++ [x]))), dr1, execs_one ?_, ⟨x, rfl, h2⟩, h3⟩
  have g0 : getS (.ow dr :: r) (i + 1) = .ow (.lst L) := hi
  have g1 : getS (.ow dr1 :: r) (i + 1) = .ow (.lst L) := hi
  have st : storedE [(flOf o1, x)] (fun ds => muE .append (i + 1) (.ow dr1 :: r) ds) = .ok .fr .non (setS (.ow dr1 :: r) (i + 1) (.ow (.lst (L ++ [x])))) := by
    cases o1 <;> simp only [flOf, storedE, stored, Option.map_some, onE, muE, g1, owOf, muD, if_pos hl, if_true, Bool.false_eq_true, if_false]
  simp only [exec, ev, g0, slotFits, muIsDict, Bool.not_false, if_true, evs, h1, RE.bds, REs.bds, REs.bd]
  rw [st]
  rfl
/-- a loop over a range -/
theorem DrN.for {v n : Nat} {it : It} {body : List S} {I : Nat → Env → Prop} (hI : ∀ dr, W.has dr → ∃ dr1, evI Φ γ it (.ow dr :: r) = .ok ((List.range n).map fun (k : Nat) => D.int (k : Int)) [] (.ow dr1 :: r) ∧ W.has dr1) (h0 : I 0 r)
    (h : ∀ (k : Nat) (r : Env), k < n → I k r → DrN Φ γ W body (setS r v (.fr (.int (k : Int)))) (I (k + 1))) : DrN Φ γ W [.for_ (.nm (v + 1)) it body] r (I n) := fun dr hw => by
  obtain ⟨dr1, h1, h3⟩ := hI dr hw
  obtain ⟨e', ⟨dr', r', rfl, q1, q2⟩, lq⟩ := forGo_inv (tgt := asgT (.nm (v + 1))) (body := execs Φ γ body) (fun i e => ∃ dr r, e = .ow dr :: r ∧ W.has dr ∧ I i r) ((List.range n).map fun (k : Nat) => D.int (k : Int)) 0 (.ow dr1 :: r) ⟨dr1, r, rfl, h3, h0⟩ (fun i d e hd hi => by
    obtain ⟨dr, r, rfl, hw, hi⟩ := hi
    rw [Nat.zero_add] at hi ⊢
    have hlt : i < n := by
      have := (List.getElem?_eq_some_iff.mp hd).1
      rwa [List.length_map, List.length_range] at this
    have hd' : d = .int (i : Int) := by
      rw [List.getElem?_map, List.getElem?_range hlt] at hd
      exact (Option.some.inj hd).symm
    subst hd'
    obtain ⟨r', dr', k1, k2, k3⟩ := h i r hlt hi dr hw
    exact ⟨.ow dr :: setS r v (.fr (.int (i : Int))), .ow dr' :: r', rfl, .inl k1, dr', r', rfl, k3, k2⟩)
  rw [Nat.zero_add, List.length_map, List.length_range] at q2
  refine ⟨r', dr', execs_one ?_, q2, q1⟩
  rw [exec, h1, RI.bdS]
  show (forGo _ _ _ (.ow dr1 :: r)).env _ = _
  rw [lq]
  rfl
abbrev pickE : E := .op .idx [(.pk 1), (.call "_law_take" [(.pk 0), (.op .len [(.pk 1)])])]
abbrev fnPickR (refs : List Nat) : Fn := ⟨2, 2, refs, [.ret pickE]⟩
def PickOk (Φ : Str → List Sl → FR) (W : Sh) : Prop := ∀ (ds : List D) (dr : D) (s1 : Sl), W.has dr → ds ≠ [] → (s1 = .fr (.lst ds) ∨ s1 = .ow (.lst ds)) → ∃ x ∈ ds, ∃ dr', Φ "_law_pick" [.ow dr, s1] = .ok false x [.ow dr', s1] ∧ W.has dr'
theorem pickR (hT : TakeOk Φ W) {ds : List D} (hne : ds ≠ []) {dr : D} (hw : W.has dr) (s1 : Sl) (hs : s1 = .fr (.lst ds) ∨ s1 = .ow (.lst ds)) : ∃ x ∈ ds, ∃ dr', ev Φ γ pickE [.ow dr, s1] = .ok .fr x [.ow dr', s1] ∧ W.has dr' := by
  have hl := List.length_pos_iff.mpr hne
  obtain ⟨x, dr', h1, h2, h3, h4⟩ := hT dr (ds.length : Int) hw (by omega)
  obtain ⟨n, rfl⟩ := toN h2
  have hn : n < ds.length := by omega
  have hd : s1.d? = some (.lst ds) := by rcases hs with rfl | rfl <;> rfl
  have p := callP (Φ := Φ) (γ := γ) (f := "_law_take") (o := false) (i := 0) (es := [.op .len [(.pk 1)]]) (ds := [.int (ds.length : Int)]) (e := [.ow dr, s1]) (r := .int (n : Int)) (x' := .ow dr') (outs := [.non]) rfl rfl ⟨⟨false, opV1 (p := .len) (o := false) (Val.pk hd) rfl⟩, trivial⟩ rfl h1
  refine ⟨ds[n], List.getElem_mem hn, dr', ?_, h4⟩
  have g : pIdx (.lst ds) (.int (n : Int)) = some (false, ds[n]) := by
    show ((atI ds (n : Int)).map fun v => (false, v)) = _
    rw [atI_nat hn]
    rfl
  unfold pickE
  generalize (E.call "_law_take" [(.pk 0), (.op .len [(.pk 1)])]) = X at p ⊢
  have p : ev Φ γ X [.ow dr, s1] = .ok .fr (.int (n : Int)) [.ow dr', s1] := p
  have g : prim .idx [.lst ds, .int (n : Int)] = some (false, ds[n]) := g
  generalize D.lst ds = L at p g hd ⊢
  simp only [ev, evs, getS, hd, onE, RE.bds, REs.bds, REs.bd, p, lates, late, g, primE, Bool.false_eq_true, if_false]
  rfl
end PF
set_option Elab.async false
set_option linter.all false
set_option maxRecDepth 100000
set_option maxHeartbeats 4000000
namespace PF
open PySem PySem.Spec PyProof.Rows L2
abbrev alpha : Str := "abcdefghijklmnopqrstuvwxyz"
def inA (c : Nat) : Bool := strIn (ch c) alpha
def isW (s : Str) : Bool := s.cps.toList.all inA && decide (s.cps.toList ≠ [])
theorem alpha_in : ∀ c ∈ alpha.cps.toList, inA c = true := by decide +kernel
theorem alpha_len : alpha.length = 26 := by decide +kernel
theorem zz_in : ∀ c ∈ ("zzzz" : Str).cps.toList, inA c = true := by decide +kernel
theorem appS_len (a b : Str) : (a ++ b).length = a.length + b.length := by
  show (a.cps ++ b.cps).size = _
  rw [Array.size_append]
  rfl
theorem appS_cps (a b : Str) : (a ++ b).cps.toList = a.cps.toList ++ b.cps.toList := by
  show (a.cps ++ b.cps).toList = _
  rw [Array.toList_append]
/-- a word that is drawn -/
def wordD (d : D) : Prop := ∃ s : Str, d = .str s ∧ isW s = true ∧ s.length ≤ 23
theorem wordD.pl {d : D} (h : wordD d) : d.pl = true := by
  obtain ⟨s, rfl, _⟩ := h
  rfl
abbrev wE : E := .op .idx [(.lit (.str "abcdefghijklmnopqrstuvwxyz")), (.call "_law_take" [(.pk 0), (.lit (.int 26))])]
abbrev lpWords : List S := [.asg 4 (.op .add [(.lit (.int 1)), (.call "_law_take" [(.pk 0), (.lit (.int 3))])]), .iff (.op .eq [(.call "_law_take" [(.pk 0), (.lit (.int 12))]), (.lit (.int 0))]) [.asg 4 (.op .add [(.op .add [(.pk 4), (.lit (.int 9))]), (.call "_law_take" [(.pk 0), (.lit (.int 12))])])] [], .asg 5 (.op .join [(.lit (.str "")), (.lc [6] (.nm 6) (.rng1 (.pk 4)) [] wE)]), .iff (.op .isIn [(.pk 5), (.pk 2)]) [.asg 5 (.op .add [(.lit (.str "zzzz")), (.op .idx [(.lit (.str "abcdefghijklmnopqrstuvwxyz")), (.pk 3)])])] [], .ex (.mu .append 2 [(.var 5)])]
abbrev fnWords : Fn := ⟨2, 7, [0], [.asg 2 (.lst []),
  .for_ (.nm 3) (.rng1 (.pk 1)) lpWords,
  .retV 2]⟩
section
variable {Φ : Str → List Sl → FR} {γ : Str → Option D} {W : Sh}
theorem addN (a b : Nat) : prim .add [.int (a : Int), .int (b : Int)] = some (false, .int ((a + b : Nat) : Int)) := rfl
def szD (d : D) : Prop := ∃ n : Nat, d = .int (n : Int) ∧ 1 ≤ n ∧ n ≤ 23
theorem words_body (hT : TakeOk Φ W) {m k : Nat} (hm : m ≤ 26) (hk : k < m) {ws : List D} (hl : ws.length = k) (hw : ∀ w ∈ ws, wordD w) (t3 t4 t5 : Sl) :
    DrN Φ γ W lpWords [.fr (.int (m : Int)), .ow (.lst ws), .fr (.int (k : Int)), t3, t4, t5] (fun r => ∃ ws t2 t3 t4 t5, r = [.fr (.int (m : Int)), .ow (.lst ws), t2, t3, t4, t5] ∧ ws.length = k + 1 ∧ ∀ w ∈ ws, wordD w) := by
  refine DrN.asg (o1 := false) (V1 := fun d => ∃ n : Nat, d = .int (n : Int) ∧ 1 ≤ n ∧ n ≤ 3) (DrE.op2 (DrE.lit _) (DrE.take hT (m := 3) (by decide)) fun x y hx hy => ?_) fun x hx => ?_
  · subst hx
    obtain ⟨n, rfl, hn⟩ := hy
    exact ⟨_, addN 1 n, 1 + n, rfl, by omega, by omega⟩
  obtain ⟨n, rfl, n1, n2⟩ := hx
  refine DrN.seq (Q1 := fun r => ∃ n : Nat, 1 ≤ n ∧ n ≤ 23 ∧ r = [.fr (.int (m : Int)), .ow (.lst ws), .fr (.int (k : Int)), .fr (.int (n : Int)), t4, t5]) (DrN.iff (DrE.isz (DrE.take hT (m := 12) (by decide)) 0) ?_ (DrN.nil ⟨n, n1, by omega, rfl⟩)) fun r hr => ?_
  · refine DrN.asg (o1 := false) (V1 := szD) (DrE.op2 (V1 := (· = .int ((n + 9 : Nat) : Int))) (DrE.pure (o := false) fun dr _ => opV2 (p := .add) (o := false) (Val.pk rfl) (Val.lit _) (addN n 9)) (DrE.take hT (m := 12) (by decide)) fun x y hx hy => ?_) fun x hx => ?_
    · subst hx
      obtain ⟨q, rfl, hq⟩ := hy
      exact ⟨_, addN (n + 9) q, n + 9 + q, rfl, by omega, by omega⟩
    · obtain ⟨q, rfl, q1, q2⟩ := hx
      exact DrN.nil ⟨q, q1, q2, rfl⟩
  obtain ⟨n, n1, n2, rfl⟩ := hr
  refine DrN.asg (o1 := false) (V1 := wordD) (DrE.op2 (DrE.lit _) (DrE.lcN (o1 := false) (v := 5) (n := n) (V := fun d => ∃ c, d = .str (ch c) ∧ inA c = true) (DrE.rngPk (i := 3) rfl (by omega)) (by omega) fun j hj => DrE.op2 (DrE.lit _) (DrE.take hT (m := 26) (by decide)) fun x y hx hy => ?_) fun x y hx hy => ?_) fun x hx => ?_
  · subst hx
    obtain ⟨q, rfl, hq⟩ := hy
    obtain ⟨c, c1, c2⟩ := str_idx (s := alpha) (i := (q : Int)) (by omega) (by rw [alpha_len]; omega) (by rw [alpha_len]; decide)
    exact ⟨_, c2, c, rfl, alpha_in c c1⟩
  · subst hx
    obtain ⟨xs, rfl, l1, l2⟩ := hy
    obtain ⟨cs, rfl, l3⟩ := chs_of l2
    rw [List.length_map] at l1
    refine ⟨_, pJoin_ch (by omega), _, rfl, ?_, ?_⟩
    · show (cs.all inA && decide (cs ≠ [])) = true
      rw [List.all_eq_true.mpr l3, decide_eq_true (by rintro rfl; simp at l1; omega)]
      rfl
    · show cs.toArray.size ≤ 23
      rw [List.size_toArray]
      omega
  refine DrN.seq (Q1 := fun r => ∃ w, wordD w ∧ r = [.fr (.int (m : Int)), .ow (.lst ws), .fr (.int (k : Int)), .fr (.int (n : Int)), .fr w, t5]) (DrN.iff ((DrE.pure (o := false) (d := .bl (memB x ws)) fun dr _ => opV2 (p := .isIn) (o := false) (Val.pk rfl) (Val.pk rfl) ?_).imp fun y hy => ⟨_, hy⟩) ?_ (DrN.nil ⟨x, hx, rfl⟩)) fun r hr => ?_
  · show (pyIn x ws).bind (fun b => ob (if false then !b else b)) = _
    obtain ⟨s, rfl, _⟩ := hx
    rw [pyIn_ok rfl (Nat.zero_le _) fun d hd => (hw d hd).pl]
    rfl
  · obtain ⟨c, c1, c2⟩ := str_idx (s := alpha) (i := (k : Int)) (by omega) (by rw [alpha_len]; omega) (by rw [alpha_len]; decide)
    refine DrN.asg (o1 := false) (V1 := wordD) ((DrE.pure (o := false) (d := .str ("zzzz" ++ ch c)) fun dr _ => ?_).imp fun y hy => ?_) fun x hx => DrN.nil ⟨x, hx, rfl⟩
    · refine opV2 (p := .add) (o := false) (Val.lit _) (Val.of (o := false) (opV2 (p := .idx) (o := false) (Val.lit _) (Val.pk rfl) c2)) ?_
      show (if ("zzzz" : Str).length + (ch c).length ≤ sizeLine then some (false, D.str ("zzzz" ++ ch c)) else none) = _
      rw [if_pos (by rw [sizeLine_eq]; show ("zzzz" : Str).length + 1 ≤ _; decide)]
    · subst hy
      refine ⟨_, rfl, ?_, ?_⟩
      · unfold isW
        rw [appS_cps, List.all_append, List.all_eq_true.mpr zz_in]
        show ((true && (inA c && true)) && _) = true
        rw [alpha_in c c1]
        rfl
      · rw [appS_len]
        show ("zzzz" : Str).length + 1 ≤ _
        decide
  obtain ⟨w, w1, rfl⟩ := hr
  have h := DrN.app (Φ := Φ) (γ := γ) (W := W) (r := [.fr (.int (m : Int)), .ow (.lst ws), .fr (.int (k : Int)), .fr (.int (n : Int)), .fr w, t5]) (i := 1) (L := ws) rfl (by rw [sizeLine_eq]; omega) (DrE.var (i := 4) (d := w) rfl)
  intro dr hd
  obtain ⟨r', dr', h1, ⟨x, rfl, rfl⟩, h3⟩ := h dr hd
  exact ⟨_, dr', h1, ⟨ws ++ [x], _, _, _, _, rfl, by rw [List.length_append, hl]; rfl, fun y hy => by
    rcases List.mem_append.mp hy with hy | hy
    · exact hw y hy
    · rw [List.mem_singleton.mp hy]; exact w1⟩, h3⟩
theorem words_fn (hT : TakeOk Φ W) {m : Nat} (hm : m ≤ 26) {dr : D} (hd : W.has dr) : ∃ ws dr', fnWords.run Φ γ [.ow dr, .fr (.int (m : Int))] = .ok true (.lst ws) [.ow dr', .non] ∧ ws.length = m ∧ (∀ w ∈ ws, wordD w) ∧ W.has dr' := by
  have e1 : exec Φ γ (.asg 2 (.lst [])) [.ow dr, .fr (.int (m : Int)), .non, .non, .non, .non, .non] = .nx [.ow dr, .fr (.int (m : Int)), .ow (.lst []), .non, .non, .non, .non] := rfl
  obtain ⟨r', dr', h1, ⟨ws, t2, t3, t4, t5, rfl, h2, h3⟩, h4⟩ := DrN.for (Φ := Φ) (γ := γ) (W := W) (v := 2) (n := m) (it := .rng1 (.pk 1)) (body := lpWords) (I := fun k r => ∃ ws t2 t3 t4 t5, r = [.fr (.int (m : Int)), .ow (.lst ws), t2, t3, t4, t5] ∧ ws.length = k ∧ ∀ w ∈ ws, wordD w)
    (r := [.fr (.int (m : Int)), .ow (.lst []), .non, .non, .non, .non]) (DrE.rngPk (i := 0) rfl (by omega)) ⟨[], _, _, _, _, rfl, rfl, fun w h => by cases h⟩ (fun k r hk hr => by
      obtain ⟨ws, t2, t3, t4, t5, rfl, h2, h3⟩ := hr
      exact words_body hT hm hk h2 h3 t3 t4 t5) dr hd
  have hx : execs Φ γ fnWords.body ([.ow dr, .fr (.int (m : Int))] ++ List.replicate 5 .non) = .rt true (.lst ws) [.ow dr', .fr (.int (m : Int)), .non, t2, t3, t4, t5] := by
    have q := execs_app (Φ := Φ) (γ := γ) [.for_ (.nm 3) (.rng1 (.pk 1)) lpWords] [.retV 2] [.ow dr, .fr (.int (m : Int)), .ow (.lst []), .non, .non, .non, .non]
    have h1 : execs Φ γ [.for_ (.nm 3) (.rng1 (.pk 1)) lpWords] [.ow dr, .fr (.int (m : Int)), .ow (.lst []), .non, .non, .non, .non] = .nx [.ow dr', .fr (.int (m : Int)), .ow (.lst ws), t2, t3, t4, t5] := h1
    rw [h1] at q
    have q2 : execs Φ γ [.retV 2] [.ow dr', .fr (.int (m : Int)), .ow (.lst ws), t2, t3, t4, t5] = .rt true (.lst ws) [.ow dr', .fr (.int (m : Int)), .non, t2, t3, t4, t5] := execs_rt rfl
    exact (execs_nx e1).trans (q.trans q2)
  exact ⟨ws, dr', fn_rt (fn := fnWords) (as := [.ow dr, .fr (.int (m : Int))]) (o := true) rfl hx, h2, h3, h4⟩
end
end PF
set_option Elab.async false
set_option linter.all false
set_option maxRecDepth 100000
set_option maxHeartbeats 4000000
namespace PF
open PySem PySem.Spec PyProof.Rows L2
section
variable {Φ : Str → List Sl → FR} {γ : Str → Option D} {W : Sh} {o o1 : Bool} {a : E} {r : Env} {V V1 : D → Prop}
/-- a function that is handed the draws -/
def FnD (Φ : Str → List Sl → FR) (W : Sh) (f : Str) (ds : List D) (V : D → Prop) : Prop := ∀ dr, W.has dr → ∃ x dr', Φ f (.ow dr :: ds.map .fr) = .ok false x (.ow dr' :: ds.map fun _ => .non) ∧ V x ∧ W.has dr'
theorem DrE.fn {f : Str} {es : List E} {ds : List D} (hA : ∀ dr, W.has dr → ArgsF Φ γ (.ow dr :: r) es ds) (hf : FnD Φ W f ds V) : DrE Φ γ W false (.call f (.pk 0 :: es)) r V := DrE.call (outs := ds.map fun _ => .non) hA hf
/-- one of a list that stands in a name -/
theorem DrE.pickP (hP : PickOk Φ W) {j : Nat} {ds : List D} (hs : getS r j = .fr (.lst ds) ∨ getS r j = .ow (.lst ds)) (hne : ds ≠ []) : DrE Φ γ W false (.call "_law_pick" [(.pk 0), (.pk (j + 1))]) r (· ∈ ds) := fun dr hw => by
  generalize g : getS r j = s1 at hs
  obtain ⟨x, hx, dr', hf, h3⟩ := hP ds dr s1 hw hne hs
  refine ⟨x, dr', ?_, hx, h3⟩
  have gd : s1.d? = some (.lst ds) := by rcases hs with rfl | rfl <;> rfl
  have gn : isNon s1 = false := by rcases hs with rfl | rfl <;> rfl
  have d0 : (Sl.ow dr).d? = some dr := rfl
  have n0 : isNon (Sl.ow dr') = false := rfl
  have e0 : evs Φ γ [.pk 0, .pk (j + 1)] (.ow dr :: r) = .ok [(.pl 0, dr), (.pl (j + 1), .lst ds)] (.ow dr :: r) := by
    simp only [evs, ev, getS, g, gd, d0, onE, RE.bds, REs.bds]
  have e1 : setS r j s1 = r := by rw [← g, setS_self]
  have nd : nodupN [0, j + 1] = true := by simp [nodupN]
  simp only [ev, e0, REs.bd, places, nd, if_true, lend, getS, g, hf, callE, back, n0, gn, Bool.false_eq_true, if_false, setS, e1, onE]
theorem pick_ok {tab : Str → Option Fn} (ht : tab "_law_pick" = some (fnPickR [0, 1])) (htk : tab "_law_take" = some fnTake) (n : Nat) : ∀ k, 2 ≤ k → PickOk (run tab γ k) (drawW n) := fun k hk ds dr s1 hw hne hs => by
  obtain ⟨k', rfl⟩ : ∃ k', k = k' + 1 := ⟨k - 1, by omega⟩
  have hT := take_ok (γ := γ) htk n k' (by omega)
  obtain ⟨x, hx, dr', e1, h3⟩ := pickR (γ := γ) hT hne hw s1 hs
  refine ⟨x, hx, dr', ?_, h3⟩
  rw [run_tab ht]
  rcases hs with rfl | rfl
  · exact fn_rt (fn := fnPickR [0, 1]) (as := [.ow dr, .fr (.lst ds)]) (o := false) rfl (execs_rt (ret1 (o := false) e1))
  · exact fn_rt (fn := fnPickR [0, 1]) (as := [.ow dr, .ow (.lst ds)]) (o := false) rfl (execs_rt (ret1 (o := false) e1))
abbrev fnNumber : Fn := ⟨2, 2, [0], [.ret (.op .mul [(.call "_law_size" [(.pk 0), (.var 1)]), (.op .sub [(.lit (.int 1)), (.op .mul [(.lit (.int 2)), (.call "_law_take" [(.pk 0), (.lit (.int 2))])])])])]⟩
def numD (d : D) : Prop := ∃ i : Int, d = .int i ∧ i.natAbs < 2 ^ 1048577
def valD (d : D) : Prop := wordD d ∨ numD d
def termD (d : D) : Prop := (∃ w, wordD w ∧ d = .tup [.str "var", w]) ∨ ∃ v, valD v ∧ d = .tup [.str "value", v]
def atomD (m : Nat) (d : D) : Prop := ∃ w ts, d = .tup [w, .tup ts] ∧ wordD w ∧ ts.length ≤ m ∧ ∀ t ∈ ts, termD t
theorem huge_lt {z : Int} (h0 : 0 ≤ z) (h : z ≤ hugeI) (b : Bool) : (z * (if b then -1 else 1)).natAbs < 2 ^ 1048577 := by
  have e : (2 : Nat) ^ 1048577 = 2 ^ 1048576 * 2 := by rw [show (1048577 : Nat) = 1048576 + 1 from rfl, Nat.pow_succ]
  have p := Nat.two_pow_pos 1048576
  unfold hugeI at h
  rw [e]
  generalize (2 : Nat) ^ 1048576 = A at h p ⊢
  have h : z ≤ (A : Int) := h
  cases b
  · simp only [Bool.false_eq_true, if_false, Int.mul_one]; omega
  · simp only [if_true, Int.mul_neg, Int.mul_one]; omega
theorem number_fn (hT : TakeOk Φ W) {scr : D} (hS : SizeOk Φ W scr) : ∀ dr, W.has dr → ∃ x dr', fnNumber.run Φ γ [.ow dr, .fr scr] = .ok false x [.ow dr', .non] ∧ numD x ∧ W.has dr' := fun dr hw => by
  have b : DrB Φ γ W false fnNumber.body [.fr scr] numD := by
    refine DrB.ret (DrE.op2 (o1 := false) (o2 := false) (V1 := fun d => ∃ z, d = .int z ∧ 0 ≤ z ∧ z ≤ hugeI) (V2 := fun d => ∃ b : Bool, d = .int (if b then -1 else 1)) (DrE.call (es := [.var 1]) (ds := [scr]) (outs := [.non]) (fun dr _ => ⟨argV rfl, trivial⟩) fun dr hw => ?_) (DrE.op2 (o1 := false) (o2 := false) (DrE.lit _) (DrE.op2 (o1 := false) (o2 := false) (V := fun d => ∃ b : Bool, d = .int (if b then 2 else 0)) (DrE.lit _) (DrE.take hT (m := 2) (by decide)) fun x y hx hy => ?_) fun x y hx hy => ?_) fun x y hx hy => ?_)
    · obtain ⟨z, dr', h1, h2, h3, h4⟩ := hS dr hw
      exact ⟨_, dr', h1, ⟨z, rfl, h2, h3⟩, h4⟩
    · subst hx
      obtain ⟨q, rfl, hq⟩ := hy
      match q, hq with
      | 0, _ => exact ⟨_, rfl, false, rfl⟩
      | 1, _ => exact ⟨_, rfl, true, rfl⟩
    · subst hx
      obtain ⟨b, rfl⟩ := hy
      exact ⟨_, rfl, b, by cases b <;> rfl⟩
    · obtain ⟨z, rfl, z1, z2⟩ := hx
      obtain ⟨b, rfl⟩ := hy
      refine ⟨.int (z * (if b then -1 else 1)), ?_, _, rfl, huge_lt z1 z2 b⟩
      show (if mulOk z _ then some (false, D.int _) else none) = _
      rw [if_pos (mulOk_r (by cases b <;> decide) (by cases b <;> decide))]
  obtain ⟨x, r', dr', h1, h2, h3⟩ := b dr hw
  exact ⟨x, dr', fn_rt (fn := fnNumber) (as := [.ow dr, .fr scr]) (o := false) rfl h1, h2, h3⟩
theorem cut_hi (ds : List D) (k : Nat) : prim .slHi [.lst ds, .int (k : Int)] = some (true, .lst (ds.take (min k ds.length))) := by
  show some (true, D.lst ((ds.drop (HT.sIx ds.length 0 none)).take (HT.sIx ds.length ds.length (some (k : Int)) - HT.sIx ds.length 0 none))) = _
  rw [HT.sIx_none, HT.sIx_nat, List.drop_zero, Nat.sub_zero]
end
end PF
set_option Elab.async false
set_option linter.all false
set_option maxRecDepth 100000
set_option maxHeartbeats 4000000
namespace PF
open PySem PySem.Spec PyProof.Rows L2
theorem atomD.mono {m n : Nat} (h : m ≤ n) {d : D} (k : atomD m d) : atomD n d := by
  obtain ⟨w, ts, rfl, k1, k2, k3⟩ := k
  exact ⟨w, ts, rfl, k1, Nat.le_trans k2 h, k3⟩
section
variable {Φ : Str → List Sl → FR} {γ : Str → Option D} {W : Sh} {o o1 : Bool} {a c k : E} {r : Env} {V V1 : D → Prop}
theorem DrN.setI {i : Nat} {L : List D} (hi : getS r i = .ow (.lst L)) (ha : DrE Φ γ W o1 a r V1) (hk : DrE Φ γ W false k r (isN L.length)) : DrN Φ γ W [.setI (i + 1) k a] r (fun r' => ∃ n x, n < L.length ∧ V1 x ∧ r' = setS r i (.ow (.lst (L.set n x)))) := fun dr hw => by
  obtain ⟨x, dr1, h1, h2, h3⟩ := ha dr hw
  obtain ⟨y, dr2, k1, ⟨n, rfl, hn⟩, k3⟩ := hk dr1 h3
  refine ⟨_, dr2, execs_one ?_, ⟨n, x, hn, h2, rfl⟩, k3⟩
  have g1 : owOf (getS (.ow dr1 :: r) (i + 1)) = some (.lst L) := by
    show owOf (getS r i) = _
    rw [hi]
    rfl
  have g2 : owOf (getS (.ow dr2 :: r) (i + 1)) = some (.lst L) := by
    show owOf (getS r i) = _
    rw [hi]
    rfl
  have sd : setD (.lst L) (.int (n : Int)) x = some (.lst (L.set n x)) := by
    show (ixN L.length (n : Int)).map (fun j => D.lst (L.set j x)) = _
    have e : ixN L.length (n : Int) = some n := by
      unfold ixN
      simp [hn]
    rw [e]
    rfl
  have k1 : ev Φ γ k (.ow dr1 :: r) = .ok .fr (.int (n : Int)) (.ow dr2 :: r) := k1
  have fin : setIS (i + 1) x .fr (.int (n : Int)) (.ow dr2 :: r) = .nx (.ow dr2 :: setS r i (.ow (.lst (L.set n x)))) := by
    simp only [setIS, late, onS, g2, keyFl, if_true, sd]
    rfl
  cases o1 <;> simp only [exec, h1, RE.bdS, flOf, keepS, onS, g1, k1, fin, if_true, Bool.false_eq_true, if_false]
theorem DrE.andF {b : E} (h : DrE Φ γ W false a r (· = .bl false)) : DrE Φ γ W false (.boo true [a, b]) r (· = .bl false) := fun dr hw => by
  obtain ⟨x, dr1, h1, rfl, h3⟩ := h dr hw
  have h1 : ev Φ γ a (.ow dr :: r) = .ok .fr (.bl false) (.ow dr1 :: r) := h1
  exact ⟨.bl false, dr1, by simp only [ev, evB, h1, RE.bd, late, boolE, Bool.false_eq_true, if_false]; rfl, rfl, h3⟩
theorem DrN.iffF {A B rest : List S} {Q : Env → Prop} (h : DrE Φ γ W false c r (· = .bl false)) (k2 : DrN Φ γ W (B ++ rest) r Q) : DrN Φ γ W (.iff c A B :: rest) r Q := fun dr hw => by
  obtain ⟨x, dr1, h1, rfl, h3⟩ := h dr hw
  obtain ⟨r', dr', q1, q2, q3⟩ := k2 dr1 h3
  exact ⟨r', dr', by rw [execs_cons, iff_f h1, ← execs_app]; exact q1, q2, q3⟩
/-- len(list) > n -/
theorem gtLen {i : Nat} {e : Env} {L : List D} {n : Nat} (h : (getS e i).d? = some (.lst L)) : ev Φ γ (.op .gt [(.op .len [(.pk i)]), (.lit (.int (n : Int)))]) e = .ok .fr (.bl (decide (n < L.length))) e :=
  opV2 (p := .gt) (o := false) (Val.of (o := false) (opV1 (p := .len) (o := false) (Val.pk h) rfl)) (Val.lit _) (by
    show pLt false (.int (n : Int)) (.int (L.length : Int)) = _
    rw [pLt_intD]
    show some (false, D.bl (decide ((n : Int) < L.length))) = _
    rw [show decide ((n : Int) < L.length) = decide (n < L.length) from decide_eq_decide.mpr Int.ofNat_lt])
theorem gt_zero {n : Nat} : prim .gt [.int (n : Int), .int 0] = some (false, .bl (decide (0 < n))) := by
  show pLt false (.int 0) (.int (n : Int)) = _
  rw [pLt_intD]
  show some (false, D.bl (decide ((0 : Int) < n))) = _
  rw [show decide ((0 : Int) < n) = decide (0 < n) from decide_eq_decide.mpr (by omega)]
end
end PF
set_option Elab.async false
set_option linter.all false
set_option maxRecDepth 100000
set_option maxHeartbeats 4000000
namespace PF
open PySem PySem.Spec PyProof.Rows L2
/-- a value: a word of at most k letters or a number -/
def valW (k : Nat) (d : D) : Prop := (∃ s : Str, d = .str s ∧ isW s = true ∧ s.length ≤ k) ∨ ∃ i : Int, d = .int i
theorem valW.mono {k m : Nat} (h : k ≤ m) {d : D} (v : valW k d) : valW m d := by
  rcases v with ⟨s, rfl, h1, h2⟩ | ⟨i, rfl⟩
  · exact .inl ⟨s, rfl, h1, by omega⟩
  · exact .inr ⟨i, rfl⟩
theorem isW_all {s : Str} (h : isW s = true) : ∀ c ∈ s.cps.toList, inA c = true := by
  unfold isW at h
  rw [Bool.and_eq_true, List.all_eq_true] at h
  exact h.1
theorem isW_app {s : Str} {c : Nat} (h : ∀ x ∈ s.cps.toList, inA x = true) (hc : inA c = true) : isW (s ++ ch c) = true ∧ (s ++ ch c).length = s.length + 1 := by
  refine ⟨?_, by rw [appS_len]; rfl⟩
  unfold isW
  rw [appS_cps, List.all_append, List.all_eq_true.mpr h]
  show ((true && (inA c && true)) && decide (s.cps.toList ++ [c] ≠ [])) = true
  rw [hc, decide_eq_true (by simp)]
  rfl
theorem cutS_mem {s : Str} {lo hi : Option Int} : ∀ c ∈ (cutS s lo hi).cps.toList, c ∈ s.cps.toList := fun c h => by
  unfold cutS at h
  have h := List.mem_of_mem_take (show c ∈ List.take _ (List.drop _ s.cps.toList) from by simpa using h)
  exact List.mem_of_mem_drop h
section
variable {Φ : Str → List Sl → FR} {γ : Str → Option D} {W : Sh} {o o1 : Bool} {a c : E} {r : Env} {V V1 : D → Prop}
abbrev fnNear : Fn := ⟨3, 7, [0, 2], [.asg 3 (.call "_law_take" [(.pk 0), (.lit (.int 6))]),
  .iff (.boo true [(.op .lt [(.pk 3), (.lit (.int 3))]), (.op .gt [(.op .len [(.pk 2)]), (.lit (.int 0))])]) [.asg 4 (.call "_law_pick" [(.pk 0), (.pk 2)]), .asg 5 (.call "_law_take" [(.pk 0), (.lit (.int 3))]), .iff (.op (.isinst [.tStr]) [(.pk 4)]) [.asg 6 (.op .idx [(.lit (.str "abcdefghijklmnopqrstuvwxyz")), (.call "_law_take" [(.pk 0), (.lit (.int 26))])]), .ret (.op .idx [(.lst [(.var 4), (.op .add [(.pk 4), (.pk 6)]), (.op .add [(.op .slHi [(.pk 4), (.op .sub [(.op .len [(.pk 4)]), (.lit (.int 1))])]), (.pk 6)])]), (.pk 5)])] [], .ret (.op .sub [(.op .add [(.pk 4), (.pk 5)]), (.lit (.int 1))])] [],
  .iff (.op .eq [(.pk 3), (.lit (.int 3))]) [.ret (.op .idx [(.call "_law_words" [(.pk 0), (.lit (.int 1))]), (.lit (.int 0))])] [],
  .ret (.call "_law_number" [(.pk 0), (.var 1)])]⟩
/-- the letter that is drawn -/
theorem DrE.letter (hT : TakeOk Φ W) : DrE Φ γ W false wE r (fun d => ∃ c, d = .str (ch c) ∧ inA c = true) := DrE.op2 (o := false) (DrE.lit _) (DrE.take hT (m := 26) (by decide)) fun x y hx hy => by
  subst hx
  obtain ⟨q, rfl, hq⟩ := hy
  obtain ⟨c, c1, c2⟩ := str_idx (s := alpha) (i := (q : Int)) (by omega) (by rw [alpha_len]; omega) (by rw [alpha_len]; decide)
  exact ⟨_, c2, c, rfl, alpha_in c c1⟩
def WordsOk (Φ : Str → List Sl → FR) (W : Sh) : Prop := ∀ dr, W.has dr → ∃ w dr', Φ "_law_words" [.ow dr, .fr (.int 1)] = .ok true (.lst [w]) [.ow dr', .non] ∧ wordD w ∧ W.has dr'
theorem addSS {x y : Str} (h : x.length + y.length ≤ 16777216) : prim .add [.str x, .str y] = some (false, .str (x ++ y)) := by
  show (if x.length + y.length ≤ sizeLine then some (false, D.str (x ++ y)) else none) = _
  rw [if_pos (by rw [sizeLine_eq]; exact h)]
theorem near_fn (hT : TakeOk Φ W) (hP : PickOk Φ W) (hWs : WordsOk Φ W) {scr : D} (hN : FnD Φ W "_law_number" [scr] numD) {k : Nat} (hk : 23 ≤ k) (hk2 : k ≤ 1000) {seen : List D} (hs : ∀ v ∈ seen, valW k v) (hl : seen.length ≤ 1000) :
    ∀ dr, W.has dr → ∃ x dr', fnNear.run Φ γ [.ow dr, .fr scr, .ow (.lst seen)] = .ok false x [.ow dr', .non, .ow (.lst seen)] ∧ valW (k + 1) x ∧ W.has dr' := fun dr hd => by
  have tail : ∀ s3 s4 s5 s6 : Sl, ∀ n : Nat, ∀ dr, W.has dr → ∃ x dr' t3 t4 t5 t6, execs Φ γ (fnNear.body.drop 2) [.ow dr, .fr scr, .ow (.lst seen), .fr (.int (n : Int)), s4, s5, s6] = .rt false x [.ow dr', .fr scr, .ow (.lst seen), t3, t4, t5, t6] ∧ valW (k + 1) x ∧ W.has dr' := fun s3 s4 s5 s6 n dr hw => by
    have q : ev Φ γ (.op .eq [(.pk 3), (.lit (.int 3))]) [.ow dr, .fr scr, .ow (.lst seen), .fr (.int (n : Int)), s4, s5, s6] = .ok .fr (.bl (decide (n = 3))) [.ow dr, .fr scr, .ow (.lst seen), .fr (.int (n : Int)), s4, s5, s6] := opV2 (p := .eq) (o := false) (Val.pk (i := 3) (d := .int (n : Int)) rfl) (Val.lit _) (eq_nat n 3)
    by_cases e : n = 3
    · rw [decide_eq_true e] at q
      obtain ⟨w, dr', h1, h2, h3⟩ := hWs dr hw
      have c := callP (Φ := Φ) (γ := γ) (f := "_law_words") (i := 0) (es := [.lit (.int 1)]) (ds := [.int 1]) (e := [.ow dr, .fr scr, .ow (.lst seen), .fr (.int (n : Int)), s4, s5, s6]) (x' := .ow dr') rfl rfl ⟨argL _, trivial⟩ rfl h1
      have i0 := op2S (p := .idx) (o := false) (o1 := true) (o2 := false) (r := w) c (e2 := [.ow dr', .fr scr, .ow (.lst seen), .fr (.int (n : Int)), s4, s5, s6]) (b := .lit (.int 0)) (d2 := .int 0) (by simp only [ev]; rfl) rfl
      refine ⟨w, dr', _, _, _, _, execs_rt ((iff_t q).trans (execs_rt (ret1 (o := false) i0))), ?_, h3⟩
      obtain ⟨s, rfl, w1, w2⟩ := h2
      exact .inl ⟨s, rfl, w1, by omega⟩
    · rw [decide_eq_false e] at q
      obtain ⟨x, dr', h1, ⟨i, rfl, _⟩, h3⟩ := DrE.fn (Φ := Φ) (γ := γ) (W := W) (es := [.var 1]) (ds := [scr]) (r := [.fr scr, .ow (.lst seen), .fr (.int (n : Int)), s4, s5, s6]) (fun dr _ => ⟨argV rfl, trivial⟩) hN dr hw
      exact ⟨_, dr', _, _, _, _, (skip_f q).trans (execs_rt (ret1 (o := false) h1)), .inr ⟨i, rfl⟩, h3⟩
  -- the first draw
  obtain ⟨_, dr1, t1, ⟨n, rfl, hn⟩, t3⟩ := DrE.take (γ := γ) hT (m := 6) (by decide) (r := [.fr scr, .ow (.lst seen), .non, .non, .non, .non]) dr hd
  have e1 : exec Φ γ (.asg 3 (.call "_law_take" [(.pk 0), (.lit (.int 6))])) [.ow dr, .fr scr, .ow (.lst seen), .non, .non, .non, .non] = .nx [.ow dr1, .fr scr, .ow (.lst seen), .fr (.int (n : Int)), .non, .non, .non] := asg1 (o := false) t1
  have fin : ∀ {x dr' t3 t4 t5 t6}, execs Φ γ fnNear.body [.ow dr, .fr scr, .ow (.lst seen), .non, .non, .non, .non] = .rt false x [.ow dr', .fr scr, .ow (.lst seen), t3, t4, t5, t6] → fnNear.run Φ γ [.ow dr, .fr scr, .ow (.lst seen)] = .ok false x [.ow dr', .non, .ow (.lst seen)] := fun h => fn_rt (fn := fnNear) (as := [.ow dr, .fr scr, .ow (.lst seen)]) (o := false) rfl h
  have l3 : ev Φ γ (.op .lt [(.pk 3), (.lit (.int 3))]) [.ow dr1, .fr scr, .ow (.lst seen), .fr (.int (n : Int)), .non, .non, .non] = .ok .fr (.bl (decide (n < 3))) [.ow dr1, .fr scr, .ow (.lst seen), .fr (.int (n : Int)), .non, .non, .non] := opV2 (p := .lt) (o := false) (Val.pk (i := 3) (d := .int (n : Int)) rfl) (Val.lit _) (lt_nat n 3)
  have g0 := gtLen (Φ := Φ) (γ := γ) (i := 2) (e := [.ow dr1, .fr scr, .ow (.lst seen), .fr (.int (n : Int)), .non, .non, .non]) (L := seen) (n := 0) rfl
  by_cases c : n < 3 ∧ 0 < seen.length
  · rw [decide_eq_true c.1] at l3
    rw [decide_eq_true c.2] at g0
    have cond := booT l3 g0
    have hne : seen ≠ [] := fun e => by rw [e] at c; exact absurd c.2 (by decide)
    obtain ⟨v, dr2, p1, p2, p3⟩ := DrE.pickP (Φ := Φ) (γ := γ) (W := W) hP (r := [.fr scr, .ow (.lst seen), .fr (.int (n : Int)), .non, .non, .non]) (j := 1) (ds := seen) (.inr rfl) hne dr1 t3
    have e2 : exec Φ γ (.asg 4 (.call "_law_pick" [(.pk 0), (.pk 2)])) [.ow dr1, .fr scr, .ow (.lst seen), .fr (.int (n : Int)), .non, .non, .non] = .nx [.ow dr2, .fr scr, .ow (.lst seen), .fr (.int (n : Int)), .fr v, .non, .non] := asg1 (o := false) p1
    obtain ⟨_, dr3, u1, ⟨t, rfl, ht⟩, u3⟩ := DrE.take (γ := γ) hT (m := 3) (by decide) (r := [.fr scr, .ow (.lst seen), .fr (.int (n : Int)), .fr v, .non, .non]) dr2 p3
    have e3 : exec Φ γ (.asg 5 (.call "_law_take" [(.pk 0), (.lit (.int 3))])) [.ow dr2, .fr scr, .ow (.lst seen), .fr (.int (n : Int)), .fr v, .non, .non] = .nx [.ow dr3, .fr scr, .ow (.lst seen), .fr (.int (n : Int)), .fr v, .fr (.int (t : Int)), .non] := asg1 (o := false) u1
    rcases hs v p2 with ⟨s, rfl, w1, w2⟩ | ⟨i, rfl⟩
    · have is : ev Φ γ (.op (.isinst [.tStr]) [(.pk 4)]) [.ow dr3, .fr scr, .ow (.lst seen), .fr (.int (n : Int)), .fr (.str s), .fr (.int (t : Int)), .non] = .ok .fr (.bl true) [.ow dr3, .fr scr, .ow (.lst seen), .fr (.int (n : Int)), .fr (.str s), .fr (.int (t : Int)), .non] := opV1 (p := .isinst [.tStr]) (o := false) (Val.pk (i := 4) (d := .str s) rfl) rfl
      obtain ⟨_, dr4, x1, ⟨cc, rfl, hc⟩, x3⟩ := DrE.letter (Φ := Φ) (γ := γ) (W := W) hT (r := [.fr scr, .ow (.lst seen), .fr (.int (n : Int)), .fr (.str s), .fr (.int (t : Int)), .non]) dr3 u3
      have e4 : exec Φ γ (.asg 6 wE) [.ow dr3, .fr scr, .ow (.lst seen), .fr (.int (n : Int)), .fr (.str s), .fr (.int (t : Int)), .non] = .nx [.ow dr4, .fr scr, .ow (.lst seen), .fr (.int (n : Int)), .fr (.str s), .fr (.int (t : Int)), .fr (.str (ch cc))] := asg1 (o := false) x1
      generalize hE : ([.ow dr4, .fr scr, .ow (.lst seen), .fr (.int (n : Int)), .fr (.str s), .fr (.int (t : Int)), .fr (.str (ch cc))] : Env) = e at e4
      have g4 : getS e 4 = .fr (.str s) := by rw [← hE]; rfl
      have g5 : getS e 5 = .fr (.int (t : Int)) := by rw [← hE]; rfl
      have g6 : getS e 6 = .fr (.str (ch cc)) := by rw [← hE]; rfl
      have ln : (ch cc).length = 1 := rfl
      have a1 : ev Φ γ (.op .add [(.pk 4), (.pk 6)]) e = .ok .fr (.str (s ++ ch cc)) e := opV2 (p := .add) (o := false) (Val.pk (by rw [g4]; rfl)) (Val.pk (by rw [g6]; rfl)) (addSS (by rw [ln]; omega))
      have a2 : ev Φ γ (.op .len [(.pk 4)]) e = .ok .fr (.int (s.length : Int)) e := opV1 (p := .len) (o := false) (Val.pk (d := .str s) (by rw [g4]; rfl)) (pLen_str (s := s) (by omega))
      have a3 : ev Φ γ (.op .sub [(.op .len [(.pk 4)]), (.lit (.int 1))]) e = .ok .fr (.int ((s.length : Int) - 1)) e := opV2 (p := .sub) (o := false) (Val.of (o := false) a2) (Val.lit _) rfl
      have a4 : ev Φ γ (.op .slHi [(.pk 4), (.op .sub [(.op .len [(.pk 4)]), (.lit (.int 1))])]) e = .ok .fr (.str (cutS s none (some ((s.length : Int) - 1)))) e := opV2 (p := .slHi) (o := false) (Val.pk (by rw [g4]; rfl)) (Val.of (o := false) a3) (by
        show (if s.length ≤ sizeLine then some (false, D.str (cutS s none (some ((s.length : Int) - 1)))) else none) = _
        rw [if_pos (by rw [sizeLine_eq]; omega)])
      have cl := cutS_len s none (some ((s.length : Int) - 1))
      have a5 : ev Φ γ (.op .add [(.op .slHi [(.pk 4), (.op .sub [(.op .len [(.pk 4)]), (.lit (.int 1))])]), (.pk 6)]) e = .ok .fr (.str (cutS s none (some ((s.length : Int) - 1)) ++ ch cc)) e := opV2 (p := .add) (o := false) (Val.of (o := false) a4) (Val.pk (by rw [g6]; rfl)) (addSS (by rw [ln]; omega))
      have l := lstF (Φ := Φ) (γ := γ) (e := e) (es := [.var 4, .op .add [.pk 4, .pk 6], .op .add [.op .slHi [.pk 4, .op .sub [.op .len [.pk 4], .lit (.int 1)]], .pk 6]]) (ds := [.str s, .str (s ++ ch cc), .str (cutS s none (some ((s.length : Int) - 1)) ++ ch cc)]) ⟨argV g4, ⟨false, a1⟩, ⟨false, a5⟩, trivial⟩ (by rw [sizeLine_eq]; simp)
      have res : ∃ x, prim .idx [.lst [.str s, .str (s ++ ch cc), .str (cutS s none (some ((s.length : Int) - 1)) ++ ch cc)], .int (t : Int)] = some (false, x) ∧ valW (k + 1) x := by
        obtain ⟨b1, b2⟩ := isW_app (isW_all w1) hc
        obtain ⟨b3, b4⟩ := isW_app (s := cutS s none (some ((s.length : Int) - 1))) (fun x hx => isW_all w1 x (cutS_mem x hx)) hc
        match t, ht with
        | 0, _ => exact ⟨_, rfl, .inl ⟨s, rfl, w1, by omega⟩⟩
        | 1, _ => exact ⟨_, rfl, .inl ⟨_, rfl, b1, by omega⟩⟩
        | 2, _ => exact ⟨_, rfl, .inl ⟨_, rfl, b3, by omega⟩⟩
      obtain ⟨x, r1, r2⟩ := res
      have r := opV2 (p := .idx) (o := false) (Val.of (o := true) l) (Val.pk (i := 5) (d := .int (t : Int)) (by rw [g5]; rfl)) r1
      refine ⟨x, dr4, fin (t3 := .fr (.int (n : Int))) (t4 := .fr (.str s)) (t5 := .fr (.int (t : Int))) (t6 := .fr (.str (ch cc))) ?_, r2, x3⟩
      rw [hE]
      exact (execs_nx e1).trans (execs_rt ((iff_t cond).trans ((execs_nx e2).trans ((execs_nx e3).trans (execs_rt ((iff_t is).trans ((execs_nx e4).trans (execs_rt (ret1 (o := false) r)))))))))
    · have is : ev Φ γ (.op (.isinst [.tStr]) [(.pk 4)]) [.ow dr3, .fr scr, .ow (.lst seen), .fr (.int (n : Int)), .fr (.int i), .fr (.int (t : Int)), .non] = .ok .fr (.bl false) [.ow dr3, .fr scr, .ow (.lst seen), .fr (.int (n : Int)), .fr (.int i), .fr (.int (t : Int)), .non] := opV1 (p := .isinst [.tStr]) (o := false) (Val.pk (i := 4) (d := .int i) rfl) rfl
      have a1 : ev Φ γ (.op .add [(.pk 4), (.pk 5)]) [.ow dr3, .fr scr, .ow (.lst seen), .fr (.int (n : Int)), .fr (.int i), .fr (.int (t : Int)), .non] = .ok .fr (.int (i + t)) [.ow dr3, .fr scr, .ow (.lst seen), .fr (.int (n : Int)), .fr (.int i), .fr (.int (t : Int)), .non] := opV2 (p := .add) (o := false) (Val.pk (i := 4) (d := .int i) rfl) (Val.pk (i := 5) (d := .int (t : Int)) rfl) rfl
      have r : ev Φ γ (.op .sub [(.op .add [(.pk 4), (.pk 5)]), (.lit (.int 1))]) [.ow dr3, .fr scr, .ow (.lst seen), .fr (.int (n : Int)), .fr (.int i), .fr (.int (t : Int)), .non] = .ok .fr (.int (i + t - 1)) [.ow dr3, .fr scr, .ow (.lst seen), .fr (.int (n : Int)), .fr (.int i), .fr (.int (t : Int)), .non] := opV2 (p := .sub) (o := false) (Val.of (o := false) a1) (Val.lit _) rfl
      exact ⟨_, dr3, fin ((execs_nx e1).trans (execs_rt ((iff_t cond).trans ((execs_nx e2).trans ((execs_nx e3).trans ((skip_f is).trans (execs_rt (ret1 (o := false) r)))))))), .inr ⟨_, rfl⟩, u3⟩
  · have cond : ev Φ γ (.boo true [(.op .lt [(.pk 3), (.lit (.int 3))]), (.op .gt [(.op .len [(.pk 2)]), (.lit (.int 0))])]) [.ow dr1, .fr scr, .ow (.lst seen), .fr (.int (n : Int)), .non, .non, .non] = .ok .fr (.bl false) [.ow dr1, .fr scr, .ow (.lst seen), .fr (.int (n : Int)), .non, .non, .non] := by
      by_cases c1 : n < 3
      · rw [decide_eq_true c1] at l3
        rw [decide_eq_false fun h => c ⟨c1, h⟩] at g0
        exact booT l3 g0
      · rw [decide_eq_false c1] at l3
        exact booF l3
    obtain ⟨x, dr', t3', t4, t5, t6, h1, h2, h3⟩ := tail .non .non .non .non n dr1 t3
    exact ⟨x, dr', fin ((execs_nx e1).trans ((skip_f cond).trans h1)), h2, h3⟩
end
end PF
set_option Elab.async false
set_option linter.all false
set_option maxRecDepth 100000
set_option maxHeartbeats 4000000
namespace PF
open PySem PySem.Spec PyProof.Rows L2
section
variable (Φ : Str → List Sl → FR) (γ : Str → Option D) (W : Sh)
/-- lines that return; what is left of the names is told -/
def DrQ (o : Bool) (b : List S) (r : Env) (V : D → Env → Prop) : Prop := ∀ dr, W.has dr → ∃ x r' dr', execs Φ γ b (.ow dr :: r) = .rt o x (.ow dr' :: r') ∧ V x r' ∧ W.has dr'
end
variable {Φ : Str → List Sl → FR} {γ : Str → Option D} {W : Sh} {o o1 : Bool} {a c : E} {r : Env} {V1 : D → Prop} {V : D → Env → Prop}
theorem DrQ.ret {rest : List S} (h : DrE Φ γ W o a r (fun x => V x r)) : DrQ Φ γ W o (.ret a :: rest) r V := fun dr hw => by
  obtain ⟨x, dr', h1, h2, h3⟩ := h dr hw
  exact ⟨x, r, dr', execs_rt (ret1 h1), h2, h3⟩
theorem DrQ.asg {i : Nat} {rest : List S} (h : DrE Φ γ W o1 a r V1) (k : ∀ x, V1 x → DrQ Φ γ W o rest (setS r i (slOf o1 x)) V) : DrQ Φ γ W o (.asg (i + 1) a :: rest) r V := fun dr hw => by
  obtain ⟨x, dr1, h1, h2, h3⟩ := h dr hw
  obtain ⟨y, r', dr', k1, k2, k3⟩ := k x h2 dr1 h3
  exact ⟨y, r', dr', (execs_nx (asg1 h1)).trans k1, k2, k3⟩
theorem DrQ.seq {s : S} {rest : List S} {Q : Env → Prop} (h : DrN Φ γ W [s] r Q) (k : ∀ r', Q r' → DrQ Φ γ W o rest r' V) : DrQ Φ γ W o (s :: rest) r V := fun dr hw => by
  obtain ⟨r1, dr1, h1, h2, h3⟩ := h dr hw
  obtain ⟨y, r', dr', q1, q2, q3⟩ := k r1 h2 dr1 h3
  refine ⟨y, r', dr', ?_, q2, q3⟩
  rw [show s :: rest = [s] ++ rest from rfl, execs_app, h1]
  exact q1
def rowW (k : Nat) (d : D) : Prop := ∃ vs, d = .tup vs ∧ vs.length ≤ 8 ∧ ∀ v ∈ vs, valW k v
abbrev nearE : E := .call "_law_near_value" [(.pk 0), (.var 1), (.pk 2)]
abbrev fnNearR : Fn := ⟨4, 7, [0, 2, 3], [.asg 4 (.lc [5] (.nm 5) (.rng1 (.op .mul [(.call "_law_take" [(.pk 0), (.lit (.int 4))]), (.call "_law_take" [(.pk 0), (.lit (.int 4))])])) [] nearE),
  .iff (.boo true [(.op .gt [(.op .len [(.pk 3)]), (.lit (.int 0))]), (.op .eq [(.call "_law_take" [(.pk 0), (.lit (.int 2))]), (.lit (.int 0))])]) [.asg 4 (.op .list [(.call "_law_pick" [(.pk 0), (.pk 3)])]), .asg 6 (.call "_law_take" [(.pk 0), (.lit (.int 3))]), .iff (.boo true [(.op .eq [(.pk 6), (.lit (.int 0))]), (.op .gt [(.op .len [(.pk 4)]), (.lit (.int 0))])]) [.setI 4 (.call "_law_take" [(.pk 0), (.op .len [(.pk 4)])]) nearE] [.iff (.op .eq [(.pk 6), (.lit (.int 1))]) [.asg 4 (.op .add [(.pk 4), (.lst [nearE])])] [.asg 4 (.op .slHi [(.pk 4), (.call "_law_take" [(.pk 0), (.op .add [(.op .len [(.pk 4)]), (.lit (.int 1))])])])]]] [],
  .ret (.op .tuple [(.op .slHi [(.pk 4), (.lit (.int 8))])])]⟩
/-- the value near those that were seen -/
def NearOk (Φ : Str → List Sl → FR) (W : Sh) (scr : D) (seen : List D) (k : Nat) : Prop := ∀ dr, W.has dr → ∃ x dr', Φ "_law_near_value" [.ow dr, .fr scr, .ow (.lst seen)] = .ok false x [.ow dr', .non, .ow (.lst seen)] ∧ valW k x ∧ W.has dr'
theorem DrE.near {scr : D} {seen : List D} {k : Nat} (h : NearOk Φ W scr seen k) {rest : Env} : DrE Φ γ W false nearE (.fr scr :: .ow (.lst seen) :: rest) (valW k) := fun dr hw => by
  obtain ⟨x, dr', h1, h2, h3⟩ := h dr hw
  refine ⟨x, dr', ?_, h2, h3⟩
  generalize D.lst seen = L at h1 ⊢
  have nd : nodupN [0, 2] = true := by decide
  simp only [ev, evs, getS, varE, Sl.d?, onE, RE.bds, REs.bds, REs.bd, places, nd, if_true, lend, h1, callE, back, isNon, Bool.false_eq_true, if_false, setS]
/-- the lines that change a row that is there -/
theorem near_change (hT : TakeOk Φ W) {scr : D} {seen rows row : List D} {k : Nat} (hN : NearOk Φ W scr seen k) (hr : ∀ v ∈ row, valW k v) (hl : row.length ≤ 100) (s4 : Sl) {t : Nat} (ht : t < 3) :
    DrN Φ γ W [.iff (.boo true [(.op .eq [(.pk 6), (.lit (.int 0))]), (.op .gt [(.op .len [(.pk 4)]), (.lit (.int 0))])]) [.setI 4 (.call "_law_take" [(.pk 0), (.op .len [(.pk 4)])]) nearE] [.iff (.op .eq [(.pk 6), (.lit (.int 1))]) [.asg 4 (.op .add [(.pk 4), (.lst [nearE])])] [.asg 4 (.op .slHi [(.pk 4), (.call "_law_take" [(.pk 0), (.op .add [(.op .len [(.pk 4)]), (.lit (.int 1))])])])]]]
      [.fr scr, .ow (.lst seen), .ow (.lst rows), .ow (.lst row), s4, .fr (.int (t : Int))] (fun r => ∃ row' t4, r = [.fr scr, .ow (.lst seen), .ow (.lst rows), .ow (.lst row'), t4, .fr (.int (t : Int))] ∧ ∀ v ∈ row', valW k v) := by
  have gl := fun dr => gtLen (Φ := Φ) (γ := γ) (i := 4) (e := .ow dr :: [.fr scr, .ow (.lst seen), .ow (.lst rows), .ow (.lst row), s4, .fr (.int (t : Int))]) (L := row) (n := 0) rfl
  have eq6 := fun (n : Nat) dr => (opV2 (p := .eq) (o := false) (Val.pk (i := 6) (d := .int (t : Int)) rfl) (Val.lit _) (eq_nat t n) : ev Φ γ (.op .eq [(.pk 6), (.lit (.int (n : Int)))]) (.ow dr :: [.fr scr, .ow (.lst seen), .ow (.lst rows), .ow (.lst row), s4, .fr (.int (t : Int))]) = _)
  have ln := fun dr => (opV1 (p := .len) (o := false) (Val.pk (i := 4) (d := .lst row) rfl) rfl : ev Φ γ (.op .len [(.pk 4)]) (.ow dr :: [.fr scr, .ow (.lst seen), .ow (.lst rows), .ow (.lst row), s4, .fr (.int (t : Int))]) = .ok (flOf false) (.int (row.length : Int)) _)
  have other : DrN Φ γ W [.iff (.op .eq [(.pk 6), (.lit (.int 1))]) [.asg 4 (.op .add [(.pk 4), (.lst [nearE])])] [.asg 4 (.op .slHi [(.pk 4), (.call "_law_take" [(.pk 0), (.op .add [(.op .len [(.pk 4)]), (.lit (.int 1))])])])]]
      [.fr scr, .ow (.lst seen), .ow (.lst rows), .ow (.lst row), s4, .fr (.int (t : Int))] (fun r => ∃ row' t4, r = [.fr scr, .ow (.lst seen), .ow (.lst rows), .ow (.lst row'), t4, .fr (.int (t : Int))] ∧ ∀ v ∈ row', valW k v) := by
    refine DrN.iff ((DrE.pure (o := false) fun dr _ => eq6 1 dr).imp fun y hy => ⟨_, hy⟩) ?_ ?_
    · intro dr hw
      obtain ⟨x, dr1, h1, ⟨v, rfl, hv⟩, h3⟩ := DrE.lst1 (DrE.near (γ := γ) hN (rest := [.ow (.lst rows), .ow (.lst row), s4, .fr (.int (t : Int))])) dr hw
      refine ⟨_, dr1, execs_one (asg1 (o := true) (d := .lst (row ++ [v])) (e' := .ow dr1 :: [.fr scr, .ow (.lst seen), .ow (.lst rows), .ow (.lst row), s4, .fr (.int (t : Int))]) ?_), ⟨row ++ [v], s4, rfl, fun y hy => ?_⟩, h3⟩
      · have n4 : evs Φ γ [.pk 4, .lst [nearE]] (.ow dr :: [.fr scr, .ow (.lst seen), .ow (.lst rows), .ow (.lst row), s4, .fr (.int (t : Int))]) = .ok [(.pl 4, .lst row), (.ow, .lst [v])] (.ow dr1 :: [.fr scr, .ow (.lst seen), .ow (.lst rows), .ow (.lst row), s4, .fr (.int (t : Int))]) := by
          have h1 : ev Φ γ (.lst [nearE]) (.ow dr :: [.fr scr, .ow (.lst seen), .ow (.lst rows), .ow (.lst row), s4, .fr (.int (t : Int))]) = .ok .ow (.lst [v]) (.ow dr1 :: [.fr scr, .ow (.lst seen), .ow (.lst rows), .ow (.lst row), s4, .fr (.int (t : Int))]) := h1
          generalize E.lst [nearE] = X at h1 ⊢
          simp only [evs, ev, getS, Sl.d?, onE, RE.bds, h1, REs.bds]
        have pa : prim .add [.lst row, .lst [v]] = some (true, .lst (row ++ [v])) := by
          show (if row.length + 1 ≤ sizeLine then some (true, D.lst (row ++ [v])) else none) = _
          rw [if_pos (by rw [sizeLine_eq]; omega)]
        rw [show ev Φ γ (.op .add [(.pk 4), (.lst [nearE])]) (.ow dr :: [.fr scr, .ow (.lst seen), .ow (.lst rows), .ow (.lst row), s4, .fr (.int (t : Int))]) = (evs Φ γ [(.pk 4), (.lst [nearE])] (.ow dr :: [.fr scr, .ow (.lst seen), .ow (.lst rows), .ow (.lst row), s4, .fr (.int (t : Int))])).bd fun vs e1 => onE (lates vs e1) fun ds => primE e1 (prim .add ds) from by simp only [ev], n4]
        show onE (some [D.lst row, D.lst [v]]) (fun ds => primE _ (prim .add ds)) = _
        simp only [onE, pa]
        rfl
      · rcases List.mem_append.mp hy with hy | hy
        · exact hr y hy
        · rw [List.mem_singleton.mp hy]; exact hv
    · intro dr hw
      obtain ⟨_, dr1, h1, ⟨n, rfl, hn⟩, h3⟩ := DrE.takeE (γ := γ) hT (m := row.length + 1) (by omega) (r := [.fr scr, .ow (.lst seen), .ow (.lst rows), .ow (.lst row), s4, .fr (.int (t : Int))]) (a := .op .add [(.op .len [(.pk 4)]), (.lit (.int 1))]) (fun dr _ => ⟨false, opV2 (p := .add) (o := false) (Val.of (o := false) (ln dr)) (Val.lit _) (addN row.length 1)⟩) dr hw
      refine ⟨_, dr1, execs_one (asg1 (o := true) (d := .lst (row.take (min n row.length))) (e' := .ow dr1 :: [.fr scr, .ow (.lst seen), .ow (.lst rows), .ow (.lst row), s4, .fr (.int (t : Int))]) ?_), ⟨row.take (min n row.length), s4, rfl, fun y hy => hr y (List.mem_of_mem_take hy)⟩, h3⟩
      have n4 : evs Φ γ [.pk 4, (.call "_law_take" [(.pk 0), (.op .add [(.op .len [(.pk 4)]), (.lit (.int 1))])])] (.ow dr :: [.fr scr, .ow (.lst seen), .ow (.lst rows), .ow (.lst row), s4, .fr (.int (t : Int))]) = .ok [(.pl 4, .lst row), (.fr, .int (n : Int))] (.ow dr1 :: [.fr scr, .ow (.lst seen), .ow (.lst rows), .ow (.lst row), s4, .fr (.int (t : Int))]) := by
        have h1 : ev Φ γ (.call "_law_take" [(.pk 0), (.op .add [(.op .len [(.pk 4)]), (.lit (.int 1))])]) (.ow dr :: [.fr scr, .ow (.lst seen), .ow (.lst rows), .ow (.lst row), s4, .fr (.int (t : Int))]) = .ok .fr (.int (n : Int)) (.ow dr1 :: [.fr scr, .ow (.lst seen), .ow (.lst rows), .ow (.lst row), s4, .fr (.int (t : Int))]) := h1
        generalize (E.call "_law_take" [(.pk 0), (.op .add [(.op .len [(.pk 4)]), (.lit (.int 1))])]) = X at h1 ⊢
        simp only [evs, ev, getS, Sl.d?, onE, RE.bds, h1, REs.bds]
      rw [show ev Φ γ (.op .slHi [(.pk 4), (.call "_law_take" [(.pk 0), (.op .add [(.op .len [(.pk 4)]), (.lit (.int 1))])])]) (.ow dr :: [.fr scr, .ow (.lst seen), .ow (.lst rows), .ow (.lst row), s4, .fr (.int (t : Int))]) = (evs Φ γ [(.pk 4), (.call "_law_take" [(.pk 0), (.op .add [(.op .len [(.pk 4)]), (.lit (.int 1))])])] (.ow dr :: [.fr scr, .ow (.lst seen), .ow (.lst rows), .ow (.lst row), s4, .fr (.int (t : Int))])).bd fun vs e1 => onE (lates vs e1) fun ds => primE e1 (prim .slHi ds) from by simp only [ev], n4]
      show onE (some [D.lst row, D.int (n : Int)]) (fun ds => primE _ (prim .slHi ds)) = _
      simp only [onE, cut_hi]
      rfl
  by_cases c : t = 0 ∧ 0 < row.length
  · have cond : ∀ dr, ev Φ γ (.boo true [(.op .eq [(.pk 6), (.lit (.int 0))]), (.op .gt [(.op .len [(.pk 4)]), (.lit (.int 0))])]) (.ow dr :: [.fr scr, .ow (.lst seen), .ow (.lst rows), .ow (.lst row), s4, .fr (.int (t : Int))]) = .ok .fr (.bl true) (.ow dr :: [.fr scr, .ow (.lst seen), .ow (.lst rows), .ow (.lst row), s4, .fr (.int (t : Int))]) := fun dr => by
      have q1 := eq6 0 dr
      have q2 := gl dr
      rw [decide_eq_true c.1] at q1
      rw [decide_eq_true c.2] at q2
      exact booT q1 q2
    intro dr hw
    obtain ⟨r', dr', h1, ⟨n, x, hn, hx, rfl⟩, h3⟩ := DrN.setI (Φ := Φ) (γ := γ) (W := W) (i := 3) (L := row) (r := [.fr scr, .ow (.lst seen), .ow (.lst rows), .ow (.lst row), s4, .fr (.int (t : Int))]) rfl (DrE.near hN) (DrE.takeE hT (m := row.length) c.2 fun dr _ => ⟨false, ln dr⟩) dr hw
    refine ⟨_, dr', execs_one ((iff_t (cond dr)).trans h1), ⟨row.set n x, s4, rfl, fun v hm => ?_⟩, h3⟩
    rcases List.mem_or_eq_of_mem_set hm with hm | rfl
    · exact hr v hm
    · exact hx
  · have cond : ∀ dr, ev Φ γ (.boo true [(.op .eq [(.pk 6), (.lit (.int 0))]), (.op .gt [(.op .len [(.pk 4)]), (.lit (.int 0))])]) (.ow dr :: [.fr scr, .ow (.lst seen), .ow (.lst rows), .ow (.lst row), s4, .fr (.int (t : Int))]) = .ok .fr (.bl false) (.ow dr :: [.fr scr, .ow (.lst seen), .ow (.lst rows), .ow (.lst row), s4, .fr (.int (t : Int))]) := fun dr => by
      have q1 := eq6 0 dr
      have q2 := gl dr
      by_cases c0 : t = 0
      · rw [decide_eq_true c0] at q1
        rw [decide_eq_false fun h => c ⟨c0, h⟩] at q2
        exact booT q1 q2
      · rw [decide_eq_false c0] at q1
        exact booF q1
    intro dr hw
    obtain ⟨r', dr', h1, h2, h3⟩ := other dr hw
    exact ⟨r', dr', execs_one ((iff_f (cond dr)).trans h1), h2, h3⟩
end PF
set_option Elab.async false
set_option linter.all false
set_option maxRecDepth 100000
set_option maxHeartbeats 4000000
namespace PF
open PySem PySem.Spec PyProof.Rows L2
section
variable {Φ : Str → List Sl → FR} {γ : Str → Option D} {W : Sh}
theorem nearR_fn (hT : TakeOk Φ W) (hP : PickOk Φ W) {scr : D} {seen rows : List D} {k : Nat} (hN : NearOk Φ W scr seen k) (hr : ∀ d ∈ rows, rowW k d) :
    ∀ dr, W.has dr → ∃ x dr', fnNearR.run Φ γ [.ow dr, .fr scr, .ow (.lst seen), .ow (.lst rows)] = .ok false x [.ow dr', .non, .ow (.lst seen), .ow (.lst rows)] ∧ rowW k x ∧ W.has dr' := fun dr hd => by
  have b : DrQ Φ γ W false fnNearR.body [.fr scr, .ow (.lst seen), .ow (.lst rows), .non, .non, .non] (fun x r => rowW k x ∧ ∃ t3 t4 t5, r = [.fr scr, .ow (.lst seen), .ow (.lst rows), t3, t4, t5]) := by
    refine DrQ.asg (o1 := true) (DrE.lc (v := 4) (o1 := false) (n := 9) (V := valW k) (DrE.rng (m := 10) (DrE.op2 (o := false) (DrE.take hT (m := 4) (by decide)) (DrE.take hT (m := 4) (by decide)) fun x y hx hy => ?_) (by decide)) (by decide) fun j hj => DrE.near hN) fun x hx => ?_
    · obtain ⟨p, rfl, hp⟩ := hx
      obtain ⟨q, rfl, hq⟩ := hy
      refine ⟨.int ((p * q : Nat) : Int), ?_, p * q, rfl, ?_⟩
      · show (if mulOk (p : Int) (q : Int) then some (false, D.int ((p : Int) * (q : Int))) else none) = _
        rw [if_pos (mulOk_l (by omega) (by omega)), Int.natCast_mul]
      · have : p * q ≤ 3 * 3 := Nat.mul_le_mul (by omega) (by omega)
        omega
    obtain ⟨row, rfl, l9, v9⟩ := hx
    refine DrQ.seq (Q := fun r => ∃ row t4 t5, r = [.fr scr, .ow (.lst seen), .ow (.lst rows), .ow (.lst row), t4, t5] ∧ ∀ v ∈ row, valW k v) ?_ fun r hr' => ?_
    · have gl := fun dr => gtLen (Φ := Φ) (γ := γ) (i := 3) (e := .ow dr :: [.fr scr, .ow (.lst seen), .ow (.lst rows), .ow (.lst row), .non, .non]) (L := rows) (n := 0) rfl
      by_cases hb : rows = []
      · refine DrN.iffF (DrE.andF (DrE.pure (o := false) fun dr _ => ?_)) (DrN.nil ⟨row, _, _, rfl, v9⟩)
        have := gl dr
        rw [hb] at this ⊢
        exact this
      · refine DrN.iff (DrE.and ((DrE.pure (o := false) fun dr _ => gl dr).imp fun y hy => ⟨_, hy⟩) (DrE.isz (DrE.take hT (m := 2) (by decide)) 0)) ?_ (DrN.nil ⟨row, _, _, rfl, v9⟩)
        refine DrN.asg (o1 := true) (V1 := fun d => ∃ vs, d = .lst vs ∧ vs.length ≤ 8 ∧ ∀ v ∈ vs, valW k v) (DrE.op1 (o1 := false) (p := .list) (DrE.pickP hP (j := 2) (ds := rows) (.inr rfl) hb) fun x hx => ?_) fun x hx => ?_
        · obtain ⟨vs, rfl, h8, hv⟩ := hr x hx
          refine ⟨.lst vs, ?_, vs, rfl, h8, hv⟩
          show (if vs.length ≤ sizeLine then some (true, D.lst vs) else none) = _
          rw [if_pos (by rw [sizeLine_eq]; omega)]
        obtain ⟨vs, rfl, h8, hv⟩ := hx
        refine DrN.asg (o1 := false) (DrE.take hT (m := 3) (by decide)) fun x hx => ?_
        obtain ⟨t, rfl, ht⟩ := hx
        intro dr hw
        obtain ⟨r', dr', h1, ⟨row', t4, rfl, h2⟩, h3⟩ := near_change (Φ := Φ) (γ := γ) (W := W) hT (rows := rows) hN hv (by omega) .non ht dr hw
        exact ⟨_, dr', h1, ⟨row', _, _, rfl, h2⟩, h3⟩
    obtain ⟨row', t4, t5, rfl, hv⟩ := hr'
    refine DrQ.ret ((DrE.pure (o := false) (d := .tup (row'.take (min 8 row'.length))) fun dr _ => opV1 (p := .tuple) (o := false) (Val.of (o := true) (opV2 (p := .slHi) (o := true) (Val.pk (i := 4) (d := .lst row') rfl) (Val.lit _) (cut_hi row' 8))) rfl).imp fun x hx => ?_)
    subst hx
    exact ⟨⟨_, rfl, by rw [List.length_take]; omega, fun v h => hv v (List.mem_of_mem_take h)⟩, _, _, _, rfl⟩
  obtain ⟨x, r', dr', h1, ⟨h2, t3, t4, t5, rfl⟩, h3⟩ := b dr hd
  exact ⟨x, dr', fn_rt (fn := fnNearR) (as := [.ow dr, .fr scr, .ow (.lst seen), .ow (.lst rows)]) (o := false) rfl h1, h2, h3⟩
end
end PF
set_option Elab.async false
set_option linter.all false
set_option maxRecDepth 100000
set_option maxHeartbeats 4000000
namespace PF
open PySem PySem.Spec PyProof.Rows L2
def vcmp : D → D → Int
  | .int a, .int b => if a = b then 0 else if a < b then -1 else 1
  | .int _, .str _ => -1
  | .str _, .int _ => 1
  | .str s, .str t => if s = t then 0 else if s.cps.toList < t.cps.toList then -1 else 1
  | _, _ => 0
def rcmp : List D → List D → Int
  | [], [] => 0
  | [], _ :: _ => -1
  | _ :: _, [] => 1
  | a :: as, b :: bs => if vcmp a b = 0 then rcmp as bs else vcmp a b
def vkey : D → D
  | .str s => .tup [.int 1, .int 0, .str s]
  | d => .tup [.int 0, d, .str ""]
def rkeyL (vs : List D) : D := .tup (vs.map vkey)
def isVal (d : D) : Prop := (∃ s : Str, d = .str s) ∨ ∃ i : Int, d = .int i
theorem valW.isVal {k : Nat} {d : D} (h : valW k d) : isVal d := by
  rcases h with ⟨s, h, _⟩ | h
  · exact .inl ⟨s, h⟩
  · exact .inr h
theorem vcmp_zero {a b : D} (ha : isVal a) (hb : isVal b) : vcmp a b = 0 ↔ a = b := by
  rcases ha with ⟨s, rfl⟩ | ⟨i, rfl⟩ <;> rcases hb with ⟨t, rfl⟩ | ⟨j, rfl⟩
  · simp only [vcmp, D.str.injEq]
    by_cases h : s = t
    · simp [h]
    · rw [if_neg h]; split <;> simp [h]
  · simp [vcmp]
  · simp [vcmp]
  · simp only [vcmp, D.int.injEq]
    by_cases h : i = j
    · simp [h]
    · rw [if_neg h]; split <;> simp [h]
theorem str_eqv (s t : Str) : PyData.eqv (.str s) (.str t) = decide (s = t) := eqSS s t
theorem int_eqv (s t : Int) : PyData.eqv (.int s) (.int t) = decide (s = t) := eqII s t
theorem vkey_eqv {a b : D} (ha : isVal a) (hb : isVal b) : PyData.eqv (vkey a).py (vkey b).py = decide (a = b) := by
  rcases ha with ⟨s, rfl⟩ | ⟨i, rfl⟩ <;> rcases hb with ⟨t, rfl⟩ | ⟨j, rfl⟩ <;> first | (simp [vkey, D.py, D.pys, PyData.eqv, PyData.eqvAll]; done) | (simp only [vkey, D.py, D.pys, PyData.eqv, PyData.eqvAll, D.str.injEq, D.int.injEq, beq_self_eq_true, Bool.true_and, Bool.and_true]; first | exact str_eqv _ _ | exact int_eqv _ _ | rfl)
theorem vkey_alk {a b : D} (ha : isVal a) (hb : isVal b) : W.alike (vkey a).py (vkey b).py = true := by
  rcases ha with ⟨s, rfl⟩ | ⟨i, rfl⟩ <;> rcases hb with ⟨t, rfl⟩ | ⟨j, rfl⟩ <;> simp [vkey, D.py, D.pys, W.alike, W.alikeAll]
theorem vkey_lt {a b : D} (ha : isVal a) (hb : isVal b) : W.dataLt (vkey a).py (vkey b).py = decide (vcmp a b = -1) := by
  have z : PyProof.Rows.lexLt itemOrd (W.keyToksAll []) (W.keyToksAll []) = false := (listOrd itemOrd).irrefl (W.keyToksAll [])
  rcases ha with ⟨s, rfl⟩ | ⟨i, rfl⟩ <;> rcases hb with ⟨t, rfl⟩ | ⟨j, rfl⟩ <;> simp only [vkey, D.py, D.pys, W.dataLt_tuple]
  · rw [W.dataLt_cons (by simp [W.alike]), W.dataLt_cons (by simp [W.alike]), W.dataLt_cons (by simp [W.alike]), z, W.dataLt_str, str_eqv]
    simp only [int_eqv, decide_true, if_true, vcmp]
    by_cases h : s = t
    · simp [h]
    · simp only [h, decide_false, Bool.false_eq_true, if_false]
      by_cases l : s.cps.toList < t.cps.toList <;> simp [l]
  · rw [W.dataLt_cons (by simp [W.alike]), W.dataLt_int]
    simp [int_eqv, vcmp]
  · rw [W.dataLt_cons (by simp [W.alike]), W.dataLt_int]
    simp [int_eqv, vcmp]
  · rw [W.dataLt_cons (by simp [W.alike]), W.dataLt_cons (by simp [W.alike]), W.dataLt_cons (by simp [W.alike]), z, W.dataLt_int, str_eqv]
    simp only [int_eqv, decide_true, if_true, vcmp]
    by_cases h : i = j
    · simp [h]
    · simp only [h, decide_false, Bool.false_eq_true, if_false]
      by_cases l : i < j <;> simp [l]
theorem rkey_lt : ∀ {as bs : List D}, (∀ a ∈ as, isVal a) → (∀ b ∈ bs, isVal b) → D.lt (rkeyL as) (rkeyL bs) = decide (rcmp as bs = -1) := by
  intro as bs ha hb
  show W.dataLt (.tuple (D.pys (as.map vkey))) (.tuple (D.pys (bs.map vkey))) = _
  rw [W.dataLt_tuple]
  induction as generalizing bs with
  | nil =>
    cases bs with
    | nil => simp only [List.map_nil, D.pys, rcmp]; rw [show PyProof.Rows.lexLt itemOrd (W.keyToksAll []) (W.keyToksAll []) = false from (listOrd itemOrd).irrefl (W.keyToksAll [])]; rfl
    | cons b bs =>
      simp only [List.map_nil, List.map_cons, D.pys, rcmp]
      rfl
  | cons a as ih =>
    cases bs with
    | nil => simp only [List.map_nil, List.map_cons, D.pys, rcmp]; rfl
    | cons b bs =>
      have va := ha a (.head _)
      have vb := hb b (.head _)
      simp only [List.map_cons, D.pys]
      rw [W.dataLt_cons (vkey_alk va vb), vkey_eqv va vb, ih (fun x hx => ha x (.tail _ hx)) (fun x hx => hb x (.tail _ hx)), vkey_lt va vb, rcmp]
      by_cases h : a = b
      · rw [if_pos (decide_eq_true h), if_pos ((vcmp_zero va vb).mpr h)]
      · rw [if_neg (by simp [h]), if_neg (fun z => h ((vcmp_zero va vb).mp z))]
theorem vkey_inj {a b : D} (ha : isVal a) (hb : isVal b) (h : vkey a = vkey b) : a = b := by
  have e := vkey_eqv ha hb
  rw [h] at e
  have : PyData.eqv (vkey b).py (vkey b).py = true := by
    rcases hb with ⟨t, rfl⟩ | ⟨j, rfl⟩ <;> first | (simp [vkey, D.py, D.pys, PyData.eqv, PyData.eqvAll]; done) | (simp only [vkey, D.py, D.pys, PyData.eqv, PyData.eqvAll, D.str.injEq, D.int.injEq, beq_self_eq_true, Bool.true_and, Bool.and_true]; first | exact str_eqv _ _ | exact int_eqv _ _ | rfl)
  rw [this] at e
  exact of_decide_eq_true e.symm
theorem rkey_inj : ∀ {as bs : List D}, (∀ a ∈ as, isVal a) → (∀ b ∈ bs, isVal b) → rkeyL as = rkeyL bs → as = bs
  | [], [], _, _, _ => rfl
  | [], _ :: _, _, _, h => by cases h
  | _ :: _, [], _, _, h => by cases h
  | a :: as, b :: bs, ha, hb, h => by
    simp only [rkeyL, List.map_cons, D.tup.injEq, List.cons.injEq] at h
    rw [vkey_inj (ha a (.head _)) (hb b (.head _)) h.1, rkey_inj (fun x hx => ha x (.tail _ hx)) (fun x hx => hb x (.tail _ hx)) (by simp only [rkeyL, h.2])]
theorem rkey_alk : ∀ {as bs : List D}, (∀ a ∈ as, isVal a) → (∀ b ∈ bs, isVal b) → D.alk (rkeyL as) (rkeyL bs) = true := by
  intro as bs ha hb
  show W.alike (.tuple (D.pys (as.map vkey))) (.tuple (D.pys (bs.map vkey))) = true
  induction as generalizing bs with
  | nil => cases bs <;> simp [D.pys, W.alike, W.alikeAll]
  | cons a as ih =>
    cases bs with
    | nil => simp [D.pys, W.alike, W.alikeAll]
    | cons b bs =>
      have := ih (bs := bs) (fun x hx => ha x (.tail _ hx)) (fun x hx => hb x (.tail _ hx))
      simp only [W.alike] at this ⊢
      simp only [List.map_cons, D.pys, W.alikeAll, vkey_alk (ha a (.head _)) (hb b (.head _)), this, Bool.and_self]
end PF
set_option Elab.async false
set_option linter.all false
set_option maxRecDepth 100000
set_option maxHeartbeats 4000000
namespace PF
open PySem PySem.Spec PyProof.Rows L2
section
variable {Φ : Str → List Sl → FR} {γ : Str → Option D}
theorem neB (p q : Bool) : prim .ne [.bl p, .bl q] = some (false, .bl (p != q)) := by cases p <;> cases q <;> rfl
theorem orV {a b : E} {e : Env} {x y : Bool} (h1 : ev Φ γ a e = .ok .fr (.bl x) e) (h2 : ev Φ γ b e = .ok .fr (.bl y) e) : ev Φ γ (.boo false [a, b]) e = .ok .fr (.bl (x || y)) e := by
  have := boo2 (c := false) (Val.of (o := false) h1) (fun _ => h2)
  rw [this]
  cases x <;> rfl
theorem flat_of {d : D} (h : d.pl = true) : flatTy d = true := by
  cases d <;> first | rfl | cases h
theorem sameR_gen {s0 s1 : Sl} {a b : D} (h0 : s0.d? = some a) (h1 : s1.d? = some b) (pa : Pla 60 a) (pb : Pla 60 b)
    (hrow : ∀ xs ys, (a = .tup xs ∧ b = .tup ys) ∨ (a = .lst xs ∧ b = .lst ys) → ys.length ≤ sizeLine ∧ ∀ i (h : i < xs.length) (h' : i < ys.length), ∃ outs, Φ "_law_same" [.fr xs[i], .fr ys[i]] = .ok false (.bl (decide (xs[i] = ys[i]))) outs) :
    execs Φ γ fnSame.body [s0, s1, .non] = .rt false (.bl (decide (a = b))) [s0, s1, .non] := by
  have v0 : Val Φ γ [s0, s1, .non] (.pk 0) a := Val.pk h0
  have v1 : Val Φ γ [s0, s1, .non] (.pk 1) b := Val.pk h1
  have ne (ts : List Ty) : ev Φ γ (.op .ne [(.op (.isinst ts) [(.pk 0)]), (.op (.isinst ts) [(.pk 1)])]) [s0, s1, .non] = .ok .fr (.bl (ts.any (isTy a) != ts.any (isTy b))) [s0, s1, .non] :=
    opV2 (p := .ne) (o := false) (Val.of (o := false) (opV1 (p := .isinst ts) (o := false) v0 (pIsi_ok (flat_of pa.pl)))) (Val.of (o := false) (opV1 (p := .isinst ts) (o := false) v1 (pIsi_ok (flat_of pb.pl)))) (neB _ _)
  have neN : ev Φ γ (.op .ne [(.op .isN [(.pk 0)]), (.op .isN [(.pk 1)])]) [s0, s1, .non] = .ok .fr (.bl (decide (a = .non) != decide (b = .non))) [s0, s1, .non] :=
    opV2 (p := .ne) (o := false) (Val.of (o := false) (opV1 (p := .isN) (r := .bl (decide (a = .non))) (o := false) v0 rfl)) (Val.of (o := false) (opV1 (p := .isN) (r := .bl (decide (b = .non))) (o := false) v1 rfl)) (neB _ _)
  have ty : ev Φ γ (.op (.isinst [.tTuple, .tList]) [(.pk 1)]) [s0, s1, .non] = .ok .fr (.bl ([Ty.tTuple, Ty.tList].any (isTy b))) [s0, s1, .non] := opV1 (o := false) v1 (pIsi_ok (flat_of pb.pl))
  have retF : ∀ {r : List S}, execs Φ γ (.ret (.lit (.bl false)) :: r) [s0, s1, .non] = .rt false (.bl false) [s0, s1, .non] := fun {r} => execs_rt (ret1 (o := false) rfl)
  cases hty : [Ty.tTuple, Ty.tList].any (isTy b) with
  | false =>
    rw [hty] at ty
    refine (skip_f ty).trans ?_
    have o1 := orV (ne [.tBool]) (ne [.tInt])
    have o2 := orV (ne [.tStr]) neN
    cases e1 : (([Ty.tBool].any (isTy a) != [Ty.tBool].any (isTy b)) || ([Ty.tInt].any (isTy a) != [Ty.tInt].any (isTy b))) with
    | true =>
      rw [e1] at o1
      rw [execs_rt ((iff_t o1).trans retF)]
      have : a ≠ b := fun z => by subst z; simp at e1
      rw [decide_eq_false this]
    | false =>
      rw [e1] at o1
      refine (skip_f o1).trans ?_
      cases e2 : (([Ty.tStr].any (isTy a) != [Ty.tStr].any (isTy b)) || (decide (a = .non) != decide (b = .non))) with
      | true =>
        rw [e2] at o2
        rw [execs_rt ((iff_t o2).trans retF)]
        have : a ≠ b := fun z => by subst z; simp at e2
        rw [decide_eq_false this]
      | false =>
        rw [e2] at o2
        refine (skip_f o2).trans (execs_rt (ret1 (o := false) (opV2 (p := .eq) (o := false) v0 v1 ?_)))
        have q : (a = .non ∧ b = .non) ∨ (∃ x y, a = .bl x ∧ b = .bl y) ∨ (∃ x y, a = .int x ∧ b = .int y) ∨ ∃ x y, a = .str x ∧ b = .str y := by
          cases b <;> first
            | (exfalso; simp [isTy] at hty; done)
            | (exfalso; have z := pb.pl; simp [D.pl] at z; done)
            | (cases a <;> first
                | exact .inl ⟨rfl, rfl⟩
                | exact .inr (.inl ⟨_, _, rfl, rfl⟩)
                | exact .inr (.inr (.inl ⟨_, _, rfl, rfl⟩))
                | exact .inr (.inr (.inr ⟨_, _, rfl, rfl⟩))
                | (exfalso; simp [isTy] at e1 e2; done)
                | (exfalso; simp [isTy] at e1; done)
                | (exfalso; simp [isTy] at e2; done))
        rcases q with ⟨rfl, rfl⟩ | ⟨x, y, rfl, rfl⟩ | ⟨x, y, rfl, rfl⟩ | ⟨x, y, rfl, rfl⟩
        · rfl
        · show pEq false _ _ = _
          rw [pEq, eqOkBB, eqBB]; simp [ob]
        · show pEq false _ _ = _
          rw [pEq, eqOkII, eqII]; simp [ob]
        · show pEq false _ _ = _
          rw [pEq, eqOkSS, eqSS]; simp [ob]
  | true =>
    rw [hty] at ty
    refine execs_rt ((iff_t ty).trans ?_)
    have o1 := orV (ne [.tTuple]) (ne [.tList])
    cases e1 : (([Ty.tTuple].any (isTy a) != [Ty.tTuple].any (isTy b)) || ([Ty.tList].any (isTy a) != [Ty.tList].any (isTy b))) with
    | true =>
      rw [e1] at o1
      rw [execs_rt ((iff_t o1).trans retF)]
      have : a ≠ b := fun z => by subst z; simp at e1
      rw [decide_eq_false this]
    | false =>
      rw [e1] at o1
      rw [skip_f o1]
      obtain ⟨xs, ys, hd⟩ : ∃ xs ys, (a = .tup xs ∧ b = .tup ys) ∨ (a = .lst xs ∧ b = .lst ys) := by
        cases b <;> first
          | (exfalso; simp [isTy] at hty; done)
          | (cases a <;> first
              | exact ⟨_, _, .inl ⟨rfl, rfl⟩⟩
              | exact ⟨_, _, .inr ⟨rfl, rfl⟩⟩
              | (exfalso; simp [isTy] at e1; done))
      obtain ⟨hl, hx⟩ := hrow xs ys hd
      have lenA : pLen a = some (false, .int xs.length) := by rcases hd with ⟨rfl, rfl⟩ | ⟨rfl, rfl⟩ <;> rfl
      have lenB : pLen b = some (false, .int ys.length) := by rcases hd with ⟨rfl, rfl⟩ | ⟨rfl, rfl⟩ <;> rfl
      have idxA : ∀ i : Nat, ∀ hi : i < xs.length, pIdx a (.int i) = some (false, xs[i]) := fun i hi => by
        rcases hd with ⟨rfl, rfl⟩ | ⟨rfl, rfl⟩
        · show ((atI xs i).map fun v => (false, v)) = _; rw [atI_nat hi]; rfl
        · show ((atI xs i).map fun v => (false, v)) = _; rw [atI_nat hi]; rfl
      have idxB : ∀ i : Nat, ∀ hi : i < ys.length, pIdx b (.int i) = some (false, ys[i]) := fun i hi => by
        rcases hd with ⟨rfl, rfl⟩ | ⟨rfl, rfl⟩
        · show ((atI ys i).map fun v => (false, v)) = _; rw [atI_nat hi]; rfl
        · show ((atI ys i).map fun v => (false, v)) = _; rw [atI_nat hi]; rfl
      have ln0 : ev Φ γ (.op .len [(.pk 0)]) [s0, s1, .non] = .ok .fr (.int xs.length) [s0, s1, .non] := opV1 (p := .len) (o := false) v0 lenA
      have ln : ev Φ γ (.op .len [(.pk 1)]) [s0, s1, .non] = .ok .fr (.int ys.length) [s0, s1, .non] := opV1 (p := .len) (o := false) v1 lenB
      have lne : ev Φ γ (.op .ne [(.op .len [(.pk 0)]), (.op .len [(.pk 1)])]) [s0, s1, .non] = .ok .fr (.bl (!decide ((xs.length : Int) = ys.length))) [s0, s1, .non] := opV2 (p := .ne) (o := false) (Val.of (o := false) ln0) (Val.of (o := false) ln) (by
        show pEq true _ _ = _
        rw [pEq, eqOkII, eqII]; rfl)
      have hab : decide (a = b) = decide (xs = ys) := by
        rcases hd with ⟨rfl, rfl⟩ | ⟨rfl, rfl⟩ <;> simp
      rw [hab]
      by_cases hle : xs.length = ys.length
      · rw [decide_eq_true (by rw [hle])] at lne
        rw [skip_f lne]
        have hrng : evI Φ γ (.rng1 (.op .len [(.pk 1)])) [s0, s1, .non] = .ok ((List.range ys.length).map fun (k : Nat) => D.int (k : Int)) [] [s0, s1, .non] := by
          have hb : (-(2 ^ 62) ≤ (ys.length : Int)) ∧ ((ys.length : Int) < 2 ^ 62) := by
            rw [sizeLine_eq] at hl
            omega
          simp only [evI, ln, RE.bdI, late, rng1I]
          rw [if_pos (by rw [decide_eq_true hb.1, decide_eq_true hb.2]; rfl), Int.toNat_natCast]
        have hlc := lc_map (v := 2) (elt := .call "_law_same" [(.op .idx [(.pk 0), (.pk 2)]), (.op .idx [(.pk 1), (.pk 2)])]) (g := fun d => match d with | .int i => .bl (decide (xs[i.toNat]? = ys[i.toNat]?)) | _ => .non) hrng (fun i hi => by cases hi) (fun x hxx => ⟨false, by
          obtain ⟨k, hk, rfl⟩ := List.mem_map.mp hxx
          rw [List.mem_range] at hk
          have hk0 : k < xs.length := by omega
          obtain ⟨outs, ho⟩ := hx k hk0 hk
          have i0 : ev Φ γ (.op .idx [(.pk 0), (.pk 2)]) [s0, s1, .fr (.int (k : Int))] = .ok .fr xs[k] [s0, s1, .fr (.int (k : Int))] := idxV (Val.pk h0) (Val.pk rfl) (idxA k hk0)
          have i1 : ev Φ γ (.op .idx [(.pk 1), (.pk 2)]) [s0, s1, .fr (.int (k : Int))] = .ok .fr ys[k] [s0, s1, .fr (.int (k : Int))] := idxV (Val.pk h1) (Val.pk rfl) (idxB k hk)
          have c := callF (f := "_law_same") (es := [(.op .idx [(.pk 0), (.pk 2)]), (.op .idx [(.pk 1), (.pk 2)])]) (ds := [xs[k], ys[k]]) (e := [s0, s1, .fr (.int (k : Int))]) ⟨⟨false, i0⟩, ⟨false, i1⟩, trivial⟩ ho
          show _ = RE.ok _ (D.bl (decide (xs[((k : Nat) : Int).toNat]? = ys[((k : Nat) : Int).toNat]?))) _
          rw [Int.toNat_natCast, List.getElem?_eq_getElem hk0, List.getElem?_eq_getElem hk]
          simp only [Option.some.injEq]
          exact c⟩) (by simpa using hl)
        rw [List.map_map] at hlc
        have hp := pIn_fls (neg := true) (fun k : Nat => decide (xs[k]? = ys[k]?)) (List.range ys.length)
        have hret := opV2 (p := .notIn) (o := false) (Val.lit (.bl false)) (Val.of (o := true) hlc) hp
        rw [execs_rt (ret1 (o := false) hret)]
        have : (List.range ys.length).all (fun k : Nat => decide (xs[k]? = ys[k]?)) = decide (xs = ys) := by
          rw [Bool.eq_iff_iff, List.all_eq_true, decide_eq_true_iff]
          constructor
          · intro h
            refine List.ext_getElem hle fun i h1 h2 => ?_
            have := of_decide_eq_true (h i (List.mem_range.mpr h2))
            rw [List.getElem?_eq_getElem h1, List.getElem?_eq_getElem h2] at this
            exact Option.some.inj this
          · intro h k _
            rw [h]
            exact decide_eq_true rfl
        rw [← this]
        simp
      · rw [decide_eq_false (by omega)] at lne
        rw [execs_rt ((iff_t lne).trans retF)]
        have : xs ≠ ys := fun z => hle (by rw [z])
        rw [decide_eq_false this]
end
section
variable {tab : Str → Option Fn} {γ : Str → Option D} {refs : List Nat}
theorem sameR_runB {s0 s1 : Sl} {Φ : Str → List Sl → FR} {r : Bool} (ha : argsOk refs 0 [s0, s1] = true) (h : execs Φ γ fnSame.body [s0, s1, .non] = .rt false (.bl r) [s0, s1, .non]) : (fnSameR refs).run Φ γ [s0, s1] = .ok false (.bl r) [if refs.contains 0 then s0 else .non, if refs.contains 1 then s1 else .non] := by
  unfold Fn.run
  have e : (decide ([s0, s1].length = (fnSameR refs).ps) && argsOk (fnSameR refs).refs 0 [s0, s1]) = true := by rw [ha]; rfl
  rw [if_pos e]
  show RS.out refs 2 [s0, s1] (execs Φ γ fnSame.body [s0, s1, .non]) = _
  rw [h]
  rfl
theorem sameR_all (h : tab "_law_same" = some (fnSameR refs)) : ∀ (n : Nat) {a b : D}, Fit n a → Fit n b → n ≤ 60 → ∀ {s0 s1 : Sl}, s0.d? = some a → s1.d? = some b → argsOk refs 0 [s0, s1] = true → ∀ k, n + 1 ≤ k → run tab γ k "_law_same" [s0, s1] = .ok false (.bl (decide (a = b))) [if refs.contains 0 then s0 else .non, if refs.contains 1 then s1 else .non] := by
  intro n
  induction n with
  | zero =>
    intro a b fa fb hn s0 s1 h0 h1 ha k hk
    obtain ⟨k, rfl⟩ : ∃ k', k = k' + 1 := ⟨k - 1, by omega⟩
    rw [run_tab h]
    refine sameR_runB ha (sameR_gen h0 h1 (fa.pla.mono (by omega)) (fb.pla.mono (by omega)) fun xs ys hd => ?_)
    have := fb.pla.dep
    rcases hd with ⟨rfl, rfl⟩ | ⟨rfl, rfl⟩ <;> simp [D.dep] at this
  | succ n ih =>
    intro a b fa fb hn s0 s1 h0 h1 ha k hk
    obtain ⟨k, rfl⟩ : ∃ k', k = k' + 1 := ⟨k - 1, by omega⟩
    rw [run_tab h]
    refine sameR_runB ha (sameR_gen h0 h1 (fa.pla.mono (by omega)) (fb.pla.mono (by omega)) fun xs ys hd => ?_)
    have hb := fb.lon 1 ys (by rcases hd with ⟨_, rfl⟩ | ⟨_, rfl⟩ <;> simp)
    refine ⟨by rw [sizeLine_eq]; exact hb.1, fun i hi hi' => ?_⟩
    have fx : Fit n xs[i] := ⟨by rcases hd with ⟨rfl, _⟩ | ⟨rfl, _⟩; exact fa.pla.tup _ (List.getElem_mem hi); exact fa.pla.lst _ (List.getElem_mem hi), fun m => ((fa.lon (m + 1) xs (by rcases hd with ⟨rfl, _⟩ | ⟨rfl, _⟩ <;> simp)).2 _ (List.getElem_mem hi))⟩
    have fy : Fit n ys[i] := ⟨by rcases hd with ⟨_, rfl⟩ | ⟨_, rfl⟩; exact fb.pla.tup _ (List.getElem_mem hi'); exact fb.pla.lst _ (List.getElem_mem hi'), fun m => ((fb.lon (m + 1) ys (by rcases hd with ⟨_, rfl⟩ | ⟨_, rfl⟩ <;> simp)).2 _ (List.getElem_mem hi'))⟩
    exact ⟨_, ih fx fy (by omega) (s0 := .fr xs[i]) (s1 := .fr ys[i]) rfl rfl (by simp [argsOk, isOwn]) k (by omega)⟩
end
end PF
set_option Elab.async false
set_option linter.all false
set_option maxRecDepth 100000
set_option maxHeartbeats 4000000
namespace PF
open PySem PySem.Spec PyProof.Rows L2
section
variable {Φ : Str → List Sl → FR} {γ : Str → Option D}
/-- a loop that ends at the first item that is bad -/
theorem forGo_first {v : Nat} {e : Env} {body : Env → RS} {bad : D → Bool} {r : D → D} : ∀ {ds : List D} {s : Sl}, (∀ d ∈ ds, body (setS e v (.fr d)) = if bad d then .rt false (r d) (setS e v (.fr d)) else .nx (setS e v (.fr d))) →
    ∃ s', forGo (asgT (.nm v)) body ds (setS e v s) = match ds.find? bad with
      | some d => .rt false (r d) (setS e v s')
      | none => .nx (setS e v s')
  | [], s, _ => ⟨s, by simp [forGo]⟩
  | d :: ds, s, h => by
    have h0 := h d (.head _)
    obtain ⟨s', k⟩ := forGo_first (ds := ds) (s := .fr d) (fun x hx => h x (.tail _ hx))
    rw [forGo]
    show ∃ s', RS.lp (body (setS (setS e v s) v (.fr d))) _ = _
    rw [setS_setS, h0]
    cases hb : bad d with
    | true =>
      refine ⟨.fr d, ?_⟩
      rw [List.find?_cons_of_pos hb]
      simp [RS.lp]
    | false =>
      refine ⟨s', ?_⟩
      rw [List.find?_cons_of_neg (by rw [hb]; exact Bool.false_ne_true)]
      simp only [Bool.false_eq_true, if_false, RS.lp]
      exact k
theorem for_first {v : Nat} {it : It} {b : List S} {ds : List D} {ls : List Nat} {e : Env} {bad : D → Bool} {r : D → D} (hI : evI Φ γ it e = .ok ds ls e) (hf : free ls e) (h : ∀ d ∈ ds, execs Φ γ b (setS e v (.fr d)) = if bad d then .rt false (r d) (setS e v (.fr d)) else .nx (setS e v (.fr d))) :
    ∃ s', exec Φ γ (.for_ (.nm v) it b) e = match ds.find? bad with
      | some d => .rt false (r d) (setS e v s')
      | none => .nx (setS e v s') := by
  obtain ⟨s', k⟩ := forGo_first (v := v) (e := e) (body := execs Φ γ b) (bad := bad) (r := r) (ds := ds) (s := getS e v) h
  rw [setS_self] at k
  refine ⟨s', ?_⟩
  rw [exec, hI, RI.bdS, lock_free hf, k]
  cases ds.find? bad with
  | none => simp only [RS.env]; rw [unlock_free hf]
  | some d => simp only [RS.env]; rw [unlock_free hf]
abbrev fnValKey : Fn := ⟨1, 1, [], [.iff (.op (.isinst [.tStr]) [(.pk 0)]) [.ret (.tup [(.lit (.int 1)), (.lit (.int 0)), (.var 0)])] [],
  .ret (.tup [(.lit (.int 0)), (.var 0), (.lit (.str ""))])]⟩
abbrev fnRowKey : Fn := ⟨1, 2, [], [.ret (.op .tuple [(.lc [1] (.nm 1) (.seq (.pk 0)) [] (.call "value_key" [(.var 1)]))])]⟩
abbrev fnCmp : Fn := ⟨2, 2, [], [.iff (.op .eq [(.pk 0), (.pk 1)]) [.ret (.lit (.int 0))] [],
  .ret (.ife (.op .lt [(.call "value_key" [(.var 0)]), (.call "value_key" [(.var 1)])]) (.op .neg [(.lit (.int 1))]) (.lit (.int 1)))]⟩
theorem valKey_fn {d : D} (h : isVal d) : fnValKey.run Φ γ [.fr d] = .ok false (vkey d) [.non] := by
  rcases h with ⟨s, rfl⟩ | ⟨i, rfl⟩
  · simp [Fn.run, pIsi, flatTy, isTy, vkey, ob]
  · simp [Fn.run, pIsi, flatTy, isTy, vkey, ob]
def ValKeyOk (Φ : Str → List Sl → FR) : Prop := ∀ d, isVal d → Φ "value_key" [.fr d] = .ok false (vkey d) [.non]
theorem rowKey_fn (hV : ValKeyOk Φ) {vs : List D} (h : ∀ v ∈ vs, isVal v) (hl : vs.length ≤ 1000000) : fnRowKey.run Φ γ [.fr (.tup vs)] = .ok false (rkeyL vs) [.non] := by
  have l := lc_map (Φ := Φ) (γ := γ) (v := 1) (it := .seq (.pk 0)) (elt := .call "value_key" [(.var 1)]) (g := vkey) (e := [.fr (.tup vs), .non]) (ds := vs) (ls := []) rfl (fun i hi => by cases hi) (fun d hd => ⟨false, callF (es := [.var 1]) (ds := [d]) ⟨argV rfl, trivial⟩ (hV d (h d hd))⟩) (by rw [sizeLine_eq]; omega)
  exact fn_rt (fn := fnRowKey) (as := [.fr (.tup vs)]) (o := false) rfl (execs_rt (ret1 (o := false) (opV1 (p := .tuple) (o := false) (Val.of (o := true) l) rfl)))
theorem vkey_pl {a : D} (h : isVal a) : (vkey a).pl = true ∧ (vkey a).dep = 1 ∧ keyIn (vkey a) = true := by
  rcases h with ⟨s, rfl⟩ | ⟨i, rfl⟩ <;> simp [vkey, D.pl, D.pls, D.dep, D.deps, keyIn, keyIns]
theorem cmp_fn (hV : ValKeyOk Φ) {a b : D} (ha : isVal a) (hb : isVal b) : fnCmp.run Φ γ [.fr a, .fr b] = .ok false (.int (vcmp a b)) [.non, .non] := by
  have pe : pEq false a b = some (false, .bl (decide (a = b))) := by
    rcases ha with ⟨s, rfl⟩ | ⟨i, rfl⟩ <;> rcases hb with ⟨t, rfl⟩ | ⟨j, rfl⟩
    · rw [pEq, eqOkSS, eqSS]; simp [ob]
    · rfl
    · rfl
    · rw [pEq, eqOkII, eqII]; simp [ob]
  have t := opV2 (Φ := Φ) (γ := γ) (e := [.fr a, .fr b]) (p := .eq) (o := false) (Val.pk (i := 0) rfl) (Val.pk (i := 1) rfl) pe
  by_cases h : a = b
  · rw [decide_eq_true h] at t
    have : vcmp a b = 0 := (vcmp_zero ha hb).mpr h
    rw [this]
    exact fn_rt (fn := fnCmp) (as := [.fr a, .fr b]) (o := false) (e' := [.fr a, .fr b]) rfl (execs_rt ((iff_t t).trans (execs_rt (ret1 (o := false) rfl))))
  · rw [decide_eq_false h] at t
    have hz : vcmp a b ≠ 0 := fun z => h ((vcmp_zero ha hb).mp z)
    have c1 := callF (Φ := Φ) (γ := γ) (e := [.fr a, .fr b]) (es := [.var 0]) (ds := [a]) ⟨argV rfl, trivial⟩ (hV a ha)
    have c2 := callF (Φ := Φ) (γ := γ) (e := [.fr a, .fr b]) (es := [.var 1]) (ds := [b]) ⟨argV rfl, trivial⟩ (hV b hb)
    have pl : pLt false (vkey a) (vkey b) = some (false, .bl (decide (vcmp a b = -1))) := by
      rw [pLt, if_pos]
      · show some (false, D.bl (W.dataLt (vkey a).py (vkey b).py)) = _
        rw [vkey_lt ha hb]
      · unfold ltOk
        have n : vkey a ≠ .non := by rcases ha with ⟨s, rfl⟩ | ⟨i, rfl⟩ <;> (intro z; cases z)
        simp only [D.alk, vkey_alk ha hb, (vkey_pl ha).1, (vkey_pl hb).1, (vkey_pl ha).2.1, (vkey_pl hb).2.1, decide_eq_true n]
        rfl
    have l := opV2 (Φ := Φ) (γ := γ) (e := [.fr a, .fr b]) (p := .lt) (o := false) (Val.of (o := false) c1) (Val.of (o := false) c2) pl
    have e2 : ev Φ γ (.ife (.op .lt [(.call "value_key" [(.var 0)]), (.call "value_key" [(.var 1)])]) (.op .neg [(.lit (.int 1))]) (.lit (.int 1))) [.fr a, .fr b] = .ok .fr (.int (vcmp a b)) [.fr a, .fr b] := by
      have l : ev Φ γ (.op .lt [(.call "value_key" [(.var 0)]), (.call "value_key" [(.var 1)])]) [.fr a, .fr b] = .ok .fr (.bl (decide (vcmp a b = -1))) [.fr a, .fr b] := l
      rw [ev, l]
      by_cases q : vcmp a b = -1
      · rw [decide_eq_true q, q]; rfl
      · have : vcmp a b = 1 := by
          rcases ha with ⟨s, rfl⟩ | ⟨i, rfl⟩ <;> rcases hb with ⟨t, rfl⟩ | ⟨j, rfl⟩
          · simp only [vcmp] at hz q ⊢
            split at hz
            · exact absurd rfl hz
            · rename_i n; rw [if_neg n] at q ⊢
              split at q
              · exact absurd rfl q
              · rename_i m; rw [if_neg m]
          · rfl
          · exact absurd rfl q
          · simp only [vcmp] at hz q ⊢
            split at hz
            · exact absurd rfl hz
            · rename_i n; rw [if_neg n] at q ⊢
              split at q
              · exact absurd rfl q
              · rename_i m; rw [if_neg m]
        rw [decide_eq_false q, this]; rfl
    exact fn_rt (fn := fnCmp) (as := [.fr a, .fr b]) (o := false) (e' := [.fr a, .fr b]) rfl ((skip_f t).trans (execs_rt (ret1 (o := false) e2)))
theorem inA_iff (c : Nat) : inA c = decide (c ∈ alpha.cps.toList) := PySem.StrLaws.found_one alpha c
theorem idx_alpha : ∀ c ∈ alpha.cps.toList, strIndex alpha (ch c) = some (c - 97) ∧ 97 ≤ c := by decide +kernel
abbrev lpOrd : List S := [.iff (.op .ne [(.op .idx [(.pk 0), (.pk 3)]), (.op .idx [(.pk 1), (.pk 3)])]) [.ret (.op .sub [(.lit (.int 1)), (.op .mul [(.lit (.int 2)), (.op .toInt [(.op .lt [(.met .index (.pk 2) (.op .idx [(.pk 0), (.pk 3)])), (.met .index (.pk 2) (.op .idx [(.pk 1), (.pk 3)]))])])])])] []]
abbrev fnOrd : Fn := ⟨2, 4, [], [.iff (.boo true [(.op (.isinst [.tStr]) [(.pk 0)]), (.not_ (.op (.isinst [.tStr]) [(.pk 1)]))]) [.ret (.lit (.int 1))] [],
  .iff (.boo true [(.op (.isinst [.tStr]) [(.pk 1)]), (.not_ (.op (.isinst [.tStr]) [(.pk 0)]))]) [.ret (.op .neg [(.lit (.int 1))])] [],
  .iff (.op (.isinst [.tStr]) [(.pk 0)]) [.asg 2 (.lit (.str "abcdefghijklmnopqrstuvwxyz")), .for_ (.nm 3) (.rng1 (.op .min2 [(.op .len [(.pk 0)]), (.op .len [(.pk 1)])])) lpOrd, .ret (.call "_law_order" [(.op .len [(.pk 0)]), (.op .len [(.pk 1)])])] [],
  .ret (.op .sub [(.op .toInt [(.op .gt [(.pk 0), (.pk 1)])]), (.op .toInt [(.op .lt [(.pk 0), (.pk 1)])])])]⟩
theorem ord_int {i j : Int} : fnOrd.run Φ γ [.fr (.int i), .fr (.int j)] = .ok false (.int (vcmp (.int i) (.int j))) [.non, .non] := by
  rcases Int.lt_trichotomy i j with h | h | h
  · have h1 : ¬ j < i := by omega
    have h2 : ¬ i = j := by omega
    simp [Fn.run, pIsi, flatTy, isTy, vcmp, ob, h, h1, h2]
  · subst h
    simp [Fn.run, pIsi, flatTy, isTy, vcmp, ob]
  · have h1 : ¬ i < j := by omega
    have h2 : ¬ i = j := by omega
    simp [Fn.run, pIsi, flatTy, isTy, vcmp, ob, h, h1, h2]
theorem ord_mix1 {i : Int} {s : Str} : fnOrd.run Φ γ [.fr (.int i), .fr (.str s)] = .ok false (.int (-1)) [.non, .non] := by
  simp [Fn.run, pIsi, flatTy, isTy, ob]
theorem ord_mix2 {i : Int} {s : Str} : fnOrd.run Φ γ [.fr (.str s), .fr (.int i)] = .ok false (.int 1) [.non, .non] := by
  simp [Fn.run, pIsi, flatTy, isTy, ob]
end
def lexc {α : Type} (c : α → α → Int) : List α → List α → Int
  | [], [] => 0
  | [], _ :: _ => -1
  | _ :: _, [] => 1
  | a :: as, b :: bs => if c a b = 0 then lexc c as bs else c a b
def atC {α : Type} (c : α → α → Int) (as bs : List α) (k : Nat) : Int := match as[k]?, bs[k]? with
  | some a, some b => c a b
  | _, _ => 0
theorem lex_find {α : Type} (c : α → α → Int) : ∀ as bs : List α, lexc c as bs = match (List.range (min as.length bs.length)).find? (fun k => decide (atC c as bs k ≠ 0)) with
    | some k => atC c as bs k
    | none => vcmp (.int (as.length : Int)) (.int (bs.length : Int))
  | [], [] => by simp [lexc, vcmp]
  | [], b :: bs => by
    have h1 : ¬ ((0 : Int) = (bs.length : Int) + 1) := by omega
    have h2 : (0 : Int) < (bs.length : Int) + 1 := by omega
    simp [lexc, vcmp, h1, h2]
  | a :: as, [] => by
    have h1 : ¬ ((as.length : Int) + 1 = 0) := by omega
    have h2 : ¬ ((as.length : Int) + 1 < 0) := by omega
    simp [lexc, vcmp, h1, h2]
  | a :: as, b :: bs => by
    have ih := lex_find c as bs
    have hm : min (a :: as).length (b :: bs).length = min as.length bs.length + 1 := by simp only [List.length_cons]; omega
    rw [hm, List.range_succ_eq_map, lexc]
    by_cases h : c a b = 0
    · rw [if_pos h, List.find?_cons_of_neg (by simp [atC, h]), ih, List.find?_map]
      have e1 : ((fun k => decide (atC c (a :: as) (b :: bs) k ≠ 0)) ∘ Nat.succ) = fun k => decide (atC c as bs k ≠ 0) := by
        funext k
        have : atC c (a :: as) (b :: bs) (k + 1) = atC c as bs k := by
          unfold atC
          rw [List.getElem?_cons_succ, List.getElem?_cons_succ]
        show decide (atC c (a :: as) (b :: bs) (k + 1) ≠ 0) = _
        rw [this]
      rw [e1]
      cases (List.range (min as.length bs.length)).find? fun k => decide (atC c as bs k ≠ 0) with
      | some k => simp [atC]
      | none =>
        show vcmp (.int (as.length : Int)) (.int (bs.length : Int)) = vcmp (.int (((as.length + 1 : Nat)) : Int)) (.int (((bs.length + 1 : Nat)) : Int))
        rcases Nat.lt_trichotomy as.length bs.length with l | l | l
        · have a1 : ¬ ((as.length : Int) = bs.length) := by omega
          have a2 : (as.length : Int) < bs.length := by omega
          have a3 : ¬ (((as.length + 1 : Nat) : Int) = (bs.length + 1 : Nat)) := by omega
          have a4 : ((as.length + 1 : Nat) : Int) < (bs.length + 1 : Nat) := by omega
          rw [vcmp, vcmp, if_neg a1, if_pos a2, if_neg a3, if_pos a4]
        · rw [l, vcmp, vcmp, if_pos rfl, if_pos rfl]
        · have a1 : ¬ ((as.length : Int) = bs.length) := by omega
          have a2 : ¬ (as.length : Int) < bs.length := by omega
          have a3 : ¬ (((as.length + 1 : Nat) : Int) = (bs.length + 1 : Nat)) := by omega
          have a4 : ¬ ((as.length + 1 : Nat) : Int) < (bs.length + 1 : Nat) := by omega
          rw [vcmp, vcmp, if_neg a1, if_neg a2, if_neg a3, if_neg a4]
    · rw [if_neg h, List.find?_cons_of_pos (by simp [atC, h])]
      simp [atC]
theorem rcmp_lex : ∀ as bs : List D, rcmp as bs = lexc vcmp as bs
  | [], [] => rfl
  | [], _ :: _ => rfl
  | _ :: _, [] => rfl
  | a :: as, b :: bs => by rw [rcmp, lexc, rcmp_lex as bs]
def ncmp (a b : Nat) : Int := if a = b then 0 else if a < b then -1 else 1
theorem lex_nat : ∀ as bs : List Nat, lexc ncmp as bs = if as = bs then 0 else if as < bs then -1 else 1
  | [], [] => rfl
  | [], b :: bs => by simp [lexc]
  | a :: as, [] => by simp [lexc]
  | a :: as, b :: bs => by
    rw [lexc, lex_nat as bs]
    by_cases h : a = b
    · subst h
      simp [ncmp, List.cons_lt_cons_iff]
    · have : ncmp a b ≠ 0 := by unfold ncmp; rw [if_neg h]; split <;> decide
      rw [if_neg this, if_neg (by simp [h])]
      unfold ncmp
      rw [if_neg h]
      by_cases l : a < b
      · rw [if_pos l, if_pos (by simp [List.cons_lt_cons_iff, l])]
      · rw [if_neg l, if_neg (by simp [List.cons_lt_cons_iff, l, h])]
theorem str_ext {s t : Str} (h : s.cps.toList = t.cps.toList) : s = t := by
  cases s; cases t; simp at h; simp [h]
theorem vcmp_str (s t : Str) : vcmp (.str s) (.str t) = lexc ncmp s.cps.toList t.cps.toList := by
  rw [lex_nat]
  simp only [vcmp]
  by_cases h : s = t
  · rw [if_pos h, if_pos (by rw [h])]
  · rw [if_neg h, if_neg (fun z => h (str_ext z))]
section
variable {Φ : Str → List Sl → FR} {γ : Str → Option D}
def itN (p : Nat → Bool) : D → Bool
  | .int i => p i.toNat
  | _ => false
def itI (f : Nat → Int) : D → D
  | .int i => .int (f i.toNat)
  | d => d
theorem rng_items (n : Nat) (p : Nat → Bool) : ((List.range n).map fun (k : Nat) => D.int (k : Int)).find? (itN p) = ((List.range n).find? p).map fun (k : Nat) => D.int (k : Int) := by
  rw [List.find?_map]
  congr 1
def OrdIntOk (Φ : Str → List Sl → FR) : Prop := ∀ i j : Int, Φ "_law_order" [.fr (.int i), .fr (.int j)] = .ok false (.int (vcmp (.int i) (.int j))) [.non, .non]
theorem strAt {s : Str} {k : Nat} (h : k < s.length) (hl : s.length ≤ 16777216) : ∃ c, s.cps.toList[k]? = some c ∧ pIdx (.str s) (.int (k : Int)) = some (false, .str (ch c)) := by
  have h' : k < s.cps.toList.length := by rw [Array.length_toList]; exact h
  refine ⟨s.cps.toList[k], List.getElem?_eq_getElem h', ?_⟩
  show (if s.length ≤ sizeLine then (atI s.cps.toList (k : Int)).map fun c => D.str ⟨#[c]⟩ else none).map (fun v => (false, v)) = _
  rw [if_pos (by rw [sizeLine_eq]; exact hl), atI_nat h']
  rfl
theorem ord_str (hO : OrdIntOk Φ) {s t : Str} (hs : ∀ c ∈ s.cps.toList, inA c = true) (ht : ∀ c ∈ t.cps.toList, inA c = true) (ls : s.length ≤ 1000) (lt : t.length ≤ 1000) : fnOrd.run Φ γ [.fr (.str s), .fr (.str t)] = .ok false (.int (vcmp (.str s) (.str t))) [.non, .non] := by
  have c1 : ev Φ γ (.boo true [(.op (.isinst [.tStr]) [(.pk 0)]), (.not_ (.op (.isinst [.tStr]) [(.pk 1)]))]) [.fr (.str s), .fr (.str t), .non, .non] = .ok .fr (.bl false) [.fr (.str s), .fr (.str t), .non, .non] := rfl
  have c2 : ev Φ γ (.boo true [(.op (.isinst [.tStr]) [(.pk 1)]), (.not_ (.op (.isinst [.tStr]) [(.pk 0)]))]) [.fr (.str s), .fr (.str t), .non, .non] = .ok .fr (.bl false) [.fr (.str s), .fr (.str t), .non, .non] := rfl
  have c3 : ev Φ γ (.op (.isinst [.tStr]) [(.pk 0)]) [.fr (.str s), .fr (.str t), .non, .non] = .ok .fr (.bl true) [.fr (.str s), .fr (.str t), .non, .non] := rfl
  have e4 : exec Φ γ (.asg 2 (.lit (.str "abcdefghijklmnopqrstuvwxyz"))) [.fr (.str s), .fr (.str t), .non, .non] = .nx [.fr (.str s), .fr (.str t), .fr (.str alpha), .non] := rfl
  have lnS : ∀ x, ev Φ γ (.op .len [(.pk 0)]) [.fr (.str s), .fr (.str t), .fr (.str alpha), x] = .ok .fr (.int (s.length : Int)) [.fr (.str s), .fr (.str t), .fr (.str alpha), x] := fun x => opV1 (p := .len) (o := false) (Val.pk (d := .str s) rfl) (pLen_str (by omega))
  have lnT : ∀ x, ev Φ γ (.op .len [(.pk 1)]) [.fr (.str s), .fr (.str t), .fr (.str alpha), x] = .ok .fr (.int (t.length : Int)) [.fr (.str s), .fr (.str t), .fr (.str alpha), x] := fun x => opV1 (p := .len) (o := false) (Val.pk (d := .str t) rfl) (pLen_str (by omega))
  have mn : ev Φ γ (.op .min2 [(.op .len [(.pk 0)]), (.op .len [(.pk 1)])]) [.fr (.str s), .fr (.str t), .fr (.str alpha), .non] = .ok .fr (.int ((min s.length t.length : Nat) : Int)) [.fr (.str s), .fr (.str t), .fr (.str alpha), .non] := opV2 (p := .min2) (o := false) (Val.of (o := false) (lnS _)) (Val.of (o := false) (lnT _)) (by
    show some (false, D.int (if (t.length : Int) < s.length then (t.length : Int) else s.length)) = _
    by_cases h : t.length < s.length
    · rw [if_pos (by omega), show min s.length t.length = t.length by omega]
    · rw [if_neg (by omega), show min s.length t.length = s.length by omega])
  obtain ⟨s', k⟩ := for_first (Φ := Φ) (γ := γ) (v := 3) (it := .rng1 (.op .min2 [(.op .len [(.pk 0)]), (.op .len [(.pk 1)])])) (b := lpOrd) (ls := []) (e := [.fr (.str s), .fr (.str t), .fr (.str alpha), .non]) (bad := itN fun k => decide (atC ncmp s.cps.toList t.cps.toList k ≠ 0)) (r := itI fun k => atC ncmp s.cps.toList t.cps.toList k)
    (rng_ev mn (by omega)) (fun i h => by cases h) (fun d hd => by
      obtain ⟨j, hj, rfl⟩ := List.mem_map.mp hd
      rw [List.mem_range] at hj
      obtain ⟨c, hc, pc⟩ := strAt (s := s) (k := j) (by omega) (by omega)
      obtain ⟨d, hd, pd⟩ := strAt (s := t) (k := j) (by omega) (by omega)
      have ic : ev Φ γ (.op .idx [(.pk 0), (.pk 3)]) [.fr (.str s), .fr (.str t), .fr (.str alpha), .fr (.int (j : Int))] = .ok .fr (.str (ch c)) [.fr (.str s), .fr (.str t), .fr (.str alpha), .fr (.int (j : Int))] := idxV (Val.pk rfl) (Val.pk rfl) pc
      have id : ev Φ γ (.op .idx [(.pk 1), (.pk 3)]) [.fr (.str s), .fr (.str t), .fr (.str alpha), .fr (.int (j : Int))] = .ok .fr (.str (ch d)) [.fr (.str s), .fr (.str t), .fr (.str alpha), .fr (.int (j : Int))] := idxV (Val.pk rfl) (Val.pk rfl) pd
      have at_ : atC ncmp s.cps.toList t.cps.toList j = ncmp c d := by unfold atC; rw [hc, hd]
      have tst : ev Φ γ (.op .ne [(.op .idx [(.pk 0), (.pk 3)]), (.op .idx [(.pk 1), (.pk 3)])]) [.fr (.str s), .fr (.str t), .fr (.str alpha), .fr (.int (j : Int))] = .ok .fr (.bl (!decide (ch c = ch d))) [.fr (.str s), .fr (.str t), .fr (.str alpha), .fr (.int (j : Int))] := opV2 (p := .ne) (o := false) (Val.of (o := false) ic) (Val.of (o := false) id) (by
        show pEq true _ _ = _
        rw [pEq, eqOkSS, eqSS]; rfl)
      have hcd : (ch c = ch d) = (c = d) := by simp [ch]
      show _ = if decide (atC ncmp s.cps.toList t.cps.toList ((j : Nat) : Int).toNat ≠ 0) = true then RS.rt false (D.int (atC ncmp s.cps.toList t.cps.toList ((j : Nat) : Int).toNat)) _ else _
      rw [Int.toNat_natCast, at_]
      by_cases q : c = d
      · subst q
        rw [decide_eq_true rfl] at tst
        have : ncmp c c = 0 := by simp [ncmp]
        rw [this]
        exact (skip_f tst).trans (by simp only [execs]; rfl)
      · rw [decide_eq_false (by rw [hcd]; exact q)] at tst
        have hz : ncmp c d ≠ 0 := by unfold ncmp; rw [if_neg q]; split <;> decide
        rw [if_pos (by simpa using hz)]
        have kc : c ∈ alpha.cps.toList := of_decide_eq_true ((inA_iff c).symm.trans (hs c (List.mem_of_getElem? hc)))
        have kd : d ∈ alpha.cps.toList := of_decide_eq_true ((inA_iff d).symm.trans (ht d (List.mem_of_getElem? hd)))
        obtain ⟨xc, gc⟩ := idx_alpha c kc
        obtain ⟨xd, gd⟩ := idx_alpha d kd
        have mc : ev Φ γ (.met .index (.pk 2) (.op .idx [(.pk 0), (.pk 3)])) [.fr (.str s), .fr (.str t), .fr (.str alpha), .fr (.int (j : Int))] = .ok .fr (.int ((c - 97 : Nat) : Int)) [.fr (.str s), .fr (.str t), .fr (.str alpha), .fr (.int (j : Int))] := by
          have pp : prim .index [.str alpha, .str (ch c)] = some (false, .int ((c - 97 : Nat) : Int)) := by
            show (strIndex alpha (ch c)).map _ = _
            rw [xc]; rfl
          generalize (E.op .idx [(.pk 0), (.pk 3)]) = X at ic ⊢
          generalize alpha = A at ic pp ⊢
          simp only [ev, getS, Sl.d?, onE, RE.bd, isMet, recvK, late, if_true, ic, metE, primE, pp, flOf, Bool.true_and]
          rfl
        have md : ev Φ γ (.met .index (.pk 2) (.op .idx [(.pk 1), (.pk 3)])) [.fr (.str s), .fr (.str t), .fr (.str alpha), .fr (.int (j : Int))] = .ok .fr (.int ((d - 97 : Nat) : Int)) [.fr (.str s), .fr (.str t), .fr (.str alpha), .fr (.int (j : Int))] := by
          have pp : prim .index [.str alpha, .str (ch d)] = some (false, .int ((d - 97 : Nat) : Int)) := by
            show (strIndex alpha (ch d)).map _ = _
            rw [xd]; rfl
          generalize (E.op .idx [(.pk 1), (.pk 3)]) = X at id ⊢
          generalize alpha = A at id pp ⊢
          simp only [ev, getS, Sl.d?, onE, RE.bd, isMet, recvK, late, if_true, id, metE, primE, pp, flOf, Bool.true_and]
          rfl
        have lt_ := opV2 (Φ := Φ) (γ := γ) (p := .lt) (o := false) (Val.of (o := false) mc) (Val.of (o := false) md) (lt_nat (c - 97) (d - 97))
        have ti := opV1 (p := .toInt) (o := false) (Val.of (o := false) lt_) (r := .int (if decide (c - 97 < d - 97) = true then 1 else 0)) rfl
        have mu := opV2 (p := .mul) (o := false) (Val.lit (.int 2)) (Val.of (o := false) ti) (r := .int (2 * (if decide (c - 97 < d - 97) = true then 1 else 0))) (by
          show (if mulOk 2 (if decide (c - 97 < d - 97) = true then 1 else 0) then some (false, D.int (2 * (if decide (c - 97 < d - 97) = true then 1 else 0))) else none) = _
          rw [if_pos (mulOk_l (a := 2) (by decide) (by decide))])
        have su := opV2 (p := .sub) (o := false) (Val.lit (.int 1)) (Val.of (o := false) mu) (r := .int (1 - 2 * (if decide (c - 97 < d - 97) = true then 1 else 0))) rfl
        have ev_ : (1 - 2 * (if decide (c - 97 < d - 97) = true then 1 else 0) : Int) = ncmp c d := by
          unfold ncmp
          rw [if_neg q]
          by_cases l : c < d
          · rw [if_pos l, decide_eq_true (by omega)]; rfl
          · rw [if_neg l, decide_eq_false (by omega)]; rfl
        rw [ev_] at su
        exact execs_rt ((iff_t tst).trans (execs_rt (ret1 (o := false) su))))
  rw [rng_items] at k
  rw [vcmp_str, lex_find]
  rw [show s.cps.toList.length = s.length from Array.length_toList, show t.cps.toList.length = t.length from Array.length_toList]
  cases hf : (List.range (min s.length t.length)).find? fun k => decide (atC ncmp s.cps.toList t.cps.toList k ≠ 0) with
  | some j =>
    rw [hf] at k
    exact fn_rt (fn := fnOrd) (as := [.fr (.str s), .fr (.str t)]) (o := false) (e' := _) rfl ((skip_f c1).trans ((skip_f c2).trans (execs_rt ((iff_t c3).trans ((execs_nx e4).trans (execs_rt k))))))
  | none =>
    rw [hf] at k
    have rr := callF (Φ := Φ) (γ := γ) (e := [.fr (.str s), .fr (.str t), .fr (.str alpha), s']) (f := "_law_order") (es := [(.op .len [(.pk 0)]), (.op .len [(.pk 1)])]) (ds := [.int (s.length : Int), .int (t.length : Int)]) ⟨⟨false, lnS _⟩, ⟨false, lnT _⟩, trivial⟩ (hO _ _)
    exact fn_rt (fn := fnOrd) (as := [.fr (.str s), .fr (.str t)]) (o := false) (e' := _) rfl ((skip_f c1).trans ((skip_f c2).trans (execs_rt ((iff_t c3).trans ((execs_nx e4).trans ((execs_nx k).trans (execs_rt (ret1 (o := false) rr))))))))
abbrev lpROrd : List S := [.iff (.op .ne [(.call "_law_order" [(.op .idx [(.pk 0), (.pk 2)]), (.op .idx [(.pk 1), (.pk 2)])]), (.lit (.int 0))]) [.ret (.call "_law_order" [(.op .idx [(.pk 0), (.pk 2)]), (.op .idx [(.pk 1), (.pk 2)])])] []]
abbrev fnROrd : Fn := ⟨2, 3, [], [.for_ (.nm 2) (.rng1 (.op .min2 [(.op .len [(.pk 0)]), (.op .len [(.pk 1)])])) lpROrd,
  .ret (.call "_law_order" [(.op .len [(.pk 0)]), (.op .len [(.pk 1)])])]⟩
theorem rord_fn (hO : OrdIntOk Φ) {as bs : List D} (la : as.length ≤ 1000) (lb : bs.length ≤ 1000) (h : ∀ a ∈ as, ∀ b ∈ bs, Φ "_law_order" [.fr a, .fr b] = .ok false (.int (vcmp a b)) [.non, .non]) : fnROrd.run Φ γ [.fr (.tup as), .fr (.tup bs)] = .ok false (.int (rcmp as bs)) [.non, .non] := by
  have lnS : ∀ x, ev Φ γ (.op .len [(.pk 0)]) [.fr (.tup as), .fr (.tup bs), x] = .ok .fr (.int (as.length : Int)) [.fr (.tup as), .fr (.tup bs), x] := fun x => opV1 (p := .len) (o := false) (Val.pk (d := .tup as) rfl) rfl
  have lnT : ∀ x, ev Φ γ (.op .len [(.pk 1)]) [.fr (.tup as), .fr (.tup bs), x] = .ok .fr (.int (bs.length : Int)) [.fr (.tup as), .fr (.tup bs), x] := fun x => opV1 (p := .len) (o := false) (Val.pk (d := .tup bs) rfl) rfl
  have mn : ev Φ γ (.op .min2 [(.op .len [(.pk 0)]), (.op .len [(.pk 1)])]) [.fr (.tup as), .fr (.tup bs), .non] = .ok .fr (.int ((min as.length bs.length : Nat) : Int)) [.fr (.tup as), .fr (.tup bs), .non] := opV2 (p := .min2) (o := false) (Val.of (o := false) (lnS _)) (Val.of (o := false) (lnT _)) (by
    show some (false, D.int (if (bs.length : Int) < as.length then (bs.length : Int) else as.length)) = _
    by_cases h : bs.length < as.length
    · rw [if_pos (by omega), show min as.length bs.length = bs.length by omega]
    · rw [if_neg (by omega), show min as.length bs.length = as.length by omega])
  obtain ⟨s', k⟩ := for_first (Φ := Φ) (γ := γ) (v := 2) (it := .rng1 (.op .min2 [(.op .len [(.pk 0)]), (.op .len [(.pk 1)])])) (b := lpROrd) (ls := []) (e := [.fr (.tup as), .fr (.tup bs), .non]) (bad := itN fun k => decide (atC vcmp as bs k ≠ 0)) (r := itI fun k => atC vcmp as bs k)
    (rng_ev mn (by omega)) (fun i h => by cases h) (fun d hd => by
      obtain ⟨j, hj, rfl⟩ := List.mem_map.mp hd
      rw [List.mem_range] at hj
      have ja : j < as.length := by omega
      have jb : j < bs.length := by omega
      have ic : ev Φ γ (.op .idx [(.pk 0), (.pk 2)]) [.fr (.tup as), .fr (.tup bs), .fr (.int (j : Int))] = .ok .fr as[j] [.fr (.tup as), .fr (.tup bs), .fr (.int (j : Int))] := idxV (Val.pk rfl) (Val.pk rfl) (by show (atI as (j : Int)).map _ = _; rw [atI_nat ja]; rfl)
      have id : ev Φ γ (.op .idx [(.pk 1), (.pk 2)]) [.fr (.tup as), .fr (.tup bs), .fr (.int (j : Int))] = .ok .fr bs[j] [.fr (.tup as), .fr (.tup bs), .fr (.int (j : Int))] := idxV (Val.pk rfl) (Val.pk rfl) (by show (atI bs (j : Int)).map _ = _; rw [atI_nat jb]; rfl)
      have at_ : atC vcmp as bs j = vcmp as[j] bs[j] := by unfold atC; rw [List.getElem?_eq_getElem ja, List.getElem?_eq_getElem jb]
      have cc := callF (Φ := Φ) (γ := γ) (f := "_law_order") (es := [(.op .idx [(.pk 0), (.pk 2)]), (.op .idx [(.pk 1), (.pk 2)])]) (ds := [as[j], bs[j]]) ⟨⟨false, ic⟩, ⟨false, id⟩, trivial⟩ (h _ (List.getElem_mem ja) _ (List.getElem_mem jb))
      have tst : ev Φ γ (.op .ne [(.call "_law_order" [(.op .idx [(.pk 0), (.pk 2)]), (.op .idx [(.pk 1), (.pk 2)])]), (.lit (.int 0))]) [.fr (.tup as), .fr (.tup bs), .fr (.int (j : Int))] = .ok .fr (.bl (!decide (vcmp as[j] bs[j] = 0))) [.fr (.tup as), .fr (.tup bs), .fr (.int (j : Int))] := opV2 (p := .ne) (o := false) (Val.of (o := false) cc) (Val.lit _) (by
        show pEq true _ _ = _
        rw [pEq, eqOkII, eqII]; rfl)
      show _ = if decide (atC vcmp as bs ((j : Nat) : Int).toNat ≠ 0) = true then RS.rt false (D.int (atC vcmp as bs ((j : Nat) : Int).toNat)) _ else _
      rw [Int.toNat_natCast, at_]
      by_cases q : vcmp as[j] bs[j] = 0
      · rw [decide_eq_true q] at tst
        rw [q]
        exact (skip_f tst).trans (by simp only [execs]; rfl)
      · rw [decide_eq_false q] at tst
        rw [if_pos (by simpa using q)]
        exact execs_rt ((iff_t tst).trans (execs_rt (ret1 (o := false) cc))))
  rw [rng_items] at k
  rw [rcmp_lex, lex_find]
  cases hf : (List.range (min as.length bs.length)).find? fun k => decide (atC vcmp as bs k ≠ 0) with
  | some j =>
    rw [hf] at k
    exact fn_rt (fn := fnROrd) (as := [.fr (.tup as), .fr (.tup bs)]) (o := false) (e' := _) rfl (execs_rt k)
  | none =>
    rw [hf] at k
    have rr := callF (Φ := Φ) (γ := γ) (e := [.fr (.tup as), .fr (.tup bs), s']) (f := "_law_order") (es := [(.op .len [(.pk 0)]), (.op .len [(.pk 1)])]) (ds := [.int (as.length : Int), .int (bs.length : Int)]) ⟨⟨false, lnS _⟩, ⟨false, lnT _⟩, trivial⟩ (hO _ _)
    exact fn_rt (fn := fnROrd) (as := [.fr (.tup as), .fr (.tup bs)]) (o := false) (e' := _) rfl ((execs_nx k).trans (execs_rt (ret1 (o := false) rr)))
end
end PF
set_option Elab.async false
set_option linter.all false
set_option maxRecDepth 100000
set_option maxHeartbeats 4000000
namespace PF
open PySem PySem.Spec PyProof.Rows L2
def addU (us : List D) (r : D) : List D := if r ∈ us then us else us ++ [r]
def uniq (rs : List D) : List D := rs.foldl addU []
section
variable {K : D → D} {S : D → Prop}
theorem addU_mem {us : List D} {r x : D} : x ∈ addU us r ↔ x ∈ us ∨ x = r := by
  unfold addU
  by_cases h : r ∈ us
  · rw [if_pos h]
    exact ⟨.inl, fun k => k.elim id fun k => k ▸ h⟩
  · rw [if_neg h, List.mem_append, List.mem_singleton]
theorem addU_nodup {us : List D} {r : D} (h : us.Nodup) : (addU us r).Nodup := by
  unfold addU
  by_cases k : r ∈ us
  · rw [if_pos k]; exact h
  · rw [if_neg k, List.nodup_append]
    exact ⟨h, by simp, fun a ha b hb z => by rw [List.mem_singleton] at hb; subst hb; subst z; exact k ha⟩
theorem addU_len (us : List D) (r : D) : (addU us r).length ≤ us.length + 1 := by
  unfold addU
  split
  · exact Nat.le_succ _
  · rw [List.length_append]; exact Nat.le_refl _
theorem uniq_go : ∀ (rs us : List D), (∀ x, x ∈ rs.foldl addU us ↔ x ∈ us ∨ x ∈ rs) ∧ (us.Nodup → (rs.foldl addU us).Nodup) ∧ (rs.foldl addU us).length ≤ us.length + rs.length
  | [], us => ⟨fun x => by simp, id, Nat.le_refl _⟩
  | r :: rs, us => by
    obtain ⟨h1, h2, h3⟩ := uniq_go rs (addU us r)
    refine ⟨fun x => ?_, fun n => h2 (addU_nodup n), ?_⟩
    · rw [List.foldl_cons, h1, addU_mem, List.mem_cons, or_assoc]
    · have := addU_len us r
      rw [List.foldl_cons, List.length_cons]
      omega
theorem uniq_mem {rs : List D} {x : D} : x ∈ uniq rs ↔ x ∈ rs := by
  rw [uniq, (uniq_go rs []).1]; simp
theorem uniq_nodup (rs : List D) : (uniq rs).Nodup := (uniq_go rs []).2.1 List.nodup_nil
theorem uniq_len (rs : List D) : (uniq rs).length ≤ rs.length := by have := (uniq_go rs []).2.2; rw [List.length_nil, Nat.zero_add] at this; exact this
theorem key_mem (inj : ∀ a b, S a → S b → K a = K b → a = b) {us : List D} {r : D} (hs : ∀ u ∈ us, S u) (hr : S r) : K r ∈ us.map K ↔ r ∈ us := by
  constructor
  · intro h
    obtain ⟨u, hu, e⟩ := List.mem_map.mp h
    rw [← inj u r (hs u hu) hr e]; exact hu
  · exact fun h => List.mem_map.mpr ⟨r, h, rfl⟩
theorem dPutV_same (inj : ∀ a b, S a → S b → K a = K b → a = b) {r : D} (hr : S r) : ∀ {us : List D}, (∀ u ∈ us, S u) → dPutV (K r) r (us.map K) us = us
  | [], _ => rfl
  | u :: us, hs => by
    rw [List.map_cons, dPutV, dPutV_same inj hr fun x hx => hs x (.tail _ hx)]
    split
    · rename_i e
      rw [inj u r (hs u (.head _)) hr e]
    · rfl
theorem dPut_key (inj : ∀ a b, S a → S b → K a = K b → a = b) {us : List D} {r : D} (hs : ∀ u ∈ us, S u) (hr : S r) : dPut (K r) r (us.map K) us = ((addU us r).map K, addU us r) := by
  unfold dPut addU
  by_cases h : r ∈ us
  · rw [if_pos ((key_mem inj hs hr).mpr h), if_pos h, dPutV_same inj hr hs]
  · rw [if_neg (fun z => h ((key_mem inj hs hr).mp z)), if_neg h, List.map_append]
    rfl
theorem dGet_key (inj : ∀ a b, S a → S b → K a = K b → a = b) {r : D} (hr : S r) : ∀ {us : List D}, (∀ u ∈ us, S u) → r ∈ us → dGet (K r) (us.map K) us = some r
  | u :: us, hs, h => by
    rw [List.map_cons, dGet]
    by_cases e : K u = K r
    · rw [if_pos e, inj u r (hs u (.head _)) hr e]
    · rw [if_neg e]
      rcases List.mem_cons.mp h with rfl | h
      · exact absurd rfl e
      · exact dGet_key inj hr (fun x hx => hs x (.tail _ hx)) h
/-- what stands there, by the keys in order -/
def byKey (K : D → D) (us : List D) : List D := (srt (us.map K)).map fun k => (dGet k (us.map K) us).getD .non
theorem byKey_mem (inj : ∀ a b, S a → S b → K a = K b → a = b) {us : List D} (hs : ∀ u ∈ us, S u) {x : D} : x ∈ byKey K us ↔ x ∈ us := by
  unfold byKey
  rw [List.mem_map]
  constructor
  · rintro ⟨k, hk, e⟩
    have : k ∈ us.map K := (List.mergeSort_perm _ _).mem_iff.mp hk
    obtain ⟨u, hu, rfl⟩ := List.mem_map.mp this
    rw [dGet_key inj (hs u hu) hs hu] at e
    subst e
    exact hu
  · intro h
    exact ⟨K x, (List.mergeSort_perm _ _).mem_iff.mpr (List.mem_map.mpr ⟨x, h, rfl⟩), by rw [dGet_key inj (hs x h) hs h]; rfl⟩
theorem byKey_keys (inj : ∀ a b, S a → S b → K a = K b → a = b) {us : List D} (hs : ∀ u ∈ us, S u) : (byKey K us).map K = srt (us.map K) := by
  unfold byKey
  rw [List.map_map]
  conv => rhs; rw [← List.map_id (srt (us.map K))]
  refine List.map_congr_left fun k hk => ?_
  have : k ∈ us.map K := (List.mergeSort_perm _ _).mem_iff.mp hk
  obtain ⟨u, hu, rfl⟩ := List.mem_map.mp this
  show K ((dGet (K u) (us.map K) us).getD .non) = _
  rw [dGet_key inj (hs u hu) hs hu]
  rfl
theorem byKey_up (inj : ∀ a b, S a → S b → K a = K b → a = b) {us : List D} (hs : ∀ u ∈ us, S u) (nd : us.Nodup) (hk : ∀ u, S u → keyIn (K u) = true) (al : ∀ u v, S u → S v → D.alk (K u) (K v) = true) : (byKey K us).Pairwise fun a b => D.lt (K a) (K b) = true := by
  have p1 : (srt (us.map K)).Pairwise fun a b => D.le a b = true := List.pairwise_mergeSort dLe_trans dLe_total _
  have nk : (us.map K).Nodup := by
    rw [List.nodup_iff_pairwise_ne] at nd ⊢
    rw [List.pairwise_map]
    exact nd.imp_of_mem fun {a b} ha hb ne z => ne (inj a b (hs a ha) (hs b hb) z)
  have p2 : (srt (us.map K)).Nodup := (List.mergeSort_perm _ _).nodup_iff.mpr nk
  rw [List.nodup_iff_pairwise_ne] at p2
  have p := p1.and p2
  rw [← byKey_keys inj hs, List.pairwise_map] at p
  refine p.imp_of_mem fun {a b} ma mb ⟨h1, h2⟩ => ?_
  have sa := hs a ((byKey_mem inj hs).mp ma)
  have sb := hs b ((byKey_mem inj hs).mp mb)
  cases q : D.lt (K a) (K b) with
  | true => rfl
  | false =>
    unfold D.le at h1
    rw [Bool.not_eq_true'] at h1
    exact absurd (toks_key (hk a sa) (hk b sb) (al a b sa sb) ((listOrd itemOrd).total _ _ q h1)) h2
theorem byKey_len (us : List D) : (byKey K us).length = us.length := by
  unfold byKey srt
  rw [List.length_map, List.length_mergeSort, List.length_map]
end
section
variable {Φ : Str → List Sl → FR} {γ : Str → Option D}
theorem for_retL {v : Nat} {it : It} {b : List S} {ds : List D} {ls : List Nat} {e : Env} {bad : D → Bool} {r : D} (hI : evI Φ γ it e = .ok ds ls e) (h : ∀ d ∈ ds, execs Φ γ b (setS (lockAll ls e) v (.fr d)) = if bad d then .rt false r (setS (lockAll ls e) v (.fr d)) else .nx (setS (lockAll ls e) v (.fr d))) :
    ∃ s', exec Φ γ (.for_ (.nm v) it b) e = if ds.any bad then .rt false r (unlockAll ls e (setS (lockAll ls e) v s')) else .nx (unlockAll ls e (setS (lockAll ls e) v s')) := by
  obtain ⟨s', k⟩ := forGo_ret (s := getS (lockAll ls e) v) h
  rw [setS_self] at k
  refine ⟨s', ?_⟩
  simp only [exec, hI, RI.bdS, k]
  split <;> simp only [RS.env]
theorem for_all {v : Nat} {it : It} {b : List S} {ds : List D} {ls : List Nat} {e : Env} (hI : evI Φ γ it e = .ok ds ls e) (h : ∀ d ∈ ds, execs Φ γ b (setS (lockAll ls e) v (.fr d)) = .nx (setS (lockAll ls e) v (.fr d))) :
    ∃ s', exec Φ γ (.for_ (.nm v) it b) e = .nx (unlockAll ls e (setS (lockAll ls e) v s')) := by
  obtain ⟨s', k⟩ := for_retL (bad := fun _ => false) (r := .non) hI (fun d hd => by rw [h d hd]; rfl)
  exact ⟨s', by rw [k, if_neg (by simp)]⟩
theorem lc_pureL {v : Nat} {it : It} {ifs : List E} {elt : E} {ds : List D} {ls : List Nat} {p : D → Bool} {g : D → D} {e : Env} (hI : evI Φ γ it e = .ok ds ls e) (hu : unlockAll ls e (lockAll ls e) = e) (h1 : ∀ d ∈ ds, evTs Φ γ ifs (setS (lockAll ls e) v (.fr d)) = .ok (p d) (setS (lockAll ls e) v (.fr d)))
    (h2 : ∀ d ∈ ds, p d = true → ∃ o, ev Φ γ elt (setS (lockAll ls e) v (.fr d)) = .ok (flOf o) (g d) (setS (lockAll ls e) v (.fr d))) (hl : ds.length ≤ sizeLine) : ev Φ γ (.lc [v] (.nm v) it ifs elt) e = .ok .ow (.lst ((ds.filter p).map g)) e := by
  obtain ⟨s', k⟩ := lcGo_pure (e := lockAll ls e) (s := getS (lockAll ls e) v) (acc := []) h1 h2 (by simpa using hl)
  rw [setS_self] at k
  simp only [ev, hI, RI.bd, k, RL.bd, List.nil_append]
  show RE.ok .ow _ (unlockAll ls e (setS (setS (lockAll ls e) v s') v (getS (lockAll ls e) v))) = _
  rw [setS_setS, setS_self, hu]
theorem callX {f : Str} {es : List E} {e e1 e2 : Env} {vs : List (Fl × D)} {o : Bool} {r : D} {outs : List Sl} (hv : evs Φ γ es e = .ok vs e1) (hn : nodupN (places vs) = true) (hf : Φ f (lend vs e1) = .ok o r outs) (hb : back vs outs e1 = some e2) : ev Φ γ (.call f es) e = .ok (flOf o) r e2 := by
  simp only [ev, hv, REs.bd, hn, if_true, hf, callE, hb, onE]
theorem app_ev {i : Nat} {a : E} {e e1 : Env} {L : List D} {o : Bool} {x : D} (h : ev Φ γ a e = .ok (flOf o) x e1) (g0 : getS e i = .ow (.lst L)) (g1 : getS e1 i = .ow (.lst L)) (hl : L.length < sizeLine) : exec Φ γ (.ex (.mu .append i [a])) e = .nx (setS e1 i (.ow (.lst (L ++ [x])))) := by
  have st : storedE [(flOf o, x)] (fun ds => muE .append i e1 ds) = .ok .fr .non (setS e1 i (.ow (.lst (L ++ [x])))) := by
    cases o <;> simp only [flOf, storedE, stored, Option.map_some, onE, muE, g1, owOf, muD, if_pos hl, if_true, Bool.false_eq_true, if_false]
  simp only [exec, ev, g0, slotFits, muIsDict, Bool.not_false, if_true, evs, h, RE.bds, REs.bds, REs.bd]
  rw [st]
  rfl
/-- a call whose last argument is lent -/
theorem callL2 {f : Str} {a : E} {j : Nat} {o : Bool} {x y r : D} {s s0 : Sl} {e : Env} (ha : ∃ o, ev Φ γ a e = .ok (flOf o) x e) (gj : getS e j = s) (hs : s.d? = some y) (hn : isNon s = false) (hf : Φ f [.fr x, s] = .ok o r [s0, s]) : ev Φ γ (.call f [a, .pk j]) e = .ok (flOf o) r e := by
  obtain ⟨q, ha⟩ := ha
  have hself : setS e j s = e := by rw [← gj]; exact setS_self e j
  cases q <;> simp only [ev, evs, ha, gj, hs, onE, flOf, RE.bds, REs.bds, REs.bd, places, nodupN, List.contains_nil, Bool.not_false, Bool.and_self, if_true, if_false, Bool.false_eq_true, lend, hf, callE, back, hn, hself]
end
theorem keyOkT {t : D} {ks : List D} (h : keyTup t = true) (k : ks.all keyTup = true) : keyOk t ks = true := by
  unfold keyOk
  rw [h, k]
  simp [dnOn]
def rkD : D → D
  | .tup vs => rkeyL vs
  | d => d
def rowV (d : D) : Prop := ∃ vs, d = .tup vs ∧ vs.length ≤ 8 ∧ ∀ v ∈ vs, isVal v
theorem rowW.row {k : Nat} {d : D} (h : rowW k d) : rowV d := by
  obtain ⟨vs, rfl, h1, h2⟩ := h
  exact ⟨vs, rfl, h1, fun v hv => (h2 v hv).isVal⟩
theorem rkD_inj (a b : D) (ha : rowV a) (hb : rowV b) (h : rkD a = rkD b) : a = b := by
  obtain ⟨vs, rfl, _, h1⟩ := ha
  obtain ⟨ws, rfl, _, h2⟩ := hb
  rw [rkey_inj h1 h2 h]
theorem rkD_key {d : D} (h : rowV d) : keyTup (rkD d) = true ∧ keyIn (rkD d) = true ∧ (rkD d).pl = true ∧ (rkD d).dep ≤ 2 ∧ isTu (rkD d) = true := by
  obtain ⟨vs, rfl, _, h1⟩ := h
  have go : ∀ vs : List D, (∀ v ∈ vs, isVal v) → keyIns (vs.map vkey) = true ∧ D.pls (vs.map vkey) = true ∧ D.deps (vs.map vkey) ≤ 1 := by
    intro vs
    induction vs with
    | nil => intro _; exact ⟨rfl, rfl, Nat.zero_le _⟩
    | cons v vs ih =>
      intro h
      obtain ⟨i1, i2, i3⟩ := ih fun x hx => h x (.tail _ hx)
      obtain ⟨k1, k2, k3⟩ := vkey_pl (h v (.head _))
      simp only [List.map_cons, keyIns, D.pls, D.deps, k1, k2, k3, i1, i2, Bool.and_self, true_and]
      omega
  obtain ⟨g1, g2, g3⟩ := go vs h1
  refine ⟨?_, ?_, ?_, ?_, rfl⟩
  · show (keyIns (vs.map vkey) && decide (D.deps (vs.map vkey) ≤ 6)) = true
    rw [g1, decide_eq_true (by omega)]; rfl
  · show keyIns (vs.map vkey) = true
    exact g1
  · show D.pls (vs.map vkey) = true
    exact g2
  · show D.deps (vs.map vkey) + 1 ≤ 2
    omega
section
variable {Φ : Str → List Sl → FR} {γ : Str → Option D}
abbrev lpSR : List S := [.setI 1 (.call "row_key" [(.var 2)]) (.var 2)]
abbrev fnSR : Fn := ⟨1, 4, [], [.asg 1 .dnew,
  .for_ (.nm 2) (.seq (.pk 0)) lpSR,
  .ret (.lc [3] (.nm 3) (.seq (.op .sorted [(.pk 1)])) [] (.op .idx [(.pk 1), (.pk 3)]))]⟩
theorem sr_fn (hK : ∀ d, rowV d → Φ "row_key" [.fr d] = .ok false (rkD d) [.non]) {rs : List D} (h : ∀ r ∈ rs, rowV r) (hl : rs.length ≤ 100000) : fnSR.run Φ γ [.fr (.lst rs)] = .ok true (.lst (byKey rkD (uniq rs))) [.non] := by
  have e1 : exec Φ γ (.asg 1 .dnew) [.fr (.lst rs), .non, .non, .non] = .nx [.fr (.lst rs), .ow (.dct [] []), .non, .non] := rfl
  have lp : ∀ (ds us : List D) (s2 : Sl), (∀ r ∈ ds, rowV r) → (∀ r ∈ us, rowV r) → us.length + ds.length ≤ 100000 → ∃ s2', forGo (asgT (.nm 2)) (execs Φ γ lpSR) ds [.fr (.lst rs), .ow (.dct (us.map rkD) us), s2, .non] = .nx [.fr (.lst rs), .ow (.dct ((ds.foldl addU us).map rkD) (ds.foldl addU us)), s2', .non] := by
    intro ds
    induction ds with
    | nil => intro us s2 _ _ _; exact ⟨s2, by simp [forGo]⟩
    | cons d ds ih =>
      intro us s2 hd hu hz
      rw [List.length_cons] at hz
      have rd := hd d (.head _)
      have al := addU_len us d
      obtain ⟨s2', k⟩ := ih (addU us d) (.fr d) (fun x hx => hd x (.tail _ hx)) (fun x hx => by rcases addU_mem.mp hx with q | rfl; exact hu x q; exact rd) (by omega)
      refine ⟨s2', ?_⟩
      have c := callF (Φ := Φ) (γ := γ) (e := [.fr (.lst rs), .ow (.dct (us.map rkD) us), .fr d, .non]) (f := "row_key") (es := [.var 2]) (ds := [d]) ⟨argV rfl, trivial⟩ (hK d rd)
      have c : ev Φ γ (.call "row_key" [.var 2]) [.fr (.lst rs), .ow (.dct (us.map rkD) us), .fr d, .non] = .ok .fr (rkD d) [.fr (.lst rs), .ow (.dct (us.map rkD) us), .fr d, .non] := c
      have ok : keyOk (rkD d) (us.map rkD) = true := keyOkT (rkD_key rd).1 (List.all_eq_true.mpr fun x hx => by
        obtain ⟨u, hu', rfl⟩ := List.mem_map.mp hx
        exact (rkD_key (hu u hu')).1)
      have st : setD (.dct (us.map rkD) us) (rkD d) d = some (.dct ((addU us d).map rkD) (addU us d)) := by
        show (if keyOk (rkD d) (us.map rkD) && decide ((us.map rkD).length < sizeLine) then some (D.dct (dPut (rkD d) d (us.map rkD) us).1 (dPut (rkD d) d (us.map rkD) us).2) else none) = _
        rw [ok, decide_eq_true (by rw [sizeLine_eq, List.length_map]; omega), dPut_key rkD_inj hu rd]
        rfl
      have e2 : exec Φ γ (.setI 1 (.call "row_key" [(.var 2)]) (.var 2)) [.fr (.lst rs), .ow (.dct (us.map rkD) us), .fr d, .non] = .nx [.fr (.lst rs), .ow (.dct ((addU us d).map rkD) (addU us d)), .fr d, .non] := by
        generalize E.call "row_key" [.var 2] = X at c ⊢
        simp only [exec, ev, getS, varE, RE.bdS, keepS, owOf, onS, c, setIS, late, keyFl, if_true, st, setS]
      rw [forGo]
      show RS.lp (execs Φ γ lpSR [.fr (.lst rs), .ow (.dct (us.map rkD) us), .fr d, .non]) _ = _
      rw [execs_one e2]
      simp only [RS.lp]
      exact k
  obtain ⟨s2, k⟩ := lp rs [] .non h (fun r hr => by cases hr) (by simpa using hl)
  have e2 : exec Φ γ (.for_ (.nm 2) (.seq (.pk 0)) lpSR) [.fr (.lst rs), .ow (.dct [] []), .non, .non] = .nx [.fr (.lst rs), .ow (.dct ((uniq rs).map rkD) (uniq rs)), s2, .non] := by
    rw [exec, show evI Φ γ (.seq (.pk 0)) [.fr (.lst rs), .ow (.dct [] []), .non, .non] = .ok rs [0] [.fr (.lst rs), .ow (.dct [] []), .non, .non] from rfl, RI.bdS]
    show (forGo _ _ _ [.fr (.lst rs), .ow (.dct [] []), .non, .non]).env _ = _
    rw [show ([] : List D) = ([] : List D).map rkD from rfl] at k
    rw [show forGo (asgT (.nm 2)) (execs Φ γ lpSR) rs [.fr (.lst rs), .ow (.dct [] []), .non, .non] = _ from k]
    rfl
  have hu : ∀ u ∈ uniq rs, rowV u := fun u hu => h u (uniq_mem.mp hu)
  have ul := uniq_len rs
  generalize huq : uniq rs = us at *
  have sk : sortableK (us.map rkD) = true := by
    unfold sortableK
    rw [Bool.and_eq_true, Bool.or_eq_true]
    refine ⟨List.all_eq_true.mpr fun x hx => ?_, .inl (List.all_eq_true.mpr fun x hx => ?_)⟩
    · obtain ⟨u, hu', rfl⟩ := List.mem_map.mp hx
      have q := rkD_key (hu u hu')
      rw [q.2.2.1, decide_eq_true (by omega)]
      refine List.all_eq_true.mpr fun y hy => ?_
      obtain ⟨w, hw', rfl⟩ := List.mem_map.mp hy
      obtain ⟨a, rfl, _, ha⟩ := hu u hu'
      obtain ⟨b, rfl, _, hb⟩ := hu w hw'
      exact rkey_alk ha hb
    · obtain ⟨u, hu', rfl⟩ := List.mem_map.mp hx
      exact (rkD_key (hu u hu')).2.2.2.2
  have so : ev Φ γ (.op .sorted [(.pk 1)]) [.fr (.lst rs), .ow (.dct (us.map rkD) us), s2, .non] = .ok (flOf true) (.lst (srt (us.map rkD))) [.fr (.lst rs), .ow (.dct (us.map rkD) us), s2, .non] := opV1 (Val.pk (i := 1) (d := .dct (us.map rkD) us) rfl) (by
    show (if sortableK (us.map rkD) && decide ((us.map rkD).length ≤ sizeLine) then some (true, D.lst (srt (us.map rkD))) else none) = _
    rw [sk, decide_eq_true (by rw [sizeLine_eq, List.length_map]; omega)]
    rfl)
  have hI : evI Φ γ (.seq (.op .sorted [(.pk 1)])) [.fr (.lst rs), .ow (.dct (us.map rkD) us), s2, .non] = .ok (srt (us.map rkD)) [] [.fr (.lst rs), .ow (.dct (us.map rkD) us), s2, .non] := seqV so rfl
  have lm := lc_map (v := 3) (elt := .op .idx [(.pk 1), (.pk 3)]) (g := fun k => (dGet k (us.map rkD) us).getD .non) hI (fun i hi => by cases hi) (fun k hk => ⟨false, by
    have : k ∈ us.map rkD := (List.mergeSort_perm _ _).mem_iff.mp hk
    obtain ⟨u, hu', rfl⟩ := List.mem_map.mp this
    have g := dGet_key rkD_inj (hu u hu') hu hu'
    rw [g]
    refine opV2 (p := .idx) (o := false) (Val.pk (i := 1) (d := .dct (us.map rkD) us) rfl) (Val.pk (i := 3) (d := rkD u) rfl) ?_
    show (if keyOk (rkD u) (us.map rkD) then (dGet (rkD u) (us.map rkD) us).map fun v => (false, v) else none) = _
    rw [if_pos (keyOkT (rkD_key (hu u hu')).1 (List.all_eq_true.mpr fun x hx => by
        obtain ⟨w, hw', rfl⟩ := List.mem_map.mp hx
        exact (rkD_key (hu w hw')).1)), g]
    rfl⟩) (by unfold srt; rw [List.length_mergeSort, List.length_map, sizeLine_eq]; omega)
  exact fn_rt (fn := fnSR) (as := [.fr (.lst rs)]) (o := true) rfl ((execs_nx e1).trans ((execs_nx e2).trans (execs_rt (ret1 (o := true) lm))))
end
end PF
set_option Elab.async false
set_option linter.all false
set_option maxRecDepth 100000
set_option maxHeartbeats 4000000
namespace PF
open PySem PySem.Spec PyProof.Rows L2
abbrev Tb : Str → Option Fn := tabOf dfs
abbrev Ga : Str → Option D := γOf csts
theorem tab_law : tabOf dfs "law" = some fn_law := by kernel_rfl
theorem tab_draws : tabOf dfs "_law_draws" = some fnDraws := by kernel_rfl
theorem tab_take : tabOf dfs "_law_take" = some fnTake := by kernel_rfl
theorem tab_pick : tabOf dfs "_law_pick" = some (fnPickR [0, 1]) := by kernel_rfl
theorem tab_size : tabOf dfs "_law_size" = some fnSize := by kernel_rfl
theorem tab_words : tabOf dfs "_law_words" = some fnWords := by kernel_rfl
theorem tab_number : tabOf dfs "_law_number" = some fnNumber := by kernel_rfl
theorem tab_near : tabOf dfs "_law_near_value" = some fnNear := by kernel_rfl
theorem tab_nearR : tabOf dfs "_law_near_row" = some fnNearR := by kernel_rfl
theorem tab_order : tabOf dfs "_law_order" = some fnOrd := by kernel_rfl
theorem tab_rorder : tabOf dfs "_law_row_order" = some fnROrd := by kernel_rfl
theorem tab_same : tabOf dfs "_law_same" = some (fnSameR [1]) := by kernel_rfl
theorem tab_vkey : tabOf dfs "value_key" = some fnValKey := by kernel_rfl
theorem tab_rkey : tabOf dfs "row_key" = some fnRowKey := by kernel_rfl
theorem tab_cmp : tabOf dfs "compare_values" = some fnCmp := by kernel_rfl
theorem tab_sr : tabOf dfs "sorted_rows" = some fnSR := by kernel_rfl
abbrev Wd : Sh := drawW 900
theorem c_take (m : Nat) (hm : 1 ≤ m) : TakeOk (run Tb Ga m) Wd := take_ok tab_take 900 m hm
theorem c_pick (m : Nat) (hm : 2 ≤ m) : PickOk (run Tb Ga m) Wd := pick_ok tab_pick tab_take 900 m hm
theorem c_words (m : Nat) (hm : 2 ≤ m) : WordsOk (run Tb Ga m) Wd := fun dr hd => by
  obtain ⟨m, rfl⟩ : ∃ m', m = m' + 1 := ⟨m - 1, by omega⟩
  obtain ⟨ws, dr', h1, h2, h3, h4⟩ := words_fn (γ := Ga) (m := 1) (c_take m (by omega)) (by decide) hd
  obtain ⟨w, rfl⟩ := List.length_eq_one_iff.mp h2
  exact ⟨w, dr', by rw [run_tab tab_words]; exact h1, h3 w (.head _), h4⟩
theorem c_vkey (m : Nat) (hm : 1 ≤ m) : ValKeyOk (run Tb Ga m) := fun d h => by
  obtain ⟨m, rfl⟩ : ∃ m', m = m' + 1 := ⟨m - 1, by omega⟩
  rw [run_tab tab_vkey]
  exact valKey_fn h
theorem c_rkey (m : Nat) (hm : 2 ≤ m) (d : D) (h : rowV d) : run Tb Ga m "row_key" [.fr d] = .ok false (rkD d) [.non] := by
  obtain ⟨m, rfl⟩ : ∃ m', m = m' + 1 := ⟨m - 1, by omega⟩
  obtain ⟨vs, rfl, h1, h2⟩ := h
  rw [run_tab tab_rkey]
  exact rowKey_fn (c_vkey m (by omega)) h2 (by omega)
theorem c_cmp (m : Nat) (hm : 2 ≤ m) {a b : D} (ha : isVal a) (hb : isVal b) : run Tb Ga m "compare_values" [.fr a, .fr b] = .ok false (.int (vcmp a b)) [.non, .non] := by
  obtain ⟨m, rfl⟩ : ∃ m', m = m' + 1 := ⟨m - 1, by omega⟩
  rw [run_tab tab_cmp]
  exact cmp_fn (c_vkey m (by omega)) ha hb
theorem c_sr (m : Nat) (hm : 3 ≤ m) {rs : List D} (h : ∀ r ∈ rs, rowV r) (hl : rs.length ≤ 100000) : run Tb Ga m "sorted_rows" [.fr (.lst rs)] = .ok true (.lst (byKey rkD (uniq rs))) [.non] := by
  obtain ⟨m, rfl⟩ : ∃ m', m = m' + 1 := ⟨m - 1, by omega⟩
  rw [run_tab tab_sr]
  exact sr_fn (c_rkey m (by omega)) h hl
theorem c_ordI (m : Nat) (hm : 1 ≤ m) : OrdIntOk (run Tb Ga m) := fun i j => by
  obtain ⟨m, rfl⟩ : ∃ m', m = m' + 1 := ⟨m - 1, by omega⟩
  rw [run_tab tab_order]
  exact ord_int
theorem c_ord (m : Nat) (hm : 2 ≤ m) {k : Nat} (hk : k ≤ 1000) {a b : D} (ha : valW k a) (hb : valW k b) : run Tb Ga m "_law_order" [.fr a, .fr b] = .ok false (.int (vcmp a b)) [.non, .non] := by
  obtain ⟨m, rfl⟩ : ∃ m', m = m' + 1 := ⟨m - 1, by omega⟩
  rw [run_tab tab_order]
  rcases ha with ⟨s, rfl, hs, ls⟩ | ⟨i, rfl⟩ <;> rcases hb with ⟨t, rfl, ht, lt⟩ | ⟨j, rfl⟩
  · exact ord_str (c_ordI m (by omega)) (isW_all hs) (isW_all ht) (by omega) (by omega)
  · exact ord_mix2
  · exact ord_mix1
  · exact ord_int
theorem c_rord (m : Nat) (hm : 3 ≤ m) {k : Nat} (hk : k ≤ 1000) {a b : D} (ha : rowW k a) (hb : rowW k b) : run Tb Ga m "_law_row_order" [.fr a, .fr b] = .ok false (if D.lt (rkD a) (rkD b) then .int (-1) else .int (match a, b with | .tup as, .tup bs => rcmp as bs | _, _ => 0)) [.non, .non] := by
  obtain ⟨m, rfl⟩ : ∃ m', m = m' + 1 := ⟨m - 1, by omega⟩
  obtain ⟨as, rfl, la, ha⟩ := ha
  obtain ⟨bs, rfl, lb, hb⟩ := hb
  rw [run_tab tab_rorder, rord_fn (c_ordI m (by omega)) (by omega) (by omega) fun a h1 b h2 => c_ord m (by omega) hk (ha a h1) (hb b h2)]
  have e : D.lt (rkD (.tup as)) (rkD (.tup bs)) = decide (rcmp as bs = -1) := rkey_lt (fun a h => (ha a h).isVal) fun b h => (hb b h).isVal
  rw [e]
  by_cases q : rcmp as bs = -1
  · rw [if_pos (decide_eq_true q), q]
  · rw [if_neg (by simpa using q)]
theorem c_same (m : Nat) (hm : 5 ≤ m) {a b : D} (ha : Fit 3 a) (hb : Fit 3 b) {s1 : Sl} (h1 : s1.d? = some b) : run Tb Ga m "_law_same" [.fr a, s1] = .ok false (.bl (decide (a = b))) [.non, s1] := by
  have := sameR_all (γ := Ga) tab_same 3 ha hb (by decide) (s0 := .fr a) rfl h1 (by cases s1 <;> rfl) m (by omega)
  exact this
theorem fit_val {d : D} (h : isVal d) : Fit 0 d := by
  rcases h with ⟨s, rfl⟩ | ⟨i, rfl⟩
  · exact fit_str s
  · exact fit_int i
theorem fit_row {d : D} (h : rowV d) : Fit 1 d := by
  obtain ⟨vs, rfl, l, h⟩ := h
  exact fit_tup (by omega) fun v hv => fit_val (h v hv)
theorem fit_rows {rs : List D} (h : ∀ r ∈ rs, rowV r) (l : rs.length ≤ 100000) : Fit 3 (.lst rs) := (fit_lst (n := 1) (by omega) fun r hr => fit_row (h r hr)).mono (by decide)
section
variable {ns : List Int} (hb : ∀ z ∈ ns, (z.natAbs : Int) ≤ hugeI)
include hb
theorem c_size (m : Nat) (hm : 2 ≤ m) : SizeOk (run Tb Ga m) Wd (.lst (ns.map .int)) := fun dr hd => by
  obtain ⟨m, rfl⟩ : ∃ m', m = m' + 1 := ⟨m - 1, by omega⟩
  obtain ⟨z, dr', g1, g2, g3⟩ := size_fn2 (run Tb Ga m) Ga (c_take m (by omega)) huge_ge hd ns hb
  exact ⟨z, dr', by rw [run_tab tab_size]; exact g1, g2.1, g2.2, g3⟩
theorem c_number (m : Nat) (hm : 3 ≤ m) : FnD (run Tb Ga m) Wd "_law_number" [.lst (ns.map .int)] numD := fun dr hd => by
  obtain ⟨m, rfl⟩ : ∃ m', m = m' + 1 := ⟨m - 1, by omega⟩
  obtain ⟨x, dr', h1, h2, h3⟩ := number_fn (γ := Ga) (c_take m (by omega)) (c_size hb m (by omega)) dr hd
  exact ⟨x, dr', by rw [run_tab tab_number]; exact h1, h2, h3⟩
theorem c_near (m : Nat) (hm : 4 ≤ m) {k : Nat} (hk : 23 ≤ k) (hk2 : k ≤ 1000) {seen : List D} (hs : ∀ v ∈ seen, valW k v) (hl : seen.length ≤ 1000) : NearOk (run Tb Ga m) Wd (.lst (ns.map .int)) seen (k + 1) := fun dr hd => by
  obtain ⟨m, rfl⟩ : ∃ m', m = m' + 1 := ⟨m - 1, by omega⟩
  obtain ⟨x, dr', h1, h2, h3⟩ := near_fn (γ := Ga) (c_take m (by omega)) (c_pick m (by omega)) (c_words m (by omega)) (c_number hb m (by omega)) hk hk2 hs hl dr hd
  exact ⟨x, dr', by rw [run_tab tab_near]; exact h1, h2, h3⟩
theorem c_nearR (m : Nat) (hm : 5 ≤ m) {k : Nat} (hk : 23 ≤ k) (hk2 : k ≤ 1000) {seen rows : List D} (hs : ∀ v ∈ seen, valW k v) (hl : seen.length ≤ 1000) (hr : ∀ d ∈ rows, rowW (k + 1) d) :
    ∀ dr, Wd.has dr → ∃ x dr', run Tb Ga m "_law_near_row" [.ow dr, .fr (.lst (ns.map .int)), .ow (.lst seen), .ow (.lst rows)] = .ok false x [.ow dr', .non, .ow (.lst seen), .ow (.lst rows)] ∧ rowW (k + 1) x ∧ Wd.has dr' := fun dr hd => by
  obtain ⟨m, rfl⟩ : ∃ m', m = m' + 1 := ⟨m - 1, by omega⟩
  obtain ⟨x, dr', h1, h2, h3⟩ := nearR_fn (γ := Ga) (c_take m (by omega)) (c_pick m (by omega)) (c_near hb m (by omega) hk hk2 hs hl) hr dr hd
  exact ⟨x, dr', by rw [run_tab tab_nearR]; exact h1, h2, h3⟩
end
section
variable {Φ : Str → List Sl → FR} {γ : Str → Option D}
theorem app_near {dr dr' scr x : D} {seen : List D} {s3 s4 s5 s6 s7 s8 s9 s10 : Sl} (hl : seen.length < 100000) (h : Φ "_law_near_value" [.ow dr, .fr scr, .ow (.lst seen)] = .ok false x [.ow dr', .non, .ow (.lst seen)]) :
    execs Φ γ lp_law_1 [.fr scr, .ow dr, .ow (.lst seen), s3, s4, s5, s6, s7, s8, s9, s10] = .nx [.fr scr, .ow dr', .ow (.lst (seen ++ [x])), s3, s4, s5, s6, s7, s8, s9, s10] := by
  have c := callX (Φ := Φ) (γ := γ) (f := "_law_near_value") (es := [(.pk 1), (.var 0), (.pk 2)]) (e := [.fr scr, .ow dr, .ow (.lst seen), s3, s4, s5, s6, s7, s8, s9, s10]) (e2 := [.fr scr, .ow dr', .ow (.lst seen), s3, s4, s5, s6, s7, s8, s9, s10]) rfl rfl h rfl
  exact execs_one (app_ev (i := 2) c rfl rfl (by rw [sizeLine_eq]; omega))
theorem loop_seen {scr : D} {W : Sh} {s4 s5 s6 s7 s8 s9 s10 : Sl} (hN : ∀ (k : Nat) (seen : List D), 23 ≤ k → k ≤ 30 → (∀ v ∈ seen, valW k v) → seen.length ≤ 1000 → NearOk Φ W scr seen (k + 1)) {dr : D} (hd : W.has dr) :
    ∃ seen dr' s3, exec Φ γ (.for_ (.nm 3) (.rng1 (.lit (.int 3))) lp_law_1) [.fr scr, .ow dr, .ow (.lst []), .non, s4, s5, s6, s7, s8, s9, s10] = .nx [.fr scr, .ow dr', .ow (.lst seen), s3, s4, s5, s6, s7, s8, s9, s10] ∧ seen.length = 3 ∧ (∀ v ∈ seen, valW 26 v) ∧ W.has dr' := by
  have hI : evI Φ γ (.rng1 (.lit (.int 3))) [.fr scr, .ow dr, .ow (.lst []), .non, s4, s5, s6, s7, s8, s9, s10] = .ok ((List.range 3).map fun (k : Nat) => D.int (k : Int)) [] [.fr scr, .ow dr, .ow (.lst []), .non, s4, s5, s6, s7, s8, s9, s10] := rng_ev (n := 3) rfl (by decide)
  obtain ⟨e', ⟨dr', seen, s3, rfl, h1, h2, h3⟩, lq⟩ := forGo_inv (tgt := asgT (.nm 3)) (body := execs Φ γ lp_law_1) (fun i e => ∃ dr seen s3, e = [.fr scr, .ow dr, .ow (.lst seen), s3, s4, s5, s6, s7, s8, s9, s10] ∧ seen.length = i ∧ (∀ v ∈ seen, valW (23 + i) v) ∧ W.has dr) ((List.range 3).map fun (k : Nat) => D.int (k : Int)) 0 [.fr scr, .ow dr, .ow (.lst []), .non, s4, s5, s6, s7, s8, s9, s10] ⟨dr, [], .non, rfl, rfl, (fun v h => by cases h), hd⟩ (fun i d e hdi hi => by
    obtain ⟨dr, seen, s3, rfl, h1, h2, h3⟩ := hi
    rw [Nat.zero_add] at h1 h2 ⊢
    have hlt : i < 3 := by
      have := (List.getElem?_eq_some_iff.mp hdi).1
      rwa [List.length_map, List.length_range] at this
    obtain ⟨x, dr', k1, k2, k3⟩ := hN (23 + i) seen (by omega) (by omega) h2 (by omega) dr h3
    refine ⟨_, [.fr scr, .ow dr', .ow (.lst (seen ++ [x])), .fr d, s4, s5, s6, s7, s8, s9, s10], rfl, .inl (app_near (by omega) k1), dr', seen ++ [x], .fr d, rfl, by rw [List.length_append, h1]; rfl, fun v hv => ?_, k3⟩
    rcases List.mem_append.mp hv with hv | hv
    · exact (h2 v hv).mono (by omega)
    · rw [List.mem_singleton.mp hv]; exact k2)
  refine ⟨seen, dr', s3, ?_, by simpa using h1, by simpa using h2, h3⟩
  rw [exec, hI, RI.bdS]
  show (forGo _ _ _ [.fr scr, .ow dr, .ow (.lst []), .non, s4, s5, s6, s7, s8, s9, s10]).env _ = _
  rw [lq]
  rfl
/-- every two of the values -/
theorem loop_cmp {scr : D} {sd : Sl} {seen : List D} {s3 s5 s6 s7 s8 s9 : Sl} (hc : ∀ a ∈ seen, ∀ b ∈ seen, Φ "compare_values" [.fr a, .fr b] = .ok false (.int (vcmp a b)) [.non, .non]) (ho : ∀ a ∈ seen, ∀ b ∈ seen, Φ "_law_order" [.fr a, .fr b] = .ok false (.int (vcmp a b)) [.non, .non])
    (hs : ∀ i : Int, Φ "_law_same" [.fr (.int i), .fr (.int i)] = .ok false (.bl true) [.non, .fr (.int i)]) :
    ∃ s4 s10, exec Φ γ (.for_ (.nm 4) (.seq (.pk 2)) lp_law_3) [.fr scr, sd, .ow (.lst seen), s3, .non, s5, s6, s7, s8, s9, .non] = .nx [.fr scr, sd, .ow (.lst seen), s3, s4, s5, s6, s7, s8, s9, s10] := by
  have out : ∀ (ds : List D) (s4 s10 : Sl), (∀ d ∈ ds, d ∈ seen) → ∃ t4 t10, forGo (asgT (.nm 4)) (execs Φ γ lp_law_3) ds [.fr scr, sd, .lk (.lst seen), s3, s4, s5, s6, s7, s8, s9, s10] = .nx [.fr scr, sd, .lk (.lst seen), s3, t4, s5, s6, s7, s8, s9, t10] := by
    intro ds
    induction ds with
    | nil => intro s4 s10 _; exact ⟨s4, s10, by simp [forGo]⟩
    | cons d ds ih =>
      intro s4 s10 hd
      obtain ⟨t, k⟩ := for_all (Φ := Φ) (γ := γ) (v := 10) (it := .seq (.pk 2)) (b := lp_law_2) (ds := seen) (ls := [2]) (e := [.fr scr, sd, .lk (.lst seen), s3, .fr d, s5, s6, s7, s8, s9, s10]) rfl (fun x hx => by
        have c1 := callF (Φ := Φ) (γ := γ) (e := [.fr scr, sd, .lk (.lst seen), s3, .fr d, s5, s6, s7, s8, s9, .fr x]) (f := "compare_values") (es := [.var 4, .var 10]) (ds := [d, x]) ⟨argV rfl, argV rfl, trivial⟩ (hc d (hd d (.head _)) x hx)
        have c2 := callF (Φ := Φ) (γ := γ) (e := [.fr scr, sd, .lk (.lst seen), s3, .fr d, s5, s6, s7, s8, s9, .fr x]) (f := "_law_order") (es := [.var 4, .var 10]) (ds := [d, x]) ⟨argV rfl, argV rfl, trivial⟩ (ho d (hd d (.head _)) x hx)
        have c3 : ev Φ γ (.call "_law_same" [(.call "compare_values" [(.var 4), (.var 10)]), (.call "_law_order" [(.var 4), (.var 10)])]) [.fr scr, sd, .lk (.lst seen), s3, .fr d, s5, s6, s7, s8, s9, .fr x] = .ok .fr (.bl true) [.fr scr, sd, .lk (.lst seen), s3, .fr d, s5, s6, s7, s8, s9, .fr x] := callF (o := false) (es := [(.call "compare_values" [(.var 4), (.var 10)]), (.call "_law_order" [(.var 4), (.var 10)])]) (ds := [.int (vcmp d x), .int (vcmp d x)]) (outs := [.non, .fr (.int (vcmp d x))]) ⟨⟨false, c1⟩, ⟨false, c2⟩, trivial⟩ (hs _)
        exact (skip_f (not1 (Val.of (o := false) c3))).trans (by simp only [execs]; rfl))
      obtain ⟨t4, t10, k2⟩ := ih (.fr d) t (fun x hx => hd x (.tail _ hx))
      refine ⟨t4, t10, ?_⟩
      rw [forGo]
      show RS.lp (execs Φ γ lp_law_3 [.fr scr, sd, .lk (.lst seen), s3, .fr d, s5, s6, s7, s8, s9, s10]) _ = _
      rw [show execs Φ γ lp_law_3 [.fr scr, sd, .lk (.lst seen), s3, .fr d, s5, s6, s7, s8, s9, s10] = .nx [.fr scr, sd, .lk (.lst seen), s3, .fr d, s5, s6, s7, s8, s9, t] from execs_one k]
      simp only [RS.lp]
      exact k2
  obtain ⟨t4, t10, k⟩ := out seen .non .non fun d h => h
  refine ⟨t4, t10, ?_⟩
  rw [exec, show evI Φ γ (.seq (.pk 2)) [.fr scr, sd, .ow (.lst seen), s3, .non, s5, s6, s7, s8, s9, .non] = .ok seen [2] [.fr scr, sd, .ow (.lst seen), s3, .non, s5, s6, s7, s8, s9, .non] from rfl, RI.bdS]
  show (forGo _ _ _ [.fr scr, sd, .lk (.lst seen), s3, .non, s5, s6, s7, s8, s9, .non]).env _ = _
  rw [k]
  rfl
theorem app_row {dr dr' scr x : D} {seen rows : List D} {s3 s4 s6 s7 s8 s9 s10 : Sl} (hl : rows.length < 100000) (h : Φ "_law_near_row" [.ow dr, .fr scr, .ow (.lst seen), .ow (.lst rows)] = .ok false x [.ow dr', .non, .ow (.lst seen), .ow (.lst rows)]) :
    exec Φ γ (.ex (.mu .append 5 [(.call "_law_near_row" [(.pk 1), (.var 0), (.pk 2), (.pk 5)])])) [.fr scr, .ow dr, .ow (.lst seen), s3, s4, .ow (.lst rows), s6, s7, s8, s9, s10] = .nx [.fr scr, .ow dr', .ow (.lst seen), s3, s4, .ow (.lst (rows ++ [x])), s6, s7, s8, s9, s10] := by
  have c := callX (Φ := Φ) (γ := γ) (f := "_law_near_row") (es := [(.pk 1), (.var 0), (.pk 2), (.pk 5)]) (e := [.fr scr, .ow dr, .ow (.lst seen), s3, s4, .ow (.lst rows), s6, s7, s8, s9, s10]) (e2 := [.fr scr, .ow dr', .ow (.lst seen), s3, s4, .ow (.lst rows), s6, s7, s8, s9, s10]) rfl rfl h rfl
  exact app_ev (i := 5) c rfl rfl (by rw [sizeLine_eq]; omega)
theorem app_pick {dr dr' scr x : D} {seen rows : List D} {s3 s4 s6 s7 s8 s9 s10 : Sl} (hl : rows.length < 100000) (h : Φ "_law_pick" [.ow dr, .ow (.lst rows)] = .ok false x [.ow dr', .ow (.lst rows)]) :
    exec Φ γ (.ex (.mu .append 5 [(.call "_law_pick" [(.pk 1), (.pk 5)])])) [.fr scr, .ow dr, .ow (.lst seen), s3, s4, .ow (.lst rows), s6, s7, s8, s9, s10] = .nx [.fr scr, .ow dr', .ow (.lst seen), s3, s4, .ow (.lst (rows ++ [x])), s6, s7, s8, s9, s10] := by
  have c := callX (Φ := Φ) (γ := γ) (f := "_law_pick") (es := [(.pk 1), (.pk 5)]) (e := [.fr scr, .ow dr, .ow (.lst seen), s3, s4, .ow (.lst rows), s6, s7, s8, s9, s10]) (e2 := [.fr scr, .ow dr', .ow (.lst seen), s3, s4, .ow (.lst rows), s6, s7, s8, s9, s10]) rfl rfl h rfl
  exact app_ev (i := 5) c rfl rfl (by rw [sizeLine_eq]; omega)
theorem take_at1 {W : Sh} (hT : TakeOk Φ W) {scr dr : D} {r : Env} (hd : W.has dr) {m : Nat} (hm : 1 ≤ m) : ∃ n dr', ev Φ γ (.call "_law_take" [(.pk 1), (.lit (.int (m : Int)))]) (.fr scr :: .ow dr :: r) = .ok .fr (.int ((n : Nat) : Int)) (.fr scr :: .ow dr' :: r) ∧ n < m ∧ W.has dr' := by
  obtain ⟨x, dr', h1, h2, h3, h4⟩ := hT dr (m : Int) hd (by omega)
  obtain ⟨n, rfl⟩ := toN h2
  exact ⟨n, dr', callP (i := 1) (o := false) (es := [.lit (.int (m : Int))]) (ds := [.int (m : Int)]) (x' := .ow dr') rfl rfl ⟨argL _, trivial⟩ rfl h1, by omega, h4⟩
theorem loop_rows {scr : D} {W : Sh} {seen : List D} {s4 s6 s7 s8 s9 s10 : Sl} {K : Nat} (hT : TakeOk Φ W) (hP : PickOk Φ W) (hN : ∀ rows : List D, (∀ d ∈ rows, rowW K d) → ∀ dr, W.has dr → ∃ x dr', Φ "_law_near_row" [.ow dr, .fr scr, .ow (.lst seen), .ow (.lst rows)] = .ok false x [.ow dr', .non, .ow (.lst seen), .ow (.lst rows)] ∧ rowW K x ∧ W.has dr') {dr : D} (hd : W.has dr) (s3 : Sl) :
    ∃ rows dr' s3', exec Φ γ (.for_ (.nm 3) (.rng1 (.call "_law_take" [(.pk 1), (.lit (.int 13))])) lp_law_4) [.fr scr, .ow dr, .ow (.lst seen), s3, s4, .ow (.lst []), s6, s7, s8, s9, s10] = .nx [.fr scr, .ow dr', .ow (.lst seen), s3', s4, .ow (.lst rows), s6, s7, s8, s9, s10] ∧ rows.length ≤ 24 ∧ (∀ d ∈ rows, rowW K d) ∧ W.has dr' := by
  obtain ⟨n, dr0, t1, t2, t3⟩ := take_at1 (γ := γ) hT (scr := scr) (dr := dr) (r := [.ow (.lst seen), s3, s4, .ow (.lst []), s6, s7, s8, s9, s10]) hd (m := 13) (by decide)
  have hI : evI Φ γ (.rng1 (.call "_law_take" [(.pk 1), (.lit (.int 13))])) [.fr scr, .ow dr, .ow (.lst seen), s3, s4, .ow (.lst []), s6, s7, s8, s9, s10] = .ok ((List.range n).map fun (k : Nat) => D.int (k : Int)) [] [.fr scr, .ow dr0, .ow (.lst seen), s3, s4, .ow (.lst []), s6, s7, s8, s9, s10] := rng_ev t1 (by omega)
  obtain ⟨e', ⟨dr', rows, s3', rfl, h1, h2, h3⟩, lq⟩ := forGo_inv (tgt := asgT (.nm 3)) (body := execs Φ γ lp_law_4) (fun i e => ∃ dr rows s3, e = [.fr scr, .ow dr, .ow (.lst seen), s3, s4, .ow (.lst rows), s6, s7, s8, s9, s10] ∧ rows.length ≤ 2 * i ∧ (∀ d ∈ rows, rowW K d) ∧ W.has dr) ((List.range n).map fun (k : Nat) => D.int (k : Int)) 0 [.fr scr, .ow dr0, .ow (.lst seen), s3, s4, .ow (.lst []), s6, s7, s8, s9, s10] ⟨dr0, [], s3, rfl, Nat.le_refl _, (fun v h => by cases h), t3⟩ (fun i d e hdi hi => by
    obtain ⟨dr, rows, s3, rfl, h1, h2, h3⟩ := hi
    rw [Nat.zero_add] at h1 ⊢
    have hlt : i < n := by
      have := (List.getElem?_eq_some_iff.mp hdi).1
      rwa [List.length_map, List.length_range] at this
    obtain ⟨x, dr1, k1, k2, k3⟩ := hN rows h2 dr h3
    have e1 := app_row (Φ := Φ) (γ := γ) (s3 := .fr d) (s4 := s4) (s6 := s6) (s7 := s7) (s8 := s8) (s9 := s9) (s10 := s10) (by omega) k1
    have hx : ∀ y ∈ rows ++ [x], rowW K y := fun v hv => by
      rcases List.mem_append.mp hv with hv | hv
      · exact h2 v hv
      · rw [List.mem_singleton.mp hv]; exact k2
    obtain ⟨q, dr2, q1, q2, q3⟩ := take_at1 (γ := γ) hT (scr := scr) (dr := dr1) (r := [.ow (.lst seen), .fr d, s4, .ow (.lst (rows ++ [x])), s6, s7, s8, s9, s10]) k3 (m := 4) (by decide)
    have tq : ev Φ γ (.op .eq [(.call "_law_take" [(.pk 1), (.lit (.int 4))]), (.lit (.int 0))]) [.fr scr, .ow dr1, .ow (.lst seen), .fr d, s4, .ow (.lst (rows ++ [x])), s6, s7, s8, s9, s10] = .ok .fr (.bl (decide (q = 0))) [.fr scr, .ow dr2, .ow (.lst seen), .fr d, s4, .ow (.lst (rows ++ [x])), s6, s7, s8, s9, s10] := op2S (o := false) (o1 := false) (o2 := false) q1 (by simp only [ev]; rfl) (eq_nat q 0)
    by_cases hq : q = 0
    · rw [decide_eq_true hq] at tq
      obtain ⟨y, hy, dr3, p1, p2⟩ := hP (rows ++ [x]) dr2 (.ow (.lst (rows ++ [x]))) q3 (by simp) (.inr rfl)
      have e2 := app_pick (Φ := Φ) (γ := γ) (scr := scr) (seen := seen) (s3 := .fr d) (s4 := s4) (s6 := s6) (s7 := s7) (s8 := s8) (s9 := s9) (s10 := s10) (by rw [List.length_append]; simp only [List.length_singleton]; omega) p1
      refine ⟨_, [.fr scr, .ow dr3, .ow (.lst seen), .fr d, s4, .ow (.lst (rows ++ [x] ++ [y])), s6, s7, s8, s9, s10], rfl, .inl ((execs_nx e1).trans (execs_one ((iff_t tq).trans (execs_one e2)))), dr3, _, .fr d, rfl, by simp only [List.length_append, List.length_singleton]; omega, fun v hv => ?_, p2⟩
      rcases List.mem_append.mp hv with hv | hv
      · exact hx v hv
      · rw [List.mem_singleton.mp hv]; exact hx y hy
    · rw [decide_eq_false hq] at tq
      refine ⟨_, [.fr scr, .ow dr2, .ow (.lst seen), .fr d, s4, .ow (.lst (rows ++ [x])), s6, s7, s8, s9, s10], rfl, .inl ((execs_nx e1).trans (execs_one ((iff_f tq).trans (by simp only [execs])))), dr2, _, .fr d, rfl, by simp only [List.length_append, List.length_singleton]; omega, hx, q3⟩)
  rw [Nat.zero_add, List.length_map, List.length_range] at h1
  refine ⟨rows, dr', s3', ?_, by omega, h2, h3⟩
  rw [exec, hI, RI.bdS]
  show (forGo _ _ _ [.fr scr, .ow dr0, .ow (.lst seen), s3, s4, .ow (.lst []), s6, s7, s8, s9, s10]).env _ = _
  rw [lq]
  rfl
end
end PF
set_option Elab.async false
set_option linter.all false
set_option maxRecDepth 100000
set_option maxHeartbeats 4000000
namespace PF
open PySem PySem.Spec PyProof.Rows L2
section
variable {Φ : Str → List Sl → FR} {γ : Str → Option D} {rows T : List D} {s0 s1 s2 s4 s6 s9 s10 : Sl}
theorem len_ev {i : Nat} {e : Env} {ds : List D} (h : (getS e i).d? = some (.lst ds)) : ev Φ γ (.op .len [(.pk i)]) e = .ok .fr (.int (ds.length : Int)) e := opV1 (p := .len) (o := false) (Val.pk h) rfl
theorem gtZ {k : Nat} {i : Nat} {e : Env} (h : getS e i = .fr (.int (k : Int))) : ev Φ γ (.op .gt [(.pk i), (.lit (.int 0))]) e = .ok .fr (.bl (decide (0 < k))) e := opV2 (p := .gt) (o := false) (Val.pk (d := .int (k : Int)) (by rw [h]; rfl)) (Val.lit _) gt_zero
/-- each of the answer is a row, and above the one before -/
theorem loop_told (hsame : ∀ a b : D, a ∈ T → b ∈ rows → Φ "_law_same" [.fr a, .fr b] = .ok false (.bl (decide (a = b))) [.non, .fr b])
    (hord : ∀ (k : Nat) (h : k + 1 < T.length), Φ "_law_row_order" [.fr T[k], .fr T[k + 1]] = .ok false (.int (-1)) [.non, .non]) (hm : ∀ t ∈ T, t ∈ rows) (lT : T.length ≤ 100000) (lR : rows.length ≤ 100000) (s3 s8 : Sl) :
    ∃ s3', exec Φ γ (.for_ (.nm 3) (.rng1 (.op .len [(.pk 7)])) lp_law_5) [s0, s1, s2, s3, s4, .ow (.lst rows), s6, .ow (.lst T), s8, s9, s10] = .nx [s0, s1, s2, s3', s4, .ow (.lst rows), s6, .ow (.lst T), s8, s9, s10] := by
  obtain ⟨s3', k⟩ := for_all (Φ := Φ) (γ := γ) (v := 3) (it := .rng1 (.op .len [(.pk 7)])) (b := lp_law_5) (ls := []) (e := [s0, s1, s2, s3, s4, .ow (.lst rows), s6, .ow (.lst T), s8, s9, s10]) (rng_ev (n := T.length) (len_ev rfl) (by omega)) (fun d hd => by
    obtain ⟨j, hj, rfl⟩ := List.mem_map.mp hd
    rw [List.mem_range] at hj
    show execs Φ γ lp_law_5 [s0, s1, s2, .fr (.int (j : Int)), s4, .ow (.lst rows), s6, .ow (.lst T), s8, s9, s10] = .nx [s0, s1, s2, .fr (.int (j : Int)), s4, .ow (.lst rows), s6, .ow (.lst T), s8, s9, s10]
    have ix : ∀ (n : Nat) (hn : n < T.length), pIdx (.lst T) (.int (n : Int)) = some (false, T[n]) := fun n hn => by
      show (atI T (n : Int)).map _ = _
      rw [atI_nat hn]; rfl
    have lc := lc_pureL (Φ := Φ) (γ := γ) (v := 8) (it := .seq (.pk 5)) (ifs := [(.call "_law_same" [(.op .idx [(.pk 7), (.pk 3)]), (.pk 8)])]) (elt := .var 8) (ds := rows) (ls := [5]) (p := fun r => decide (T[j] = r)) (g := id) (e := [s0, s1, s2, .fr (.int (j : Int)), s4, .ow (.lst rows), s6, .ow (.lst T), s8, s9, s10]) rfl rfl (fun r hr => by
      have i1 : ev Φ γ (.op .idx [(.pk 7), (.pk 3)]) [s0, s1, s2, .fr (.int (j : Int)), s4, .lk (.lst rows), s6, .ow (.lst T), .fr r, s9, s10] = .ok .fr T[j] [s0, s1, s2, .fr (.int (j : Int)), s4, .lk (.lst rows), s6, .ow (.lst T), .fr r, s9, s10] := idxV (Val.pk rfl) (Val.pk rfl) (ix j hj)
      have c := callL2 (Φ := Φ) (γ := γ) (j := 8) ⟨false, i1⟩ rfl rfl rfl (hsame T[j] r (List.getElem_mem hj) hr)
      show (ev Φ γ (.call "_law_same" [(.op .idx [(.pk 7), (.pk 3)]), (.pk 8)]) [s0, s1, s2, .fr (.int (j : Int)), s4, .lk (.lst rows), s6, .ow (.lst T), .fr r, s9, s10]).truth = RT.ok _ _
      rw [c]
      rfl) (fun r hr _ => ⟨false, rfl⟩) (by rw [sizeLine_eq]; omega)
    have ln := opV1 (p := .len) (o := false) (Val.of (o := true) lc) rfl
    have hne : ((rows.filter fun r => decide (T[j] = r)).map id).length ≠ 0 := by
      rw [List.length_map]
      intro z
      have := List.length_eq_zero_iff.mp z
      rw [List.filter_eq_nil_iff] at this
      exact this T[j] (hm _ (List.getElem_mem hj)) (decide_eq_true rfl)
    have t1 := opV2 (p := .eq) (o := false) (Val.of (o := false) ln) (Val.lit (.int 0)) (eq_nat _ 0)
    rw [decide_eq_false hne] at t1
    refine (skip_f t1).trans ?_
    have g := gtZ (Φ := Φ) (γ := γ) (k := j) (i := 3) (e := [s0, s1, s2, .fr (.int (j : Int)), s4, .ow (.lst rows), s6, .ow (.lst T), s8, s9, s10]) rfl
    have b2 : ev Φ γ (.boo true [(.op .gt [(.pk 3), (.lit (.int 0))]), (.op .ne [(.call "_law_row_order" [(.op .idx [(.pk 7), (.op .sub [(.pk 3), (.lit (.int 1))])]), (.op .idx [(.pk 7), (.pk 3)])]), (.op .neg [(.lit (.int 1))])])]) [s0, s1, s2, .fr (.int (j : Int)), s4, .ow (.lst rows), s6, .ow (.lst T), s8, s9, s10] = .ok .fr (.bl false) [s0, s1, s2, .fr (.int (j : Int)), s4, .ow (.lst rows), s6, .ow (.lst T), s8, s9, s10] := by
      by_cases hz : 0 < j
      · obtain ⟨q, rfl⟩ : ∃ q, j = q + 1 := ⟨j - 1, by omega⟩
        rw [decide_eq_true hz] at g
        have sb : ev Φ γ (.op .sub [(.pk 3), (.lit (.int 1))]) [s0, s1, s2, .fr (.int ((q + 1 : Nat) : Int)), s4, .ow (.lst rows), s6, .ow (.lst T), s8, s9, s10] = .ok .fr (.int (q : Int)) [s0, s1, s2, .fr (.int ((q + 1 : Nat) : Int)), s4, .ow (.lst rows), s6, .ow (.lst T), s8, s9, s10] := opV2 (p := .sub) (o := false) (Val.pk rfl) (Val.lit _) (by
          show some (false, D.int (((q + 1 : Nat) : Int) - 1)) = _
          rw [show (((q + 1 : Nat) : Int) - 1) = (q : Int) by omega])
        have i0 : ev Φ γ (.op .idx [(.pk 7), (.op .sub [(.pk 3), (.lit (.int 1))])]) [s0, s1, s2, .fr (.int ((q + 1 : Nat) : Int)), s4, .ow (.lst rows), s6, .ow (.lst T), s8, s9, s10] = .ok .fr T[q] [s0, s1, s2, .fr (.int ((q + 1 : Nat) : Int)), s4, .ow (.lst rows), s6, .ow (.lst T), s8, s9, s10] := idxV (Val.pk rfl) (Val.of (o := false) sb) (ix q (by omega))
        have i1 : ev Φ γ (.op .idx [(.pk 7), (.pk 3)]) [s0, s1, s2, .fr (.int ((q + 1 : Nat) : Int)), s4, .ow (.lst rows), s6, .ow (.lst T), s8, s9, s10] = .ok .fr T[q + 1] [s0, s1, s2, .fr (.int ((q + 1 : Nat) : Int)), s4, .ow (.lst rows), s6, .ow (.lst T), s8, s9, s10] := idxV (Val.pk rfl) (Val.pk rfl) (ix (q + 1) hj)
        have c := callF (Φ := Φ) (γ := γ) (f := "_law_row_order") (es := [(.op .idx [(.pk 7), (.op .sub [(.pk 3), (.lit (.int 1))])]), (.op .idx [(.pk 7), (.pk 3)])]) (ds := [T[q], T[q + 1]]) ⟨⟨false, i0⟩, ⟨false, i1⟩, trivial⟩ (hord q hj)
        have ng : ev Φ γ (.op .neg [(.lit (.int 1))]) [s0, s1, s2, .fr (.int ((q + 1 : Nat) : Int)), s4, .ow (.lst rows), s6, .ow (.lst T), s8, s9, s10] = .ok .fr (.int (-1)) [s0, s1, s2, .fr (.int ((q + 1 : Nat) : Int)), s4, .ow (.lst rows), s6, .ow (.lst T), s8, s9, s10] := opV1 (p := .neg) (o := false) (Val.lit _) rfl
        exact booT g (opV2 (p := .ne) (o := false) (Val.of (o := false) c) (Val.of (o := false) ng) rfl)
      · rw [decide_eq_false hz] at g
        exact booF g
    exact (skip_f b2).trans (by simp only [execs]))
  exact ⟨s3', k⟩
/-- each row is in the answer -/
theorem loop_found (hsame : ∀ a b : D, a ∈ T → b ∈ rows → Φ "_law_same" [.fr a, .fr b] = .ok false (.bl (decide (a = b))) [.non, .fr b]) (hm : ∀ t ∈ rows, t ∈ T) (lT : T.length ≤ 100000) (s3 s8 : Sl) :
    ∃ s8', exec Φ γ (.for_ (.nm 8) (.seq (.pk 5)) lp_law_6) [s0, s1, s2, s3, s4, .ow (.lst rows), s6, .ow (.lst T), s8, s9, s10] = .nx [s0, s1, s2, s3, s4, .ow (.lst rows), s6, .ow (.lst T), s8', s9, s10] := by
  obtain ⟨s8', k⟩ := for_all (Φ := Φ) (γ := γ) (v := 8) (it := .seq (.pk 5)) (b := lp_law_6) (ls := [5]) (ds := rows) (e := [s0, s1, s2, s3, s4, .ow (.lst rows), s6, .ow (.lst T), s8, s9, s10]) rfl (fun d hd => by
    show execs Φ γ lp_law_6 [s0, s1, s2, s3, s4, .lk (.lst rows), s6, .ow (.lst T), .fr d, s9, s10] = .nx [s0, s1, s2, s3, s4, .lk (.lst rows), s6, .ow (.lst T), .fr d, s9, s10]
    have lc := lc_pure (Φ := Φ) (γ := γ) (v := 3) (it := .rng1 (.op .len [(.pk 7)])) (ifs := [(.call "_law_same" [(.op .idx [(.pk 7), (.pk 3)]), (.pk 8)])]) (elt := .var 3) (ls := []) (p := itN fun k => decide (T[k]? = some d)) (g := id) (e := [s0, s1, s2, s3, s4, .lk (.lst rows), s6, .ow (.lst T), .fr d, s9, s10]) (rng_ev (n := T.length) (len_ev rfl) (by omega)) (fun i hi => by cases hi) (fun r hr => by
      obtain ⟨j, hj, rfl⟩ := List.mem_map.mp hr
      rw [List.mem_range] at hj
      have i1 : ev Φ γ (.op .idx [(.pk 7), (.pk 3)]) [s0, s1, s2, .fr (.int (j : Int)), s4, .lk (.lst rows), s6, .ow (.lst T), .fr d, s9, s10] = .ok .fr T[j] [s0, s1, s2, .fr (.int (j : Int)), s4, .lk (.lst rows), s6, .ow (.lst T), .fr d, s9, s10] := idxV (Val.pk rfl) (Val.pk rfl) (by
        show (atI T (j : Int)).map _ = _
        rw [atI_nat hj]; rfl)
      have c := callL2 (Φ := Φ) (γ := γ) (j := 8) ⟨false, i1⟩ rfl rfl rfl (hsame T[j] d (List.getElem_mem hj) hd)
      show (ev Φ γ (.call "_law_same" [(.op .idx [(.pk 7), (.pk 3)]), (.pk 8)]) [s0, s1, s2, .fr (.int (j : Int)), s4, .lk (.lst rows), s6, .ow (.lst T), .fr d, s9, s10]).truth = RT.ok (decide (T[((j : Nat) : Int).toNat]? = some d)) _
      rw [c, Int.toNat_natCast, List.getElem?_eq_getElem hj]
      simp only [Option.some.injEq]
      rfl) (fun r hr _ => ⟨false, by
        obtain ⟨j, hj, rfl⟩ := List.mem_map.mp hr
        rfl⟩) (by rw [List.length_map, List.length_range, sizeLine_eq]; omega)
    have ln := opV1 (p := .len) (o := false) (Val.of (o := true) lc) rfl
    have hne : ((((List.range T.length).map fun (k : Nat) => D.int (k : Int)).filter (itN fun k => decide (T[k]? = some d))).map id).length ≠ 0 := by
      rw [List.length_map]
      intro z
      have := List.length_eq_zero_iff.mp z
      rw [List.filter_eq_nil_iff] at this
      obtain ⟨j, hj, e⟩ := List.getElem_of_mem (hm d hd)
      refine this (.int (j : Int)) (List.mem_map.mpr ⟨j, List.mem_range.mpr hj, rfl⟩) ?_
      show decide (T[((j : Nat) : Int).toNat]? = some d) = true
      rw [Int.toNat_natCast, List.getElem?_eq_getElem hj, e]
      exact decide_eq_true rfl
    have t1 := opV2 (p := .eq) (o := false) (Val.of (o := false) ln) (Val.lit (.int 0)) (eq_nat _ 0)
    rw [decide_eq_false hne] at t1
    exact (skip_f t1).trans (by simp only [execs]))
  exact ⟨s8', k⟩
end
theorem law_run (k : Nat) (ns : List Int) (hl : ns.length ≤ 63) (hb : ∀ z ∈ ns, Builtin.Int.intBits z ≤ 1048576) : ∃ outs, run Tb Ga (k + 61) "law" [.fr (.lst (ns.map .int))] = .ok false (.bl true) outs := by
  rw [run_tab tab_law]
  have hh := script_huge hb
  obtain ⟨dr, d1, d2⟩ := d_draws (γ := Ga) tab_draws 900 (by decide) hl (k + 60) (by omega)
  have hT := c_take (k + 60) (by omega)
  have hP := c_pick (k + 60) (by omega)
  have hN := fun (K : Nat) (seen : List D) (h1 : 23 ≤ K) (h2 : K ≤ 30) (h3 : ∀ v ∈ seen, valW K v) (h4 : seen.length ≤ 1000) => c_near hh (k + 60) (by omega) h1 (by omega) h3 h4
  obtain ⟨seen, dr1, t3, e3, l3, v3, w3⟩ := loop_seen (γ := Ga) (s4 := .non) (s5 := .non) (s6 := .non) (s7 := .non) (s8 := .non) (s9 := .non) (s10 := .non) hN d2
  have hcmp : ∀ a ∈ seen, ∀ b ∈ seen, run Tb Ga (k + 60) "compare_values" [.fr a, .fr b] = .ok false (.int (vcmp a b)) [.non, .non] := fun a ha b hb => c_cmp (k + 60) (by omega) (v3 a ha).isVal (v3 b hb).isVal
  have hord : ∀ a ∈ seen, ∀ b ∈ seen, run Tb Ga (k + 60) "_law_order" [.fr a, .fr b] = .ok false (.int (vcmp a b)) [.non, .non] := fun a ha b hb => c_ord (k + 60) (by omega) (k := 26) (by decide) (v3 a ha) (v3 b hb)
  have hsi : ∀ i : Int, run Tb Ga (k + 60) "_law_same" [.fr (.int i), .fr (.int i)] = .ok false (.bl true) [.non, .fr (.int i)] := fun i => by
    rw [c_same (k + 60) (by omega) ((fit_int i).mono (by decide)) ((fit_int i).mono (by decide)) rfl, decide_eq_true rfl]
  obtain ⟨t4, t10, e4⟩ := loop_cmp (γ := Ga) (scr := .lst (ns.map .int)) (sd := .ow dr1) (seen := seen) (s3 := t3) (s5 := .non) (s6 := .non) (s7 := .non) (s8 := .non) (s9 := .non) hcmp hord hsi
  have hR := fun (rows : List D) (h : ∀ d ∈ rows, rowW 27 d) => c_nearR hh (k + 60) (by omega) (k := 26) (by decide) (by decide) v3 (by omega) h
  obtain ⟨rows, dr2, t3', e6, l6, v6, w6⟩ := loop_rows (γ := Ga) (s4 := t4) (s6 := .non) (s7 := .non) (s8 := .non) (s9 := .non) (s10 := t10) hT hP hR w3 t3
  have hrow : ∀ r ∈ rows, rowV r := fun r hr => (v6 r hr).row
  have sr := c_sr (k + 60) (by omega) hrow (by omega)
  have hu : ∀ u ∈ uniq rows, rowV u := fun u hu => hrow u (uniq_mem.mp hu)
  have mem : ∀ x, x ∈ byKey rkD (uniq rows) ↔ x ∈ rows := fun x => (byKey_mem rkD_inj hu).trans uniq_mem
  have up := byKey_up rkD_inj hu (uniq_nodup rows) (fun u h => (rkD_key h).2.1) (fun u v h1 h2 => by
    obtain ⟨a, rfl, _, ha⟩ := h1
    obtain ⟨b, rfl, _, hb⟩ := h2
    exact rkey_alk ha hb)
  have lT : (byKey rkD (uniq rows)).length ≤ 24 := by rw [byKey_len]; exact Nat.le_trans (uniq_len rows) l6
  generalize hTd : byKey rkD (uniq rows) = T at *
  have hsame : ∀ a b : D, a ∈ T → b ∈ rows → run Tb Ga (k + 60) "_law_same" [.fr a, .fr b] = .ok false (.bl (decide (a = b))) [.non, .fr b] := fun a b ha hb' => c_same (k + 60) (by omega) ((fit_row (hrow a ((mem a).mp ha))).mono (by decide)) ((fit_row (hrow b hb')).mono (by decide)) rfl
  have hro : ∀ (j : Nat) (h : j + 1 < T.length), run Tb Ga (k + 60) "_law_row_order" [.fr T[j], .fr T[j + 1]] = .ok false (.int (-1)) [.non, .non] := fun j h => by
    have q := List.pairwise_iff_getElem.mp up j (j + 1) (by omega) h (by omega)
    rw [c_rord (k + 60) (by omega) (k := 27) (by decide) (v6 _ ((mem _).mp (List.getElem_mem _))) (v6 _ ((mem _).mp (List.getElem_mem _))), if_pos q]
  have hsl : ∀ (L : List D) (s : Sl), (∀ r ∈ L, rowV r) → L.length ≤ 100000 → s.d? = some (.lst L) → run Tb Ga (k + 60) "_law_same" [.fr (.lst L), s] = .ok false (.bl true) [.non, s] := fun L s h1 h2 h3 => by
    rw [c_same (k + 60) (by omega) (fit_rows h1 h2) (fit_rows h1 h2) h3, decide_eq_true rfl]
  have ht : ∀ t ∈ T, rowV t := fun t h => hrow t ((mem t).mp h)
  generalize run Tb Ga (k + 60) = Φ at *
  generalize hscr : D.lst (ns.map .int) = scr at *
  obtain ⟨t3'', e10⟩ := loop_told (Φ := Φ) (γ := Ga) (rows := rows) (T := T) (s0 := .fr scr) (s1 := .ow dr2) (s2 := .ow (.lst seen)) (s4 := t4) (s6 := .fr (.lst rows)) (s9 := .non) (s10 := t10) hsame hro (fun t h => (mem t).mp h) (by omega) (by omega) t3' .non
  obtain ⟨t8, e11⟩ := loop_found (Φ := Φ) (γ := Ga) (rows := rows) (T := T) (s0 := .fr scr) (s1 := .ow dr2) (s2 := .ow (.lst seen)) (s4 := t4) (s6 := .fr (.lst rows)) (s9 := .non) (s10 := t10) hsame (fun t h => (mem t).mpr h) (by omega) t3'' .non
  have e1 : exec Φ Ga (.asg 1 (.call "_law_draws" [(.var 0), (.lit (.int 900))])) [.fr scr, .non, .non, .non, .non, .non, .non, .non, .non, .non, .non] = .nx [.fr scr, .ow dr, .non, .non, .non, .non, .non, .non, .non, .non, .non] := asg1 (o := true) (callF (es := [.var 0, .lit (.int 900)]) (ds := [scr, .int 900]) ⟨argV rfl, argL _, trivial⟩ d1)
  have e2 : exec Φ Ga (.asg 2 (.lst [])) [.fr scr, .ow dr, .non, .non, .non, .non, .non, .non, .non, .non, .non] = .nx [.fr scr, .ow dr, .ow (.lst []), .non, .non, .non, .non, .non, .non, .non, .non] := asg1 (o := true) (lstF (es := []) (ds := []) trivial (Nat.zero_le _))
  have e5 : exec Φ Ga (.asg 5 (.lst [])) [.fr scr, .ow dr1, .ow (.lst seen), t3, t4, .non, .non, .non, .non, .non, t10] = .nx [.fr scr, .ow dr1, .ow (.lst seen), t3, t4, .ow (.lst []), .non, .non, .non, .non, t10] := asg1 (o := true) (lstF (es := []) (ds := []) trivial (Nat.zero_le _))
  have e7 : exec Φ Ga (.asg 6 (.op .list [(.pk 5)])) [.fr scr, .ow dr2, .ow (.lst seen), t3', t4, .ow (.lst rows), .non, .non, .non, .non, t10] = .nx [.fr scr, .ow dr2, .ow (.lst seen), t3', t4, .ow (.lst rows), .ow (.lst rows), .non, .non, .non, t10] := asg1 (o := true) (opV1 (p := .list) (o := true) (Val.pk (i := 5) (d := .lst rows) rfl) (by
    show (if rows.length ≤ sizeLine then some (true, D.lst rows) else none) = _
    rw [if_pos (by rw [sizeLine_eq]; omega)]))
  have e8 : exec Φ Ga (.asg 7 (.call "sorted_rows" [(.var 6)])) [.fr scr, .ow dr2, .ow (.lst seen), t3', t4, .ow (.lst rows), .ow (.lst rows), .non, .non, .non, t10] = .nx [.fr scr, .ow dr2, .ow (.lst seen), t3', t4, .ow (.lst rows), .fr (.lst rows), .ow (.lst T), .non, .non, t10] := asg1 (o := true) (callX (es := [.var 6]) (e2 := [.fr scr, .ow dr2, .ow (.lst seen), t3', t4, .ow (.lst rows), .fr (.lst rows), .non, .non, .non, t10]) rfl rfl sr rfl)
  have sm : ∀ (s3 s7 s8 s9 : Sl), ev Φ Ga (.call "_law_same" [(.var 6), (.pk 5)]) [.fr scr, .ow dr2, .ow (.lst seen), s3, t4, .ow (.lst rows), .fr (.lst rows), s7, s8, s9, t10] = .ok .fr (.bl true) [.fr scr, .ow dr2, .ow (.lst seen), s3, t4, .ow (.lst rows), .fr (.lst rows), s7, s8, s9, t10] := fun s3 s7 s8 s9 => callX (o := false) (es := [.var 6, .pk 5]) rfl rfl (hsl rows (.ow (.lst rows)) hrow (by omega) rfl) rfl
  have e9 : ev Φ Ga (.boo false [(.not_ (.call "_law_same" [(.var 6), (.pk 5)])), (.not_ (.op (.isinst [.tList]) [(.pk 7)]))]) [.fr scr, .ow dr2, .ow (.lst seen), t3', t4, .ow (.lst rows), .fr (.lst rows), .ow (.lst T), .non, .non, t10] = .ok .fr (.bl false) [.fr scr, .ow dr2, .ow (.lst seen), t3', t4, .ow (.lst rows), .fr (.lst rows), .ow (.lst T), .non, .non, t10] := orV (not1 (Val.of (o := false) (sm _ _ _ _))) (not1 (Val.of (o := false) (opV1 (p := .isinst [.tList]) (o := false) (Val.pk (i := 7) (d := .lst T) rfl) rfl)))
  have e12 : exec Φ Ga (.asg 9 (.op .list [(.pk 7)])) [.fr scr, .ow dr2, .ow (.lst seen), t3'', t4, .ow (.lst rows), .fr (.lst rows), .ow (.lst T), t8, .non, t10] = .nx [.fr scr, .ow dr2, .ow (.lst seen), t3'', t4, .ow (.lst rows), .fr (.lst rows), .ow (.lst T), t8, .ow (.lst T), t10] := asg1 (o := true) (opV1 (p := .list) (o := true) (Val.pk (i := 7) (d := .lst T) rfl) (by
    show (if T.length ≤ sizeLine then some (true, D.lst T) else none) = _
    rw [if_pos (by rw [sizeLine_eq]; omega)]))
  have tp : ev Φ Ga (.tup [(.lit (.int 0))]) [.fr scr, .ow dr2, .ow (.lst seen), t3'', t4, .ow (.lst rows), .fr (.lst rows), .ow (.lst T), t8, .ow (.lst T), t10] = .ok .fr (.tup [.int 0]) [.fr scr, .ow dr2, .ow (.lst seen), t3'', t4, .ow (.lst rows), .fr (.lst rows), .ow (.lst T), t8, .ow (.lst T), t10] := tupF (ds := [.int 0]) ⟨argL _, trivial⟩ (by rw [sizeLine_eq]; decide)
  have e13 : exec Φ Ga (.ex (.mu .append 7 [(.tup [(.lit (.int 0))])])) [.fr scr, .ow dr2, .ow (.lst seen), t3'', t4, .ow (.lst rows), .fr (.lst rows), .ow (.lst T), t8, .ow (.lst T), t10] = .nx [.fr scr, .ow dr2, .ow (.lst seen), t3'', t4, .ow (.lst rows), .fr (.lst rows), .ow (.lst (T ++ [.tup [.int 0]])), t8, .ow (.lst T), t10] := app_ev (i := 7) (o := false) tp rfl rfl (by rw [sizeLine_eq]; omega)
  have c2 : ev Φ Ga (.call "sorted_rows" [(.var 6)]) [.fr scr, .ow dr2, .ow (.lst seen), t3'', t4, .ow (.lst rows), .fr (.lst rows), .ow (.lst (T ++ [.tup [.int 0]])), t8, .ow (.lst T), t10] = .ok .ow (.lst T) [.fr scr, .ow dr2, .ow (.lst seen), t3'', t4, .ow (.lst rows), .fr (.lst rows), .ow (.lst (T ++ [.tup [.int 0]])), t8, .ow (.lst T), t10] := callX (o := true) (es := [.var 6]) rfl rfl sr rfl
  have c3 : ev Φ Ga (.call "_law_same" [(.call "sorted_rows" [(.var 6)]), (.pk 9)]) [.fr scr, .ow dr2, .ow (.lst seen), t3'', t4, .ow (.lst rows), .fr (.lst rows), .ow (.lst (T ++ [.tup [.int 0]])), t8, .ow (.lst T), t10] = .ok .fr (.bl true) [.fr scr, .ow dr2, .ow (.lst seen), t3'', t4, .ow (.lst rows), .fr (.lst rows), .ow (.lst (T ++ [.tup [.int 0]])), t8, .ow (.lst T), t10] := callL2 (o := false) (j := 9) ⟨true, c2⟩ rfl rfl rfl (hsl T (.ow (.lst T)) ht (by omega) rfl)
  have e14 := booT (sm t3'' (.ow (.lst (T ++ [.tup [.int 0]]))) t8 (.ow (.lst T))) c3
  have hx : ∃ e', execs Φ Ga fn_law.body (.fr scr :: List.replicate 10 .non) = .rt false (.bl true) e' :=
    ⟨_, (execs_nx e1).trans ((execs_nx e2).trans ((execs_nx e3).trans ((execs_nx e4).trans ((execs_nx e5).trans ((execs_nx e6).trans ((execs_nx e7).trans ((execs_nx e8).trans ((skip_f e9).trans ((execs_nx e10).trans ((execs_nx e11).trans ((execs_nx e12).trans ((execs_nx e13).trans (execs_rt (ret1 (o := false) e14))))))))))))))⟩
  obtain ⟨e', hx⟩ := hx
  exact ⟨_, fn_rt (fn := fn_law) (as := [.fr scr]) rfl hx⟩
end PF
set_option Elab.async false
set_option linter.all false
set_option maxRecDepth 100000
set_option maxHeartbeats 0
namespace PF
open PySem PySem.Spec PyProof.Rows L2
abbrev R : PySem.W.OpenRow := PySem.W.OpenLaw.row PySem.Challenge.rw_anyworth_k28_order_of_values
abbrev hk : PySem.W.Hook := hookC 4 (faOf dfs bns) (dfs.map Df.he) (csB csts)
def obL (s : PySem.W.SharedT) : AlC := obsCG 4 (faOf dfs bns) (dfs.map Df.he) (csB csts) (HandSHeadRun.getT s)
theorem obL_eq (s : PySem.W.SharedT) : obL s = hk.obs s.abs := obsCG_eq (HandSHeadRun.getT_eq s)
abbrev loose : List Str := [("value_key" : Str), ("row_key" : Str), ("compare_values" : Str), ("sorted_rows" : Str), ("_law_draws" : Str), ("_law_take" : Str), ("_law_pick" : Str), ("_law_size" : Str), ("_law_same" : Str), ("_law_words" : Str), ("_law_number" : Str), ("_law_near_value" : Str), ("_law_order" : Str), ("_law_row_order" : Str), ("_law_near_row" : Str)]
theorem run_ (w : World) : HandSHeadRun.RunEq R (PySem.W.view R.prog [17]) hk obL 4000 loose w := by
  intro os
  kernel_rfl
theorem plain (ns : List Int) (hl : ns.length ≤ 63) (hb : ∀ z ∈ ns, Builtin.Int.intBits z ≤ 1048576) : ∃ outs, PF.run (tabOf dfs) (γOf csts) (99 + 1) "law" [.fr (.lst (ns.map .int))] = .ok false (.bl true) outs := law_run 39 ns hl hb
end PF
open PySem PySem.W PySem.Calls PyProof.Rows
theorem PySem.Challenge.cw_anyworth_k28_order_of_values_holds : PySem.Challenge.rw_anyworth_k28_order_of_values.Holds := by
  w_on; o_law
  refine HandSHeadRun.head_any (r := OpenLaw.row PySem.Challenge.rw_anyworth_k28_order_of_values) (q := view (OpenLaw.row PySem.Challenge.rw_anyworth_k28_order_of_values).prog [17]) (H := PF.hk) (ob := PF.obL) (M := 4000) (loose := PF.loose) (d := HandSHeadRun.topDef (OpenLaw.row PySem.Challenge.rw_anyworth_k28_order_of_values).prog 17) (kwd := []) PF.obL_eq
    (by kernel_rfl) (fun s => by kernel_rfl) PF.run_ (by kernel_rfl) (by kernel_rfl) (by kernel_rfl) (by rfl) (by first | assumption | decide +kernel) (by decide +kernel) ⟨rfl, rfl, rfl, rfl, rfl, by decide +kernel⟩ ?hw ?hc
  case hw => w_witness2
  case hc =>
    exact PF.pf_walk (l := PySem.Challenge.rw_anyworth_k28_order_of_values) (n := 63) (k := 99) (nH := 4) (ds := PF.dfs) (bns := PF.bns) (cs := PF.csts) (x := "_law_script") (dl := PF.df_law) rfl (by decide) (by kernel_rfl) ⟨rfl, by decide, by decide⟩ (by kernel_rfl) rfl rfl PF.oks PF.binds PF.plain
