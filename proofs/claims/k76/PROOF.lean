import PyProof.Rows.All
import Wide.All
import OpenK.AllK
import Wide.FinOn
import HandS.ForMost
import HandS.ForExc
import HandS.Walk
import HandS.Style
import HandS.TupAny
import HandS.TupMul
import HandS.Zip
import HandS.Gcd
import KE.KTupSum
import HandS.Codes
import HandS.Conv
import HandS.Flow
import HandS.DictComp
import HandS.Small
import HandS.More
import KE.DataEq
import KE.DataCmp
import KE.DataIsa
import KE.DataMinMax
import KE.SortData
import KE.DatumOrd
import KE.DatumMore
import KE.DatumMoreOrd
import KE.KDictKeyed
import HandS.RaiseMore
import KE.GoesNew
import HandS.EndBits
import PyProof.ReprBulk
import PySem.Challenge.RW_carpentersyard_k76_whole_rows_of_planks
set_option Elab.async false
set_option linter.all false
set_option maxRecDepth 100000
/-! A small language of plain data and what its terms are worth: the text of a def is turned into it (trE ..), and the model's run of the def is shown to give what it is worth. -/
namespace PyI
open PySem
abbrev D := PyData
abbrev Ev := List (Option D)
def LIM : Nat := 16777216
def DEP : Nat := 60

inductive Prim where
  | add | sub | mul | fdiv | mod | pow | neg
  | eq | ne | lt | le | gt | ge | isin | notin
  | isN | notN | isB | notB
  | tup | lst | ix | sl (lo hi : Bool) | rev
  | len | sum | min1 | max1 | min2 | max2 | gcd2 | sorted | tuple | list | abs | all | any | int | str | repr | range1 | range2 | trange1 | trange2
  | iInt | iBool | iStr | iTup | iList
  | count | index | join | get1 | get2 | values | items | lenset | dict | disp (n : Nat) | addL | mulL | dvals | dictP
  deriving DecidableEq

inductive ItK where
  | seq | rng1 | rng2 | rng3 | enum | zip | zip3 | items | values
  deriving DecidableEq

inductive T where
  | nm (i : Nat)
  | tp (ts : List T)

inductive E where
  | var (i : Nat)
  | con (d : D)
  | prim (p : Prim) (es : List E)
  | not (a : E)
  | and (a b : E)
  | or (a b : E)
  | ite (c a b : E)
  | chain (p q : Prim) (a b c : E)
  | call (f : Nat) (chk : Bool) (es : List E)
  | callC (f : Nat) (es : List E)
  | comp (k : ItK) (srcs : List E) (tg : T) (own : List Nat) (cond elt : E)
  | comp2 (k : ItK) (srcs : List E) (tg : T) (own : List Nat) (cond : E) (k2 : ItK) (srcs2 : List E) (tg2 : T) (own2 : List Nat) (cond2 elt : E)
  | dcomp (k : ItK) (srcs : List E) (tg : T) (own : List Nat) (cond key val : E)

inductive S where
  | asg (t : T) (e : E)
  | own (i : Nat) (e : E)
  | par (is : List Nat) (es : List E)
  | aug (i : Nat) (p : Prim) (e : E)
  | ext (i : Nat) (e : E)
  | app (i : Nat) (e : E)
  | appMv (i j : Nat)
  | mv (i j : Nat)
  | appPopMv (i j : Nat) (e : E)
  | appPop (i j : Nat) (e : E)
  | putL (i : Nat) (k e : E)
  | putD (i : Nat) (k e : E)
  | forO (i : Nat) (tg : T) (body : List S)
  | popL (t : T) (j : Nat) (e : E)
  | popE (t : T) (j : Nat)
  | upd (i : Nat) (e : E)
  | rem (i : Nat) (e : E)
  | expr (e : E)
  | ret (e : E)
  | pass
  | brk
  | cnt
  | ifs (c : E) (a b : List S)
  | for (k : ItK) (srcs : List E) (tg : T) (body : List S)
  | while (c : E) (body : List S)
  | never

inductive Fl where
  | nx | bk | ct
  | rt (d : D)

/-! ### operations on data -/
def dep2 (a b : D) : Bool := decide (min a.depth b.depth ≤ DEP)
def addD : D → D → Option D
  | .int i, .int j => some (.int (i + j))
  | .str x, .str y => if x.length + y.length ≤ LIM then some (.str (x ++ y)) else none
  | .list xs, .list ys => if xs.length + ys.length ≤ LIM then some (.list (xs ++ ys)) else none
  | .tuple xs, .tuple ys => if xs.length + ys.length ≤ LIM then some (.tuple (xs ++ ys)) else none
  | _, _ => none
def subD : D → D → Option D
  | .int i, .int j => some (.int (i - j))
  | _, _ => none
def smallI (i : Int) : Bool := decide (-(2 ^ 64) < i ∧ i < 2 ^ 64)
def repL (xs : List D) (k : Nat) : List D := (List.replicate k xs).flatten
def mulD : D → D → Option D
  | .int i, .int j => if (smallI i || smallI j) = true then some (.int (i * j)) else none
  | .list xs, .int k => if -(2 ^ 63) ≤ k ∧ k ≤ LIM ∧ xs.length * k.toNat ≤ LIM then some (.list (repL xs k.toNat)) else none
  | .tuple xs, .int k => if -1000 ≤ k ∧ k ≤ 1000 ∧ xs.length ≤ 1000 then some (.tuple (repL xs k.toNat)) else none
  | _, _ => none
def fdivD : D → D → Option D
  | .int i, .int j => if 0 < j ∧ j < 1073741824 then some (.int (i / j)) else none
  | _, _ => none
def modD : D → D → Option D
  | .int i, .int j => if 0 < j then some (.int (i % j)) else none
  | _, _ => none
def powD : D → D → Option D
  | .int i, .int j => if 0 ≤ j ∧ j ≤ 1000000 ∧ i.natAbs < 2 ^ 64 then some (.int (i ^ j.toNat)) else none
  | _, _ => none
def negD : D → Option D
  | .int i => some (.int (-i))
  | _ => none
def eqD (a b : D) : Option Bool := if (a.plain && b.plain && dep2 a b) = true then some (PyData.eqv a b) else none
def notNone : D → Bool
  | .none => false
  | _ => true
def isNone : D → Bool
  | .none => true
  | _ => false
def cmpOk (a b : D) : Bool := a.plain && b.plain && W.alike a b && notNone a && dep2 a b
def ltD (a b : D) : Option Bool := if cmpOk a b = true then some (W.dataLt a b) else none
def leD (a b : D) : Option Bool := if cmpOk a b = true then some (!W.dataLt b a) else none
def gtD (a b : D) : Option Bool := if cmpOk a b = true then some (W.dataLt b a) else none
def geD (a b : D) : Option Bool := if cmpOk a b = true then some (!W.dataLt a b) else none
def isLst : D → Bool
  | .list _ => true
  | _ => false
/-- the keys that a dict may have -/
def keyOf : D → Option (Int ⊕ Str)
  | .int i => some (.inl i)
  | .str x => some (.inr x)
  | _ => none
def findKv (kvs : List (D × D)) (k : D) : Option D := (kvs.find? fun p => decide (keyOf p.1 = keyOf k)).map (·.2)
def inOk (x : D) (xs : List D) : Bool := x.plain && PyData.plainAll xs && decide (min (PyData.depthAll xs) x.depth ≤ DEP)
def inD : D → D → Option Bool
  | x, .list xs => if inOk x xs = true then some (xs.any fun y => PyData.eqv y x) else none
  | x, .tuple xs => if inOk x xs = true then some (xs.any fun y => PyData.eqv y x) else none
  | x, .dict kvs => (keyOf x).map fun _ => (findKv kvs x).isSome
  | _, _ => none
def ixD : D → D → Option D
  | .list xs, .int i => L2.atI xs i
  | .tuple xs, .int i => L2.atI xs i
  | .dict kvs, k => (keyOf k).bind fun _ => findKv kvs k
  | _, _ => none
def cutL {α : Type} (xs : List α) (lo hi : Option Int) : List α := (xs.drop (HT.sIx xs.length 0 lo)).take (HT.sIx xs.length xs.length hi - HT.sIx xs.length 0 lo)
def slD (lo hi : Option Int) : D → Option D
  | .list xs => some (.list (cutL xs lo hi))
  | .tuple xs => some (.tuple (cutL xs lo hi))
  | _ => none
def revD : D → Option D
  | .list xs => some (.list xs.reverse)
  | .tuple xs => some (.tuple xs.reverse)
  | _ => none
def lenD : D → Option D
  | .list xs => some (.int xs.length)
  | .tuple xs => some (.int xs.length)
  | .str x => if x.length ≤ LIM then some (.int x.length) else none
  | .dict kvs => some (.int kvs.length)
  | _ => none
def intsOf : List D → Option (List Int)
  | [] => some []
  | .int i :: r => (intsOf r).map (i :: ·)
  | _ :: _ => none
def boolsOf : List D → Option (List Bool)
  | [] => some []
  | .bool i :: r => (boolsOf r).map (i :: ·)
  | _ :: _ => none
def sumD : D → Option D
  | .list xs => (intsOf xs).map fun ns => .int ns.sum
  | .tuple xs => (intsOf xs).map fun ns => .int ns.sum
  | _ => none
def seqOf : D → Option (List D)
  | .list xs => some xs
  | .tuple xs => some xs
  | _ => none
def alikeB (xs : List D) : Bool := PyData.plainAll xs && (xs.all fun x => xs.all fun y => W.alike x y) && xs.all notNone && decide (PyData.depthAll xs ≤ DEP)
def min1D (d : D) : Option D := (seqOf d).bind fun xs => match xs with
  | [] => none
  | x :: r => if alikeB (x :: r) = true then some (W.minD x r) else none
def max1D (d : D) : Option D := (seqOf d).bind fun xs => match xs with
  | [] => none
  | x :: r => if alikeB (x :: r) = true then some (W.maxD x r) else none
def min2D : D → D → Option D
  | .int i, .int j => some (.int (if j < i then j else i))
  | _, _ => none
def max2D : D → D → Option D
  | .int i, .int j => some (.int (if j > i then j else i))
  | _, _ => none
def gcdD : D → D → Option D
  | .int i, .int j => some (.int ((Nat.gcd i.natAbs j.natAbs : Nat) : Int))
  | _, _ => none
def isTupC : D → Bool
  | .tuple (_ :: _) => true
  | _ => false
def noTup : D → Bool
  | .tuple _ => false
  | .none => false
  | _ => true
def sortD (xs : List D) : List D := xs.mergeSort (W.dataLe false id)
def isTup : D → Bool
  | .tuple _ => true
  | _ => false
def tupE : List D → Bool
  | .tuple [] :: r => r.all isTup
  | _ => false
def sortOk (xs : List D) : Bool := alikeB xs && (xs.all isTupC || xs.all noTup || tupE xs)
def intsUp (ns : List Int) : List Int := ns.mergeSort fun a b => decide (a ≤ b)
/-- sorted(d), d a dict whose keys are numbers -/
def sortedK (kvs : List (D × D)) : Option D := (intsOf (kvs.map (·.1))).bind fun ns => if ns.length < 64 then some (.list ((intsUp ns).map .int)) else none
def sortedD : D → Option D
  | .dict kvs => sortedK kvs
  | d => (seqOf d).bind fun xs => if sortOk xs = true then some (.list (sortD xs)) else none
def get1D : D → D → Option D
  | .dict kvs, k => (keyOf k).map fun _ => (findKv kvs k).getD .none
  | _, _ => none
def get2D : D → D → D → Option D
  | .dict kvs, k, x => (keyOf k).map fun _ => (findKv kvs k).getD x
  | _, _, _ => none
def tupleD (d : D) : Option D := (seqOf d).map .tuple
def listD (d : D) : Option D := (seqOf d).map .list
def dedupI (ns : List Int) : List Int := ns.foldl (fun acc x => if (acc.any fun y => y == x) = true then acc else acc ++ [x]) []
def lensetD : D → Option D
  | .list xs => (intsOf xs).bind fun ns => if ns.length < 64 then some (.int (dedupI ns).length) else none
  | _ => none
def absD : D → Option D
  | .int i => some (.int (if i < 0 then -i else i))
  | _ => none
def strD : D → Option D
  | .str x => some (.str x)
  | .int i => if i.natAbs.log2 < 1920 then some (.str (toString i)) else none
  | _ => none
def allD : D → Option D
  | .list xs => (boolsOf xs).map fun bs => .bool (bs.all id)
  | _ => none
def anyD : D → Option D
  | .list xs => (boolsOf xs).map fun bs => .bool (bs.any id)
  | _ => none
def intD : D → Option D
  | .int i => some (.int i)
  | .bool b => some (.int (if b then 1 else 0))
  | _ => none
def rangeL (lo : Int) (n : Nat) : List D := (List.range n).map fun (i : Nat) => .int (lo + i)
def reprOk (a : D) : Bool := a.plain && a.showable && decide (a.depth ≤ DEP) && decide (a.shown.length ≤ LIM)
def reprD (a : D) : Option D := if reprOk a = true then some (.str a.shown) else none
def bb (o : Option Bool) : Option D := o.map .bool
def isBD : D → D → Option Bool
  | .bool a, .bool b => some (decide (a = b))
  | _, _ => none
def pairL (xs ys : List D) : List D := List.zipWith (fun a b => .tuple [a, b]) xs ys
/-- what is walked -/
def itSeq : List D → Option (List D)
  | [d] => seqOf d
  | _ => none
def itRng1 : List D → Option (List D)
  | [.int n] => if -(LIM : Int) ≤ n ∧ n ≤ LIM then some (rangeL 0 n.toNat) else none
  | _ => none
def itRng2 : List D → Option (List D)
  | [.int i, .int j] => if -(LIM : Int) ≤ i ∧ i ≤ LIM ∧ -(LIM : Int) ≤ j ∧ j ≤ LIM ∧ j - i ≤ LIM then some (rangeL i (j - i).toNat) else none
  | _ => none
def itEnum : List D → Option (List D)
  | [d] => (seqOf d).bind fun xs => if xs.length ≤ LIM then some (pairL (rangeL 0 xs.length) xs) else none
  | _ => none
def rangeC (lo c : Int) (n : Nat) : List D := (List.range n).map fun (i : Nat) => .int (lo + (i : Int) * c)
def itRng3 : List D → Option (List D)
  | [.int i, .int j, .int c] => if c ≠ 0 ∧ c.natAbs < 1073741824 ∧ Builtin.Range.small i j c = true ∧ 0 ≤ Builtin.Range.rangeSize i j c ∧ Builtin.Range.rangeSize i j c ≤ 16777216 then some (rangeC i c (Builtin.Range.rangeSize i j c).toNat) else none
  | _ => none
def itZip : List D → Option (List D)
  | [a, b] => (seqOf a).bind fun xs => (seqOf b).bind fun ys => if xs.length ≤ LIM then some (pairL xs ys) else none
  | _ => none
def tripL (xs ys zs : List D) : List D := List.zipWith (fun (p : D × D) z => .tuple [p.1, p.2, z]) (List.zip xs ys) zs
def itZip3 : List D → Option (List D)
  | [a, b, c] => (seqOf a).bind fun xs => (seqOf b).bind fun ys => (seqOf c).bind fun zs => if xs.length ≤ LIM then some (tripL xs ys zs) else none
  | _ => none
def items : ItK → List D → Option (List D)
  | .seq, ds => itSeq ds
  | .rng1, ds => itRng1 ds
  | .rng2, ds => itRng2 ds
  | .rng3, ds => itRng3 ds
  | .enum, ds => itEnum ds
  | .zip, ds => itZip ds
  | .zip3, ds => itZip3 ds
  | _, _ => none

/-- + and * of lists: a new list -/
def addLD : D → D → Option D
  | .list xs, .list ys => addD (.list xs) (.list ys)
  | _, _ => none
def mulLD : D → D → Option D
  | .list xs, .int k => mulD (.list xs) (.int k)
  | _, _ => none
/-- [d[n] for n in d] -/
def dvalsD : D → Option D
  | .dict kvs => if kvs.length ≤ LIM then some (.list (kvs.filterMap fun p => findKv kvs p.1)) else none
  | _ => none
def pairsOf : List D → Option (List (D × D))
  | [] => some []
  | .tuple [k, v] :: r => if (keyOf k).isSome = true then (pairsOf r).map fun ps => (k, v) :: ps else none
  | _ => none
def putKvE (kvs : List (D × D)) (k v : D) : List (D × D) :=
  if (kvs.any fun p => decide (keyOf p.1 = keyOf k)) = true then kvs.map (fun p => if keyOf p.1 = keyOf k then (p.1, v) else p) else kvs ++ [(k, v)]
/-- dict(xs), xs a list of pairs -/
def dictPD : D → Option D
  | .list xs => (pairsOf xs).map fun ps => .dict (ps.foldl (fun d p => putKvE d p.1 p.2) [])
  | _ => none
/-- what a primitive is worth -/
def prim : Prim → List D → Option D
  | .add, [a, b] => addD a b
  | .sub, [a, b] => subD a b
  | .mul, [a, b] => mulD a b
  | .fdiv, [a, b] => fdivD a b
  | .mod, [a, b] => modD a b
  | .pow, [a, b] => powD a b
  | .neg, [a] => negD a
  | .eq, [a, b] => bb (eqD a b)
  | .ne, [a, b] => bb ((eqD a b).map (!·))
  | .lt, [a, b] => bb (ltD a b)
  | .le, [a, b] => bb (leD a b)
  | .gt, [a, b] => bb (gtD a b)
  | .ge, [a, b] => bb (geD a b)
  | .isin, [a, b] => bb (inD a b)
  | .notin, [a, b] => bb ((inD a b).map (!·))
  | .isN, [a, .none] => some (.bool (isNone a))
  | .notN, [a, .none] => some (.bool (!isNone a))
  | .isB, [a, b] => bb (isBD a b)
  | .notB, [a, b] => bb ((isBD a b).map (!·))
  | .tup, ds => some (.tuple ds)
  | .lst, ds => some (.list ds)
  | .ix, [a, i] => ixD a i
  | .sl false false, [a] => slD none none a
  | .sl true false, [a, .int i] => slD (some i) none a
  | .sl false true, [a, .int j] => slD none (some j) a
  | .sl true true, [a, .int i, .int j] => slD (some i) (some j) a
  | .rev, [a] => revD a
  | .len, [a] => lenD a
  | .sum, [a] => sumD a
  | .min1, [a] => min1D a
  | .max1, [a] => max1D a
  | .min2, [a, b] => min2D a b
  | .max2, [a, b] => max2D a b
  | .gcd2, [a, b] => gcdD a b
  | .sorted, [a] => sortedD a
  | .tuple, [a] => tupleD a
  | .list, [a] => listD a
  | .abs, [a] => absD a
  | .all, [a] => allD a
  | .any, [a] => anyD a
  | .int, [a] => intD a
  | .str, [a] => strD a
  | .lenset, [a] => lensetD a
  | .dict, [] => some (.dict [])
  | .get1, [a, k] => get1D a k
  | .get2, [a, k, x] => get2D a k x
  | .repr, [a] => reprD a
  | .trange1, ds => (itRng1 ds).map .tuple
  | .trange2, ds => (itRng2 ds).map .tuple
  | .iInt, [a] => if a.plain = true then some (.bool a.isInt) else none
  | .iBool, [a] => if a.plain = true then some (.bool a.isBool) else none
  | .iStr, [a] => if a.plain = true then some (.bool a.isStr) else none
  | .iTup, [a] => if a.plain = true then some (.bool a.isTuple) else none
  | .iList, [a] => if a.plain = true then some (.bool a.isList) else none
  | .range1, ds => (itRng1 ds).map .list
  | .range2, ds => (itRng2 ds).map .list
  | .addL, [a, b] => addLD a b
  | .mulL, [a, b] => mulLD a b
  | .dvals, [a] => dvalsD a
  | .dictP, [a] => dictPD a
  | _, _ => none

/-! ### targets -/
mutual
def bindT : T → D → Ev → Option Ev
  | .nm i, d, env => if i < env.length then some (env.set i (some d)) else none
  | .tp ts, .tuple ds, env => bindTs ts ds env
  | .tp _, _, _ => none
def bindTs : List T → List D → Ev → Option Ev
  | [], [], env => some env
  | t :: ts, d :: ds, env => (bindT t d env).bind fun env' => bindTs ts ds env'
  | _, _, _ => none
end
def wipeE (env : Ev) : List Nat → Ev
  | [] => env
  | v :: vs => (wipeE env vs).set v none
def asB : D → Option Bool
  | .bool b => some b
  | _ => none
mutual
def flat : D → Bool
  | .list _ => false
  | .dict _ => false
  | .tuple xs => flatAll xs
  | _ => true
def flatAll : List D → Bool
  | [] => true
  | x :: xs => flat x && flatAll xs
end
/-- a walk that keeps some results -/
def compL (f : D → D → Option (Option D × D)) : List D → D → Option (List D × D)
  | [], w => some ([], w)
  | x :: xs, w => (f x w).bind fun p => (compL f xs p.2).map fun q => (p.1.toList ++ q.1, q.2)
/-- .. lists of results -/
def compLs (f : D → D → Option (List D × D)) : List D → D → Option (List D × D)
  | [], w => some ([], w)
  | x :: xs, w => (f x w).bind fun p => (compLs f xs p.2).map fun q => (p.1 ++ q.1, q.2)

abbrev CallF := Nat → List D → D → Option (D × D)
section
variable (call : CallF)
mutual
def ev : E → Ev → D → Option (D × D)
  | .var i, env, w => match env[i]? with
    | some (some d) => some (d, w)
    | _ => none
  | .con d, _, w => some (d, w)
  | .prim p es, env, w => (evs es env w).bind fun r => (prim p r.1).map fun d => (d, r.2)
  | .not a, env, w => (ev a env w).bind fun r => (asB r.1).map fun b => (.bool (!b), r.2)
  | .and a b, env, w => (ev a env w).bind fun r => (asB r.1).bind fun c => if c = true then ev b env r.2 else some (.bool false, r.2)
  | .or a b, env, w => (ev a env w).bind fun r => (asB r.1).bind fun c => if c = true then some (.bool true, r.2) else ev b env r.2
  | .ite c a b, env, w => (ev c env w).bind fun r => (asB r.1).bind fun k => if k = true then ev a env r.2 else ev b env r.2
  | .chain p q a b c, env, w => (ev a env w).bind fun r => (ev b env r.2).bind fun s => (prim p [r.1, s.1]).bind fun d => (asB d).bind fun k => if k = true then (ev c env s.2).bind fun t => (prim q [s.1, t.1]).map fun d => (d, t.2) else some (.bool false, s.2)
  | .call f chk es, env, w => (evs es env w).bind fun r => (call f r.1 .none).bind fun q => if (chk && !flat q.1) = true then none else some (q.1, r.2)
  | .callC f es, env, w => (evs es env w).bind fun r => call f r.1 r.2
  | .comp k srcs tg own cond elt, env, w => (evs srcs env w).bind fun r => (items k r.1).bind fun xs =>
      (compL (fun x w => (bindT tg x (wipeE env own)).bind fun env' => (ev cond env' w).bind fun c => (asB c.1).bind fun b =>
        if b = true then (ev elt env' c.2).map fun y => (some y.1, y.2) else some (none, c.2)) xs r.2).map fun q => (.list q.1, q.2)
  | .comp2 k srcs tg own cond k2 srcs2 tg2 own2 cond2 elt, env, w => (evs srcs env w).bind fun r => (items k r.1).bind fun xs =>
      (compLs (fun x w => (bindT tg x (wipeE env own)).bind fun env1 => (ev cond env1 w).bind fun c => (asB c.1).bind fun b =>
        if b = true then (evs srcs2 env1 c.2).bind fun r2 => (items k2 r2.1).bind fun ys =>
          compL (fun y w => (bindT tg2 y (wipeE env1 own2)).bind fun env2 => (ev cond2 env2 w).bind fun c2 => (asB c2.1).bind fun b2 =>
            if b2 = true then (ev elt env2 c2.2).map fun y => (some y.1, y.2) else some (none, c2.2)) ys r2.2
        else some ([], c.2)) xs r.2).bind fun q => if q.1.length ≤ LIM then some (.list q.1, q.2) else none
  | .dcomp _ _ _ _ _ _ _, _, _ => none
def evs : List E → Ev → D → Option (List D × D)
  | [], _, w => some ([], w)
  | e :: es, env, w => (ev e env w).bind fun r => (evs es env r.2).map fun q => (r.1 :: q.1, q.2)
end
/-! ### statements -/
/-- a loop over items -/
def forL (f : D → Ev → D → Option (Fl × Ev × D)) : List D → Ev → D → Option (Fl × Ev × D)
  | [], env, w => some (.nx, env, w)
  | x :: xs, env, w => (f x env w).bind fun r => match r.1 with
    | .nx => forL f xs r.2.1 r.2.2
    | .ct => forL f xs r.2.1 r.2.2
    | .bk => some (.nx, r.2.1, r.2.2)
    | .rt d => some (.rt d, r.2.1, r.2.2)
def whileL (c : Ev → D → Option (Bool × D)) (f : Ev → D → Option (Fl × Ev × D)) : Nat → Ev → D → Option (Fl × Ev × D)
  | 0, _, _ => none
  | n + 1, env, w => (c env w).bind fun b => if b.1 = true then (f env b.2).bind fun r => match r.1 with
      | .nx => whileL c f n r.2.1 r.2.2
      | .ct => whileL c f n r.2.1 r.2.2
      | .bk => some (.nx, r.2.1, r.2.2)
      | .rt d => some (.rt d, r.2.1, r.2.2)
    else some (.nx, env, b.2)
def FUEL : Nat := 2 ^ 40
def setE (env : Ev) (i : Nat) (d : D) : Option Ev := if i < env.length then some (env.set i (some d)) else none
def getE (env : Ev) (i : Nat) : Option D := match env[i]? with
  | some (some d) => some d
  | _ => none
def setsE : Ev → List Nat → List D → Option Ev
  | env, [], [] => some env
  | env, i :: is, d :: ds => (setE env i d).bind fun env' => setsE env' is ds
  | _, _, _ => none
def appD : D → D → Option D
  | .list xs, d => if xs.length < LIM then some (.list (xs ++ [d])) else none
  | _, _ => none
def putKv (kvs : List (D × D)) (k v : D) : List (D × D) :=
  if (kvs.any fun p => decide (keyOf p.1 = keyOf k)) = true then kvs.map (fun p => if keyOf p.1 = keyOf k then (p.1, v) else p) else kvs ++ [(k, v)]
def putD : D → D → D → Option D
  | .list xs, .int i, d => (L2.ixN xs.length i).map fun j => .list (xs.set j d)
  | .dict kvs, k, d => (keyOf k).bind fun _ => if kvs.length < LIM then some (.dict (putKv kvs k d)) else none
  | _, _, _ => none
def popD : D → D → Option (D × D)
  | .list xs, .int i => if xs.length ≤ LIM then (L2.ixN xs.length i).bind fun j => (xs[j]?).map fun x => (x, .list (xs.eraseIdx j)) else none
  | _, _ => none
def popE : D → Option (D × D)
  | .list xs => (xs[xs.length - 1]?).map fun x => (x, .list xs.dropLast)
  | _ => none
def extD : D → D → Option D
  | .list xs, .list ys => if xs.length + ys.length ≤ LIM then some (.list (xs ++ ys)) else none
  | _, _ => none
mutual
def ex : S → Ev → D → Option (Fl × Ev × D)
  | .asg t e, env, w => (ev call e env w).bind fun r => (bindT t r.1 env).map fun env' => (.nx, env', r.2)
  | .own i e, env, w => (ev call e env w).bind fun r => (setE env i r.1).map fun env' => (.nx, env', r.2)
  | .par is es, env, w => (evs call es env w).bind fun r => (setsE env is r.1).map fun env' => (.nx, env', r.2)
  | .aug i p e, env, w => (getE env i).bind fun x => (ev call e env w).bind fun r => (if isLst x = true then none else prim p [x, r.1]).bind fun y => (setE env i y).map fun env' => (.nx, env', r.2)
  | .ext i e, env, w => (ev call e env w).bind fun r => (getE env i).bind fun x => (extD x r.1).bind fun y => (setE env i y).map fun env' => (.nx, env', r.2)
  | .app i e, env, w => (ev call e env w).bind fun r => (getE env i).bind fun x => (appD x r.1).bind fun y => (setE env i y).map fun env' => (.nx, env', r.2)
  | .appPop i j e, env, w => (ev call e env w).bind fun r => (getE env j).bind fun xs => (popD xs r.1).bind fun q => (setE env j q.2).bind fun env1 =>
      (getE env1 i).bind fun x => (appD x q.1).bind fun y => (setE env1 i y).map fun env' => (.nx, env', r.2)
  | .appMv i j, env, w => (getE env j).bind fun d => (getE env i).bind fun x => (appD x d).bind fun y => (setE env i y).map fun env' => (.nx, env'.set j none, w)
  | .mv i j, env, w => (getE env j).bind fun d => (setE (env.set j none) i d).map fun env' => (.nx, env', w)
  | .appPopMv _ _ _, _, _ => none
  | .putL i k e, env, w => (ev call e env w).bind fun r => (ev call k env r.2).bind fun q => (getE env i).bind fun x => match x with
    | .list xs => (putD (.list xs) q.1 r.1).bind fun y => (setE env i y).map fun env' => (.nx, env', q.2)
    | .dict xs => (putD (.dict xs) q.1 r.1).bind fun y => (setE env i y).map fun env' => (.nx, env', q.2)
    | _ => none
  | .putD i k e, env, w => (ev call e env w).bind fun r => (ev call k env r.2).bind fun q => (getE env i).bind fun x => match x with
    | .dict xs => (putD (.dict xs) q.1 r.1).bind fun y => (setE env i y).map fun env' => (.nx, env', q.2)
    | _ => none
  | .forO _ _ _, _, _ => none
  | .popL t j e, env, w => (ev call e env w).bind fun r => (getE env j).bind fun xs => (popD xs r.1).bind fun q => (setE env j q.2).bind fun env1 => (bindT t q.1 env1).map fun env' => (.nx, env', r.2)
  | .popE t j, env, w => (getE env j).bind fun xs => (popE xs).bind fun q => (setE env j q.2).bind fun env1 => (bindT t q.1 env1).map fun env' => (.nx, env', w)
  | .upd _ _, _, _ => none
  | .rem _ _, _, _ => none
  | .expr e, env, w => (ev call e env w).map fun r => (.nx, env, r.2)
  | .ret e, env, w => (ev call e env w).map fun r => (.rt r.1, env, r.2)
  | .pass, env, w => some (.nx, env, w)
  | .brk, env, w => some (.bk, env, w)
  | .cnt, env, w => some (.ct, env, w)
  | .ifs c a b, env, w => (ev call c env w).bind fun r => (asB r.1).bind fun k => if k = true then exs a env r.2 else exs b env r.2
  | .for k srcs tg body, env, w => (evs call srcs env w).bind fun r => (items k r.1).bind fun xs => forL (fun x env w => (bindT tg x env).bind fun env' => exs body env' w) xs env r.2
  | .while c body, env, w => whileL (fun env w => (ev call c env w).bind fun r => (asB r.1).map fun b => (b, r.2)) (fun env w => exs body env w) FUEL env w
  | .never, _, _ => none
def exs : List S → Ev → D → Option (Fl × Ev × D)
  | [], env, w => some (.nx, env, w)
  | s :: ss, env, w => (ex s env w).bind fun r => match r.1 with
    | .nx => exs ss r.2.1 r.2.2
    | f => some (f, r.2.1, r.2.2)
end
end
/-- a def: how many slots, how many parameters, its body; cup: its first parameter is the list of draws; lend: .. that it changes itself -/
structure Fn where
  slots : Nat
  pars : Nat
  body : List S
  cup : Bool
  lend : Bool
deriving Inhabited
def retOf : Option (Fl × Ev × D) → Option (D × D)
  | some (.nx, _, w) => some (.none, w)
  | some (.rt d, _, w) => some (d, w)
  | _ => none
def entry (f : Fn) (ds : List D) : Ev := (if f.cup = true then [none] else []) ++ ds.map some ++ List.replicate (f.slots - f.pars) none
def lendOf : Option (Fl × Ev × D) → Option (D × D)
  | some (.rt d, env, _) => if flat d = true then (getE env 0).map fun w => (d, w) else none
  | _ => none
variable (Φ : Nat → Fn)
/-- what the call of a def is worth, n calls deep -/
def run : Nat → CallF
  | 0, _, _, _ => none
  | n + 1, f, ds, w => if (Φ f).lend = true then (if ds.length + 1 = (Φ f).pars then lendOf (exs (run n) (Φ f).body (entry (Φ f) (w :: ds)) .none) else none)
    else if ds.length + (if (Φ f).cup = true then 1 else 0) = (Φ f).pars then retOf (exs (run n) (Φ f).body (entry (Φ f) ds) w) else none
end PyI
set_option Elab.async false
set_option linter.all false
set_option maxRecDepth 100000
namespace PyI
open PySem L2

def kD : Key → D
  | .inl i => .int i
  | .inr x => .str x
mutual
/-- the value reads as the datum, all lists and dicts of it told by the heap -/
inductive Rp (K : PySem.W.Frag) (H : Hp) : V → D → Prop
  | non : Rp K H .non .none
  | bl (b : Bool) : Rp K H (.bl b) (.bool b)
  | int (i : Int) : Rp K H (.int i) (.int i)
  | str (x : Str) : Rp K H (.str x) (.str x)
  | lst {a : Addr} {xs : List V} {ds : List D} : H a = some (.lst xs) → RpA K H xs ds → Rp K H (.ref a) (.list ds)
  | tup {a : Addr} {xs : List V} {ds : List D} : SqT K H a xs → RpA K H xs ds → Rp K H (.ref a) (.tuple ds)
  | dk {a : Addr} {kv : List (Key × V)} {ds : List (D × D)} : H a = some (.dK kv) → RpK K H kv ds → Rp K H (.ref a) (.dict ds)
inductive RpA (K : PySem.W.Frag) (H : Hp) : List V → List D → Prop
  | nil : RpA K H [] []
  | cons {v : V} {vs : List V} {d : D} {ds : List D} : Rp K H v d → RpA K H vs ds → RpA K H (v :: vs) (d :: ds)
inductive RpK (K : PySem.W.Frag) (H : Hp) : List (Key × V) → List (D × D) → Prop
  | nil : RpK K H [] []
  | cons {k : Key} {v : V} {kv : List (Key × V)} {d : D} {ds : List (D × D)} : Rp K H v d → RpK K H kv ds → RpK K H ((k, v) :: kv) ((kD k, d) :: ds)
end

/-- all that F knows H' knows -/
def Ex (F H : Hp) : Prop := ∀ a o, F a = some o → H a = some o
theorem Ex.refl (H : Hp) : Ex H H := fun _ _ h => h
theorem Ex.trans {F G H : Hp} (a : Ex F G) (b : Ex G H) : Ex F H := fun x o h => b x o (a x o h)
theorem Ex.rd {F H : Hp} {a : Addr} {u : HO} (e : Ex F H) (h : Rd F a u) : Rd H a u := by
  rcases h with h | ⟨o, h⟩
  · exact .inl (e a _ h)
  · exact .inr ⟨o, e a _ h⟩
theorem Ex.sqT {K : PySem.W.Frag} {F H : Hp} {a : Addr} {xs : List V} (e : Ex F H) (h : SqT K F a xs) : SqT K H a xs := by
  rcases h with h | h
  · exact .inl (e.rd h)
  · exact .inr h
theorem Ex.upd {F : Hp} {p : Addr} {o : HO} (h : F p = none) : Ex F (upd F p o) := fun a u e => by
  rw [upd_ne (ne_of_none e h)]
  exact e
section
variable {K : PySem.W.Frag} {F H : Hp}
mutual
theorem Rp.mono (e : Ex F H) : ∀ {d : D} {v : V}, Rp K F v d → Rp K H v d
  | _, _, .non => .non
  | _, _, .bl b => .bl b
  | _, _, .int i => .int i
  | _, _, .str x => .str x
  | _, _, .lst h r => .lst (e _ _ h) (RpA.mono e r)
  | _, _, .tup h r => .tup (e.sqT h) (RpA.mono e r)
  | _, _, .dk h r => .dk (e _ _ h) (RpK.mono e r)
theorem RpA.mono (e : Ex F H) : ∀ {ds : List D} {vs : List V}, RpA K F vs ds → RpA K H vs ds
  | _, _, .nil => .nil
  | _, _, .cons h r => .cons (Rp.mono e h) (RpA.mono e r)
theorem RpK.mono (e : Ex F H) : ∀ {ds : List (D × D)} {vs : List (Key × V)}, RpK K F vs ds → RpK K H vs ds
  | _, _, .nil => .nil
  | _, _, .cons h r => .cons (Rp.mono e h) (RpK.mono e r)
end
mutual
theorem Rp.dp : ∀ {d : D} {v : V}, Rp K H v d → d.plain = true → Dp K H v d
  | _, _, .non, _ => .non
  | _, _, .bl b, _ => .bl b
  | _, _, .int i, _ => .int i
  | _, _, .str x, _ => .str x
  | _, _, .lst h r, p => .lst (.inl (.inl h)) (RpA.dp r (by simpa only [PyData.plain] using p))
  | _, _, .tup h r, p => .tup h (RpA.dp r (by simpa only [PyData.plain] using p))
  | _, _, .dk _ _, p => absurd p (by simp [PyData.plain])
theorem RpA.dp : ∀ {ds : List D} {vs : List V}, RpA K H vs ds → PyData.plainAll ds = true → DpAll K H vs ds
  | _, _, .nil, _ => .nil
  | _, _, .cons h r, p => by
    rw [PyData.plainAll, Bool.and_eq_true] at p
    exact .cons (Rp.dp h p.1) (RpA.dp r p.2)
end
theorem RpA.length : ∀ {ds : List D} {vs : List V}, RpA K H vs ds → vs.length = ds.length
  | _, _, .nil => rfl
  | _, _, .cons _ r => by rw [List.length_cons, List.length_cons, r.length]
theorem RpA.append : ∀ {ds es : List D} {vs us : List V}, RpA K H vs ds → RpA K H us es → RpA K H (vs ++ us) (ds ++ es)
  | _, _, _, _, .nil, q => q
  | _, _, _, _, .cons h r, q => .cons h (r.append q)
theorem RpA.get : ∀ {ds : List D} {vs : List V} {i : Nat} {d : D}, RpA K H vs ds → ds[i]? = some d → ∃ v, vs[i]? = some v ∧ Rp K H v d
  | _, _, _, _, .nil, e => by simp at e
  | _, _, 0, _, .cons h _, e => by
    have e' := Option.some.inj (show some _ = some _ from e)
    subst e'
    exact ⟨_, rfl, h⟩
  | _, _, i + 1, _, .cons _ r, e => r.get (i := i) e
theorem RpA.getV : ∀ {ds : List D} {vs : List V} {i : Nat} {v : V}, RpA K H vs ds → vs[i]? = some v → ∃ d, ds[i]? = some d ∧ Rp K H v d
  | _, _, _, _, .nil, e => by simp at e
  | _, _, 0, _, .cons h _, e => by
    have e' := Option.some.inj (show some _ = some _ from e)
    subst e'
    exact ⟨_, rfl, h⟩
  | _, _, i + 1, _, .cons _ r, e => r.getV (i := i) e
theorem RpA.take : ∀ {ds : List D} {vs : List V} (n : Nat), RpA K H vs ds → RpA K H (vs.take n) (ds.take n)
  | _, _, 0, _ => .nil
  | _, _, _ + 1, .nil => .nil
  | _, _, n + 1, .cons h r => .cons h (r.take n)
theorem RpA.drop : ∀ {ds : List D} {vs : List V} (n : Nat), RpA K H vs ds → RpA K H (vs.drop n) (ds.drop n)
  | _, _, 0, r => r
  | _, _, _ + 1, .nil => .nil
  | _, _, n + 1, .cons _ r => RpA.drop n r
theorem RpA.set {v : V} {d : D} (h : Rp K H v d) : ∀ {ds : List D} {vs : List V} (i : Nat), RpA K H vs ds → RpA K H (vs.set i v) (ds.set i d)
  | _, _, _, .nil => .nil
  | _, _, 0, .cons _ r => .cons h r
  | _, _, i + 1, .cons q r => .cons q (RpA.set h i r)
theorem RpA.erase : ∀ {ds : List D} {vs : List V} (i : Nat), RpA K H vs ds → RpA K H (vs.eraseIdx i) (ds.eraseIdx i)
  | _, _, _, .nil => .nil
  | _, _, 0, .cons _ r => r
  | _, _, i + 1, .cons q r => .cons q (RpA.erase i r)
theorem RpA.dropLast : ∀ {ds : List D} {vs : List V}, RpA K H vs ds → RpA K H vs.dropLast ds.dropLast := fun {ds vs} r => by
  rw [List.dropLast_eq_take, List.dropLast_eq_take, r.length]
  exact r.take _
theorem RpA.reverse : ∀ {ds : List D} {vs : List V}, RpA K H vs ds → RpA K H vs.reverse ds.reverse
  | _, _, .nil => .nil
  | _, _, .cons h r => by
    rw [List.reverse_cons, List.reverse_cons]
    exact r.reverse.append (.cons h .nil)
theorem RpA.rep {ds : List D} {vs : List V} (r : RpA K H vs ds) : ∀ n : Nat, RpA K H (List.replicate n vs).flatten (List.replicate n ds).flatten
  | 0 => .nil
  | n + 1 => by
    rw [List.replicate_succ, List.replicate_succ, List.flatten_cons, List.flatten_cons]
    exact r.append (r.rep n)
theorem RpA.of_ints : ∀ {ds : List D} {vs : List V} {ns : List Int}, RpA K H vs ds → intsOf ds = some ns → vs = ns.map V.int
  | _, _, _, .nil, e => by
    cases e
    rfl
  | _, _, ns, .cons h r, e => by
    cases h with
    | int i =>
      rw [intsOf] at e
      cases e2 : intsOf _ with
      | none => rw [e2] at e; cases e
      | some ms =>
        rw [e2] at e
        cases e
        rw [List.map_cons, r.of_ints e2]
    | _ => cases e
theorem RpA.of_bools : ∀ {ds : List D} {vs : List V} {ns : List Bool}, RpA K H vs ds → boolsOf ds = some ns → vs = ns.map V.bl
  | _, _, _, .nil, e => by
    cases e
    rfl
  | _, _, ns, .cons h r, e => by
    cases h with
    | bl i =>
      rw [boolsOf] at e
      cases e2 : boolsOf _ with
      | none => rw [e2] at e; cases e
      | some ms =>
        rw [e2] at e
        cases e
        rw [List.map_cons, r.of_bools e2]
    | _ => cases e
theorem RpA.ints : ∀ ns : List Int, RpA K H (ns.map V.int) (ns.map PyData.int)
  | [] => .nil
  | n :: ns => .cons (.int n) (RpA.ints ns)
end

theorem keyOf_kD (k : Key) : keyOf (kD k) = some k := by cases k <;> rfl
theorem keyOf_inv {d : D} {k : Key} (h : keyOf d = some k) : d = kD k := by
  cases d <;> simp [keyOf] at h <;> subst h <;> rfl
theorem RpK.length {K : PySem.W.Frag} {H : Hp} : ∀ {ds : List (D × D)} {kv : List (Key × V)}, RpK K H kv ds → kv.length = ds.length
  | _, _, .nil => rfl
  | _, _, .cons _ r => by rw [List.length_cons, List.length_cons, r.length]
theorem RpK.val {K : PySem.W.Frag} {H : Hp} {d : D} {k : Key} (hk : keyOf d = some k) : ∀ {ds : List (D × D)} {kv : List (Key × V)}, RpK K H kv ds →
    (∃ v x, valV kv k = some v ∧ findKv ds d = some x ∧ Rp K H v x) ∨ (valV kv k = none ∧ findKv ds d = none)
  | _, _, .nil => .inr ⟨rfl, rfl⟩
  | _, _, .cons (k := j) (v := v) (d := x) (ds := ds) (kv := kv) h r => by
    by_cases e : j = k
    · subst e
      refine .inl ⟨v, x, valV_pos rfl, ?_, h⟩
      unfold findKv
      rw [List.find?_cons]
      simp only [keyOf_kD, hk, decide_true]
      rfl
    · have ih := RpK.val hk r
      have e1 : valV ((j, v) :: kv) k = valV kv k := valV_neg e
      have e2 : findKv ((kD j, x) :: ds) d = findKv ds d := by
        unfold findKv
        rw [List.find?_cons]
        have : decide (keyOf (kD j) = keyOf d) = false := decide_eq_false (by rw [keyOf_kD, hk]; exact fun z => e (Option.some.inj z))
        simp only [this]
      rw [e1, e2]
      exact ih
theorem RpK.isSome {K : PySem.W.Frag} {H : Hp} {d : D} {k : Key} (hk : keyOf d = some k) {ds : List (D × D)} {kv : List (Key × V)} (r : RpK K H kv ds) : (valV kv k).isSome = (findKv ds d).isSome := by
  rcases r.val hk with ⟨v, x, e1, e2, _⟩ | ⟨e1, e2⟩ <;> rw [e1, e2] <;> rfl
theorem RpK.any {K : PySem.W.Frag} {H : Hp} {d : D} {k : Key} (hk : keyOf d = some k) : ∀ {ds : List (D × D)} {kv : List (Key × V)}, RpK K H kv ds → (kv.any fun p => decide (p.1 = k)) = (ds.any fun p => decide (keyOf p.1 = keyOf d))
  | _, _, .nil => rfl
  | _, _, .cons (k := j) _ r => by
    rw [List.any_cons, List.any_cons, RpK.any hk r]
    congr 1
    rw [decide_eq_decide, keyOf_kD, hk]
    exact ⟨fun e => congrArg some e, fun e => Option.some.inj e⟩
theorem RpK.repl {K : PySem.W.Frag} {H : Hp} {d x : D} {k : Key} {v : V} (hk : keyOf d = some k) (h : Rp K H v x) : ∀ {ds : List (D × D)} {kv : List (Key × V)}, RpK K H kv ds → RpK K H (kv.map fun p => if p.1 = k then (p.1, v) else p) (ds.map fun p => if keyOf p.1 = keyOf d then (p.1, x) else p)
  | _, _, .nil => .nil
  | _, _, .cons (k := j) h2 r => by
    rw [List.map_cons, List.map_cons]
    by_cases e : j = k
    · rw [if_pos e, if_pos (by rw [keyOf_kD, hk]; exact congrArg some e)]
      exact .cons h (RpK.repl hk h r)
    · rw [if_neg e, if_neg (by rw [keyOf_kD, hk]; exact fun z => e (Option.some.inj z))]
      exact .cons h2 (RpK.repl hk h r)
theorem RpK.snoc {K : PySem.W.Frag} {H : Hp} {x : D} {k : Key} {v : V} (h : Rp K H v x) : ∀ {ds : List (D × D)} {kv : List (Key × V)}, RpK K H kv ds → RpK K H (kv ++ [(k, v)]) (ds ++ [(kD k, x)])
  | _, _, .nil => .cons h .nil
  | _, _, .cons h2 r => .cons h2 (RpK.snoc h r)
theorem RpK.put {K : PySem.W.Frag} {H : Hp} {d x : D} {k : Key} {v : V} (hk : keyOf d = some k) (h : Rp K H v x) {ds : List (D × D)} {kv : List (Key × V)} (r : RpK K H kv ds) : RpK K H (putK kv k v) (putKv ds d x) := by
  unfold putK putKv
  rw [r.any hk]
  split
  · exact r.repl hk h
  · have := keyOf_inv hk
    subst this
    exact r.snoc h
theorem RpK.keys {K : PySem.W.Frag} {H : Hp} : ∀ {ds : List (D × D)} {kv : List (Key × V)}, RpK K H kv ds → ds.map (·.1) = kv.map fun p => kD p.1
  | _, _, .nil => rfl
  | _, _, .cons _ r => by rw [List.map_cons, List.map_cons, r.keys]
/-! ### what one object holds -/
inductive Cont (K : PySem.W.Frag) (F : Hp) : HO → D → Prop
  | lst {xs : List V} {ds : List D} : RpA K F xs ds → Cont K F (.lst xs) (.list ds)
  | dk {kv : List (Key × V)} {ds : List (D × D)} : RpK K F kv ds → Cont K F (.dK kv) (.dict ds)
theorem Cont.mono {K : PySem.W.Frag} {F H : Hp} {o : HO} {d : D} (e : Ex F H) (h : Cont K F o d) : Cont K H o d := by
  cases h with
  | lst r => exact .lst (r.mono e)
  | dk r => exact .dk (r.mono e)
theorem Cont.rp {K : PySem.W.Frag} {H : Hp} {a : Addr} {o : HO} {d : D} (h : Cont K H o d) (e : H a = some o) : Rp K H (.ref a) d := by
  cases h with
  | lst r => exact .lst e r
  | dk r => exact .dk e r
def isTupO : HO → Bool
  | .tup _ => true
  | .frz _ (.tup _) => true
  | _ => false
theorem Cont.notTup {K : PySem.W.Frag} {F : Hp} {o : HO} {d : D} (h : Cont K F o d) : isTupO o = false := by cases h <;> rfl
theorem Cont.mut {K : PySem.W.Frag} {F : Hp} {o : HO} {d : D} (h : Cont K F o d) : Mut (some o) := by cases h <;> exact True.intro

/-- from (F, H) to (F', H'): F is what is never changed again; c: the list of draws -/
structure Step (c : Option Addr) (F H F' H' : Hp) : Prop where
  ef : Ex F F'
  eh : ∀ a o, c ≠ some a → H a = some o → H' a = some o
  fh : Ex F' H'
  nw : ∀ a o, F' a = some o → F a = some o ∨ H a = none ∨ isTupO o = true
  cs : ∀ a, c = some a → H a ≠ none → H' a ≠ none
theorem Step.refl {c : Option Addr} {F H : Hp} (e : Ex F H) : Step c F H F H := ⟨Ex.refl _, fun _ _ _ h => h, e, fun _ _ h => .inl h, fun _ _ h => h⟩
theorem Step.keep {c : Option Addr} {F H F' H' : Hp} (s : Step c F H F' H') {a : Addr} (h : H a ≠ none) : H' a ≠ none := by
  by_cases e : c = some a
  · exact s.cs a e h
  · cases q : H a with
    | none => exact absurd q h
    | some o => rw [s.eh a o e q]; simp
theorem Step.fresh {c : Option Addr} {F H F' H' : Hp} (s : Step c F H F' H') {a : Addr} (h : H' a = none) : H a = none := by
  cases q : H a with
  | none => rfl
  | some o => exact absurd h (s.keep (by rw [q]; simp))
theorem Step.trans {c : Option Addr} {F H F' H' F'' H'' : Hp} (s : Step c F H F' H') (t : Step c F' H' F'' H'') : Step c F H F'' H'' where
  ef := s.ef.trans t.ef
  eh := fun a o n h => t.eh a o n (s.eh a o n h)
  fh := t.fh
  nw := fun a o h => by
    rcases t.nw a o h with q | q | q
    · exact s.nw a o q
    · exact .inr (.inl (s.fresh q))
    · exact .inr (.inr q)
  cs := fun a e h => t.cs a e (s.cs a e h)
theorem Step.weak {c : Option Addr} {F H F' H' : Hp} (s : Step none F H F' H') : Step c F H F' H' :=
  ⟨s.ef, fun a o _ h => s.eh a o (by simp) h, s.fh, s.nw, fun a _ h => s.keep h⟩
/-- a new object, held or not -/
theorem Step.new {c : Option Addr} {F H : Hp} (e : Ex F H) {p : Addr} {o : HO} (h : H p = none) : Step c F H F (upd H p o) :=
  ⟨Ex.refl _, fun a u _ q => by rw [upd_ne (ne_of_none q h)]; exact q, e.trans (Ex.upd h), fun _ _ q => .inl q, fun a _ q => by
    by_cases z : a = p
    · rw [z] at q; exact absurd h q
    · rw [upd_ne z]; exact q⟩
theorem Ex.none {F H : Hp} (e : Ex F H) {p : Addr} (h : H p = none) : F p = none := by
  cases q : F p with
  | none => rfl
  | some o => rw [e p o q] at h; cases h
/-- .. and from now on never changed -/
theorem Step.hold {c : Option Addr} {F H F' H' : Hp} (s : Step c F H F' H') {p : Addr} {o : HO} (hn : H p = none) (hf : F' p = none) (ho : H' p = some o) : Step c F H (upd F' p o) H' where
  ef := s.ef.trans (Ex.upd hf)
  eh := s.eh
  fh := fun a u q => by
    by_cases z : a = p
    · subst z; rw [upd_same] at q; cases q; exact ho
    · rw [upd_ne z] at q; exact s.fh a u q
  nw := fun a u q => by
    by_cases z : a = p
    · subst z; exact .inr (.inl hn)
    · rw [upd_ne z] at q; exact s.nw a u q
  cs := s.cs
theorem Step.newF {c : Option Addr} {F H : Hp} (e : Ex F H) {p : Addr} {o : HO} (h : H p = none) : Step c F H (upd F p o) (upd H p o) :=
  (Step.new e h).hold h (e.none h) upd_same

/-! ### what a reading hands on -/
/-- told by F, or by one object of H that may yet change -/
def Rd1 (K : PySem.W.Frag) (F H : Hp) (v : V) (d : D) : Prop := Rp K F v d ∨ ∃ p o, v = .ref p ∧ F p = none ∧ H p = some o ∧ Cont K F o d
/-- a new object that nobody knows -/
def FreshR (K : PySem.W.Frag) (H F' H' : Hp) (v : V) (d : D) : Prop := ∃ p o, v = .ref p ∧ H p = none ∧ F' p = none ∧ H' p = some o ∧ Cont K F' o d
inductive Rd1s (K : PySem.W.Frag) (F H : Hp) : List V → List D → Prop
  | nil : Rd1s K F H [] []
  | cons {v : V} {vs : List V} {d : D} {ds : List D} : Rd1 K F H v d → Rd1s K F H vs ds → Rd1s K F H (v :: vs) (d :: ds)
section
variable {K : PySem.W.Frag} {F H : Hp} {v : V}
theorem Rd1.toH {d : D} (e : Ex F H) (h : Rd1 K F H v d) : Rp K H v d := by
  rcases h with h | ⟨p, o, rfl, _, ho, h⟩
  · exact h.mono e
  · exact (h.mono e).rp ho
theorem Rd1.list {ds : List D} (e : Ex F H) (h : Rd1 K F H v (.list ds)) : ∃ a xs, v = .ref a ∧ H a = some (.lst xs) ∧ RpA K F xs ds := by
  rcases h with h | ⟨p, o, rfl, _, ho, h⟩
  · cases h with
    | lst h r => exact ⟨_, _, rfl, e _ _ h, r⟩
  · cases h with
    | lst r => exact ⟨_, _, rfl, ho, r⟩
theorem Rd1.tuple {ds : List D} (e : Ex F H) (h : Rd1 K F H v (.tuple ds)) : ∃ a xs, v = .ref a ∧ SqT K F a xs ∧ RpA K F xs ds ∧ Rp K F v (.tuple ds) := by
  rcases h with h | ⟨p, o, rfl, _, ho, h⟩
  · cases h with
    | tup h r => exact ⟨_, _, rfl, h, r, .tup h r⟩
  · cases h
theorem Rd1.dict {ds : List (D × D)} (e : Ex F H) (h : Rd1 K F H v (.dict ds)) : ∃ a kv, v = .ref a ∧ H a = some (.dK kv) ∧ RpK K F kv ds := by
  rcases h with h | ⟨p, o, rfl, _, ho, h⟩
  · cases h with
    | dk h r => exact ⟨_, _, rfl, e _ _ h, r⟩
  · cases h with
    | dk r => exact ⟨_, _, rfl, ho, r⟩
theorem Rd1.key {d : D} {k : Key} (hk : keyOf d = some k) (h : Rd1 K F H v d) : v = kV k := by
  have := keyOf_inv hk
  subst this
  cases k with
  | inl i =>
    rcases h with h | ⟨p, o, rfl, _, ho, h⟩
    · cases h; rfl
    · cases h
  | inr x =>
    rcases h with h | ⟨p, o, rfl, _, ho, h⟩
    · cases h; rfl
    · cases h
theorem Rd1.int {i : Int} (h : Rd1 K F H v (.int i)) : v = .int i := by
  rcases h with h | ⟨p, o, rfl, _, ho, h⟩
  · cases h; rfl
  · cases h
theorem Rd1.bool {i : Bool} (h : Rd1 K F H v (.bool i)) : v = .bl i := by
  rcases h with h | ⟨p, o, rfl, _, ho, h⟩
  · cases h; rfl
  · cases h
theorem Rd1.str {i : Str} (h : Rd1 K F H v (.str i)) : v = .str i := by
  rcases h with h | ⟨p, o, rfl, _, ho, h⟩
  · cases h; rfl
  · cases h
theorem Rd1.none (h : Rd1 K F H v .none) : v = .non := by
  rcases h with h | ⟨p, o, rfl, _, ho, h⟩
  · cases h; rfl
  · cases h
theorem Rd1s.one {vs : List V} {d : D} (h : Rd1s K F H vs [d]) : ∃ v, vs = [v] ∧ Rd1 K F H v d := by
  cases h with
  | cons h r => cases r; exact ⟨_, rfl, h⟩
theorem Rd1s.two {vs : List V} {d e : D} (h : Rd1s K F H vs [d, e]) : ∃ v u, vs = [v, u] ∧ Rd1 K F H v d ∧ Rd1 K F H u e := by
  cases h with
  | cons h r =>
    cases r with
    | cons h2 r => cases r; exact ⟨_, _, rfl, h, h2⟩
theorem Rd1s.three {vs : List V} {d e f : D} (h : Rd1s K F H vs [d, e, f]) : ∃ v u w, vs = [v, u, w] ∧ Rd1 K F H v d ∧ Rd1 K F H u e ∧ Rd1 K F H w f := by
  cases h with
  | cons h r =>
    obtain ⟨u, w, rfl, h2, h3⟩ := r.two
    exact ⟨_, _, _, rfl, h, h2, h3⟩
theorem Rd1s.length {vs : List V} {ds : List D} (h : Rd1s K F H vs ds) : vs.length = ds.length := by
  induction h with
  | nil => rfl
  | cons _ _ ih => rw [List.length_cons, List.length_cons, ih]
/-- from (F, H) on to (F', H') -/
theorem Rd1.step {c : Option Addr} {F' H' : Hp} {d : D} (s : Step c F H F' H') (hc : ∀ a, c = some a → v ≠ .ref a ∨ F a ≠ Option.none) (h : Rd1 K F H v d) : Rd1 K F' H' v d := by
  rcases h with h | ⟨p, o, rfl, hn, ho, h⟩
  · exact .inl (h.mono s.ef)
  · have nc : c ≠ some p := fun e => by
      rcases hc p e with q | q
      · exact q rfl
      · exact q hn
    refine .inr ⟨p, o, rfl, ?_, s.eh p o nc ho, h.mono s.ef⟩
    cases q : F' p with
    | none => rfl
    | some u =>
      rcases s.nw p u q with z | z | z
      · rw [hn] at z; cases z
      · rw [ho] at z; cases z
      · have e2 := s.fh p u q
        rw [s.eh p o nc ho] at e2
        cases e2
        rw [h.notTup] at z
        cases z
theorem FreshR.rd1 {F' H' : Hp} {d : D} (h : FreshR K H F' H' v d) : Rd1 K F' H' v d := by
  obtain ⟨p, o, rfl, _, hf, ho, h⟩ := h
  exact .inr ⟨p, o, rfl, hf, ho, h⟩
end
end PyI
set_option Elab.async false
set_option linter.all false
set_option maxRecDepth 100000
set_option maxHeartbeats 1000000
namespace PyI
open PySem L2 PySem.Spec

/-! ### sorting tuples of which the first has no item -/
section
open PySem.W PyProof.Rows PySem.SeqAt PySem.Calls
variable {prog : Program} {w : World} {A : Around} {s : Shared} {E : Value → Shared → Prop}
theorem call_tuple_lt {Q : Value → Shared → Prop} {l b : Addr} {items items2 : Array Value} {e r : Nat → Bool} (hl : s.heap.IsTuple l items) (hb : s.heap.IsTuple b items2)
    (he : ∀ j (h1 : j < items.size) (h2 : j < items2.size), EqAt A.in1 s items[j] items2[j] (e j)) (hr : ∀ j (h1 : j < items.size) (h2 : j < items2.size), e j = false → RcLt A.in1 s items[j] items2[j] (r j))
    (h : Q (.bool (firstLt e r (decide (items.size < items2.size)) (List.range (min items.size items2.size)))) s) : wpAny (model prog w) A (call (.builtin "tuple.__lt__") [.ref l, .ref b]) Q E s := by
  obtain ⟨⟨cls, dd, data, sl⟩, ho, hc, n, hd⟩ := id hl
  obtain ⟨⟨cls2, dd2, data2, sl2⟩, ho2, hc2, n2, hd2⟩ := id hb
  simp only at hc hd hc2 hd2
  subst hc hd hc2 hd2
  exact call_meets F.slot_tuple_lt ⟨_, ho, rfl⟩ F.entry_tuple_lt (F.args_tuple_lt_2 _ _) (tuple_ltAt l b items items2 n n2 dd dd2 sl sl2 e r) ⟨ho, ho2, he, hr, h⟩
theorem oneLt_tup {xs ys : List PyData} {a b : Value} {as bs : List Addr} {Q : Bool → Shared → Prop} (ra : Reads s.heap a (.tuple xs) as) (rb : Reads s.heap b (.tuple ys) bs) (h : alike (.tuple xs) (.tuple ys) = true)
    (hu : A.units + min (PyData.depth (.tuple xs)) (PyData.depth (.tuple ys)) < cLine) (hq : Q (dataLt (.tuple xs) (.tuple ys)) s) : wpAny (model prog w) A (oneLt' true a b) Q E s := by
  have hal : alikeAll xs ys = true := by simpa [alike] using h
  cases ra with
  | @tuple l o vs n _ as₁ h1 h2 h3 h4 =>
    cases rb with
    | @tuple l' o' vs' n' _ bs₁ k1 k2 k3 k4 =>
      have n1 : vs.size = xs.length := by simpa using ReadsAll.length _ _ _ h4
      have n2 : vs'.size = ys.length := by simpa using ReadsAll.length _ _ _ k4
      rw [dataLt_tuple, ← firstLt_toks xs ys hal, ← n1, ← n2] at hq
      rw [oneLt'_eq]
      simp only [if_true]
      refine wpAny_bind (wpAny_cRoomFor (room_here hu) ?_)
      refine wpAny_bind (wpAny_callSpecialIfBound?_slot (T := "tuple") ⟨_, h1, h2⟩ F.slot_tuple_lt (call_tuple_lt (e := pairEq xs ys) (r := fun j => dataLt (xs.getD j .none) (ys.getD j .none)) ⟨_, h1, h2, _, h3⟩ ⟨_, k1, k2, _, k3⟩ (fun j j1 j2 => ?_) (fun j j1 j2 hj => ?_) ?_))
      · have := eqAt_alikeAll xs ys A.in1 s vs.toList vs'.toList _ _ h4 k4 hal (room_in hu) j (by simpa using j1) (by simpa using j2)
        simpa using this
      · have := rcLt_alikeAll xs ys A.in1 s vs.toList vs'.toList _ _ h4 k4 hal (room_in hu) j (by simpa using j1) (by simpa using j2) hj
        simpa using this
      · exact wpAny_truthy_bool hq
theorem tup_firsts {M : Model} : ∀ (vs : List Value) (ds : List PyData) {Q : List (Option Value) → Shared → Prop}, EachIs (fun v d => ∃ as, Reads s.heap v d as) vs ds → (∀ d ∈ ds, ∃ xs, d = .tuple xs) → (∀ os, (∀ ds', ds = .tuple [] :: ds' → ∃ os', os = none :: os') → Q os s) → wpAny M A (vs.mapM firstOfTuple') Q E s
  | [], _, _, .nil, _, h => by
    rw [List.mapM_nil]
    exact wpAny_pure (h [] fun ds' z => by cases z)
  | v :: vs, _, Q, .cons (b := d) (bs := ds) ⟨as, r⟩ t, ht, h => by
    obtain ⟨xs, rfl⟩ := ht d (List.mem_cons_self ..)
    rw [List.mapM_cons]
    refine wpAny_bind ?_
    rw [kas_first_eq]
    cases r with
    | @tuple l o its n _ as₁ h1 h2 h3 h4 =>
      refine wpAny_bind (Looks.here (show Looks M s.heap (typeOf (.ref l)) o.cls from (Looks.ld h1).andThen .now) ?_)
      rw [h2, if_neg (by first | decide | simp)]
      refine wpAny_bind (listItems_at h1 h3 (wpAny_pure ?_))
      refine wpAny_bind (tup_firsts vs ds t (fun d hd => ht d (List.mem_cons_of_mem _ hd)) fun os ho => wpAny_pure (h _ fun ds' z => ?_))
      cases z
      have n1 : its.size = ([] : List PyData).length := by simpa using ReadsAll.length _ _ _ h4
      refine ⟨os, ?_⟩
      rw [Array.getElem?_eq_none (by rw [n1]; exact Nat.le_refl _)]
/-- tuples, the first one without an item -/
def TupE (ds : List PyData) : Prop := (∃ ds', ds = .tuple [] :: ds') ∧ ∀ d ∈ ds, ∃ xs, d = .tuple xs
theorem sortsE {vs : List Value} {ds : List PyData} (e : EachIs (fun v d => ∃ as, Reads s.heap v d as) vs ds) (hal : AllAlike ds) (ht : TupE ds) (hu : ∀ d, d ∈ ds → A.units + d.depth < cLine) : SortsAt prog w A s (dataKind s.heap ds) vs := by
  have room : ∀ {d d' : PyData}, d ∈ ds → A.units + min d.depth d'.depth < cLine := fun {d d'} hd => Nat.lt_of_le_of_lt (Nat.add_le_add_left (Nat.min_le_left _ _) _) (hu d hd)
  obtain ⟨⟨ds', e0⟩, ht⟩ := ht
  refine ⟨fun v hv => ?_, oneType', ?_, fun h2 E Q hq => ?_⟩
  · obtain ⟨d, hd, as, r⟩ := e.left v hv
    exact ⟨_, dataKind_some hal hd r⟩
  · intro E x y a b Q ha hb hq
    obtain ⟨d, as, hd, ra, rfl⟩ := dataKind_inv ha
    obtain ⟨d', as', hd', rb, rfl⟩ := dataKind_inv hb
    have hr := room (d' := d') hd
    have ha2 := hal d hd d' hd'
    obtain ⟨xs, rfl⟩ := ht d hd
    obtain ⟨ys, rfl⟩ := ht d' hd'
    rw [keyLt'_oneType]
    exact oneLt_tup ra rb ha2 hr hq
  · rw [keyKind'_eq, List.mapM_toArray, map_eq_pure_bind]
    refine wpAny_bind (wpAny_bind (tup_firsts vs ds e ht fun os ho => wpAny_pure ?_))
    obtain ⟨os', rfl⟩ := ho ds' e0
    rw [if_neg (by simp), if_neg (by simp)]
    rw [oneTypeOnly'_eq, List.mapM_toArray, map_eq_pure_bind]
    refine wpAny_bind (wpAny_bind (wpAny_bind (kas_mapM (r := Value.type "tuple") _ (fun v hv Q' hq => ?_) (wpAny_pure ?_))))
    · obtain ⟨d, hd, as, r⟩ := e.left v hv
      obtain ⟨xs, rfl⟩ := ht d hd
      exact (looks_reads r).here hq
    · obtain ⟨v1, vs, rfl⟩ : ∃ v1 vs', vs = v1 :: vs' := by
        match vs, h2 with
        | v1 :: vs', _ => exact ⟨v1, vs', rfl⟩
      have hall : ((List.map (fun _ => Value.type "tuple") (v1 :: vs)).toArray.all fun x => x == Value.type "tuple") = true := by
        simp only [List.all_toArray, List.all_map, List.all_eq_true]
        intro _ _
        rfl
      have h0 : (List.map (fun _ => Value.type "tuple") (v1 :: vs)).toArray[0]? = some (Value.type "tuple") := by simp
      rw [h0]
      simp only [hall, if_true]
      exact wpAny_pure (wpAny_pure hq)
def SortB (ds : List PyData) : Prop := Sortable ds ∨ TupE ds
theorem sortsB {vs : List Value} {ds : List PyData} (e : EachIs (fun v d => ∃ as, Reads s.heap v d as) vs ds) (hal : AllAlike ds) (hk : SortB ds) (hu : ∀ d, d ∈ ds → A.units + d.depth < cLine) : SortsAt prog w A s (dataKind s.heap ds) vs := by
  rcases hk with hk | hk
  · exact SortsAt.data e hal hk hu
  · exact sortsE e hal hk hu
theorem sorted_dataB {l : Addr} {vs : List Value} {bs : List PyData} {R : Value → PyData → Prop} {Q : Value → Shared → Prop} (hl : s.heap.IsList l vs.toArray) (e : EachIs R vs bs) (er : EachIs (fun v b => ∃ as, Reads s.heap v (id b) as) vs bs) (hal : AllAlike (bs.map id)) (hk : SortB (bs.map id)) (hL : bs.length ≤ sizeLine)
    (hu : ∀ b, b ∈ bs → A.units + 2 + (id b : PyData).depth < cLine) (h : ∀ out, out.length = bs.length → EachIs R out (bs.mergeSort (dataLe false id)) → Q (.ref (s.heap.objs.size + 1)) { s with heap := sortedAll s.heap vs (List.toArray out) }) :
    wpAny (model prog w) A (call (.builtin "sorted") [.ref l]) Q E s := by
  have er' : EachIs (fun v b => ∃ as, Reads (sortingHeap (copyHeap s.heap vs) (s.heap.objs.size + 1) vs) v (id b) as) vs bs := er.mono fun _ _ ⟨as, r⟩ => ⟨as, PyProof.Rows.Reads.keeps (fun _ _ => sorting_copy_old) r⟩
  exact sorted_vals hl (sortsB (s := { s with heap := sortingHeap (copyHeap s.heap vs) (s.heap.objs.size + 1) vs }) (each_map (R := fun v d => ∃ as, Reads (sortingHeap (copyHeap s.heap vs) (s.heap.objs.size + 1) vs) v d as) id er') hal hk (bound_map hu)) (by rw [e.length]; exact hL)
    (h _ (by rw [sortVals_length false rfl]; exact e.length) (sortVals_data false e er' hal))
end
end PyI
set_option Elab.async false
set_option linter.all false
set_option maxRecDepth 100000
set_option maxHeartbeats 1000000
namespace PyI
open PySem L2 PySem.Spec

theorem lim_eq : LIM = sizeLine := sizeLine_eq.symm
/-- primitives whose answer is a new object that nobody knows -/
def freshP : Prim → Bool
  | .lst => true
  | .sorted => true
  | .list => true
  | .range1 => true
  | .range2 => true
  | .disp _ => true
  | .dict => true
  | .addL => true
  | .mulL => true
  | .dvals => true
  | .dictP => true
  | _ => false
def ResB (b : Bool) (K : PySem.W.Frag) (H F' H' : Hp) (v : V) (d : D) : Prop := match b with
  | true => FreshR K H F' H' v d
  | false => Rp K F' v d
/-- a primitive, by data -/
def rD (K : PySem.W.Frag) (p : Prim) : List V → Hp → VK → Prop := fun vs H Q =>
  ∃ F ds d, Ex F H ∧ Rd1s K F H vs ds ∧ prim p ds = some d ∧ ∀ v F' H', Step none F H F' H' → ResB (freshP p) K H F' H' v d → Q v H'
abbrev r1D (K : PySem.W.Frag) (p : Prim) : V → Hp → VK → Prop := fun x H Q => rD K p [x] H Q
abbrev r2D (K : PySem.W.Frag) (p : Prim) : R2 := fun x y H Q => rD K p [x, y] H Q

theorem Rd1s.inv1 {K : PySem.W.Frag} {F H : Hp} {x : V} {ds : List D} (h : Rd1s K F H [x] ds) : ∃ a, ds = [a] ∧ Rd1 K F H x a := by
  cases h with
  | cons h r => cases r; exact ⟨_, rfl, h⟩
theorem Rd1s.inv2 {K : PySem.W.Frag} {F H : Hp} {x y : V} {ds : List D} (h : Rd1s K F H [x, y] ds) : ∃ a b, ds = [a, b] ∧ Rd1 K F H x a ∧ Rd1 K F H y b := by
  cases h with
  | cons h r =>
    cases r with
    | cons h2 r => cases r; exact ⟨_, _, rfl, h, h2⟩
theorem Rd1s.rpA {K : PySem.W.Frag} {F H : Hp} (e : Ex F H) {vs : List V} {ds : List D} (h : Rd1s K F H vs ds) : RpA K H vs ds := by
  induction h with
  | nil => exact .nil
  | cons h _ ih => exact .cons (h.toH e) ih

section
variable {X : Cx}
theorem opD2 {f : Value → Value → Sem Value} {p : Prim} (h : ∀ (pins : List (Addr × Obj)) (s : Shared) (σ : St) (H : Hp) (x y : V) (v u : Value) (Q : VK) (F : Hp) (a b d : D), Inv X pins σ H s → RelV x v → RelV y u →
    Ex F H → Rd1 X.K F H x a → Rd1 X.K F H y b → prim p [a, b] = some d → (∀ v F' H', Step none F H F' H' → ResB (freshP p) X.K H F' H' v d → Q v H') →
    wpAny (model X.prog X.w) X.A (f v u) (EP X pins σ Q) X.xe s) : OpR X f (r2D X.K p) := by
  intro pins s σ H x y v u Q I rx ry hh
  obtain ⟨F, ds, d, e, hr, hp, q⟩ := hh
  obtain ⟨a, b, rfl, ha, hb⟩ := hr.inv2
  exact h pins s σ H x y v u Q F a b d I rx ry e ha hb hp q

theorem op_addD : OpR X (binaryOp .Add) (r2D X.K .add) := opD2 fun pins s σ H x y v u Q F a b d I rx ry e ha hb hp q => by
  have hp : addD a b = some d := hp
  cases a with
  | int i =>
    cases b with
    | int j =>
      cases hp
      rw [ha.int] at rx
      rw [hb.int] at ry
      exact op_add pins s σ H _ _ v u Q I rx ry ⟨i, j, rfl, rfl, q _ F H (Step.refl e) (.int _)⟩
    | _ => cases hp
  | str i =>
    cases b with
    | str j =>
      rw [addD] at hp
      split at hp
      · rename_i hz
        cases hp
        rw [ha.str] at rx
        rw [hb.str] at ry
        exact op_add_str pins s σ H _ _ v u Q I rx ry ⟨i, j, rfl, rfl, by rw [← lim_eq]; exact hz, q _ F H (Step.refl e) (.str _)⟩
      · cases hp
    | _ => cases hp
  | list ds =>
    cases b with
    | list es =>
      rw [addD] at hp
      split at hp
      · rename_i hz
        cases hp
        obtain ⟨l, xs, rfl, hl, r1⟩ := ha.list e
        obtain ⟨m, ys, rfl, hm, r2⟩ := hb.list e
        refine op_cat pins s σ H _ _ v u Q I rx ry ⟨l, m, xs, ys, rfl, rfl, hl, hm, by rw [r1.length, r2.length, ← lim_eq]; exact hz, fun p hn => ?_⟩
        have st : Step none F H (upd F p (.lst (xs ++ ys))) (upd H p (.lst (xs ++ ys))) := Step.newF e hn
        exact q _ _ _ st (.lst upd_same ((r1.append r2).mono st.ef))
      · cases hp
    | _ => cases hp
  | tuple ds =>
    cases b with
    | tuple es =>
      rw [addD] at hp
      split at hp
      · rename_i hz
        cases hp
        obtain ⟨l, xs, rfl, hl, r1, k1⟩ := ha.tuple e
        obtain ⟨m, ys, rfl, hm, r2, k2⟩ := hb.tuple e
        refine op_catA pins s σ H _ _ v u Q I rx ry ⟨l, m, xs, ys, rfl, rfl, e.sqT hl, e.sqT hm, by rw [r1.length, r2.length, ← lim_eq]; exact hz, fun z => ?_, fun _ z => ?_, fun _ _ p hn => ?_⟩
        · subst z
          cases r1
          exact q _ F H (Step.refl e) k2
        · subst z
          cases r2
          rw [List.append_nil] at q
          exact q _ F H (Step.refl e) k1
        · have st : Step none F H (upd F p (.tup (xs ++ ys))) (upd H p (.tup (xs ++ ys))) := Step.newF e hn
          exact q _ _ _ st (.tup (.inl (.inl upd_same)) ((r1.append r2).mono st.ef))
      · cases hp
    | _ => cases hp
  | _ => cases hp

theorem op_addLD : OpR X (binaryOp .Add) (r2D X.K .addL) := opD2 fun pins s σ H x y v u Q F a b d I rx ry e ha hb hp q => by
  have hp : addLD a b = some d := hp
  cases a with
  | list ds =>
    cases b with
    | list es =>
      rw [addLD, addD] at hp
      split at hp
      · rename_i hz
        cases hp
        obtain ⟨l, xs, rfl, hl, r1⟩ := ha.list e
        obtain ⟨m, ys, rfl, hm, r2⟩ := hb.list e
        refine op_cat pins s σ H _ _ v u Q I rx ry ⟨l, m, xs, ys, rfl, rfl, hl, hm, by rw [r1.length, r2.length, ← lim_eq]; exact hz, fun p hn => ?_⟩
        exact q _ _ _ (Step.new e hn) ⟨p, _, rfl, hn, e.none hn, upd_same, .lst (r1.append r2)⟩
      · cases hp
    | _ => cases hp
  | _ => cases hp
theorem op_subD : OpR X (binaryOp .Sub) (r2D X.K .sub) := opD2 fun pins s σ H x y v u Q F a b d I rx ry e ha hb hp q => by
  have hp : subD a b = some d := hp
  cases a with
  | int i =>
    cases b with
    | int j =>
      cases hp
      rw [ha.int] at rx
      rw [hb.int] at ry
      exact op_sub pins s σ H _ _ v u Q I rx ry ⟨i, j, rfl, rfl, q _ F H (Step.refl e) (.int _)⟩
    | _ => cases hp
  | _ => cases hp
theorem op_fdivD : OpR X (binaryOp .FloorDiv) (r2D X.K .fdiv) := opD2 fun pins s σ H x y v u Q F a b d I rx ry e ha hb hp q => by
  have hp : fdivD a b = some d := hp
  cases a with
  | int i =>
    cases b with
    | int j =>
      rw [fdivD] at hp
      split at hp
      · rename_i hz
        cases hp
        rw [ha.int] at rx
        rw [hb.int] at ry
        exact op_fdiv pins s σ H _ _ v u Q I rx ry ⟨i, j, rfl, rfl, hz, q _ F H (Step.refl e) (.int _)⟩
      · cases hp
    | _ => cases hp
  | _ => cases hp
theorem op_modD : OpR X (binaryOp .Mod) (r2D X.K .mod) := opD2 fun pins s σ H x y v u Q F a b d I rx ry e ha hb hp q => by
  have hp : modD a b = some d := hp
  cases a with
  | int i =>
    cases b with
    | int j =>
      rw [modD] at hp
      split at hp
      · rename_i hz
        cases hp
        rw [ha.int] at rx
        rw [hb.int] at ry
        exact op_mod pins s σ H _ _ v u Q I rx ry ⟨i, j, rfl, rfl, hz, q _ F H (Step.refl e) (.int _)⟩
      · cases hp
    | _ => cases hp
  | _ => cases hp
theorem op_powD : OpR X (binaryOp .Pow) (r2D X.K .pow) := opD2 fun pins s σ H x y v u Q F a b d I rx ry e ha hb hp q => by
  have hp : powD a b = some d := hp
  cases a with
  | int i =>
    cases b with
    | int j =>
      rw [powD] at hp
      split at hp
      · rename_i hz
        cases hp
        rw [ha.int] at rx
        rw [hb.int] at ry
        exact op_pow pins s σ H _ _ v u Q I rx ry ⟨i, j, rfl, rfl, hz, q _ F H (Step.refl e) (.int _)⟩
      · cases hp
    | _ => cases hp
  | _ => cases hp
/-! ### == and order -/
theorem rdReads {pins : List (Addr × Obj)} {σ : St} {H F : Hp} {s : Shared} {x : V} {v : Value} {a : D} (I : Inv X pins σ H s) (e : Ex F H) (ha : Rd1 X.K F H x a) (rx : RelV x v) (p : a.plain = true) : ∃ as, Reads s.heap v a as :=
  Dp.reads I a x v ((ha.toH e).dp p) rx
theorem dep_room {a b : D} {u : Nat} (hu : u + 100 < cLine) (h : dep2 a b = true) : u + min a.depth b.depth < cLine := by
  have := of_decide_eq_true h
  have e : DEP = 60 := rfl
  omega
theorem op_eqD' (hu : X.A.units + 100 < cLine) : OpR X (compareOp .Eq) (r2D X.K .eq) := opD2 fun pins s σ H x y v u Q F a b d I rx ry e ha hb hp q => by
  have hp : bb (eqD a b) = some d := hp
  unfold eqD at hp
  split at hp
  · rename_i hz
    cases hp
    rw [Bool.and_eq_true, Bool.and_eq_true] at hz
    obtain ⟨as, r1⟩ := rdReads I e ha rx hz.1.1
    obtain ⟨bs, r2⟩ := rdReads I e hb ry hz.1.2
    exact PySem.SeqAt.eq_plain r1 r2 hz.1.1 hz.1.2 (dep_room hu hz.2) ⟨.bl _, H, I, rfl, q _ F H (Step.refl e) (.bl _)⟩
  · cases hp
theorem op_neD' (hu : X.A.units + 100 < cLine) : OpR X (compareOp .NotEq) (r2D X.K .ne) := opD2 fun pins s σ H x y v u Q F a b d I rx ry e ha hb hp q => by
  have hp : bb ((eqD a b).map (!·)) = some d := hp
  unfold eqD at hp
  split at hp
  · rename_i hz
    cases hp
    rw [Bool.and_eq_true, Bool.and_eq_true] at hz
    obtain ⟨as, r1⟩ := rdReads I e ha rx hz.1.1
    obtain ⟨bs, r2⟩ := rdReads I e hb ry hz.1.2
    exact PySem.SeqAt.ne_plain r1 r2 hz.1.1 hz.1.2 (dep_room hu hz.2) ⟨.bl _, H, I, rfl, q _ F H (Step.refl e) (.bl _)⟩
  · cases hp

theorem cmp_room {a b : D} {u : Nat} (hu : u + 100 < cLine) (h : cmpOk a b = true) : a.plain = true ∧ b.plain = true ∧ W.alike a b = true ∧ a ≠ .none ∧ u + min a.depth b.depth < cLine := by
  unfold cmpOk at h
  simp only [Bool.and_eq_true] at h
  obtain ⟨⟨⟨⟨h1, h2⟩, h3⟩, h4⟩, h5⟩ := h
  refine ⟨h1, h2, h3, ?_, dep_room hu h5⟩
  rintro rfl
  cases h4
theorem op_ltD (hu : X.A.units + 100 < cLine) : OpR X (compareOp .Lt) (r2D X.K .lt) := opD2 fun pins s σ H x y v u Q F a b d I rx ry e ha hb hp q => by
  have hp : bb (ltD a b) = some d := hp
  unfold ltD at hp
  split at hp
  · rename_i hz
    cases hp
    obtain ⟨p1, p2, p3, p4, p5⟩ := cmp_room hu hz
    obtain ⟨as, r1⟩ := rdReads I e ha rx p1
    obtain ⟨bs, r2⟩ := rdReads I e hb ry p2
    exact PySem.W.lt_data r1 r2 p3 p4 p5 ⟨.bl _, H, I, rfl, q _ F H (Step.refl e) (.bl _)⟩
  · cases hp
theorem op_gtD (hu : X.A.units + 100 < cLine) : OpR X (compareOp .Gt) (r2D X.K .gt) := opD2 fun pins s σ H x y v u Q F a b d I rx ry e ha hb hp q => by
  have hp : bb (gtD a b) = some d := hp
  unfold gtD at hp
  split at hp
  · rename_i hz
    cases hp
    obtain ⟨p1, p2, p3, p4, p5⟩ := cmp_room hu hz
    obtain ⟨as, r1⟩ := rdReads I e ha rx p1
    obtain ⟨bs, r2⟩ := rdReads I e hb ry p2
    exact PySem.W.gt_data r1 r2 p3 p4 p5 ⟨.bl _, H, I, rfl, q _ F H (Step.refl e) (.bl _)⟩
  · cases hp
theorem op_leD (hu : X.A.units + 100 < cLine) : OpR X (compareOp .LtE) (r2D X.K .le) := opD2 fun pins s σ H x y v u Q F a b d I rx ry e ha hb hp q => by
  have hp : bb (leD a b) = some d := hp
  unfold leD at hp
  split at hp
  · rename_i hz
    cases hp
    obtain ⟨p1, p2, p3, p4, p5⟩ := cmp_room hu hz
    obtain ⟨as, r1⟩ := rdReads I e ha rx p1
    obtain ⟨bs, r2⟩ := rdReads I e hb ry p2
    exact PySem.W.le_data r1 r2 p3 p4 p5 ⟨.bl _, H, I, rfl, q _ F H (Step.refl e) (.bl _)⟩
  · cases hp
theorem op_geD (hu : X.A.units + 100 < cLine) : OpR X (compareOp .GtE) (r2D X.K .ge) := opD2 fun pins s σ H x y v u Q F a b d I rx ry e ha hb hp q => by
  have hp : bb (geD a b) = some d := hp
  unfold geD at hp
  split at hp
  · rename_i hz
    cases hp
    obtain ⟨p1, p2, p3, p4, p5⟩ := cmp_room hu hz
    obtain ⟨as, r1⟩ := rdReads I e ha rx p1
    obtain ⟨bs, r2⟩ := rdReads I e hb ry p2
    exact PySem.W.ge_data r1 r2 p3 p4 p5 ⟨.bl _, H, I, rfl, q _ F H (Step.refl e) (.bl _)⟩
  · cases hp
/-! ### in -/
theorem in_room {x : D} {xs : List D} {u : Nat} (hu : u + 100 < cLine) (h : inOk x xs = true) : x.plain = true ∧ PyData.plainAll xs = true ∧ u + 1 + min (PyData.depthAll xs) x.depth < cLine := by
  unfold inOk at h
  simp only [Bool.and_eq_true] at h
  have := of_decide_eq_true h.2
  have e : DEP = 60 := rfl
  exact ⟨h.1.1, h.1.2, by omega⟩
theorem op_inD (hu : X.A.units + 100 < cLine) : OpR X (compareOp .In) (r2D X.K .isin) := opD2 fun pins s σ H x y v u Q F a b d I rx ry e ha hb hp q => by
  have hp : bb (inD a b) = some d := hp
  cases b with
  | list ds =>
    rw [inD] at hp
    split at hp
    · rename_i hz
      cases hp
      obtain ⟨p1, p2, p3⟩ := in_room hu hz
      obtain ⟨as, r1⟩ := rdReads I e ha rx p1
      obtain ⟨bs, r2⟩ := rdReads I e hb ry (by simpa only [PyData.plain] using p2)
      exact PySem.SeqAt.in_list_data r2 r1 p2 p1 p3 ⟨.bl _, H, I, rfl, q _ F H (Step.refl e) (.bl _)⟩
    · cases hp
  | tuple ds =>
    rw [inD] at hp
    split at hp
    · rename_i hz
      cases hp
      obtain ⟨p1, p2, p3⟩ := in_room hu hz
      obtain ⟨as, r1⟩ := rdReads I e ha rx p1
      obtain ⟨bs, r2⟩ := rdReads I e hb ry (by simpa only [PyData.plain] using p2)
      exact PySem.SeqAt.in_tuple_data r2 r1 p2 p1 p3 ⟨.bl _, H, I, rfl, q _ F H (Step.refl e) (.bl _)⟩
    · cases hp
  | dict kvs =>
    rw [inD] at hp
    cases hk : keyOf a with
    | none => rw [hk] at hp; cases hp
    | some k =>
      rw [hk] at hp
      cases hp
      obtain ⟨l, kv, rfl, hl, r⟩ := hb.dict e
      have ea := ha.key hk
      subst ea
      obtain rfl : u = Value.ref l := ry
      refine d_in (by omega) I (DGet.k hl) rx fun s' I' => ⟨.bl _, H, I', rfl, q _ F H (Step.refl e) ?_⟩
      rw [r.isSome hk]
      exact .bl _
  | _ => cases hp
theorem op_notinD (hu : X.A.units + 100 < cLine) : OpR X (compareOp .NotIn) (r2D X.K .notin) := opD2 fun pins s σ H x y v u Q F a b d I rx ry e ha hb hp q => by
  have hp : bb ((inD a b).map (!·)) = some d := hp
  cases b with
  | list ds =>
    rw [inD] at hp
    split at hp
    · rename_i hz
      cases hp
      obtain ⟨p1, p2, p3⟩ := in_room hu hz
      obtain ⟨as, r1⟩ := rdReads I e ha rx p1
      obtain ⟨bs, r2⟩ := rdReads I e hb ry (by simpa only [PyData.plain] using p2)
      exact PySem.SeqAt.notIn_list_data r2 r1 p2 p1 p3 ⟨.bl _, H, I, rfl, q _ F H (Step.refl e) (.bl _)⟩
    · cases hp
  | tuple ds =>
    rw [inD] at hp
    split at hp
    · rename_i hz
      cases hp
      obtain ⟨p1, p2, p3⟩ := in_room hu hz
      obtain ⟨as, r1⟩ := rdReads I e ha rx p1
      obtain ⟨bs, r2⟩ := rdReads I e hb ry (by simpa only [PyData.plain] using p2)
      exact PySem.SeqAt.notIn_tuple_data r2 r1 p2 p1 p3 ⟨.bl _, H, I, rfl, q _ F H (Step.refl e) (.bl _)⟩
    · cases hp
  | dict kvs =>
    rw [inD] at hp
    cases hk : keyOf a with
    | none => rw [hk] at hp; cases hp
    | some k =>
      rw [hk] at hp
      cases hp
      obtain ⟨l, kv, rfl, hl, r⟩ := hb.dict e
      have ea := ha.key hk
      subst ea
      obtain rfl : u = Value.ref l := ry
      refine d_notIn (by omega) I (DGet.k hl) rx fun s' I' => ⟨.bl _, H, I', rfl, q _ F H (Step.refl e) ?_⟩
      rw [r.isSome hk]
      exact .bl _
  | _ => cases hp
/-! ### is -/
theorem rp_non {K : PySem.W.Frag} {F H : Hp} {x : V} {a : D} (h : Rd1 K F H x a) : decide (x = .non) = isNone a := by
  rcases h with h | ⟨p, o, rfl, _, _, h⟩
  · cases h <;> rfl
  · cases h <;> rfl
theorem op_isND : OpR X (compareOp .Is) (r2D X.K .isN) := opD2 fun pins s σ H x y v u Q F a b d I rx ry e ha hb hp q => by
  cases b with
  | none =>
    have hp : some (PyData.bool (isNone a)) = some d := hp
    cases hp
    have z := rp_non ha
    refine op_isN pins s σ H x y v u Q I rx ry ⟨hb.none, ?_⟩
    rw [z]
    exact q _ F H (Step.refl e) (.bl _)
  | _ => cases hp
theorem op_notND : OpR X (compareOp .IsNot) (r2D X.K .notN) := opD2 fun pins s σ H x y v u Q F a b d I rx ry e ha hb hp q => by
  cases b with
  | none =>
    have hp : some (PyData.bool (!isNone a)) = some d := hp
    cases hp
    have z := rp_non ha
    refine op_notN pins s σ H x y v u Q I rx ry ⟨hb.none, ?_⟩
    rw [z]
    exact q _ F H (Step.refl e) (.bl _)
  | _ => cases hp
theorem op_isBD : OpR X (compareOp .Is) (r2D X.K .isB) := opD2 fun pins s σ H x y v u Q F a b d I rx ry e ha hb hp q => by
  have hp : bb (isBD a b) = some d := hp
  cases a with
  | bool i =>
    cases b with
    | bool j =>
      cases hp
      exact op_isBl pins s σ H x y v u Q I rx ry ⟨i, j, ha.bool, hb.bool, q _ F H (Step.refl e) (.bl _)⟩
    | _ => cases hp
  | _ => cases hp
theorem op_notBD : OpR X (compareOp .IsNot) (r2D X.K .notB) := opD2 fun pins s σ H x y v u Q F a b d I rx ry e ha hb hp q => by
  have hp : bb ((isBD a b).map (!·)) = some d := hp
  cases a with
  | bool i =>
    cases b with
    | bool j =>
      cases hp
      exact op_notBl pins s σ H x y v u Q I rx ry ⟨i, j, ha.bool, hb.bool, q _ F H (Step.refl e) (.bl _)⟩
    | _ => cases hp
  | _ => cases hp
theorem un_negD : UnR X (unaryOp .USub) (r1D X.K .neg) := by
  intro pins s σ H x v Q I rx hh
  obtain ⟨F, ds, d, e, hr, hp, q⟩ := hh
  obtain ⟨a, rfl, ha⟩ := hr.inv1
  have hp : negD a = some d := hp
  cases a with
  | int i =>
    cases hp
    exact un_neg pins s σ H x v Q I rx ⟨i, ha.int, q _ F H (Step.refl e) (.int _)⟩
  | _ => cases hp

/-! ### subscripts, slices -/
theorem RpA.atI {K : PySem.W.Frag} {F : Hp} {xs : List V} {ds : List D} {i : Int} {d : D} (r : RpA K F xs ds) (h : L2.atI ds i = some d) : ∃ v, L2.atI xs i = some v ∧ Rp K F v d := by
  unfold L2.atI at h ⊢
  rw [r.length]
  cases e : L2.ixN ds.length i with
  | none => rw [e] at h; cases h
  | some j =>
    rw [e] at h
    exact r.get h
open PyProof.Rows PySem.Calls in
theorem sub_dict {prog : Program} {w : World} {A : Around} {E : Value → Shared → Prop} {s : Shared} {o i : Value} {Q : Value → Shared → Prop} (value slice : Expr) (hs : subscripted slice false o i = operate [o, i] (getItem o i)) (hT : s.TypeIs o "dict")
    (h : wpAny (model prog w) A (getItem o i) Q E s) : wpAny (model prog w) A (subscriptTail value slice o i) Q E s := by
  unfold subscriptTail
  refine wpAny_bind ?_
  rw [getitemInPython_of_ne hT.not_modules]
  refine wpAny_bind (wpAny_specialOf hT PySem.F.slot_dict_getitem.lookup ?_)
  have fin : wpAny (model prog w) A (subscripted slice false o i) (fun r s₃ => wpAny (model prog w) A (letTemporaryGo value o r >>= fun _ => pure r) Q E s₃) E s := by
    rw [hs]
    exact wpAny_operating (wpAny_mono h (fun r s₃ h₃ => wpAny_bind (wpAny_letTemporaryGo (wpAny_pure h₃))) fun _ _ x => x)
  first
    | exact wpAny_pure (wpAny_bind fin)
    | exact wpAny_bind (wpAny_pure (wpAny_bind fin))
    | exact wpAny_bind fin
theorem ix_D (hu : X.A.units + 100 < cLine) : IxR X (r2D X.K .ix) := by
  intro value slice pins s σ H x y v u Q I rx ry hh hs
  obtain ⟨F, ds, d, e, hr, hp, q⟩ := hh
  obtain ⟨a, b, rfl, ha, hb⟩ := hr.inv2
  have hp : ixD a b = some d := hp
  cases a with
  | list ds =>
    cases b with
    | int i =>
      obtain ⟨l, xs, rfl, hl, r⟩ := ha.list e
      obtain ⟨w, hw, rw'⟩ := r.atI hp
      exact ix_list value slice pins s σ H _ y v u Q I rx ry ⟨l, xs, i, w, rfl, hb.int, .inl (.inl hl), hw, q _ F H (Step.refl e) rw'⟩ hs
    | _ => cases hp
  | tuple ds =>
    cases b with
    | int i =>
      obtain ⟨l, xs, rfl, hl, r, _⟩ := ha.tuple e
      obtain ⟨w, hw, rw'⟩ := r.atI hp
      exact ix_tup value slice pins s σ H _ y v u Q I rx ry ⟨l, xs, i, w, rfl, hb.int, e.sqT hl, hw, q _ F H (Step.refl e) rw'⟩ hs
    | _ => cases hp
  | dict kvs =>
    have hp : ((keyOf b).bind fun _ => findKv kvs b) = some d := by cases b <;> exact hp
    cases hk : keyOf b with
    | none => rw [hk] at hp; cases hp
    | some k =>
      rw [hk] at hp
      have hp : findKv kvs b = some d := hp
      obtain ⟨l, kv, rfl, hl, r⟩ := ha.dict e
      have eb := hb.key hk
      subst eb
      obtain rfl : v = Value.ref l := rx
      rcases r.val hk with ⟨w, x, e1, e2, e3⟩ | ⟨_, e2⟩
      · rw [e2] at hp
        cases hp
        have g : DGet H l (kV k) (some w) := e1 ▸ DGet.k hl
        exact sub_dict value slice hs (dict_typeIs I g) (d_getItem (by omega) I g ry fun w' s' I' rw' => ⟨w, H, I', rw', q _ F H (Step.refl e) e3⟩)
      · rw [e2] at hp
        cases hp
  | _ => cases hp
/-- a slice, by data -/
def rSlD (K : PySem.W.Frag) : V → Option Int → Option Int → Hp → VK → Prop := fun x lo hi H Q =>
  ∃ F a d, Ex F H ∧ Rd1 K F H x a ∧ slD lo hi a = some d ∧ ∀ v F' H', Step none F H F' H' → Rp K F' v d → Q v H'
theorem RpA.cut {K : PySem.W.Frag} {F : Hp} {xs : List V} {ds : List D} (lo hi : Option Int) (r : RpA K F xs ds) : RpA K F (cutV xs lo hi) (cutL ds lo hi) := by
  unfold cutV cutL
  rw [r.length]
  exact (r.drop _).take _
theorem sl_D : SlR X (rSlD X.K) := by
  intro pins s σ H x v vl vu lo hi sl Q I rx hs pl pu hh
  obtain ⟨F, a, d, e, ha, hp, q⟩ := hh
  cases a with
  | list ds =>
    cases hp
    obtain ⟨l, xs, rfl, hl, r⟩ := ha.list e
    refine sl_list pins s σ H _ v vl vu lo hi sl Q I rx hs pl pu ⟨l, xs, rfl, .inl (.inl hl), fun p hn => ?_⟩
    have st : Step none F H (upd F p (.lst (cutV xs lo hi))) (upd H p (.lst (cutV xs lo hi))) := Step.newF e hn
    exact q _ _ _ st (.lst upd_same ((r.cut lo hi).mono st.ef))
  | tuple ds =>
    cases hp
    obtain ⟨l, xs, rfl, hl, r, k⟩ := ha.tuple e
    refine sl_tupA pins s σ H _ v vl vu lo hi sl Q I rx hs pl pu ⟨l, xs, rfl, e.sqT hl, fun hw => ?_, fun _ p hn => ?_⟩
    · have z : cutL ds lo hi = ds := by
        rw [r.length] at hw
        unfold cutL
        rw [hw.1, hw.2]
        simp
      rw [z] at q
      exact q _ F H (Step.refl e) k
    · have st : Step none F H (upd F p (.tup (cutV xs lo hi))) (upd H p (.tup (cutV xs lo hi))) := Step.newF e hn
      exact q _ _ _ st (.tup (.inl (.inl upd_same)) ((r.cut lo hi).mono st.ef))
  | _ => cases hp

/-! ### built-ins -/
theorem callD1 {f : Value} {p : Prim} (h : ∀ (pins : List (Addr × Obj)) (s : Shared) (σ : St) (H : Hp) (x : V) (us : List Value) (Q : VK) (F : Hp) (a d : D), Inv X pins σ H s → Vals [x] us →
    Ex F H → Rd1 X.K F H x a → prim p [a] = some d → (∀ v F' H', Step none F H F' H' → ResB (freshP p) X.K H F' H' v d → Q v H') →
    wpAny (model X.prog X.w) X.A (call f us) (EP X pins σ Q) X.xe s) : CallR X f (fun xs H Q => ∃ x, xs = [x] ∧ r1D X.K p x H Q) := by
  intro pins s σ H xs us Q I r hh
  obtain ⟨x, rfl, F, ds, d, e, hr, hp, q⟩ := hh
  obtain ⟨a, rfl, ha⟩ := hr.inv1
  exact h pins s σ H x us Q F a d I r e ha hp q
theorem callD2 {f : Value} {p : Prim} (h : ∀ (pins : List (Addr × Obj)) (s : Shared) (σ : St) (H : Hp) (x y : V) (us : List Value) (Q : VK) (F : Hp) (a b d : D), Inv X pins σ H s → Vals [x, y] us →
    Ex F H → Rd1 X.K F H x a → Rd1 X.K F H y b → prim p [a, b] = some d → (∀ v F' H', Step none F H F' H' → ResB (freshP p) X.K H F' H' v d → Q v H') →
    wpAny (model X.prog X.w) X.A (call f us) (EP X pins σ Q) X.xe s) : CallR X f (fun xs H Q => ∃ x y, xs = [x, y] ∧ r2D X.K p x y H Q) := by
  intro pins s σ H xs us Q I r hh
  obtain ⟨x, y, rfl, F, ds, d, e, hr, hp, q⟩ := hh
  obtain ⟨a, b, rfl, ha, hb⟩ := hr.inv2
  exact h pins s σ H x y us Q F a b d I r e ha hb hp q
theorem call_lenD : CallR X (.builtin "len") (fun xs H Q => ∃ x, xs = [x] ∧ r1D X.K .len x H Q) := callD1 fun pins s σ H x us Q F a d I r e ha hp q => by
  have hp : lenD a = some d := hp
  cases a with
  | list ds =>
    cases hp
    obtain ⟨l, xs, rfl, hl, r1⟩ := ha.list e
    refine call_len_seq pins s σ H _ us Q I r ⟨l, xs, rfl, .inl (.inl (.inl hl)), ?_⟩
    rw [r1.length]
    exact q _ F H (Step.refl e) (.int _)
  | tuple ds =>
    cases hp
    obtain ⟨l, xs, rfl, hl, r1, _⟩ := ha.tuple e
    refine call_len_seq pins s σ H _ us Q I r ⟨l, xs, rfl, .inr (e.sqT hl), ?_⟩
    rw [r1.length]
    exact q _ F H (Step.refl e) (.int _)
  | str z =>
    rw [lenD] at hp
    split at hp
    · rename_i hz
      cases hp
      rw [ha.str] at r
      exact call_len_str pins s σ H _ us Q I r ⟨z, rfl, by rw [← lim_eq]; exact hz, q _ F H (Step.refl e) (.int _)⟩
    · cases hp
  | dict kvs =>
    cases hp
    obtain ⟨l, kv, rfl, hl, r1⟩ := ha.dict e
    obtain ⟨u, rfl, ru⟩ := Vals.one r
    obtain rfl : u = Value.ref l := ru
    refine d_len I (.inl hl) fun t s' I' => ⟨.int kv.length, H, I', ⟨t, rfl⟩, ?_⟩
    rw [r1.length]
    exact q _ F H (Step.refl e) (.int _)
  | _ => cases hp
theorem sumT_raw {prog : Program} {w : World} {A : Around} {E : Value → Shared → Prop} {s : Shared} {t : Addr} {its : List Value} {ns : List Int} {Q : Value → Shared → Prop} (hh : A.handled = none) (hl : s.heap.IsTuple t its.toArray) (hi : PyProof.Rows.IntsAre its ns)
    (h : ∀ h' tk t', (∀ b o, s.heap.get? b = some o → h'.get? b = some o) → Q (.int ns.sum t') { s with heap := h', toks := tk }) : wpAny (model prog w) A (call (.builtin "sum") [.ref t]) Q E s := by
  obtain ⟨xs, e⟩ := hi.allInts.items
  have hn : PySem.numsOf (intItems xs).toList = ns := by rw [← e]; exact hi.numsOf
  rw [PySem.nums_intItems] at hn
  rw [e] at hl
  refine PySem.W.ktm_sumG hh hl fun h' tk t' hk => ?_
  have := h h' tk t' hk
  rw [PySem.preSum_eq, List.take_of_length_le (by simp), hn]; exact this
theorem call_sumD (hc : X.calm = true) : CallR X (.builtin "sum") (fun xs H Q => ∃ x, xs = [x] ∧ r1D X.K .sum x H Q) := callD1 fun pins s σ H x us Q F a d I r e ha hp q => by
  have hp : sumD a = some d := hp
  cases a with
  | list ds =>
    obtain ⟨l, xs, rfl, hl, r1⟩ := ha.list e
    rw [sumD] at hp
    cases hi : intsOf ds with
    | none => rw [hi] at hp; cases hp
    | some ns =>
      rw [hi] at hp
      cases hp
      have hv := r1.of_ints hi
      rw [hv] at hl
      exact cr_sum hc pins s σ H _ us Q I r ⟨l, ns, rfl, .inl (.inl hl), q _ F H (Step.refl e) (.int _)⟩
  | tuple ds =>
    obtain ⟨l, xs, rfl, hl, r1, _⟩ := ha.tuple e
    rw [sumD] at hp
    cases hi : intsOf ds with
    | none => rw [hi] at hp; cases hp
    | some ns =>
      rw [hi] at hp
      cases hp
      have hv := r1.of_ints hi
      rw [hv] at hl
      obtain ⟨its, rv, ht, _⟩ := I.tuple (e.sqT hl)
      rw [Vals.ref1 r]
      refine sumT_raw (I.ok.hd hc) ht rv.ints fun h' tk t' hk => ⟨.int _, H, I.kept hk, ⟨_, rfl⟩, q _ F H (Step.refl e) (.int _)⟩
  | _ => cases hp
theorem call_absD : CallR X (.builtin "abs") (fun xs H Q => ∃ x, xs = [x] ∧ r1D X.K .abs x H Q) := callD1 fun pins s σ H x us Q F a d I r e ha hp q => by
  have hp : absD a = some d := hp
  cases a with
  | int i =>
    cases hp
    rw [ha.int] at r
    exact call_abs pins s σ H _ us Q I r ⟨i, rfl, q _ F H (Step.refl e) (.int _)⟩
  | _ => cases hp
theorem call_allD (hc : X.calm = true) : CallR X (.builtin "all") (fun xs H Q => ∃ x, xs = [x] ∧ r1D X.K .all x H Q) := callD1 fun pins s σ H x us Q F a d I r e ha hp q => by
  have hp : allD a = some d := hp
  cases a with
  | list ds =>
    obtain ⟨l, xs, rfl, hl, r1⟩ := ha.list e
    rw [allD] at hp
    cases hi : boolsOf ds with
    | none => rw [hi] at hp; cases hp
    | some ns =>
      rw [hi] at hp
      cases hp
      have hv := r1.of_bools hi
      rw [hv] at hl
      exact cr_all hc pins s σ H _ us Q I r ⟨l, ns, rfl, .inl (.inl hl), q _ F H (Step.refl e) (.bl _)⟩
  | _ => cases hp
theorem call_anyD (hc : X.calm = true) : CallR X (.builtin "any") (fun xs H Q => ∃ x, xs = [x] ∧ r1D X.K .any x H Q) := callD1 fun pins s σ H x us Q F a d I r e ha hp q => by
  have hp : anyD a = some d := hp
  cases a with
  | list ds =>
    obtain ⟨l, xs, rfl, hl, r1⟩ := ha.list e
    rw [anyD] at hp
    cases hi : boolsOf ds with
    | none => rw [hi] at hp; cases hp
    | some ns =>
      rw [hi] at hp
      cases hp
      have hv := r1.of_bools hi
      rw [hv] at hl
      exact cr_any hc pins s σ H _ us Q I r ⟨l, ns, rfl, .inl (.inl hl), q _ F H (Step.refl e) (.bl _)⟩
  | _ => cases hp
theorem call_intD : CallR X (.type "int") (fun xs H Q => ∃ x, xs = [x] ∧ r1D X.K .int x H Q) := callD1 fun pins s σ H x us Q F a d I r e ha hp q => by
  have hp : intD a = some d := hp
  cases a with
  | int i =>
    cases hp
    rw [ha.int] at r
    exact call_int1 pins s σ H _ us Q I r (.inl ⟨i, rfl, q _ F H (Step.refl e) (.int _)⟩)
  | bool i =>
    cases hp
    rw [ha.bool] at r
    exact call_int1 pins s σ H _ us Q I r (.inr ⟨i, rfl, q _ F H (Step.refl e) (.int _)⟩)
  | _ => cases hp
theorem call_tupleD : CallR X (.type "tuple") (fun xs H Q => ∃ x, xs = [x] ∧ r1D X.K .tuple x H Q) := callD1 fun pins s σ H x us Q F a d I r e ha hp q => by
  have hp : tupleD a = some d := hp
  cases a with
  | list ds =>
    cases hp
    obtain ⟨l, xs, rfl, hl, r1⟩ := ha.list e
    refine call_tuple_of pins s σ H _ us Q I r ⟨l, xs, rfl, .inl ⟨.inl (.inl hl), fun p hn => ?_⟩⟩
    have st : Step none F H (upd F p (.tup xs)) (upd H p (.tup xs)) := Step.newF e hn
    exact q _ _ _ st (.tup (.inl (.inl upd_same)) (r1.mono st.ef))
  | tuple ds =>
    cases hp
    obtain ⟨l, xs, rfl, hl, r1, k⟩ := ha.tuple e
    exact call_tuple_of pins s σ H _ us Q I r ⟨l, xs, rfl, .inr ⟨e.sqT hl, q _ F H (Step.refl e) k⟩⟩
  | _ => cases hp
theorem call_listD : CallR X (.type "list") (fun xs H Q => ∃ x, xs = [x] ∧ r1D X.K .list x H Q) := callD1 fun pins s σ H x us Q F a d I r e ha hp q => by
  have hp : listD a = some d := hp
  cases a with
  | list ds =>
    cases hp
    obtain ⟨l, xs, rfl, hl, r1⟩ := ha.list e
    refine call_list_of pins s σ H _ us Q I r ⟨l, xs, rfl, .inl (.inl (.inl hl)), fun p hn => ?_⟩
    exact q _ _ _ (Step.new e hn) ⟨p, _, rfl, hn, e.none hn, upd_same, .lst r1⟩
  | tuple ds =>
    cases hp
    obtain ⟨l, xs, rfl, hl, r1, k⟩ := ha.tuple e
    refine call_list_of pins s σ H _ us Q I r ⟨l, xs, rfl, .inr (e.sqT hl), fun p hn => ?_⟩
    exact q _ _ _ (Step.new e hn) ⟨p, _, rfl, hn, e.none hn, upd_same, .lst r1⟩
  | _ => cases hp
theorem pairsOf_inv {K : PySem.W.Frag} {F H : Hp} (e : Ex F H) : ∀ {xs : List D} {ps : List (D × D)} {us : List V}, RpA K F us xs → pairsOf xs = some ps →
    ∃ (as : List Addr) (kvs : List (Key × V)), us = as.map V.ref ∧ Paired (fun p kv => SqT K H p [kV kv.1, kv.2]) as kvs ∧ RpK K F kvs ps
  | [], ps, us, r, h => by
    cases h
    cases r
    exact ⟨[], [], rfl, .nil, .nil⟩
  | x :: xs, ps, us, r, h => by
    cases r with
    | @cons u us _ _ r1 r2 =>
      unfold pairsOf at h
      split at h
      · rename_i z; cases z
      · rename_i k v r' z
        cases z
        split at h
        · rename_i hk
          cases hk2 : keyOf k with
          | none => rw [hk2] at hk; cases hk
          | some j =>
            cases h2 : pairsOf xs with
            | none => rw [h2] at h; cases h
            | some qs =>
              rw [h2] at h
              cases h
              obtain ⟨as, kvs, rfl, h3, h4⟩ := pairsOf_inv e r2 h2
              have hkD := keyOf_inv hk2
              subst hkD
              cases r1 with
              | @tup a ys _ hs ra =>
                cases ra with
                | @cons y1 ys1 _ _ q1 ra =>
                  cases ra with
                  | @cons y2 ys2 _ _ q2 ra =>
                    cases ra
                    have e1 : y1 = kV j := by
                      cases j with
                      | inl i => cases q1; rfl
                      | inr i => cases q1; rfl
                    subst e1
                    exact ⟨a :: as, (j, y2) :: kvs, rfl, .cons (e.sqT hs) h3, .cons q2 h4⟩
        · cases h
      · cases h
theorem RpK.merge {K : PySem.W.Frag} {F : Hp} : ∀ {kvs : List (Key × V)} {ps : List (D × D)} {kv : List (Key × V)} {ds : List (D × D)}, RpK K F kvs ps → RpK K F kv ds → RpK K F (mergeK kv kvs) (ps.foldl (fun d p => putKvE d p.1 p.2) ds)
  | [], [], _, _, _, h => h
  | [], _ :: _, _, _, r, _ => by cases r
  | _ :: _, [], _, _, r, _ => by cases r
  | (k, v) :: kvs, (a, d) :: ps, kv, ds, r, h => by
    cases r with
    | cons r1 r2 => exact RpK.merge (kvs := kvs) (ps := ps) r2 (RpK.put (keyOf_kD k) r1 h)
theorem call_dictPD (hc : X.calm = true) : CallR X (.type "dict") (fun xs H Q => ∃ x, xs = [x] ∧ r1D X.K .dictP x H Q) := callD1 fun pins s σ H x us Q F a d I r e ha hp q => by
  have hp : dictPD a = some d := hp
  cases a with
  | list ds =>
    have hp : ((pairsOf ds).map fun ps => PyData.dict (ps.foldl (fun d p => putKvE d p.1 p.2) [])) = some d := hp
    cases h1 : pairsOf ds with
    | none => rw [h1] at hp; cases hp
    | some ps =>
      rw [h1] at hp
      cases hp
      obtain ⟨l, xs, rfl, hl, r1⟩ := ha.list e
      obtain ⟨as, kvs, rfl, h3, h4⟩ := pairsOf_inv e r1 h1
      refine call_dictP hc pins s σ H _ us Q I r ⟨l, as, kvs, rfl, .inl (.inl hl), h3, fun p hn => ?_⟩
      exact q _ _ _ (Step.new e hn) ⟨p, _, rfl, hn, e.none hn, upd_same, .dk (h4.merge .nil)⟩
  | _ => cases hp
theorem call_max2D (hc : X.calm = true) : CallR X (.builtin "max") (fun xs H Q => ∃ x y, xs = [x, y] ∧ r2D X.K .max2 x y H Q) := callD2 fun pins s σ H x y us Q F a b d I r e ha hb hp q => by
  have hp : max2D a b = some d := hp
  cases a with
  | int i =>
    cases b with
    | int j =>
      cases hp
      rw [ha.int, hb.int] at r
      exact call_max2 hc pins s σ H _ us Q I r ⟨i, j, rfl, q _ F H (Step.refl e) (.int _)⟩
    | _ => cases hp
  | _ => cases hp
theorem call_min2D (hc : X.calm = true) : CallR X (.builtin "min") (fun xs H Q => ∃ x y, xs = [x, y] ∧ r2D X.K .min2 x y H Q) := callD2 fun pins s σ H x y us Q F a b d I r e ha hb hp q => by
  have hp : min2D a b = some d := hp
  cases a with
  | int i =>
    cases b with
    | int j =>
      cases hp
      rw [ha.int, hb.int] at r
      exact call_min2 hc pins s σ H _ us Q I r ⟨i, j, rfl, q _ F H (Step.refl e) (.int _)⟩
    | _ => cases hp
  | _ => cases hp
theorem call_gcdD : CallR X (.builtin "math.gcd") (fun xs H Q => ∃ x y, xs = [x, y] ∧ r2D X.K .gcd2 x y H Q) := callD2 fun pins s σ H x y us Q F a b d I r e ha hb hp q => by
  have hp : gcdD a b = some d := hp
  cases a with
  | int i =>
    cases b with
    | int j =>
      cases hp
      rw [ha.int, hb.int] at r
      exact cr_gcd pins s σ H _ us Q I r ⟨i, j, rfl, q _ F H (Step.refl e) (.int _)⟩
    | _ => cases hp
  | _ => cases hp
end
end PyI
set_option Elab.async false
set_option linter.all false
set_option maxRecDepth 100000
set_option maxHeartbeats 1000000
namespace PyI
open PySem L2 PySem.Spec

/-! ### t[::-1] of a tuple -/
section
open PyProof.Rows PySem.SeqAt PySem.MeetsSeq PySem.MeetsSeq2 PySem.MeetsSeq3
variable {prog : Program} {w : World} {A : Around} {E : Value → Shared → Prop} {s : Shared}
theorem sliceApplied_rev {sl : Addr} {vl vu vs : Value} {n : Nat} {Q : Int × Int × Nat → Shared → Prop} (hs : s.heap.IsSliceOf sl vl vu vs) (pl : IsPart vl none) (pu : IsPart vu none) (ps : IsPart vs (some (-1)))
    (h : Q ((n : Int) - 1, -1, n) s) : wpAny (model prog w) A (Builtin.Slice.sliceApplied (.ref sl) (pure (n : Int))) Q E s := by
  obtain ⟨os, hos, hcs, hds⟩ := id hs
  unfold Builtin.Slice.sliceApplied Builtin.Slice.sliceFields
  refine wpAny_bind (wpAny_bind (wpAny_field hos hds (x := vl) rfl (wpAny_bind (wpAny_field hos hds (x := vu) rfl (wpAny_bind (wpAny_field hos hds (x := vs) rfl (wpAny_pure ?_)))))))
  refine wpAny_bind (HT.slicePart_ ps ?_)
  show wpAny _ _ (if ((-1 : Int) == 0) = true then _ else _) _ _ s
  rw [if_neg (by decide)]
  refine wpAny_bind (HT.slicePart_ pl (wpAny_bind (HT.slicePart_ pu (wpAny_bind (wpAny_pure ?_)))))
  show wpAny _ _ (match Builtin.Slice.sliceAdjust none none (-1) (n : Int) with | (lo, hi) => pure (lo, (-1 : Int), Builtin.Slice.slicePlaces lo hi (-1))) _ _ s
  have e1 : Builtin.Slice.sliceAdjust none none (-1) (n : Int) = ((n : Int) - 1, -1) := by
    unfold Builtin.Slice.sliceAdjust
    simp
  have e2 : Builtin.Slice.slicePlaces ((n : Int) - 1) (-1) (-1) = n := by
    unfold Builtin.Slice.slicePlaces
    simp
    omega
  rw [e1]
  show wpAny _ _ (pure ((n : Int) - 1, (-1 : Int), Builtin.Slice.slicePlaces ((n : Int) - 1) (-1) (-1))) _ _ s
  rw [e2]
  exact wpAny_pure h
theorem fm_some {α β : Type} {f : α → Option β} {g : α → β} : ∀ {l : List α}, (∀ x ∈ l, f x = some (g x)) → l.filterMap f = l.map g
  | [], _ => rfl
  | x :: l, h => by
    rw [List.filterMap_cons, h x (List.mem_cons_self ..), List.map_cons]
    simp only
    rw [fm_some fun y hy => h y (List.mem_cons_of_mem _ hy)]
theorem pick_rev (xs : Array Value) : ((List.range xs.size).filterMap fun (m : Nat) => xs[((xs.size : Int) - 1 + (m : Int) * -1).toNat]?).toArray = xs.toList.reverse.toArray := by
  congr 1
  apply List.ext_getElem?
  intro i
  have e : ((List.range xs.size).filterMap fun (m : Nat) => xs[((xs.size : Int) - 1 + (m : Int) * -1).toNat]?) = (List.range xs.size).map fun m => xs.toList.getD (xs.size - 1 - m) .none := by
    refine fm_some fun m hm => ?_
    have hm := List.mem_range.mp hm
    have z : ((xs.size : Int) - 1 + (m : Int) * -1).toNat = xs.size - 1 - m := by omega
    have hl : xs.size - 1 - m < xs.toList.length := by rw [Array.length_toList]; omega
    rw [z, ← Array.getElem?_toList, List.getElem?_eq_getElem hl, List.getD_eq_getElem?_getD, List.getElem?_eq_getElem hl]
    rfl
  rw [e, List.getElem?_map]
  by_cases hi : i < xs.size
  · have hl : xs.size - 1 - i < xs.toList.length := by rw [Array.length_toList]; omega
    rw [List.getElem?_range hi, List.getElem?_reverse (by rw [Array.length_toList]; exact hi), Array.length_toList, List.getElem?_eq_getElem hl]
    simp only [Option.map_some, List.getD_eq_getElem?_getD, List.getElem?_eq_getElem hl, Option.getD_some]
  · rw [List.getElem?_eq_none (by simp; omega), List.getElem?_eq_none (by simp; omega)]
    rfl
theorem getItem_tuple_rev {t sl : Addr} {items : Array Value} {vl vu vs : Value} {Q : Value → Shared → Prop} (ht : IsTup s.heap t items) (hs : s.heap.IsSliceOf sl vl vu vs) (pl : IsPart vl none) (pu : IsPart vu none) (ps : IsPart vs (some (-1)))
    (h : Q (.ref s.heap.objs.size) { s with heap := s.heap.push { cls := .type "tuple", data := .seq items.toList.reverse.toArray } })
    (hsz : items.size ≤ sizeLine) : wpAny (model prog w) A (getItem (.ref t) (.ref sl)) Q E s := by
  have htake : sizeOk (.seq items.toList.reverse.toArray) := by
    show items.toList.reverse.toArray.size ≤ sizeLine
    rw [List.size_toArray, List.length_reverse, Array.length_toList]
    exact hsz
  obtain ⟨os, hos, hcs, hds⟩ := id hs
  have hTs : s.TypeIs (.ref sl) "slice" := ⟨os, hos, hcs⟩
  unfold getItem
  try with_reducible refine wpAny_holding ?_
  first | refine wpAny_bind (wpAny_pure ?_) | skip
  refine wpAny_bind (wpAny_sequenceKey ht.typeIs (by decide) ?_)
  refine wpAny_bind (wpAny_callSpecial?_slot (name := Str.ofString "__getitem__") ht.typeIs PyProof.Rows.slot_tuple_getitem
    (wpAny_call_entry PyProof.Rows.slot_tuple_getitem ht.typeIs entry_tuple_getitem ?_ (args_tuple_getitem _ _)))
  show wpAny _ _ (Builtin.Tuple.tupleItemsOf (.ref t) >>= _) _ _ s
  refine wpAny_bind (tupleItemsOf_ ht ?_)
  refine wpAny_bind (wpAny_typeOf hTs ?_)
  rw [if_pos (by decide)]
  refine wpAny_bind (sliceApplied_rev hs pl pu ps ?_)
  have hno : ¬ ((((items.size : Int) - 1) == 0 && (-1 : Int) == 1 && items.size == items.size) = true) := by
    intro q
    rw [Bool.and_eq_true, Bool.and_eq_true] at q
    exact absurd q.1.2 (by decide)
  show wpAny _ _ (if (((items.size : Int) - 1) == 0 && (-1 : Int) == 1 && items.size == items.size) = true then _ else _) _ _ s
  rw [if_neg hno, pick_rev]
  first
    | exact wpAny_bind (m := Builtin.Tuple.tupleExact _) (wpAny_newObj_type (wpAny_pure ⟨_, rfl, wpAny_pure h⟩) htake)
    | exact wpAny_bind (m := Builtin.Tuple.tupleExact _) (wpAny_newObj_type (wpAny_bind (wpAny_pure (wpAny_pure ⟨_, rfl, wpAny_pure h⟩))) htake)
end
/-- o[::-1] of a list or a tuple -/
def tRev2 (K : PySem.W.Frag) (te : TE) : TE := fun σ H Q => te σ H fun x H1 => ∃ a xs, x = .ref a ∧ ((SqL K H1 a xs ∧ ∀ p, H1 p = none → Q (.ref p) (upd H1 p (.lst xs.reverse))) ∨ (SqT K H1 a xs ∧ ∀ p, H1 p = none → Q (.ref p) (upd H1 p (.tup xs.reverse))))
open PyProof.Rows in
theorem pe_rev2 {X : Cx} {e : Expr} {te : TE} {k : Nat} {p1 p2 p3 pos : Pos} (he : PE X e te) : PE X (.Subscript e (.Slice none none (some (.UnaryOp .USub (.Constant (.int 1) k p1) p2)) p3) pos) (tRev2 X.K te) := by
  refine ⟨fun pins s σ H Q I h => ?_⟩
  refine Subscript_ (thn (he.run pins s σ H _ I h) fun v s1 ⟨x, H1, I1, r1, q1⟩ => ?_)
  obtain ⟨a, xs, ex, hx⟩ := q1
  subst ex
  cases r1
  have hst : PO X (some (.UnaryOp .USub (.Constant (.int 1) k p1) p2)) (tPart (tUn (rU fun i => .int (-i)) (tC (.int 1)))) := po_some (pe_un un_neg pe_int)
  refine wpAny_Slice (thn (po_none.run pins s1 σ H1 (fun o H2 => o = none ∧ H2 = H1) I1 ⟨rfl, rfl⟩) fun vl s2 ⟨l, H2, I2, pl, el, e2⟩ => ?_)
  subst el e2
  refine thn (po_none.run pins s2 σ H2 (fun o H3 => o = none ∧ H3 = H2) I2 ⟨rfl, rfl⟩) fun vu s3 ⟨u, H3, I3, pu, eu, e3⟩ => ?_
  subst eu e3
  refine thn (hst.run pins s3 σ H3 (fun o H4 => o = some (-1) ∧ H4 = H3) I3 ⟨1, rfl, -1, rfl, rfl, rfl⟩) fun vs s4 ⟨o, H4, I4, ps, eo, e4⟩ => ?_
  subst eo e4
  have I5 : Inv X pins σ H4 { s4 with heap := s4.heap.push { cls := .type "slice", data := .fields #[vl, vu, vs] } } := I4.kept (t' := s4.toks) fun b ob q => Heap.get?_push_of_some _ q
  rcases hx with ⟨hx, q⟩ | ⟨hx, q⟩
  · obtain ⟨its, r, ht, hz⟩ := I5.list hx
    have hlen := r.length
    show wpAny (model X.prog X.w) X.A (subscriptTail e (.Slice none none (some (.UnaryOp .USub (.Constant (.int 1) k p1) p2)) p3) (.ref a) (.ref s4.heap.objs.size)) (EP X pins σ Q) X.xe { s4 with heap := s4.heap.push { cls := .type "slice", data := .fields #[vl, vu, vs] } }
    refine tail_any (ops := [.ref a, .ref s4.heap.objs.size]) ht.isList.typeIs (PySem.slot_list_getitem.lookup) ?_ (by with_unfolding_all rfl)
    refine wpAny_getItem_list_slice ht.isList (Heap.IsSliceOf.new _ vl vu vs) pl pu ps (by decide) ?_ (by rw [List.size_toArray]; omega)
    rw [PySem.W.krv_pick]
    refine ⟨.ref _, _, I5.laid (t' := s4.toks) (o := .lst xs.reverse) (fun b ob q => Heap.get?_push_of_some _ q) (Nat.le_refl _) ?_, rfl, q _ (I5.hok.fresh (Nat.le_refl _))⟩
    exact ⟨by rw [List.length_reverse]; exact hz, _, 0, r.reverse, Heap.get?_push_size _ rfl⟩
  · obtain ⟨its, r, ht, hz⟩ := I5.tuple hx
    have hlen := r.length
    show wpAny (model X.prog X.w) X.A (subscriptTail e (.Slice none none (some (.UnaryOp .USub (.Constant (.int 1) k p1) p2)) p3) (.ref a) (.ref s4.heap.objs.size)) (EP X pins σ Q) X.xe { s4 with heap := s4.heap.push { cls := .type "slice", data := .fields #[vl, vu, vs] } }
    refine tail_any (ops := [.ref a, .ref s4.heap.objs.size]) ht.typeIs (PyProof.Rows.slot_tuple_getitem.lookup) ?_ (by with_unfolding_all rfl)
    refine getItem_tuple_rev ht (Heap.IsSliceOf.new _ vl vu vs) pl pu ps ?_ (by rw [List.size_toArray]; omega)
    refine ⟨.ref _, _, I5.laid (t' := s4.toks) (o := .tup xs.reverse) (fun b ob q => Heap.get?_push_of_some _ q) (Nat.le_refl _) ?_, rfl, q _ (I5.hok.fresh (Nat.le_refl _))⟩
    exact ⟨by rw [List.length_reverse]; exact hz, _, r.reverse, IsTup.new _ _⟩
end PyI
set_option Elab.async false
set_option linter.all false
set_option maxRecDepth 100000
set_option maxHeartbeats 1000000
namespace PyI
open PySem L2 PySem.Spec

theorem alikeB_inv {ds : List D} (h : alikeB ds = true) : PyData.plainAll ds = true ∧ (∀ x ∈ ds, ∀ y ∈ ds, W.alike x y = true) ∧ (∀ x ∈ ds, x ≠ .none) ∧ PyData.depthAll ds ≤ 60 := by
  unfold alikeB at h
  simp only [Bool.and_eq_true, List.all_eq_true] at h
  refine ⟨h.1.1.1, fun x hx y hy => h.1.1.2 x hx y hy, fun x hx z => ?_, of_decide_eq_true h.2⟩
  have := h.1.2 x hx
  rw [z] at this
  cases this
theorem seqOf_inv {a : D} {ds : List D} (h : seqOf a = some ds) : a = .list ds ∨ a = .tuple ds := by
  cases a with
  | list xs => cases h; exact .inl rfl
  | tuple xs => cases h; exact .inr rfl
  | _ => cases h
theorem foldl_mem {α : Type} (f : α → α → Bool) : ∀ (l : List α) (a : α), l.foldl (fun a y => if f a y = true then y else a) a ∈ a :: l
  | [], a => List.mem_cons_self ..
  | y :: l, a => by
    rw [List.foldl_cons]
    have ih := foldl_mem f l (if f a y = true then y else a)
    rcases List.mem_cons.mp ih with h | h
    · rw [h]
      split
      · exact List.mem_cons_of_mem _ (List.mem_cons_self ..)
      · exact List.mem_cons_self ..
    · exact List.mem_cons_of_mem _ (List.mem_cons_of_mem _ h)
theorem minD_mem (x : D) (xs : List D) : W.minD x xs ∈ x :: xs := foldl_mem (fun a y => W.dataLt y a) xs x
theorem maxD_mem (x : D) (xs : List D) : W.maxD x xs ∈ x :: xs := foldl_mem (fun a y => W.dataLt a y) xs x
theorem rpVals {K : PySem.W.Frag} {F : Hp} : ∀ {xs : List V} {ds : List D} {its : List Value}, RpA K F xs ds → Vals xs its → W.EachIs (fun u d => ∃ x, RelV x u ∧ Rp K F x d) its ds
  | _, _, _, .nil, .nil => .nil
  | _, _, _, .cons h r, .cons q rq => .cons ⟨_, q, h⟩ (rpVals r rq)
theorem valsRp {K : PySem.W.Frag} {F : Hp} : ∀ {ds : List D} {its : List Value}, W.EachIs (fun u d => ∃ x, RelV x u ∧ Rp K F x d) its ds → ∃ xs, RpA K F xs ds ∧ Vals xs its
  | _, _, .nil => ⟨[], .nil, .nil⟩
  | _, _, .cons ⟨x, q, h⟩ r => by
    obtain ⟨xs, h1, h2⟩ := valsRp r
    exact ⟨x :: xs, .cons h h1, .cons q h2⟩
theorem readsEach {h : Heap} : ∀ {its : List Value} {ds : List D} {as : List Addr}, ReadsAll h its ds as → W.EachIs (fun v d => ∃ as, Reads h v d as) its ds
  | _, _, _, .nil => .nil
  | _, _, _, .cons h r => .cons ⟨_, h⟩ (readsEach r)
theorem each_get {R : Value → D → Prop} : ∀ {its : List Value} {ds : List D} {i : Nat} {u : Value}, W.EachIs R its ds → its[i]? = some u → ∃ d, ds[i]? = some d ∧ R u d
  | _, _, _, _, .nil, e => by simp at e
  | _, _, 0, _, .cons h _, e => by
    have e' := Option.some.inj (show some _ = some _ from e)
    subst e'
    exact ⟨_, rfl, h⟩
  | _, _, i + 1, _, .cons _ r, e => each_get (i := i) r e
theorem depth_mem : ∀ {ds : List D} {d : D}, d ∈ ds → d.depth ≤ PyData.depthAll ds
  | [], _, h => by simp at h
  | x :: xs, d, h => by
    rw [PyData.depthAll]
    rcases List.mem_cons.mp h with e | h
    · rw [e]; exact Nat.le_max_left _ _
    · exact Nat.le_trans (depth_mem h) (Nat.le_max_right _ _)
section
variable {X : Cx}
/-- the picked item -/
theorem pick {F : Hp} {xs : List V} {ds : List D} {its : List Value} {h h' : Heap} {m : D} {i : Nat} {v : Value} {bs as : List Addr} (r : RpA X.K F xs ds) (rv : Vals xs its) (hr : ReadsAll h its ds as) (al : ∀ x ∈ ds, ∀ y ∈ ds, W.alike x y = true) (hm : m ∈ ds) (hv : its[i]? = some v)
    (hb : Reads h' v m bs) (hk : ∀ b o, h.get? b = some o → h'.get? b = some o) : ∃ x, RelV x v ∧ Rp X.K F x m := by
  obtain ⟨d, hd, x, rx, rp⟩ := each_get (rpVals r rv) hv
  obtain ⟨d2, hd2, as2, r2⟩ := each_get (readsEach hr) hv
  rw [hd] at hd2
  cases hd2
  have e : d = m := W.alike_unique _ _ _ _ _ (al d (List.mem_of_getElem? hd) m hm) (PyProof.Rows.Reads.keeps hk r2) hb
  rw [← e]
  exact ⟨x, rx, rp⟩
theorem call_min1D (hc : X.calm = true) (hu : X.A.units + 100 < cLine) : CallR X (.builtin "min") (fun xs H Q => ∃ x, xs = [x] ∧ r1D X.K .min1 x H Q) := callD1 fun pins s σ H x us Q F a d I r e ha hp q => by
  have hp : min1D a = some d := hp
  unfold min1D at hp
  cases hs : seqOf a with
  | none => rw [hs] at hp; cases hp
  | some ds =>
    rw [hs] at hp
    cases ds with
    | nil => cases hp
    | cons d0 dr =>
      change (if alikeB (d0 :: dr) = true then some (W.minD d0 dr) else none) = some d at hp
      split at hp
      · rename_i hz
        cases hp
        obtain ⟨p1, p2, p3, p4⟩ := alikeB_inv hz
        have room : X.A.units + 1 + PyData.depthAll (d0 :: dr) < cLine := by omega
        rcases seqOf_inv hs with rfl | rfl
        · obtain ⟨l, xs, rfl, hl, r1⟩ := ha.list e
          obtain ⟨its, rv, pl, _⟩ := I.list (.inl (.inl hl))
          obtain ⟨u, rfl, ru⟩ := Vals.one r
          cases ru
          obtain ⟨as, hr⟩ := Dp.readsAll I _ _ its ((r1.mono e).dp p1) rv
          refine PySem.W.min_list_data (I.ok.hd hc) pl.isList (by simpa using hr) ⟨p2, p3⟩ room fun i v h' tk bs hv hb hk => ?_
          obtain ⟨x, rx, rp⟩ := pick r1 rv hr p2 (minD_mem d0 dr) (by simpa using hv) hb hk
          exact ⟨x, H, I.kept hk, rx, q _ F H (Step.refl e) rp⟩
        · obtain ⟨l, xs, rfl, hl, r1, _⟩ := ha.tuple e
          obtain ⟨its, rv, pl, _⟩ := I.tuple (e.sqT hl)
          obtain ⟨u, rfl, ru⟩ := Vals.one r
          cases ru
          obtain ⟨as, hr⟩ := Dp.readsAll I _ _ its ((r1.mono e).dp p1) rv
          refine PySem.W.min_tuple_data (I.ok.hd hc) pl (by simpa using hr) ⟨p2, p3⟩ room fun i v h' tk bs hv hb hk => ?_
          obtain ⟨x, rx, rp⟩ := pick r1 rv hr p2 (minD_mem d0 dr) (by simpa using hv) hb hk
          exact ⟨x, H, I.kept hk, rx, q _ F H (Step.refl e) rp⟩
      · cases hp
theorem call_max1D (hc : X.calm = true) (hu : X.A.units + 100 < cLine) : CallR X (.builtin "max") (fun xs H Q => ∃ x, xs = [x] ∧ r1D X.K .max1 x H Q) := callD1 fun pins s σ H x us Q F a d I r e ha hp q => by
  have hp : max1D a = some d := hp
  unfold max1D at hp
  cases hs : seqOf a with
  | none => rw [hs] at hp; cases hp
  | some ds =>
    rw [hs] at hp
    cases ds with
    | nil => cases hp
    | cons d0 dr =>
      change (if alikeB (d0 :: dr) = true then some (W.maxD d0 dr) else none) = some d at hp
      split at hp
      · rename_i hz
        cases hp
        obtain ⟨p1, p2, p3, p4⟩ := alikeB_inv hz
        have room : X.A.units + 1 + PyData.depthAll (d0 :: dr) < cLine := by omega
        rcases seqOf_inv hs with rfl | rfl
        · obtain ⟨l, xs, rfl, hl, r1⟩ := ha.list e
          obtain ⟨its, rv, pl, _⟩ := I.list (.inl (.inl hl))
          obtain ⟨u, rfl, ru⟩ := Vals.one r
          cases ru
          obtain ⟨as, hr⟩ := Dp.readsAll I _ _ its ((r1.mono e).dp p1) rv
          refine PySem.W.max_list_data (I.ok.hd hc) pl.isList (by simpa using hr) ⟨p2, p3⟩ room fun i v h' tk bs hv hb hk => ?_
          obtain ⟨x, rx, rp⟩ := pick r1 rv hr p2 (maxD_mem d0 dr) (by simpa using hv) hb hk
          exact ⟨x, H, I.kept hk, rx, q _ F H (Step.refl e) rp⟩
        · obtain ⟨l, xs, rfl, hl, r1, _⟩ := ha.tuple e
          obtain ⟨its, rv, pl, _⟩ := I.tuple (e.sqT hl)
          obtain ⟨u, rfl, ru⟩ := Vals.one r
          cases ru
          obtain ⟨as, hr⟩ := Dp.readsAll I _ _ its ((r1.mono e).dp p1) rv
          refine PySem.W.max_tuple_data (I.ok.hd hc) pl (by simpa using hr) ⟨p2, p3⟩ room fun i v h' tk bs hv hb hk => ?_
          obtain ⟨x, rx, rp⟩ := pick r1 rv hr p2 (maxD_mem d0 dr) (by simpa using hv) hb hk
          exact ⟨x, H, I.kept hk, rx, q _ F H (Step.refl e) rp⟩
      · cases hp
theorem sortOk_inv {ds : List D} (h : sortOk ds = true) : alikeB ds = true ∧ SortB ds := by
  unfold sortOk at h
  rw [Bool.and_eq_true, Bool.or_eq_true, Bool.or_eq_true] at h
  refine ⟨h.1, ?_⟩
  rcases h.2 with (h | h) | h
  · refine .inl (.inl fun d hd => ?_)
    have := List.all_eq_true.mp h d hd
    cases d with
    | tuple xs =>
      cases xs with
      | nil => cases this
      | cons x r => exact ⟨x, r, rfl⟩
    | _ => cases this
  · refine .inl (.inr fun d hd => ?_)
    have := List.all_eq_true.mp h d hd
    refine ⟨fun z => ?_, fun xs z => ?_⟩
    · rw [z] at this; cases this
    · rw [z] at this; cases this
  · refine .inr ?_
    match ds, h with
    | .tuple [] :: r, h =>
      refine ⟨⟨r, rfl⟩, fun d hd => ?_⟩
      rcases List.mem_cons.mp hd with rfl | hd
      · exact ⟨[], rfl⟩
      · have := List.all_eq_true.mp h d hd
        cases d with
        | tuple xs => exact ⟨xs, rfl⟩
        | _ => cases this
theorem sortD_len (ds : List D) : (sortD ds).length = ds.length := List.length_mergeSort ds
theorem call_sortedL (hc : X.calm = true) (hu : X.A.units + 100 < cLine) {pins : List (Addr × Obj)} {s : Shared} {σ : St} {H F : Hp} {x : V} {us : List Value} {Q : VK} {ds : List D} {d : D} (I : Inv X pins σ H s) (r : Vals [x] us) (e : Ex F H) (ha : Rd1 X.K F H x (.list ds)) (hp : prim .sorted [.list ds] = some d)
    (q : ∀ v F' H', Step none F H F' H' → ResB (freshP .sorted) X.K H F' H' v d → Q v H') : wpAny (model X.prog X.w) X.A (call (.builtin "sorted") us) (EP X pins σ Q) X.xe s := by
  have hp : (if sortOk ds = true then some (PyData.list (sortD ds)) else none) = some d := hp
  split at hp
  · rename_i hz
    cases hp
    obtain ⟨hz1, hz2⟩ := sortOk_inv hz
    obtain ⟨p1, p2, p3, p4⟩ := alikeB_inv hz1
    obtain ⟨l, xs, rfl, hl, r1⟩ := ha.list e
    obtain ⟨its, rv, pl, hsz⟩ := I.list (.inl (.inl hl))
    obtain ⟨u, rfl, ru⟩ := Vals.one r
    cases ru
    obtain ⟨as, hr⟩ := Dp.readsAll I _ _ its ((r1.mono e).dp p1) rv
    have e1 : ds.map id = ds := List.map_id ds
    refine sorted_dataB (bs := ds) pl.isList (rpVals r1 rv) (readsEach hr) (by rw [e1]; exact p2) (by rw [e1]; exact hz2) (by rw [← r1.length]; exact hsz)
      (fun b hb => by have := depth_mem hb; show X.A.units + 2 + b.depth < cLine; omega) fun out hlen ho => ?_
    obtain ⟨ys, h1, h2⟩ := valsRp ho
    obtain ⟨ep, he'⟩ := PyProof.Rows.sortedAll_at s.heap its out.toArray
    have hn : H (s.heap.objs.size + 1) = none := I.hok.fresh (Nat.le_succ _)
    refine ⟨.ref _, upd H (s.heap.objs.size + 1) (.lst ys), I.laid (t' := s.toks) (fun _ _ => PyProof.Rows.sortedAll_old) (Nat.le_succ _) ⟨?_, out, ep, h2, he'⟩, rfl,
      q _ F _ (Step.new e hn) ⟨_, _, rfl, hn, e.none hn, upd_same, .lst h1⟩⟩
    rw [h1.length]
    exact Nat.le_trans (Nat.le_of_eq (sortD_len ds)) (by rw [← r1.length]; exact hsz)
  · cases hp
/-! ### isinstance -/
def tyName : Prim → String
  | .iInt => "int"
  | .iBool => "bool"
  | .iStr => "str"
  | .iTup => "tuple"
  | .iList => "list"
  | _ => ""
theorem call_isiD (p : Prim) (hp0 : tyName p ≠ "") : CallR X (.builtin "isinstance") (fun xs H Q => ∃ x, xs = [x, .ty (tyName p)] ∧ r1D X.K p x H Q) := by
  intro pins s σ H xs us Q I r hh
  obtain ⟨x, rfl, F, ds, d, e, hr, hp, q⟩ := hh
  obtain ⟨a, rfl, ha⟩ := hr.inv1
  obtain ⟨u, t, rfl, ru, rt⟩ := Vals.two r
  cases rt
  have fin : ∀ {b : Bool} {tk : Nat}, prim p [a] = some (.bool b) → freshP p = false → EP X pins σ Q (.bool b) { s with toks := tk } := fun {b tk} hb hf => by
    rw [hb] at hp
    cases hp
    refine ⟨.bl b, H, I.tok _, rfl, q _ F H (Step.refl e) ?_⟩
    rw [hf]
    exact .bl b
  cases p with
  | iInt =>
    have hp' : (if a.plain = true then some (PyData.bool a.isInt) else none) = some d := hp
    split at hp'
    · rename_i hz
      obtain ⟨as, hr⟩ := rdReads I e ha ru hz
      exact PySem.W.isinstance_int_data hr fun tk _ => fin (by show (if a.plain = true then _ else _) = _; rw [if_pos hz]) rfl
    · cases hp'
  | iBool =>
    have hp' : (if a.plain = true then some (PyData.bool a.isBool) else none) = some d := hp
    split at hp'
    · rename_i hz
      obtain ⟨as, hr⟩ := rdReads I e ha ru hz
      exact PySem.W.isinstance_bool_data hr fun tk _ => fin (by show (if a.plain = true then _ else _) = _; rw [if_pos hz]) rfl
    · cases hp'
  | iStr =>
    have hp' : (if a.plain = true then some (PyData.bool a.isStr) else none) = some d := hp
    split at hp'
    · rename_i hz
      obtain ⟨as, hr⟩ := rdReads I e ha ru hz
      exact PySem.W.isinstance_str_data hr fun tk _ => fin (by show (if a.plain = true then _ else _) = _; rw [if_pos hz]) rfl
    · cases hp'
  | iTup =>
    have hp' : (if a.plain = true then some (PyData.bool a.isTuple) else none) = some d := hp
    split at hp'
    · rename_i hz
      obtain ⟨as, hr⟩ := rdReads I e ha ru hz
      exact PySem.W.isinstance_tuple_data hr fun tk _ => fin (by show (if a.plain = true then _ else _) = _; rw [if_pos hz]) rfl
    · cases hp'
  | iList =>
    have hp' : (if a.plain = true then some (PyData.bool a.isList) else none) = some d := hp
    split at hp'
    · rename_i hz
      obtain ⟨as, hr⟩ := rdReads I e ha ru hz
      exact PySem.W.isinstance_list_data hr fun tk _ => fin (by show (if a.plain = true then _ else _) = _; rw [if_pos hz]) rfl
    · cases hp'
  | _ => exact absurd rfl hp0
end
end PyI
set_option Elab.async false
set_option linter.all false
set_option maxRecDepth 100000
set_option maxHeartbeats 1000000
namespace PyI
open PySem L2 PySem.Spec
section
open PyProof.Rows PySem.Calls
variable {prog : Program} {w : World} {A : Around} {E : Value → Shared → Prop} {s : Shared}
/-- the items of a tuple, collected as those of a list are -/
theorem collectTup {l : Addr} {its : List Value} {R : List Value → Shared → Prop} (tl : s.heap.IsTuple l its.toArray)
    (k : R its { s with heap := (s.heap.push (seqObj "list" #[] 0)).update s.heap.objs.size (Obj.mapSeq (· ++ its.toArray)) }) (fit : its.length ≤ sizeLine) :
    wpAny (model prog w) A (collect (.ref l)) R E s := by
  obtain ⟨o, e0, ec, m, ed⟩ := id tl
  unfold collect
  refine wpAny_bind (wpAny_runValue (codeAny_builtin entry_proto_collect' ?_))
  show wpAny (model prog w) _ (do again (.builtin "list.__iadd__" ⟨[← newList [], Value.ref l], []⟩)) _ _ s
  refine wpAny_bind (wpAny_newList (wpAny_pure ⟨Code.quiet_builtin _ (by decide +kernel), codeAny_builtin entry_list_iadd' ?_⟩))
  show wpAny (model prog w) _ (Builtin.List.listExtendWith (Value.ref s.heap.objs.size) (Value.ref l) (Value.ref s.heap.objs.size)) _ _ { s with heap := s.heap.push (seqObj "list" #[] 0) }
  unfold Builtin.List.listExtendWith
  have e1 : (s.heap.push (seqObj "list" #[] 0)).get? l = some o := Heap.get?_push_of_some _ e0
  refine wpAny_bind (wpAny_typeOf (T := "tuple") ⟨o, e1, ec⟩ ?_)
  have et : (Value.type "tuple" == Value.type "tuple") = true := by rfl
  rw [if_pos (by rw [et]; simp)]
  refine wpAny_bind (listItems_at e1 ed ?_)
  refine wpAny_bind (listItems_at (n := 0) (xs := #[]) (Heap.get?_push_size _ rfl) rfl ?_)
  rw [if_neg (by simp)]
  refine wpAny_bind (listUpdate_at (n := 0) (xs := #[]) (Heap.get?_push_size _ rfl) rfl ?_ (Nat.zero_le _) (by show (#[] ++ its.toArray).size ≤ sizeLine + 1; simp only [Array.size_append, List.size_toArray, List.length_nil]; omega))
  refine wpAny_pure ?_
  show wpAny (model prog w) A (do
      let u ← load s.heap.objs.size
      match u.data with
      | .seq ys _ => pure ys.toList
      | _ => unsupported "internal:collect") R E { s with heap := (s.heap.push (seqObj "list" #[] 0)).update s.heap.objs.size (Obj.mapSeq (· ++ its.toArray)) }
  refine wpAny_bind (wpAny_load (get?_update_seq (Heap.get?_push_size _ rfl) _) ?_)
  show wpAny (model prog w) _ (pure ((#[] : Array Value) ++ its.toArray).toList) R E _
  rw [show ((#[] : Array Value) ++ its.toArray).toList = its by simp]
  exact wpAny_pure k
/-- sorted(a tuple): as sorted(the list of its items) -/
theorem sortedTup {l : Addr} {its : List Value} {R : Value → Shared → Prop} {κ : PyProof.Rows.KeyKind} (tl : s.heap.IsTuple l its.toArray) (S : W.SortsAt prog w A.in1.in1 { s with heap := W.sortingHeap (W.copyHeap s.heap its) (s.heap.objs.size + 1) its } κ its) (fit : its.length ≤ sizeLine)
    (k : R (.ref (s.heap.objs.size + 1)) { s with heap := sortedAll s.heap its (W.sortVals κ false its its).toArray }) : wpAny (model prog w) A (call (.builtin "sorted") [.ref l]) R E s := by
  refine call_function_entry_kw (kw := []) kind_sorted plain_sorted entry_sorted (args_sorted1 _) ?_
  unfold Builtin.«sorted»
  refine wpAny_bind (m := checkCount "sorted" 1 1 _) (wpAny_pure ?_)
  refine wpAny_bind (collectTup tl ?_ fit)
  refine wpAny_bind (wpAny_newList ?_ fit)
  have z : ((s.heap.push (seqObj "list" #[] 0)).update s.heap.objs.size (Obj.mapSeq (· ++ its.toArray))).objs.size = s.heap.objs.size + 1 := by
    rw [Heap.size_update, size_push']
  show wpAny (model prog w) _ _ _ _ { s with heap := W.copyHeap s.heap its }
  rw [z]
  refine wpAny_bind (wpAny_holding (wpAny_call_entry_kw (kw := []) slot_list_sort ⟨_, W.copyHeap_at s.heap its, rfl⟩ entry_list_sort ?body (args_list_sort _)))
  case body =>
    refine wpAny_mono (W.list_sort_vals (E := fun _ _ => False) (P := fun f s' => f = .done (.ret .none) ∧ R (.ref (s.heap.objs.size + 1)) s') (s := { s with heap := W.copyHeap s.heap its }) (W.copyHeap_at s.heap its) S fit ⟨rfl, k⟩) (fun f s' hf => ?_) fun _ _ e => e.elim
    obtain ⟨rfl, hq⟩ := hf
    exact ⟨_, rfl, wpAny_pure ⟨_, rfl, hq⟩⟩
/-- sorted(a tuple that reads as alike data) -/
theorem sortedTupD {l : Addr} {vs : List Value} {bs : List D} {R : Value → D → Prop} {Q : Value → Shared → Prop} (hl : s.heap.IsTuple l vs.toArray) (e : W.EachIs R vs bs) (er : W.EachIs (fun v b => ∃ as, Reads s.heap v b as) vs bs) (hal : W.AllAlike bs) (hk : SortB bs)
    (hL : bs.length ≤ sizeLine) (hu : ∀ b, b ∈ bs → A.units + 2 + b.depth < cLine) (h : ∀ out, out.length = bs.length → W.EachIs R out (bs.mergeSort (W.dataLe false id)) → Q (.ref (s.heap.objs.size + 1)) { s with heap := sortedAll s.heap vs (List.toArray out) }) :
    wpAny (model prog w) A (call (.builtin "sorted") [.ref l]) Q E s := by
  have e1 : bs.map id = bs := List.map_id bs
  have er' : W.EachIs (fun v b => ∃ as, Reads (W.sortingHeap (W.copyHeap s.heap vs) (s.heap.objs.size + 1) vs) v (id b) as) vs bs := er.mono fun _ _ ⟨as, r⟩ => ⟨as, PyProof.Rows.Reads.keeps (fun _ _ => W.sorting_copy_old) r⟩
  refine sortedTup hl (sortsB (s := { s with heap := W.sortingHeap (W.copyHeap s.heap vs) (s.heap.objs.size + 1) vs }) (ds := bs) er' hal hk (fun d hd => hu d hd)) (by rw [e.length]; exact hL) ?_
  have q := W.sortVals_data (enc := id) false e er' (by rw [e1]; exact hal)
  rw [e1] at q
  exact h _ (by rw [W.sortVals_length false rfl]; exact e.length) q
end
section
variable {X : Cx}
theorem keys_ints {K : PySem.W.Frag} {F : Hp} : ∀ {ds : List (D × D)} {kv : List (Key × V)} {ns : List Int}, RpK K F kv ds → intsOf (ds.map (·.1)) = some ns → kv.map (·.1) = ns.map Sum.inl
  | _, _, ns, .nil, h => by
    cases h
    rfl
  | _, _, ns, .cons (k := k) (ds := ds) _ r, h => by
    cases k with
    | inr x => cases h
    | inl i =>
      have h : (intsOf (ds.map (·.1))).map (i :: ·) = some ns := h
      cases e : intsOf (ds.map (·.1)) with
      | none => rw [e] at h; cases h
      | some ms =>
        rw [e] at h
        cases h
        rw [List.map_cons, List.map_cons, keys_ints r e]
theorem call_sortedD (hc : X.calm = true) (hu : X.A.units + 100 < cLine) : CallR X (.builtin "sorted") (fun xs H Q => ∃ x, xs = [x] ∧ r1D X.K .sorted x H Q) := callD1 fun pins s σ H x us Q F a d I r e ha hp q => by
  cases a with
  | tuple ds =>
    have hp : (if sortOk ds = true then some (PyData.list (sortD ds)) else none) = some d := hp
    split at hp
    · rename_i hz
      cases hp
      obtain ⟨hz1, hz2⟩ := sortOk_inv hz
      obtain ⟨p1, p2, p3, p4⟩ := alikeB_inv hz1
      obtain ⟨l, xs, rfl, hl, r1, _⟩ := ha.tuple e
      obtain ⟨its, rv, pl, hsz⟩ := I.tuple (e.sqT hl)
      obtain ⟨u, rfl, ru⟩ := Vals.one r
      cases ru
      obtain ⟨as, hr⟩ := Dp.readsAll I _ _ its ((r1.mono e).dp p1) rv
      refine sortedTupD (bs := ds) pl (rpVals r1 rv) (readsEach hr) p2 hz2 (by rw [← r1.length]; exact hsz)
        (fun b hb => by have := depth_mem hb; omega) fun out hlen ho => ?_
      obtain ⟨ys, h1, h2⟩ := valsRp ho
      obtain ⟨ep, he'⟩ := PyProof.Rows.sortedAll_at s.heap its out.toArray
      have hn : H (s.heap.objs.size + 1) = none := I.hok.fresh (Nat.le_succ _)
      refine ⟨.ref _, upd H (s.heap.objs.size + 1) (.lst ys), I.laid (t' := s.toks) (fun _ _ => PyProof.Rows.sortedAll_old) (Nat.le_succ _) ⟨?_, out, ep, h2, he'⟩, rfl,
        q _ F _ (Step.new e hn) ⟨_, _, rfl, hn, e.none hn, upd_same, .lst h1⟩⟩
      rw [h1.length]
      exact Nat.le_trans (Nat.le_of_eq (sortD_len ds)) (by rw [← r1.length]; exact hsz)
    · cases hp
  | list ds => exact call_sortedL hc hu I r e ha hp q
  | dict ds =>
    have hp : sortedK ds = some d := hp
    unfold sortedK at hp
    cases hn : intsOf (ds.map (·.1)) with
    | none => rw [hn] at hp; cases hp
    | some ns =>
      rw [hn] at hp
      simp only [Option.bind_some] at hp
      split at hp
      · rename_i hl
        cases hp
        obtain ⟨l, kv, rfl, hd, r1⟩ := ha.dict e
        obtain ⟨u, rfl, ru⟩ := Vals.one r
        refine call_sortedDI hc pins s σ H _ _ _ I (.cons ru .nil) ⟨l, kv, ns, rfl, .inl hd, keys_ints r1 hn, hl, fun ys p hp1 hp2 hpn => ?_⟩
        have hy : ys = intsUp ns := by
          refine List.Perm.eq_of_pairwise (le := fun a b : Int => a ≤ b) (fun a b _ _ h1 h2 => Int.le_antisymm h1 h2) hp2 ?_ (hp1.trans (List.mergeSort_perm ns _).symm)
          have := List.pairwise_mergeSort (le := fun a b : Int => decide (a ≤ b)) (fun a b c h1 h2 => decide_eq_true (Int.le_trans (of_decide_eq_true h1) (of_decide_eq_true h2))) (fun a b => by
            rw [Bool.or_eq_true, decide_eq_true_eq, decide_eq_true_eq]
            exact Int.le_total a b) ns
          exact this.imp fun h => of_decide_eq_true h
        subst hy
        exact q _ F _ (Step.new e hpn) ⟨_, _, rfl, hpn, e.none hpn, upd_same, .lst (RpA.ints _)⟩
      · cases hp
  | _ => cases hp
end
end PyI
set_option Elab.async false
set_option linter.all false
set_option maxRecDepth 100000
set_option maxHeartbeats 1000000
namespace PyI
open PySem L2 PySem.Spec

/-! ### tuple * int, the small cases -/
theorem tupMulSame (l : Addr) (items : Array Value) (n : Nat) (dd : Option Addr) (sl : Array (Option Value)) (x : Int) (u : Tok) (c0 : (decide (x < -(2 ^ 63)) || decide (x ≥ 2 ^ 63)) = false) (c1 : (items.isEmpty || x == 1) = true) :
    Meets (Builtin.«tuple.__mul__» ⟨[.ref l, .int x u], []⟩) (fun _ R s => s.heap.get? l = some { cls := .type "tuple", dict := dd, data := .seq items n, slots := sl } ∧ R (.ok (.ret (Value.ref l))) s) :=
  .of_wp fun prog w A R s h => by
    obtain ⟨hp, g, d, tk, os⟩ := s
    obtain ⟨hl, h⟩ := h
    have f1 := AutoSeq1.idx_int
    open AutoSeq1 in
    wp_walk using wpAny_loadPart' hl
    repeat (first
      | (refine wpAny_ite_false (decide_eq_false (by rw [c0]; decide)) ?_; open AutoSeq1 in wp_walk using wpAny_loadPart' hl)
      | (refine wpAny_ite_true (decide_eq_true (by rw [c1])) ?_; open AutoSeq1 in wp_walk using wpAny_loadPart' hl))
    exact ⟨_, rfl, h⟩
theorem tupMulNone (l : Addr) (items : Array Value) (n : Nat) (dd : Option Addr) (sl : Array (Option Value)) (x : Int) (u : Tok) (c0 : (decide (x < -(2 ^ 63)) || decide (x ≥ 2 ^ 63)) = false) (c1 : (items.isEmpty || x == 1) = false) (c2 : (decide (x ≤ 0) || items.isEmpty) = true) :
    Meets (Builtin.«tuple.__mul__» ⟨[.ref l, .int x u], []⟩) (fun _ R s => s.heap.get? l = some { cls := .type "tuple", dict := dd, data := .seq items n, slots := sl } ∧
      R (.ok (.ret (Value.ref s.heap.objs.size))) { s with heap := s.heap.push { cls := Value.type "tuple", data := Data.seq #[] }, toks := s.toks }) :=
  .of_wp fun prog w A R s h => by
    obtain ⟨hp, g, d, tk, os⟩ := s
    obtain ⟨hl, h⟩ := h
    have f1 := AutoSeq1.idx_int
    open AutoSeq1 in
    wp_walk using wpAny_loadPart' hl
    repeat (first
      | (refine wpAny_ite_false (decide_eq_false (by rw [c0]; decide)) ?_; open AutoSeq1 in wp_walk using wpAny_loadPart' hl)
      | (refine wpAny_ite_false (decide_eq_false (by rw [c1]; decide)) ?_; open AutoSeq1 in wp_walk using wpAny_loadPart' hl)
      | (refine wpAny_ite_true (decide_eq_true (by rw [c2])) ?_; open AutoSeq1 in wp_walk using wpAny_loadPart' hl))
    exact ⟨_, rfl, h⟩
theorem rep_nil {α : Type} : ∀ n : Nat, (List.replicate n ([] : List α)).flatten = []
  | 0 => rfl
  | n + 1 => by rw [List.replicate_succ, List.flatten_cons, List.nil_append, rep_nil n]
section
variable {X : Cx}
theorem op_mulT {pins : List (Addr × Obj)} {s : Shared} {σ : L2.St} {H F : Hp} {l : Addr} {k : Int} {xs : List V} {ds : List D} {t : Tok} {Q : VK} (I : Inv X pins σ H s) (e : Ex F H) (hT : SqT X.K F l xs) (ra : RpA X.K F xs ds) (h1 : -1000 ≤ k) (h2 : k ≤ 1000) (h3 : ds.length ≤ 1000)
    (q : ∀ v F' H', Step none F H F' H' → Rp X.K F' v (.tuple (repL ds k.toNat)) → Q v H') : wpAny (model X.prog X.w) X.A (binaryOp .Mult (.ref l) (.int k t)) (EP X pins σ Q) X.xe s := by
  have hTH : SqT X.K H l xs := e.sqT hT
  have hl := ra.length
  by_cases c : xs ≠ [] ∧ 2 ≤ k
  · refine op_repT pins s σ H (.ref l) (.int k) _ _ Q I rfl ⟨t, rfl⟩ ⟨l, k, xs, rfl, rfl, hTH, c.1, c.2, h2, by omega, fun p hn => ?_⟩
    have st : Step none F H (upd F p (.tup (List.replicate k.toNat xs).flatten)) (upd H p (.tup (List.replicate k.toNat xs).flatten)) := Step.newF e hn
    exact q _ _ _ st (.tup (.inl (.inl upd_same)) ((ra.rep _).mono st.ef))
  · obtain ⟨its, r, ⟨⟨cls, dd, data, sl⟩, ho, hcl, n, hd⟩, _⟩ := I.tuple hTH
    simp only at hcl hd
    subst hcl hd
    have rl := r.length
    have c0 : (decide (k < -(2 ^ 63)) || decide (k ≥ 2 ^ 63)) = false := by
      rw [decide_eq_false (by omega), decide_eq_false (by omega)]
      rfl
    refine wpAny_binaryOp_repeat_ref (T := "tuple") (U := "int") (by decide) ⟨_, ho, rfl⟩ (fun s' => typeIs_int s' k t) noFill_tuple_mul PySem.F.fills_int_mul PySem.F.slot_int_rmul repeat_tuple PySem.F.slot_int_index.lookup ?_
    refine call_meets PySem.F.slot_int_rmul (typeIs_int s k t) PySem.F.entry_int_rmul (PySem.F.args_int_rmul_2 _ _) (int_rmul_tuple k t l its.toArray n dd sl) ⟨ho, rfl, ⟨_, ho, rfl⟩, ?_⟩
    by_cases c1 : (its.toArray.isEmpty || k == 1) = true
    · refine call_meets PySem.F.slot_tuple_mul ⟨_, ho, rfl⟩ PySem.F.entry_tuple_mul (PySem.F.args_tuple_mul_2 _ _) (tupMulSame l its.toArray n dd sl k t c0 c1) ⟨ho, ?_⟩
      refine ⟨.ref l, H, I, rfl, q _ F H (Step.refl e) ?_⟩
      have ed : repL ds k.toNat = ds := by
        unfold repL
        rw [Bool.or_eq_true] at c1
        rcases c1 with z | z
        · have z1 : its = [] := by
            cases its with
            | nil => rfl
            | cons a b => cases z
          subst z1
          have z2 : ds = [] := List.eq_nil_of_length_eq_zero (by rw [← hl, rl]; rfl)
          subst z2
          exact rep_nil _
        · have z1 : k = 1 := eq_of_beq z
          subst z1
          simp
      rw [ed]
      exact .tup hT ra
    · have c1 : (its.toArray.isEmpty || k == 1) = false := by simpa using c1
      have ne : its ≠ [] := fun z => by
        subst z
        cases c1
      have nx : xs ≠ [] := fun z => ne (List.eq_nil_of_length_eq_zero (by rw [← rl, z]; rfl))
      have k1 : k ≠ 1 := fun z => by
        subst z
        rw [Bool.or_eq_false_iff] at c1
        cases c1.2
      have k0 : k ≤ 0 := by
        have : ¬ 2 ≤ k := fun z => c ⟨nx, z⟩
        omega
      have c2 : (decide (k ≤ 0) || its.toArray.isEmpty) = true := by rw [decide_eq_true k0]; rfl
      refine call_meets PySem.F.slot_tuple_mul ⟨_, ho, rfl⟩ PySem.F.entry_tuple_mul (PySem.F.args_tuple_mul_2 _ _) (tupMulNone l its.toArray n dd sl k t c0 c1 c2) ⟨ho, ?_⟩
      have hn : H s.heap.objs.size = none := I.hok.fresh (Nat.le_refl _)
      refine ⟨.ref s.heap.objs.size, _, I.laid (t' := s.toks) (o := .tup []) (fun b ob z => Heap.get?_push_of_some _ z) (Nat.le_refl _) ⟨Nat.zero_le _, [], .nil, PyProof.Rows.IsTup.new _ _⟩, rfl, ?_⟩
      have st : Step none F H (upd F s.heap.objs.size (.tup [])) (upd H s.heap.objs.size (.tup [])) := Step.newF e hn
      have e0 : repL ds k.toNat = [] := by
        unfold repL
        rw [Int.toNat_of_nonpos k0]
        rfl
      refine q _ _ _ st ?_
      rw [e0]
      exact .tup (.inl (.inl upd_same)) .nil
theorem op_mulD : OpR X (binaryOp .Mult) (r2D X.K .mul) := opD2 fun pins s σ H x y v u Q F a b d I rx ry e ha hb hp q => by
  have hp : mulD a b = some d := hp
  cases a with
  | int i =>
    cases b with
    | int j =>
      rw [mulD] at hp
      split at hp
      · rename_i hz
        cases hp
        rw [ha.int] at rx
        rw [hb.int] at ry
        refine op_mul pins s σ H _ _ v u Q I rx ry ⟨i, j, rfl, rfl, ?_, q _ F H (Step.refl e) (.int _)⟩
        rw [Bool.or_eq_true] at hz
        rcases hz with z | z
        · exact .inl (of_decide_eq_true z)
        · exact .inr (of_decide_eq_true z)
      · cases hp
    | _ => cases hp
  | list ds =>
    cases b with
    | int k =>
      rw [mulD] at hp
      split at hp
      · rename_i hz
        cases hp
        obtain ⟨l, xs, rfl, hl, r1⟩ := ha.list e
        rw [hb.int] at ry
        refine op_rep pins s σ H _ _ v u Q I rx ry ⟨l, k, xs, rfl, rfl, hl, hz.1, ?_, by rw [r1.length, ← lim_eq]; exact hz.2.2, fun p hn => ?_⟩
        · have := hz.2.1
          have e : ((LIM : Nat) : Int) = 16777216 := rfl
          omega
        · have st : Step none F H (upd F p (.lst (List.replicate k.toNat xs).flatten)) (upd H p (.lst (List.replicate k.toNat xs).flatten)) := Step.newF e hn
          exact q _ _ _ st (.lst upd_same ((r1.rep _).mono st.ef))
      · cases hp
    | _ => cases hp
  | tuple ds =>
    cases b with
    | int k =>
      rw [mulD] at hp
      split at hp
      · rename_i hz
        cases hp
        obtain ⟨l, xs, rfl, hl, r1, _⟩ := ha.tuple e
        rw [hb.int] at ry
        obtain ⟨t, rfl⟩ := ry
        cases rx
        exact op_mulT I e hl r1 hz.1 hz.2.1 hz.2.2 q
      · cases hp
    | _ => cases hp
  | _ => cases hp
theorem op_mulLD : OpR X (binaryOp .Mult) (r2D X.K .mulL) := opD2 fun pins s σ H x y v u Q F a b d I rx ry e ha hb hp q => by
  have hp : mulLD a b = some d := hp
  cases a with
  | list ds =>
    cases b with
    | int k =>
      rw [mulLD, mulD] at hp
      split at hp
      · rename_i hz
        cases hp
        obtain ⟨l, xs, rfl, hl, r1⟩ := ha.list e
        rw [hb.int] at ry
        refine op_rep pins s σ H _ _ v u Q I rx ry ⟨l, k, xs, rfl, rfl, hl, hz.1, ?_, by rw [r1.length, ← lim_eq]; exact hz.2.2, fun p hn => ?_⟩
        · have := hz.2.1
          have e : ((LIM : Nat) : Int) = 16777216 := rfl
          omega
        · exact q _ _ _ (Step.new e hn) ⟨p, _, rfl, hn, e.none hn, upd_same, .lst (r1.rep _)⟩
      · cases hp
    | _ => cases hp
  | _ => cases hp
/-! ### repr -/
mutual
theorem plain_noDict : ∀ {d : D}, d.plain = true → d.hasDict = false
  | .none, _ => rfl
  | .bool _, _ => rfl
  | .int _, _ => rfl
  | .str _, _ => rfl
  | .list xs, h => by
    rw [PyData.hasDict]
    exact plainAll_noDict (by simpa only [PyData.plain] using h)
  | .tuple xs, h => by
    rw [PyData.hasDict]
    exact plainAll_noDict (by simpa only [PyData.plain] using h)
  | .dict _, h => by simp [PyData.plain] at h
theorem plainAll_noDict : ∀ {ds : List D}, PyData.plainAll ds = true → PyData.hasDictAll ds = false
  | [], _ => rfl
  | d :: ds, h => by
    rw [PyData.plainAll, Bool.and_eq_true] at h
    rw [PyData.hasDictAll, plain_noDict h.1, plainAll_noDict h.2]
    rfl
end
theorem call_strD : CallR X (.type "str") (fun xs H Q => ∃ x, xs = [x] ∧ r1D X.K .str x H Q) := callD1 fun pins s σ H x us Q F a d I r e ha hp q => by
  have hp : strD a = some d := hp
  cases a with
  | str i =>
    cases hp
    rw [ha.str] at r
    exact SkE.call_str_str pins s σ H _ us Q I r ⟨i, rfl, q _ F H (Step.refl e) (.str _)⟩
  | int i =>
    have hp : (if i.natAbs.log2 < 1920 then some (PyData.str (toString i)) else none) = some d := hp
    split at hp
    · rename_i z
      cases hp
      rw [ha.int] at r
      exact call_str_int pins s σ H _ us Q I r ⟨i, rfl, z, q _ F H (Step.refl e) (.str _)⟩
    · cases hp
  | _ => cases hp
theorem call_reprD (hgd : X.A.guards = some []) (hu : X.A.units + 100 < cLine) : CallR X (.builtin "repr") (fun xs H Q => ∃ x, xs = [x] ∧ r1D X.K .repr x H Q) := callD1 fun pins s σ H x us Q F a d I r e ha hp q => by
  have hp : reprD a = some d := hp
  unfold reprD at hp
  split at hp
  · rename_i z
    cases hp
    unfold reprOk at z
    simp only [Bool.and_eq_true, decide_eq_true_eq] at z
    obtain ⟨⟨⟨z1, z2⟩, z3⟩, z4⟩ := z
    obtain ⟨u, rfl, ru⟩ := Vals.one r
    obtain ⟨as, hr⟩ := rdReads I e ha ru z1
    have ref : ∀ {p : Addr}, u = .ref p → wpAny (model X.prog X.w) X.A (call (.builtin "repr") [u]) (EP X pins σ Q) X.xe s := fun {p} hu' => by
      subst hu'
      refine PySem.repr_of_reads' hr z2 (PyData.noDict_hsm (plain_noDict z1)) hgd ?_ (fun b o h => h) (fun h' t' tk hk => ?_) (by rw [← lim_eq]; exact z4)
      · have : (DEP : Nat) = 60 := rfl
        omega
      · exact ⟨.str a.shown, H, I.kept hk, ⟨_, rfl⟩, q _ F H (Step.refl e) (.str _)⟩
    have lit : ∀ (tk : Tok), EP X pins σ Q (.str a.shown tk) { s with toks := s.toks + 1 } := fun tk => ⟨.str a.shown, H, I.tok _, ⟨_, rfl⟩, q _ F H (Step.refl e) (.str _)⟩
    cases a with
    | none =>
      cases hr
      exact PySem.P.repr_of_none (lit _)
    | bool b =>
      cases hr
      exact PySem.P.repr_of_bool (lit _)
    | int i =>
      cases hr
      exact PySem.P.repr_of_int (by simpa only [PyData.showable, decide_eq_true_eq] using z2) (lit _)
    | str y =>
      cases hr
      refine PySem.P.repr_of_str (lit _) ?_
      rw [← lim_eq]
      exact z4
    | list ds => cases hr; exact ref rfl
    | tuple ds => cases hr; exact ref rfl
    | dict ds => cases z1
  · cases hp
end
end PyI
set_option Elab.async false
set_option linter.all false
set_option maxRecDepth 100000
set_option maxHeartbeats 1000000
namespace PyI
open PySem L2 PySem.Spec

/-- which slots hold lists and dicts that the body changes; the slot of the list of draws -/
structure Mode where
  own : Nat → Bool
  cs : Option Nat
  pin : Nat → Option Addr
/-- the list of draws stands at a and holds w -/
def CupAt (K : PySem.W.Frag) (F H : Hp) (a : Addr) (w : D) : Prop := F a = none ∧ ∃ o, H a = some o ∧ Cont K F o w
/-- the state of a body between two steps: what is told of the slots -/
structure Stt (K : PySem.W.Frag) (M : Mode) (F0 H0 : Hp) (c : Option Addr) (F H : Hp) (σ : St) (env : Ev) (w : D) : Prop where
  st : Step c F0 H0 F H
  len : σ.length = env.length
  vals : ∀ i d, env[i]? = some (some d) → M.own i = false → ∃ v, σ[i]? = some (some v) ∧ Rp K F v d
  owns : ∀ i d, env[i]? = some (some d) → M.own i = true → ∃ p o, σ[i]? = some (some (.ref p)) ∧ F p = none ∧ H0 p = none ∧ c ≠ some p ∧ H p = some o ∧ Cont K F o d
  apart : ∀ i j d e p, i ≠ j → M.own i = true → M.own j = true → env[i]? = some (some d) → env[j]? = some (some e) → σ[i]? = some (some (.ref p)) → σ[j]? ≠ some (some (.ref p))
  cup : ∀ s, M.cs = some s → ∃ a, c = some a ∧ σ[s]? = some (some (.ref a)) ∧ CupAt K F H a w
  cn : M.cs = none → c = none
  pins : ∀ i a, M.pin i = some a → M.own i = true ∧ σ[i]? = some (some (.ref a))
section
variable {K : PySem.W.Frag} {M : Mode} {F0 H0 F H F' H' : Hp} {c : Option Addr} {σ : St} {env : Ev} {w w' : D}
/-- a new known thing leaves what stood out of F out of it -/
theorem Step.out (s : Step c F H F' H') {p : Addr} {o : HO} (hn : F p = none) (ho : H p = some o) (nt : ∀ u, H' p = some u → isTupO u = false) : F' p = none := by
  cases q : F' p with
  | none => rfl
  | some u =>
    rcases s.nw p u q with z | z | z
    · rw [hn] at z; cases z
    · rw [ho] at z; cases z
    · rw [nt u (s.fh p u q)] at z; cases z
theorem Step.outO (s : Step c F H F' H') {p : Addr} {o : HO} {d : D} (hn : F p = none) (hc : c ≠ some p) (ho : H p = some o) (h : Cont K F o d) : F' p = none := s.out hn ho fun u hu => by
  rw [s.eh p o hc ho] at hu
  cases hu
  exact h.notTup
theorem Stt.fh (S : Stt K M F0 H0 c F H σ env w) : Ex F H := S.st.fh
/-- the slots as they are, the heap grown -/
theorem Stt.step (S : Stt K M F0 H0 c F H σ env w) (s : Step c F H F' H') (hw : ∀ s', M.cs = some s' → ∃ a, c = some a ∧ CupAt K F' H' a w') : Stt K M F0 H0 c F' H' σ env w' where
  st := S.st.trans s
  len := S.len
  vals := fun i d h1 h2 => by
    obtain ⟨v, e, r⟩ := S.vals i d h1 h2
    exact ⟨v, e, r.mono s.ef⟩
  owns := fun i d h1 h2 => by
    obtain ⟨p, o, e1, e2, e3, e4, e5, e6⟩ := S.owns i d h1 h2
    exact ⟨p, o, e1, s.outO e2 e4 e5 e6, e3, e4, s.eh p o e4 e5, e6.mono s.ef⟩
  apart := S.apart
  cup := fun s' hs => by
    obtain ⟨a, e1, e2, _⟩ := S.cup s' hs
    obtain ⟨b, e3, e4⟩ := hw s' hs
    rw [e1] at e3
    cases e3
    exact ⟨a, e1, e2, e4⟩
  cn := S.cn
  pins := S.pins
/-- .. the list of draws untouched -/
theorem Stt.calm (S : Stt K M F0 H0 c F H σ env w) (s : Step none F H F' H') : Stt K M F0 H0 c F' H' σ env w := S.step s.weak fun s' hs => by
  obtain ⟨a, e1, _, h1, o, h2, h3⟩ := S.cup s' hs
  exact ⟨a, e1, s.outO h1 (by simp) h2 h3, o, s.eh a o (by simp) h2, h3.mono s.ef⟩
/-- a slot that is not changed by the body itself is stored -/
theorem Stt.set {i : Nat} {v : V} {d : D} (S : Stt K M F0 H0 c F H σ env w) (hi : M.own i = false) (hc : M.cs ≠ some i) (r : Rp K F v d) : Stt K M F0 H0 c F H (σ.set i (some v)) (env.set i (some d)) w where
  st := S.st
  len := by rw [List.length_set, List.length_set]; exact S.len
  vals := fun j e h1 h2 => by
    by_cases z : i = j
    · subst z
      have hl : i < env.length := by
        by_cases q : i < env.length
        · exact q
        · rw [List.getElem?_eq_none (by simpa using q)] at h1; cases h1
      rw [List.getElem?_set_self hl] at h1
      cases h1
      exact ⟨v, List.getElem?_set_self (by rw [S.len]; exact hl), r⟩
    · rw [List.getElem?_set_ne z] at h1 ⊢
      exact S.vals j e h1 h2
  owns := fun j e h1 h2 => by
    have z : i ≠ j := fun z => by rw [z, h2] at hi; cases hi
    rw [List.getElem?_set_ne z] at h1 ⊢
    exact S.owns j e h1 h2
  apart := fun j l d1 d2 p n o1 o2 h1 h2 h3 => by
    have z : i ≠ j := fun z => by rw [z, o1] at hi; cases hi
    have z2 : i ≠ l := fun z => by rw [z, o2] at hi; cases hi
    rw [List.getElem?_set_ne z] at h1 h3
    rw [List.getElem?_set_ne z2] at h2 ⊢
    exact S.apart j l d1 d2 p n o1 o2 h1 h2 h3
  cup := fun s hs => by
    obtain ⟨a, e1, e2, e3⟩ := S.cup s hs
    have z : i ≠ s := fun z => hc (by rw [z]; exact hs)
    exact ⟨a, e1, by rw [List.getElem?_set_ne z]; exact e2, e3⟩
  cn := S.cn
  pins := fun j a h => by
    obtain ⟨h1, h2⟩ := S.pins j a h
    have z : i ≠ j := fun z => by rw [z, h1] at hi; cases hi
    exact ⟨h1, by rw [List.getElem?_set_ne z]; exact h2⟩
/-- a slot is forgotten -/
theorem Stt.drop1 {i : Nat} (S : Stt K M F0 H0 c F H σ env w) (hc : M.cs ≠ some i) (hi : M.own i = false) (x : Option V) : Stt K M F0 H0 c F H (σ.set i x) (env.set i none) w where
  st := S.st
  len := by rw [List.length_set, List.length_set]; exact S.len
  vals := fun j e h1 h2 => by
    by_cases z : i = j
    · subst z
      by_cases q : i < env.length
      · rw [List.getElem?_set_self q] at h1; cases h1
      · rw [List.getElem?_eq_none (by simpa using q)] at h1; cases h1
    · rw [List.getElem?_set_ne z] at h1 ⊢
      exact S.vals j e h1 h2
  owns := fun j e h1 h2 => by
    by_cases z : i = j
    · subst z
      by_cases q : i < env.length
      · rw [List.getElem?_set_self q] at h1; cases h1
      · rw [List.getElem?_eq_none (by simpa using q)] at h1; cases h1
    · rw [List.getElem?_set_ne z] at h1 ⊢
      exact S.owns j e h1 h2
  apart := fun j l d1 d2 p n o1 o2 h1 h2 h3 => by
    have key : ∀ {j : Nat} {e : D}, (env.set i none)[j]? = some (some e) → i ≠ j := fun {j e} h z => by
      subst z
      by_cases q : i < env.length
      · rw [List.getElem?_set_self q] at h; cases h
      · rw [List.getElem?_eq_none (by simpa using q)] at h; cases h
    have z1 := key h1
    have z2 := key h2
    rw [List.getElem?_set_ne z1] at h1 h3
    rw [List.getElem?_set_ne z2] at h2 ⊢
    exact S.apart j l d1 d2 p n o1 o2 h1 h2 h3
  cup := fun s hs => by
    obtain ⟨a, e1, e2, e3⟩ := S.cup s hs
    have z : i ≠ s := fun z => hc (by rw [z]; exact hs)
    exact ⟨a, e1, by rw [List.getElem?_set_ne z]; exact e2, e3⟩
  cn := S.cn
  pins := fun j a h => by
    obtain ⟨h1, h2⟩ := S.pins j a h
    have z : i ≠ j := fun z => by rw [z, h1] at hi; cases hi
    exact ⟨h1, by rw [List.getElem?_set_ne z]; exact h2⟩
theorem Stt.wipe (S : Stt K M F0 H0 c F H σ env w) : ∀ {vs : List Nat}, (∀ i ∈ vs, M.cs ≠ some i ∧ M.own i = false) → Stt K M F0 H0 c F H (wipe σ vs) (wipeE env vs) w
  | [], _ => S
  | v :: vs, h => by
    unfold L2.wipe wipeE
    exact (Stt.wipe S fun i hi => h i (List.mem_cons_of_mem _ hi)).drop1 (h v (List.mem_cons_self ..)).1 (h v (List.mem_cons_self ..)).2 none
/-- a new list or dict to a slot of the body's own -/
theorem Stt.setOwn {i : Nat} {p : Addr} {o : HO} {d : D} (S : Stt K M F0 H0 c F H σ env w) (hi : M.own i = true) (hc : M.cs ≠ some i) (hpn : M.pin i = none) (h1 : F p = none) (h2 : H0 p = none) (h3 : c ≠ some p) (h4 : H p = some o) (h5 : Cont K F o d)
    (hn : ∀ j e q, i ≠ j → M.own j = true → env[j]? = some (some e) → σ[j]? = some (some (.ref q)) → q ≠ p) : Stt K M F0 H0 c F H (σ.set i (some (.ref p))) (env.set i (some d)) w where
  st := S.st
  len := by rw [List.length_set, List.length_set]; exact S.len
  vals := fun j e g1 g2 => by
    have z : i ≠ j := fun z => by rw [z, g2] at hi; cases hi
    rw [List.getElem?_set_ne z] at g1 ⊢
    exact S.vals j e g1 g2
  owns := fun j e g1 g2 => by
    by_cases z : i = j
    · subst z
      have hl : i < env.length := by
        by_cases q : i < env.length
        · exact q
        · rw [List.getElem?_eq_none (by simpa using q)] at g1; cases g1
      rw [List.getElem?_set_self hl] at g1
      cases g1
      exact ⟨p, o, List.getElem?_set_self (by rw [S.len]; exact hl), h1, h2, h3, h4, h5⟩
    · rw [List.getElem?_set_ne z] at g1 ⊢
      exact S.owns j e g1 g2
  apart := fun j l d1 d2 q n o1 o2 g1 g2 g3 g4 => by
    have hσ : σ.length = env.length := S.len
    by_cases z1 : i = j
    · subst z1
      have z2 : i ≠ l := n
      rw [List.getElem?_set_ne z2] at g2 g4
      by_cases hl : i < σ.length
      · rw [List.getElem?_set_self hl] at g3
        cases g3
        exact hn l d2 p z2 o2 g2 g4 rfl
      · rw [List.getElem?_eq_none (by simpa using hl)] at g3; cases g3
    · rw [List.getElem?_set_ne z1] at g1 g3
      by_cases z2 : i = l
      · subst z2
        by_cases hl : i < σ.length
        · rw [List.getElem?_set_self hl] at g4
          cases g4
          exact hn j d1 p z1 o1 g1 g3 rfl
        · rw [List.getElem?_eq_none (by simpa using hl)] at g4; cases g4
      · rw [List.getElem?_set_ne z2] at g2 g4
        exact S.apart j l d1 d2 q n o1 o2 g1 g2 g3 g4
  cup := fun s hs => by
    obtain ⟨a, e1, e2, e3⟩ := S.cup s hs
    have z : i ≠ s := fun z => hc (by rw [z]; exact hs)
    exact ⟨a, e1, by rw [List.getElem?_set_ne z]; exact e2, e3⟩
  cn := S.cn
  pins := fun j a h => by
    obtain ⟨g1, g2⟩ := S.pins j a h
    have z : i ≠ j := fun z => by rw [z, h] at hpn; cases hpn
    exact ⟨g1, by rw [List.getElem?_set_ne z]; exact g2⟩
/-- what stands at a slot of the body's own is changed -/
theorem Stt.put {i : Nat} {p : Addr} {o o' : HO} {d d' : D} (S : Stt K M F0 H0 c F H σ env w) (hi : M.own i = true) (h0 : env[i]? = some (some d)) (hp : σ[i]? = some (some (.ref p))) (ho : H p = some o) (h5 : Cont K F o' d') :
    Stt K M F0 H0 c F (upd H p o') σ (env.set i (some d')) w := by
  obtain ⟨p', o1, e1, e2, e3, e4, e5, e6⟩ := S.owns i d h0 hi
  rw [hp] at e1
  cases e1
  have hl : i < env.length := by
    by_cases q : i < env.length
    · exact q
    · rw [List.getElem?_eq_none (by simpa using q)] at h0; cases h0
  have old : ∀ a u, F a = some u → a ≠ p := fun a u q z => by rw [z, e2] at q; cases q
  refine ⟨⟨S.st.ef, fun a u n q => ?_, fun a u q => ?_, S.st.nw, fun a q r => ?_⟩, by rw [List.length_set]; exact S.len, fun j e g1 g2 => ?_, fun j e g1 g2 => ?_, fun j l d1 d2 q n o1 o2 g1 g2 g3 g4 => ?_, fun s hs => ?_, S.cn, S.pins⟩
  · have z : a ≠ p := fun z => by rw [z, e3] at q; cases q
    rw [upd_ne z]
    exact S.st.eh a u n q
  · rw [upd_ne (old a u q)]
    exact S.st.fh a u q
  · have z : a ≠ p := fun z => e4 (by rw [← z]; exact q)
    rw [upd_ne z]
    exact S.st.cs a q r
  · have z : i ≠ j := fun z => by rw [z, g2] at hi; cases hi
    rw [List.getElem?_set_ne z] at g1
    exact S.vals j e g1 g2
  · by_cases z : i = j
    · subst z
      rw [List.getElem?_set_self hl] at g1
      cases g1
      exact ⟨p, o', hp, e2, e3, e4, upd_same, h5⟩
    · rw [List.getElem?_set_ne z] at g1
      obtain ⟨q, u, k1, k2, k3, k4, k5, k6⟩ := S.owns j e g1 g2
      have n : q ≠ p := fun n => S.apart i j d e p z hi g2 h0 g1 hp (by rw [← n]; exact k1)
      exact ⟨q, u, k1, k2, k3, k4, by rw [upd_ne n]; exact k5, k6⟩
  · have key : ∀ {j : Nat} {e : D}, M.own j = true → (env.set i (some d'))[j]? = some (some e) → ∃ e', env[j]? = some (some e') := fun {j e} oj g => by
      by_cases z : i = j
      · subst z; exact ⟨d, h0⟩
      · rw [List.getElem?_set_ne z] at g; exact ⟨e, g⟩
    obtain ⟨f1, g1⟩ := key o1 g1
    obtain ⟨f2, g2⟩ := key o2 g2
    exact S.apart j l f1 f2 q n o1 o2 g1 g2 g3 g4
  · obtain ⟨a, k1, k2, k3, u, k4, k5⟩ := S.cup s hs
    have z : a ≠ p := fun z => e4 (by rw [← z]; exact k1)
    exact ⟨a, k1, k2, k3, u, by rw [upd_ne z]; exact k4, k5⟩
end

/-! ### readings of terms -/
/-- told, or one object that is nobody's list of draws -/
def RdC (K : PySem.W.Frag) (c : Option Addr) (F H : Hp) (v : V) (d : D) : Prop := Rp K F v d ∨ ∃ p o, v = .ref p ∧ c ≠ some p ∧ F p = none ∧ H p = some o ∧ Cont K F o d
inductive RdCs (K : PySem.W.Frag) (c : Option Addr) (F H : Hp) : List V → List D → Prop
  | nil : RdCs K c F H [] []
  | cons {v : V} {vs : List V} {d : D} {ds : List D} : RdC K c F H v d → RdCs K c F H vs ds → RdCs K c F H (v :: vs) (d :: ds)
section
variable {K : PySem.W.Frag} {F H F' H' : Hp} {c : Option Addr}
theorem RdC.rd1 {v : V} {d : D} (h : RdC K c F H v d) : Rd1 K F H v d := by
  rcases h with h | ⟨p, o, e, _, h1, h2, h3⟩
  · exact .inl h
  · exact .inr ⟨p, o, e, h1, h2, h3⟩
theorem RdCs.rd1 {vs : List V} {ds : List D} (h : RdCs K c F H vs ds) : Rd1s K F H vs ds := by
  induction h with
  | nil => exact .nil
  | cons h _ ih => exact .cons h.rd1 ih
theorem RdC.step {v : V} {d : D} (s : Step c F H F' H') (h : RdC K c F H v d) : RdC K c F' H' v d := by
  rcases h with h | ⟨p, o, e, nc, h1, h2, h3⟩
  · exact .inl (h.mono s.ef)
  · exact .inr ⟨p, o, e, nc, s.outO h1 nc h2 h3, s.eh p o nc h2, h3.mono s.ef⟩
end
/-- what class of value a term gives -/
inductive Cl where
  | own
  | fresh
  | plain
  deriving DecidableEq
def cls (M : Mode) : E → Cl
  | .var i => if M.own i = true then .own else .plain
  | .prim p _ => if freshP p = true then .fresh else .plain
  | .comp _ _ _ _ _ _ => .fresh
  | .comp2 _ _ _ _ _ _ _ _ _ _ _ => .fresh
  | .dcomp _ _ _ _ _ _ _ => .fresh
  | _ => .plain
def ResE (K : PySem.W.Frag) (c : Option Addr) (k : Cl) (H F' H' : Hp) (v : V) (d : D) : Prop := match k with
  | .own => RdC K c F' H' v d
  | .fresh => FreshR K H F' H' v d
  | .plain => Rp K F' v d
section
variable (K : PySem.W.Frag) (call : CallF) (M : Mode)
/-- a reading of an expression gives what the term is worth -/
def SE (te : TE) (e : E) : Prop := ∀ F0 H0 c F H σ env w d w', Stt K M F0 H0 c F H σ env w → ev call e env w = some (d, w') →
  ∀ Q : VK, (∀ v F' H', Stt K M F0 H0 c F' H' σ env w' → Step c F H F' H' → ResE K c (cls M e) H F' H' v d → Q v H') → te σ H Q
def ST (tt : TT) (e : E) : Prop := ∀ F0 H0 c F H σ env w b w', Stt K M F0 H0 c F H σ env w → ev call e env w = some (.bool b, w') →
  ∀ Q : Bool → Hp → Prop, (∀ F' H', Stt K M F0 H0 c F' H' σ env w' → Step c F H F' H' → Q b H') → tt σ H Q
def SA (ta : TA) (es : List E) : Prop := ∀ F0 H0 c F H σ env w ds w', Stt K M F0 H0 c F H σ env w → evs call es env w = some (ds, w') →
  ∀ Q : List V → Hp → Prop, (∀ vs F' H', Stt K M F0 H0 c F' H' σ env w' → Step c F H F' H' → RdCs K c F' H' vs ds → Q vs H') → ta σ H Q
end
section
variable {K : PySem.W.Frag} {call : CallF} {M : Mode} {te ta tb : TE} {tt : TT} {e a b : E}
theorem Stt.cex {F0 H0 F H : Hp} {c : Option Addr} {σ : St} {env : Ev} {w : D} (S : Stt K M F0 H0 c F H σ env w) : ∀ a, c = some a → H a ≠ none := fun a e => by
  cases h : M.cs with
  | none => rw [S.cn h] at e; cases e
  | some s =>
    obtain ⟨b, e2, _, _, o, h2, _⟩ := S.cup s h
    rw [e] at e2
    cases e2
    rw [h2]
    simp
theorem FreshR.rdC {c : Option Addr} {H F' H' : Hp} {v : V} {d : D} (hc : ∀ a, c = some a → H a ≠ none) (h : FreshR K H F' H' v d) : RdC K c F' H' v d := by
  obtain ⟨p, o, e, h1, h2, h3, h4⟩ := h
  exact .inr ⟨p, o, e, fun z => hc p z h1, h2, h3, h4⟩
theorem ResE.rdC {c : Option Addr} {k : Cl} {H F' H' : Hp} {v : V} {d : D} (hc : ∀ a, c = some a → H a ≠ none) (h : ResE K c k H F' H' v d) : RdC K c F' H' v d := by
  cases k with
  | own => exact h
  | fresh => exact FreshR.rdC hc h
  | plain => exact .inl h
theorem Stt.freeze {F0 H0 F H F' H' : Hp} {c : Option Addr} {σ : St} {env : Ev} {w w' : D} {p : Addr} {o : HO} {d : D} (S : Stt K M F0 H0 c F H σ env w) (S' : Stt K M F0 H0 c F' H' σ env w') (s : Step c F H F' H') (h1 : H p = none) (h2 : F' p = none) (h3 : H' p = some o) (h4 : Cont K F' o d) :
    Stt K M F0 H0 c (upd F' p o) H' σ env w' ∧ Step c F H (upd F' p o) H' ∧ Rp K (upd F' p o) (.ref p) d := by
  have hs := s.hold h1 h2 h3
  refine ⟨S.step hs fun s' e => ?_, hs, (h4.mono (Ex.upd h2)).rp upd_same⟩
  obtain ⟨a, e1, _, k1, u, k2, k3⟩ := S'.cup s' e
  have n : a ≠ p := fun z => S.cex a e1 (by rw [z]; exact h1)
  exact ⟨a, e1, by rw [upd_ne n]; exact k1, u, k2, k3.mono (Ex.upd h2)⟩
theorem evs_length {es : List E} {env : Ev} : ∀ {w : D} {r : List D × D}, evs call es env w = some r → r.1.length = es.length := by
  induction es with
  | nil =>
    intro w r h
    cases h
    rfl
  | cons e es ih =>
    intro w r h
    rw [evs] at h
    cases h1 : ev call e env w with
    | none => rw [h1] at h; cases h
    | some r1 =>
      rw [h1] at h
      simp only [Option.bind_some] at h
      cases h2 : evs call es env r1.2 with
      | none => rw [h2] at h; cases h
      | some r2 =>
        rw [h2] at h
        cases h
        rw [List.length_cons, List.length_cons, ih h2]
/-- .. told for good -/
def SV (K : PySem.W.Frag) (call : CallF) (M : Mode) (te : TE) (e : E) : Prop := ∀ F0 H0 c F H σ env w d w', Stt K M F0 H0 c F H σ env w → ev call e env w = some (d, w') →
  ∀ Q : VK, (∀ v F' H', Stt K M F0 H0 c F' H' σ env w' → Step c F H F' H' → Rp K F' v d → Q v H') → te σ H Q
def SAV (K : PySem.W.Frag) (call : CallF) (M : Mode) (ta : TA) (es : List E) : Prop := ∀ F0 H0 c F H σ env w ds w', Stt K M F0 H0 c F H σ env w → evs call es env w = some (ds, w') →
  ∀ Q : List V → Hp → Prop, (∀ vs F' H', Stt K M F0 H0 c F' H' σ env w' → Step c F H F' H' → RpA K F' vs ds → Q vs H') → ta σ H Q
theorem SE.sv (h : SE K call M te e) (hk : cls M e ≠ .own) : SV K call M te e := fun F0 H0 c F H σ env w d w' S hv Q q => by
  refine h F0 H0 c F H σ env w d w' S hv Q fun v F' H' S' s r => ?_
  cases k : cls M e with
  | own => exact absurd k hk
  | plain =>
    rw [k] at r
    exact q v F' H' S' s r
  | fresh =>
    rw [k] at r
    obtain ⟨p, o, rfl, h1, h2, h3, h4⟩ := r
    obtain ⟨S2, s2, r2⟩ := S.freeze S' s h1 h2 h3 h4
    exact q _ _ _ S2 s2 r2
/-! ### the simple terms -/
theorem SE.is {d : Bool} {c : Option Addr} {k : Cl} {H F' H' : Hp} {v : V} (hc : ∀ a, c = some a → H a ≠ none) (h : ResE K c k H F' H' v (.bool d)) : v = .bl d := (h.rdC hc).rd1.bool
theorem se_var {i : Nat} : SE K call M (tVar i) (.var i) := fun F0 H0 c F H σ env w d w' S hv Q q => by
  rw [ev] at hv
  cases he : env[i]? with
  | none => rw [he] at hv; cases hv
  | some o =>
    rw [he] at hv
    cases o with
    | none => cases hv
    | some d' =>
      cases hv
      cases ho : M.own i with
      | false =>
        obtain ⟨v, e1, r⟩ := S.vals i _ he ho
        refine ⟨v, e1, q v F H S (Step.refl S.fh) ?_⟩
        have z : cls M (.var i) = .plain := by rw [cls, ho]; rfl
        rw [z]
        exact r
      | true =>
        obtain ⟨p, o, e1, e2, e3, e4, e5, e6⟩ := S.owns i _ he ho
        refine ⟨.ref p, e1, q _ F H S (Step.refl S.fh) ?_⟩
        have z : cls M (.var i) = .own := by rw [cls, ho]; rfl
        rw [z]
        exact .inr ⟨p, o, rfl, e4, e2, e5, e6⟩
theorem se_con {v : V} {d : D} (h : ∀ F, Rp K F v d) : SE K call M (tC v) (.con d) := fun F0 H0 c F H σ env w d' w' S hv Q q => by
  cases hv
  exact q v F H S (Step.refl S.fh) (h F)
theorem sa_nil : SA K call M tNil [] := fun F0 H0 c F H σ env w ds w' S hv Q q => by
  cases hv
  exact q [] F H S (Step.refl S.fh) .nil
theorem sa_cons {ta : TA} {es : List E} (h : SE K call M te e) (hs : SA K call M ta es) : SA K call M (tCons te ta) (e :: es) := fun F0 H0 c F H σ env w ds w' S hv Q q => by
  rw [evs] at hv
  cases h1 : ev call e env w with
  | none => rw [h1] at hv; cases hv
  | some r =>
    rw [h1] at hv
    cases h2 : evs call es env r.2 with
    | none => simp only [Option.bind_some] at hv; rw [h2] at hv; cases hv
    | some r2 =>
      simp only [Option.bind_some] at hv
      rw [h2] at hv
      cases hv
      refine h F0 H0 c F H σ env w r.1 r.2 S h1 _ fun v F1 H1 S1 s1 k1 => ?_
      refine hs F0 H0 c F1 H1 σ env r.2 r2.1 r2.2 S1 h2 _ fun vs F2 H2 S2 s2 k2 => ?_
      exact q _ F2 H2 S2 (s1.trans s2) (.cons ((k1.rdC S.cex).step s2) k2)
theorem sav_nil : SAV K call M tNil [] := fun F0 H0 c F H σ env w ds w' S hv Q q => by
  cases hv
  exact q [] F H S (Step.refl S.fh) .nil
theorem sav_cons {ta : TA} {es : List E} (h : SV K call M te e) (hs : SAV K call M ta es) : SAV K call M (tCons te ta) (e :: es) := fun F0 H0 c F H σ env w ds w' S hv Q q => by
  rw [evs] at hv
  cases h1 : ev call e env w with
  | none => rw [h1] at hv; cases hv
  | some r =>
    rw [h1] at hv
    cases h2 : evs call es env r.2 with
    | none => simp only [Option.bind_some] at hv; rw [h2] at hv; cases hv
    | some r2 =>
      simp only [Option.bind_some] at hv
      rw [h2] at hv
      cases hv
      refine h F0 H0 c F H σ env w r.1 r.2 S h1 _ fun v F1 H1 S1 s1 k1 => ?_
      refine hs F0 H0 c F1 H1 σ env r.2 r2.1 r2.2 S1 h2 _ fun vs F2 H2 S2 s2 k2 => ?_
      exact q _ F2 H2 S2 (s1.trans s2) (.cons (k1.mono s2.ef) k2)
/-- a primitive of what its operands are worth -/
def tPrim (K : PySem.W.Frag) (p : Prim) (ta : TA) : TE := fun σ H Q => ta σ H fun vs H1 => rD K p vs H1 Q
theorem se_prim {ta : TA} {es : List E} {p : Prim} (hs : SA K call M ta es) : SE K call M (tPrim K p ta) (.prim p es) := fun F0 H0 c F H σ env w d w' S hv Q q => by
  rw [ev] at hv
  cases h1 : evs call es env w with
  | none => rw [h1] at hv; cases hv
  | some r =>
    rw [h1] at hv
    simp only [Option.bind_some] at hv
    cases h2 : prim p r.1 with
    | none => rw [h2] at hv; cases hv
    | some d2 =>
      rw [h2] at hv
      cases hv
      refine hs F0 H0 c F H σ env w r.1 r.2 S h1 _ fun vs F1 H1 S1 s1 k1 => ?_
      refine ⟨F1, r.1, _, S1.fh, k1.rd1, h2, fun v F2 H2 s2 k2 => ?_⟩
      refine q v F2 H2 (S1.calm s2) (s1.trans s2.weak) ?_
      show ResE K c (if freshP p = true then .fresh else .plain) H F2 H2 v d
      cases hf : freshP p with
      | true =>
        rw [hf] at k2
        obtain ⟨p1, o1, g1, g2, g3⟩ := k2
        exact ⟨p1, o1, g1, s1.fresh g2, g3⟩
      | false =>
        rw [hf] at k2
        exact k2
theorem asB_inv {d : D} {b : Bool} (h : asB d = some b) : d = .bool b := by
  cases d with
  | bool c => cases h; rfl
  | _ => cases h
theorem st_val (h : SE K call M te e) : ST K call M (tB te) e := fun F0 H0 c F H σ env w b w' S hv Q q =>
  h F0 H0 c F H σ env w (.bool b) w' S hv _ fun v F1 H1 S1 s1 k1 => ⟨b, SE.is S.cex k1, q F1 H1 S1 s1⟩
theorem st_not (h : ST K call M tt a) : ST K call M (tNot tt) (.not a) := fun F0 H0 c F H σ env w b w' S hv Q q => by
  rw [ev] at hv
  cases h1 : ev call a env w with
  | none => rw [h1] at hv; cases hv
  | some r =>
    rw [h1] at hv
    simp only [Option.bind_some] at hv
    cases h2 : asB r.1 with
    | none => rw [h2] at hv; cases hv
    | some k =>
      rw [h2] at hv
      cases hv
      obtain ⟨d, w1⟩ := r
      have e : d = .bool k := asB_inv h2
      subst e
      exact h F0 H0 c F H σ env w k w1 S h1 _ fun F1 H1 S1 s1 => q F1 H1 S1 s1
theorem se_not (h : SE K call M ta a) : SE K call M (tNotV ta) (.not a) := fun F0 H0 c F H σ env w d w' S hv Q q => by
  rw [ev] at hv
  cases h1 : ev call a env w with
  | none => rw [h1] at hv; cases hv
  | some r =>
    rw [h1] at hv
    simp only [Option.bind_some] at hv
    cases h2 : asB r.1 with
    | none => rw [h2] at hv; cases hv
    | some k =>
      rw [h2] at hv
      cases hv
      obtain ⟨d, w1⟩ := r
      have e : d = .bool k := asB_inv h2
      subst e
      exact h F0 H0 c F H σ env w _ w1 S h1 _ fun v F1 H1 S1 s1 k1 => ⟨k, SE.is S.cex k1, q _ F1 H1 S1 s1 (.bl _)⟩
theorem se_and (h : SE K call M ta a) (h2 : SE K call M tb b) (hb : cls M b ≠ .own) : SE K call M (tAndV ta tb) (.and a b) := fun F0 H0 c F H σ env w d w' S hv Q q => by
  rw [ev] at hv
  cases h1 : ev call a env w with
  | none => rw [h1] at hv; cases hv
  | some r =>
    rw [h1] at hv
    simp only [Option.bind_some] at hv
    cases e2 : asB r.1 with
    | none => rw [e2] at hv; cases hv
    | some k =>
      rw [e2] at hv
      obtain ⟨d1, w1⟩ := r
      have e : d1 = .bool k := asB_inv e2
      subst e
      refine h F0 H0 c F H σ env w _ w1 S h1 _ fun v F1 H1 S1 s1 k1 => ⟨k, SE.is S.cex k1, ?_⟩
      cases k with
      | true => exact h2.sv hb F0 H0 c F1 H1 σ env w1 d w' S1 hv _ fun v F2 H2 S2 s2 k2 => q v F2 H2 S2 (s1.trans s2) k2
      | false =>
        cases hv
        exact q _ F1 H1 S1 s1 (.bl _)
theorem se_or (h : SE K call M ta a) (h2 : SE K call M tb b) (hb : cls M b ≠ .own) : SE K call M (tOrV ta tb) (.or a b) := fun F0 H0 c F H σ env w d w' S hv Q q => by
  rw [ev] at hv
  cases h1 : ev call a env w with
  | none => rw [h1] at hv; cases hv
  | some r =>
    rw [h1] at hv
    simp only [Option.bind_some] at hv
    cases e2 : asB r.1 with
    | none => rw [e2] at hv; cases hv
    | some k =>
      rw [e2] at hv
      obtain ⟨d1, w1⟩ := r
      have e : d1 = .bool k := asB_inv e2
      subst e
      refine h F0 H0 c F H σ env w _ w1 S h1 _ fun v F1 H1 S1 s1 k1 => ⟨k, SE.is S.cex k1, ?_⟩
      cases k with
      | false => exact h2.sv hb F0 H0 c F1 H1 σ env w1 d w' S1 hv _ fun v F2 H2 S2 s2 k2 => q v F2 H2 S2 (s1.trans s2) k2
      | true =>
        cases hv
        exact q _ F1 H1 S1 s1 (.bl _)
theorem st_and {tu : TT} (h : ST K call M tt a) (h2 : ST K call M tu b) : ST K call M (tAnd tt tu) (.and a b) := fun F0 H0 c F H σ env w d w' S hv Q q => by
  rw [ev] at hv
  cases h1 : ev call a env w with
  | none => rw [h1] at hv; cases hv
  | some r =>
    rw [h1] at hv
    simp only [Option.bind_some] at hv
    cases e2 : asB r.1 with
    | none => rw [e2] at hv; cases hv
    | some k =>
      rw [e2] at hv
      obtain ⟨d1, w1⟩ := r
      have e : d1 = .bool k := asB_inv e2
      subst e
      refine h F0 H0 c F H σ env w _ w1 S h1 _ fun F1 H1 S1 s1 => ?_
      cases k with
      | true => exact h2 F0 H0 c F1 H1 σ env w1 d w' S1 hv _ fun F2 H2 S2 s2 => q F2 H2 S2 (s1.trans s2)
      | false =>
        cases hv
        exact q F1 H1 S1 s1
theorem st_or {tu : TT} (h : ST K call M tt a) (h2 : ST K call M tu b) : ST K call M (tOr tt tu) (.or a b) := fun F0 H0 c F H σ env w d w' S hv Q q => by
  rw [ev] at hv
  cases h1 : ev call a env w with
  | none => rw [h1] at hv; cases hv
  | some r =>
    rw [h1] at hv
    simp only [Option.bind_some] at hv
    cases e2 : asB r.1 with
    | none => rw [e2] at hv; cases hv
    | some k =>
      rw [e2] at hv
      obtain ⟨d1, w1⟩ := r
      have e : d1 = .bool k := asB_inv e2
      subst e
      refine h F0 H0 c F H σ env w _ w1 S h1 _ fun F1 H1 S1 s1 => ?_
      cases k with
      | false => exact h2 F0 H0 c F1 H1 σ env w1 d w' S1 hv _ fun F2 H2 S2 s2 => q F2 H2 S2 (s1.trans s2)
      | true =>
        cases hv
        exact q F1 H1 S1 s1
theorem se_ite {x : E} (h : ST K call M tt x) (h2 : SE K call M ta a) (h3 : SE K call M tb b) (ha : cls M a ≠ .own) (hb : cls M b ≠ .own) : SE K call M (tIf tt ta tb) (.ite x a b) := fun F0 H0 c F H σ env w d w' S hv Q q => by
  rw [ev] at hv
  cases h1 : ev call x env w with
  | none => rw [h1] at hv; cases hv
  | some r =>
    rw [h1] at hv
    simp only [Option.bind_some] at hv
    cases e2 : asB r.1 with
    | none => rw [e2] at hv; cases hv
    | some k =>
      rw [e2] at hv
      obtain ⟨d1, w1⟩ := r
      have e : d1 = .bool k := asB_inv e2
      subst e
      refine h F0 H0 c F H σ env w _ w1 S h1 _ fun F1 H1 S1 s1 => ?_
      cases k with
      | true => exact h2.sv ha F0 H0 c F1 H1 σ env w1 d w' S1 hv _ fun v F2 H2 S2 s2 k2 => q v F2 H2 S2 (s1.trans s2) k2
      | false => exact h3.sv hb F0 H0 c F1 H1 σ env w1 d w' S1 hv _ fun v F2 H2 S2 s2 k2 => q v F2 H2 S2 (s1.trans s2) k2
/-! ### calls -/
/-- what a def of n parameters promises: the answer is what the run of its term is worth -/
def spN (K : PySem.W.Frag) (call : CallF) (i n : Nat) : Sp := fun vs H Q _ => vs.length = n ∧ ∃ F ds d w', Ex F H ∧ RpA K F vs ds ∧ call i ds .none = some (d, w') ∧
  ∀ v F' H', Step none F H F' H' → Rp K F' v d → Q v H'
/-- .. its first parameter the list of draws -/
def spC (K : PySem.W.Frag) (call : CallF) (i n : Nat) : Sp := fun vs H Q _ => vs.length = n ∧ ∃ a vs' F ds d w w', vs = .ref a :: vs' ∧ Ex F H ∧ CupAt K F H a w ∧ RpA K F vs' ds ∧ call i ds w = some (d, w') ∧
  ∀ v F' H', Step (some a) F H F' H' → CupAt K F' H' a w' → Rp K F' v d → Q v H'
theorem se_call {X0 : XK} {i n : Nat} {es : List E} {ta : TA} (hs : SAV K call M ta es) (hn : es.length = n) : SE K call M (tCall (spN K call i n) [] X0 ta) (.call i false es) := fun F0 H0 c F H σ env w d w' S hv Q q => by
  rw [ev] at hv
  cases h1 : evs call es env w with
  | none => rw [h1] at hv; cases hv
  | some r =>
    rw [h1] at hv
    simp only [Option.bind_some] at hv
    cases h2 : call i r.1 .none with
    | none => rw [h2] at hv; cases hv
    | some r2 =>
      rw [h2] at hv
      cases hv
      refine hs F0 H0 c F H σ env w r.1 r.2 S h1 _ fun vs F1 H1 S1 s1 k1 => ?_
      rw [List.append_nil]
      refine ⟨?_, F1, r.1, r2.1, r2.2, S1.fh, k1, h2, fun v F2 H2 s2 k2 => q v F2 H2 (S1.calm s2) (s1.trans s2.weak) k2⟩
      rw [k1.length, evs_length h1]
      exact hn
end
end PyI
set_option Elab.async false
set_option linter.all false
set_option maxRecDepth 100000
set_option maxHeartbeats 1000000
namespace PyI
open PySem L2 PySem.Spec

/-! ### calls that lend lists, calls with the list of draws -/
mutual
theorem flatRp {K : PySem.W.Frag} {F G : Hp} (h : ∀ a xs, Rd F a (.tup xs) → Rd G a (.tup xs)) : ∀ {d : D} {v : V}, flat d = true → Rp K F v d → Rp K G v d
  | _, _, _, .non => .non
  | _, _, _, .bl b => .bl b
  | _, _, _, .int b => .int b
  | _, _, _, .str b => .str b
  | _, _, p, .lst _ _ => by simp [flat] at p
  | _, _, p, .dk _ _ => by simp [flat] at p
  | _, _, p, .tup hs r => .tup (by
      rcases hs with z | z
      · exact .inl (h _ _ z)
      · exact .inr z) (flatRpA h (by simpa only [flat] using p) r)
theorem flatRpA {K : PySem.W.Frag} {F G : Hp} (h : ∀ a xs, Rd F a (.tup xs) → Rd G a (.tup xs)) : ∀ {ds : List D} {vs : List V}, flatAll ds = true → RpA K F vs ds → RpA K G vs ds
  | _, _, _, .nil => .nil
  | _, _, p, .cons q r => by
    rw [flatAll, Bool.and_eq_true] at p
    exact .cons (flatRp h p.1 q) (flatRpA h p.2 r)
end
theorem RdCs.rpG {K : PySem.W.Frag} {c : Option Addr} {F H G : Hp} (g2 : Ex F G) (g3 : ∀ p o, c ≠ some p → H p = some o → G p = some o) {vs : List V} {ds : List D} (h : RdCs K c F H vs ds) : RpA K G vs ds := by
  induction h with
  | nil => exact .nil
  | cons k _ ih =>
    refine .cons ?_ ih
    rcases k with k | ⟨p, o, rfl, nc, _, k2, k3⟩
    · exact k.mono g2
    · exact (k3.mono g2).rp (g3 p o nc k2)
section
variable {K : PySem.W.Frag} {call : CallF} {M : Mode} {te ta tb : TE} {tt : TT} {e a b : E}
theorem se_callL {X0 : XK} {i n : Nat} {es : List E} {ta : TA} (hs : SA K call M ta es) (hn : es.length = n) : SE K call M (tCall (spN K call i n) [] X0 ta) (.call i true es) := fun F0 H0 c F H σ env w d w' S hv Q q => by
  rw [ev] at hv
  cases h1 : evs call es env w with
  | none => rw [h1] at hv; cases hv
  | some r =>
    rw [h1] at hv
    simp only [Option.bind_some] at hv
    cases h2 : call i r.1 .none with
    | none => rw [h2] at hv; cases hv
    | some r2 =>
      rw [h2] at hv
      simp only [Option.bind_some, Bool.true_and] at hv
      cases hf : flat r2.1 with
      | false => rw [hf] at hv; cases hv
      | true =>
        rw [hf] at hv
        cases hv
        refine hs F0 H0 c F H σ env w r.1 r.2 S h1 _ fun vs F1 H1 S1 s1 k1 => ?_
        rw [List.append_nil]
        -- all but the list of draws
        have cF : ∀ a, c = some a → F1 a = none := fun a e => by
          cases hm : M.cs with
          | none => rw [S1.cn hm] at e; cases e
          | some s =>
            obtain ⟨a', e', _, z, _⟩ := S1.cup s hm
            rw [e] at e'
            cases e'
            exact z
        have key : ∃ G : Hp, Ex G H1 ∧ Ex F1 G ∧ ∀ p o, c ≠ some p → H1 p = some o → G p = some o := by
          refine ⟨fun a => if c = some a then none else H1 a, fun a o h => ?_, fun a o h => ?_, fun p o nc h => ?_⟩
          · by_cases z : c = some a
            · simp [z] at h
            · simpa [z] using h
          · by_cases z : c = some a
            · rw [cF a z] at h; cases h
            · simp only [z, if_false]; exact S1.fh a o h
          · simp only [nc, if_false]; exact h
        obtain ⟨G, g1, g2, g3⟩ := key
        have kr : RpA K G vs r.1 := k1.rpG g2 g3
        refine ⟨by rw [kr.length, evs_length h1]; exact hn, G, r.1, r2.1, r2.2, g1, kr, h2, fun v F2 H2 s2 k2 => ?_⟩
        -- the tuples of the answer
        let F3 : Hp := fun a => match F1 a with
          | some o => some o
          | none => match F2 a with
            | some o => if isTupO o = true then some o else none
            | none => none
        have f31 : ∀ a o, F1 a = some o → F3 a = some o := fun a o h => by show (match F1 a with | some o => some o | none => _) = _; rw [h]
        have f32 : ∀ a o, F2 a = some o → isTupO o = true → F3 a = some o := fun a o h t => by
          cases z : F1 a with
          | some u =>
            have e1 := s2.ef a u (g2 a u z)
            rw [h] at e1
            cases e1
            exact f31 a o z
          | none =>
            show (match F1 a with | some o => some o | none => _) = _
            rw [z]
            show (match F2 a with | some o => if isTupO o = true then some o else none | none => none) = _
            rw [h]
            exact if_pos t
        have f3 : ∀ a o, F3 a = some o → F1 a = some o ∨ (F2 a = some o ∧ isTupO o = true) := fun a o h => by
          cases z : F1 a with
          | some u =>
            rw [f31 a u z] at h
            cases h
            exact .inl rfl
          | none =>
            have h' : (match F2 a with | some o => if isTupO o = true then some o else none | none => none) = some o := by
              have : F3 a = (match F1 a with | some o => some o | none => match F2 a with | some o => if isTupO o = true then some o else none | none => none) := rfl
              rw [this, z] at h
              exact h
            cases z2 : F2 a with
            | none => rw [z2] at h'; cases h'
            | some u =>
              rw [z2] at h'
              by_cases t : isTupO u = true
              · have h'' : (if isTupO u = true then some u else none) = some o := h'
                rw [if_pos t] at h''
                cases h''
                exact .inr ⟨rfl, t⟩
              · have h'' : (if isTupO u = true then some u else none) = some o := h'
                rw [if_neg t] at h''
                cases h''
        have s3 : Step none F1 H1 F3 H2 := by
          refine ⟨fun a o h => f31 a o h, s2.eh, fun a o h => ?_, fun a o h => ?_, s2.cs⟩
          · rcases f3 a o h with z | ⟨z, _⟩
            · exact s2.fh a o (s2.ef a o (g2 a o z))
            · exact s2.fh a o z
          · rcases f3 a o h with z | ⟨z, t⟩
            · exact .inl z
            · exact .inr (.inr t)
        refine q v F3 H2 (S1.calm s3) (s1.trans s3.weak) ?_
        exact flatRp (fun a xs h => by
          rcases h with h | ⟨o, h⟩
          · exact .inl (f32 a _ h rfl)
          · exact .inr ⟨o, f32 a _ h rfl⟩) hf k2
theorem se_callC {X0 : XK} {i n s : Nat} {es : List E} {ta : TA} (hc : M.cs = some s) (hs : SAV K call M ta es) (hn : es.length + 1 = n) : SE K call M (tCall (spC K call i n) [] X0 (tCons (tVar s) ta)) (.callC i es) := fun F0 H0 c F H σ env w d w' S hv Q q => by
  rw [ev] at hv
  cases h1 : evs call es env w with
  | none => rw [h1] at hv; cases hv
  | some r =>
    rw [h1] at hv
    simp only [Option.bind_some] at hv
    obtain ⟨a, ec, eσ, _⟩ := S.cup s hc
    refine ⟨.ref a, eσ, ?_⟩
    refine hs F0 H0 c F H σ env w r.1 r.2 S h1 _ fun vs F1 H1 S1 s1 k1 => ?_
    obtain ⟨a', ec', _, cu⟩ := S1.cup s hc
    rw [ec] at ec'
    cases ec'
    rw [List.append_nil]
    refine ⟨by rw [List.length_cons, k1.length, evs_length h1]; exact hn, a, vs, F1, r.1, d, r.2, w', rfl, S1.fh, cu, k1, hv, fun v F2 H2 s2 cu2 k2 => ?_⟩
    rw [← ec] at s2
    exact q v F2 H2 (S1.step s2 fun s' _ => ⟨a, ec, cu2⟩) (s1.trans s2) k2
end

/-! ### targets -/
mutual
def T.ok (M : Mode) (vs : List Nat) : T → Bool
  | .nm i => !M.own i && decide (M.cs ≠ some i) && vs.contains i
  | .tp ts => T.oks M vs ts
def T.oks (M : Mode) (vs : List Nat) : List T → Bool
  | [] => true
  | t :: ts => t.ok M vs && T.oks M vs ts
end
theorem wipe_set {σ : St} {i : Nat} {x : Option V} : ∀ {vs : List Nat}, i ∈ vs → wipe (σ.set i x) vs = wipe σ vs
  | [], h => by simp at h
  | v :: vs, h => by
    unfold wipe
    by_cases z : i = v
    · subst z
      by_cases m : i ∈ vs
      · rw [wipe_set m]
      · have out : ∀ (us : List Nat) (τ : St), i ∉ us → wipe (τ.set i x) us = (wipe τ us).set i x := by
          intro us
          induction us with
          | nil => intro τ _; rfl
          | cons u us ih =>
            intro τ hu
            unfold wipe
            rw [ih τ fun m => hu (List.mem_cons_of_mem _ m)]
            exact List.set_comm _ _ fun e => hu (by rw [e]; exact List.mem_cons_self ..)
        rw [out vs σ m, List.set_set]
    · have m : i ∈ vs := by
        rcases List.mem_cons.mp h with e | m
        · exact absurd e z
        · exact m
      rw [wipe_set m]
theorem wipe_wipe {σ : St} : ∀ {vs : List Nat}, wipe (wipe σ vs) vs = wipe σ vs := by
  have key : ∀ (us vs : List Nat) (τ : St), (∀ i ∈ us, i ∈ vs) → wipe (wipe τ us) vs = wipe τ vs := by
    intro us
    induction us with
    | nil => intro vs τ _; rfl
    | cons u us ih =>
      intro vs τ h
      show wipe ((wipe τ us).set u none) vs = _
      rw [wipe_set (h u (List.mem_cons_self ..)), ih vs τ fun i hi => h i (List.mem_cons_of_mem _ hi)]
  exact fun {vs} => key vs vs σ fun _ h => h
section
variable {K : PySem.W.Frag} {M : Mode}
/-- a target stores what it is given -/
def SG (K : PySem.W.Frag) (M : Mode) (g : TG) (t : T) (vs : List Nat) : Prop := ∀ F0 H0 c F H σ env w v d env', Stt K M F0 H0 c F H σ env w → Rp K F v d → bindT t d env = some env' →
  ∀ Q : St → Hp → Prop, (∀ σ', Stt K M F0 H0 c F H σ' env' w → wipe σ' vs = wipe σ vs → Q σ' H) → g v σ H Q
def SGs (K : PySem.W.Frag) (M : Mode) (g : TGs) (ts : List T) (vs : List Nat) : Prop := ∀ F0 H0 c F H σ env w us ds env', Stt K M F0 H0 c F H σ env w → RpA K F us ds → bindTs ts ds env = some env' →
  ∀ Q : St → Hp → Prop, (∀ σ', Stt K M F0 H0 c F H σ' env' w → wipe σ' vs = wipe σ vs → Q σ' H) → g us σ H Q
theorem sg_nm {i : Nat} {vs : List Nat} (h : T.ok M vs (.nm i) = true) : SG K M (gName i) (.nm i) vs := fun F0 H0 c F H σ env w v d env' S r hb Q q => by
  rw [T.ok, Bool.and_eq_true, Bool.and_eq_true] at h
  rw [bindT] at hb
  split at hb
  · cases hb
    exact q _ (S.set (by simpa using h.1.1) (of_decide_eq_true h.1.2) r) (wipe_set (by simpa using h.2))
  · cases hb
theorem sgs_nil {vs : List Nat} : SGs K M gNil [] vs := fun F0 H0 c F H σ env w us ds env' S r hb Q q => by
  cases r with
  | nil =>
    rw [bindTs] at hb
    cases hb
    exact ⟨rfl, q σ S rfl⟩
  | cons _ _ => rw [bindTs] at hb <;> first | cases hb | simp
theorem sgs_cons {g : TG} {gs : TGs} {t : T} {ts : List T} {vs : List Nat} (h : SG K M g t vs) (hs : SGs K M gs ts vs) : SGs K M (gCons g gs) (t :: ts) vs := fun F0 H0 c F H σ env w us ds env' S r hb Q q => by
  cases r with
  | nil => rw [bindTs] at hb <;> first | cases hb | simp
  | @cons u us d ds r1 r2 =>
    rw [bindTs] at hb
    cases h1 : bindT t d env with
    | none => rw [h1] at hb; cases hb
    | some env1 =>
      rw [h1] at hb
      refine ⟨u, us, rfl, h F0 H0 c F H σ env w u d env1 S r1 h1 _ fun σ1 S1 w1 => ?_⟩
      exact hs F0 H0 c F H σ1 env1 w us ds env' S1 r2 hb Q fun σ2 S2 w2 => q σ2 S2 (w2.trans w1)
theorem bindTs_len : ∀ {ts : List T} {ds : List D} {env env' : Ev}, bindTs ts ds env = some env' → ds.length = ts.length
  | [], [], _, _, _ => rfl
  | [], _ :: _, _, _, h => by rw [bindTs] at h <;> first | cases h | simp
  | _ :: _, [], _, _, h => by rw [bindTs] at h <;> first | cases h | simp
  | t :: ts, d :: ds, env, env', h => by
    rw [bindTs] at h
    cases h1 : bindT t d env with
    | none => rw [h1] at h; cases h
    | some env1 =>
      rw [h1] at h
      rw [List.length_cons, List.length_cons, bindTs_len (ts := ts) (ds := ds) h]
theorem sg_tp {gs : TGs} {ts : List T} {n : Nat} {vs : List Nat} (hs : SGs K M gs ts vs) (hn : ts.length = n) : SG K M (gTup K n gs) (.tp ts) vs := fun F0 H0 c F H σ env w v d env' S r hb Q q => by
  cases r with
  | @tup a xs ds hq ra =>
    rw [bindT] at hb
    exact ⟨a, xs, rfl, S.fh.sqT hq, by rw [ra.length, bindTs_len hb]; exact hn, hs F0 H0 c F H σ env w xs ds env' S ra hb Q q⟩
  | _ => cases hb
end

/-! ### what is walked -/
/-- the iterator J gives the items xs, while F stands -/
structure ItOk (K : PySem.W.Frag) (c : Option Addr) (J : It) (F H : Hp) (xs : List D) : Prop where
  goes : ∀ i F1 H1, i < xs.length → Step c F H F1 H1 → J.go i H1
  stops : ∀ F1 H1, Step c F H F1 H1 → J.stop xs.length H1
  yields : ∀ i d F1 H1 x H2, xs[i]? = some d → Step c F H F1 H1 → J.yld i H1 x H2 → ∃ F2, Step none F1 H1 F2 H2 ∧ Rp K F2 x d
def SI (K : PySem.W.Frag) (call : CallF) (M : Mode) (wi : TI) (k : ItK) (es : List E) : Prop := ∀ F0 H0 c F H σ env w ds xs w', Stt K M F0 H0 c F H σ env w → evs call es env w = some (ds, w') → items k ds = some xs →
  ∀ R : It → Hp → Prop, (∀ J F' H', Stt K M F0 H0 c F' H' σ env w' → Step c F H F' H' → ItOk K c J F' H' xs → xs.length ≤ sizeLine → R J H') → wi σ H R
section
variable {K : PySem.W.Frag} {call : CallF} {M : Mode} {te : TE}
/-- a list or a tuple, whichever it is -/
def iSeq (K : PySem.W.Frag) (tl : TE) : TI := fun σ H R => tl σ H fun x H1 => ∃ a xs, x = .ref a ∧ ((SqL K H1 a xs ∧ (xs.length ≤ sizeLine → R (Itl K a) H1)) ∨ (SqT K H1 a xs ∧ (xs.length ≤ sizeLine → R (Itt K a) H1)))
theorem pi_seq {X : Cx} {tg l : Expr} {tl : TE} (hl : PE X l tl) : PI X tg l (iSeq X.K tl) := by
  refine ⟨fun pins s σ H R I h => ?_⟩
  refine thn (hl.run pins s σ H _ I h) fun v s1 ⟨x, H1, I1, r1, a, xs, e, q1⟩ => ?_
  subst e
  cases r1
  rcases q1 with ⟨hs, q⟩ | ⟨hs, q⟩
  · obtain ⟨its, rv, p, z⟩ := I1.list hs
    exact wpAny_pyIter_list p.isList (pi_one I1 _ (turn_list a _) ⟨_, Heap.get?_push_size _ rfl, rfl, rfl⟩ (q z))
  · obtain ⟨its, rv, p, z⟩ := I1.tuple hs
    exact wpAny_pyIter_tuple (show s1.heap.IsTuple a its.toArray from p) (pi_one I1 _ (turn_tuple a _) ⟨_, Heap.get?_push_size _ rfl, rfl, rfl⟩ (q z))

/-- what is read stays as it is: told by F, or an object that only the body itself may change -/
theorem RdC.listAt {c : Option Addr} {F H : Hp} {v : V} {ds : List D} (e : Ex F H) (h : RdC K c F H v (.list ds)) : ∃ a xs, v = .ref a ∧ RpA K F xs ds ∧ ∀ F1 H1, Step c F H F1 H1 → H1 a = some (.lst xs) := by
  rcases h with h | ⟨p, o, rfl, nc, hf, ho, h⟩
  · cases h with
    | lst h r => exact ⟨_, _, rfl, r, fun F1 H1 s => s.fh _ _ (s.ef _ _ h)⟩
  · cases h with
    | lst r => exact ⟨_, _, rfl, r, fun F1 H1 s => s.eh _ _ nc ho⟩
theorem RdC.tupAt {c : Option Addr} {F H : Hp} {v : V} {ds : List D} (h : RdC K c F H v (.tuple ds)) : ∃ a xs, v = .ref a ∧ RpA K F xs ds ∧ SqT K F a xs := by
  rcases h with h | ⟨p, o, rfl, nc, hf, ho, h⟩
  · cases h with
    | tup h r => exact ⟨_, _, rfl, r, h⟩
  · cases h
theorem itl_ok {c : Option Addr} {F H : Hp} {a : Addr} {xs : List V} {ds : List D} (r : RpA K F xs ds) (h : ∀ F1 H1, Step c F H F1 H1 → H1 a = some (.lst xs)) : ItOk K c (Itl K a) F H ds where
  goes := fun i F1 H1 hi s => by
    have hi' : i < xs.length := by rw [r.length]; exact hi
    exact ⟨xs, xs[i], .inl (.inl (h F1 H1 s)), List.getElem?_eq_getElem hi'⟩
  stops := fun F1 H1 s => ⟨xs, .inl (.inl (h F1 H1 s)), Nat.le_of_eq r.length⟩
  yields := fun i d F1 H1 x H2 hd s y => by
    obtain ⟨rfl, y⟩ := y
    obtain ⟨v, hv, rv⟩ := r.get hd
    have e := (y xs (.inl (.inl (h F1 _ s)))).symm.trans hv
    cases e
    exact ⟨F1, Step.refl s.fh, rv.mono s.ef⟩
theorem itt_ok {c : Option Addr} {F H : Hp} {a : Addr} {xs : List V} {ds : List D} (r : RpA K F xs ds) (h : SqT K F a xs) : ItOk K c (Itt K a) F H ds where
  goes := fun i F1 H1 hi s => by
    have hi' : i < xs.length := by rw [r.length]; exact hi
    exact ⟨xs, xs[i], s.fh.sqT (s.ef.sqT h), List.getElem?_eq_getElem hi'⟩
  stops := fun F1 H1 s => ⟨xs, s.fh.sqT (s.ef.sqT h), Nat.le_of_eq r.length⟩
  yields := fun i d F1 H1 x H2 hd s y => by
    obtain ⟨rfl, y⟩ := y
    obtain ⟨v, hv, rv⟩ := r.get hd
    have e := (y xs (s.fh.sqT (s.ef.sqT h))).symm.trans hv
    cases e
    exact ⟨F1, Step.refl s.fh, rv.mono s.ef⟩
theorem range_len {lo : Int} {n : Nat} : (rangeL lo n).length = n := by
  unfold rangeL
  rw [List.length_map, List.length_range]
theorem range_get {lo : Int} {n i : Nat} {d : D} (h : (rangeL lo n)[i]? = some d) : i < n ∧ d = .int (lo + i) := by
  have hi : i < n := by
    have := (List.getElem?_eq_some_iff.mp h).1
    rw [range_len] at this
    exact this
  unfold rangeL at h
  rw [List.getElem?_map, List.getElem?_range hi] at h
  cases h
  exact ⟨hi, rfl⟩
theorem rangeC_len {lo c : Int} {n : Nat} : (rangeC lo c n).length = n := by
  unfold rangeC
  rw [List.length_map, List.length_range]
theorem rangeC_get {lo c : Int} {n i : Nat} {d : D} (h : (rangeC lo c n)[i]? = some d) : i < n ∧ d = .int (lo + (i : Int) * c) := by
  have hi : i < n := by
    have := (List.getElem?_eq_some_iff.mp h).1
    rw [rangeC_len] at this
    exact this
  unfold rangeC at h
  rw [List.getElem?_map, List.getElem?_range hi] at h
  cases h
  exact ⟨hi, rfl⟩
theorem itc_ok {c : Option Addr} {F H : Hp} {lo k : Int} {n : Nat} : ItOk K c (Itc lo k n) F H (rangeC lo k n) where
  goes := fun i F1 H1 hi s => by
    rw [rangeC_len] at hi
    exact hi
  stops := fun F1 H1 s => Nat.le_of_eq rangeC_len.symm
  yields := fun i d F1 H1 x H2 hd s y => by
    obtain ⟨rfl, rfl⟩ := y
    obtain ⟨_, rfl⟩ := rangeC_get hd
    exact ⟨F1, Step.refl s.fh, .int _⟩
theorem itr_ok {c : Option Addr} {F H : Hp} {lo : Int} {n : Nat} : ItOk K c (Itr lo n) F H (rangeL lo n) where
  goes := fun i F1 H1 hi s => by
    rw [range_len] at hi
    exact hi
  stops := fun F1 H1 s => Nat.le_of_eq range_len.symm
  yields := fun i d F1 H1 x H2 hd s y => by
    obtain ⟨rfl, rfl⟩ := y
    obtain ⟨_, rfl⟩ := range_get hd
    exact ⟨F1, Step.refl s.fh, .int _⟩
theorem si_seq {e : E} (h : SE K call M te e) : SI K call M (iSeq K te) .seq [e] := fun F0 H0 c F H σ env w ds xs w' S hv hi R q => by
  rw [evs] at hv
  cases h1 : ev call e env w with
  | none => rw [h1] at hv; cases hv
  | some r =>
    rw [h1] at hv
    cases hv
    obtain ⟨d, w1⟩ := r
    have hi : seqOf d = some xs := hi
    refine h F0 H0 c F H σ env w d w1 S h1 _ fun v F1 H1 S1 s1 k1 => ?_
    have k := k1.rdC S.cex
    rcases seqOf_inv hi with rfl | rfl
    · obtain ⟨a, us, rfl, r, z⟩ := k.listAt S1.fh
      refine ⟨a, us, rfl, .inl ⟨.inl (.inl (z F1 H1 (Step.refl S1.fh))), fun hl => ?_⟩⟩
      exact q _ F1 H1 S1 s1 (itl_ok r z) (by rw [← r.length]; exact hl)
    · obtain ⟨a, us, rfl, r, z⟩ := k.tupAt
      refine ⟨a, us, rfl, .inr ⟨S1.fh.sqT z, fun hl => ?_⟩⟩
      exact q _ F1 H1 S1 s1 (itt_ok r z) (by rw [← r.length]; exact hl)
theorem itRng1_inv {ds xs : List D} (h : itRng1 ds = some xs) : ∃ n : Int, ds = [.int n] ∧ -16777216 ≤ n ∧ n ≤ 16777216 ∧ xs = rangeL 0 n.toNat := by
  match ds, h with
  | [.int n], h =>
    rw [itRng1] at h
    split at h
    · rename_i z
      cases h
      exact ⟨n, rfl, z.1, z.2, rfl⟩
    · cases h
theorem itRng2_inv {ds xs : List D} (h : itRng2 ds = some xs) : ∃ i j : Int, ds = [.int i, .int j] ∧ -16777216 ≤ i ∧ i ≤ 16777216 ∧ -16777216 ≤ j ∧ j ≤ 16777216 ∧ j - i ≤ 16777216 ∧ xs = rangeL i (j - i).toNat := by
  match ds, h with
  | [.int i, .int j], h =>
    rw [itRng2] at h
    split at h
    · rename_i z
      cases h
      exact ⟨i, j, rfl, z.1, z.2.1, z.2.2.1, z.2.2.2.1, z.2.2.2.2, rfl⟩
    · cases h
theorem itRng3_inv {ds xs : List D} (h : itRng3 ds = some xs) : ∃ i j c : Int, ∃ n : Nat, ds = [.int i, .int j, .int c] ∧ RgC i j c n ∧ n ≤ 16777216 ∧ xs = rangeC i c n := by
  match ds, h with
  | [.int i, .int j, .int c], h =>
    rw [itRng3] at h
    split at h
    · rename_i z
      cases h
      exact ⟨i, j, c, _, rfl, ⟨z.1, z.2.1, z.2.2.1, (Int.toNat_of_nonneg z.2.2.2.1).symm⟩, by have := z.2.2.2.2; omega, rfl⟩
    · cases h
theorem RdCs.one {c : Option Addr} {F H : Hp} {vs : List V} {d : D} (h : RdCs K c F H vs [d]) : ∃ v, vs = [v] ∧ RdC K c F H v d := by
  cases h with
  | cons h r => cases r; exact ⟨_, rfl, h⟩
theorem RdCs.two {c : Option Addr} {F H : Hp} {vs : List V} {d e : D} (h : RdCs K c F H vs [d, e]) : ∃ v u, vs = [v, u] ∧ RdC K c F H v d ∧ RdC K c F H u e := by
  cases h with
  | cons h r =>
    obtain ⟨u, rfl, h2⟩ := r.one
    exact ⟨_, _, rfl, h, h2⟩
theorem RdCs.three {c : Option Addr} {F H : Hp} {vs : List V} {d e f : D} (h : RdCs K c F H vs [d, e, f]) : ∃ v u t, vs = [v, u, t] ∧ RdC K c F H v d ∧ RdC K c F H u e ∧ RdC K c F H t f := by
  cases h with
  | cons h r =>
    obtain ⟨u, t, rfl, h2, h3⟩ := r.two
    exact ⟨_, _, _, rfl, h, h2, h3⟩
theorem szl : sizeLine = 16777216 := sizeLine_eq
theorem si_rng1 {ta : TA} {es : List E} (h : SA K call M ta es) : SI K call M (iRng1 ta) .rng1 es := fun F0 H0 c F H σ env w ds xs w' S hv hi R q => by
  refine h F0 H0 c F H σ env w ds w' S hv _ fun vs F1 H1 S1 s1 k1 => ?_
  obtain ⟨n, rfl, h1, h2, rfl⟩ := itRng1_inv hi
  obtain ⟨v, rfl, k⟩ := k1.one
  have e := k.rd1.int
  subst e
  exact ⟨n, rfl, by omega, by omega, q _ F1 H1 S1 s1 itr_ok (by rw [range_len, szl]; omega)⟩
theorem si_rng2 {ta : TA} {es : List E} (h : SA K call M ta es) : SI K call M (iRng2 ta) .rng2 es := fun F0 H0 c F H σ env w ds xs w' S hv hi R q => by
  refine h F0 H0 c F H σ env w ds w' S hv _ fun vs F1 H1 S1 s1 k1 => ?_
  obtain ⟨i, j, rfl, h1, h2, h3, h4, h5, rfl⟩ := itRng2_inv hi
  obtain ⟨v, u, rfl, k, k'⟩ := k1.two
  have e := k.rd1.int
  have e' := k'.rd1.int
  subst e
  subst e'
  exact ⟨i, j, rfl, ⟨by omega, by omega, by omega, by omega⟩, q _ F1 H1 S1 s1 itr_ok (by rw [range_len, szl]; omega)⟩
theorem si_rng3 {ta : TA} {es : List E} (h : SA K call M ta es) : SI K call M (iRng3 ta) .rng3 es := fun F0 H0 c F H σ env w ds xs w' S hv hi R q => by
  refine h F0 H0 c F H σ env w ds w' S hv _ fun vs F1 H1 S1 s1 k1 => ?_
  obtain ⟨i, j, st, n, rfl, h1, h2, rfl⟩ := itRng3_inv hi
  obtain ⟨v, u, t, rfl, k, k', k''⟩ := k1.three
  have e := k.rd1.int
  have e' := k'.rd1.int
  have e'' := k''.rd1.int
  subst e
  subst e'
  subst e''
  exact ⟨i, j, st, n, rfl, h1, q _ F1 H1 S1 s1 itc_ok (by rw [rangeC_len, szl]; omega)⟩
end

/-! ### comprehensions -/
section
variable {K : PySem.W.Frag} {call : CallF} {M : Mode}
/-- a new list that nobody knows may grow -/
theorem Stt.grow {F0 H0 F H F1 H1 : Hp} {c : Option Addr} {σ : St} {env : Ev} {w w1 : D} {p : Addr} {o o' : HO} (S : Stt K M F0 H0 c F H σ env w) (S1 : Stt K M F0 H0 c F1 H1 σ env w1) (h1 : H p = none) (h2 : F1 p = none) (h3 : H1 p = some o) : Stt K M F0 H0 c F1 (upd H1 p o') σ env w1 := by
  have n0 : H0 p = none := S.st.fresh h1
  have old : ∀ a u, F1 a = some u → a ≠ p := fun a u q z => by rw [z, h2] at q; cases q
  refine ⟨⟨S1.st.ef, fun a u n q => ?_, fun a u q => ?_, S1.st.nw, fun a q r => ?_⟩, S1.len, S1.vals, fun j e g1 g2 => ?_, S1.apart, fun s hs => ?_, S1.cn, S1.pins⟩
  · have z : a ≠ p := fun z => by rw [z, n0] at q; cases q
    rw [upd_ne z]
    exact S1.st.eh a u n q
  · rw [upd_ne (old a u q)]
    exact S1.st.fh a u q
  · by_cases z : a = p
    · rw [z, upd_same]; simp
    · rw [upd_ne z]; exact S1.st.cs a q r
  · obtain ⟨q, u, k1, k2, k3, k4, k5, k6⟩ := S1.owns j e g1 g2
    obtain ⟨q', u', l1, _, _, _, l5, _⟩ := S.owns j e g1 g2
    rw [k1] at l1
    cases l1
    have n : q ≠ p := fun n => by rw [n, h1] at l5; cases l5
    exact ⟨q, u, k1, k2, k3, k4, by rw [upd_ne n]; exact k5, k6⟩
  · obtain ⟨a, k1, k2, k3, u, k4, k5⟩ := S1.cup s hs
    have n : a ≠ p := fun z => S.cex a k1 (by rw [z]; exact h1)
    exact ⟨a, k1, k2, k3, u, by rw [upd_ne n]; exact k4, k5⟩
theorem Step.grow {c : Option Addr} {F H F1 H1 : Hp} (s : Step c F H F1 H1) {p : Addr} {o o' : HO} (h1 : H p = none) (h2 : F1 p = none) (h3 : H1 p = some o) : Step c F H F1 (upd H1 p o') where
  ef := s.ef
  eh := fun a u n q => by
    have z : a ≠ p := fun z => by rw [z, h1] at q; cases q
    rw [upd_ne z]
    exact s.eh a u n q
  fh := fun a u q => by
    have z : a ≠ p := fun z => by rw [z, h2] at q; cases q
    rw [upd_ne z]
    exact s.fh a u q
  nw := s.nw
  cs := fun a q r => by
    by_cases z : a = p
    · rw [z, upd_same]; simp
    · rw [upd_ne z]; exact s.cs a q r
/-- one turn of a comprehension, as a function of the item -/
def turn1 (call : CallF) (env : Ev) (tg : T) (own : List Nat) (cond elt : E) : D → D → Option (Option D × D) := fun x w => (bindT tg x (wipeE env own)).bind fun env' => (ev call cond env' w).bind fun c => (asB c.1).bind fun b =>
  if b = true then (ev call elt env' c.2).map fun y => (some y.1, y.2) else some (none, c.2)
theorem ev_comp {k : ItK} {srcs : List E} {tg : T} {own : List Nat} {cond elt : E} {env : Ev} {w : D} : ev call (.comp k srcs tg own cond elt) env w = (evs call srcs env w).bind fun r => (items k r.1).bind fun xs => (compL (turn1 call env tg own cond elt) xs r.2).map fun q => (.list q.1, q.2) := by
  rw [ev]
  rfl
theorem turn1_inv {env : Ev} {tg : T} {own : List Nat} {cond elt : E} {x w : D} {r : Option D × D} (h : turn1 call env tg own cond elt x w = some r) : ∃ env' b w1, bindT tg x (wipeE env own) = some env' ∧ ev call cond env' w = some (.bool b, w1) ∧
    ((b = true ∧ ∃ y w2, ev call elt env' w1 = some (y, w2) ∧ r = (some y, w2)) ∨ (b = false ∧ r = (none, w1))) := by
  unfold turn1 at h
  cases h1 : bindT tg x (wipeE env own) with
  | none => rw [h1] at h; cases h
  | some env' =>
    rw [h1] at h
    simp only [Option.bind_some] at h
    cases h2 : ev call cond env' w with
    | none => rw [h2] at h; cases h
    | some c =>
      rw [h2] at h
      simp only [Option.bind_some] at h
      obtain ⟨cd, w1⟩ := c
      cases h3 : asB cd with
      | none => rw [h3] at h; cases h
      | some b =>
        rw [h3] at h
        have e := asB_inv h3
        subst e
        refine ⟨env', b, w1, rfl, h2, ?_⟩
        cases b with
        | true =>
          simp only [Option.bind_some, if_true] at h
          cases h4 : ev call elt env' w1 with
          | none => rw [h4] at h; cases h
          | some y =>
            rw [h4] at h
            cases h
            exact .inl ⟨rfl, y.1, y.2, rfl, rfl⟩
        | false =>
          cases h
          exact .inr ⟨rfl, rfl⟩
theorem compL_cons {f : D → D → Option (Option D × D)} {x : D} {xs : List D} {w : D} {q : List D × D} (h : compL f (x :: xs) w = some q) : ∃ p r, f x w = some p ∧ compL f xs p.2 = some r ∧ q = (p.1.toList ++ r.1, r.2) := by
  rw [compL] at h
  cases h1 : f x w with
  | none => rw [h1] at h; cases h
  | some p =>
    rw [h1] at h
    simp only [Option.bind_some] at h
    cases h2 : compL f xs p.2 with
    | none => rw [h2] at h; cases h
    | some r =>
      rw [h2] at h
      cases h
      exact ⟨p, r, rfl, h2, rfl⟩
theorem drop_get {xs : List D} {i : Nat} (h : i < xs.length) : xs.drop i = xs[i] :: xs.drop (i + 1) := List.drop_eq_getElem_cons h
/-- [elt for tg in srcs if cond] -/
theorem se_comp {wi : TI} {g : TG} {tt : TT} {te : TE} {k : ItK} {srcs : List E} {tg : T} {vs : List Nat} {cond elt : E} (hi : SI K call M wi k srcs) (hg : SG K M g tg vs) (hvs : ∀ i ∈ vs, M.cs ≠ some i ∧ M.own i = false) (ht : ST K call M tt cond) (he : SE K call M te elt) (hk : cls M elt ≠ .own) :
    SE K call M (tLc wi g tt te vs) (.comp k srcs tg vs cond elt) := fun F0 H0 c F H σ env w d w' S hv Q q => by
  rw [ev_comp] at hv
  cases h1 : evs call srcs env w with
  | none => rw [h1] at hv; cases hv
  | some r =>
    rw [h1] at hv
    simp only [Option.bind_some] at hv
    cases h2 : items k r.1 with
    | none => rw [h2] at hv; cases hv
    | some xs =>
      rw [h2] at hv
      simp only [Option.bind_some] at hv
      cases h3 : compL (turn1 call env tg vs cond elt) xs r.2 with
      | none => rw [h3] at hv; cases hv
      | some z =>
        rw [h3] at hv
        cases hv
        refine hi F0 H0 c F H σ env w r.1 xs r.2 S h1 h2 _ fun J F1 H1 S1 s1 ok hl => ?_
        intro D hD
        have hHD : H D = none := s1.fresh hD
        refine ⟨fun i m Hc => m = xs.length - i ∧ i ≤ xs.length ∧ ∃ F2 w2 acc ds rest, Stt K M F0 H0 c F2 Hc σ env w2 ∧ Step c F1 H1 F2 Hc ∧ F2 D = none ∧ Hc D = some (.lst acc) ∧ RpA K F2 acc ds ∧ acc.length ≤ i ∧
          compL (turn1 call env tg vs cond elt) (xs.drop i) w2 = some rest ∧ z = (ds ++ rest.1, rest.2), ⟨xs.length, by simp, Nat.zero_le _, F1, r.2, [], [], z, ?_, ?_, S1.fh.none hD, upd_same, .nil, Nat.le_refl _, by simpa using h3, by simp⟩, ?_⟩
        · exact S1.calm (Step.new S1.fh hD)
        · exact Step.new S1.fh hD
        rintro i m Hc ⟨rfl, hi', F2, w2, acc, ds, rest, S2, s2, f2, d2, a2, l2, c2, e2⟩
        by_cases hlt : i < xs.length
        · refine .inr ⟨ok.goes i F2 Hc hlt s2, fun Hn => i + 1 ≤ xs.length ∧ ∃ F2 w2 acc ds rest, Stt K M F0 H0 c F2 Hn σ env w2 ∧ Step c F1 H1 F2 Hn ∧ F2 D = none ∧ Hn D = some (.lst acc) ∧ RpA K F2 acc ds ∧ acc.length ≤ i + 1 ∧
            compL (turn1 call env tg vs cond elt) (xs.drop (i + 1)) w2 = some rest ∧ z = (ds ++ rest.1, rest.2), fun Hn hn => ⟨xs.length - (i + 1), by omega, rfl, hn⟩, fun x Hy hy => ?_⟩
          obtain ⟨F3, s3, rx⟩ := ok.yields i xs[i] F2 Hc x Hy (List.getElem?_eq_getElem hlt) s2 hy
          rw [drop_get hlt] at c2
          obtain ⟨p, rr, t1, t2, t3⟩ := compL_cons c2
          obtain ⟨env', b, w3, b1, b2, b3⟩ := turn1_inv t1
          have S3 := S2.calm s3
          have o3 : F3 D = none := s3.out f2 d2 fun u hu => by
            rw [s3.eh D _ (by simp) d2] at hu
            cases hu
            rfl
          have d3 : Hy D = some (.lst acc) := s3.eh D _ (by simp) d2
          have nD : c ≠ some D := fun e => S1.cex D e hD
          refine hg F0 H0 c F3 Hy (wipe σ vs) (wipeE env vs) w2 x xs[i] env' (S3.wipe hvs) rx b1 _ fun σ' S4 w4 => ⟨?_, ?_⟩
          · rw [w4]
            exact wipe_wipe
          refine ht F0 H0 c F3 Hy σ' env' w2 b w3 S4 b2 _ fun F5 H5 S5 s5 => ?_
          have outer5 : Stt K M F0 H0 c F5 H5 σ env w3 := S3.step s5 fun s' hs => by
            obtain ⟨a, k1, _, k2⟩ := S5.cup s' hs
            exact ⟨a, k1, k2⟩
          have d5 : H5 D = some (.lst acc) := s5.eh D _ nD d3
          have o5 : F5 D = none := s5.out o3 d3 fun u hu => by
            rw [d5] at hu
            cases hu
            rfl
          have s15 : Step c F1 H1 F5 H5 := (s2.trans s3.weak).trans s5
          rcases b3 with ⟨rfl, y, w6, b4, b5⟩ | ⟨rfl, b5⟩
          · rw [if_pos rfl]
            refine he.sv hk F0 H0 c F5 H5 σ' env' w3 y w6 S5 b4 _ fun v F6 H6 S6 s6 r6 => ?_
            have outer6 : Stt K M F0 H0 c F6 H6 σ env w6 := outer5.step s6 fun s' hs => by
              obtain ⟨a, k1, _, k2⟩ := S6.cup s' hs
              exact ⟨a, k1, k2⟩
            have d6 : H6 D = some (.lst acc) := s6.eh D _ nD d5
            have o6 : F6 D = none := s6.out o5 d5 fun u hu => by
              rw [d6] at hu
              cases hu
              rfl
            have s16 : Step c F1 H1 F6 H6 := s15.trans s6
            refine ⟨acc, d6, by omega, hlt, F6, w6, acc ++ [v], ds ++ [y], rr, S1.grow outer6 hD o6 d6, s16.grow hD o6 d6, o6, upd_same, (a2.mono ((s3.ef.trans s5.ef).trans s6.ef)).append (.cons r6 .nil), by rw [List.length_append]; show acc.length + 1 ≤ i + 1; omega, ?_, ?_⟩
            · rw [b5] at t2
              exact t2
            · rw [e2, t3, b5]
              simp
          · rw [if_neg (by simp)]
            refine ⟨hlt, F5, w3, acc, ds, rr, outer5, s15, o5, d5, a2.mono (s3.ef.trans s5.ef), by omega, ?_, ?_⟩
            · rw [b5] at t2
              exact t2
            · rw [e2, t3, b5]
              simp
        · have e : i = xs.length := by omega
          subst e
          refine .inl ⟨ok.stops F2 Hc s2, ?_⟩
          rw [List.drop_length] at c2
          cases c2
          have ez : z = (ds, w2) := by rw [e2]; simp
          subst ez
          exact q _ F2 Hc S2 (s1.trans s2) ⟨D, _, rfl, hHD, f2, d2, .lst a2⟩
end
end PyI
set_option Elab.async false
set_option linter.all false
set_option maxRecDepth 100000
set_option maxHeartbeats 1000000
namespace PyI
open PySem L2 PySem.Spec

/-- the iterator J gives the items xs, as long as what F tells stands -/
structure ItOkF (K : PySem.W.Frag) (J : It) (F : Hp) (xs : List D) : Prop where
  goes : ∀ i F1 H1, i < xs.length → Ex F F1 → Ex F1 H1 → J.go i H1
  stops : ∀ F1 H1, Ex F F1 → Ex F1 H1 → J.stop xs.length H1
  yields : ∀ i d F1 H1 x H2, xs[i]? = some d → Ex F F1 → Ex F1 H1 → J.yld i H1 x H2 → ∃ F2, Step none F1 H1 F2 H2 ∧ Rp K F2 x d
theorem ItOkF.ok {K : PySem.W.Frag} {c : Option Addr} {J : It} {F H : Hp} {xs : List D} (h : ItOkF K J F xs) : ItOk K c J F H xs :=
  ⟨fun i F1 H1 hi s => h.goes i F1 H1 hi s.ef s.fh, fun F1 H1 s => h.stops F1 H1 s.ef s.fh, fun i d F1 H1 x H2 hd s y => h.yields i d F1 H1 x H2 hd s.ef s.fh y⟩
def SIF (K : PySem.W.Frag) (call : CallF) (M : Mode) (wi : TI) (k : ItK) (es : List E) : Prop := ∀ F0 H0 c F H σ env w ds xs w', Stt K M F0 H0 c F H σ env w → evs call es env w = some (ds, w') → items k ds = some xs →
  ∀ R : It → Hp → Prop, (∀ J F' H', Stt K M F0 H0 c F' H' σ env w' → Step c F H F' H' → ItOkF K J F' xs → xs.length ≤ sizeLine → R J H') → wi σ H R
section
variable {K : PySem.W.Frag} {call : CallF} {M : Mode} {te : TE} {wi : TI} {k : ItK} {es : List E}
theorem SIF.si (h : SIF K call M wi k es) : SI K call M wi k es := fun F0 H0 c F H σ env w ds xs w' S hv hi R q =>
  h F0 H0 c F H σ env w ds xs w' S hv hi R fun J F' H' S' s ok hl => q J F' H' S' s ok.ok hl
theorem itlF {F : Hp} {a : Addr} {xs : List V} {ds : List D} (r : RpA K F xs ds) (h : F a = some (.lst xs)) : ItOkF K (Itl K a) F ds where
  goes := fun i F1 H1 hi e1 e2 => by
    have hi' : i < xs.length := by rw [r.length]; exact hi
    exact ⟨xs, xs[i], .inl (.inl (e2 _ _ (e1 _ _ h))), List.getElem?_eq_getElem hi'⟩
  stops := fun F1 H1 e1 e2 => ⟨xs, .inl (.inl (e2 _ _ (e1 _ _ h))), Nat.le_of_eq r.length⟩
  yields := fun i d F1 H1 x H2 hd e1 e2 y => by
    obtain ⟨rfl, y⟩ := y
    obtain ⟨v, hv, rv⟩ := r.get hd
    have e := (y xs (.inl (.inl (e2 _ _ (e1 _ _ h))))).symm.trans hv
    cases e
    exact ⟨F1, Step.refl e2, rv.mono e1⟩
theorem ittF {F : Hp} {a : Addr} {xs : List V} {ds : List D} (r : RpA K F xs ds) (h : SqT K F a xs) : ItOkF K (Itt K a) F ds where
  goes := fun i F1 H1 hi e1 e2 => by
    have hi' : i < xs.length := by rw [r.length]; exact hi
    exact ⟨xs, xs[i], e2.sqT (e1.sqT h), List.getElem?_eq_getElem hi'⟩
  stops := fun F1 H1 e1 e2 => ⟨xs, e2.sqT (e1.sqT h), Nat.le_of_eq r.length⟩
  yields := fun i d F1 H1 x H2 hd e1 e2 y => by
    obtain ⟨rfl, y⟩ := y
    obtain ⟨v, hv, rv⟩ := r.get hd
    have e := (y xs (e2.sqT (e1.sqT h))).symm.trans hv
    cases e
    exact ⟨F1, Step.refl e2, rv.mono e1⟩
theorem itrF {F : Hp} {lo : Int} {n : Nat} : ItOkF K (Itr lo n) F (rangeL lo n) where
  goes := fun i F1 H1 hi _ _ => by
    rw [range_len] at hi
    exact hi
  stops := fun F1 H1 _ _ => Nat.le_of_eq range_len.symm
  yields := fun i d F1 H1 x H2 hd e1 e2 y => by
    obtain ⟨rfl, rfl⟩ := y
    obtain ⟨_, rfl⟩ := range_get hd
    exact ⟨F1, Step.refl e2, .int _⟩
theorem itcF {F : Hp} {lo k : Int} {n : Nat} : ItOkF K (Itc lo k n) F (rangeC lo k n) where
  goes := fun i F1 H1 hi _ _ => by
    rw [rangeC_len] at hi
    exact hi
  stops := fun F1 H1 _ _ => Nat.le_of_eq rangeC_len.symm
  yields := fun i d F1 H1 x H2 hd e1 e2 y => by
    obtain ⟨rfl, rfl⟩ := y
    obtain ⟨_, rfl⟩ := rangeC_get hd
    exact ⟨F1, Step.refl e2, .int _⟩
theorem sif_seq {e : E} (h : SV K call M te e) : SIF K call M (iSeq K te) .seq [e] := fun F0 H0 c F H σ env w ds xs w' S hv hi R q => by
  rw [evs] at hv
  cases h1 : ev call e env w with
  | none => rw [h1] at hv; cases hv
  | some r =>
    rw [h1] at hv
    cases hv
    obtain ⟨d, w1⟩ := r
    have hi : seqOf d = some xs := hi
    refine h F0 H0 c F H σ env w d w1 S h1 _ fun v F1 H1 S1 s1 k1 => ?_
    rcases seqOf_inv hi with rfl | rfl
    · cases k1 with
      | @lst a us _ z r => exact ⟨a, us, rfl, .inl ⟨.inl (.inl (S1.fh _ _ z)), fun hl => q _ F1 H1 S1 s1 (itlF r z) (by rw [← r.length]; exact hl)⟩⟩
    · cases k1 with
      | @tup a us _ z r => exact ⟨a, us, rfl, .inr ⟨S1.fh.sqT z, fun hl => q _ F1 H1 S1 s1 (ittF r z) (by rw [← r.length]; exact hl)⟩⟩
theorem sif_rng1 {ta : TA} {es : List E} (h : SA K call M ta es) : SIF K call M (iRng1 ta) .rng1 es := fun F0 H0 c F H σ env w ds xs w' S hv hi R q => by
  refine h F0 H0 c F H σ env w ds w' S hv _ fun vs F1 H1 S1 s1 k1 => ?_
  obtain ⟨n, rfl, h1, h2, rfl⟩ := itRng1_inv hi
  obtain ⟨v, rfl, k⟩ := k1.one
  have e := k.rd1.int
  subst e
  exact ⟨n, rfl, by omega, by omega, q _ F1 H1 S1 s1 itrF (by rw [range_len, szl]; omega)⟩
theorem sif_rng2 {ta : TA} {es : List E} (h : SA K call M ta es) : SIF K call M (iRng2 ta) .rng2 es := fun F0 H0 c F H σ env w ds xs w' S hv hi R q => by
  refine h F0 H0 c F H σ env w ds w' S hv _ fun vs F1 H1 S1 s1 k1 => ?_
  obtain ⟨i, j, rfl, h1, h2, h3, h4, h5, rfl⟩ := itRng2_inv hi
  obtain ⟨v, u, rfl, k, k'⟩ := k1.two
  have e := k.rd1.int
  have e' := k'.rd1.int
  subst e
  subst e'
  exact ⟨i, j, rfl, ⟨by omega, by omega, by omega, by omega⟩, q _ F1 H1 S1 s1 itrF (by rw [range_len, szl]; omega)⟩
theorem sif_rng3 {ta : TA} {es : List E} (h : SA K call M ta es) : SIF K call M (iRng3 ta) .rng3 es := fun F0 H0 c F H σ env w ds xs w' S hv hi R q => by
  refine h F0 H0 c F H σ env w ds w' S hv _ fun vs F1 H1 S1 s1 k1 => ?_
  obtain ⟨i, j, st, n, rfl, h1, h2, rfl⟩ := itRng3_inv hi
  obtain ⟨v, u, t, rfl, k, k', k''⟩ := k1.three
  have e := k.rd1.int
  have e' := k'.rd1.int
  have e'' := k''.rd1.int
  subst e
  subst e'
  subst e''
  exact ⟨i, j, st, n, rfl, h1, q _ F1 H1 S1 s1 itcF (by rw [rangeC_len, szl]; omega)⟩
end

/-! ### statements -/
/-- what a return hands on -/
structure RetOk (K : PySem.W.Frag) (M : Mode) (F0 H0 : Hp) (c : Option Addr) (F H : Hp) (env : Ev) (w d : D) (v : V) : Prop where
  st : Step c F0 H0 F H
  rp : Rp K F v d
  cup : ∀ s, M.cs = some s → ∃ a, c = some a ∧ CupAt K F H a w
  left : flat d = true → ∃ σ, Stt K M F0 H0 c F H σ env w
def PostS (K : PySem.W.Frag) (M : Mode) (F0 H0 : Hp) (c : Option Addr) (G : Hp) (D : Ends) (r : Fl × Ev × PyI.D) : Prop := match r.1 with
  | .nx => ∀ σ F H, Stt K M F0 H0 c F H σ r.2.1 r.2.2 → Ex G F → D.nx σ H
  | .bk => ∀ σ F H, Stt K M F0 H0 c F H σ r.2.1 r.2.2 → Ex G F → D.bk σ H
  | .ct => ∀ σ F H, Stt K M F0 H0 c F H σ r.2.1 r.2.2 → Ex G F → D.ct σ H
  | .rt d => ∀ v F H, RetOk K M F0 H0 c F H r.2.1 r.2.2 d v → D.rt v H
theorem PostS.from {K : PySem.W.Frag} {M : Mode} {F0 H0 G G' : Hp} {c : Option Addr} {D : Ends} {r : Fl × Ev × PyI.D} (e : Ex G G') (h : PostS K M F0 H0 c G D r) : PostS K M F0 H0 c G' D r := by
  obtain ⟨f, env, w⟩ := r
  cases f with
  | nx => exact fun σ F H S x => h σ F H S (e.trans x)
  | bk => exact fun σ F H S x => h σ F H S (e.trans x)
  | ct => exact fun σ F H S x => h σ F H S (e.trans x)
  | rt d => exact h
def SS (K : PySem.W.Frag) (call : CallF) (M : Mode) (ts : TS) (s : S) : Prop := ∀ F0 H0 c F H σ env w r D, Stt K M F0 H0 c F H σ env w → ex call s env w = some r → PostS K M F0 H0 c F D r → ts D σ H
def SSs (K : PySem.W.Frag) (call : CallF) (M : Mode) (ts : TS) (ss : List S) : Prop := ∀ F0 H0 c F H σ env w r D, Stt K M F0 H0 c F H σ env w → exs call ss env w = some r → PostS K M F0 H0 c F D r → ts D σ H
section
variable {K : PySem.W.Frag} {call : CallF} {M : Mode} {te ta tb : TE} {tt : TT} {e : E} {ts tu : TS} {s : S} {ss : List S}
theorem sss_nil : SSs K call M tNext [] := fun F0 H0 c F H σ env w r D S hv q => by
  cases hv
  exact q σ F H S (Ex.refl _)
theorem sss_cons (h : SS K call M ts s) (hs : SSs K call M tu ss) : SSs K call M (tSeq ts tu) (s :: ss) := fun F0 H0 c F H σ env w r D S hv q => by
  rw [exs] at hv
  cases h1 : ex call s env w with
  | none => rw [h1] at hv; cases hv
  | some r1 =>
    rw [h1] at hv
    simp only [Option.bind_some] at hv
    refine h F0 H0 c F H σ env w r1 { D with nx := tu D } S h1 ?_
    obtain ⟨f, env1, w1⟩ := r1
    cases f with
    | nx => exact fun σ1 F1 H1 S1 x => hs F0 H0 c F1 H1 σ1 env1 w1 r D S1 hv (q.from x)
    | bk => cases hv; exact q
    | ct => cases hv; exact q
    | rt d => cases hv; exact q
theorem ss_pass : SS K call M tNext .pass := fun F0 H0 c F H σ env w r D S hv q => by
  cases hv
  exact q σ F H S (Ex.refl _)
theorem ss_brk : SS K call M tBreak .brk := fun F0 H0 c F H σ env w r D S hv q => by
  cases hv
  exact q σ F H S (Ex.refl _)
theorem ss_cnt : SS K call M tCont .cnt := fun F0 H0 c F H σ env w r D S hv q => by
  cases hv
  exact q σ F H S (Ex.refl _)
theorem ss_never : SS K call M tNever .never := fun F0 H0 c F H σ env w r D S hv q => by cases hv
theorem ss_asg {g : TG} {t : T} {vs : List Nat} (h : SV K call M te e) (hg : SG K M g t vs) : SS K call M (tAsg te g) (.asg t e) := fun F0 H0 c F H σ env w r D S hv q => by
  rw [ex] at hv
  cases h1 : ev call e env w with
  | none => rw [h1] at hv; cases hv
  | some r1 =>
    rw [h1] at hv
    simp only [Option.bind_some] at hv
    cases h2 : bindT t r1.1 env with
    | none => rw [h2] at hv; cases hv
    | some env' =>
      rw [h2] at hv
      cases hv
      refine h F0 H0 c F H σ env w r1.1 r1.2 S h1 _ fun v F1 H1 S1 s1 k1 => ?_
      exact hg F0 H0 c F1 H1 σ env r1.2 v r1.1 env' S1 k1 h2 _ fun σ' S2 _ => q σ' F1 H1 S2 s1.ef
theorem lt_of_get {α : Type} {l : List α} {i : Nat} {x : α} (h : l[i]? = some x) : i < l.length := (List.getElem?_eq_some_iff.mp h).1
/-- a fresh object to a slot of the body's own -/
theorem Stt.newOwn {F0 H0 F H F1 H1 : Hp} {c : Option Addr} {σ : St} {env : Ev} {w w1 d : PyI.D} {v : V} {i : Nat} (S : Stt K M F0 H0 c F H σ env w) (S1 : Stt K M F0 H0 c F1 H1 σ env w1) (k : FreshR K H F1 H1 v d) (hi : M.own i = true) (hc : M.cs ≠ some i) (hpn : M.pin i = none) :
    Stt K M F0 H0 c F1 H1 (σ.set i (some v)) (env.set i (some d)) w1 := by
  obtain ⟨p, o, rfl, z1, z2, z3, z4⟩ := k
  refine S1.setOwn hi hc hpn z2 (S.st.fresh z1) (fun e => S.cex p e z1) z3 z4 fun j d q' n oj g1 g2 g3 => ?_
  obtain ⟨p', u, k1, _, _, _, k5, _⟩ := S.owns j d g1 oj
  rw [g2] at k1
  cases k1
  rw [g3, z1] at k5
  cases k5
theorem ss_own {i : Nat} (h : SE K call M te e) (hk : cls M e = .fresh) (hi : M.own i = true) (hc : M.cs ≠ some i) (hpn : M.pin i = none) : SS K call M (tAsg te (gName i)) (.own i e) := fun F0 H0 c F H σ env w r D S hv q => by
  rw [ex] at hv
  cases h1 : ev call e env w with
  | none => rw [h1] at hv; cases hv
  | some r1 =>
    rw [h1] at hv
    simp only [Option.bind_some] at hv
    unfold setE at hv
    split at hv
    · rename_i hl
      cases hv
      refine h F0 H0 c F H σ env w r1.1 r1.2 S h1 _ fun v F1 H1 S1 s1 k1 => ?_
      rw [hk] at k1
      exact q _ F1 H1 (S.newOwn S1 k1 hi hc hpn) s1.ef
    · cases hv
theorem ss_expr (h : SE K call M te e) : SS K call M (tDrop te) (.expr e) := fun F0 H0 c F H σ env w r D S hv q => by
  rw [ex] at hv
  cases h1 : ev call e env w with
  | none => rw [h1] at hv; cases hv
  | some r1 =>
    rw [h1] at hv
    cases hv
    exact h F0 H0 c F H σ env w r1.1 r1.2 S h1 _ fun v F1 H1 S1 s1 k1 => q σ F1 H1 S1 s1.ef
theorem Stt.cupOf {F0 H0 F H : Hp} {c : Option Addr} {σ : St} {env : Ev} {w : D} (S : Stt K M F0 H0 c F H σ env w) : ∀ s, M.cs = some s → ∃ a, c = some a ∧ CupAt K F H a w := fun s hs => by
  obtain ⟨a, z1, _, z2⟩ := S.cup s hs
  exact ⟨a, z1, z2⟩
theorem ss_ret (h : SE K call M te e) (hk : cls M e ≠ .own) : SS K call M (tRet te) (.ret e) := fun F0 H0 c F H σ env w r D S hv q => by
  rw [ex] at hv
  cases h1 : ev call e env w with
  | none => rw [h1] at hv; cases hv
  | some r1 =>
    rw [h1] at hv
    cases hv
    exact h.sv hk F0 H0 c F H σ env w r1.1 r1.2 S h1 _ fun v F1 H1 S1 s1 k1 => q v F1 H1 ⟨S1.st, k1, S1.cupOf, fun _ => ⟨σ, S1⟩⟩
/-- the body's own list goes out -/
theorem ss_retO {i : Nat} (hi : M.own i = true) : SS K call M (tRet (tVar i)) (.ret (.var i)) := fun F0 H0 c F H σ env w r D S hv q => by
  rw [ex] at hv
  cases h1 : ev call (.var i) env w with
  | none => rw [h1] at hv; cases hv
  | some r1 =>
    rw [h1] at hv
    cases hv
    rw [ev] at h1
    cases he : env[i]? with
    | none => rw [he] at h1; cases h1
    | some o =>
      rw [he] at h1
      cases o with
      | none => cases h1
      | some d =>
        cases h1
        obtain ⟨p, o, e1, e2, e3, e4, e5, e6⟩ := S.owns i _ he hi
        refine ⟨.ref p, e1, q _ (upd F p o) H ⟨S.st.hold e3 e2 e5, (e6.mono (Ex.upd e2)).rp upd_same, fun s hs => ?_, fun fl => ?_⟩⟩
        · obtain ⟨a, z1, z2, u, z3, z4⟩ := S.cupOf s hs
          have n : a ≠ p := fun z => e4 (by rw [← z]; exact z1)
          exact ⟨a, z1, by rw [upd_ne n]; exact z2, u, z3, z4.mono (Ex.upd e2)⟩
        · cases e6 <;> simp [flat] at fl
theorem ss_retN : SS K call M tRetN (.ret (.con .none)) := fun F0 H0 c F H σ env w r D S hv q => by
  cases hv
  exact q .non F H ⟨S.st, .non, S.cupOf, fun _ => ⟨σ, S⟩⟩
theorem ss_ifs {tt : TT} {x : E} {a b : List S} (h : ST K call M tt x) (ha : SSs K call M ts a) (hb : SSs K call M tu b) : SS K call M (tIfS tt ts tu) (.ifs x a b) := fun F0 H0 c F H σ env w r D S hv q => by
  rw [ex] at hv
  cases h1 : ev call x env w with
  | none => rw [h1] at hv; cases hv
  | some r1 =>
    rw [h1] at hv
    simp only [Option.bind_some] at hv
    cases e2 : asB r1.1 with
    | none => rw [e2] at hv; cases hv
    | some k =>
      rw [e2] at hv
      obtain ⟨d1, w1⟩ := r1
      have e : d1 = .bool k := asB_inv e2
      subst e
      refine h F0 H0 c F H σ env w k w1 S h1 _ fun F1 H1 S1 s1 => ?_
      cases k with
      | true => exact ha F0 H0 c F1 H1 σ env w1 r D S1 hv (q.from s1.ef)
      | false => exact hb F0 H0 c F1 H1 σ env w1 r D S1 hv (q.from s1.ef)
/-! ### loops -/
def loop1 (call : CallF) (tg : T) (body : List PyI.S) : PyI.D → Ev → PyI.D → Option (Fl × Ev × PyI.D) := fun x env w => (bindT tg x env).bind fun env' => exs call body env' w
theorem drop_get' {α : Type} {xs : List α} {i : Nat} (h : i < xs.length) : xs.drop i = xs[i] :: xs.drop (i + 1) := List.drop_eq_getElem_cons h
theorem ss_for {wi : TI} {k : ItK} {es : List E} {g : TG} {t : T} {vs : List Nat} {body : List S} (hi : SIF K call M wi k es) (hg : SG K M g t vs) (hb : SSs K call M ts body) : SS K call M (tFor wi g ts) (.for k es t body) := fun F0 H0 c F H σ env w r D S hv q => by
  rw [ex] at hv
  cases h1 : evs call es env w with
  | none => rw [h1] at hv; cases hv
  | some r1 =>
    rw [h1] at hv
    simp only [Option.bind_some] at hv
    cases h2 : items k r1.1 with
    | none => rw [h2] at hv; cases hv
    | some xs =>
      rw [h2] at hv
      have hv : forL (loop1 call t body) xs env r1.2 = some r := hv
      refine hi F0 H0 c F H σ env w r1.1 xs r1.2 S h1 h2 _ fun J F1 H1 S1 s1 ok hl => ?_
      refine ⟨fun i m σ' H' => m = xs.length - i ∧ i ≤ xs.length ∧ ∃ F' env' w', Ex F1 F' ∧ Stt K M F0 H0 c F' H' σ' env' w' ∧ forL (loop1 call t body) (xs.drop i) env' w' = some r,
        ⟨xs.length, by simp, Nat.zero_le _, F1, env, r1.2, Ex.refl _, S1, hv⟩, ?_⟩
      rintro i m σ' H' ⟨rfl, hi', F', env', w', ef, S', hv'⟩
      by_cases hlt : i < xs.length
      · refine .inr ⟨ok.goes i F' H' hlt ef S'.fh, fun σ2 H2 => i + 1 ≤ xs.length ∧ ∃ F2 env2 w2, Ex F1 F2 ∧ Stt K M F0 H0 c F2 H2 σ2 env2 w2 ∧ forL (loop1 call t body) (xs.drop (i + 1)) env2 w2 = some r,
          fun σ2 H2 h => ⟨xs.length - (i + 1), by omega, rfl, h⟩, fun x H2 hy => ?_⟩
        obtain ⟨F2, s2, rx⟩ := ok.yields i xs[i] F' H' x H2 (List.getElem?_eq_getElem hlt) ef S'.fh hy
        have S2 := S'.calm s2
        rw [drop_get' hlt, forL] at hv'
        cases h3 : loop1 call t body xs[i] env' w' with
        | none => rw [h3] at hv'; cases hv'
        | some r3 =>
          rw [h3] at hv'
          simp only [Option.bind_some] at hv'
          unfold loop1 at h3
          cases h4 : bindT t xs[i] env' with
          | none => rw [h4] at h3; cases h3
          | some env3 =>
            rw [h4] at h3
            simp only [Option.bind_some] at h3
            refine hg F0 H0 c F2 H2 σ' env' w' x xs[i] env3 S2 rx h4 _ fun σ3 S3 _ => ?_
            refine hb F0 H0 c F2 H2 σ3 env3 w' r3 _ S3 h3 ?_
            obtain ⟨f, env4, w4⟩ := r3
            have e12 : Ex F1 F2 := ef.trans s2.ef
            cases f with
            | nx => exact fun σ5 F5 H5 S5 e5 => ⟨hlt, F5, env4, w4, e12.trans e5, S5, hv'⟩
            | ct => exact fun σ5 F5 H5 S5 e5 => ⟨hlt, F5, env4, w4, e12.trans e5, S5, hv'⟩
            | bk =>
              cases hv'
              exact fun σ5 F5 H5 S5 e5 => q σ5 F5 H5 S5 (s1.ef.trans (e12.trans e5))
            | rt d =>
              cases hv'
              exact fun v F5 H5 R5 => q v F5 H5 R5
      · have e : i = xs.length := by omega
        subst e
        refine .inl ⟨ok.stops F' H' ef S'.fh, ?_⟩
        rw [List.drop_length] at hv'
        cases hv'
        exact q σ' F' H' S' (s1.ef.trans ef)
end
end PyI
set_option Elab.async false
set_option linter.all false
set_option maxRecDepth 100000
set_option maxHeartbeats 1000000
namespace PyI
open PySem L2 PySem.Spec

/-! ### comprehensions of two clauses -/
theorem wipeE_out {vs : List Nat} {j : Nat} : ∀ {env : Ev}, j ∉ vs → (wipeE env vs)[j]? = env[j]? := by
  induction vs with
  | nil => intro env _; rfl
  | cons v vs ih =>
    intro env h
    have h1 : v ≠ j := fun e => h (by rw [e]; exact List.mem_cons_self)
    have h2 : j ∉ vs := fun m => h (List.mem_cons_of_mem _ m)
    unfold wipeE
    rw [List.getElem?_set_ne h1]
    exact ih h2
mutual
theorem bindT_out {M : Mode} {vs : List Nat} {j : Nat} (hj : j ∉ vs) : ∀ {t : T} {d : D} {env env' : Ev}, t.ok M vs = true → bindT t d env = some env' → env'[j]? = env[j]?
  | .nm i, d, env, env', h, hb => by
    rw [T.ok, Bool.and_eq_true, Bool.and_eq_true] at h
    rw [bindT] at hb
    split at hb
    · cases hb
      have : i ≠ j := fun e => hj (by rw [← e]; simpa using h.2)
      rw [List.getElem?_set_ne this]
    · cases hb
  | .tp ts, .tuple ds, env, env', h, hb => by
    rw [bindT] at hb
    rw [T.ok] at h
    exact bindTs_out hj h hb
  | .tp ts, .none, _, _, _, hb => by cases hb
  | .tp ts, .bool _, _, _, _, hb => by cases hb
  | .tp ts, .int _, _, _, _, hb => by cases hb
  | .tp ts, .str _, _, _, _, hb => by cases hb
  | .tp ts, .list _, _, _, _, hb => by cases hb
  | .tp ts, .dict _, _, _, _, hb => by cases hb
theorem bindTs_out {M : Mode} {vs : List Nat} {j : Nat} (hj : j ∉ vs) : ∀ {ts : List T} {ds : List D} {env env' : Ev}, T.oks M vs ts = true → bindTs ts ds env = some env' → env'[j]? = env[j]?
  | [], [], env, env', _, hb => by
    rw [bindTs] at hb
    cases hb
    rfl
  | [], _ :: _, _, _, _, hb => by rw [bindTs] at hb <;> first | cases hb | simp
  | _ :: _, [], _, _, _, hb => by rw [bindTs] at hb <;> first | cases hb | simp
  | t :: ts, d :: ds, env, env', h, hb => by
    rw [bindTs] at hb
    rw [T.oks, Bool.and_eq_true] at h
    cases h1 : bindT t d env with
    | none => rw [h1] at hb; cases hb
    | some env1 =>
      rw [h1] at hb
      exact (bindTs_out hj h.2 hb).trans (bindT_out hj h.1 h1)
end
/-- one turn of the outer clause -/
def turn2 (call : CallF) (env : Ev) (tg : T) (own : List Nat) (cond : E) (k2 : ItK) (srcs2 : List E) (tg2 : T) (own2 : List Nat) (cond2 elt : E) : D → D → Option (List D × D) := fun x w => (bindT tg x (wipeE env own)).bind fun env1 => (ev call cond env1 w).bind fun c => (asB c.1).bind fun b =>
  if b = true then (evs call srcs2 env1 c.2).bind fun r2 => (items k2 r2.1).bind fun ys => compL (turn1 call env1 tg2 own2 cond2 elt) ys r2.2 else some ([], c.2)
theorem ev_comp2 {call : CallF} {k k2 : ItK} {srcs srcs2 : List E} {tg tg2 : T} {own own2 : List Nat} {cond cond2 elt : E} {env : Ev} {w : D} : ev call (.comp2 k srcs tg own cond k2 srcs2 tg2 own2 cond2 elt) env w = (evs call srcs env w).bind fun r => (items k r.1).bind fun xs => (compLs (turn2 call env tg own cond k2 srcs2 tg2 own2 cond2 elt) xs r.2).bind fun q => if q.1.length ≤ LIM then some (.list q.1, q.2) else none := by
  rw [ev]
  rfl
theorem turn2_inv {call : CallF} {env : Ev} {tg : T} {own : List Nat} {cond : E} {k2 : ItK} {srcs2 : List E} {tg2 : T} {own2 : List Nat} {cond2 elt : E} {x w : D} {r : List D × D} (h : turn2 call env tg own cond k2 srcs2 tg2 own2 cond2 elt x w = some r) :
    ∃ env' b w1, bindT tg x (wipeE env own) = some env' ∧ ev call cond env' w = some (.bool b, w1) ∧
      ((b = true ∧ ∃ ds w2 ys, evs call srcs2 env' w1 = some (ds, w2) ∧ items k2 ds = some ys ∧ compL (turn1 call env' tg2 own2 cond2 elt) ys w2 = some r) ∨ (b = false ∧ r = ([], w1))) := by
  unfold turn2 at h
  cases h1 : bindT tg x (wipeE env own) with
  | none => rw [h1] at h; cases h
  | some env' =>
    rw [h1] at h
    simp only [Option.bind_some] at h
    cases h2 : ev call cond env' w with
    | none => rw [h2] at h; cases h
    | some c =>
      rw [h2] at h
      simp only [Option.bind_some] at h
      obtain ⟨cd, w1⟩ := c
      cases h3 : asB cd with
      | none => rw [h3] at h; cases h
      | some b =>
        rw [h3] at h
        have e := asB_inv h3
        subst e
        refine ⟨env', b, w1, rfl, h2, ?_⟩
        cases b with
        | true =>
          simp only [Option.bind_some, if_true] at h
          cases h4 : evs call srcs2 env' w1 with
          | none => rw [h4] at h; cases h
          | some y =>
            rw [h4] at h
            simp only [Option.bind_some] at h
            cases h5 : items k2 y.1 with
            | none => rw [h5] at h; cases h
            | some ys =>
              rw [h5] at h
              exact .inl ⟨rfl, y.1, y.2, ys, rfl, h5, h⟩
        | false =>
          cases h
          exact .inr ⟨rfl, rfl⟩
theorem compLs_cons {f : D → D → Option (List D × D)} {x : D} {xs : List D} {w : D} {q : List D × D} (h : compLs f (x :: xs) w = some q) : ∃ p r, f x w = some p ∧ compLs f xs p.2 = some r ∧ q = (p.1 ++ r.1, r.2) := by
  rw [compLs] at h
  cases h1 : f x w with
  | none => rw [h1] at h; cases h
  | some p =>
    rw [h1] at h
    simp only [Option.bind_some] at h
    cases h2 : compLs f xs p.2 with
    | none => rw [h2] at h; cases h
    | some r =>
      rw [h2] at h
      cases h
      exact ⟨p, r, rfl, h2, rfl⟩
section
variable {K : PySem.W.Frag} {call : CallF} {M : Mode}
/-- an object that nobody holds may change -/
theorem Stt.growB {F0 H0 F1 H1 : Hp} {c : Option Addr} {σ : St} {env : Ev} {w1 : D} {p : Addr} {o o' : HO} (S1 : Stt K M F0 H0 c F1 H1 σ env w1) (n0 : H0 p = none) (nc : c ≠ some p) (h2 : F1 p = none) (h3 : H1 p = some o)
    (hn : ∀ j e, env[j]? = some (some e) → M.own j = true → σ[j]? ≠ some (some (.ref p))) : Stt K M F0 H0 c F1 (upd H1 p o') σ env w1 := by
  have old : ∀ a u, F1 a = some u → a ≠ p := fun a u q z => by rw [z, h2] at q; cases q
  refine ⟨⟨S1.st.ef, fun a u n q => ?_, fun a u q => ?_, S1.st.nw, fun a q r => ?_⟩, S1.len, S1.vals, fun j e g1 g2 => ?_, S1.apart, fun s hs => ?_, S1.cn, S1.pins⟩
  · have z : a ≠ p := fun z => by rw [z, n0] at q; cases q
    rw [upd_ne z]
    exact S1.st.eh a u n q
  · rw [upd_ne (old a u q)]
    exact S1.st.fh a u q
  · by_cases z : a = p
    · rw [z, upd_same]; simp
    · rw [upd_ne z]; exact S1.st.cs a q r
  · obtain ⟨q, u, k1, k2, k3, k4, k5, k6⟩ := S1.owns j e g1 g2
    have n : q ≠ p := fun n => hn j e g1 g2 (by rw [← n]; exact k1)
    exact ⟨q, u, k1, k2, k3, k4, by rw [upd_ne n]; exact k5, k6⟩
  · obtain ⟨a, k1, k2, k3, u, k4, k5⟩ := S1.cup s hs
    have n : a ≠ p := fun z => nc (by rw [← z]; exact k1)
    exact ⟨a, k1, k2, k3, u, by rw [upd_ne n]; exact k4, k5⟩
/-- [elt for tg in srcs if cond for tg2 in srcs2 if cond2] -/
theorem se_comp2 {wi wi1 : TI} {g g1 : TG} {tt tt1 : TT} {te : TE} {k k2 : ItK} {srcs srcs2 : List E} {tg tg2 : T} {vs vs1 : List Nat} {cond cond2 elt : E} (hi : SI K call M wi k srcs) (hg : SG K M g tg vs) (htg : tg.ok M vs = true) (hvs : ∀ i ∈ vs, M.cs ≠ some i ∧ M.own i = false) (ht : ST K call M tt cond)
    (hi1 : SIF K call M wi1 k2 srcs2) (hg1 : SG K M g1 tg2 vs1) (htg2 : tg2.ok M vs1 = true) (hvs1 : ∀ i ∈ vs1, M.cs ≠ some i ∧ M.own i = false) (ht1 : ST K call M tt1 cond2) (he : SE K call M te elt) (hk : cls M elt ≠ .own) :
    SE K call M (tLc2 wi g tt wi1 g1 tt1 te vs vs1) (.comp2 k srcs tg vs cond k2 srcs2 tg2 vs1 cond2 elt) := fun F0 H0 c F H σ env w d w' S hv Q q => by
  rw [ev_comp2] at hv
  cases h1 : evs call srcs env w with
  | none => rw [h1] at hv; cases hv
  | some r =>
    rw [h1] at hv
    simp only [Option.bind_some] at hv
    cases h2 : items k r.1 with
    | none => rw [h2] at hv; cases hv
    | some xs =>
      rw [h2] at hv
      simp only [Option.bind_some] at hv
      cases h3 : compLs (turn2 call env tg vs cond k2 srcs2 tg2 vs1 cond2 elt) xs r.2 with
      | none => rw [h3] at hv; cases hv
      | some z =>
        rw [h3] at hv
        simp only [Option.bind_some] at hv
        split at hv
        case isFalse => cases hv
        rename_i hz
        cases hv
        have hz : z.1.length ≤ sizeLine := by rw [szl]; exact hz
        refine hi F0 H0 c F H σ env w r.1 xs r.2 S h1 h2 _ fun J F1 H1 S1 s1 ok hl => ?_
        intro D hD
        have hHD : H D = none := s1.fresh hD
        have nD : c ≠ some D := fun e => S1.cex D e hD
        have n0 : H0 D = none := S1.st.fresh hD
        have noD : ∀ j e, env[j]? = some (some e) → M.own j = true → σ[j]? ≠ some (some (.ref D)) := fun j e g1 g2 z => by
          obtain ⟨q', u', l1, _, _, _, l5, _⟩ := S1.owns j e g1 g2
          rw [z] at l1
          cases l1
          rw [hD] at l5
          cases l5
        refine ⟨fun i m Hc => m = xs.length - i ∧ i ≤ xs.length ∧ ∃ F2 w2 acc ds rest, Stt K M F0 H0 c F2 Hc σ env w2 ∧ Step c F1 H1 F2 Hc ∧ F2 D = none ∧ Hc D = some (.lst acc) ∧ RpA K F2 acc ds ∧
          compLs (turn2 call env tg vs cond k2 srcs2 tg2 vs1 cond2 elt) (xs.drop i) w2 = some rest ∧ z = (ds ++ rest.1, rest.2), ⟨xs.length, by simp, Nat.zero_le _, F1, r.2, [], [], z, ?_, ?_, S1.fh.none hD, upd_same, .nil, by simpa using h3, by simp⟩, ?_⟩
        · exact S1.calm (Step.new S1.fh hD)
        · exact Step.new S1.fh hD
        rintro i m Hc ⟨rfl, hi', F2, w2, acc, ds, rest, S2, s2, f2, d2, a2, c2, e2⟩
        by_cases hlt : i < xs.length
        · refine .inr ⟨ok.goes i F2 Hc hlt s2, fun Hn => i + 1 ≤ xs.length ∧ ∃ F2 w2 acc ds rest, Stt K M F0 H0 c F2 Hn σ env w2 ∧ Step c F1 H1 F2 Hn ∧ F2 D = none ∧ Hn D = some (.lst acc) ∧ RpA K F2 acc ds ∧
            compLs (turn2 call env tg vs cond k2 srcs2 tg2 vs1 cond2 elt) (xs.drop (i + 1)) w2 = some rest ∧ z = (ds ++ rest.1, rest.2), fun Hn hn => ⟨xs.length - (i + 1), by omega, rfl, hn⟩, fun x Hy hy => ?_⟩
          obtain ⟨F3, s3, rx⟩ := ok.yields i xs[i] F2 Hc x Hy (List.getElem?_eq_getElem hlt) s2 hy
          rw [drop_get hlt] at c2
          obtain ⟨p, rr, t1, t2, t3⟩ := compLs_cons c2
          obtain ⟨env', b, w3, b1, b2, b3⟩ := turn2_inv t1
          have S3 := S2.calm s3
          have lstN : ∀ {F H F' H' : Hp} {l : List V}, Step c F H F' H' → F D = none → H D = some (.lst l) → F' D = none := fun {F H F' H' l} s f h => s.out f h fun u hu => by
            rw [s.eh D _ nD h] at hu
            cases hu
            rfl
          have o3 : F3 D = none := lstN s3.weak f2 d2
          have d3 : Hy D = some (.lst acc) := s3.eh D _ (by simp) d2
          refine hg F0 H0 c F3 Hy (wipe σ vs) (wipeE env vs) w2 x xs[i] env' (S3.wipe hvs) rx b1 _ fun σ' S4 w4 => ⟨?_, ?_⟩
          · rw [w4]
            exact wipe_wipe
          have own' : ∀ j, M.own j = true → env'[j]? = env[j]? ∧ σ'[j]? = σ[j]? := fun j hj => by
            have nj : j ∉ vs := fun m => by
              have := (hvs j m).2
              rw [hj] at this
              cases this
            refine ⟨(bindT_out nj htg b1).trans (wipeE_out nj), ?_⟩
            have e1 := wipe_out (σ := σ') nj
            have e2 := wipe_out (σ := σ) nj
            rw [w4, wipe_wipe] at e1
            exact e1.symm.trans e2
          have noD' : ∀ j e, env'[j]? = some (some e) → M.own j = true → σ'[j]? ≠ some (some (.ref D)) := fun j e g1 g2 => by
            obtain ⟨x1, x2⟩ := own' j g2
            rw [x1] at g1
            rw [x2]
            exact noD j e g1 g2
          refine ht F0 H0 c F3 Hy σ' env' w2 b w3 S4 b2 _ fun F5 H5 S5 s5 => ?_
          have outer5 : Stt K M F0 H0 c F5 H5 σ env w3 := S3.step s5 fun s' hs => by
            obtain ⟨a, k1, _, k2⟩ := S5.cup s' hs
            exact ⟨a, k1, k2⟩
          have d5 : H5 D = some (.lst acc) := s5.eh D _ nD d3
          have o5 : F5 D = none := lstN s5 o3 d3
          have s15 : Step c F1 H1 F5 H5 := (s2.trans s3.weak).trans s5
          rcases b3 with ⟨rfl, es, w6, ys, b4, b5, b6⟩ | ⟨rfl, b5⟩
          · rw [if_pos rfl]
            refine hi1 F0 H0 c F5 H5 σ' env' w3 es ys w6 S5 b4 b5 _ fun J1 F6 H6 S6 s6 ok1 hl1 => ?_
            have d6 : H6 D = some (.lst acc) := s6.eh D _ nD d5
            have o6 : F6 D = none := lstN s6 o5 d5
            have a6 : RpA K F6 acc ds := a2.mono ((s3.ef.trans s5.ef).trans s6.ef)
            have outer6 : Stt K M F0 H0 c F6 H6 σ env w6 := outer5.step s6 fun s' hs => by
              obtain ⟨a, k1, _, k2⟩ := S6.cup s' hs
              exact ⟨a, k1, k2⟩
            refine ⟨fun j m Hd => m = ys.length - j ∧ j ≤ ys.length ∧ ∃ F8 w8 acc8 ds8 rest8, Stt K M F0 H0 c F8 Hd σ' env' w8 ∧ Stt K M F0 H0 c F8 Hd σ env w8 ∧ Ex F6 F8 ∧ Step c F1 H1 F8 Hd ∧ F8 D = none ∧ Hd D = some (.lst acc8) ∧ RpA K F8 acc8 ds8 ∧
              compL (turn1 call env' tg2 vs1 cond2 elt) (ys.drop j) w8 = some rest8 ∧ ds8 ++ rest8.1 = ds ++ p.1 ∧ rest8.2 = p.2, ⟨ys.length, by simp, Nat.zero_le _, F6, w6, acc, ds, p, S6, outer6, Ex.refl _, s15.trans s6, o6, d6, a6, by simpa using b6, rfl, rfl⟩, ?_⟩
            rintro j m Hd ⟨rfl, hj', F8, w8, acc8, ds8, rest8, S8, outer8, x8, s8, o8, d8, a8, c8, e8, e9⟩
            by_cases hlj : j < ys.length
            · refine .inr ⟨ok1.goes j F8 Hd hlj x8 S8.fh, fun Hn => j + 1 ≤ ys.length ∧ ∃ F8 w8 acc8 ds8 rest8, Stt K M F0 H0 c F8 Hn σ' env' w8 ∧ Stt K M F0 H0 c F8 Hn σ env w8 ∧ Ex F6 F8 ∧ Step c F1 H1 F8 Hn ∧ F8 D = none ∧ Hn D = some (.lst acc8) ∧ RpA K F8 acc8 ds8 ∧
                compL (turn1 call env' tg2 vs1 cond2 elt) (ys.drop (j + 1)) w8 = some rest8 ∧ ds8 ++ rest8.1 = ds ++ p.1 ∧ rest8.2 = p.2, fun Hn hn => ⟨ys.length - (j + 1), by omega, rfl, hn⟩, fun y Hz hy1 => ?_⟩
              obtain ⟨F9, s9, ry⟩ := ok1.yields j ys[j] F8 Hd y Hz (List.getElem?_eq_getElem hlj) x8 S8.fh hy1
              rw [drop_get hlj] at c8
              obtain ⟨p1, rr1, u1, u2, u3⟩ := compL_cons c8
              obtain ⟨env2, bb, w10, v1, v2, v3⟩ := turn1_inv u1
              have S9 := S8.calm s9
              have outer9 := outer8.calm s9
              have o9 : F9 D = none := lstN s9.weak o8 d8
              have d9 : Hz D = some (.lst acc8) := s9.eh D _ (by simp) d8
              refine hg1 F0 H0 c F9 Hz (wipe σ' vs1) (wipeE env' vs1) w8 y ys[j] env2 (S9.wipe hvs1) ry v1 _ fun σ2 S10 w11 => ⟨?_, ?_⟩
              · rw [w11]
                exact wipe_wipe
              refine ht1 F0 H0 c F9 Hz σ2 env2 w8 bb w10 S10 v2 _ fun F11 H11 S11 s11 => ?_
              have cupS : ∀ {F H : Hp} {w : PyData} {σ : St} {env : Ev}, Stt K M F0 H0 c F H σ env w → ∀ s', M.cs = some s' → ∃ a, c = some a ∧ CupAt K F H a w := fun {F H w σ env} S s' hs => by
                obtain ⟨a, k1, _, k2⟩ := S.cup s' hs
                exact ⟨a, k1, k2⟩
              have in11 := S9.step s11 (cupS S11)
              have outer11 := outer9.step s11 (cupS S11)
              have d11 : H11 D = some (.lst acc8) := s11.eh D _ nD d9
              have o11 : F11 D = none := lstN s11 o9 d9
              have s1_11 : Step c F1 H1 F11 H11 := (s8.trans s9.weak).trans s11
              rcases v3 with ⟨rfl, yv, w12, v4, v5⟩ | ⟨rfl, v5⟩
              · rw [if_pos rfl]
                refine he.sv hk F0 H0 c F11 H11 σ2 env2 w10 yv w12 S11 v4 _ fun v F12 H12 S12 s12 r12 => ?_
                have in12 := in11.step s12 (cupS S12)
                have outer12 := outer11.step s12 (cupS S12)
                have d12 : H12 D = some (.lst acc8) := s12.eh D _ nD d11
                have o12 : F12 D = none := lstN s12 o11 d11
                have s1_12 : Step c F1 H1 F12 H12 := s1_11.trans s12
                have a12 : RpA K F12 (acc8 ++ [v]) (ds8 ++ [yv]) := (a8.mono ((s9.ef.trans s11.ef).trans s12.ef)).append (.cons r12 .nil)
                have e10 : ds8 ++ [yv] ++ rr1.1 = ds ++ p.1 := by
                  rw [← e8, u3, v5]
                  simp
                refine ⟨acc8, d12, ?_, hlj, F12, w12, acc8 ++ [v], ds8 ++ [yv], rr1, in12.growB n0 nD o12 d12 noD', outer12.growB n0 nD o12 d12 noD, ((x8.trans s9.ef).trans s11.ef).trans s12.ef, s1_12.grow hD o12 d12, o12, upd_same, a12, ?_, e10, ?_⟩
                · have l1 := a12.length
                  have l2 := congrArg List.length e10
                  have l3 : z.1.length = (ds ++ (p.1 ++ rr.1)).length := by rw [e2, t3]
                  simp only [List.length_append, List.length_cons, List.length_nil] at l1 l2 l3
                  omega
                · rw [v5] at u2
                  exact u2
                · rw [← e9, u3]
              · rw [if_neg (by simp)]
                refine ⟨hlj, F11, w10, acc8, ds8, rr1, in11, outer11, (x8.trans s9.ef).trans s11.ef, s1_11, o11, d11, a8.mono (s9.ef.trans s11.ef), ?_, ?_, ?_⟩
                · rw [v5] at u2
                  exact u2
                · rw [← e8, u3, v5]
                  simp
                · rw [← e9, u3]
            · have e : j = ys.length := by omega
              subst e
              refine .inl ⟨ok1.stops F8 Hd x8 S8.fh, ?_⟩
              rw [List.drop_length] at c8
              cases c8
              have e8' : ds8 = ds ++ p.1 := by simpa using e8
              have e9' : w8 = p.2 := e9
              subst e9'
              refine ⟨hlt, F8, p.2, acc8, ds8, rr, outer8, s8, o8, d8, a8, t2, ?_⟩
              rw [e2, t3, e8', List.append_assoc]
          · rw [if_neg (by simp)]
            refine ⟨hlt, F5, w3, acc, ds, rr, outer5, s15, o5, d5, a2.mono (s3.ef.trans s5.ef), ?_, ?_⟩
            · rw [b5] at t2
              exact t2
            · rw [e2, t3, b5]
              simp
        · have e : i = xs.length := by omega
          subst e
          refine .inl ⟨ok.stops F2 Hc s2, ?_⟩
          rw [List.drop_length] at c2
          cases c2
          have ez : z = (ds, w2) := by rw [e2]; simp
          subst ez
          exact q _ F2 Hc S2 (s1.trans s2) ⟨D, _, rfl, hHD, f2, d2, .lst a2⟩
end
end PyI
set_option Elab.async false
set_option linter.all false
set_option maxRecDepth 100000
set_option maxHeartbeats 1000000
namespace PyI
open PySem L2 PySem.Spec

section
variable {K : PySem.W.Frag} {call : CallF} {M : Mode} {te ta tb : TE} {tt : TT} {e : E} {ts tu : TS} {s : S} {ss : List S}
/-! ### while -/
theorem ss_while {x : E} {body : List S} (h : ST K call M tt x) (hb : SSs K call M ts body) : SS K call M (tWhile tt ts) (.while x body) := fun F0 H0 c F H σ env w r D S hv q => by
  rw [ex] at hv
  generalize hn : FUEL = n at hv
  clear hn
  refine ⟨fun m σ' H' => ∃ F' env' w', Ex F F' ∧ Stt K M F0 H0 c F' H' σ' env' w' ∧ whileL (fun env w => (ev call x env w).bind fun r => (asB r.1).map fun b => (b, r.2)) (fun env w => exs call body env w) m env' w' = some r, ⟨n, F, env, w, Ex.refl _, S, hv⟩, ?_⟩
  rintro m σ' H' ⟨F', env', w', ef, S', hv'⟩
  cases m with
  | zero => cases hv'
  | succ m =>
    rw [whileL] at hv'
    cases h1 : ev call x env' w' with
    | none => rw [h1] at hv'; cases hv'
    | some r1 =>
      rw [h1] at hv'
      simp only [Option.bind_some] at hv'
      cases e2 : asB r1.1 with
      | none => rw [e2] at hv'; cases hv'
      | some k =>
        rw [e2] at hv'
        obtain ⟨d1, w1⟩ := r1
        have e : d1 = .bool k := asB_inv e2
        subst e
        simp only [Option.map_some, Option.bind_some] at hv'
        refine h F0 H0 c F' H' σ' env' w' k w1 S' h1 _ fun F1 H1 S1 s1 => ?_
        cases k with
        | false =>
          cases hv'
          exact q σ' F1 H1 S1 (ef.trans s1.ef)
        | true =>
          rw [if_pos rfl] at hv' ⊢
          refine ⟨fun σ2 H2 => ∃ F2 env2 w2, Ex F F2 ∧ Stt K M F0 H0 c F2 H2 σ2 env2 w2 ∧ whileL (fun env w => (ev call x env w).bind fun r => (asB r.1).map fun b => (b, r.2)) (fun env w => exs call body env w) m env2 w2 = some r,
            fun σ2 H2 hh => ⟨m, Nat.lt_succ_self m, hh⟩, ?_⟩
          cases h3 : exs call body env' w1 with
          | none => rw [h3] at hv'; cases hv'
          | some r3 =>
            rw [h3] at hv'
            simp only [Option.bind_some] at hv'
            refine hb F0 H0 c F1 H1 σ' env' w1 r3 _ S1 h3 ?_
            obtain ⟨f, env4, w4⟩ := r3
            cases f with
            | nx => exact fun σ5 F5 H5 S5 e5 => ⟨F5, env4, w4, ef.trans (s1.ef.trans e5), S5, hv'⟩
            | ct => exact fun σ5 F5 H5 S5 e5 => ⟨F5, env4, w4, ef.trans (s1.ef.trans e5), S5, hv'⟩
            | bk =>
              cases hv'
              exact fun σ5 F5 H5 S5 e5 => q σ5 F5 H5 S5 (ef.trans (s1.ef.trans e5))
            | rt d =>
              cases hv'
              exact fun v F5 H5 R5 => q v F5 H5 R5

/-! ### changes of the body's own lists -/
theorem getE_inv {env : Ev} {i : Nat} {d : PyI.D} (h : getE env i = some d) : env[i]? = some (some d) := by
  unfold getE at h
  cases q : env[i]? with
  | none => rw [q] at h; cases h
  | some o =>
    rw [q] at h
    cases o with
    | none => cases h
    | some d' => cases h; rfl
theorem setE_inv {env env' : Ev} {i : Nat} {d : PyI.D} (h : setE env i d = some env') : env' = env.set i (some d) := by
  unfold setE at h
  split at h
  · cases h; rfl
  · cases h
theorem Cont.list {F : Hp} {o : HO} {ds : List PyI.D} (h : Cont K F o (.list ds)) : ∃ xs, o = .lst xs ∧ RpA K F xs ds := by
  cases h with
  | lst r => exact ⟨_, rfl, r⟩
theorem appD_inv {x d y : PyI.D} (h : appD x d = some y) : ∃ xs, x = .list xs ∧ xs.length < sizeLine ∧ y = .list (xs ++ [d]) := by
  cases x with
  | list xs =>
    rw [appD] at h
    split at h
    · cases h
      exact ⟨xs, rfl, by rw [← lim_eq]; assumption, rfl⟩
    · cases h
  | _ => cases h
theorem ss_app {i : Nat} (h : SV K call M te e) (hi : M.own i = true) : SS K call M (tDrop (tBM K "list" rAppend (tVar i) (tCons te tNil))) (.app i e) := fun F0 H0 c F H σ env w r D S hv q => by
  rw [ex] at hv
  cases h1 : ev call e env w with
  | none => rw [h1] at hv; cases hv
  | some r1 =>
    rw [h1] at hv
    simp only [Option.bind_some] at hv
    cases h2 : getE env i with
    | none => rw [h2] at hv; cases hv
    | some x =>
      rw [h2] at hv
      simp only [Option.bind_some] at hv
      cases h3 : appD x r1.1 with
      | none => rw [h3] at hv; cases hv
      | some y =>
        rw [h3] at hv
        simp only [Option.bind_some] at hv
        cases h4 : setE env i y with
        | none => rw [h4] at hv; cases hv
        | some env' =>
          rw [h4] at hv
          cases hv
          obtain ⟨xs, rfl, hl, rfl⟩ := appD_inv h3
          have he := getE_inv h2
          obtain ⟨p, o, e1, e2, e3, e4, e5, e6⟩ := S.owns i _ he hi
          obtain ⟨us, rfl, r0⟩ := e6.list
          refine ⟨.ref p, e1, .inl ⟨rfl, us, .inl (.inl e5)⟩, ?_⟩
          refine h F0 H0 c F H σ env w r1.1 r1.2 S h1 _ fun v F1 H1 S1 s1 k1 => ?_
          have p1 : H1 p = some (.lst us) := s1.eh p _ e4 e5
          refine ⟨p, us, v, rfl, rfl, p1, by rw [r0.length]; exact hl, ?_⟩
          have ee := setE_inv h4
          subst ee
          exact q σ F1 _ (S1.put hi he e1 p1 (.lst ((r0.mono s1.ef).append (.cons k1 .nil)))) s1.ef
/-- another list of the body's own is appended, and forgotten -/
theorem ss_appMv {i j : Nat} (hi : M.own i = true) (hj : M.own j = true) (hij : i ≠ j) (hc : M.cs ≠ some j) : SS K call M (tDrop (tBM K "list" rAppend (tVar i) (tCons (tVar j) tNil))) (.appMv i j) := fun F0 H0 c F H σ env w r D S hv q => by
  rw [ex] at hv
  cases h1 : getE env j with
  | none => rw [h1] at hv; cases hv
  | some d =>
    rw [h1] at hv
    simp only [Option.bind_some] at hv
    cases h2 : getE env i with
    | none => rw [h2] at hv; cases hv
    | some x =>
      rw [h2] at hv
      simp only [Option.bind_some] at hv
      cases h3 : appD x d with
      | none => rw [h3] at hv; cases hv
      | some y =>
        rw [h3] at hv
        simp only [Option.bind_some] at hv
        cases h4 : setE env i y with
        | none => rw [h4] at hv; cases hv
        | some env' =>
          rw [h4] at hv
          cases hv
          obtain ⟨xs, rfl, hl, rfl⟩ := appD_inv h3
          have he := getE_inv h2
          have hd := getE_inv h1
          obtain ⟨p, o, e1, e2, e3, e4, e5, e6⟩ := S.owns i _ he hi
          obtain ⟨p', o', f1, f2, f3, f4, f5, f6⟩ := S.owns j _ hd hj
          obtain ⟨us, rfl, r0⟩ := e6.list
          have n : p' ≠ p := fun z => S.apart i j _ _ p hij hi hj he hd e1 (by rw [← z]; exact f1)
          refine ⟨.ref p, e1, .inl ⟨rfl, us, .inl (.inl e5)⟩, ?_⟩
          refine ⟨.ref p', f1, ?_⟩
          refine ⟨p, us, .ref p', rfl, rfl, e5, by rw [r0.length]; exact hl, ?_⟩
          have ee := setE_inv h4
          subst ee
          have hs : Step c F0 H0 (upd F p' o') H := S.st.hold f3 f2 f5
          have ex1 : Ex F (upd F p' o') := Ex.upd f2
          have rp : Rp K (upd F p' o') (.ref p') d := (f6.mono ex1).rp upd_same
          -- the state in which slot j is forgotten and the object known
          have S1 : Stt K M F0 H0 c (upd F p' o') H σ (env.set j none) w := by
            have key : ∀ {l : Nat} {x : PyI.D}, (env.set j none)[l]? = some (some x) → l ≠ j ∧ env[l]? = some (some x) := fun {l x} hl => by
              by_cases z : j = l
              · subst z
                by_cases b : j < env.length
                · rw [List.getElem?_set_self b] at hl; cases hl
                · rw [List.getElem?_eq_none (by simpa using b)] at hl; cases hl
              · rw [List.getElem?_set_ne z] at hl
                exact ⟨fun y => z y.symm, hl⟩
            refine ⟨hs, by rw [List.length_set]; exact S.len, fun l x g1 g2 => ?_, fun l x g1 g2 => ?_, fun l m x y a nlm o1 o2 g1 g2 g3 => ?_, fun s hs' => ?_, S.cn, S.pins⟩
            · obtain ⟨v, k1, k2⟩ := S.vals l x (key g1).2 g2
              exact ⟨v, k1, k2.mono ex1⟩
            · obtain ⟨nl, g1'⟩ := key g1
              obtain ⟨a, u, k1, k2, k3, k4, k5, k6⟩ := S.owns l x g1' g2
              have na : a ≠ p' := fun z => S.apart l j _ _ a nl g2 hj g1' hd k1 (by rw [z]; exact f1)
              exact ⟨a, u, k1, by rw [upd_ne na]; exact k2, k3, k4, k5, k6.mono ex1⟩
            · exact S.apart l m x y a nlm o1 o2 (key g1).2 (key g2).2 g3
            · obtain ⟨a, z1, z2, z3, u, z4, z5⟩ := S.cup s hs'
              have na : a ≠ p' := fun z => f4 (by rw [← z]; exact z1)
              exact ⟨a, z1, z2, by rw [upd_ne na]; exact z3, u, z4, z5.mono ex1⟩
          have he' : (env.set j none)[i]? = some (some (.list xs)) := by
            rw [List.getElem?_set_ne (Ne.symm hij)]
            exact he
          have S2 := S1.put hi he' e1 e5 (.lst ((r0.mono ex1).append (.cons rp .nil)))
          rw [List.set_comm _ _ (Ne.symm hij)] at S2
          exact q σ _ _ S2 ex1
/-- name = a list of the body's own, which is the body's own no more -/
theorem ss_mv {i j : Nat} {gg : TG} {vs : List Nat} (hj : M.own j = true) (hg : SG K M gg (.nm i) vs) : SS K call M (tAsg (tVar j) gg) (.mv i j) := fun F0 H0 c F H σ env w r D S hv q => by
  rw [ex] at hv
  cases h1 : getE env j with
  | none => rw [h1] at hv; cases hv
  | some d =>
    rw [h1] at hv
    simp only [Option.bind_some] at hv
    cases h4 : setE (env.set j none) i d with
    | none => rw [h4] at hv; cases hv
    | some env' =>
      rw [h4] at hv
      cases hv
      have hd := getE_inv h1
      obtain ⟨p', o', f1, f2, f3, f4, f5, f6⟩ := S.owns j _ hd hj
      refine ⟨.ref p', f1, ?_⟩
      have hs : Step c F0 H0 (upd F p' o') H := S.st.hold f3 f2 f5
      have ex1 : Ex F (upd F p' o') := Ex.upd f2
      have rp : Rp K (upd F p' o') (.ref p') d := (f6.mono ex1).rp upd_same
      have S1 : Stt K M F0 H0 c (upd F p' o') H σ (env.set j none) w := by
        have key : ∀ {l : Nat} {x : PyI.D}, (env.set j none)[l]? = some (some x) → l ≠ j ∧ env[l]? = some (some x) := fun {l x} hl => by
          by_cases z : j = l
          · subst z
            by_cases b : j < env.length
            · rw [List.getElem?_set_self b] at hl; cases hl
            · rw [List.getElem?_eq_none (by simpa using b)] at hl; cases hl
          · rw [List.getElem?_set_ne z] at hl
            exact ⟨fun y => z y.symm, hl⟩
        refine ⟨hs, by rw [List.length_set]; exact S.len, fun l x g1 g2 => ?_, fun l x g1 g2 => ?_, fun l m x y a nlm o1 o2 g1 g2 g3 => ?_, fun s hs' => ?_, S.cn, S.pins⟩
        · obtain ⟨v, k1, k2⟩ := S.vals l x (key g1).2 g2
          exact ⟨v, k1, k2.mono ex1⟩
        · obtain ⟨nl, g1'⟩ := key g1
          obtain ⟨a, u, k1, k2, k3, k4, k5, k6⟩ := S.owns l x g1' g2
          have na : a ≠ p' := fun z => S.apart l j _ _ a nl g2 hj g1' hd k1 (by rw [z]; exact f1)
          exact ⟨a, u, k1, by rw [upd_ne na]; exact k2, k3, k4, k5, k6.mono ex1⟩
        · exact S.apart l m x y a nlm o1 o2 (key g1).2 (key g2).2 g3
        · obtain ⟨a, z1, z2, z3, u, z4, z5⟩ := S.cup s hs'
          have na : a ≠ p' := fun z => f4 (by rw [← z]; exact z1)
          exact ⟨a, z1, z2, by rw [upd_ne na]; exact z3, u, z4, z5.mono ex1⟩
      exact hg F0 H0 c (upd F p' o') H σ _ w (.ref p') d env' S1 rp (by rw [bindT]; exact h4) _ fun σ' S2 _ => q σ' _ H S2 ex1
theorem set_sameS {α : Type} : ∀ {l : List α} {i : Nat} {x : α}, l[i]? = some x → l.set i x = l
  | [], _, _, h => by simp at h
  | y :: l, 0, x, h => by
    have e := Option.some.inj (show some y = some x from h)
    subst e
    rfl
  | y :: l, i + 1, x, h => by
    rw [List.set_cons_succ, set_sameS (l := l) (i := i) h]
theorem extD_inv {x d y : PyI.D} (h : extD x d = some y) : ∃ xs ys, x = .list xs ∧ d = .list ys ∧ xs.length + ys.length ≤ sizeLine ∧ y = .list (xs ++ ys) := by
  cases x with
  | list xs =>
    cases d with
    | list ys =>
      rw [extD] at h
      split at h
      · cases h
        exact ⟨xs, ys, rfl, rfl, by rw [← lim_eq]; assumption, rfl⟩
      · cases h
    | _ => cases h
  | _ => cases h
theorem ss_ext {i : Nat} (h : SE K call M te e) (hi : M.own i = true) : SS K call M (tAug i te rExt2) (.ext i e) := fun F0 H0 c F H σ env w r D S hv q => by
  rw [ex] at hv
  cases h1 : ev call e env w with
  | none => rw [h1] at hv; cases hv
  | some r1 =>
    rw [h1] at hv
    simp only [Option.bind_some] at hv
    cases h2 : getE env i with
    | none => rw [h2] at hv; cases hv
    | some x =>
      rw [h2] at hv
      simp only [Option.bind_some] at hv
      cases h3 : extD x r1.1 with
      | none => rw [h3] at hv; cases hv
      | some y =>
        rw [h3] at hv
        simp only [Option.bind_some] at hv
        cases h4 : setE env i y with
        | none => rw [h4] at hv; cases hv
        | some env' =>
          rw [h4] at hv
          cases hv
          obtain ⟨d1, w1⟩ := r1
          obtain ⟨xs, ys, rfl, rfl, hl, rfl⟩ := extD_inv h3
          have he := getE_inv h2
          obtain ⟨p, o, e1, e2, e3, e4, e5, e6⟩ := S.owns i _ he hi
          obtain ⟨us, rfl, r0⟩ := e6.list
          refine ⟨.ref p, e1, ?_⟩
          refine h F0 H0 c F H σ env w _ w1 S h1 _ fun v F1 H1 S1 s1 k1 => ?_
          have p1 : H1 p = some (.lst us) := s1.eh p _ e4 e5
          obtain ⟨b, zs, rfl, hb, rz⟩ := (k1.rdC S.cex).rd1.list S1.fh
          refine ⟨p, b, us, zs, rfl, rfl, p1, hb, by rw [r0.length, rz.length]; exact hl, ?_⟩
          have ee := setE_inv h4
          subst ee
          show D.nx (σ.set i (some (.ref p))) _
          rw [set_sameS e1]
          exact q σ F1 _ (S1.put hi he e1 p1 (.lst ((r0.mono s1.ef).append rz))) s1.ef
theorem putL_inv {xs : List PyI.D} {k d y : PyI.D} (h : putD (.list xs) k d = some y) : ∃ i j, k = .int i ∧ L2.ixN xs.length i = some j ∧ y = .list (xs.set j d) := by
  cases k with
  | int i =>
    rw [putD] at h
    cases q : L2.ixN xs.length i with
    | none => rw [q] at h; cases h
    | some j =>
      rw [q] at h
      cases h
      exact ⟨i, j, rfl, q, rfl⟩
  | _ => cases h
theorem Cont.dictI {F : Hp} {o : HO} {ds : List (PyI.D × PyI.D)} (h : Cont K F o (.dict ds)) : ∃ kv, o = .dK kv ∧ RpK K F kv ds := by
  cases h with
  | dk r => exact ⟨_, rfl, r⟩
/-- o[i] = v, o a list or a dict -/
def rSet2 : V → V → V → Hp → (Hp → Prop) → Prop := fun o i v H Q => rSetL o i v H Q ∨ rSetD o i v H Q
theorem set_2 {X : Cx} (hu : X.A.units + 1 < cLine) : PSet X rSet2 := by
  intro pins s σ H o i v ov iv u Q I ro ri rv h
  rcases h with h | h
  · exact set_list pins s σ H o i v ov iv u Q I ro ri rv h
  · exact set_dict hu pins s σ H o i v ov iv u Q I ro ri rv h
theorem putD_inv {xs : List (PyI.D × PyI.D)} {k d y : PyI.D} (h : putD (.dict xs) k d = some y) : ∃ j, keyOf k = some j ∧ xs.length < LIM ∧ y = .dict (putKv xs k d) := by
  have h : ((keyOf k).bind fun _ => if xs.length < LIM then some (PyData.dict (putKv xs k d)) else none) = some y := h
  cases hk : keyOf k with
  | none => rw [hk] at h; cases h
  | some j =>
    rw [hk] at h
    simp only [Option.bind_some] at h
    split at h
    · rename_i hl
      cases h
      exact ⟨j, rfl, hl, rfl⟩
    · cases h
theorem ss_putL {i : Nat} {k : E} {tk : TE} (h : SV K call M te e) (hk : SE K call M tk k) (hi : M.own i = true) : SS K call M (tAsg te (gSub (tVar i) tk rSet2)) (.putL i k e) := fun F0 H0 c F H σ env w r D S hv q => by
  rw [ex] at hv
  cases h1 : ev call e env w with
  | none => rw [h1] at hv; cases hv
  | some r1 =>
    rw [h1] at hv
    simp only [Option.bind_some] at hv
    cases h5 : ev call k env r1.2 with
    | none => rw [h5] at hv; cases hv
    | some r2 =>
      rw [h5] at hv
      simp only [Option.bind_some] at hv
      cases h2 : getE env i with
      | none => rw [h2] at hv; cases hv
      | some x =>
        rw [h2] at hv
        simp only [Option.bind_some] at hv
        cases x with
        | list xs =>
          simp only at hv
          cases h3 : putD (.list xs) r2.1 r1.1 with
          | none => rw [h3] at hv; cases hv
          | some y =>
            rw [h3] at hv
            simp only [Option.bind_some] at hv
            cases h4 : setE env i y with
            | none => rw [h4] at hv; cases hv
            | some env' =>
              rw [h4] at hv
              cases hv
              obtain ⟨d2, w2⟩ := r2
              obtain ⟨n, j, rfl, hj, rfl⟩ := putL_inv h3
              have he := getE_inv h2
              obtain ⟨p, o, e1, e2, e3, e4, e5, e6⟩ := S.owns i _ he hi
              obtain ⟨us, rfl, r0⟩ := e6.list
              refine h F0 H0 c F H σ env w r1.1 r1.2 S h1 _ fun v F1 H1 S1 s1 k1 => ?_
              refine ⟨.ref p, e1, ?_⟩
              refine hk F0 H0 c F1 H1 σ env r1.2 _ w2 S1 h5 _ fun u F2 H2 S2 s2 k2 => ?_
              have eu := (k2.rdC S1.cex).rd1.int
              subst eu
              have p1 : H2 p = some (.lst us) := s2.eh p _ e4 (s1.eh p _ e4 e5)
              refine .inl ⟨p, us, n, j, rfl, rfl, p1, by rw [r0.length]; exact hj, ?_⟩
              have ee := setE_inv h4
              subst ee
              exact q σ F2 _ (S2.put hi he e1 p1 (.lst (RpA.set (k1.mono s2.ef) j ((r0.mono s1.ef).mono s2.ef)))) (s1.ef.trans s2.ef)
        | dict xs =>
          simp only at hv
          cases h3 : putD (.dict xs) r2.1 r1.1 with
          | none => rw [h3] at hv; cases hv
          | some y =>
            rw [h3] at hv
            simp only [Option.bind_some] at hv
            cases h4 : setE env i y with
            | none => rw [h4] at hv; cases hv
            | some env' =>
              rw [h4] at hv
              cases hv
              obtain ⟨d2, w2⟩ := r2
              obtain ⟨j, hj, hl, rfl⟩ := putD_inv h3
              have he := getE_inv h2
              obtain ⟨p, o, e1, e2, e3, e4, e5, e6⟩ := S.owns i _ he hi
              obtain ⟨us, rfl, r0⟩ := e6.dictI
              refine h F0 H0 c F H σ env w r1.1 r1.2 S h1 _ fun v F1 H1 S1 s1 k1 => ?_
              refine ⟨.ref p, e1, ?_⟩
              refine hk F0 H0 c F1 H1 σ env r1.2 _ w2 S1 h5 _ fun u F2 H2 S2 s2 k2 => ?_
              have eu := (k2.rdC S1.cex).rd1.key hj
              subst eu
              have p1 : H2 p = some (.dK us) := s2.eh p _ e4 (s1.eh p _ e4 e5)
              have hl2 : us.length < sizeLine := by rw [r0.length, ← lim_eq]; exact hl
              have ee := setE_inv h4
              subst ee
              exact .inr ⟨p, _, rfl, DPut.k p1 hl2, q σ F2 _ (S2.put hi he e1 p1 (.dk (RpK.put hj (k1.mono s2.ef) ((r0.mono s1.ef).mono s2.ef)))) (s1.ef.trans s2.ef)⟩
        | _ => cases hv
end
end PyI
set_option Elab.async false
set_option linter.all false
set_option maxRecDepth 100000
set_option maxHeartbeats 1000000
/-! enumerate and zip over lists and tuples, whichever each is -/
namespace PyI
open PySem L2 PySem.Spec

def SqX (K : PySem.W.Frag) (b : Bool) (H : Hp) (a : Addr) (xs : List V) : Prop := match b with
  | true => SqL K H a xs
  | false => SqT K H a xs
def ItAt (b : Bool) (h : Heap) (it a : Addr) (i : Nat) : Prop := match b with
  | true => h.IsListIter it a i
  | false => h.IsTupleIter it a i
def SqAt (b : Bool) (h : Heap) (a : Addr) (its : Array Value) : Prop := match b with
  | true => h.IsList a its
  | false => h.IsTuple a its
def itObj (b : Bool) (a : Addr) : Obj := match b with
  | true => { cls := .type "list_iterator", data := .fields #[.ref a, .int 0 0] }
  | false => { cls := .type "tuple_iterator", data := .fields #[.ref a, .int 0 0] }
theorem draws {prog : Program} {w : World} {A : Around} (b : Bool) (hh : A.handled = none) (it a : Addr) (hne : a ≠ it) (items : Array Value) :
    Draws prog w A it [it, a] items.size (fun i v => items[i]? = some v) (fun i h => ItAt b h it a i ∧ SqAt b h a items) := by
  cases b with
  | true => exact Draws.list hh it a hne items
  | false => exact Draws.tuple hh it a hne items
theorem begins (b : Bool) (a : Addr) (items : Array Value) : Begins (.ref a) (itObj b a) fun h => SqAt b h a items := by
  cases b with
  | true => exact begins_list a items
  | false => exact begins_tuple a items
theorem ItAt.at {b : Bool} {h h' : Heap} {it a : Addr} {i : Nat} (z : ItAt b h it a i) (k : ∀ o, h.get? it = some o → h'.get? it = some o) : ItAt b h' it a i := by
  cases b with
  | true =>
    obtain ⟨o, h1, h2, h3⟩ := z
    exact ⟨o, k o h1, h2, h3⟩
  | false =>
    obtain ⟨o, h1, h2, h3⟩ := z
    exact ⟨o, k o h1, h2, h3⟩
theorem ItAt.obj {b : Bool} {h : Heap} {it a : Addr} {i : Nat} (z : ItAt b h it a i) : ∃ o, h.get? it = some o ∧ ∀ v, o.data ≠ .cell v := by
  cases b with
  | true =>
    obtain ⟨o, h1, _, h3⟩ := z
    exact ⟨o, h1, fun v e => by rw [h3] at e; cases e⟩
  | false =>
    obtain ⟨o, h1, _, h3⟩ := z
    exact ⟨o, h1, fun v e => by rw [h3] at e; cases e⟩
theorem ItAt.new {b : Bool} {h : Heap} {it a : Addr} (e : h.get? it = some (itObj b a)) : ItAt b h it a 0 := by
  cases b with
  | true => exact ⟨_, e, rfl, rfl⟩
  | false => exact ⟨_, e, rfl, rfl⟩
theorem SqAt.lt {b : Bool} {h : Heap} {a : Addr} {its : Array Value} (z : SqAt b h a its) : a < h.objs.size := by
  cases b with
  | true => obtain ⟨o, e, _⟩ := z; exact Heap.lt_size e
  | false => obtain ⟨o, e, _⟩ := z; exact Heap.lt_size e
section
variable {X : Cx} {pins : List (Addr × Obj)} {σ : St} {H : Hp} {s : Shared} {a : Addr} {xs ys : List V} {b : Bool}
theorem seqX (I : Inv X pins σ H s) (h : SqX X.K b H a xs) : ∃ its : List Value, Vals xs its ∧ SqAt b s.heap a its.toArray := by
  cases b with
  | true =>
    obtain ⟨its, r, p, _⟩ := I.list h
    exact ⟨its, r, p.isList⟩
  | false =>
    obtain ⟨its, r, p, _⟩ := I.tuple h
    exact ⟨its, r, p⟩
theorem seqX_inj (I : Inv X pins σ H s) (h : SqX X.K b H a xs) (h2 : SqX X.K b H a ys) : xs = ys := by
  cases b with
  | true => exact I.list_inj h h2
  | false => exact I.tuple_inj h h2
end
/-- enumerate of the list or the tuple at a -/
def ItE (K : PySem.W.Frag) (b : Bool) (a : Addr) : It :=
  ⟨fun i H => ∃ (xs : List V) (x : V), SqX K b H a xs ∧ xs[i]? = some x,
   fun i H v H' => ∃ T x, v = .ref T ∧ H T = none ∧ H' = upd H T (.tup [.int (i : Nat), x]) ∧ ∀ xs, SqX K b H a xs → xs[i]? = some x,
   fun i H => ∃ xs : List V, SqX K b H a xs ∧ xs.length = i⟩
theorem turn_enumX {P : Program} {w : World} {K : PySem.W.Frag} {elts : List Expr} {kk : Nat} {tpos : Pos} {b : Bool} {a e it : Addr} (hei : e ≠ it) (hea : e ≠ a) (hia : a ≠ it) :
    Turn P w K (.Tuple elts kk tpos) (ItE K b a) [e, it] e (fun i h => (∃ old, IsEnum h e it ((i : Nat) : Int) old) ∧ ItAt b h it a i) where
  mem := List.mem_cons_self ..
  obj := fun i h st c hc => by
    obtain ⟨⟨old, he⟩, hi⟩ := st
    rcases List.mem_cons.mp hc with z | z
    · rw [z]
      exact ⟨_, he, fun v q => nomatch q⟩
    · rw [List.mem_singleton.mp z]
      exact hi.obj
  keep := fun i h h' st k => ⟨let ⟨old, he⟩ := st.1; ⟨old, k e (List.mem_cons_self ..) _ he⟩, st.2.at fun o q => k it (List.mem_cons_of_mem _ (List.mem_cons_self ..)) o q⟩
  item := by
    intro X hP hw hK hc i pins s σ H E I hf st hg
    subst hP hw hK
    obtain ⟨⟨old, he⟩, hit⟩ := st
    obtain ⟨xs, x, hq, hx⟩ := hg
    obtain ⟨its, rv, p⟩ := seqX I hq
    obtain ⟨u, hu, ru⟩ := rv.get hx
    have hi : i < its.toArray.size := by
      rw [List.size_toArray]
      exact (List.getElem?_eq_some_iff.mp hu).1
    have G := GoesN.enumFrom (prog := X.prog) (w := X.w) (A := X.A) (elts := elts) (x1 := kk) (pos := tpos) 0 (draws b (show X.A.in1.handled = none from I.ok.hd hc) it a hia its.toArray) e hei
      (fun m => (List.mem_cons.mp m).elim hei fun m => hea (List.mem_singleton.mp m)) (List.mem_cons_self ..)
    refine G.goes i s _ E hi ⟨⟨old, by rw [Int.zero_add]; exact he⟩, hit, p⟩ fun v h' tk hY hSt hk _ => ?_
    obtain ⟨T, t, y, rfl, hT, hy, hTup⟩ := hY
    obtain ⟨⟨old', he'⟩, hit', _⟩ := hSt
    have ey : y = u := by
      rw [List.getElem?_toArray, hu] at hy
      cases hy
      rfl
    subst ey
    have new : ObjOk X.prog X.w (upd H T (.tup [.int (i : Nat), x])) h' T (.tup [.int (i : Nat), x]) :=
      ⟨by show 2 ≤ sizeLine; decide, [.int (0 + (i : Int)) t, y], .cons ⟨t, by rw [Int.zero_add]⟩ (.cons ru .nil), hTup⟩
    have I1 : Inv X pins σ (upd H T (.tup [.int (i : Nat), x])) { s with heap := h', toks := tk } := I.turnedNew (ch := [e, it]) (fun c o hb q => hk c o hb q) hf hT new
    refine ⟨.ref T, _, I1, rfl, ⟨T, x, rfl, I.hok.fresh hT, rfl, fun ys hy => by rw [seqX_inj I hy hq]; exact hx⟩, ⟨⟨old', ?_⟩, hit'⟩, fun c hcm => ?_⟩
    · rw [Int.zero_add] at he'
      exact he'
    · have hlt : c < s.heap.objs.size := by
        rcases List.mem_cons.mp hcm with z | z
        · rw [z]; exact Heap.lt_size he
        · rw [List.mem_singleton.mp z]
          obtain ⟨o, eo, _⟩ := hit.obj
          exact Heap.lt_size eo
      rw [upd_ne (Nat.ne_of_lt (Nat.lt_of_lt_of_le hlt hT))]
      exact (hf c hcm).1
  done := by
    intro X hP hw hK hc i pins s σ H E I hf st hg
    subst hP hw hK
    obtain ⟨⟨old, he⟩, hit⟩ := st
    obtain ⟨xs, hq, hx⟩ := hg
    obtain ⟨its, rv, p⟩ := seqX I hq
    have hi : i = its.toArray.size := by
      rw [List.size_toArray, ← rv.length]
      exact hx.symm
    subst hi
    have G := GoesN.enumFrom (prog := X.prog) (w := X.w) (A := X.A) (elts := elts) (x1 := kk) (pos := tpos) 0 (draws b (show X.A.in1.handled = none from I.ok.hd hc) it a hia its.toArray) e hei
      (fun m => (List.mem_cons.mp m).elim hei fun m => hea (List.mem_singleton.mp m)) (List.mem_cons_self ..)
    exact G.stops s _ E ⟨⟨old, by rw [Int.zero_add]; exact he⟩, hit, p⟩ fun h' tk hk _ => I.turnedL (t' := tk) (ch := [e, it]) (fun c o hb q => hk c o hb q) hf
  self := fun A i s Q E st h => let ⟨⟨_, he⟩, _⟩ := st; wpAny_pyIter_enum he h
/-- zip of two, of three -/
def ItZ2 (K : PySem.W.Frag) (b1 b2 : Bool) (a1 a2 : Addr) : It :=
  ⟨fun i H => ∃ (xs ys : List V) (x y : V), SqX K b1 H a1 xs ∧ SqX K b2 H a2 ys ∧ xs[i]? = some x ∧ ys[i]? = some y,
   fun i H v H' => ∃ T x y, v = .ref T ∧ H T = none ∧ H' = upd H T (.tup [x, y]) ∧ (∀ xs, SqX K b1 H a1 xs → xs[i]? = some x) ∧ ∀ ys, SqX K b2 H a2 ys → ys[i]? = some y,
   fun i H => ∃ xs ys : List V, SqX K b1 H a1 xs ∧ SqX K b2 H a2 ys ∧ min xs.length ys.length = i⟩
theorem turn_zip2X {P : Program} {w : World} {K : PySem.W.Frag} {elts : List Expr} {kk : Nat} {tpos : Pos} {b1 b2 : Bool} {a1 a2 z TI TO i1 i2 : Addr} (Z : ZipSep2 z TI TO i1 i2 [i1, a1] [i2, a2]) (h1 : a1 ≠ i1) (h2 : a2 ≠ i2) :
    Turn P w K (.Tuple elts kk tpos) (ItZ2 K b1 b2 a1 a2) [z, TI, TO, i1, i2] z (fun i h => IsZip h z TI TO .none ∧ IsTupOf2 h TI (.ref i1) (.ref i2) ∧ (∃ x y, IsTupOf2 h TO x y) ∧ ItAt b1 h i1 a1 i ∧ ItAt b2 h i2 a2 i) where
  mem := List.mem_cons_self ..
  obj := fun i h st c hc => by
    obtain ⟨hz, hTI, ⟨x, y, hTO⟩, hi1, hi2⟩ := st
    have e' : c = z ∨ c = TI ∨ c = TO ∨ c = i1 ∨ c = i2 := by simpa using hc
    rcases e' with q | q | q | q | q
    · subst q; exact ⟨_, hz, fun v q => nomatch q⟩
    · subst q; exact ⟨_, hTI, fun v q => nomatch q⟩
    · subst q; exact ⟨_, hTO, fun v q => nomatch q⟩
    · subst q; exact hi1.obj
    · subst q; exact hi2.obj
  keep := fun i h h' st k => by
    obtain ⟨hz, hTI, ⟨x, y, hTO⟩, hi1, hi2⟩ := st
    exact ⟨k z (by simp) _ hz, k TI (by simp) _ hTI, ⟨x, y, k TO (by simp) _ hTO⟩, hi1.at fun o q => k i1 (by simp) o q, hi2.at fun o q => k i2 (by simp) o q⟩
  item := by
    intro X hP hw hK hc i pins s σ H E I hf st hg
    subst hP hw hK
    obtain ⟨hz, hTI, hTO, hi1, hi2⟩ := st
    obtain ⟨xs, ys, x, y, hqx, hqy, hx, hy⟩ := hg
    obtain ⟨its, rv, p⟩ := seqX I hqx
    obtain ⟨its2, rv2, p2⟩ := seqX I hqy
    obtain ⟨u, hu, ru⟩ := rv.get hx
    obtain ⟨u2, hu2, ru2⟩ := rv2.get hy
    have l1 : i < its.toArray.size := by rw [List.size_toArray]; exact (List.getElem?_eq_some_iff.mp hu).1
    have l2 : i < its2.toArray.size := by rw [List.size_toArray]; exact (List.getElem?_eq_some_iff.mp hu2).1
    have hd := I.ok.hd hc
    have G := GoesN.zip2 (prog := X.prog) (w := X.w) (A := X.A) (elts := elts) (x1 := kk) (pos := tpos) Z (draws b1 (show X.A.in1.handled = none from hd) i1 a1 h1 its.toArray) (draws b2 (show X.A.in1.handled = none from hd) i2 a2 h2 its2.toArray)
    refine G.goes i s _ E (by omega) ⟨hz, hTI, hTO, ⟨hi1, p⟩, hi2, p2⟩ fun v h' tk hY hSt hk _ => ?_
    obtain ⟨T, y1, y2, rfl, hT, hy1, hy2, hTup⟩ := hY
    obtain ⟨kz, kTI, kTO, ⟨k1, _⟩, k2, _⟩ := hSt
    have e1 : y1 = u := by rw [List.getElem?_toArray, hu] at hy1; cases hy1; rfl
    have e2 : y2 = u2 := by rw [List.getElem?_toArray, hu2] at hy2; cases hy2; rfl
    subst e1 e2
    have new : ObjOk X.prog X.w (upd H T (.tup [x, y])) h' T (.tup [x, y]) := ⟨by show 2 ≤ sizeLine; decide, [y1, y2], .cons ru (.cons ru2 .nil), hTup⟩
    have I1 : Inv X pins σ (upd H T (.tup [x, y])) { s with heap := h', toks := tk } := I.turnedNew (ch := [z, TI, TO, i1, i2]) (fun c o hb q => hk c o (fun m => hb (by
      have e' : c = z ∨ c = TO ∨ c = i1 ∨ c = i2 := by simpa using m
      rcases e' with r | r | r | r <;> simp [r])) q) hf hT new
    refine ⟨.ref T, _, I1, rfl, ⟨T, x, y, rfl, I.hok.fresh hT, rfl, fun l hl => by rw [seqX_inj I hl hqx]; exact hx, fun l hl => by rw [seqX_inj I hl hqy]; exact hy⟩, ⟨kz, kTI, kTO, k1, k2⟩, fun c hcm => ?_⟩
    have hlt : c < s.heap.objs.size := by
      have e' : c = z ∨ c = TI ∨ c = TO ∨ c = i1 ∨ c = i2 := by simpa using hcm
      obtain ⟨o1, g1, _⟩ := hi1.obj
      obtain ⟨o2, g2, _⟩ := hi2.obj
      obtain ⟨_, _, gO⟩ := hTO
      rcases e' with q | q | q | q | q
      · rw [q]; exact Heap.lt_size hz
      · rw [q]; exact Heap.lt_size hTI
      · rw [q]; exact Heap.lt_size gO
      · rw [q]; exact Heap.lt_size g1
      · rw [q]; exact Heap.lt_size g2
    rw [upd_ne (Nat.ne_of_lt (Nat.lt_of_lt_of_le hlt hT))]
    exact (hf c hcm).1
  done := by
    intro X hP hw hK hc i pins s σ H E I hf st hg
    subst hP hw hK
    obtain ⟨hz, hTI, hTO, hi1, hi2⟩ := st
    obtain ⟨xs, ys, hqx, hqy, hend⟩ := hg
    obtain ⟨its, rv, p⟩ := seqX I hqx
    obtain ⟨its2, rv2, p2⟩ := seqX I hqy
    have hd := I.ok.hd hc
    have hi : i = min its.toArray.size its2.toArray.size := by
      rw [List.size_toArray, List.size_toArray, ← rv.length, ← rv2.length]
      exact hend.symm
    subst hi
    have G := GoesN.zip2 (prog := X.prog) (w := X.w) (A := X.A) (elts := elts) (x1 := kk) (pos := tpos) Z (draws b1 (show X.A.in1.handled = none from hd) i1 a1 h1 its.toArray) (draws b2 (show X.A.in1.handled = none from hd) i2 a2 h2 its2.toArray)
    refine G.stops s _ E ⟨hz, hTI, hTO, ⟨hi1, p⟩, hi2, p2⟩ fun h' tk hk _ => I.turnedL (t' := tk) (ch := [z, TI, TO, i1, i2]) (fun c o hb q => hk c o (fun m => hb (by
      have e' : c = z ∨ c = TO ∨ c = i1 ∨ c = i2 := by simpa using m
      rcases e' with r | r | r | r <;> simp [r])) q) hf
  self := fun A i s Q E st h => wpAny_pyIter_zip st.1 h
def ItZ3 (K : PySem.W.Frag) (b1 b2 b3 : Bool) (a1 a2 a3 : Addr) : It :=
  ⟨fun i H => ∃ (xs ys zs : List V) (x y z : V), SqX K b1 H a1 xs ∧ SqX K b2 H a2 ys ∧ SqX K b3 H a3 zs ∧ xs[i]? = some x ∧ ys[i]? = some y ∧ zs[i]? = some z,
   fun i H v H' => ∃ T x y z, v = .ref T ∧ H T = none ∧ H' = upd H T (.tup [x, y, z]) ∧ (∀ xs, SqX K b1 H a1 xs → xs[i]? = some x) ∧ (∀ ys, SqX K b2 H a2 ys → ys[i]? = some y) ∧ ∀ zs, SqX K b3 H a3 zs → zs[i]? = some z,
   fun i H => ∃ xs ys zs : List V, SqX K b1 H a1 xs ∧ SqX K b2 H a2 ys ∧ SqX K b3 H a3 zs ∧ min (min xs.length ys.length) zs.length = i⟩
theorem turn_zip3X {P : Program} {w : World} {K : PySem.W.Frag} {elts : List Expr} {kk : Nat} {tpos : Pos} {b1 b2 b3 : Bool} {a1 a2 a3 z TI TO i1 i2 i3 : Addr} (Z : ZipSep3 z TI TO i1 i2 i3 [i1, a1] [i2, a2] [i3, a3]) (h1 : a1 ≠ i1) (h2 : a2 ≠ i2) (h3 : a3 ≠ i3) :
    Turn P w K (.Tuple elts kk tpos) (ItZ3 K b1 b2 b3 a1 a2 a3) [z, TI, TO, i1, i2, i3] z (fun i h => IsZip h z TI TO .none ∧ IsTupOf3 h TI (.ref i1) (.ref i2) (.ref i3) ∧ (∃ x y u, IsTupOf3 h TO x y u) ∧ ItAt b1 h i1 a1 i ∧ ItAt b2 h i2 a2 i ∧ ItAt b3 h i3 a3 i) where
  mem := List.mem_cons_self ..
  obj := fun i h st c hc => by
    obtain ⟨hz, hTI, ⟨x, y, u, hTO⟩, hi1, hi2, hi3⟩ := st
    have e' : c = z ∨ c = TI ∨ c = TO ∨ c = i1 ∨ c = i2 ∨ c = i3 := by simpa using hc
    rcases e' with q | q | q | q | q | q
    · subst q; exact ⟨_, hz, fun v q => nomatch q⟩
    · subst q; exact ⟨_, hTI, fun v q => nomatch q⟩
    · subst q; exact ⟨_, hTO, fun v q => nomatch q⟩
    · subst q; exact hi1.obj
    · subst q; exact hi2.obj
    · subst q; exact hi3.obj
  keep := fun i h h' st k => by
    obtain ⟨hz, hTI, ⟨x, y, u, hTO⟩, hi1, hi2, hi3⟩ := st
    exact ⟨k z (by simp) _ hz, k TI (by simp) _ hTI, ⟨x, y, u, k TO (by simp) _ hTO⟩, hi1.at fun o q => k i1 (by simp) o q, hi2.at fun o q => k i2 (by simp) o q, hi3.at fun o q => k i3 (by simp) o q⟩
  item := by
    intro X hP hw hK hc i pins s σ H E I hf st hg
    subst hP hw hK
    obtain ⟨hz, hTI, hTO, hi1, hi2, hi3⟩ := st
    obtain ⟨xs, ys, zs, x, y, q0, hqx, hqy, hqz, hx, hy, hq0⟩ := hg
    obtain ⟨its, rv, p⟩ := seqX I hqx
    obtain ⟨its2, rv2, p2⟩ := seqX I hqy
    obtain ⟨its3, rv3, p3⟩ := seqX I hqz
    obtain ⟨u, hu, ru⟩ := rv.get hx
    obtain ⟨u2, hu2, ru2⟩ := rv2.get hy
    obtain ⟨u3, hu3, ru3⟩ := rv3.get hq0
    have l1 : i < its.toArray.size := by rw [List.size_toArray]; exact (List.getElem?_eq_some_iff.mp hu).1
    have l2 : i < its2.toArray.size := by rw [List.size_toArray]; exact (List.getElem?_eq_some_iff.mp hu2).1
    have l3 : i < its3.toArray.size := by rw [List.size_toArray]; exact (List.getElem?_eq_some_iff.mp hu3).1
    have hd := I.ok.hd hc
    have G := GoesN.zip3 (prog := X.prog) (w := X.w) (A := X.A) (elts := elts) (x1 := kk) (pos := tpos) Z (draws b1 (show X.A.in1.handled = none from hd) i1 a1 h1 its.toArray) (draws b2 (show X.A.in1.handled = none from hd) i2 a2 h2 its2.toArray) (draws b3 (show X.A.in1.handled = none from hd) i3 a3 h3 its3.toArray)
    refine G.goes i s _ E (by omega) ⟨hz, hTI, hTO, ⟨hi1, p⟩, ⟨hi2, p2⟩, hi3, p3⟩ fun v h' tk hY hSt hk _ => ?_
    obtain ⟨T, y1, y2, y3, rfl, hT, hy1, hy2, hy3, hTup⟩ := hY
    obtain ⟨kz, kTI, kTO, ⟨k1, _⟩, ⟨k2, _⟩, k3, _⟩ := hSt
    have e1 : y1 = u := by rw [List.getElem?_toArray, hu] at hy1; cases hy1; rfl
    have e2 : y2 = u2 := by rw [List.getElem?_toArray, hu2] at hy2; cases hy2; rfl
    have e3 : y3 = u3 := by rw [List.getElem?_toArray, hu3] at hy3; cases hy3; rfl
    subst e1 e2 e3
    have new : ObjOk X.prog X.w (upd H T (.tup [x, y, q0])) h' T (.tup [x, y, q0]) := ⟨by show 3 ≤ sizeLine; decide, [y1, y2, y3], .cons ru (.cons ru2 (.cons ru3 .nil)), hTup⟩
    have I1 : Inv X pins σ (upd H T (.tup [x, y, q0])) { s with heap := h', toks := tk } := I.turnedNew (ch := [z, TI, TO, i1, i2, i3]) (fun c o hb q => hk c o (fun m => hb (by
      have e' : c = z ∨ c = TO ∨ c = i1 ∨ c = i2 ∨ c = i3 := by simpa using m
      rcases e' with r | r | r | r | r <;> simp [r])) q) hf hT new
    refine ⟨.ref T, _, I1, rfl, ⟨T, x, y, q0, rfl, I.hok.fresh hT, rfl, fun l hl => by rw [seqX_inj I hl hqx]; exact hx, fun l hl => by rw [seqX_inj I hl hqy]; exact hy, fun l hl => by rw [seqX_inj I hl hqz]; exact hq0⟩, ⟨kz, kTI, kTO, k1, k2, k3⟩, fun c hcm => ?_⟩
    have hlt : c < s.heap.objs.size := by
      have e' : c = z ∨ c = TI ∨ c = TO ∨ c = i1 ∨ c = i2 ∨ c = i3 := by simpa using hcm
      obtain ⟨o1, g1, _⟩ := hi1.obj
      obtain ⟨o2, g2, _⟩ := hi2.obj
      obtain ⟨o3, g3, _⟩ := hi3.obj
      obtain ⟨_, _, _, gO⟩ := hTO
      rcases e' with q | q | q | q | q | q
      · rw [q]; exact Heap.lt_size hz
      · rw [q]; exact Heap.lt_size hTI
      · rw [q]; exact Heap.lt_size gO
      · rw [q]; exact Heap.lt_size g1
      · rw [q]; exact Heap.lt_size g2
      · rw [q]; exact Heap.lt_size g3
    rw [upd_ne (Nat.ne_of_lt (Nat.lt_of_lt_of_le hlt hT))]
    exact (hf c hcm).1
  done := by
    intro X hP hw hK hc i pins s σ H E I hf st hg
    subst hP hw hK
    obtain ⟨hz, hTI, hTO, hi1, hi2, hi3⟩ := st
    obtain ⟨xs, ys, zs, hqx, hqy, hqz, hend⟩ := hg
    obtain ⟨its, rv, p⟩ := seqX I hqx
    obtain ⟨its2, rv2, p2⟩ := seqX I hqy
    obtain ⟨its3, rv3, p3⟩ := seqX I hqz
    have hd := I.ok.hd hc
    have hi : i = min (min its.toArray.size its2.toArray.size) its3.toArray.size := by
      rw [List.size_toArray, List.size_toArray, List.size_toArray, ← rv.length, ← rv2.length, ← rv3.length]
      exact hend.symm
    subst hi
    have G := GoesN.zip3 (prog := X.prog) (w := X.w) (A := X.A) (elts := elts) (x1 := kk) (pos := tpos) Z (draws b1 (show X.A.in1.handled = none from hd) i1 a1 h1 its.toArray) (draws b2 (show X.A.in1.handled = none from hd) i2 a2 h2 its2.toArray) (draws b3 (show X.A.in1.handled = none from hd) i3 a3 h3 its3.toArray)
    refine G.stops s _ E ⟨hz, hTI, hTO, ⟨hi1, p⟩, ⟨hi2, p2⟩, hi3, p3⟩ fun h' tk hk _ => I.turnedL (t' := tk) (ch := [z, TI, TO, i1, i2, i3]) (fun c o hb q => hk c o (fun m => hb (by
      have e' : c = z ∨ c = TO ∨ c = i1 ∨ c = i2 ∨ c = i3 := by simpa using m
      rcases e' with r | r | r | r | r <;> simp [r])) q) hf
  self := fun A i s Q E st h => wpAny_pyIter_zip st.1 h

/-! ### they begin -/
theorem enum_new1 {v : Value} {o : Obj} {P : Heap → Prop} (B : Begins v o P) :
    Meets (Builtin.«enumerate.__new__» ⟨[.type "enumerate", v], []⟩) (fun _ R s => P s.heap ∧
      R (.ok (.ret (.ref (s.heap.push o).objs.size))) { s with heap := (s.heap.push o).push { cls := .type "enumerate", data := .fields #[.none, .bool false, .ref s.heap.objs.size, rawInt 0, .none, .none] } }) :=
  .of_wp fun prog w A R s hh => by
    obtain ⟨hp, g, d, tk, os⟩ := s
    obtain ⟨h1, h⟩ := hh
    have hsub := sub_enumerate
    have q1 : ∀ {A' : Around} {E : Value → Shared → Prop} {Q : Value → Shared → Prop}, Q (.ref hp.objs.size) ⟨hp.push o, g, d, tk, os⟩ → wpAny (model prog w) A' (pyIter v) Q E ⟨hp, g, d, tk, os⟩ :=
      fun q => B.iter prog w _ _ ⟨hp, g, d, tk, os⟩ _ h1 q
    wp_walk using q1
    refine wpAny_stack_any fun st => wpAny_pure ?_
    split
    · rename_i c _ _ _ _ _
      cases (c == Value.type "enumerate")
      · wp_walk using q1
        exact ⟨_, rfl, h⟩
      · wp_walk using q1
        exact ⟨_, rfl, h⟩
    · wp_walk using q1
      exact ⟨_, rfl, h⟩
theorem enum_call1 {prog : Program} {w : World} {A : Around} {E : Value → Shared → Prop} {s : Shared} {v : Value} {o : Obj} {P : Heap → Prop} {Q : Value → Shared → Prop} (B : Begins v o P) (h1 : P s.heap)
    (h : ∀ h', IsEnum h' (s.heap.objs.size + 1) s.heap.objs.size 0 .none → h'.get? s.heap.objs.size = some o → (∀ b o, s.heap.get? b = some o → h'.get? b = some o) → Q (.ref (s.heap.objs.size + 1)) { s with heap := h' }) :
    wpAny (model prog w) A (call (.type "enumerate") [v]) Q E s := by
  refine callType_new F.called_enumerate (by decide) (F.typeCall_enumerate_1 _) (F.newCall_enumerate_1 _) (fun obj => F.args_object_init_2 obj _) F.entry_enumerate_new (enum_new1 B) ⟨h1, ?_⟩
  have hz : (s.heap.push o).objs.size = s.heap.objs.size + 1 := Heap.size_push ..
  show _ ∧ _
  rw [hz]
  have he : IsEnum ((s.heap.push o).push { cls := .type "enumerate", data := .fields #[.none, .bool false, .ref s.heap.objs.size, rawInt 0, .none, .none] }) (s.heap.objs.size + 1) s.heap.objs.size 0 .none := by
    have t := Heap.get?_push_size (s.heap.push o) (o := { cls := .type "enumerate", data := .fields #[.none, .bool false, .ref s.heap.objs.size, rawInt 0, .none, .none] }) rfl
    rw [hz] at t
    exact t
  exact ⟨⟨_, he, rfl⟩, h _ he (Heap.get?_push_of_some _ (Heap.get?_push_size _ B.free)) fun b o x => Heap.get?_push_of_some _ (Heap.get?_push_of_some _ x)⟩

/-! ### as sources -/
def iEnumX (K : PySem.W.Frag) (ta : TA) : TI := fun σ H R => ta σ H fun vs H1 => ∃ a b xs, vs = [.ref a] ∧ SqX K b H1 a xs ∧ R (ItE K b a) H1
theorem pi_enumX {X : Cx} {e : Expr} {ta : TA} {p pos tpos : Pos} {elts : List Expr} {kk : Nat} (hg : Gl X "enumerate") (hm : X.mg "enumerate" = none) (ha : PA X [e] ta) (hs : starEach [e] X.env = [(false, eval e X.env)]) :
    PI X (.Tuple elts kk tpos) (.Call (.Name "enumerate" p) [e] [] pos) (iEnumX X.K ta) := by
  refine ⟨fun pins s σ H R I h => PyProof.Rows.Call_ (ld_blt I hg hm PyProof.Rows.boot_enumerate ?_)⟩
  refine PyProof.Rows.callWith_type1 (thn (ha.run pos pins s σ H _ I h) fun us s1 ⟨vs, H1, I1, r1, q1⟩ => ?_) hs rfl
  obtain ⟨a, b, xs, rfl, hq, q⟩ := q1
  obtain rfl := Vals.ref1 r1
  obtain ⟨its, rv, p'⟩ := seqX I1 hq
  refine enum_call1 (begins b a its.toArray) p' fun h' he' hit hk => wpAny_pyIter_enum he' ?_
  have I2 : Inv X pins σ H1 { s1 with heap := h' } := I1.kept (t' := s1.toks) hk
  have hlt := p'.lt
  have n1 : s1.heap.objs.size + 1 ≠ a := Nat.ne_of_gt (Nat.lt_succ_of_lt hlt)
  refine ⟨s1.heap.objs.size + 1, [s1.heap.objs.size + 1, s1.heap.objs.size], _, _, H1, rfl, I2, turn_enumX (b := b) (a := a) (Nat.succ_ne_self _) n1 (Nat.ne_of_lt hlt), ⟨⟨.none, he'⟩, ItAt.new hit⟩, fun c hc => ?_, q⟩
  have hle : s1.heap.objs.size ≤ c := by
    rcases List.mem_cons.mp hc with z | z
    · rw [z]; exact Nat.le_add_right _ _
    · rw [List.mem_singleton.mp z]; exact Nat.le_refl _
  exact I1.fpOk hle (I1.hok.fresh hle)
def iZip2X (K : PySem.W.Frag) (ta : TA) : TI := fun σ H R => ta σ H fun vs H1 => ∃ a1 b1 xs a2 b2 ys, vs = [.ref a1, .ref a2] ∧ SqX K b1 H1 a1 xs ∧ SqX K b2 H1 a2 ys ∧ R (ItZ2 K b1 b2 a1 a2) H1
theorem pi_zip2X {X : Cx} {e e2 : Expr} {ta : TA} {p pos tpos : Pos} {elts : List Expr} {kk : Nat} (hg : Gl X "zip") (hm : X.mg "zip" = none) (ha : PA X [e, e2] ta)
    (hs : starEach [e, e2] X.env = (false, eval e X.env) :: starEach [e2] X.env) (hpl : (backTo pos (starEach [e2] X.env)).any (·.1) = false) :
    PI X (.Tuple elts kk tpos) (.Call (.Name "zip" p) [e, e2] [] pos) (iZip2X X.K ta) := by
  refine ⟨fun pins s σ H R I h => PyProof.Rows.Call_ (ld_blt I hg hm PyProof.Rows.boot_zip ?_)⟩
  refine PyProof.Rows.callWith_type1 (thn (ha.run pos pins s σ H _ I h) fun us s1 ⟨vs, H1, I1, r1, q1⟩ => ?_) hs hpl
  obtain ⟨a1, b1, xs, a2, b2, ys, rfl, hq, hq2, q⟩ := q1
  obtain ⟨u1, us1, rfl, k1, r1⟩ : ∃ u us1, us = u :: us1 ∧ RelV (.ref a1) u ∧ Vals [.ref a2] us1 := by cases r1 with | cons a b => exact ⟨_, _, rfl, a, b⟩
  obtain rfl := Vals.ref1 r1
  cases k1
  obtain ⟨its, rv, p1⟩ := seqX I1 hq
  obtain ⟨its2, rv2, p2⟩ := seqX I1 hq2
  refine zip_begins2 (begins b1 a1 its.toArray) (begins b2 a2 its2.toArray) p1 p2 fun h' hz hTI hTO g1 g2 hsz hk => wpAny_pyIter_zip hz ?_
  have I2 : Inv X pins σ H1 { s1 with heap := h' } := I1.kept (t' := s1.toks) hk
  have l1 := p1.lt
  have l2 := p2.lt
  have Z : ZipSep2 (s1.heap.objs.size + 4) (s1.heap.objs.size + 2) (s1.heap.objs.size + 3) s1.heap.objs.size (s1.heap.objs.size + 1) [s1.heap.objs.size, a1] [s1.heap.objs.size + 1, a2] :=
    zip_sep2 (fun b hb => by rw [List.mem_singleton.mp hb]; exact l1) (fun b hb => by rw [List.mem_singleton.mp hb]; exact l2)
  refine ⟨s1.heap.objs.size + 4, [s1.heap.objs.size + 4, s1.heap.objs.size + 2, s1.heap.objs.size + 3, s1.heap.objs.size, s1.heap.objs.size + 1], _, _, H1, rfl, I2,
    turn_zip2X Z (Nat.ne_of_lt l1) (Nat.ne_of_lt (Nat.lt_succ_of_lt l2)), ⟨hz, hTI, ⟨_, _, hTO⟩, ItAt.new g1, ItAt.new g2⟩, fun c hc => ?_, q⟩
  have hle : s1.heap.objs.size ≤ c := by
    have e' : c = s1.heap.objs.size + 4 ∨ c = s1.heap.objs.size + 2 ∨ c = s1.heap.objs.size + 3 ∨ c = s1.heap.objs.size ∨ c = s1.heap.objs.size + 1 := by simpa using hc
    rcases e' with z | z | z | z | z
    · rw [z]; exact Nat.le_add_right _ _
    · rw [z]; exact Nat.le_add_right _ _
    · rw [z]; exact Nat.le_add_right _ _
    · rw [z]; exact Nat.le_refl _
    · rw [z]; exact Nat.le_add_right _ _
  exact I1.fpOk hle (I1.hok.fresh hle)
def iZip3X (K : PySem.W.Frag) (ta : TA) : TI := fun σ H R => ta σ H fun vs H1 => ∃ a1 b1 xs a2 b2 ys a3 b3 zs, vs = [.ref a1, .ref a2, .ref a3] ∧ SqX K b1 H1 a1 xs ∧ SqX K b2 H1 a2 ys ∧ SqX K b3 H1 a3 zs ∧ R (ItZ3 K b1 b2 b3 a1 a2 a3) H1
theorem pi_zip3X {X : Cx} {e e2 e3 : Expr} {ta : TA} {p pos tpos : Pos} {elts : List Expr} {kk : Nat} (hg : Gl X "zip") (hm : X.mg "zip" = none) (ha : PA X [e, e2, e3] ta)
    (hs : starEach [e, e2, e3] X.env = (false, eval e X.env) :: starEach [e2, e3] X.env) (hpl : (backTo pos (starEach [e2, e3] X.env)).any (·.1) = false) :
    PI X (.Tuple elts kk tpos) (.Call (.Name "zip" p) [e, e2, e3] [] pos) (iZip3X X.K ta) := by
  refine ⟨fun pins s σ H R I h => PyProof.Rows.Call_ (ld_blt I hg hm PyProof.Rows.boot_zip ?_)⟩
  refine PyProof.Rows.callWith_type1 (thn (ha.run pos pins s σ H _ I h) fun us s1 ⟨vs, H1, I1, r1, q1⟩ => ?_) hs hpl
  obtain ⟨a1, b1, xs, a2, b2, ys, a3, b3, zs, rfl, hq, hq2, hq3, q⟩ := q1
  obtain ⟨u1, us1, rfl, k1, r1⟩ : ∃ u us1, us = u :: us1 ∧ RelV (.ref a1) u ∧ Vals [.ref a2, .ref a3] us1 := by cases r1 with | cons a b => exact ⟨_, _, rfl, a, b⟩
  obtain ⟨u2, us2, rfl, k2, r1⟩ : ∃ u us2, us1 = u :: us2 ∧ RelV (.ref a2) u ∧ Vals [.ref a3] us2 := by cases r1 with | cons a b => exact ⟨_, _, rfl, a, b⟩
  obtain rfl := Vals.ref1 r1
  cases k1
  cases k2
  obtain ⟨its, rv, p1⟩ := seqX I1 hq
  obtain ⟨its2, rv2, p2⟩ := seqX I1 hq2
  obtain ⟨its3, rv3, p3⟩ := seqX I1 hq3
  refine zip_begins3 (begins b1 a1 its.toArray) (begins b2 a2 its2.toArray) (begins b3 a3 its3.toArray) p1 p2 p3 fun h' hz hTI hTO g1 g2 g3 hsz hk => wpAny_pyIter_zip hz ?_
  have I2 : Inv X pins σ H1 { s1 with heap := h' } := I1.kept (t' := s1.toks) hk
  have l1 := p1.lt
  have l2 := p2.lt
  have l3 := p3.lt
  have Z : ZipSep3 (s1.heap.objs.size + 5) (s1.heap.objs.size + 3) (s1.heap.objs.size + 4) s1.heap.objs.size (s1.heap.objs.size + 1) (s1.heap.objs.size + 2) [s1.heap.objs.size, a1] [s1.heap.objs.size + 1, a2] [s1.heap.objs.size + 2, a3] :=
    zip_sep3 (fun b hb => by rw [List.mem_singleton.mp hb]; exact l1) (fun b hb => by rw [List.mem_singleton.mp hb]; exact l2) (fun b hb => by rw [List.mem_singleton.mp hb]; exact l3)
  refine ⟨s1.heap.objs.size + 5, [s1.heap.objs.size + 5, s1.heap.objs.size + 3, s1.heap.objs.size + 4, s1.heap.objs.size, s1.heap.objs.size + 1, s1.heap.objs.size + 2], _, _, H1, rfl, I2,
    turn_zip3X Z (Nat.ne_of_lt l1) (Nat.ne_of_lt (Nat.lt_succ_of_lt l2)) (Nat.ne_of_lt (Nat.lt_succ_of_lt (Nat.lt_succ_of_lt l3))), ⟨hz, hTI, ⟨_, _, _, hTO⟩, ItAt.new g1, ItAt.new g2, ItAt.new g3⟩, fun c hc => ?_, q⟩
  have hle : s1.heap.objs.size ≤ c := by
    have e' : c = s1.heap.objs.size + 5 ∨ c = s1.heap.objs.size + 3 ∨ c = s1.heap.objs.size + 4 ∨ c = s1.heap.objs.size ∨ c = s1.heap.objs.size + 1 ∨ c = s1.heap.objs.size + 2 := by simpa using hc
    rcases e' with z | z | z | z | z | z
    · rw [z]; exact Nat.le_add_right _ _
    · rw [z]; exact Nat.le_add_right _ _
    · rw [z]; exact Nat.le_add_right _ _
    · rw [z]; exact Nat.le_refl _
    · rw [z]; exact Nat.le_add_right _ _
    · rw [z]; exact Nat.le_add_right _ _
  exact I1.fpOk hle (I1.hok.fresh hle)
end PyI
set_option Elab.async false
set_option linter.all false
set_option maxRecDepth 100000
set_option maxHeartbeats 1000000
namespace PyI
open PySem L2 PySem.Spec

/-! ### enumerate, zip -/
structure ItOkG (K : PySem.W.Frag) (W : Hp → Hp → Prop) (J : It) (xs : List D) : Prop where
  goes : ∀ i F1 H1, i < xs.length → W F1 H1 → J.go i H1
  stops : ∀ F1 H1, W F1 H1 → J.stop xs.length H1
  yields : ∀ i d F1 H1 x H2, xs[i]? = some d → W F1 H1 → J.yld i H1 x H2 → ∃ F2, Step none F1 H1 F2 H2 ∧ Rp K F2 x d
theorem ItOkG.ok {K : PySem.W.Frag} {c : Option Addr} {J : It} {F H : Hp} {xs : List D} (h : ItOkG K (fun F1 H1 => Step c F H F1 H1) J xs) : ItOk K c J F H xs := ⟨h.goes, h.stops, h.yields⟩
theorem ItOkG.okF {K : PySem.W.Frag} {J : It} {F : Hp} {xs : List D} (h : ItOkG K (fun F1 H1 => Ex F F1 ∧ Ex F1 H1) J xs) : ItOkF K J F xs :=
  ⟨fun i F1 H1 hi a b => h.goes i F1 H1 hi ⟨a, b⟩, fun F1 H1 a b => h.stops F1 H1 ⟨a, b⟩, fun i d F1 H1 x H2 hd a b y => h.yields i d F1 H1 x H2 hd ⟨a, b⟩ y⟩
/-- the sequence at a, as long as W stands -/
def Src (K : PySem.W.Frag) (F : Hp) (W : Hp → Hp → Prop) (b : Bool) (a : Addr) (ds : List D) : Prop := ∃ xs, RpA K F xs ds ∧ ∀ F1 H1, W F1 H1 → SqX K b H1 a xs
section
variable {K : PySem.W.Frag} {F : Hp} {W : Hp → Hp → Prop} {b b1 b2 b3 : Bool} {a a1 a2 a3 : Addr} {ds es fs : List D}
theorem newTup {F1 H1 : Hp} {T : Addr} {xs : List V} {ds : List D} (e : Ex F1 H1) (h : H1 T = none) (r : RpA K F1 xs ds) : ∃ F2, Step none F1 H1 F2 (upd H1 T (.tup xs)) ∧ Rp K F2 (.ref T) (.tuple ds) :=
  ⟨upd F1 T (.tup xs), Step.newF e h, .tup (.inl (.inl upd_same)) (r.mono (Ex.upd (e.none h)))⟩
theorem zipW_get {α β γ : Type} {f : α → β → γ} : ∀ {xs : List α} {ys : List β} {i : Nat} {d : γ}, (List.zipWith f xs ys)[i]? = some d → ∃ x y, xs[i]? = some x ∧ ys[i]? = some y ∧ d = f x y
  | [], _, _, _, h => by simp at h
  | _ :: _, [], _, _, h => by simp at h
  | x :: xs, y :: ys, 0, d, h => by
    rw [List.zipWith_cons_cons] at h
    have e := Option.some.inj (show some (f x y) = some d from h)
    exact ⟨x, y, rfl, rfl, e.symm⟩
  | x :: xs, y :: ys, i + 1, d, h => by
    rw [List.zipWith_cons_cons] at h
    exact zipW_get (xs := xs) (ys := ys) (i := i) h
theorem enum_okG (hW : ∀ F1 H1, W F1 H1 → Ex F F1 ∧ Ex F1 H1) (s : Src K F W b a ds) : ItOkG K W (ItE K b a) (pairL (rangeL 0 ds.length) ds) := by
  obtain ⟨xs, r, hs⟩ := s
  have ll : (pairL (rangeL 0 ds.length) ds).length = ds.length := by
    unfold pairL
    rw [List.length_zipWith, range_len, Nat.min_self]
  refine ⟨fun i F1 H1 hi w => ?_, fun F1 H1 w => ⟨xs, hs F1 H1 w, by rw [ll, r.length]⟩, fun i d F1 H1 x H2 hd w y => ?_⟩
  · have hi' : i < xs.length := by rw [r.length, ← ll]; exact hi
    exact ⟨xs, xs[i], hs F1 H1 w, List.getElem?_eq_getElem hi'⟩
  · obtain ⟨T, v, rfl, hT, rfl, hv⟩ := y
    obtain ⟨n, e, g1, g2, rfl⟩ := zipW_get hd
    obtain ⟨_, rfl⟩ := range_get g1
    obtain ⟨u, hu, ru⟩ := r.get g2
    have eq := (hv xs (hs F1 H1 w)).symm.trans hu
    cases eq
    refine newTup (hW F1 H1 w).2 hT (.cons ?_ (.cons (ru.mono (hW F1 H1 w).1) .nil))
    rw [Int.zero_add]
    exact .int _
theorem zip2_okG (hW : ∀ F1 H1, W F1 H1 → Ex F F1 ∧ Ex F1 H1) (s1 : Src K F W b1 a1 ds) (s2 : Src K F W b2 a2 es) : ItOkG K W (ItZ2 K b1 b2 a1 a2) (pairL ds es) := by
  obtain ⟨xs, r, hs⟩ := s1
  obtain ⟨ys, q, ht⟩ := s2
  have ll : (pairL ds es).length = min ds.length es.length := List.length_zipWith
  refine ⟨fun i F1 H1 hi w => ?_, fun F1 H1 w => ⟨xs, ys, hs F1 H1 w, ht F1 H1 w, by rw [ll, r.length, q.length]⟩, fun i d F1 H1 x H2 hd w y => ?_⟩
  · have h1 : i < xs.length := by rw [r.length]; omega
    have h2 : i < ys.length := by rw [q.length]; omega
    exact ⟨xs, ys, xs[i], ys[i], hs F1 H1 w, ht F1 H1 w, List.getElem?_eq_getElem h1, List.getElem?_eq_getElem h2⟩
  · obtain ⟨T, v, v2, rfl, hT, rfl, hv, hv2⟩ := y
    obtain ⟨n, e, g1, g2, rfl⟩ := zipW_get hd
    obtain ⟨u, hu, ru⟩ := r.get g1
    obtain ⟨u2, hu2, ru2⟩ := q.get g2
    have eq := (hv xs (hs F1 H1 w)).symm.trans hu
    have eq2 := (hv2 ys (ht F1 H1 w)).symm.trans hu2
    cases eq
    cases eq2
    exact newTup (hW F1 H1 w).2 hT (.cons (ru.mono (hW F1 H1 w).1) (.cons (ru2.mono (hW F1 H1 w).1) .nil))
theorem zip3_okG (hW : ∀ F1 H1, W F1 H1 → Ex F F1 ∧ Ex F1 H1) (s1 : Src K F W b1 a1 ds) (s2 : Src K F W b2 a2 es) (s3 : Src K F W b3 a3 fs) : ItOkG K W (ItZ3 K b1 b2 b3 a1 a2 a3) (tripL ds es fs) := by
  obtain ⟨xs, r, hs⟩ := s1
  obtain ⟨ys, q, ht⟩ := s2
  obtain ⟨zs, p, hu⟩ := s3
  have ll : (tripL ds es fs).length = min (min ds.length es.length) fs.length := by
    unfold tripL
    rw [List.length_zipWith, List.length_zip]
  refine ⟨fun i F1 H1 hi w => ?_, fun F1 H1 w => ⟨xs, ys, zs, hs F1 H1 w, ht F1 H1 w, hu F1 H1 w, by rw [ll, r.length, q.length, p.length]⟩, fun i d F1 H1 x H2 hd w y => ?_⟩
  · have h1 : i < xs.length := by rw [r.length]; omega
    have h2 : i < ys.length := by rw [q.length]; omega
    have h3 : i < zs.length := by rw [p.length]; omega
    exact ⟨xs, ys, zs, xs[i], ys[i], zs[i], hs F1 H1 w, ht F1 H1 w, hu F1 H1 w, List.getElem?_eq_getElem h1, List.getElem?_eq_getElem h2, List.getElem?_eq_getElem h3⟩
  · obtain ⟨T, v, v2, v3, rfl, hT, rfl, hv, hv2, hv3⟩ := y
    obtain ⟨n, e, g1, g2, rfl⟩ := zipW_get hd
    have g1 : (List.zipWith Prod.mk ds es)[i]? = some n := g1
    obtain ⟨x1, x2, k1, k2, rfl⟩ := zipW_get g1
    obtain ⟨u, hu1, ru⟩ := r.get k1
    obtain ⟨u2, hu2, ru2⟩ := q.get k2
    obtain ⟨u3, hu3, ru3⟩ := p.get g2
    have eq := (hv xs (hs F1 H1 w)).symm.trans hu1
    have eq2 := (hv2 ys (ht F1 H1 w)).symm.trans hu2
    have eq3 := (hv3 zs (hu F1 H1 w)).symm.trans hu3
    cases eq
    cases eq2
    cases eq3
    exact newTup (hW F1 H1 w).2 hT (.cons (ru.mono (hW F1 H1 w).1) (.cons (ru2.mono (hW F1 H1 w).1) (.cons (ru3.mono (hW F1 H1 w).1) .nil)))
theorem RdC.src {c : Option Addr} {H : Hp} {v : V} {d : D} (e : Ex F H) (h : RdC K c F H v d) (hd : seqOf d = some ds) : ∃ a b, v = .ref a ∧ Src K F (fun F1 H1 => Step c F H F1 H1) b a ds := by
  rcases seqOf_inv hd with rfl | rfl
  · obtain ⟨a, us, rfl, r, z⟩ := h.listAt e
    exact ⟨a, true, rfl, us, r, fun F1 H1 s => .inl (.inl (z F1 H1 s))⟩
  · obtain ⟨a, us, rfl, r, z⟩ := h.tupAt
    exact ⟨a, false, rfl, us, r, fun F1 H1 s => s.fh.sqT (s.ef.sqT z)⟩
theorem Rp.src {v : V} {d : D} (h : Rp K F v d) (hd : seqOf d = some ds) : ∃ a b, v = .ref a ∧ Src K F (fun F1 H1 => Ex F F1 ∧ Ex F1 H1) b a ds := by
  rcases seqOf_inv hd with rfl | rfl
  · cases h with
    | @lst a us _ z r => exact ⟨a, true, rfl, us, r, fun F1 H1 s => .inl (.inl (s.2 _ _ (s.1 _ _ z)))⟩
  · cases h with
    | @tup a us _ z r => exact ⟨a, false, rfl, us, r, fun F1 H1 s => s.2.sqT (s.1.sqT z)⟩
theorem Src.len {v : V} (s : Src K F W b a ds) {F1 H1 : Hp} (w : W F1 H1) {X : Cx} : ∃ xs, SqX K b H1 a xs ∧ xs.length = ds.length := by
  obtain ⟨xs, r, h⟩ := s
  exact ⟨xs, h F1 H1 w, r.length⟩
theorem Src.at {F1 H1 : Hp} (s : Src K F W b a ds) (w : W F1 H1) : ∃ xs, SqX K b H1 a xs := by
  obtain ⟨xs, r, h⟩ := s
  exact ⟨xs, h F1 H1 w⟩
end
/-- what a sequence of the heap holds is of a size that fits -/
def lenOk (ds : List D) : Bool := decide (ds.length ≤ LIM)
section
variable {K : PySem.W.Frag} {call : CallF} {M : Mode} {te : TE} {ta : TA} {es : List E}
theorem itEnum_inv {ds xs : List D} (h : itEnum ds = some xs) : ∃ d ys, ds = [d] ∧ seqOf d = some ys ∧ xs = pairL (rangeL 0 ys.length) ys ∧ ys.length ≤ 16777216 := by
  match ds, h with
  | [d], h =>
    rw [itEnum] at h
    cases q : seqOf d with
    | none => rw [q] at h; cases h
    | some ys =>
      rw [q] at h
      simp only [Option.bind_some] at h
      split at h
      · rename_i z
        cases h
        exact ⟨d, ys, rfl, q, rfl, z⟩
      · cases h
theorem itZip_inv {ds xs : List D} (h : itZip ds = some xs) : ∃ d e ys zs, ds = [d, e] ∧ seqOf d = some ys ∧ seqOf e = some zs ∧ xs = pairL ys zs ∧ ys.length ≤ 16777216 := by
  match ds, h with
  | [d, e], h =>
    rw [itZip] at h
    cases q : seqOf d with
    | none => rw [q] at h; cases h
    | some ys =>
      rw [q] at h
      simp only [Option.bind_some] at h
      cases q2 : seqOf e with
      | none => rw [q2] at h; cases h
      | some zs =>
        rw [q2] at h
        simp only [Option.bind_some] at h
        split at h
        · rename_i z
          cases h
          exact ⟨d, e, ys, zs, rfl, q, q2, rfl, z⟩
        · cases h
theorem itZip3_inv {ds xs : List D} (h : itZip3 ds = some xs) : ∃ d e f ys zs us, ds = [d, e, f] ∧ seqOf d = some ys ∧ seqOf e = some zs ∧ seqOf f = some us ∧ xs = tripL ys zs us ∧ ys.length ≤ 16777216 := by
  match ds, h with
  | [d, e, f], h =>
    rw [itZip3] at h
    cases q : seqOf d with
    | none => rw [q] at h; cases h
    | some ys =>
      rw [q] at h
      simp only [Option.bind_some] at h
      cases q2 : seqOf e with
      | none => rw [q2] at h; cases h
      | some zs =>
        rw [q2] at h
        simp only [Option.bind_some] at h
        cases q3 : seqOf f with
        | none => rw [q3] at h; cases h
        | some us =>
          rw [q3] at h
          simp only [Option.bind_some] at h
          split at h
          · rename_i z
            cases h
            exact ⟨d, e, f, ys, zs, us, rfl, q, q2, q3, rfl, z⟩
          · cases h
theorem RpA.one {F : Hp} {vs : List V} {d : D} (h : RpA K F vs [d]) : ∃ v, vs = [v] ∧ Rp K F v d := by
  cases h with
  | cons h r => cases r; exact ⟨_, rfl, h⟩
theorem RpA.two {F : Hp} {vs : List V} {d e : D} (h : RpA K F vs [d, e]) : ∃ v u, vs = [v, u] ∧ Rp K F v d ∧ Rp K F u e := by
  cases h with
  | cons h r =>
    obtain ⟨u, rfl, h2⟩ := r.one
    exact ⟨_, _, rfl, h, h2⟩
theorem RpA.three {F : Hp} {vs : List V} {d e f : D} (h : RpA K F vs [d, e, f]) : ∃ v u w, vs = [v, u, w] ∧ Rp K F v d ∧ Rp K F u e ∧ Rp K F w f := by
  cases h with
  | cons h r =>
    obtain ⟨u, w, rfl, h2, h3⟩ := r.two
    exact ⟨_, _, _, rfl, h, h2, h3⟩
theorem pairL_len {xs ys : List D} : (pairL xs ys).length = min xs.length ys.length := List.length_zipWith
theorem tripL_len {xs ys zs : List D} : (tripL xs ys zs).length = min (min xs.length ys.length) zs.length := by
  unfold tripL
  rw [List.length_zipWith, List.length_zip]
theorem si_enum (h : SA K call M ta es) : SI K call M (iEnumX K ta) .enum es := fun F0 H0 c F H σ env w ds xs w' S hv hi R q => by
  refine h F0 H0 c F H σ env w ds w' S hv _ fun vs F1 H1 S1 s1 k1 => ?_
  obtain ⟨d, ys, rfl, hd, rfl, hl⟩ := itEnum_inv hi
  obtain ⟨v, rfl, k⟩ := k1.one
  obtain ⟨a, b, rfl, s⟩ := k.src S1.fh hd
  obtain ⟨us, hu⟩ := s.at (Step.refl S1.fh)
  exact ⟨a, b, us, rfl, hu, q _ F1 H1 S1 s1 (enum_okG (fun F1 H1 s => ⟨s.ef, s.fh⟩) s).ok (by rw [pairL_len, range_len, szl]; omega)⟩
theorem sif_enum (h : SAV K call M ta es) : SIF K call M (iEnumX K ta) .enum es := fun F0 H0 c F H σ env w ds xs w' S hv hi R q => by
  refine h F0 H0 c F H σ env w ds w' S hv _ fun vs F1 H1 S1 s1 k1 => ?_
  obtain ⟨d, ys, rfl, hd, rfl, hl⟩ := itEnum_inv hi
  obtain ⟨v, rfl, k⟩ := k1.one
  obtain ⟨a, b, rfl, s⟩ := k.src hd
  obtain ⟨us, hu⟩ := s.at (F1 := F1) (H1 := H1) ⟨Ex.refl _, S1.fh⟩
  exact ⟨a, b, us, rfl, hu, q _ F1 H1 S1 s1 (enum_okG (fun F1 H1 s => s) s).okF (by rw [pairL_len, range_len, szl]; omega)⟩
theorem si_zip (h : SA K call M ta es) : SI K call M (iZip2X K ta) .zip es := fun F0 H0 c F H σ env w ds xs w' S hv hi R q => by
  refine h F0 H0 c F H σ env w ds w' S hv _ fun vs F1 H1 S1 s1 k1 => ?_
  obtain ⟨d, e, ys, zs, rfl, hd, he, rfl, hl⟩ := itZip_inv hi
  obtain ⟨v, v2, rfl, k, k2⟩ := k1.two
  obtain ⟨a, b, rfl, s⟩ := k.src S1.fh hd
  obtain ⟨a2, b2, rfl, t⟩ := k2.src S1.fh he
  obtain ⟨us, hu⟩ := s.at (Step.refl S1.fh)
  obtain ⟨us2, hu2⟩ := t.at (Step.refl S1.fh)
  exact ⟨a, b, us, a2, b2, us2, rfl, hu, hu2, q _ F1 H1 S1 s1 (zip2_okG (fun F1 H1 s => ⟨s.ef, s.fh⟩) s t).ok (by rw [pairL_len, szl]; omega)⟩
theorem sif_zip (h : SAV K call M ta es) : SIF K call M (iZip2X K ta) .zip es := fun F0 H0 c F H σ env w ds xs w' S hv hi R q => by
  refine h F0 H0 c F H σ env w ds w' S hv _ fun vs F1 H1 S1 s1 k1 => ?_
  obtain ⟨d, e, ys, zs, rfl, hd, he, rfl, hl⟩ := itZip_inv hi
  obtain ⟨v, v2, rfl, k, k2⟩ := k1.two
  obtain ⟨a, b, rfl, s⟩ := k.src hd
  obtain ⟨a2, b2, rfl, t⟩ := k2.src he
  obtain ⟨us, hu⟩ := s.at (F1 := F1) (H1 := H1) ⟨Ex.refl _, S1.fh⟩
  obtain ⟨us2, hu2⟩ := t.at (F1 := F1) (H1 := H1) ⟨Ex.refl _, S1.fh⟩
  exact ⟨a, b, us, a2, b2, us2, rfl, hu, hu2, q _ F1 H1 S1 s1 (zip2_okG (fun F1 H1 s => s) s t).okF (by rw [pairL_len, szl]; omega)⟩
theorem si_zip3 (h : SA K call M ta es) : SI K call M (iZip3X K ta) .zip3 es := fun F0 H0 c F H σ env w ds xs w' S hv hi R q => by
  refine h F0 H0 c F H σ env w ds w' S hv _ fun vs F1 H1 S1 s1 k1 => ?_
  obtain ⟨d, e, f, ys, zs, xs3, rfl, hd, he, hf, rfl, hl⟩ := itZip3_inv hi
  obtain ⟨v, v2, v3, rfl, k, k2, k3⟩ := k1.three
  obtain ⟨a, b, rfl, s⟩ := k.src S1.fh hd
  obtain ⟨a2, b2, rfl, t⟩ := k2.src S1.fh he
  obtain ⟨a3, b3, rfl, u⟩ := k3.src S1.fh hf
  obtain ⟨us, hu⟩ := s.at (Step.refl S1.fh)
  obtain ⟨us2, hu2⟩ := t.at (Step.refl S1.fh)
  obtain ⟨us3, hu3⟩ := u.at (Step.refl S1.fh)
  exact ⟨a, b, us, a2, b2, us2, a3, b3, us3, rfl, hu, hu2, hu3, q _ F1 H1 S1 s1 (zip3_okG (fun F1 H1 s => ⟨s.ef, s.fh⟩) s t u).ok (by rw [tripL_len, szl]; omega)⟩
theorem sif_zip3 (h : SAV K call M ta es) : SIF K call M (iZip3X K ta) .zip3 es := fun F0 H0 c F H σ env w ds xs w' S hv hi R q => by
  refine h F0 H0 c F H σ env w ds w' S hv _ fun vs F1 H1 S1 s1 k1 => ?_
  obtain ⟨d, e, f, ys, zs, xs3, rfl, hd, he, hf, rfl, hl⟩ := itZip3_inv hi
  obtain ⟨v, v2, v3, rfl, k, k2, k3⟩ := k1.three
  obtain ⟨a, b, rfl, s⟩ := k.src hd
  obtain ⟨a2, b2, rfl, t⟩ := k2.src he
  obtain ⟨a3, b3, rfl, u⟩ := k3.src hf
  obtain ⟨us, hu⟩ := s.at (F1 := F1) (H1 := H1) ⟨Ex.refl _, S1.fh⟩
  obtain ⟨us2, hu2⟩ := t.at (F1 := F1) (H1 := H1) ⟨Ex.refl _, S1.fh⟩
  obtain ⟨us3, hu3⟩ := u.at (F1 := F1) (H1 := H1) ⟨Ex.refl _, S1.fh⟩
  exact ⟨a, b, us, a2, b2, us2, a3, b3, us3, rfl, hu, hu2, hu3, q _ F1 H1 S1 s1 (zip3_okG (fun F1 H1 s => s) s t u).okF (by rw [tripL_len, szl]; omega)⟩
end
end PyI
set_option Elab.async false
set_option linter.all false
set_option maxRecDepth 100000
set_option maxHeartbeats 1000000
namespace PyI
open PySem L2 PySem.Spec

section
variable {K : PySem.W.Frag} {call : CallF} {M : Mode} {te ta tb : TE} {e : E} {es : List E}
/-! ### displays -/
theorem se_tup {t : TA} (h : SAV K call M t es) (hl : es.length ≤ 1000) : SE K call M (tTup t) (.prim .tup es) := fun F0 H0 c F H σ env w d w' S hv Q q => by
  rw [ev] at hv
  cases h1 : evs call es env w with
  | none => rw [h1] at hv; cases hv
  | some r =>
    rw [h1] at hv
    cases hv
    refine h F0 H0 c F H σ env w r.1 r.2 S h1 _ fun vs F1 H1 S1 s1 k1 => ⟨?_, fun p hp => ?_⟩
    · rw [k1.length, evs_length h1, szl]
      omega
    · have st : Step none F1 H1 (upd F1 p (.tup vs)) (upd H1 p (.tup vs)) := Step.newF S1.fh hp
      exact q _ _ _ (S1.calm st) (s1.trans st.weak) (.tup (.inl (.inl upd_same)) (k1.mono st.ef))
theorem se_lst {t : TA} (h : SAV K call M t es) (hl : es.length ≤ 1000) : SE K call M (tLst t) (.prim .lst es) := fun F0 H0 c F H σ env w d w' S hv Q q => by
  rw [ev] at hv
  cases h1 : evs call es env w with
  | none => rw [h1] at hv; cases hv
  | some r =>
    rw [h1] at hv
    cases hv
    refine h F0 H0 c F H σ env w r.1 r.2 S h1 _ fun vs F1 H1 S1 s1 k1 => ⟨?_, fun p hp => ?_⟩
    · rw [k1.length, evs_length h1, szl]
      omega
    · have st : Step none F1 H1 F1 (upd H1 p (.lst vs)) := Step.new S1.fh hp
      exact q _ _ _ (S1.calm st) (s1.trans st.weak) ⟨p, _, rfl, s1.fresh hp, S1.fh.none hp, upd_same, .lst k1⟩
/-! ### a, b = x, y -/
/-- the values of es, one by one, to the slots is of a second state over the same heap -/
def SP (K : PySem.W.Frag) (call : CallF) (M : Mode) (ta : TA) (is : List Nat) (es : List E) : Prop := ∀ F0 H0 c F H σ env w ds w' τ eng eng', Stt K M F0 H0 c F H σ env w → Stt K M F0 H0 c F H τ eng w → evs call es env w = some (ds, w') → setsE eng is ds = some eng' →
  ∀ Q : List V → Hp → Prop, (∀ vs F' H', vs.length = is.length → Stt K M F0 H0 c F' H' σ env w' → Step c F H F' H' → Stt K M F0 H0 c F' H' ((is.zip vs).foldl (fun t p => t.set p.1 (some p.2)) τ) eng' w' → Q vs H') → ta σ H Q
theorem sp_nil : SP K call M tNil [] [] := fun F0 H0 c F H σ env w ds w' τ eng eng' S T hv hs Q q => by
  cases hv
  cases hs
  exact q [] F H rfl S (Step.refl S.fh) T
theorem evs_cons {env : Ev} {w : D} {r : List D × D} (h : evs call (e :: es) env w = some r) : ∃ d w1 ds, ev call e env w = some (d, w1) ∧ evs call es env w1 = some (ds, r.2) ∧ r.1 = d :: ds := by
  rw [evs] at h
  cases h1 : ev call e env w with
  | none => rw [h1] at h; cases h
  | some r1 =>
    rw [h1] at h
    simp only [Option.bind_some] at h
    cases h2 : evs call es env r1.2 with
    | none => rw [h2] at h; cases h
    | some r2 =>
      rw [h2] at h
      cases h
      exact ⟨r1.1, r1.2, r2.1, rfl, h2, rfl⟩
theorem setsE_cons {env env' : Ev} {i : Nat} {is : List Nat} {d : D} {ds : List D} (h : setsE env (i :: is) (d :: ds) = some env') : setsE (env.set i (some d)) is ds = some env' := by
  rw [setsE] at h
  cases h1 : setE env i d with
  | none => rw [h1] at h; cases h
  | some e1 =>
    rw [h1] at h
    rw [← setE_inv h1]
    exact h
theorem sp_plain {i : Nat} {is : List Nat} {t : TA} (h : SV K call M te e) (hi : M.own i = false) (hc : M.cs ≠ some i) (hs : SP K call M t is es) : SP K call M (tCons te t) (i :: is) (e :: es) := fun F0 H0 c F H σ env w ds w' τ eng eng' S T hv hse Q q => by
  obtain ⟨d, w1, dr, h1, h2, rfl⟩ := evs_cons hv
  refine h F0 H0 c F H σ env w d w1 S h1 _ fun v F1 H1 S1 s1 k1 => ?_
  have T1 : Stt K M F0 H0 c F1 H1 τ eng w1 := T.step s1 S1.cupOf
  refine hs F0 H0 c F1 H1 σ env w1 dr w' (τ.set i (some v)) (eng.set i (some d)) eng' S1 (T1.set hi hc k1) h2 (setsE_cons hse) _ fun vs F2 H2 hl S2 s2 T2 => ?_
  exact q (v :: vs) F2 H2 (by rw [List.length_cons, List.length_cons, hl]) S2 (s1.trans s2) T2
theorem sp_own {i : Nat} {is : List Nat} {t : TA} (h : SE K call M te e) (hk : cls M e = .fresh) (hi : M.own i = true) (hc : M.cs ≠ some i) (hpn : M.pin i = none) (hs : SP K call M t is es) : SP K call M (tCons te t) (i :: is) (e :: es) := fun F0 H0 c F H σ env w ds w' τ eng eng' S T hv hse Q q => by
  obtain ⟨d, w1, dr, h1, h2, rfl⟩ := evs_cons hv
  refine h F0 H0 c F H σ env w d w1 S h1 _ fun v F1 H1 S1 s1 k1 => ?_
  rw [hk] at k1
  have T1 : Stt K M F0 H0 c F1 H1 τ eng w1 := T.step s1 S1.cupOf
  refine hs F0 H0 c F1 H1 σ env w1 dr w' (τ.set i (some v)) (eng.set i (some d)) eng' S1 (T.newOwn T1 k1 hi hc hpn) h2 (setsE_cons hse) _ fun vs F2 H2 hl S2 s2 T2 => ?_
  exact q (v :: vs) F2 H2 (by rw [List.length_cons, List.length_cons, hl]) S2 (s1.trans s2) T2
theorem ex_par {is : List Nat} {es : List E} {env : Ev} {w : D} {r : Fl × Ev × D} (h : ex call (.par is es) env w = some r) : ∃ ds w' env', evs call es env w = some (ds, w') ∧ setsE env is ds = some env' ∧ r = (.nx, env', w') := by
  rw [ex] at h
  cases h1 : evs call es env w with
  | none => rw [h1] at h; cases h
  | some r1 =>
    rw [h1] at h
    simp only [Option.bind_some] at h
    cases h2 : setsE env is r1.1 with
    | none => rw [h2] at h; cases h
    | some e1 =>
      rw [h2] at h
      cases h
      exact ⟨_, _, _, rfl, h2, rfl⟩
theorem ss_par2 {i j : Nat} {t : TA} (h : SP K call M t [i, j] es) : SS K call M (tPar i j t) (.par [i, j] es) := fun F0 H0 c F H σ env w r D S hv q => by
  obtain ⟨ds, w', env', h1, h2, rfl⟩ := ex_par hv
  refine h F0 H0 c F H σ env w ds w' σ env env' S S h1 h2 _ fun vs F1 H1 hl S1 s1 T1 => ?_
  match vs, hl, T1 with
  | [v, u], _, T1 => exact ⟨v, u, rfl, q _ F1 H1 T1 s1.ef⟩
theorem ss_par3 {i j l : Nat} {t : TA} (h : SP K call M t [i, j, l] es) : SS K call M (tPar3 i j l t) (.par [i, j, l] es) := fun F0 H0 c F H σ env w r D S hv q => by
  obtain ⟨ds, w', env', h1, h2, rfl⟩ := ex_par hv
  refine h F0 H0 c F H σ env w ds w' σ env env' S S h1 h2 _ fun vs F1 H1 hl S1 s1 T1 => ?_
  match vs, hl, T1 with
  | [v, u, x], _, T1 => exact ⟨v, u, x, rfl, q _ F1 H1 T1 s1.ef⟩
/-- the names of a target, one by one -/
def gsN : List Nat → TGs
  | [] => gNil
  | i :: is => gCons (gName i) (gsN is)
theorem gsN_run : ∀ {is : List Nat} {vs : List V} {σ : St} {H : Hp} {Q : St → Hp → Prop}, vs.length = is.length → Q ((is.zip vs).foldl (fun t p => t.set p.1 (some p.2)) σ) H → gsN is vs σ H Q
  | [], [], σ, H, Q, _, q => ⟨rfl, q⟩
  | [], _ :: _, _, _, _, h, _ => by simp at h
  | _ :: _, [], _, _, _, h, _ => by simp at h
  | i :: is, v :: vs, σ, H, Q, h, q => ⟨v, vs, rfl, gsN_run (is := is) (vs := vs) (by simpa using h) q⟩
/-- names = values by a tuple that is taken apart -/
theorem ss_parT {is : List Nat} {t : TA} (h : SP K call M t is es) (hz : is.length ≤ 1000) : SS K call M (tAsg (tTup t) (gTup K is.length (gsN is))) (.par is es) := fun F0 H0 c F H σ env w r D S hv q => by
  obtain ⟨ds, w', env', h1, h2, rfl⟩ := ex_par hv
  refine h F0 H0 c F H σ env w ds w' σ env env' S S h1 h2 _ fun vs F1 H1 hl S1 s1 T1 => ⟨by rw [hl, szl]; omega, fun p hp => ?_⟩
  refine ⟨p, vs, rfl, .inl (.inl upd_same), hl, gsN_run hl ?_⟩
  exact q _ F1 _ (T1.calm (Step.new S1.fh hp)) s1.ef
/-! ### pop -/
theorem popD_inv {x : D} {k : D} {r : D × D} (h : popD x k = some r) : ∃ xs i j y, x = .list xs ∧ k = .int i ∧ L2.ixN xs.length i = some j ∧ xs[j]? = some y ∧ r = (y, .list (xs.eraseIdx j)) ∧ xs.length ≤ 16777216 := by
  match x, k, h with
  | .list xs, .int i, h =>
    rw [popD] at h
    split at h
    · rename_i z
      cases h1 : L2.ixN xs.length i with
      | none => rw [h1] at h; cases h
      | some j =>
        rw [h1] at h
        simp only [Option.bind_some] at h
        cases h2 : xs[j]? with
        | none => rw [h2] at h; cases h
        | some y =>
          rw [h2] at h
          cases h
          exact ⟨xs, i, j, y, rfl, rfl, h1, h2, rfl, z⟩
    · cases h
/-- what is taken out of a list of the body's own -/
theorem tk_popAt {F0 H0 F H : Hp} {c : Option Addr} {σ : St} {env : Ev} {w w' k x : D} {r : D × D} {j : Nat} (S : Stt K M F0 H0 c F H σ env w) (h : SE K call M te e) (hj : M.own j = true) (h1 : ev call e env w = some (k, w')) (h2 : getE env j = some x) (h3 : popD x k = some r)
    {Q : VK} (q : ∀ v F' H', Stt K M F0 H0 c F' H' σ (env.set j (some r.2)) w' → Ex F F' → Rp K F' v r.1 → Q v H') : tBM K "list" rPopAt (tVar j) (tCons te tNil) σ H Q := by
  obtain ⟨xs, i, n, y, rfl, rfl, hn, hy, rfl, hl⟩ := popD_inv h3
  have he := getE_inv h2
  obtain ⟨p, o, e1, e2, e3, e4, e5, e6⟩ := S.owns j _ he hj
  obtain ⟨us, rfl, r0⟩ := e6.list
  refine ⟨.ref p, e1, .inl ⟨rfl, us, .inl (.inl e5)⟩, ?_⟩
  refine h F0 H0 c F H σ env w _ w' S h1 _ fun v F1 H1 S1 s1 k1 => ?_
  have ev := (k1.rdC S.cex).rd1.int
  subst ev
  have p1 : H1 p = some (.lst us) := s1.eh p _ e4 e5
  obtain ⟨u, hu, ru⟩ := r0.get hy
  have ll := r0.length
  have hn' : L2.ixN us.length i = some n := by rw [ll]; exact hn
  obtain ⟨z1, z2, z3, z4⟩ := ixN_seq hn'
  exact ⟨p, us, i, n, u, rfl, rfl, p1, by omega, by omega, z1, hu, q u F1 _ (S1.put hj he e1 p1 (.lst ((r0.mono s1.ef).erase n))) s1.ef (ru.mono s1.ef)⟩
theorem popE_inv {x : D} {r : D × D} (h : popE x = some r) : ∃ xs y, x = .list xs ∧ xs[xs.length - 1]? = some y ∧ r = (y, .list xs.dropLast) := by
  match x, h with
  | .list xs, h =>
    rw [popE] at h
    cases h2 : xs[xs.length - 1]? with
    | none => rw [h2] at h; cases h
    | some y =>
      rw [h2] at h
      cases h
      exact ⟨xs, y, rfl, h2, rfl⟩
theorem tk_pop {F0 H0 F H : Hp} {c : Option Addr} {σ : St} {env : Ev} {w x : D} {r : D × D} {j : Nat} (S : Stt K M F0 H0 c F H σ env w) (hj : M.own j = true) (h2 : getE env j = some x) (h3 : popE x = some r)
    {Q : VK} (q : ∀ v F' H', Stt K M F0 H0 c F' H' σ (env.set j (some r.2)) w → Ex F F' → Rp K F' v r.1 → Q v H') : tBM0 K "list" rPop (tVar j) σ H Q := by
  obtain ⟨xs, y, rfl, hy, rfl⟩ := popE_inv h3
  have he := getE_inv h2
  obtain ⟨p, o, e1, e2, e3, e4, e5, e6⟩ := S.owns j _ he hj
  obtain ⟨us, rfl, r0⟩ := e6.list
  obtain ⟨u, hu, ru⟩ := r0.get hy
  refine ⟨.ref p, e1, .inl ⟨rfl, us, .inl (.inl e5)⟩, p, us, u, rfl, rfl, e5, by rw [r0.length]; exact hu, ?_⟩
  exact q u F _ (S.put hj he e1 e5 (.lst r0.dropLast)) (Ex.refl _) ru
theorem ss_popL {g : TG} {t : T} {vs : List Nat} {j : Nat} (h : SE K call M te e) (hj : M.own j = true) (hg : SG K M g t vs) : SS K call M (tAsg (tBM K "list" rPopAt (tVar j) (tCons te tNil)) g) (.popL t j e) := fun F0 H0 c F H σ env w r D S hv q => by
  rw [ex] at hv
  cases h1 : ev call e env w with
  | none => rw [h1] at hv; cases hv
  | some r1 =>
    rw [h1] at hv
    simp only [Option.bind_some] at hv
    cases h2 : getE env j with
    | none => rw [h2] at hv; cases hv
    | some x =>
      rw [h2] at hv
      simp only [Option.bind_some] at hv
      cases h3 : popD x r1.1 with
      | none => rw [h3] at hv; cases hv
      | some pr =>
        rw [h3] at hv
        simp only [Option.bind_some] at hv
        cases h4 : setE env j pr.2 with
        | none => rw [h4] at hv; cases hv
        | some env1 =>
          rw [h4] at hv
          simp only [Option.bind_some] at hv
          cases h5 : bindT t pr.1 env1 with
          | none => rw [h5] at hv; cases hv
          | some env' =>
            rw [h5] at hv
            cases hv
            refine tk_popAt S h hj h1 h2 h3 fun v F' H' S' e' k' => ?_
            rw [← setE_inv h4] at S'
            exact hg F0 H0 c F' H' σ env1 r1.2 v pr.1 env' S' k' h5 _ fun σ' S2 _ => q σ' F' H' S2 e'
theorem ss_popE {g : TG} {t : T} {vs : List Nat} {j : Nat} (hj : M.own j = true) (hg : SG K M g t vs) : SS K call M (tAsg (tBM0 K "list" rPop (tVar j)) g) (.popE t j) := fun F0 H0 c F H σ env w r D S hv q => by
  rw [ex] at hv
  cases h2 : getE env j with
  | none => rw [h2] at hv; cases hv
  | some x =>
    rw [h2] at hv
    simp only [Option.bind_some] at hv
    cases h3 : popE x with
    | none => rw [h3] at hv; cases hv
    | some pr =>
      rw [h3] at hv
      simp only [Option.bind_some] at hv
      cases h4 : setE env j pr.2 with
      | none => rw [h4] at hv; cases hv
      | some env1 =>
        rw [h4] at hv
        simp only [Option.bind_some] at hv
        cases h5 : bindT t pr.1 env1 with
        | none => rw [h5] at hv; cases hv
        | some env' =>
          rw [h5] at hv
          cases hv
          refine tk_pop S hj h2 h3 fun v F' H' S' e' k' => ?_
          rw [← setE_inv h4] at S'
          exact hg F0 H0 c F' H' σ env1 w v pr.1 env' S' k' h5 _ fun σ' S2 _ => q σ' F' H' S2 e'
/-- found.append(left.pop(e)) -/
theorem ss_appPop {i j : Nat} (h : SE K call M te e) (hi : M.own i = true) (hj : M.own j = true) (hij : i ≠ j) : SS K call M (tDrop (tBM K "list" rAppend (tVar i) (tCons (tBM K "list" rPopAt (tVar j) (tCons te tNil)) tNil))) (.appPop i j e) := fun F0 H0 c F H σ env w r D S hv q => by
  rw [ex] at hv
  cases h1 : ev call e env w with
  | none => rw [h1] at hv; cases hv
  | some r1 =>
    rw [h1] at hv
    simp only [Option.bind_some] at hv
    cases h2 : getE env j with
    | none => rw [h2] at hv; cases hv
    | some x =>
      rw [h2] at hv
      simp only [Option.bind_some] at hv
      cases h3 : popD x r1.1 with
      | none => rw [h3] at hv; cases hv
      | some pr =>
        rw [h3] at hv
        simp only [Option.bind_some] at hv
        cases h4 : setE env j pr.2 with
        | none => rw [h4] at hv; cases hv
        | some env1 =>
          rw [h4] at hv
          simp only [Option.bind_some] at hv
          cases h5 : getE env1 i with
          | none => rw [h5] at hv; cases hv
          | some z =>
            rw [h5] at hv
            simp only [Option.bind_some] at hv
            cases h6 : appD z pr.1 with
            | none => rw [h6] at hv; cases hv
            | some y =>
              rw [h6] at hv
              simp only [Option.bind_some] at hv
              cases h7 : setE env1 i y with
              | none => rw [h7] at hv; cases hv
              | some env' =>
                rw [h7] at hv
                cases hv
                obtain ⟨zs, rfl, hl, rfl⟩ := appD_inv h6
                have e1 := setE_inv h4
                subst e1
                have hz := getE_inv h5
                have hz0 : env[i]? = some (some (.list zs)) := by
                  rw [List.getElem?_set_ne (Ne.symm hij)] at hz
                  exact hz
                obtain ⟨p, o, k1, k2, k3, k4, k5, k6⟩ := S.owns i _ hz0 hi
                obtain ⟨us, rfl, r0⟩ := k6.list
                refine ⟨.ref p, k1, .inl ⟨rfl, us, .inl (.inl k5)⟩, ?_⟩
                refine tk_popAt S h hj h1 h2 h3 fun v F' H' S' e' k' => ?_
                obtain ⟨p', o', g1, g2, g3, g4, g5, g6⟩ := S'.owns i _ hz hi
                rw [k1] at g1
                cases g1
                obtain ⟨us', rfl, r1'⟩ := g6.list
                refine ⟨p, us', v, rfl, rfl, g5, by rw [r1'.length]; exact hl, ?_⟩
                have ee := setE_inv h7
                subst ee
                exact q σ F' _ (S'.put hi hz k1 g5 (.lst (r1'.append (.cons k' .nil)))) e'
/-! ### xs[::-1], list(range(..)) -/
theorem se_revL (h : SE K call M te e) : SE K call M (tRev2 K te) (.prim .rev [e]) := fun F0 H0 c F H σ env w d w' S hv Q q => by
  rw [ev] at hv
  cases h1 : evs call [e] env w with
  | none => rw [h1] at hv; cases hv
  | some r =>
    obtain ⟨d1, w1, ds, g1, g2, g3⟩ := evs_cons h1
    obtain ⟨rd, rw'⟩ := r
    cases g2
    cases g3
    rw [h1] at hv
    simp only [Option.bind_some] at hv
    cases h2 : prim .rev [d1] with
    | none => rw [h2] at hv; cases hv
    | some d2 =>
      rw [h2] at hv
      cases hv
      have h2 : revD d1 = some d := h2
      refine h F0 H0 c F H σ env w d1 w' S g1 _ fun v F1 H1 S1 s1 k1 => ?_
      cases d1 with
      | list ds =>
        cases h2
        obtain ⟨l, xs, rfl, hl, r1⟩ := (k1.rdC S.cex).rd1.list S1.fh
        refine ⟨l, xs, rfl, .inl ⟨.inl (.inl hl), fun p hp => ?_⟩⟩
        have st : Step none F1 H1 F1 (upd H1 p (.lst xs.reverse)) := Step.new S1.fh hp
        have st2 : Step none F1 H1 (upd F1 p (.lst xs.reverse)) (upd H1 p (.lst xs.reverse)) := Step.newF S1.fh hp
        exact q _ _ _ (S1.calm st2) (s1.trans st2.weak) (.lst upd_same (r1.reverse.mono st2.ef))
      | tuple ds =>
        cases h2
        obtain ⟨l, xs, rfl, hl, r1, _⟩ := (k1.rdC S.cex).rd1.tuple S1.fh
        refine ⟨l, xs, rfl, .inr ⟨S1.fh.sqT hl, fun p hp => ?_⟩⟩
        have st2 : Step none F1 H1 (upd F1 p (.tup xs.reverse)) (upd H1 p (.tup xs.reverse)) := Step.newF S1.fh hp
        exact q _ _ _ (S1.calm st2) (s1.trans st2.weak) (.tup (.inl (.inl upd_same)) (r1.reverse.mono st2.ef))
      | _ => cases h2
/-! list(range(..)), tuple(range(..)) -/
theorem rgV_rp {F : Hp} {a b : Int} : RpA K F (rgV a b) (rangeL a (b - a).toNat) := by
  unfold rgV rangeL
  have key : ∀ l : List Nat, RpA K F (l.map fun (i : Nat) => V.int (a + (i : Nat))) (l.map fun (i : Nat) => PyData.int (a + (i : Nat))) := by
    intro l
    induction l with
    | nil => exact .nil
    | cons x l ih => exact .cons (.int _) ih
  exact key _
theorem ev_prims {p : Prim} {env : Ev} {w : D} {r : D × D} (h : ev call (.prim p es) env w = some r) : ∃ ds, evs call es env w = some (ds, r.2) ∧ prim p ds = some r.1 := by
  rw [ev] at h
  cases h1 : evs call es env w with
  | none => rw [h1] at h; cases h
  | some q =>
    rw [h1] at h
    simp only [Option.bind_some] at h
    cases h2 : prim p q.1 with
    | none => rw [h2] at h; cases h
    | some d =>
      rw [h2] at h
      cases h
      exact ⟨q.1, rfl, h2⟩
theorem rgOk1 {n : Int} (h1 : -16777216 ≤ n) (h2 : n ≤ 16777216) : RgOk 0 n := ⟨by omega, by omega, by omega, by omega, by omega⟩
theorem rgOk2 {i j : Int} (h1 : -16777216 ≤ i) (h2 : i ≤ 16777216) (h3 : -16777216 ≤ j) (h4 : j ≤ 16777216) (h5 : j - i ≤ 16777216) : RgOk i j := ⟨by omega, by omega, by omega, by omega, by omega⟩
section
variable {F0 H0 F H F1 H1 : Hp} {c : Option Addr} {σ : L2.St} {env : Ev} {w w' : D} {i j : Int} {Q : VK}
theorem lrg_fin (S : Stt K M F0 H0 c F H σ env w) (S1 : Stt K M F0 H0 c F1 H1 σ env w') (s1 : Step c F H F1 H1) (ok : RgOk i j) (q : ∀ v F' H', Stt K M F0 H0 c F' H' σ env w' → Step c F H F' H' → FreshR K H F' H' v (.list (rangeL i (j - i).toNat)) → Q v H') :
    RgOk i j ∧ ∀ a, H1 a = none → Q (.ref a) (upd H1 a (.lst (rgV i j))) := ⟨ok, fun a ha => by
  have st : Step none F1 H1 F1 (upd H1 a (.lst (rgV i j))) := Step.new S1.fh ha
  exact q _ _ _ (S1.calm st) (s1.trans st.weak) ⟨a, _, rfl, s1.fresh ha, S1.fh.none ha, upd_same, .lst rgV_rp⟩⟩
theorem trg_fin (S1 : Stt K M F0 H0 c F1 H1 σ env w') (s1 : Step c F H F1 H1) (ok : RgOk i j) (q : ∀ v F' H', Stt K M F0 H0 c F' H' σ env w' → Step c F H F' H' → Rp K F' v (.tuple (rangeL i (j - i).toNat)) → Q v H') :
    RgOk i j ∧ ∀ a, H1 a = none → Q (.ref a) (upd H1 a (.tup (rgV i j))) := ⟨ok, fun a ha => by
  have st : Step none F1 H1 (upd F1 a (.tup (rgV i j))) (upd H1 a (.tup (rgV i j))) := Step.newF S1.fh ha
  exact q _ _ _ (S1.calm st) (s1.trans st.weak) (.tup (.inl (.inl upd_same)) rgV_rp)⟩
end
/-- the one argument of a range -/
theorem tk_rg1 {F0 H0 F H : Hp} {c : Option Addr} {σ : L2.St} {env : Ev} {w w' : D} {xs ds : List D} {P : Int → Int → Hp → Prop} (S : Stt K M F0 H0 c F H σ env w) (h : SE K call M te e) (g1 : evs call [e] env w = some (ds, w')) (g2 : itRng1 ds = some xs)
    (q : ∀ n F1 H1, Stt K M F0 H0 c F1 H1 σ env w' → Step c F H F1 H1 → RgOk 0 n → xs = rangeL 0 (n - 0).toNat → P 0 n H1) : tRg1 te σ H P := by
  obtain ⟨d1, w1, dr, e1, e2, e3⟩ := evs_cons g1
  cases e2
  have e3 : ds = [d1] := e3
  subst e3
  obtain ⟨n, en, h1, h2, ex⟩ := itRng1_inv g2
  cases en
  refine h F0 H0 c F H σ env w (.int n) w' S e1 _ fun v F1 H1 S1 s1 k1 => ?_
  have k := (k1.rdC S.cex).rd1.int
  exact ⟨n, k, q n F1 H1 S1 s1 (rgOk1 h1 h2) (by rw [Int.sub_zero]; exact ex)⟩
theorem tk_rg2 {tf : TE} {e2 : E} {F0 H0 F H : Hp} {c : Option Addr} {σ : L2.St} {env : Ev} {w w' : D} {xs ds : List D} {P : Int → Int → Hp → Prop} (S : Stt K M F0 H0 c F H σ env w) (h : SE K call M te e) (hf : SE K call M tf e2) (g1 : evs call [e, e2] env w = some (ds, w')) (g2 : itRng2 ds = some xs)
    (q : ∀ i j F1 H1, Stt K M F0 H0 c F1 H1 σ env w' → Step c F H F1 H1 → RgOk i j → xs = rangeL i (j - i).toNat → P i j H1) : tRg2 te tf σ H P := by
  obtain ⟨d1, w1, dr, a1, a2, a3⟩ := evs_cons g1
  obtain ⟨d2, w2, dr2, b1, b2, b3⟩ := evs_cons a2
  cases b2
  have b3 : dr = [d2] := b3
  subst b3
  have a3 : ds = [d1, d2] := a3
  subst a3
  obtain ⟨i, j, en, h1, h2, h3, h4, h5, ex⟩ := itRng2_inv g2
  cases en
  refine h F0 H0 c F H σ env w (.int i) w1 S a1 _ fun v F1 H1 S1 s1 k1 => ?_
  have k := (k1.rdC S.cex).rd1.int
  refine hf F0 H0 c F1 H1 σ env w1 (.int j) w' S1 b1 _ fun u F2 H2 S2 s2 k2 => ?_
  have k' := (k2.rdC S1.cex).rd1.int
  exact ⟨i, j, k, k', q i j F2 H2 S2 (s1.trans s2) (rgOk2 h1 h2 h3 h4 h5) ex⟩
theorem map_inv {α β : Type} {f : α → β} {o : Option α} {y : β} (h : o.map f = some y) : ∃ x, o = some x ∧ y = f x := by
  cases o with
  | none => cases h
  | some x => cases h; exact ⟨x, rfl, rfl⟩
theorem se_lrg1 (h : SE K call M te e) : SE K call M (tLstRg (tRg1 te)) (.prim .range1 [e]) := fun F0 H0 c F H σ env w d w' S hv Q q => by
  obtain ⟨ds, g1, g2⟩ := ev_prims hv
  obtain ⟨xs, g3, rfl⟩ := map_inv (show (itRng1 ds).map .list = some d from g2)
  exact tk_rg1 S h g1 g3 fun n F1 H1 S1 s1 ok ex => by subst ex; exact lrg_fin S S1 s1 ok q
theorem se_lrg2 {tf : TE} {e2 : E} (h : SE K call M te e) (hf : SE K call M tf e2) : SE K call M (tLstRg (tRg2 te tf)) (.prim .range2 [e, e2]) := fun F0 H0 c F H σ env w d w' S hv Q q => by
  obtain ⟨ds, g1, g2⟩ := ev_prims hv
  obtain ⟨xs, g3, rfl⟩ := map_inv (show (itRng2 ds).map .list = some d from g2)
  exact tk_rg2 S h hf g1 g3 fun i j F1 H1 S1 s1 ok ex => by subst ex; exact lrg_fin S S1 s1 ok q
theorem se_trg1 (h : SE K call M te e) : SE K call M (tTupRg (tRg1 te)) (.prim .trange1 [e]) := fun F0 H0 c F H σ env w d w' S hv Q q => by
  obtain ⟨ds, g1, g2⟩ := ev_prims hv
  obtain ⟨xs, g3, rfl⟩ := map_inv (show (itRng1 ds).map .tuple = some d from g2)
  exact tk_rg1 S h g1 g3 fun n F1 H1 S1 s1 ok ex => by subst ex; exact trg_fin S1 s1 ok q
theorem se_trg2 {tf : TE} {e2 : E} (h : SE K call M te e) (hf : SE K call M tf e2) : SE K call M (tTupRg (tRg2 te tf)) (.prim .trange2 [e, e2]) := fun F0 H0 c F H σ env w d w' S hv Q q => by
  obtain ⟨ds, g1, g2⟩ := ev_prims hv
  obtain ⟨xs, g3, rfl⟩ := map_inv (show (itRng2 ds).map .tuple = some d from g2)
  exact tk_rg2 S h hf g1 g3 fun i j F1 H1 S1 s1 ok ex => by subst ex; exact trg_fin S1 s1 ok q
end
/-! ### len(set(xs)) -/
section
open PyProof.Rows
variable {X : Cx}
def tLenSetG (K : PySem.W.Frag) (ta : TE) : TE := fun σ H Q => ta σ H fun x H1 => ∃ (l : Addr) (ns : List Int), x = V.ref l ∧ SqL K H1 l (ns.map V.int) ∧ ns.length < 64 ∧ Q (.int (dedupI ns).length) H1
theorem firstMet_dedup (ns : List Int) : firstMet (fun i => ns.getD i 0) ns.length = dedupI ns := by
  have e : (List.range ns.length).map (fun i => ns.getD i 0) = ns := by
    apply List.ext_getElem?
    intro i
    rw [List.getElem?_map]
    by_cases h : i < ns.length
    · rw [List.getElem?_range h, List.getElem?_eq_getElem h]
      simp [List.getD_eq_getElem?_getD, List.getElem?_eq_getElem h]
    · rw [List.getElem?_eq_none (by simp; omega), List.getElem?_eq_none (by omega)]
      rfl
  unfold firstMet
  rw [e]
  rfl
theorem pe_lenSetG {a : Expr} {ta : TE} {p p2 q pos : Pos} (hc : X.calm = true) (hg : Gl X "len") (hm : X.mg "len" = none) (hg2 : Gl X "set") (hm2 : X.mg "set" = none) (ha : PE X a ta)
    (na : starEach [a] X.env = (false, eval a X.env) :: starEach [] X.env := by rfl) : PE X (.Call (.Name "len" p) [.Call (.Name "set" p2) [a] [] q] [] pos) (tLenSetG X.K ta) := by
  refine ⟨fun pins s σ H Q I h => ?_⟩
  refine Call_ (ld_blt I hg hm PySem.boot_len ?_)
  refine PyProof.Rows.callWith_builtin1 (PyProof.Rows.args_cons ?_ rfl) rfl rfl
  refine Call_ (ld_blt I hg2 hm2 PyProof.Rows.boot_set ?_)
  refine PyProof.Rows.callWith_type1 (PyProof.Rows.args_cons (thn (ha.run pins s σ H _ I h) fun v s1 ⟨x, H1, I1, r1, q1⟩ => PyProof.Rows.args_nil ?_) na) na rfl
  obtain ⟨l, ns, rfl, hq, h1, q1⟩ := q1
  cases r1
  obtain ⟨its, r, pl, hz⟩ := I1.list hq
  have hl : its.toArray.size = ns.length := by rw [List.size_toArray, ← r.length, List.length_map]
  refine call_set_list (I1.ok.hd hc) pl.isList (ns := ns) (by simpa using r.ints) (by unfold scanBound; omega) fun h' tk hS hk => ?_
  rw [hl, firstMet_dedup ns] at hS
  refine PyProof.Rows.args_nil ?_
  obtain ⟨o, es, ep, t, ho, hex, hd, _, _, _, hf, hn⟩ := hS
  have I2 : Inv X pins σ H1 { s1 with heap := h', toks := tk } := I1.kept fun b o e => hk b o (Heap.lt_size e) e
  have hle : (dedupI ns).length ≤ ns.length := by rw [← firstMet_dedup]; exact firstMet_length_le _ _
  refine call_len_set ho hex hd hf (by rw [hn] <;> omega) ⟨.int (dedupI ns).length, H1, I2.tok _, ⟨_, by rw [hn]⟩, q1⟩
end
section
variable {K : PySem.W.Frag} {call : CallF} {M : Mode} {te : TE} {e : E}
theorem se_lenset (h : SE K call M te e) : SE K call M (tLenSetG K te) (.prim .lenset [e]) := fun F0 H0 c F H σ env w d w' S hv Q q => by
  obtain ⟨ds, g1, g2⟩ := ev_prims hv
  rw [evs] at g1
  cases h1 : ev call e env w with
  | none => rw [h1] at g1; cases g1
  | some r =>
    rw [h1] at g1
    cases g1
    obtain ⟨x, w1⟩ := r
    have g2 : lensetD x = some d := g2
    cases x with
    | list xs =>
      have g2 : ((intsOf xs).bind fun ns => if ns.length < 64 then some (PyData.int (dedupI ns).length) else none) = some d := g2
      cases hx : intsOf xs with
      | none => rw [hx] at g2; cases g2
      | some ns =>
        rw [hx] at g2
        simp only [Option.bind_some] at g2
        split at g2
        · rename_i hn
          cases g2
          refine h F0 H0 c F H σ env w _ w1 S h1 _ fun v F1 H1 S1 s1 k1 => ?_
          obtain ⟨a, us, rfl, r, z⟩ := (k1.rdC S.cex).listAt S1.fh
          have e := r.of_ints hx
          subst e
          exact ⟨a, ns, rfl, .inl (.inl (z F1 H1 (Step.refl S1.fh))), hn, q _ F1 H1 S1 s1 (.int _)⟩
        · cases g2
    | _ => cases g2
/-! ### dicts -/
theorem RdC.dictAt {c : Option Addr} {F H : Hp} {v : V} {ds : List (D × D)} (e : Ex F H) (h : RdC K c F H v (.dict ds)) : ∃ a kv, v = .ref a ∧ RpK K F kv ds ∧ ∀ F1 H1, Step c F H F1 H1 → H1 a = some (.dK kv) := by
  rcases h with h | ⟨p, o, rfl, nc, hf, ho, h⟩
  · cases h with
    | dk h r => exact ⟨_, _, rfl, r, fun F1 H1 s => s.fh _ _ (s.ef _ _ h)⟩
  · cases h with
    | dk r => exact ⟨_, _, rfl, r, fun F1 H1 s => s.eh _ _ nc ho⟩
theorem se_dnew : SE K call M tDNewK (.prim .dict []) := fun F0 H0 c F H σ env w d w' S hv Q q => by
  obtain ⟨ds, g1, g2⟩ := ev_prims hv
  rw [evs] at g1
  cases g1
  have g2 : some (PyData.dict []) = some d := g2
  cases g2
  intro p hp
  have st : Step none F H F (upd H p (.dK [])) := Step.new S.fh hp
  exact q _ _ _ (S.calm st) st.weak ⟨p, _, rfl, hp, S.fh.none hp, upd_same, .dk .nil⟩
theorem se_get1 {ty : TE} {b : E} (h : SE K call M te e) (hk : SE K call M ty b) : SE K call M (tDGet1 te ty) (.prim .get1 [e, b]) := fun F0 H0 c F H σ env w d w' S hv Q q => by
  obtain ⟨ds, g1, g2⟩ := ev_prims hv
  rw [evs] at g1
  cases h1 : ev call e env w with
  | none => rw [h1] at g1; cases g1
  | some r1 =>
    rw [h1] at g1
    simp only [Option.bind_some] at g1
    rw [evs] at g1
    cases h2 : ev call b env r1.2 with
    | none => rw [h2] at g1; cases g1
    | some r2 =>
      rw [h2] at g1
      cases g1
      obtain ⟨x, w1⟩ := r1
      obtain ⟨y, w2⟩ := r2
      have g2 : get1D x y = some d := g2
      cases x with
      | dict kvs =>
        have g2 : ((keyOf y).map fun _ => (findKv kvs y).getD .none) = some d := g2
        cases hy : keyOf y with
        | none => rw [hy] at g2; cases g2
        | some k =>
          rw [hy] at g2
          cases g2
          refine h F0 H0 c F H σ env w _ w1 S h1 _ fun v F1 H1 S1 s1 k1 => ?_
          obtain ⟨a, kv, rfl, r, z⟩ := RdC.dictAt S1.fh (k1.rdC S.cex)
          refine ⟨a, rfl, .inl ⟨kv, .inl (z F1 H1 (Step.refl S1.fh))⟩, ?_⟩
          refine hk F0 H0 c F1 H1 σ env w1 _ w2 S1 h2 _ fun u F2 H2 S2 s2 k2 => ?_
          have eu := (k2.rdC S1.cex).rd1.key hy
          subst eu
          refine ⟨valV kv k, DGet.k (z F2 H2 s2), q _ F2 H2 S2 (s1.trans s2) ?_⟩
          show Rp K F2 _ _
          rcases r.val hy with ⟨v, x, e1, e2, e3⟩ | ⟨e1, e2⟩
          · rw [e1, e2]
            exact e3.mono s2.ef
          · rw [e1, e2]
            exact .non
      | _ => cases g2
theorem se_get2 {ty tx : TE} {b f : E} (h : SE K call M te e) (hk : SE K call M ty b) (hf : SE K call M tx f) (hc : cls M f ≠ .own) : SE K call M (tDGet2 te ty tx) (.prim .get2 [e, b, f]) := fun F0 H0 c F H σ env w d w' S hv Q q => by
  obtain ⟨ds, g1, g2⟩ := ev_prims hv
  rw [evs] at g1
  cases h1 : ev call e env w with
  | none => rw [h1] at g1; cases g1
  | some r1 =>
    rw [h1] at g1
    simp only [Option.bind_some] at g1
    rw [evs] at g1
    cases h2 : ev call b env r1.2 with
    | none => rw [h2] at g1; cases g1
    | some r2 =>
      rw [h2] at g1
      simp only [Option.bind_some] at g1
      rw [evs] at g1
      cases h3 : ev call f env r2.2 with
      | none => rw [h3] at g1; cases g1
      | some r3 =>
        rw [h3] at g1
        cases g1
        obtain ⟨x, w1⟩ := r1
        obtain ⟨y, w2⟩ := r2
        obtain ⟨z, w3⟩ := r3
        have g2 : get2D x y z = some d := g2
        cases x with
        | dict kvs =>
          have g2 : ((keyOf y).map fun _ => (findKv kvs y).getD z) = some d := g2
          cases hy : keyOf y with
          | none => rw [hy] at g2; cases g2
          | some k =>
            rw [hy] at g2
            cases g2
            refine h F0 H0 c F H σ env w _ w1 S h1 _ fun v F1 H1 S1 s1 k1 => ?_
            obtain ⟨a, kv, rfl, r, zz⟩ := RdC.dictAt S1.fh (k1.rdC S.cex)
            refine ⟨a, rfl, .inl ⟨kv, .inl (zz F1 H1 (Step.refl S1.fh))⟩, ?_⟩
            refine hk F0 H0 c F1 H1 σ env w1 _ w2 S1 h2 _ fun u F2 H2 S2 s2 k2 => ?_
            have eu := (k2.rdC S1.cex).rd1.key hy
            subst eu
            refine (hf.sv hc) F0 H0 c F2 H2 σ env w2 _ w3 S2 h3 _ fun u3 F3 H3 S3 s3 k3 => ?_
            refine ⟨valV kv k, DGet.k (zz F3 H3 (s2.trans s3)), q _ F3 H3 S3 ((s1.trans s2).trans s3) ?_⟩
            show Rp K F3 _ _
            rcases r.val hy with ⟨v, x, e1, e2, e3⟩ | ⟨e1, e2⟩
            · rw [e1, e2]
              exact (e3.mono s2.ef).mono s3.ef
            · rw [e1, e2]
              exact k3
        | _ => cases g2
end
end PyI
set_option Elab.async false
set_option linter.all false
set_option maxRecDepth 100000
set_option maxHeartbeats 1000000
namespace PyI
open PySem L2 PySem.Spec

section
variable {K : PySem.W.Frag} {call : CallF} {M : Mode} {ta tb tc : TE} {a b x : E} {p q : Prim}
theorem ev_chain {env : Ev} {w : D} {r : D × D} (h : ev call (.chain p q a b x) env w = some r) : ∃ d1 w1 d2 w2 k, ev call a env w = some (d1, w1) ∧ ev call b env w1 = some (d2, w2) ∧ prim p [d1, d2] = some (.bool k) ∧
    ((k = false ∧ r = (.bool false, w2)) ∨ (k = true ∧ ∃ d3 w3 d, ev call x env w2 = some (d3, w3) ∧ prim q [d2, d3] = some d ∧ r = (d, w3))) := by
  rw [ev] at h
  cases h1 : ev call a env w with
  | none => rw [h1] at h; cases h
  | some r1 =>
    rw [h1] at h
    simp only [Option.bind_some] at h
    cases h2 : ev call b env r1.2 with
    | none => rw [h2] at h; cases h
    | some r2 =>
      rw [h2] at h
      simp only [Option.bind_some] at h
      cases h3 : prim p [r1.1, r2.1] with
      | none => rw [h3] at h; cases h
      | some d =>
        rw [h3] at h
        simp only [Option.bind_some] at h
        cases h4 : asB d with
        | none => rw [h4] at h; cases h
        | some k =>
          rw [h4] at h
          have e := asB_inv h4
          subst e
          refine ⟨r1.1, r1.2, r2.1, r2.2, k, rfl, h2, h3, ?_⟩
          cases k with
          | false =>
            cases h
            exact .inl ⟨rfl, rfl⟩
          | true =>
            simp only [Option.bind_some, if_true] at h
            cases h5 : ev call x env r2.2 with
            | none => rw [h5] at h; cases h
            | some r3 =>
              rw [h5] at h
              simp only [Option.bind_some] at h
              cases h6 : prim q [r2.1, r3.1] with
              | none => rw [h6] at h; cases h
              | some d' =>
                rw [h6] at h
                cases h
                exact .inr ⟨rfl, _, _, _, rfl, h6, rfl⟩
theorem se_chain (hp : freshP p = false) (hq : freshP q = false) (h1 : SE K call M ta a) (h2 : SE K call M tb b) (h3 : SE K call M tc x) : SE K call M (tChain (r2D K p) (r2D K q) ta tb tc) (.chain p q a b x) := fun F0 H0 c F H σ env w d w' S hv Q z => by
  obtain ⟨d1, w1, d2, w2, k, g1, g2, g3, g4⟩ := ev_chain hv
  refine h1 F0 H0 c F H σ env w d1 w1 S g1 _ fun v F1 H1 S1 s1 k1 => ?_
  have k1 := k1.rdC S.cex
  refine h2 F0 H0 c F1 H1 σ env w1 d2 w2 S1 g2 _ fun u F2 H2 S2 s2 k2 => ?_
  have k2 := k2.rdC S1.cex
  refine ⟨F2, [d1, d2], .bool k, S2.fh, .cons (k1.step s2).rd1 (.cons k2.rd1 .nil), g3, fun v3 F3 H3 s3 k3 => ?_⟩
  rw [hp] at k3
  have k3 : Rp K F3 v3 (.bool k) := k3
  cases k3
  refine ⟨k, rfl, ?_⟩
  have S3 := S2.calm s3
  have st3 : Step c F H F3 H3 := (s1.trans s2).trans s3.weak
  rcases g4 with ⟨rfl, e⟩ | ⟨rfl, d3, w3, d', g5, g6, e⟩
  · cases e
    exact z _ F3 H3 S3 st3 (.bl _)
  · cases e
    refine h3 F0 H0 c F3 H3 σ env w2 d3 w' S3 g5 _ fun v4 F4 H4 S4 s4 k4 => ?_
    have k4 := k4.rdC S3.cex
    refine ⟨F4, [d2, d3], d, S4.fh, .cons ((k2.step s3.weak).step s4).rd1 (.cons k4.rd1 .nil), g6, fun v5 F5 H5 s5 k5 => ?_⟩
    rw [hq] at k5
    exact z _ F5 H5 (S4.calm s5) ((st3.trans s4).trans s5.weak) k5
end
/-! ### the text's side -/
theorem notStar {e : Expr} {es : List Expr} {env : Env} (h : (match e with | .Starred _ _ => false | _ => true) = true) : starEach (e :: es) env = (false, eval e env) :: starEach es env := by
  cases e <;> first | rfl | cases h
def isStar : Expr → Bool
  | .Starred _ _ => true
  | _ => false
theorem notStar' {e : Expr} {es : List Expr} {env : Env} (h : isStar e = false) : starEach (e :: es) env = (false, eval e env) :: starEach es env := by
  cases e <;> first | rfl | cases h
theorem plainStar {pos : Pos} {env : Env} : ∀ {es : List Expr}, es.all (fun e => !isStar e) = true → (backTo pos (starEach es env)).any (·.1) = false
  | [], _ => rfl
  | e :: es, h => by
    rw [List.all_cons, Bool.and_eq_true] at h
    rw [notStar' (by simpa using h.1)]
    show (false || (backTo pos (starEach es env)).any (·.1)) = false
    rw [plainStar h.2]
    rfl
theorem fewStar {pos : Pos} {env : Env} {es : List Expr} (h : es.all (fun e => !isStar e) = true) (hl : es.length < 30) :
    ((backTo pos (starEach es env)).all (fun x => !x.1) && (backToKw pos (keywordEach [] env)).all (fun x => x.1.isSome) && decide (es.length + ([] : List Keyword).length + (if ([] : List Keyword).isEmpty then 0 else 1) < 30)) = true := by
  have h1 : ∀ {es : List Expr}, es.all (fun e => !isStar e) = true → (backTo pos (starEach es env)).all (fun x => !x.1) = true := by
    intro es
    induction es with
    | nil => intro _; rfl
    | cons e es ih =>
      intro h
      rw [List.all_cons, Bool.and_eq_true] at h
      rw [notStar' (by simpa using h.1)]
      show (!false && (backTo pos (starEach es env)).all (fun x => !x.1)) = true
      rw [ih h.2]
      rfl
  rw [h1 h]
  have h2 : (backToKw pos (keywordEach [] env)).all (fun x => x.1.isSome) = true := rfl
  rw [h2]
  simp
  exact hl
def isSet : Expr → Bool
  | .Set _ _ _ => true
  | _ => false
theorem notSet {e : Expr} {env : Env} {x : Value} (h : isSet e = false) : foldedSetIterable e env x = pure x := by
  cases e <;> first | rfl | cases h
def isCall : Expr → Bool
  | .Call _ _ _ _ => true
  | _ => false
theorem notCallBase {e : Expr} {n : Str} {env : Env} {w : Sem Value} (h : isCall e = false) : attributeBase e n env w = w := by
  cases e <;> first | rfl | cases h
def isCompE : Expr → Bool
  | .ListComp _ _ _ _ => true
  | .SetComp _ _ _ _ => true
  | .DictComp _ _ _ _ _ => true
  | _ => false
theorem notSwap {e : Expr} {t : Option Expr} {l : Nat} {env : Env} (h : isCompE e = false) : swapsWith e t l env = pure false := by
  cases e <;> first | rfl | cases h
/-- what stands as a plain index -/
def isIx : Expr → Bool
  | .Slice _ _ _ _ => false
  | .Tuple _ _ _ => false
  | _ => true
theorem plainIx {e : Expr} (h : isIx e = true) : PlainIx e := by
  cases e <;> first | (intro o i; rfl) | cases h
def isTest0 : Expr → Bool
  | .BoolOp _ _ _ => false
  | .UnaryOp .Not _ _ => false
  | .IfExp _ _ _ _ => false
  | .Compare _ _ _ _ => false
  | _ => true
theorem test0 {e : Expr} {env : Env} (h : isTest0 e = true) (whole : Sem Value) : isTrue e env whole = (do let v ← whole; standAt e.pos; holding [v] (truthy v)) := by
  cases e with
  | UnaryOp op a p => cases op <;> first | rfl | cases h
  | BoolOp => cases h
  | IfExp => cases h
  | Compare => cases h
  | _ => rfl
end PyI
set_option Elab.async false
set_option linter.all false
set_option maxRecDepth 100000
set_option maxHeartbeats 1000000
namespace PyI
open PySem L2 PySem.Spec

/-! ### from the text to terms -/
structure Fe where
  ix : Nat
  ar : Nat
  cup : Bool
structure Ctx where
  N : List Str
  sc : Scope
  cells : List Str
  own : List Nat
  cs : Option Nat
  pinned : List Nat
  pn : Nat → Option Addr
  fns : List (Str × Fe)
  cons : List (Str × D)
  blt : List Str
def Ctx.M (c : Ctx) : Mode := ⟨fun i => c.own.contains i, c.cs, c.pn⟩
def ixOf (x : Str) : List Str → Option Nat
  | [] => none
  | y :: ys => if y = x then some 0 else (ixOf x ys).map (· + 1)
theorem ixOf_get {x : Str} : ∀ {ys : List Str} {i : Nat}, ixOf x ys = some i → ys[i]? = some x
  | [], _, h => by cases h
  | y :: ys, i, h => by
    rw [ixOf] at h
    split at h
    · rename_i e
      cases h
      rw [e]
      rfl
    · cases q : ixOf x ys with
      | none => rw [q] at h; cases h
      | some j =>
        rw [q] at h
        cases h
        exact ixOf_get (ys := ys) q
def oddName (x : Str) : Bool := x == ("__debug__" : Str) || x == ("__classdict__" : Str) || x == ("__name__" : Str)
def isVis (c : Ctx) (x : Str) : Bool := match c.sc.names.lookup x with
  | some .local => true
  | some .cell => true
  | some .free => true
  | _ => false
def isGl (c : Ctx) (x : Str) : Bool := decide (c.sc.names.lookup x = some .globalImplicit)
def varE (c : Ctx) (x : Str) : Option Nat := if (isVis c x && !oddName x) = true then ixOf x c.N else none
def nameE (c : Ctx) (x : Str) : Option E := match varE c x with
  | some i => if c.cs = some i then none else some (.var i)
  | none => if (isGl c x && !oddName x) = true then (c.cons.lookup x).map .con else none
def bltOk (c : Ctx) (x : Str) : Bool := isGl c x && (c.blt.contains x && !decide (x = ("gcd" : Str))) && !oddName x
/-- math.gcd, come by its own name -/
def gcdOk (c : Ctx) (x : Str) : Bool := isGl c x && c.blt.contains x && decide (x = ("gcd" : Str))
def binP : Operator → Option Prim
  | .Add => some .add
  | .Sub => some .sub
  | .Mult => some .mul
  | .FloorDiv => some .fdiv
  | .Mod => some .mod
  | .Pow => some .pow
  | _ => none
def cmpP (op : CmpOp) (b : Expr) : Option Prim := match op with
  | .Eq => some .eq
  | .NotEq => some .ne
  | .Lt => some .lt
  | .LtE => some .le
  | .Gt => some .gt
  | .GtE => some .ge
  | .In => some .isin
  | .NotIn => some .notin
  | .Is => match b with
    | .Constant .none _ _ => some .isN
    | _ => some .isB
  | .IsNot => match b with
    | .Constant .none _ _ => some .notN
    | _ => some .notB
def blt1 (x : Str) : Option Prim :=
  if x = ("len" : Str) then some .len else if x = ("sum" : Str) then some .sum else if x = ("abs" : Str) then some .abs else if x = ("all" : Str) then some .all
  else if x = ("any" : Str) then some .any else if x = ("min" : Str) then some .min1 else if x = ("max" : Str) then some .max1 else if x = ("sorted" : Str) then some .sorted else if x = ("repr" : Str) then some .repr else none
def ty1 (x : Str) : Option Prim :=
  if x = ("int" : Str) then some .int else if x = ("tuple" : Str) then some .tuple else if x = ("list" : Str) then some .list else if x = ("str" : Str) then some .str else if x = ("dict" : Str) then some .dictP else none
def blt2 (x : Str) : Option Prim := if x = ("min" : Str) then some .min2 else if x = ("max" : Str) then some .max2 else none
def isiP (x : Str) : Option Prim :=
  if x = ("int" : Str) then some .iInt else if x = ("bool" : Str) then some .iBool else if x = ("str" : Str) then some .iStr else if x = ("tuple" : Str) then some .iTup else if x = ("list" : Str) then some .iList else none
def noOwn (c : Ctx) (es : List E) : Bool := es.all fun e => decide (cls c.M e ≠ .own)
def trL (f : Expr → Option E) : List Expr → Option (List E)
  | [] => some []
  | e :: es => if isStar e = true then none else (f e).bind fun a => (trL f es).map fun r => a :: r
def andL (c : Ctx) : List E → Option E
  | [] => none
  | [a] => some a
  | a :: b :: r => (andL c (b :: r)).bind fun x => if cls c.M x = .own then none else some (.and a x)
def orL (c : Ctx) : List E → Option E
  | [] => none
  | [a] => some a
  | a :: b :: r => (orL c (b :: r)).bind fun x => if cls c.M x = .own then none else some (.or a x)
def trC (i : Const) : Option D := match i with
  | .int i => some (.int i)
  | .bool b => some (.bool b)
  | .none => some .none
  | .str x => some (.str x)
  | _ => none
mutual
def trG (c : Ctx) : Expr → Option T
  | .Name x _ => (ixOf x c.N).bind fun i => match c.sc.names.lookup x with
    | some .local => some (.nm i)
    | some .cell => if c.cells.contains x = true then some (.nm i) else none
    | _ => none
  | .Tuple es _ _ => (trGs c es).map .tp
  | _ => none
def trGs (c : Ctx) : List Expr → Option (List T)
  | [] => some []
  | e :: es => if isStar e = true then none else (trG c e).bind fun t => (trGs c es).map fun r => t :: r
end
def compOwn (c : Ctx) (scope : Scope) : List (Str × Nat) := scope.names.filterMap fun y => match y.2 with
  | .local => (ixOf y.1 c.N).map fun i => (y.1, i)
  | .cell => (ixOf y.1 c.N).map fun i => (y.1, i)
  | _ => none
def cellsOf' (scope : Scope) : List Str := scope.names.filterMap fun y => match y.2 with
  | .cell => some y.1
  | _ => none
def Ctx.blk (c : Ctx) (scope : Scope) : Ctx := { c with sc := relS scope c.sc, cells := (cellsOf' scope).filter fun x => decide (scope.names.lookup x = some .cell) }
def csOut (c : Ctx) (own : List Nat) : Bool := own.all fun i => decide (c.cs ≠ some i) && !c.own.contains i
def isTupE : Expr → Bool
  | .Tuple _ _ _ => true
  | _ => false
/-- what is walked -/
def trI (c : Ctx) (f : Expr → Option E) (tg iter : Expr) : Option (ItK × List E) := match iter with
  | .Call (.Name x _) args [] _ =>
    if bltOk c x = true then
      (if x = ("range" : Str) then (trL f args).bind fun es => match es with
        | [_] => some (.rng1, es)
        | [_, _] => some (.rng2, es)
        | [_, _, _] => some (.rng3, es)
        | _ => none
      else if x = ("enumerate" : Str) then (trL f args).bind fun es => match es with
        | [_] => if isTupE tg = true then some (.enum, es) else none
        | _ => none
      else if x = ("zip" : Str) then (trL f args).bind fun es => match es with
        | [_, _] => if isTupE tg = true then some (.zip, es) else none
        | [_, _, _] => if isTupE tg = true then some (.zip3, es) else none
        | _ => none
      else (f iter).map fun e => (.seq, [e]))
    else (f iter).map fun e => (.seq, [e])
  | _ => (f iter).map fun e => (.seq, [e])
def trIf (f : Expr → Option E) (ok : Expr → Bool) : List Expr → Option E
  | [] => some (.con (.bool true))
  | [x] => if ok x = true then f x else none
  | _ => none
/-- what may stand as a test -/
def testOk : Nat → Expr → Bool
  | 0, _ => false
  | n + 1, .BoolOp _ vs _ => vs.all (testOk n)
  | n + 1, .UnaryOp .Not a _ => testOk n a
  | _, .IfExp _ _ _ _ => false
  | _, .Compare _ [_] [_] _ => true
  | _, .Compare _ [_, _] [_, _] _ => true
  | _, .Compare _ _ _ _ => false
  | _, _ => true
mutual
def T.slots : T → List Nat
  | .nm i => [i]
  | .tp ts => T.slotss ts
def T.slotss : List T → List Nat
  | [] => []
  | t :: ts => t.slots ++ T.slotss ts
end
def compE (c : Ctx) (n : Nat) (f : Ctx → Expr → Option E) (elt : Expr) (gens : List Comprehension) (scope : Scope) : Option E := match gens with
  | [⟨tg, iter, ifs, 0⟩] =>
    let own := compOwn c scope
    let vs := own.map (·.2)
    let c' := c.blk scope
    if (blkC c.N c.sc scope own && csOut c vs && !isSet iter) = true then
      (trI c (f c) tg iter).bind fun ks => (trG c' tg).bind fun t => (trIf (f c') (testOk n) ifs).bind fun cond => (f c' elt).bind fun e =>
        if (t.ok c.M vs && decide (cls c.M e ≠ .own)) = true then some (.comp ks.1 ks.2 t vs cond e) else none
    else none
  | [⟨tg, iter, ifs, 0⟩, ⟨tg1, iter1, ifs1, 0⟩] =>
    let own := compOwn c scope
    let vs := own.map (·.2)
    let c' := c.blk scope
    if (blkC c.N c.sc scope own && csOut c vs && !isSet iter && !isSet iter1) = true then
      (trI c (f c) tg iter).bind fun ks => (trG c' tg).bind fun t => (trIf (f c') (testOk n) ifs).bind fun cond =>
        (trI c' (f c') tg1 iter1).bind fun ks1 => (trG c' tg1).bind fun t1 => (trIf (f c') (testOk n) ifs1).bind fun cond1 => (f c' elt).bind fun e =>
          if (t.ok c.M vs && decide (cls c.M e ≠ .own) && t1.ok c.M t1.slots && t1.slots.all vs.contains && noOwn c' ks1.2) = true then some (.comp2 ks.1 ks.2 t vs cond ks1.1 ks1.2 t1 t1.slots cond1 e) else none
    else none
  | _ => none
/-- the first argument is the list of draws -/
def isCup (c : Ctx) : Expr → Bool
  | .Name x _ => decide (c.cs.isSome = true ∧ varE c x = c.cs)
  | _ => false
def rangeOf (c : Ctx) : Expr → Option (List Expr)
  | .Call (.Name x _) args [] _ => if (decide (x = ("range" : Str)) && bltOk c x) = true then some args else none
  | _ => none
def rangeE (c : Ctx) (f : Expr → Option E) (tup : Bool) (args : List Expr) : Option E := (trL f args).bind fun es => match es with
  | [_] => some (.prim (if tup = true then .trange1 else .range1) es)
  | [_, _] => some (.prim (if tup = true then .trange2 else .range2) es)
  | _ => none
/-- len(set(b)) -/
def setOf (c : Ctx) (x : Str) : Expr → Option Expr
  | .Call (.Name y _) [b] [] _ => if (decide (x = ("len" : Str)) && decide (y = ("set" : Str)) && bltOk c y && !isStar b) = true then some b else none
  | _ => none
def callE (c : Ctx) (f : Expr → Option E) (x : Str) (args : List Expr) : Option E := match c.fns.lookup x with
  | some fe => if (isGl c x && !oddName x) = true then
      (if fe.cup = true then (match args with
        | a :: r => if isCup c a = true then (trL f r).bind fun es => if (noOwn c es && decide (es.length + 1 = fe.ar)) = true then some (.callC fe.ix es) else none else none
        | [] => none)
      else (trL f args).bind fun es => if es.length = fe.ar then some (.call fe.ix (!noOwn c es) es) else none)
    else none
  | none => if bltOk c x = true then
      match args with
      | [a] => if isStar a = true then none else match setOf c x a with
        | some b => (f b).map fun e => .prim .lenset [e]
        | none => match blt1 x with
        | some p => (f a).map fun e => .prim p [e]
        | none => match rangeOf c a with
          | some as => if x = ("list" : Str) then rangeE c f false as else if x = ("tuple" : Str) then rangeE c f true as else none
          | none => match ty1 x with
            | some p => (f a).map fun e => .prim p [e]
            | none => none
      | [a, b] => if (isStar a || isStar b) = true then none else match blt2 x with
        | some p => (f a).bind fun e1 => (f b).map fun e2 => .prim p [e1, e2]
        | none => if x = ("isinstance" : Str) then (match b with
            | .Name y _ => if bltOk c y = true then (isiP y).bind fun p => (f a).map fun e => .prim p [e] else none
            | _ => none) else none
      | _ => none
    else if gcdOk c x = true then
      match args with
      | [a, b] => if (isStar a || isStar b) = true then none else (f a).bind fun e1 => (f b).map fun e2 => .prim .gcd2 [e1, e2]
      | _ => none
    else none
/-- o.get(a), o.get(a, b) of a dict -/
def methE (c : Ctx) (f : Expr → Option E) (o : Expr) (m : Str) (ap : Pos) (args : List Expr) (cp : Pos) : Option E :=
  if (!isCall o && (ap.endLine == cp.line) && decide (m = ("get" : Str))) = true then match args with
    | [a] => if isStar a = true then none else (f o).bind fun x => (f a).map fun y => .prim .get1 [x, y]
    | [a, b] => if (isStar a || isStar b) = true then none else (f o).bind fun x => (f a).bind fun y => (f b).bind fun z => if cls c.M z ≠ .own then some (.prim .get2 [x, y, z]) else none
    | _ => none
  else none
def sliceE (f : Expr → Option E) (a : E) (lo hi : Option Expr) : Option E := match lo, hi with
  | none, none => some (.prim (.sl false false) [a])
  | some l, none => (f l).map fun l => .prim (.sl true false) [a, l]
  | none, some h => (f h).map fun h => .prim (.sl false true) [a, h]
  | some l, some h => (f l).bind fun l => (f h).map fun h => .prim (.sl true true) [a, l, h]
/-- a list, by its look -/
def isLstE : Nat → Expr → Bool
  | 0, _ => false
  | _, .List _ _ => true
  | n + 1, .BinOp a .Add b _ => isLstE n a || isLstE n b
  | n + 1, .BinOp a .Mult _ _ => isLstE n a
  | _, _ => false
def binL (l : Bool) (op : Operator) : Option Prim := match l, op with
  | true, .Add => some .addL
  | true, .Mult => some .mulL
  | _, o => binP o
/-- [d[x] for x in d], d a dict of the body's own -/
def valsC (c : Ctx) (elt : Expr) (gens : List Comprehension) (scope : Scope) : Option E := match elt, gens with
  | .Subscript (.Name d1 _) (.Name x1 _) _, [⟨.Name y yp, .Name d _, [], 0⟩] =>
    let own := compOwn c scope
    let vs := own.map (·.2)
    let c' := c.blk scope
    if (blkC c.N c.sc scope own && csOut c vs) = true then
      (varE c d).bind fun i => (trG c' (.Name y yp)).bind fun t => match t with
        | .nm j => if (c.own.contains i && decide (c.cs ≠ some i) && vs.contains j && decide (varE c' d1 = some i) && decide (varE c' x1 = some j)) = true then some (.comp .seq [.prim .dvals [.var i]] (.nm j) vs (.con (.bool true)) (.var j)) else none
        | _ => none
    else none
  | _, _ => none
/-- sorted([d[x] for x in d]) -/
def valsE (c : Ctx) (x : Str) (args : List Expr) : Option E := match args with
  | [.ListComp elt gens scope _] => if (decide (x = ("sorted" : Str)) && (c.fns.lookup x).isNone && bltOk c x) = true then (valsC c elt gens scope).map fun e => .prim .sorted [e] else none
  | _ => none
def trE : Nat → Ctx → Expr → Option E
  | 0, _, _ => none
  | n + 1, c, e => match e with
    | .Name x _ => nameE c x
    | .Constant k _ _ => (trC k).map .con
    | .UnaryOp .USub a _ => (trE n c a).map fun a => .prim .neg [a]
    | .UnaryOp .Not a _ => (trE n c a).map .not
    | .BinOp a op b pos => (binL (isLstE 9 (.BinOp a op b pos)) op).bind fun p => (trE n c a).bind fun x => (trE n c b).map fun y => .prim p [x, y]
    | .BoolOp .And vs _ => (trL (trE n c) vs).bind (andL c)
    | .BoolOp .Or vs _ => (trL (trE n c) vs).bind (orL c)
    | .IfExp t a b _ => if testOk n t = true then (trE n c t).bind fun x => (trE n c a).bind fun y => (trE n c b).bind fun z => if (decide (cls c.M y ≠ .own) && decide (cls c.M z ≠ .own)) = true then some (.ite x y z) else none else none
    | .Compare a [op] [b] _ => if isSet b = true then none else (cmpP op b).bind fun p => (trE n c a).bind fun x => (trE n c b).map fun y => .prim p [x, y]
    | .Compare a [op, op'] [b, d] _ => if isSet d = true then none else (cmpP op b).bind fun p => (cmpP op' d).bind fun q => (trE n c a).bind fun x => (trE n c b).bind fun y => (trE n c d).map fun z => .chain p q x y z
    | .Call (.Name x _) args [] _ => match valsE c x args with
      | some e => some e
      | none => callE c (trE n c) x args
    | .Subscript a (.Slice lo hi none _) _ => (trE n c a).bind fun x => sliceE (trE n c) x lo hi
    | .Subscript a (.Slice none none (some (.UnaryOp .USub (.Constant (.int 1) _ _) _)) _) _ => (trE n c a).map fun x => .prim .rev [x]
    | .Subscript a i _ => if isIx i = true then (trE n c a).bind fun x => (trE n c i).map fun y => .prim .ix [x, y] else none
    | .Tuple es _ _ => (trL (trE n c) es).bind fun xs => if (noOwn c xs && decide (xs.length ≤ 1000)) = true then some (.prim .tup xs) else none
    | .List es _ => (trL (trE n c) es).bind fun xs => if (noOwn c xs && decide (xs.length ≤ 1000)) = true then some (.prim .lst xs) else none
    | .ListComp elt gens scope _ => compE c n (trE n) elt gens scope
    | .Dict [] [] _ => some (.prim .dict [])
    | .Call (.Attribute o m ap) args [] cp => methE c (trE n c) o m ap args cp
    | _ => none
/-! statements -/
def allSlots (c : Ctx) : List Nat := List.range c.N.length
/-- x, if it is a list of the body's own -/
def ownV (c : Ctx) : Expr → Option Nat
  | .Name x _ => (varE c x).bind fun i => if (c.own.contains i && decide (c.cs ≠ some i)) = true then some i else none
  | _ => none
def lineOf (ts : List Expr) : Nat := (ts.head?.map (·.pos.line)).getD 0
def nmOf (c : Ctx) (line : Nat) : Expr → Option Str
  | .Name id pos => if (c.sc.names.lookup id == some .local && pos.line == line) = true then some id else none
  | _ => none
/-- names of this line, all local: the stores are swapped -/
def parOf (c : Ctx) (ts vs : List Expr) : Option (List Str) :=
  if ((ts.length == 2 || ts.length == 3) && vs.length == ts.length && !(vs.any isStar)) = true then
    if ((ts.filterMap (nmOf c (lineOf ts))).length != ts.length || (ts.filterMap (nmOf c (lineOf ts))).eraseDups.length != (ts.filterMap (nmOf c (lineOf ts))).length) = true then none
    else if vs.all (foldedForSure 8) = true then none
    else some (ts.filterMap (nmOf c (lineOf ts)))
  else none
/-- the swap is not refused -/
def parFit (c : Ctx) (ts vs : List Expr) : Bool := (parOf c ts vs).isNone || !vs.all (constantsAlone 8)
def swapOf (c : Ctx) (tg v : Expr) : Option (List Str) := match tg, v with
  | .Tuple ts _ _, .Tuple vs _ _ => parOf c ts vs
  | _, _ => none
def swapFit (c : Ctx) (tg v : Expr) : Bool := match tg, v with
  | .Tuple ts _ _, .Tuple vs _ _ => parFit c ts vs
  | .List _ _, _ => false
  | _, _ => true
def ixsOf (c : Ctx) : List Str → Option (List Nat)
  | [] => some []
  | x :: xs => if c.sc.names.lookup x = some .local then (ixOf x c.N).bind fun i => (ixsOf c xs).map fun r => i :: r else none
/-- a store of one value -/
def asgE (c : Ctx) (tg : Expr) (e : E) : Option S :=
  (trG c tg).bind fun t => match t with
    | .nm i => if (c.own.contains i && decide (c.cs ≠ some i)) = true then (if (decide (cls c.M e = .fresh) && !c.pinned.contains i) = true then some (.own i e) else none)
      else if (t.ok c.M (allSlots c) && decide (cls c.M e ≠ .own)) = true then some (.asg t e) else none
    | t => if (t.ok c.M (allSlots c) && decide (cls c.M e ≠ .own)) = true then some (.asg t e) else none
def parOne (c : Ctx) (i : Nat) (e : E) : Bool := decide (c.cs ≠ some i) && (if c.own.contains i = true then decide (cls c.M e = .fresh) && !c.pinned.contains i else decide (cls c.M e ≠ .own))
def parAll (c : Ctx) : List Nat → List E → Bool
  | [], [] => true
  | i :: is, e :: es => parOne c i e && parAll c is es
  | _, _ => false
/-- l.pop(..) of a list of the body's own -/
def popOf (c : Ctx) : Expr → Option (Nat × List Expr)
  | .Call (.Attribute o m ap) args [] cp => if (decide (m = ("pop" : Str)) && (ap.endLine == cp.line)) = true then (ownV c o).map fun j => (j, args) else none
  | _ => none
def appOf (c : Ctx) : Expr → Option (Nat × Expr)
  | .Call (.Attribute o m ap) [a] [] cp => if (decide (m = ("append" : Str)) && (ap.endLine == cp.line) && !isStar a) = true then (ownV c o).map fun i => (i, a) else none
  | _ => none
/-- name = a list of the body's own -/
def mvOf (c : Ctx) (tg v : Expr) : Option (Nat × Nat) := match ownV c v with
  | some j => match trG c tg with
    | some (.nm i) => if (T.nm i).ok c.M (allSlots c) = true then some (i, j) else none
    | _ => none
  | none => none
def nmSlots : List T → Option (List Nat)
  | [] => some []
  | .nm i :: r => (nmSlots r).map (i :: ·)
  | _ => none
/-- names = values, some of the names the body's own -/
def parT (c : Ctx) (f : Expr → Option E) (tg v : Expr) : Option (List Nat × List E) := match tg, v with
  | .Tuple ts _ _, .Tuple vs _ _ => ((trGs c ts).bind nmSlots).bind fun is => if is.any c.own.contains = true then (trL f vs).bind fun es => if (parAll c is es && decide is.Nodup && decide (is.length ≤ 1000)) = true then some (is, es) else none else none
  | _, _ => none
def trAsg (n : Nat) (c : Ctx) (tg v : Expr) : Option S := match popOf c v with
  | some (j, []) => (trG c tg).bind fun t => if t.ok c.M (allSlots c) = true then some (.popE t j) else none
  | some (j, [b]) => if isStar b = true then none else (trG c tg).bind fun t => if t.ok c.M (allSlots c) = true then (trE n c b).map fun e => .popL t j e else none
  | some _ => none
  | none => match tg with
    | .Subscript o i _ => if (isIx i && !isCompE v) = true then (ownV c o).bind fun j => (trE n c v).bind fun e => if cls c.M e ≠ .own then (trE n c i).map fun k => .putL j k e else none else none
    | tg => if swapFit c tg v = true then match swapOf c tg v with
        | some names => match v with
          | .Tuple vs _ _ => (ixsOf c names).bind fun is => (trL (trE n c) vs).bind fun es => if (parAll c is es && decide is.Nodup) = true then some (.par is es) else none
          | _ => none
        | none => match parT c (trE n c) tg v with
          | some (is, es) => some (.par is es)
          | none => match mvOf c tg v with
          | some (i, j) => some (.mv i j)
          | none => (trE n c v).bind fun e => asgE c tg e
      else none
def trRet (n : Nat) (c : Ctx) (v : Expr) : Option S := match ownV c v with
  | some i => some (.ret (.var i))
  | none => (trE n c v).bind fun e => if cls c.M e ≠ .own then some (.ret e) else none
def trX (n : Nat) (c : Ctx) (e : Expr) : Option S := match appOf c e with
  | some (i, a) => match popOf c a with
    | some (j, [b]) => if (decide (i ≠ j) && !isStar b) = true then (trE n c b).map fun e => .appPop i j e else none
    | some _ => none
    | none => match ownV c a with
      | some j => if i ≠ j then some (.appMv i j) else none
      | none => (trE n c a).bind fun e => if cls c.M e ≠ .own then some (.app i e) else none
  | none => if isCompE e = true then none else (trE n c e).map .expr
def trSs (f : Stmt → Option S) : List Stmt → Option (List S)
  | [] => some []
  | s :: ss => (f s).bind fun x => (trSs f ss).map fun r => x :: r
def trS : Nat → Ctx → Stmt → Option S
  | 0, _, _ => none
  | n + 1, c, s => match s with
    | .Pass _ => some .pass
    | .Break _ => some .brk
    | .Continue _ => some .cnt
    | .Raise _ _ _ => some .never
    | .Return none _ => some (.ret (.con .none))
    | .Return (some v) _ => trRet n c v
    | .Expr (.Constant (.str _) _ _) _ => some .pass
    | .Expr e _ => trX n c e
    | .Assign [tg] v _ => trAsg n c tg v
    | .AugAssign (.Name x _) .Add e _ => (ixOf x c.N).bind fun i => if (c.own.contains i && decide (c.cs ≠ some i) && decide (c.sc.names.lookup x = some .local)) = true then (trE n c e).map fun e => .ext i e else none
    | .If t a b _ => if testOk n t = true then (trE n c t).bind fun x => (trSs (trS n c) a).bind fun y => (trSs (trS n c) b).map fun z => .ifs x y z else none
    | .For tg iter body [] _ => if isSet iter = true then none else (trI c (trE n c) tg iter).bind fun ks => if noOwn c ks.2 = true then (trG c tg).bind fun t => if t.ok c.M (allSlots c) = true then (trSs (trS n c) body).map fun b => .for ks.1 ks.2 t b else none else none
    | .While t body [] _ => if testOk n t = true then (trE n c t).bind fun x => (trSs (trS n c) body).map fun b => .while x b else none
    | _ => none
end PyI
set_option Elab.async false
set_option linter.all false
set_option maxRecDepth 100000
set_option maxHeartbeats 1000000
/-! defs that are run while no repr is under way: what a def promises, its calls, the law's own call -/
namespace PyI
open PySem PySem.Spec PyProof.Rows L2

structure FnG (P : Program) (w : World) (K : PySem.W.Frag) (mg : Str → Option Value) (base : Heap) (k : Nat) (f : Addr) (fd : FuncData) (ps : List Str) (sp : Sp) : Prop where
  len : ∀ vs H Q E, sp vs H Q E → vs.length = ps.length
  run : ∀ (A : Around) (outer : List Env) (s : Shared) (H : Hp) (args : Args) (us : List Value) (vs : List V) (Q : VK) (E : XK), Room k A → A.guards = some [] → Env0 P w K mg base A outer s H → BindsTo s fd args (ps.zip us) → Vals vs us → sp vs H Q E →
    codeAny (model P w) A (.call (.ref f) args) (CR L2.CX0 outer P w H s Q E) s
section
variable {P : Program} {w : World} {K : PySem.W.Frag} {mg : Str → Option Value} {base : Heap} {k : Nat}
/-- THE RULE for a def -/
theorem fnG_of {x : Str} {st : Stmt} {f : Addr} {fd : FuncData} {N ps : List Str} {sp : Sp} (F : L2.Fun K x x st f fd) (S : FnScope N ps (defScope st)) (len : ∀ vs H Q E, sp vs H Q E → vs.length = ps.length)
    (body : ∀ (cdv : Value) (A : Around) (outer : List Env) (s : Shared) (H : Hp) (vs : List V) (Q : VK) (E : XK), Room k (A.deeper (envOfC x (defScope st) s.heap.objs.size f cdv)) → A.guards = some [] → sp vs H Q E →
      ∃ t, PSs (cxOf L2.CX0 P w K mg base N x (defScope st) f cdv A outer s H E).nox (defBody st) t ∧ t { nx := fun _ H' => Q .non H', rt := Q } (L2.start N vs) H) : FnG P w K mg base (k + 1) f fd ps sp := by
  obtain ⟨oc, od, kV, doc, pm, an, cdv, ct, osl, rfl, lk, hcd⟩ := F.ex
  refine ⟨len, fun A outer s H args us vs Q E room hgd env bnd vals hs => ?_⟩
  have n0 := len _ _ _ _ hs
  have inK : K.In s.heap := env.mod.kin.keeps fun a o e => (env.bs a o e).1
  have noL : s.heap.NoLimit := env.mod.nolimit.keeps fun a o e => (env.bs a o e).1
  have kinds : ∀ y ∈ ps.zip us, (defScope st).names.lookup y.1 = some .local ∨ ((defScope st).names.lookup y.1 = some .cell ∧ ((cellsFrom (s.heap.objs.size + 1) (defScope st).names []).lookup y.1).isSome = true) := by
    rintro ⟨n, v⟩ hy
    rcases S.par n (List.of_mem_zip hy).1 with z | z
    · exact .inl z
    · exact .inr ⟨z, PySem.W.cellsFrom_some _ _ _ (.inl z)⟩
  refine codeAny_call_function room.depth (inK _ _ lk) rfl S.co S.gen rfl (PySem.W.codeRec_of inK hcd) (bnd _ _ _ _ ?_)
  refine wpAny_newFunctionEnv_cells S.kind kinds fun e0 he s1 ic => ?_
  subst he
  refine ⟨noL.keeps ic.toInCall.keep, codeAny_func ?_⟩
  obtain ⟨t, ht0, hq⟩ := body cdv A outer s H vs Q E (room.deeper _) hgd hs
  have ht := ht0.nox
  have I : Inv (cxOf L2.CX0 P w K mg base N x (defScope st) f cdv A outer s H E) [] (L2.start N vs) H s1 := inv_start S room.hd env n0 vals ic
  refine wpAny_mono (ht.run [] s1 (L2.start N vs) H _ I hq) (fun fl s' h => ?_) fun e s' h => h
  have fin : ∀ {τ : L2.St} {H' : Hp} {v : V} {u : Value}, Inv (cxOf L2.CX0 P w K mg base N x (defScope st) f cdv A outer s H E) [] τ H' s' → RelV v u → Q v H' → CE outer P w H s Q u s' :=
    fun {τ H' v u} J r q => ⟨v, H', J.os, J.bare, J.base, J.hok, r, q⟩
  cases fl with
  | ret u =>
    obtain ⟨v, τ, H', J, r, q⟩ := h
    exact fin J r q
  | next =>
    obtain ⟨τ, H', J, q⟩ := h
    exact fin (v := V.non) (u := Value.none) J rfl q
  | brk => exact (show False from let ⟨_, _, _, z⟩ := h; z).elim
  | cont => exact (show False from let ⟨_, _, _, z⟩ := h; z).elim
end
section
variable {X : Cx} {k : Nat} {f : Addr} {fd : FuncData} {ps : List Str} {sp : Sp} {x : Str} {p pos : Pos} {e : Expr} {es : List Expr} {t : TA}
theorem run_fnG {pins : List (Addr × Obj)} {σ : L2.St} {H : Hp} {s : Shared} {Q : VK} {us : List Value} {vs : List V} (F : FnG X.prog X.w X.K X.mg X.base k f fd ps sp) (room : Room k X.A) (hgd : X.A.guards = some []) (bnd : Binds X.K fd ps [])
    (I : Inv X pins σ H s) (r : Vals vs us) (h : sp vs H Q E0) : wpAny (model X.prog X.w) X.A (call (.ref f) us) (EP X pins σ Q) X.xe s := by
  have n0 : us.length = ps.length := by rw [← r.length]; exact F.len _ _ _ _ h
  have b1 : BindsTo s fd ⟨us, []⟩ (ps.zip us) := by
    have z := bnd s us I.kIn (by rw [List.append_nil]; exact n0)
    rw [List.append_nil] at z
    exact z
  refine wpAny_call (codeAny_mono (F.run X.A X.stack s H ⟨us, []⟩ us vs Q E0 room hgd I.env0 b1 r h) fun c s' z => ?_)
  cases c with
  | error e => exact False.elim z
  | ok fl =>
    cases fl with
    | ret u => exact I.after z
    | _ => exact False.elim z
theorem pe_callG (F : FnG X.prog X.w X.K X.mg X.base k f fd ps sp) (room : Room k X.A) (hgd : X.A.guards = some []) (hg : Gl X x) (hm : X.mg x = some (.ref f)) (hk : PySem.W.keepIn X.K (.ref f) = true) (bnd : Binds X.K fd ps [])
    (ha : PA X (e :: es) t) (hdb : (x == ("__debug__" : Str)) = false) (he : starEach (e :: es) X.env = (false, eval e X.env) :: starEach es X.env) (hpl : (backTo pos (starEach es X.env)).any (·.1) = false) :
    PE X (.Call (.Name x p) (e :: es) [] pos) (tCall sp [] E0 t) := by
  refine ⟨fun pins s σ H Q I h => wpAny_Call_Name_kw (ld_glob I hg hm ?_ hdb)⟩
  refine PySem.W.callWith_K (h₀ := X.base) I.ok.mod.kin hk (thn (ha.run pos pins s σ H _ I h) fun us s1 ⟨vs, H1, I1, r, q⟩ => ⟨I1.kIn, ?_⟩) he hpl
  have q : sp (vs ++ []) H1 Q E0 := q
  rw [List.append_nil] at q
  exact run_fnG F room hgd bnd I1 r q
theorem pe_callG0 (F : FnG X.prog X.w X.K X.mg X.base k f fd ps sp) (room : Room k X.A) (hgd : X.A.guards = some []) (hg : Gl X x) (hm : X.mg x = some (.ref f)) (hk : PySem.W.keepIn X.K (.ref f) = true) (bnd : Binds X.K fd ps [])
    (hdb : (x == ("__debug__" : Str)) = false) : PE X (.Call (.Name x p) [] [] pos) (tCall sp [] E0 tNil) := by
  refine ⟨fun pins s σ H Q I h => wpAny_Call_Name_kw (ld_glob I hg hm ?_ hdb)⟩
  exact PySem.W.callWith_K0 I.kIn hk (run_fnG (us := []) F room hgd bnd I .nil h)
end
/-- the law's own call -/
theorem lawG_call {P : Program} {w : World} {K : PySem.W.Frag} {mg mb : Str → Option Value} {k : Nat} {fa a : Addr} {fd : FuncData} {x : Str} {sp : Sp} {t : Shared} {vs : List Value} {ns : List Int}
    (inK : K.In t.heap) (gns : t.heap.Ns mainGlobals mg) (bns : t.heap.Ns builtinsNs mb) (bbs : ∀ x : Str, x ≠ "__name__" → mb x = bootBuiltins x) (nl : t.heap.NoLimit) (gen : t.gens = #[])
    (at_ : t.heap.get? a = some { cls := .type "list", data := .seq vs.toArray }) (hin : IntsAre vs ns) (len : ns.length ≤ sizeLine) (room : Room k callerA)
    (F : ∀ base : Heap, K.In base → base.Ns mainGlobals mg → FnG P w K mg base k fa fd [x] sp) (bnd : ∀ (s : Shared) (u : Value), BindsTo s fd ⟨[u], []⟩ [(x, u)])
    (hsp : ∀ H : Hp, SqL K H a (ns.map V.int) → sp [.ref a] H (fun v _ => v = .bl true) E0) :
    codeAny (model P w) callerA (.call (.ref fa) ⟨[.ref a], []⟩) (fun r s' => r = .ok (.ret (.bool true)) ∧ OldK t.heap s'.heap ∧ s'.os = t.os ∧ AllBare s'.gens) t := by
  have vals := vals_ints hin
  have vl := hin.length
  have core : ∀ H : Hp, (∀ b, H b = none ∨ ∃ o xs, H b = some (.frz o (.lst xs))) → SqL K H a (ns.map V.int) → HOk P w H t.heap → (∀ b, H b ≠ none → b = a) → (H a ≠ none → K.lookup a = none) →
      codeAny (model P w) callerA (.call (.ref fa) ⟨[.ref a], []⟩) (fun r s' => r = .ok (.ret (.bool true)) ∧ OldK t.heap s'.heap ∧ s'.os = t.os ∧ AllBare s'.gens) t := by
    intro H only sq ok onlyA free
    have low : ∀ {b : Addr} {o : Obj}, t.heap.get? b = some o → H b = none → (hidT t.heap H).get? b = some o := fun e n => hidT_get e n
    have notD : ∀ {b : Addr} {o : Obj} {es : Array DictEntry} {ep : Nat}, t.heap.get? b = some o → o.data = .dict es ep → H b = none := by
      intro b o es ep e d
      cases q : H b with
      | none => rfl
      | some u =>
        obtain rfl : b = a := onlyA b (by rw [q]; simp)
        rw [at_] at e
        cases e
        exact absurd (show Data.seq vs.toArray _ = Data.dict es ep from d) (by simp)
    have nsOf : ∀ {b : Addr} {m : Str → Option Value}, t.heap.Ns b m → (hidT t.heap H).Ns b m := fun ⟨o, es, ep, e, d, r⟩ => ⟨o, es, ep, low e (notD e d), d, r⟩
    have inB : K.In (hidT t.heap H) := fun b o e => low (inK b o e) (by
      cases q : H b with
      | none => rfl
      | some u =>
        obtain rfl : b = a := onlyA b (by rw [q]; simp)
        have z := free (by rw [q]; simp)
        rw [e] at z
        cases z)
    have hM : Mod K mg (hidT t.heap H) := ⟨inB, nsOf gns, ⟨mb, nsOf bns, bbs⟩, let ⟨mc, z1, z2⟩ := nl; ⟨mc, nsOf z1, z2⟩⟩
    have env : Env0 P w K mg (hidT t.heap H) callerA [] t H := ⟨rfl, hM, fun b o e => of_hidT e, Nat.le_of_eq (hidT_size _ _), trivial, fun b z => by (cases (show b ∈ ([] : List Addr) from z)), ok, .of_eq gen⟩
    refine codeAny_mono ((F _ inB (nsOf gns)).run callerA [] t H ⟨[.ref a], []⟩ [.ref a] [.ref a] _ _ room rfl env (bnd t (.ref a)) (.cons rfl .nil) (hsp H sq)) fun r s' h => ?_
    cases r with
    | error e => exact False.elim h
    | ok fl =>
      cases fl with
      | ret u =>
        obtain ⟨v, H', os, bare, un, ok', rv, q⟩ := h
        obtain rfl : v = .bl true := q
        obtain rfl : u = Value.bool true := rv
        refine ⟨rfl, OldK.of_keep fun b o e => ?_, os, bare⟩
        cases q : H b with
        | none => exact un.keep b o e q (fun z => by (cases (show b ∈ ([] : List Addr) from z))) (by simp)
        | some u =>
          rcases only b with z | ⟨ob, xs, z⟩
          · rw [q] at z
            cases z
          · obtain ⟨e1, _⟩ := ok b _ z
            obtain ⟨e2, _⟩ := ok' b _ (un.frzs b ob _ z)
            rw [e] at e1
            cases e1
            exact e2
      | _ => exact False.elim h
  cases hk : K.lookup a with
  | some o =>
    have e := inK a o hk
    rw [at_] at e
    cases e
    refine core (fun _ => none) (fun _ => .inl rfl) (.inr ⟨_, vs.toArray, _, hk, rfl, rfl, rfl, ?_, by simpa using vals⟩) (fun b u z => by (cases (show (none : Option HO) = some u from z))) (fun b z => absurd rfl z) fun z => absurd rfl z
    rw [List.size_toArray, vl]
    exact len
  | none =>
    have key : ∀ {b : Addr} {u : HO}, (if b = a then some (HO.frz { cls := .type "list", data := .seq vs.toArray } (.lst (ns.map V.int))) else none) = some u → b = a ∧ u = HO.frz { cls := .type "list", data := .seq vs.toArray } (.lst (ns.map V.int)) := fun {b u} z => by
      split at z
      · rename_i hb
        exact ⟨hb, (Option.some.inj z).symm⟩
      · cases z
    refine core (fun b => if b = a then some (.frz { cls := .type "list", data := .seq vs.toArray } (.lst (ns.map V.int))) else none) (fun b => ?_) (.inl (.inr ⟨{ cls := .type "list", data := .seq vs.toArray }, if_pos rfl⟩)) (fun b u z => ?_) (fun b z => ?_) fun _ => hk
    · by_cases hb : b = a
      · exact .inr ⟨_, _, if_pos hb⟩
      · exact .inl (if_neg hb)
    · obtain ⟨rfl, rfl⟩ := key z
      exact ⟨at_, by rw [List.length_map]; exact len, vs, _, vals, at_⟩
    · by_cases hb : b = a
      · exact hb
      · exact absurd (if_neg hb) z
/-- what k_head leaves -/
theorem walkG_of {l : PySem.W.OpenLaw} {n k : Nat} {q : Program} {loose : List Str} {XP : (Str → Option Value) → Heap → Prop} {YP : World → Heap → Prop} {d : DefRec} {K : Params → PySem.W.Frag} {sp : World → Sp} {x : Str}
    (hn : l.most = some n) (hn2 : n ≤ sizeLine) (hdf : d.params.defaults = []) (room : Room k callerA) (hY : ∀ (w : World) (h : Heap), YP w h → (K w.params).In h)
    (F : ∀ (w : World) (mg : Str → Option Value) (fa : Addr) (h : Heap), (K w.params).In h → h.Ns mainGlobals mg → mg d.name = some (.ref fa) →
      ∃ fd : FuncData, (∀ (s : Shared) (u : Value), BindsTo s fd ⟨[u], []⟩ [(x, u)]) ∧ ∀ base : Heap, (K w.params).In base → base.Ns mainGlobals mg → FnG l.prog w (K w.params) mg base k fa fd [x] (sp w))
    (hsp : ∀ (w : World) (H : Hp) (a : Addr) (ns : List Int), ns.length ≤ n → SqL (K w.params) H a (ns.map V.int) → sp w [.ref a] H (fun v _ => v = .bl true) E0) :
    PySem.W.WalkO q loose XP YP l.row.toRowW d [] (fun f vs => PySem.call f vs) := by
  refine Att.attach_call hn hdf fun w s₀ t mg mb fa o pm cd doc a vs ns G Y ho hd hcd hmg hobj hints hlen hg => ?_
  obtain ⟨fd, hb, hF⟩ := F w mg fa _ (hY w _ Y) G.T.g hmg
  exact lawG_call (hY w _ Y) G.T.g G.T.b G.T.builtins G.T.nolimit hg hobj hints (Nat.le_trans hlen hn2) room hF hb fun H hS => hsp w H a ns hlen hS
end PyI
set_option Elab.async false
set_option linter.all false
set_option maxRecDepth 100000
set_option maxHeartbeats 1000000
namespace PyI
open PySem L2 PySem.Spec

/-- the context of a body or a block, as c tells it -/
structure Gd (P : Program) (w : World) (K : PySem.W.Frag) (mg : Str → Option Value) (base : Heap) (k : Nat) (c : Ctx) (X : Cx) : Prop where
  prog : X.prog = P
  w : X.w = w
  K : X.K = K
  mg : X.mg = mg
  base : X.base = base
  N : X.N = c.N
  sc : X.env.scope = c.sc
  calm : X.calm = true
  room : Room k X.A
  gd : X.A.guards = some []
  fn : ∀ x, c.cells.contains x = true → X.fn x = true
def CalOk (P : Program) (w : World) (K : PySem.W.Frag) (mg : Str → Option Value) (base : Heap) (k : Nat) (x : Str) (sp : Sp) : Prop :=
  ∃ f fd ps, FnG P w K mg base k f fd ps sp ∧ mg x = some (.ref f) ∧ PySem.W.keepIn K (.ref f) = true ∧ Binds K fd ps []
def spOf (K : PySem.W.Frag) (call : CallF) (f : Fe) : Sp := if f.cup = true then spC K call f.ix f.ar else spN K call f.ix f.ar
/-- a name of the language's own: bound in no module, or gcd, as it came from math -/
def BltM (mg : Str → Option Value) (x : Str) : Prop := if x = ("gcd" : Str) then mg x = some (.builtin "math.gcd") else mg x = none
structure Tab (P : Program) (w : World) (K : PySem.W.Frag) (mg : Str → Option Value) (base : Heap) (k : Nat) (call : CallF) (c : Ctx) : Prop where
  fns : ∀ x f, c.fns.lookup x = some f → CalOk P w K mg base k x (spOf K call f)
  cons : ∀ x d, c.cons.lookup x = some d → ∃ u v, mg x = some u ∧ RelV v u ∧ ∀ F, Rp K F v d
  blt : ∀ x, c.blt.contains x = true → BltM mg x
  nd : c.N.Nodup
  pin : ∀ i, c.pinned.contains i = false → c.pn i = none
section
variable (P : Program) (w : World) (K : PySem.W.Frag) (mg : Str → Option Value) (base : Heap) (k : Nat) (call : CallF)
def SdE (c : Ctx) (pe : Expr) (e : E) : Prop := ∃ te, (∀ X, Gd P w K mg base k c X → PE X pe te) ∧ SE K call c.M te e
def SdT (c : Ctx) (pe : Expr) (e : E) : Prop := ∃ tt, (∀ X, Gd P w K mg base k c X → PT X pe tt) ∧ ST K call c.M tt e
def SdA (c : Ctx) (pes : List Expr) (es : List E) : Prop := ∃ ta, (∀ X, Gd P w K mg base k c X → PA X pes ta) ∧ SA K call c.M ta es ∧ (noOwn c es = true → SAV K call c.M ta es)
def SdI (c : Ctx) (tg pe : Expr) (ks : ItK × List E) : Prop := ∃ wi, (∀ X, Gd P w K mg base k c X → PI X tg pe wi) ∧ SI K call c.M wi ks.1 ks.2 ∧ (noOwn c ks.2 = true → SIF K call c.M wi ks.1 ks.2)
def SdG (c : Ctx) (pe : Expr) (t : T) : Prop := ∃ g, (∀ X, Gd P w K mg base k c X → PG X pe g) ∧ ∀ vs, t.ok c.M vs = true → SG K c.M g t vs
def SdGs (c : Ctx) (pes : List Expr) (ts : List T) : Prop := ∃ g, (∀ X, Gd P w K mg base k c X → PGs X pes g) ∧ (∀ vs, T.oks c.M vs ts = true → SGs K c.M g ts vs) ∧ pes.length = ts.length ∧ pes.all (fun e => !isStar e) = true
end
section
variable {P : Program} {w : World} {K : PySem.W.Frag} {mg : Str → Option Value} {base : Heap} {k : Nat} {call : CallF} {c : Ctx} {X : Cx}
theorem Gd.hu (g : Gd P w K mg base k c X) : X.A.units + 100 < cLine := by
  have := g.room.un
  omega
theorem Gd.gl (g : Gd P w K mg base k c X) {x : Str} (h : isGl c x = true) : Gl X x := by
  show X.env.scope.names.lookup x = _
  rw [g.sc]
  exact of_decide_eq_true h
theorem Gd.vis (g : Gd P w K mg base k c X) {x : Str} (h : isVis c x = true) : Vis X.env.scope x := by
  unfold Vis
  rw [g.sc]
  unfold isVis at h
  split at h
  · rename_i e; exact .inl e
  · rename_i e; exact .inr (.inl e)
  · rename_i e; exact .inr (.inr e)
  · cases h
theorem oddName_not {x : Str} (h : oddName x = false) : (x == ("__debug__" : Str)) = false ∧ (x == ("__classdict__" : Str)) = false ∧ x ≠ "__name__" := by
  unfold oddName at h
  rw [Bool.or_eq_false_iff, Bool.or_eq_false_iff] at h
  refine ⟨h.1.1, h.1.2, fun e => ?_⟩
  have := h.2
  rw [e] at this
  simp at this
theorem varE_inv {x : Str} {i : Nat} (h : varE c x = some i) : isVis c x = true ∧ oddName x = false ∧ c.N[i]? = some x := by
  unfold varE at h
  split at h
  · rename_i z
    rw [Bool.and_eq_true] at z
    exact ⟨z.1, by simpa using z.2, ixOf_get h⟩
  · cases h
theorem Gd.var (g : Gd P w K mg base k c X) {x : Str} {i : Nat} {pos : Pos} (h : varE c x = some i) : PE X (.Name x pos) (tVar i) := by
  obtain ⟨h1, h2, h3⟩ := varE_inv h
  obtain ⟨h4, h5, _⟩ := oddName_not h2
  exact pe_var (by rw [g.N]; exact h3) (g.vis h1) h4 h5
theorem bltOk_inv (T : Tab P w K mg base k call c) (g : Gd P w K mg base k c X) {x : Str} (h : bltOk c x = true) : Gl X x ∧ X.mg x = none ∧ x ≠ "__name__" ∧ (x == ("__debug__" : Str)) = false := by
  unfold bltOk at h
  rw [Bool.and_eq_true, Bool.and_eq_true, Bool.and_eq_true] at h
  obtain ⟨h1, _, h3⟩ := oddName_not (by simpa using h.2)
  have m := T.blt x h.1.2.1
  unfold BltM at m
  rw [if_neg (by simpa using h.1.2.2)] at m
  exact ⟨g.gl h.1.1, by rw [g.mg]; exact m, h3, h1⟩
theorem gcdOk_inv (T : Tab P w K mg base k call c) (g : Gd P w K mg base k c X) {x : Str} (h : gcdOk c x = true) : x = "gcd" ∧ Gl X x ∧ X.mg x = some (.builtin "math.gcd") := by
  unfold gcdOk at h
  rw [Bool.and_eq_true, Bool.and_eq_true] at h
  have e : x = ("gcd" : Str) := of_decide_eq_true h.2
  have m := T.blt x h.1.2
  unfold BltM at m
  rw [if_pos e] at m
  exact ⟨e, g.gl h.1.1, by rw [g.mg]; exact m⟩
/-! names -/
theorem sd_name (T : Tab P w K mg base k call c) {x : Str} {pos : Pos} {e : E} (h : nameE c x = some e) : SdE P w K mg base k call c (.Name x pos) e := by
  unfold nameE at h
  cases q : varE c x with
  | some i =>
    rw [q] at h
    simp only at h
    split at h
    · cases h
    · cases h
      exact ⟨tVar i, fun X g => g.var q, se_var⟩
  | none =>
    rw [q] at h
    simp only at h
    split at h
    · rename_i z
      rw [Bool.and_eq_true] at z
      obtain ⟨h1, h2, h3⟩ := oddName_not (by simpa using z.2)
      cases q2 : c.cons.lookup x with
      | none => rw [q2] at h; cases h
      | some d =>
        rw [q2] at h
        cases h
        obtain ⟨u, v, m, r, p⟩ := T.cons x d q2
        exact ⟨tC v, fun X g => pe_glob (g.gl z.1) (by rw [g.mg]; exact m) r h1, se_con p⟩
    · cases h
theorem sd_const {i : Const} {kk : Nat} {pos : Pos} {d : D} (h : trC i = some d) : SdE P w K mg base k call c (.Constant i kk pos) (.con d) := by
  cases i with
  | int i => cases h; exact ⟨_, fun X g => pe_int, se_con fun F => .int i⟩
  | bool b => cases h; exact ⟨_, fun X g => pe_bl, se_con fun F => .bl b⟩
  | none => cases h; exact ⟨_, fun X g => pe_non, se_con fun F => .non⟩
  | str x => cases h; exact ⟨_, fun X g => pe_str, se_con fun F => .str x⟩
  | _ => cases h
/-! lists of arguments -/
theorem sd_args {f : Expr → Option E} (hf : ∀ pe e, f pe = some e → SdE P w K mg base k call c pe e) : ∀ {pes : List Expr} {es : List E}, trL f pes = some es → SdA P w K mg base k call c pes es ∧ pes.all (fun e => !isStar e) = true ∧ pes.length = es.length
  | [], es, h => by
    cases h
    exact ⟨⟨tNil, fun X g => pa_nil, sa_nil, fun _ => sav_nil⟩, rfl, rfl⟩
  | pe :: pes, es, h => by
    rw [trL] at h
    split at h
    · cases h
    · rename_i hs
      have hs : isStar pe = false := by simpa using hs
      cases q : f pe with
      | none => rw [q] at h; cases h
      | some e =>
        rw [q] at h
        simp only [Option.bind_some] at h
        cases q2 : trL f pes with
        | none => rw [q2] at h; cases h
        | some r =>
          rw [q2] at h
          cases h
          obtain ⟨te, h1, h2⟩ := hf pe e q
          obtain ⟨⟨ta, h3, h4, h5⟩, h6, h7⟩ := sd_args hf q2
          refine ⟨⟨tCons te ta, fun X g => pa_cons (h1 X g) (h3 X g) (notStar' hs), sa_cons h2 h4, fun n => ?_⟩, by rw [List.all_cons, h6, hs]; rfl, by rw [List.length_cons, List.length_cons, h7]⟩
          unfold noOwn at n
          rw [List.all_cons, Bool.and_eq_true] at n
          exact sav_cons (h2.sv (of_decide_eq_true n.1)) (h5 n.2)
/-! operators -/
theorem op_B {op : Operator} {p : Prim} (h : binP op = some p) : OpR X (binaryOp op) (r2D X.K p) := by
  cases op <;> cases h
  · exact op_addD
  · exact op_subD
  · exact op_mulD
  · exact op_modD
  · exact op_powD
  · exact op_fdivD
theorem op_BL {l : Bool} {op : Operator} {p : Prim} (h : binL l op = some p) : OpR X (binaryOp op) (r2D X.K p) := by
  cases l with
  | false => exact op_B (by cases op <;> exact h)
  | true =>
    cases op with
    | Add => cases h; exact op_addLD
    | Mult => cases h; exact op_mulLD
    | _ => exact op_B h
theorem op_C {op : CmpOp} {b : Expr} {p : Prim} (hu : X.A.units + 100 < cLine) (h : cmpP op b = some p) : OpR X (compareOp op) (r2D X.K p) ∧ freshP p = false := by
  unfold cmpP at h
  split at h
  · cases h; exact ⟨op_eqD' hu, rfl⟩
  · cases h; exact ⟨op_neD' hu, rfl⟩
  · cases h; exact ⟨op_ltD hu, rfl⟩
  · cases h; exact ⟨op_leD hu, rfl⟩
  · cases h; exact ⟨op_gtD hu, rfl⟩
  · cases h; exact ⟨op_geD hu, rfl⟩
  · cases h; exact ⟨op_inD hu, rfl⟩
  · cases h; exact ⟨op_notinD hu, rfl⟩
  · split at h
    · cases h; exact ⟨op_isND, rfl⟩
    · cases h; exact ⟨op_isBD, rfl⟩
  · split at h
    · cases h; exact ⟨op_notND, rfl⟩
    · cases h; exact ⟨op_notBD, rfl⟩
theorem notBehind {op : CmpOp} {b : Expr} (h : isSet b = false) : behindInMarks op b = false := by
  cases b <;> first | rfl | cases h
theorem notLast {op op' : CmpOp} {b d : Expr} (h : isSet d = false) : lastMarks [op, op'] [b, d] = false := by
  show behindInMarks op' d = false
  exact notBehind h
theorem sd_prim2 {pe a b : Expr} {x y : E} {p : Prim} (ha : SdE P w K mg base k call c a x) (hb : SdE P w K mg base k call c b y) (h : ∀ X, Gd P w K mg base k c X → ∀ ta tb, PE X a ta → PE X b tb → PE X pe (tOp (r2D X.K p) ta tb)) : SdE P w K mg base k call c pe (.prim p [x, y]) := by
  obtain ⟨ta, a1, a2⟩ := ha
  obtain ⟨tb, b1, b2⟩ := hb
  refine ⟨tPrim K p (tCons ta (tCons tb tNil)), fun X g => ?_, se_prim (sa_cons a2 (sa_cons b2 sa_nil))⟩
  have := h X g ta tb (a1 X g) (b1 X g)
  rw [g.K] at this
  exact this
theorem sd_prim1 {pe a : Expr} {x : E} {p : Prim} (ha : SdE P w K mg base k call c a x) (h : ∀ X, Gd P w K mg base k c X → ∀ ta, PE X a ta → PE X pe (tUn (r1D X.K p) ta)) : SdE P w K mg base k call c pe (.prim p [x]) := by
  obtain ⟨ta, a1, a2⟩ := ha
  refine ⟨tPrim K p (tCons ta tNil), fun X g => ?_, se_prim (sa_cons a2 sa_nil)⟩
  have := h X g ta (a1 X g)
  rw [g.K] at this
  exact this
theorem sd_not {a : Expr} {pos : Pos} {x : E} (ha : SdE P w K mg base k call c a x) : SdE P w K mg base k call c (.UnaryOp .Not a pos) (.not x) := by
  obtain ⟨ta, a1, a2⟩ := ha
  exact ⟨tNotV ta, fun X g => pe_not (a1 X g), se_not a2⟩
theorem sd_andL {pos : Pos} : ∀ {pes : List Expr} {es : List E} {e : E}, (∀ n : Nat, ∀ pe x, pes[n]? = some pe → es[n]? = some x → SdE P w K mg base k call c pe x) → pes.length = es.length → andL c es = some e → SdE P w K mg base k call c (.BoolOp .And pes pos) e
  | [], [], _, _, _, h => by cases h
  | [_], [], _, _, h, _ => by cases h
  | [], [_], _, _, h, _ => by cases h
  | [pe], [x], e, hf, _, h => by
    cases h
    obtain ⟨te, h1, h2⟩ := hf 0 pe x rfl rfl
    exact ⟨te, fun X g => pe_one (h1 X g), h2⟩
  | [], _ :: _ :: _, _, _, h, _ => by cases h
  | _ :: _ :: _, [], _, _, h, _ => by cases h
  | [_], _ :: _ :: _, _, _, h, _ => by simp at h
  | _ :: _ :: _, [_], _, _, h, _ => by simp at h
  | pe :: pe2 :: pes, x :: x2 :: es, e, hf, hl, h => by
    rw [andL] at h
    cases q : andL c (x2 :: es) with
    | none => rw [q] at h; cases h
    | some y =>
      rw [q] at h
      simp only [Option.bind_some] at h
      split at h
      · cases h
      · rename_i hk
        cases h
        obtain ⟨ta, a1, a2⟩ := hf 0 pe x rfl rfl
        obtain ⟨tb, b1, b2⟩ := sd_andL (pes := pe2 :: pes) (es := x2 :: es) (fun n pe x e1 e2 => hf (n + 1) pe x e1 e2) (by simpa using hl) q
        exact ⟨tAndV ta tb, fun X g => pe_and (a1 X g) (b1 X g), se_and a2 b2 hk⟩
theorem sd_orL {pos : Pos} : ∀ {pes : List Expr} {es : List E} {e : E}, (∀ n : Nat, ∀ pe x, pes[n]? = some pe → es[n]? = some x → SdE P w K mg base k call c pe x) → pes.length = es.length → orL c es = some e → SdE P w K mg base k call c (.BoolOp .Or pes pos) e
  | [], [], _, _, _, h => by cases h
  | [_], [], _, _, h, _ => by cases h
  | [], [_], _, _, h, _ => by cases h
  | [pe], [x], e, hf, _, h => by
    cases h
    obtain ⟨te, h1, h2⟩ := hf 0 pe x rfl rfl
    exact ⟨te, fun X g => pe_one (h1 X g), h2⟩
  | [], _ :: _ :: _, _, _, h, _ => by cases h
  | _ :: _ :: _, [], _, _, h, _ => by cases h
  | [_], _ :: _ :: _, _, _, h, _ => by simp at h
  | _ :: _ :: _, [_], _, _, h, _ => by simp at h
  | pe :: pe2 :: pes, x :: x2 :: es, e, hf, hl, h => by
    rw [orL] at h
    cases q : orL c (x2 :: es) with
    | none => rw [q] at h; cases h
    | some y =>
      rw [q] at h
      simp only [Option.bind_some] at h
      split at h
      · cases h
      · rename_i hk
        cases h
        obtain ⟨ta, a1, a2⟩ := hf 0 pe x rfl rfl
        obtain ⟨tb, b1, b2⟩ := sd_orL (pes := pe2 :: pes) (es := x2 :: es) (fun n pe x e1 e2 => hf (n + 1) pe x e1 e2) (by simpa using hl) q
        exact ⟨tOrV ta tb, fun X g => pe_or (a1 X g) (b1 X g), se_or a2 b2 hk⟩
theorem trL_get {f : Expr → Option E} : ∀ {pes : List Expr} {es : List E} {n : Nat} {pe : Expr} {x : E}, trL f pes = some es → pes[n]? = some pe → es[n]? = some x → f pe = some x
  | [], es, n, pe, x, h, e1, e2 => by simp at e1
  | p :: pes, es, n, pe, x, h, e1, e2 => by
    rw [trL] at h
    split at h
    · cases h
    · cases q : f p with
      | none => rw [q] at h; cases h
      | some y =>
        rw [q] at h
        simp only [Option.bind_some] at h
        cases q2 : trL f pes with
        | none => rw [q2] at h; cases h
        | some r =>
          rw [q2] at h
          cases h
          cases n with
          | zero =>
            have a := Option.some.inj (show some p = some pe from e1)
            have b := Option.some.inj (show some y = some x from e2)
            rw [← a, ← b]
            exact q
          | succ n => exact trL_get (pes := pes) (n := n) q2 e1 e2
/-! calls of builtins -/
theorem one_of {R : V → Hp → VK → Prop} {te : TE} {σ : L2.St} {H : Hp} {Q : VK} (h : tUn R te σ H Q) : tCB (fun xs H Q => ∃ x, xs = [x] ∧ R x H Q) (tCons te tNil) = fun σ H Q => te σ H fun x H1 => ∃ y, [x] = [y] ∧ R y H1 Q := rfl
theorem PE.imp {pe : Expr} {te te' : TE} (h : PE X pe te) (hi : ∀ σ H Q, te' σ H Q → te σ H Q) : PE X pe te' := ⟨fun pins s σ H Q I q => h.run pins s σ H Q I (hi σ H Q q)⟩
end
end PyI
set_option Elab.async false
set_option linter.all false
set_option maxRecDepth 100000
set_option maxHeartbeats 1000000
namespace PyI
open PySem L2 PySem.Spec

section
variable {P : Program} {w : World} {K : PySem.W.Frag} {mg : Str → Option Value} {base : Heap} {k : Nat} {call : CallF} {c : Ctx} {X : Cx}
/-! calls of builtins -/
theorem rl_blt1 {x : Str} {p : Prim} (hc : X.calm = true) (hgd : X.A.guards = some []) (hu : X.A.units + 100 < cLine) (h : blt1 x = some p) : ∃ id, bootBuiltins x = some (.builtin id) ∧ CallR X (.builtin id) (fun xs H Q => ∃ y, xs = [y] ∧ r1D X.K p y H Q) := by
  unfold blt1 at h
  split at h
  · rename_i e; subst e; cases h; exact ⟨"len", by decide +kernel, call_lenD⟩
  split at h
  · rename_i e; subst e; cases h; exact ⟨"sum", by decide +kernel, call_sumD hc⟩
  split at h
  · rename_i e; subst e; cases h; exact ⟨"abs", by decide +kernel, call_absD⟩
  split at h
  · rename_i e; subst e; cases h; exact ⟨"all", by decide +kernel, call_allD hc⟩
  split at h
  · rename_i e; subst e; cases h; exact ⟨"any", by decide +kernel, call_anyD hc⟩
  split at h
  · rename_i e; subst e; cases h; exact ⟨"min", by decide +kernel, call_min1D hc hu⟩
  split at h
  · rename_i e; subst e; cases h; exact ⟨"max", by decide +kernel, call_max1D hc hu⟩
  split at h
  · rename_i e; subst e; cases h; exact ⟨"sorted", by decide +kernel, call_sortedD hc hu⟩
  split at h
  · rename_i e; subst e; cases h; exact ⟨"repr", by decide +kernel, call_reprD hgd hu⟩
  · cases h
theorem rl_ty1 {x : Str} {p : Prim} (hc : X.calm = true) (h : ty1 x = some p) : ∃ id, bootBuiltins x = some (.type id) ∧ CallR X (.type id) (fun xs H Q => ∃ y, xs = [y] ∧ r1D X.K p y H Q) := by
  unfold ty1 at h
  split at h
  · rename_i e; subst e; cases h; exact ⟨"int", by decide +kernel, call_intD⟩
  split at h
  · rename_i e; subst e; cases h; exact ⟨"tuple", by decide +kernel, call_tupleD⟩
  split at h
  · rename_i e; subst e; cases h; exact ⟨"list", by decide +kernel, call_listD⟩
  split at h
  · rename_i e; subst e; cases h; exact ⟨"str", by decide +kernel, call_strD⟩
  split at h
  · rename_i e; subst e; cases h; exact ⟨"dict", by decide +kernel, call_dictPD hc⟩
  · cases h
theorem rl_blt2 {x : Str} {p : Prim} (hc : X.calm = true) (h : blt2 x = some p) : ∃ id, bootBuiltins x = some (.builtin id) ∧ CallR X (.builtin id) (fun xs H Q => ∃ y z, xs = [y, z] ∧ r2D X.K p y z H Q) := by
  unfold blt2 at h
  split at h
  · rename_i e; subst e; cases h; exact ⟨"min", by decide +kernel, call_min2D hc⟩
  split at h
  · rename_i e; subst e; cases h; exact ⟨"max", by decide +kernel, call_max2D hc⟩
  · cases h
theorem rl_isi {x : Str} {p : Prim} (h : isiP x = some p) : tyName p ≠ "" ∧ bootBuiltins x = some (.type (tyName p)) := by
  unfold isiP at h
  split at h
  · rename_i e; subst e; cases h; exact ⟨by decide, by decide +kernel⟩
  split at h
  · rename_i e; subst e; cases h; exact ⟨by decide, by decide +kernel⟩
  split at h
  · rename_i e; subst e; cases h; exact ⟨by decide, by decide +kernel⟩
  split at h
  · rename_i e; subst e; cases h; exact ⟨by decide, by decide +kernel⟩
  split at h
  · rename_i e; subst e; cases h; exact ⟨by decide, by decide +kernel⟩
  · cases h
theorem se_primR {M : Mode} {R : List V → Hp → VK → Prop} {ta : TA} {es : List E} {p : Prim} (hR : ∀ vs H Q, vs.length = es.length → rD K p vs H Q → R vs H Q) (hs : SA K call M ta es) : SE K call M (tCB R ta) (.prim p es) := fun F0 H0 c F H σ env w d w' S hv Q q => by
  rw [ev] at hv
  cases h1 : evs call es env w with
  | none => rw [h1] at hv; cases hv
  | some r =>
    rw [h1] at hv
    simp only [Option.bind_some] at hv
    cases h2 : prim p r.1 with
    | none => rw [h2] at hv; cases hv
    | some d2 =>
      rw [h2] at hv
      cases hv
      refine hs F0 H0 c F H σ env w r.1 r.2 S h1 _ fun vs F1 H1 S1 s1 k1 => hR vs H1 Q ?_ ?_
      · have l1 := k1.rd1.length
        rw [l1, evs_length h1]
      refine ⟨F1, r.1, _, S1.fh, k1.rd1, h2, fun v F2 H2 s2 k2 => ?_⟩
      refine q v F2 H2 (S1.calm s2) (s1.trans s2.weak) ?_
      show ResE K c (if freshP p = true then .fresh else .plain) H F2 H2 v d
      cases hf : freshP p with
      | true =>
        rw [hf] at k2
        obtain ⟨p1, o1, g1, g2, g3⟩ := k2
        exact ⟨p1, o1, g1, s1.fresh g2, g3⟩
      | false =>
        rw [hf] at k2
        exact k2
theorem ev_prim1 {e : E} {p : Prim} {env : Ev} {w : D} {r : D × D} (h : ev call (.prim p [e]) env w = some r) : ∃ d1, ev call e env w = some (d1, r.2) ∧ prim p [d1] = some r.1 := by
  rw [ev] at h
  cases h1 : evs call [e] env w with
  | none => rw [h1] at h; cases h
  | some q =>
    obtain ⟨d1, w1, ds, g1, g2, g3⟩ := evs_cons h1
    obtain ⟨q1, q2⟩ := q
    cases g2
    cases g3
    rw [h1] at h
    simp only [Option.bind_some] at h
    cases h2 : prim p [d1] with
    | none => rw [h2] at h; cases h
    | some d2 =>
      rw [h2] at h
      cases h
      exact ⟨d1, g1, h2⟩
theorem isi_fresh {p : Prim} (h : tyName p ≠ "") : freshP p = false := by
  cases p <;> first | rfl | exact absurd rfl h
theorem se_isi {M : Mode} {te : TE} {e : E} {p : Prim} {u : String} (hp : tyName p ≠ "") (h : SE K call M te e) : SE K call M (tCB (fun xs H Q => ∃ x, xs = [x, .ty u] ∧ r1D K p x H Q) (tCons te (tCons (tC (.ty u)) tNil))) (.prim p [e]) := fun F0 H0 c F H σ env w d w' S hv Q q => by
  obtain ⟨d1, g1, g2⟩ := ev_prim1 hv
  refine h F0 H0 c F H σ env w d1 w' S g1 _ fun v F1 H1 S1 s1 k1 => ⟨v, rfl, F1, [d1], d, S1.fh, .cons (k1.rdC S.cex).rd1 .nil, g2, fun v2 F2 H2 s2 k2 => q v2 F2 H2 (S1.calm s2) (s1.trans s2.weak) ?_⟩
  show ResE K c (if freshP p = true then .fresh else .plain) H F2 H2 v2 d
  rw [isi_fresh hp] at k2 ⊢
  exact k2
/-! slices -/
theorem slD_prim {lo hi : Option Int} {a d : D} (h : slD lo hi a = some d) : True := trivial
theorem se_sl {M : Mode} {te : TE} {e : E} {lo hi : Option (TE × E)} {p : Prim} (h : SE K call M te e) (hlo : ∀ x, lo = some x → SE K call M x.1 x.2) (hhi : ∀ x, hi = some x → SE K call M x.1 x.2) (hp : p = .sl lo.isSome hi.isSome) :
    SE K call M (tSl (rSlD K) te (match lo with | none => tNoPart | some x => tPart x.1) (match hi with | none => tNoPart | some x => tPart x.1)) (.prim p (e :: ((lo.toList.map (·.2)) ++ hi.toList.map (·.2)))) := fun F0 H0 c F H σ env w d w' S hv Q q => by
  subst hp
  rw [ev] at hv
  cases h1 : evs call (e :: ((lo.toList.map (·.2)) ++ hi.toList.map (·.2))) env w with
  | none => rw [h1] at hv; cases hv
  | some r =>
    rw [h1] at hv
    simp only [Option.bind_some] at hv
    cases h2 : prim (.sl lo.isSome hi.isSome) r.1 with
    | none => rw [h2] at hv; cases hv
    | some d2 =>
      rw [h2] at hv
      cases hv
      obtain ⟨d1, w1, ds, g1, g2, g3⟩ := evs_cons h1
      rw [g3] at h2
      refine h F0 H0 c F H σ env w d1 w1 S g1 _ fun v F1 H1 S1 s1 k1 => ?_
      have k1 := k1.rdC S.cex
      have fin : ∀ {F2 H2 : Hp} {l u : Option Int}, Stt K M F0 H0 c F2 H2 σ env r.2 → Step c F1 H1 F2 H2 → slD l u d1 = some d → rSlD K v l u H2 Q := fun {F2 H2 l u} S2 s2 z =>
        ⟨F2, d1, d, S2.fh, (k1.step s2).rd1, z, fun v3 F3 H3 s3 k3 => q v3 F3 H3 (S2.calm s3) ((s1.trans s2).trans s3.weak) k3⟩
      cases lo with
      | none =>
        cases hi with
        | none =>
          cases g2
          exact fin S1 (Step.refl S1.fh) h2
        | some y =>
          obtain ⟨d3, w3, ds', g4, g5, g6⟩ := evs_cons g2
          have g6 : ds = d3 :: ds' := g6
          rw [g6] at h2
          cases g5
          refine hhi y rfl F0 H0 c F1 H1 σ env w1 d3 _ S1 g4 _ fun v3 F3 H3 S3 s3 k3 => ?_
          have k3 := k3.rdC S1.cex
          cases d3 with
          | int i => exact ⟨i, k3.rd1.int, fin S3 s3 h2⟩
          | _ => cases h2
      | some x =>
        obtain ⟨d3, w3, ds', g4, g5, g6⟩ := evs_cons g2
        have g6 : ds = d3 :: ds' := g6
        rw [g6] at h2
        refine hlo x rfl F0 H0 c F1 H1 σ env w1 d3 w3 S1 g4 _ fun v3 F3 H3 S3 s3 k3 => ?_
        have k3 := k3.rdC S1.cex
        cases hi with
        | none =>
          cases g5
          cases d3 with
          | int i => exact ⟨i, k3.rd1.int, fin S3 s3 h2⟩
          | _ => cases h2
        | some y =>
          obtain ⟨d4, w4, ds2, g7, g8, g9⟩ := evs_cons g5
          have g9 : ds' = d4 :: ds2 := g9
          rw [g9] at h2
          cases g8
          cases d3 with
          | int i =>
            refine ⟨i, k3.rd1.int, ?_⟩
            refine hhi y rfl F0 H0 c F3 H3 σ env w3 d4 _ S3 g7 _ fun v4 F4 H4 S4 s4 k4 => ?_
            have k4 := k4.rdC S3.cex
            cases d4 with
            | int j => exact ⟨j, k4.rd1.int, fin S4 (s3.trans s4) h2⟩
            | _ => cases h2
          | _ => cases h2
end
end PyI
set_option Elab.async false
set_option linter.all false
set_option maxRecDepth 100000
set_option maxHeartbeats 1000000
namespace PyI
open PySem L2 PySem.Spec

section
variable {P : Program} {w : World} {K : PySem.W.Frag} {mg : Str → Option Value} {base : Heap} {k : Nat} {call : CallF} {c : Ctx} {X : Cx}
theorem isCup_inv {e : Expr} (h : isCup c e = true) : ∃ x pos s, e = .Name x pos ∧ c.cs = some s ∧ varE c x = some s := by
  cases e with
  | Name x pos =>
    have z := of_decide_eq_true h
    obtain ⟨s, hs⟩ := Option.isSome_iff_exists.mp z.1
    exact ⟨x, pos, s, rfl, hs, by rw [z.2, hs]⟩
  | _ => cases h
theorem Gd.callU (g : Gd P w K mg base k c X) {x : Str} {sp : Sp} (h : CalOk P w K mg base k x sp) (hx : isGl c x = true) (ho : oddName x = false) {p pos : Pos} {e : Expr} {es : List Expr} {t : TA} (ha : PA X (e :: es) t) (hs : (e :: es).all (fun e => !isStar e) = true) :
    PE X (.Call (.Name x p) (e :: es) [] pos) (tCall sp [] E0 t) := by
  obtain ⟨f, fd, ps, F, m, kp, bd⟩ := h
  have hl := g.gl hx
  obtain ⟨h1, _, _⟩ := oddName_not ho
  rw [List.all_cons, Bool.and_eq_true] at hs
  obtain ⟨rfl, rfl, rfl, rfl, rfl, _, _, _, room, gd, _⟩ := g
  exact pe_callG F room gd hl m kp bd ha h1 (notStar' (by simpa using hs.1)) (plainStar hs.2)
theorem Gd.call0 (g : Gd P w K mg base k c X) {x : Str} {sp : Sp} (h : CalOk P w K mg base k x sp) (hx : isGl c x = true) (ho : oddName x = false) {p pos : Pos} :
    PE X (.Call (.Name x p) [] [] pos) (tCall sp [] E0 tNil) := by
  obtain ⟨f, fd, ps, F, m, kp, bd⟩ := h
  have hl := g.gl hx
  obtain ⟨h1, _, _⟩ := oddName_not ho
  obtain ⟨rfl, rfl, rfl, rfl, rfl, _, _, _, room, gd, _⟩ := g
  exact pe_callG0 F room gd hl m kp bd h1
theorem rangeOf_inv {a : Expr} {as : List Expr} (h : rangeOf c a = some as) : ∃ p pos, a = .Call (.Name "range" p) as [] pos ∧ bltOk c "range" = true := by
  unfold rangeOf at h
  split at h
  · rename_i x p args pos
    split at h
    · rename_i z
      rw [Bool.and_eq_true] at z
      cases h
      have e : x = ("range" : Str) := of_decide_eq_true z.1
      subst e
      exact ⟨p, pos, rfl, z.2⟩
    · cases h
  · cases h
theorem setOf_inv {x : Str} {a b : Expr} (h : setOf c x a = some b) : ∃ p pos, a = .Call (.Name "set" p) [b] [] pos ∧ x = "len" ∧ bltOk c "set" = true ∧ isStar b = false := by
  unfold setOf at h
  split at h
  · rename_i y p b' pos
    split at h
    · rename_i z
      rw [Bool.and_eq_true, Bool.and_eq_true, Bool.and_eq_true] at z
      cases h
      have e : y = ("set" : Str) := of_decide_eq_true z.1.1.2
      subst e
      exact ⟨p, pos, rfl, of_decide_eq_true z.1.1.1, z.1.2, by simpa using z.2⟩
    · cases h
  · cases h
/-- list(range(..)), tuple(range(..)) -/
theorem rangeE_inv {f : Expr → Option E} {t : Bool} {as : List Expr} {e : E} (h : rangeE c f t as = some e) : (∃ x1 e1, as = [x1] ∧ isStar x1 = false ∧ f x1 = some e1 ∧ e = .prim (if t = true then .trange1 else .range1) [e1]) ∨
    ∃ x1 x2 e1 e2, as = [x1, x2] ∧ isStar x1 = false ∧ isStar x2 = false ∧ f x1 = some e1 ∧ f x2 = some e2 ∧ e = .prim (if t = true then .trange2 else .range2) [e1, e2] := by
  unfold rangeE at h
  have one : ∀ {x : Expr} {r : List Expr} {es : List E}, trL f (x :: r) = some es → isStar x = false ∧ ∃ e er, f x = some e ∧ trL f r = some er ∧ es = e :: er := fun {x r es} h => by
    rw [trL] at h
    split at h
    · cases h
    · rename_i hs
      refine ⟨by simpa using hs, ?_⟩
      cases q : f x with
      | none => rw [q] at h; cases h
      | some e =>
        rw [q] at h
        simp only [Option.bind_some] at h
        cases q2 : trL f r with
        | none => rw [q2] at h; cases h
        | some er =>
          rw [q2] at h
          cases h
          exact ⟨e, er, rfl, rfl, rfl⟩
  cases q : trL f as with
  | none => rw [q] at h; cases h
  | some es =>
    rw [q] at h
    simp only [Option.bind_some] at h
    cases as with
    | nil => cases q; cases h
    | cons x1 r =>
      obtain ⟨s1, e1, er, f1, t1, rfl⟩ := one q
      cases r with
      | nil =>
        cases t1
        cases h
        exact .inl ⟨x1, e1, rfl, s1, f1, rfl⟩
      | cons x2 r =>
        obtain ⟨s2, e2, er2, f2, t2, rfl⟩ := one t1
        cases r with
        | nil =>
          cases t2
          cases h
          exact .inr ⟨x1, x2, e1, e2, rfl, s1, s2, f1, f2, rfl⟩
        | cons x3 r =>
          obtain ⟨s3, e3, er3, f3, t3, rfl⟩ := one t2
          cases h
theorem sd_lrange (T : Tab P w K mg base k call c) {f : Expr → Option E} (hf : ∀ pe e, f pe = some e → SdE P w K mg base k call c pe e) {p pos : Pos} {a : Expr} {as : List Expr} {e : E} (hb : bltOk c "list" = true) (h : rangeOf c a = some as) (h2 : rangeE c f false as = some e) : SdE P w K mg base k call c (.Call (.Name "list" p) [a] [] pos) e := by
  obtain ⟨p2, pos2, rfl, hr⟩ := rangeOf_inv h
  rcases rangeE_inv h2 with ⟨x1, e1, rfl, s1, f1, rfl⟩ | ⟨x1, x2, e1, e2, rfl, s1, s2, f1, f2, rfl⟩
  · obtain ⟨te, a1, a2⟩ := hf x1 e1 f1
    refine ⟨_, fun X g => ?_, se_lrg1 a2⟩
    obtain ⟨l1, l2, _, _⟩ := bltOk_inv T g hb
    obtain ⟨m1, m2, _, _⟩ := bltOk_inv T g hr
    exact pe_listRg g.calm l1 l2 (prg_1 m1 m2 (a1 X g) (notStar' s1)) (notStar' rfl)
  · obtain ⟨te, a1, a2⟩ := hf x1 e1 f1
    obtain ⟨tf, b1, b2⟩ := hf x2 e2 f2
    refine ⟨_, fun X g => ?_, se_lrg2 a2 b2⟩
    obtain ⟨l1, l2, _, _⟩ := bltOk_inv T g hb
    obtain ⟨m1, m2, _, _⟩ := bltOk_inv T g hr
    exact pe_listRg g.calm l1 l2 (prg_2 m1 m2 (a1 X g) (b1 X g) (notStar' s1) (notStar' s2) (plainStar (by simp [s2]))) (notStar' rfl)
theorem sd_trange (T : Tab P w K mg base k call c) {f : Expr → Option E} (hf : ∀ pe e, f pe = some e → SdE P w K mg base k call c pe e) {p pos : Pos} {a : Expr} {as : List Expr} {e : E} (hb : bltOk c "tuple" = true) (h : rangeOf c a = some as) (h2 : rangeE c f true as = some e) : SdE P w K mg base k call c (.Call (.Name "tuple" p) [a] [] pos) e := by
  obtain ⟨p2, pos2, rfl, hr⟩ := rangeOf_inv h
  rcases rangeE_inv h2 with ⟨x1, e1, rfl, s1, f1, rfl⟩ | ⟨x1, x2, e1, e2, rfl, s1, s2, f1, f2, rfl⟩
  · obtain ⟨te, a1, a2⟩ := hf x1 e1 f1
    refine ⟨_, fun X g => ?_, se_trg1 a2⟩
    obtain ⟨l1, l2, _, _⟩ := bltOk_inv T g hb
    obtain ⟨m1, m2, _, _⟩ := bltOk_inv T g hr
    exact pe_tupRg g.calm l1 l2 (prg_1 m1 m2 (a1 X g) (notStar' s1)) (notStar' rfl)
  · obtain ⟨te, a1, a2⟩ := hf x1 e1 f1
    obtain ⟨tf, b1, b2⟩ := hf x2 e2 f2
    refine ⟨_, fun X g => ?_, se_trg2 a2 b2⟩
    obtain ⟨l1, l2, _, _⟩ := bltOk_inv T g hb
    obtain ⟨m1, m2, _, _⟩ := bltOk_inv T g hr
    exact pe_tupRg g.calm l1 l2 (prg_2 m1 m2 (a1 X g) (b1 X g) (notStar' s1) (notStar' s2) (plainStar (by simp [s2]))) (notStar' rfl)
theorem sd_call (T : Tab P w K mg base k call c) {f : Expr → Option E} (hf : ∀ pe e, f pe = some e → SdE P w K mg base k call c pe e) {x : Str} {p pos : Pos} {args : List Expr} {e : E} (h : callE c f x args = some e) : SdE P w K mg base k call c (.Call (.Name x p) args [] pos) e := by
  unfold callE at h
  cases q : c.fns.lookup x with
  | some fe =>
    rw [q] at h
    simp only at h
    have cal := T.fns x fe q
    split at h
    · rename_i z
      rw [Bool.and_eq_true] at z
      have ho : oddName x = false := by simpa using z.2
      split at h
      · rename_i hc
        unfold spOf at cal
        rw [if_pos hc] at cal
        match args, h with
        | a :: r, h =>
          simp only at h
          split at h
          · rename_i ha
            obtain ⟨y, py, s, rfl, hs, hv⟩ := isCup_inv ha
            cases q2 : trL f r with
            | none => rw [q2] at h; cases h
            | some es =>
              rw [q2] at h
              simp only [Option.bind_some] at h
              split at h
              · rename_i hn
                rw [Bool.and_eq_true] at hn
                cases h
                obtain ⟨⟨ta, a1, a2, a3⟩, b1, b2⟩ := sd_args hf q2
                refine ⟨_, fun X g => g.callU cal z.1 ho (pa_cons (g.var hv) (a1 X g) (notStar' rfl)) (by rw [List.all_cons, b1]; rfl), se_callC (M := c.M) hs (a3 hn.1) (of_decide_eq_true hn.2)⟩
              · cases h
          · cases h
      · rename_i hc
        unfold spOf at cal
        rw [if_neg hc] at cal
        cases q2 : trL f args with
        | none => rw [q2] at h; cases h
        | some es =>
          rw [q2] at h
          simp only [Option.bind_some] at h
          split at h
          · rename_i hn
            cases h
            obtain ⟨⟨ta, a1, a2, a3⟩, b1, b2⟩ := sd_args hf q2
            cases args with
            | nil =>
              have e0 : es = [] := by
                cases es with
                | nil => rfl
                | cons _ _ => simp at b2
              subst e0
              exact ⟨_, fun X g => g.call0 cal z.1 ho, se_call sav_nil hn⟩
            | cons a r =>
              refine ⟨_, fun X g => g.callU cal z.1 ho (a1 X g) b1, ?_⟩
              cases hno : noOwn c es with
              | true => exact se_call (a3 hno) hn
              | false => exact se_callL a2 hn
          · cases h
    · cases h
  | none =>
    rw [q] at h
    simp only at h
    split at h
    · rename_i hb
      match args, h with
      | [a], hh =>
        simp only at hh
        split at hh
        · cases hh
        · rename_i hs
          have hs : isStar a = false := by simpa using hs
          cases q0 : setOf c x a with
          | some b =>
            rw [q0] at hh
            simp only at hh
            obtain ⟨p2, pq, rfl, hx, hb2, hs2⟩ := setOf_inv q0
            subst hx
            cases q2 : f b with
            | none => rw [q2] at hh; cases hh
            | some e1 =>
              rw [q2] at hh
              cases hh
              obtain ⟨te, a1, a2⟩ := hf b e1 q2
              refine ⟨_, fun X g => ?_, se_lenset a2⟩
              obtain ⟨l1, l2, _, _⟩ := bltOk_inv T g hb
              obtain ⟨m1, m2, _, _⟩ := bltOk_inv T g hb2
              have := pe_lenSetG (X := X) (p := p) (p2 := p2) (q := pq) (pos := pos) g.calm l1 l2 m1 m2 (a1 X g) (notStar' hs2)
              rw [g.K] at this
              exact this
          | none =>
          rw [q0] at hh
          simp only at hh
          cases q1 : blt1 x with
          | some pr =>
            rw [q1] at hh
            simp only at hh
            cases q2 : f a with
            | none => rw [q2] at hh; cases hh
            | some e1 =>
              rw [q2] at hh
              cases hh
              obtain ⟨te, a1, a2⟩ := hf a e1 q2
              refine ⟨tCB (fun xs H Q => ∃ y, xs = [y] ∧ r1D K pr y H Q) (tCons te tNil), fun X g => ?_, se_primR (fun vs H Q hl z => match vs, hl, z with | [y], _, z => ⟨y, rfl, z⟩) (sa_cons a2 sa_nil)⟩
              obtain ⟨id, h1, h2⟩ := rl_blt1 g.calm g.gd g.hu q1
              obtain ⟨l1, l2, l3, l4⟩ := bltOk_inv T g hb
              rw [g.K] at h2
              exact pe_callB h2 l1 l2 h1 (pa_cons (a1 X g) pa_nil (notStar' hs)) l3 l4 (notStar' hs) rfl
          | none =>
            rw [q1] at hh
            simp only at hh
            cases qr : rangeOf c a with
            | some as =>
              rw [qr] at hh
              simp only at hh
              split at hh
              · rename_i hx
                subst hx
                exact sd_lrange T hf hb qr hh
              split at hh
              · rename_i hx
                subst hx
                exact sd_trange T hf hb qr hh
              · cases hh
            | none =>
              rw [qr] at hh
              simp only at hh
              cases q3 : ty1 x with
              | none => rw [q3] at hh; cases hh
              | some pr =>
                rw [q3] at hh
                simp only at hh
                cases q2 : f a with
                | none => rw [q2] at hh; cases hh
                | some e1 =>
                  rw [q2] at hh
                  cases hh
                  obtain ⟨te, a1, a2⟩ := hf a e1 q2
                  refine ⟨tCB (fun xs H Q => ∃ y, xs = [y] ∧ r1D K pr y H Q) (tCons te tNil), fun X g => ?_, se_primR (fun vs H Q hl z => match vs, hl, z with | [y], _, z => ⟨y, rfl, z⟩) (sa_cons a2 sa_nil)⟩
                  obtain ⟨id, h1, h2⟩ := rl_ty1 (X := X) g.calm q3
                  obtain ⟨l1, l2, l3, l4⟩ := bltOk_inv T g hb
                  rw [g.K] at h2
                  exact pe_callTy h2 l1 l2 h1 (pa_cons (a1 X g) pa_nil (notStar' hs)) l3 l4 (notStar' hs) rfl
      | [a, b], h =>
        simp only at h
        split at h
        · cases h
        · rename_i hs
          have hs : isStar a = false ∧ isStar b = false := by simpa using hs
          cases q1 : blt2 x with
          | some pr =>
            rw [q1] at h
            simp only at h
            cases q2 : f a with
            | none => rw [q2] at h; cases h
            | some e1 =>
              rw [q2] at h
              simp only [Option.bind_some] at h
              cases q3 : f b with
              | none => rw [q3] at h; cases h
              | some e2 =>
                rw [q3] at h
                cases h
                obtain ⟨te, a1, a2⟩ := hf a e1 q2
                obtain ⟨tf, b1, b2⟩ := hf b e2 q3
                refine ⟨tCB (fun xs H Q => ∃ y z, xs = [y, z] ∧ r2D K pr y z H Q) (tCons te (tCons tf tNil)), fun X g => ?_, se_primR (fun vs H Q hl z => match vs, hl, z with | [y, u], _, z => ⟨y, u, rfl, z⟩) (sa_cons a2 (sa_cons b2 sa_nil))⟩
                obtain ⟨id, h1, h2⟩ := rl_blt2 g.calm q1
                obtain ⟨l1, l2, l3, l4⟩ := bltOk_inv T g hb
                rw [g.K] at h2
                exact pe_callB h2 l1 l2 h1 (pa_cons (a1 X g) (pa_cons (b1 X g) pa_nil (notStar' hs.2)) (notStar' hs.1)) l3 l4 (notStar' hs.1) (plainStar (by simp [hs.2]))
          | none =>
            rw [q1] at h
            simp only at h
            split at h
            · rename_i hx
              subst hx
              cases b with
              | Name y py =>
                simp only at h
                split at h
                · rename_i hy
                  cases q2 : isiP y with
                  | none => rw [q2] at h; cases h
                  | some pr =>
                    rw [q2] at h
                    simp only [Option.bind_some] at h
                    cases q3 : f a with
                    | none => rw [q3] at h; cases h
                    | some e1 =>
                      rw [q3] at h
                      cases h
                      obtain ⟨te, a1, a2⟩ := hf a e1 q3
                      obtain ⟨t1, t2⟩ := rl_isi q2
                      refine ⟨_, fun X g => ?_, se_isi (u := tyName pr) t1 a2⟩
                      obtain ⟨l1, l2, l3, l4⟩ := bltOk_inv T g hb
                      obtain ⟨m1, m2, m3, m4⟩ := bltOk_inv T g hy
                      have rule := call_isiD (X := X) pr t1
                      rw [g.K] at rule
                      exact pe_callB rule l1 l2 PyProof.Rows.boot_isinstance (pa_cons (a1 X g) (pa_cons (pe_bltn m1 m2 t2 rfl m3 m4) pa_nil (notStar' rfl)) (notStar' hs.1)) l3 l4 (notStar' hs.1) (plainStar rfl)
                · cases h
              | _ => cases h
            · cases h
    · split at h
      · rename_i hb
        match args, h with
        | [a, b], h =>
          simp only at h
          split at h
          · cases h
          · rename_i hs
            have hs : isStar a = false ∧ isStar b = false := by simpa using hs
            cases q2 : f a with
            | none => rw [q2] at h; cases h
            | some e1 =>
              rw [q2] at h
              simp only [Option.bind_some] at h
              cases q3 : f b with
              | none => rw [q3] at h; cases h
              | some e2 =>
                rw [q3] at h
                cases h
                obtain ⟨te, a1, a2⟩ := hf a e1 q2
                obtain ⟨tf, b1, b2⟩ := hf b e2 q3
                refine ⟨tCB (fun xs H Q => ∃ y z, xs = [y, z] ∧ r2D K .gcd2 y z H Q) (tCons te (tCons tf tNil)), fun X g => ?_, se_primR (fun vs H Q hl z => match vs, hl, z with | [y, u], _, z => ⟨y, u, rfl, z⟩) (sa_cons a2 (sa_cons b2 sa_nil))⟩
                obtain ⟨rfl, l1, l2⟩ := gcdOk_inv T g hb
                have h2 := call_gcdD (X := X)
                rw [g.K] at h2
                exact pe_callBfun h2 l1 l2 (pa_cons (a1 X g) (pa_cons (b1 X g) pa_nil (notStar' hs.2)) (notStar' hs.1)) (by decide) (notStar' hs.1) (plainStar (by simp [hs.2]))
        | [], h => cases h
        | [_], h => cases h
        | _ :: _ :: _ :: _, h => cases h
      · cases h
end
end PyI
set_option Elab.async false
set_option linter.all false
set_option maxRecDepth 100000
set_option maxHeartbeats 1000000
namespace PyI
open PySem L2 PySem.Spec

section
variable {P : Program} {w : World} {K : PySem.W.Frag} {mg : Str → Option Value} {base : Heap} {k : Nat} {call : CallF} {c : Ctx} {X : Cx}
/-! ### targets -/
theorem assignOne {e : Expr} {es : List Expr} {env : Env} (h : isStar e = false) : (assignEach (e :: es) env).map (·.2) = assign e env :: (assignEach es env).map (·.2) := by
  cases e <;> first | rfl | cases h
theorem assignLen {env : Env} : ∀ {es : List Expr}, (assignEach es env).length = es.length
  | [] => rfl
  | e :: es => by
    have : (assignEach (e :: es) env).length = (assignEach es env).length + 1 := by cases e <;> rfl
    rw [this, assignLen, List.length_cons]
theorem assignNoStar {env : Env} : ∀ {es : List Expr}, es.all (fun e => !isStar e) = true → (assignEach es env).findIdx? (·.1) = none
  | [], _ => rfl
  | e :: es, h => by
    rw [List.all_cons, Bool.and_eq_true] at h
    have : assignEach (e :: es) env = (false, assign e env) :: assignEach es env := by
      have h1 := h.1
      cases e <;> first | rfl | (simp [isStar] at h1)
    rw [this, List.findIdx?_cons]
    simp only [Bool.false_eq_true, if_false]
    rw [assignNoStar h.2]
    rfl
mutual
theorem sd_G (T0 : Tab P w K mg base k call c) : ∀ {pe : Expr} {t : T}, trG c pe = some t → SdG P w K mg base k c pe t
  | .Name x pos, t, h => by
    rw [trG] at h
    cases q : ixOf x c.N with
    | none => rw [q] at h; cases h
    | some i =>
      rw [q] at h
      simp only [Option.bind_some] at h
      split at h
      · rename_i hl
        cases h
        refine ⟨gName i, fun X g => ?_, fun vs hv => sg_nm hv⟩
        exact pg_name (by rw [g.N]; exact T0.nd) (by rw [g.N]; exact ixOf_get q) (.inl (by rw [g.sc]; exact hl)) (.inr (by rw [g.sc]; exact hl))
      · rename_i hl
        split at h
        · rename_i hc
          cases h
          refine ⟨gName i, fun X g => ?_, fun vs hv => sg_nm hv⟩
          exact pg_name (by rw [g.N]; exact T0.nd) (by rw [g.N]; exact ixOf_get q) (.inr (by rw [g.sc]; exact hl)) (.inl (g.fn x hc))
        · cases h
      · cases h
  | .Tuple es kk pos, t, h => by
    rw [trG] at h
    cases q : trGs c es with
    | none => rw [q] at h; cases h
    | some ts =>
      rw [q] at h
      cases h
      obtain ⟨g', h1, h2, h3, h4⟩ := sd_Gs T0 q
      refine ⟨gTup K es.length g', fun X g => ?_, fun vs hv => sg_tp (h2 vs hv) h3.symm⟩
      have := pg_tup (X := X) (k := kk) (pos := pos) (n := es.length) g.calm (h1 X g) assignLen (assignNoStar h4)
      rw [g.K] at this
      exact this
  | .BoolOp .., _, h | .NamedExpr .., _, h | .BinOp .., _, h | .UnaryOp .., _, h | .Lambda .., _, h | .IfExp .., _, h | .Dict .., _, h | .Set .., _, h | .ListComp .., _, h | .SetComp .., _, h | .DictComp .., _, h
  | .GeneratorExp .., _, h | .Await .., _, h | .Yield .., _, h | .YieldFrom .., _, h | .Compare .., _, h | .Call .., _, h | .FormattedValue .., _, h | .JoinedStr .., _, h | .Constant .., _, h | .Attribute .., _, h
  | .Subscript .., _, h | .Starred .., _, h | .List .., _, h | .Slice .., _, h => by rw [trG] at h <;> first | cases h | simp
theorem sd_Gs (T0 : Tab P w K mg base k call c) : ∀ {pes : List Expr} {ts : List T}, trGs c pes = some ts → SdGs P w K mg base k c pes ts
  | [], ts, h => by
    rw [trGs] at h
    cases h
    exact ⟨gNil, fun X g => pgs_nil, fun vs _ => sgs_nil, rfl, rfl⟩
  | e :: es, ts, h => by
    rw [trGs] at h
    split at h
    · cases h
    · rename_i hs
      have hs : isStar e = false := by simpa using hs
      cases q : trG c e with
      | none => rw [q] at h; cases h
      | some t =>
        rw [q] at h
        simp only [Option.bind_some] at h
        cases q2 : trGs c es with
        | none => rw [q2] at h; cases h
        | some r =>
          rw [q2] at h
          cases h
          obtain ⟨g1, a1, a2⟩ := sd_G T0 q
          obtain ⟨g2, b1, b2, b3, b4⟩ := sd_Gs T0 q2
          refine ⟨gCons g1 g2, fun X g => pgs_cons (a1 X g) (b1 X g) (assignOne hs), fun vs hv => ?_, by rw [List.length_cons, List.length_cons, b3], by rw [List.all_cons, b4, hs]; rfl⟩
          rw [T.oks, Bool.and_eq_true] at hv
          exact sgs_cons (a2 vs hv.1) (b2 vs hv.2)
end
/-! ### what is walked -/
theorem sd_Iseq {f : Expr → Option E} (hf : ∀ pe e, f pe = some e → SdE P w K mg base k call c pe e) {tg iter : Expr} {ks : ItK × List E} (h : (f iter).map (fun e => (ItK.seq, [e])) = some ks) : SdI P w K mg base k call c tg iter ks := by
  cases q : f iter with
  | none => rw [q] at h; cases h
  | some e =>
    rw [q] at h
    cases h
    obtain ⟨te, a1, a2⟩ := hf iter e q
    refine ⟨iSeq K te, fun X g => ?_, si_seq a2, fun n => ?_⟩
    · have := pi_seq (tg := tg) (a1 X g)
      rw [g.K] at this
      exact this
    · unfold noOwn at n
      rw [List.all_cons, Bool.and_eq_true] at n
      exact sif_seq (a2.sv (of_decide_eq_true n.1))
theorem isTupE_inv {e : Expr} (h : isTupE e = true) : ∃ es kk pos, e = .Tuple es kk pos := by
  cases e with
  | Tuple es kk pos => exact ⟨es, kk, pos, rfl⟩
  | _ => cases h
theorem trL_one {f : Expr → Option E} {args : List Expr} {a : E} (h : trL f args = some [a]) : ∃ x, args = [x] := by
  match args, h with
  | [], h => cases h
  | [x], _ => exact ⟨x, rfl⟩
  | x :: y :: r, h =>
    exfalso
    rw [trL] at h
    split at h
    · cases h
    · cases q : f x with
      | none => rw [q] at h; cases h
      | some e =>
        rw [q] at h
        simp only [Option.bind_some] at h
        cases q2 : trL f (y :: r) with
        | none => rw [q2] at h; cases h
        | some l =>
          rw [q2] at h
          simp only [Option.map_some, Option.some.injEq, List.cons.injEq] at h
          rw [h.2, trL] at q2
          split at q2
          · cases q2
          · cases q3 : f y with
            | none => rw [q3] at q2; cases q2
            | some e3 =>
              rw [q3] at q2
              simp only [Option.bind_some] at q2
              cases q4 : trL f r with
              | none => rw [q4] at q2; cases q2
              | some l4 => rw [q4] at q2; cases q2
theorem trL_len {f : Expr → Option E} : ∀ {args : List Expr} {es : List E}, trL f args = some es → args.length = es.length
  | [], _, h => by cases h; rfl
  | x :: r, es, h => by
    rw [trL] at h
    split at h
    · cases h
    · cases q : f x with
      | none => rw [q] at h; cases h
      | some e =>
        rw [q] at h
        simp only [Option.bind_some] at h
        cases q2 : trL f r with
        | none => rw [q2] at h; cases h
        | some l =>
          rw [q2] at h
          cases h
          rw [List.length_cons, List.length_cons, trL_len q2]
theorem sd_I (T : Tab P w K mg base k call c) {f : Expr → Option E} (hf : ∀ pe e, f pe = some e → SdE P w K mg base k call c pe e) {tg iter : Expr} {ks : ItK × List E} (h : trI c f tg iter = some ks) : SdI P w K mg base k call c tg iter ks := by
  unfold trI at h
  split at h
  · rename_i x px args pos
    split at h
    · rename_i hb
      split at h
      · rename_i hx
        subst hx
        cases q : trL f args with
        | none => rw [q] at h; cases h
        | some es =>
          rw [q] at h
          obtain ⟨⟨ta, a1, a2, a3⟩, b1, b2⟩ := sd_args hf q
          match es, h, b2 with
          | [e1], h, b2 =>
            cases h
            match args, b2 with
            | [x1], _ =>
              rw [List.all_cons] at b1
              have hs : isStar x1 = false := by simpa using b1
              refine ⟨iRng1 ta, fun X g => ?_, si_rng1 a2, fun n => sif_rng1 a2⟩
              obtain ⟨l1, l2, l3, l4⟩ := bltOk_inv T g hb
              exact pi_range1 l1 l2 (a1 X g) (notStar' hs)
          | [e1, e2], h, b2 =>
            cases h
            match args, b2 with
            | [x1, x2], _ =>
              rw [List.all_cons, List.all_cons] at b1
              have hs : isStar x1 = false ∧ isStar x2 = false := by simpa using b1
              refine ⟨iRng2 ta, fun X g => ?_, si_rng2 a2, fun n => sif_rng2 a2⟩
              obtain ⟨l1, l2, l3, l4⟩ := bltOk_inv T g hb
              have e2 : starEach [x2] X.env = [(false, eval x2 X.env)] := notStar' hs.2
              exact pi_range2 l1 l2 (a1 X g) (by rw [notStar' hs.1, e2]) e2
          | [e1, e2, e3], h, b2 =>
            cases h
            match args, b2 with
            | [x1, x2, x3], _ =>
              rw [List.all_cons, List.all_cons, List.all_cons] at b1
              have hs : isStar x1 = false ∧ isStar x2 = false ∧ isStar x3 = false := by simpa using b1
              refine ⟨iRng3 ta, fun X g => ?_, si_rng3 a2, fun n => sif_rng3 a2⟩
              obtain ⟨l1, l2, l3, l4⟩ := bltOk_inv T g hb
              exact pi_range3 l1 l2 (a1 X g) (notStar' hs.1) (plainStar (by simp [hs.2.1, hs.2.2]))
      split at h
      · rename_i hx
        subst hx
        cases q : trL f args with
        | none => rw [q] at h; cases h
        | some es =>
          rw [q] at h
          obtain ⟨⟨ta, a1, a2, a3⟩, b1, b2⟩ := sd_args hf q
          match es, h, b2 with
          | [e1], h, b2 =>
            simp only [Option.bind_some] at h
            split at h
            · rename_i ht
              cases h
              obtain ⟨tes, kk, tpos, rfl⟩ := isTupE_inv ht
              match args, b2 with
              | [x1], _ =>
                rw [List.all_cons] at b1
                have hs : isStar x1 = false := by simpa using b1
                refine ⟨iEnumX K ta, fun X g => ?_, si_enum a2, fun n => sif_enum (a3 n)⟩
                obtain ⟨l1, l2, l3, l4⟩ := bltOk_inv T g hb
                have := pi_enumX (X := X) (p := px) (pos := pos) (tpos := tpos) (elts := tes) (kk := kk) l1 l2 (a1 X g) (notStar' hs)
                rw [g.K] at this
                exact this
            · cases h
      split at h
      · rename_i hx
        subst hx
        cases q : trL f args with
        | none => rw [q] at h; cases h
        | some es =>
          rw [q] at h
          obtain ⟨⟨ta, a1, a2, a3⟩, b1, b2⟩ := sd_args hf q
          match es, h, b2 with
          | [e1, e2], h, b2 =>
            simp only [Option.bind_some] at h
            split at h
            · rename_i ht
              cases h
              obtain ⟨tes, kk, tpos, rfl⟩ := isTupE_inv ht
              match args, b2 with
              | [x1, x2], _ =>
                have b1' := b1
                rw [List.all_cons, List.all_cons] at b1
                have hs : isStar x1 = false ∧ isStar x2 = false := by simpa using b1
                refine ⟨iZip2X K ta, fun X g => ?_, si_zip a2, fun n => sif_zip (a3 n)⟩
                obtain ⟨l1, l2, l3, l4⟩ := bltOk_inv T g hb
                have := pi_zip2X (X := X) (p := px) (pos := pos) (tpos := tpos) (elts := tes) (kk := kk) l1 l2 (a1 X g) (notStar' hs.1) (plainStar (by simp [hs.2]))
                rw [g.K] at this
                exact this
            · cases h
          | [e1, e2, e3], h, b2 =>
            simp only [Option.bind_some] at h
            split at h
            · rename_i ht
              cases h
              obtain ⟨tes, kk, tpos, rfl⟩ := isTupE_inv ht
              match args, b2 with
              | [x1, x2, x3], _ =>
                rw [List.all_cons, List.all_cons, List.all_cons] at b1
                have hs : isStar x1 = false ∧ isStar x2 = false ∧ isStar x3 = false := by simpa using b1
                refine ⟨iZip3X K ta, fun X g => ?_, si_zip3 a2, fun n => sif_zip3 (a3 n)⟩
                obtain ⟨l1, l2, l3, l4⟩ := bltOk_inv T g hb
                have := pi_zip3X (X := X) (p := px) (pos := pos) (tpos := tpos) (elts := tes) (kk := kk) l1 l2 (a1 X g) (notStar' hs.1) (plainStar (by simp [hs.2.1, hs.2.2]))
                rw [g.K] at this
                exact this
            · cases h
      · exact sd_Iseq hf h
    · exact sd_Iseq hf h
  · exact sd_Iseq hf h
end
end PyI
set_option Elab.async false
set_option linter.all false
set_option maxRecDepth 100000
set_option maxHeartbeats 1000000
namespace PyI
open PySem L2 PySem.Spec

section
variable {P : Program} {w : World} {K : PySem.W.Frag} {mg : Str → Option Value} {base : Heap} {k : Nat} {call : CallF} {c : Ctx} {X : Cx}
theorem Tab.blk (T : Tab P w K mg base k call c) (scope : Scope) : Tab P w K mg base k call (c.blk scope) := ⟨T.fns, T.cons, T.blt, T.nd, T.pin⟩
theorem Gd.blk (g : Gd P w K mg base k c X) (scope : Scope) (s : Shared) (H : Hp) (C : Addr) (cl : List (Str × Addr)) (fp : List Addr) : Gd P w K mg base k (c.blk scope) (X.blk s H scope (compEnvC scope cl C X.env) fp) where
  prog := g.prog
  w := g.w
  K := g.K
  mg := g.mg
  base := g.base
  N := g.N
  sc := by
    show relS scope X.env.scope = relS scope c.sc
    rw [g.sc]
  calm := g.calm
  room := g.room
  gd := g.gd
  fn := fun x hx => by
    show (scope.names.lookup x == some .cell) = true
    have hx : ((cellsOf' scope).filter fun x => decide (scope.names.lookup x = some .cell)).contains x = true := hx
    have hm : x ∈ (cellsOf' scope).filter fun x => decide (scope.names.lookup x = some .cell) := List.contains_iff_mem.mp hx
    have := (List.mem_filter.mp hm).2
    rw [of_decide_eq_true this]
    rfl
/-! ### comprehensions -/
theorem sd_if {n : Nat} {f : Expr → Option E} (hf : ∀ pe e, f pe = some e → testOk n pe = true → SdT P w K mg base k call c pe e) {ifs : List Expr} {e : E} (h : trIf f (testOk n) ifs = some e) :
    ∃ tt, (∀ X, Gd P w K mg base k c X → PTs X ifs tt) ∧ ST K call c.M tt e := by
  match ifs, h with
  | [], h =>
    cases h
    refine ⟨tYes, fun X g => pts_nil, fun F0 H0 c F H σ env w b w' S hv Q q => ?_⟩
    cases hv
    exact q F H S (Step.refl S.fh)
  | [x], h =>
    rw [trIf] at h
    split at h
    · rename_i hx
      obtain ⟨tt, a1, a2⟩ := hf x e h hx
      exact ⟨tt, fun X g => pts_one (a1 X g), a2⟩
    · cases h
theorem sd_comp' {n : Nat} (T0 : Tab P w K mg base k call c) {f : Ctx → Expr → Option E} (hf : ∀ c, Tab P w K mg base k call c → ∀ pe e, f c pe = some e → SdE P w K mg base k call c pe e)
    (hT : ∀ c, Tab P w K mg base k call c → ∀ pe e, f c pe = some e → testOk n pe = true → SdT P w K mg base k call c pe e) {elt : Expr} {gens : List Comprehension} {scope : Scope} {pos : Pos} {e : E} (h : compE c n f elt gens scope = some e) :
    ∃ te, (∀ X, Gd P w K mg base k c X → PE X (.ListComp elt gens scope pos) te) ∧ SE K call c.M te e ∧ cls c.M e = .fresh ∧ ∀ X, Gd P w K mg base k c X → ∀ i y py spos, X.N[i]? = some y → X.env.scope.names.lookup y = some .local → swapsWith (.ListComp elt gens scope pos) (some (.Name y py)) spos.line X.env = pure true →
      PS X (.Assign [.Name y py] (.ListComp elt gens scope pos) spos) (tAsg te (gName i)) := by
  unfold compE at h
  split at h
  · rename_i tg iter ifs
    simp only at h
    split at h
    · rename_i z
      rw [Bool.and_eq_true, Bool.and_eq_true] at z
      obtain ⟨⟨z1, z2⟩, z3⟩ := z
      have z3 : isSet iter = false := by simpa using z3
      cases q1 : trI c (f c) tg iter with
      | none => rw [q1] at h; cases h
      | some ks =>
        rw [q1] at h
        simp only [Option.bind_some] at h
        cases q2 : trG (c.blk scope) tg with
        | none => rw [q2] at h; cases h
        | some t =>
          rw [q2] at h
          simp only [Option.bind_some] at h
          cases q3 : trIf (f (c.blk scope)) (testOk n) ifs with
          | none => rw [q3] at h; cases h
          | some cond =>
            rw [q3] at h
            simp only [Option.bind_some] at h
            cases q4 : f (c.blk scope) elt with
            | none => rw [q4] at h; cases h
            | some x =>
              rw [q4] at h
              simp only [Option.bind_some] at h
              split at h
              · rename_i y
                rw [Bool.and_eq_true] at y
                cases h
                have T1 := T0.blk scope
                obtain ⟨wi, i1, i2, _⟩ := sd_I T0 (hf c T0) q1
                obtain ⟨g', g1, g2⟩ := sd_G T1 q2
                obtain ⟨tt, t1, t2⟩ := sd_if (hT _ T1) q3
                obtain ⟨te, e1, e2⟩ := hf _ T1 elt x q4
                refine ⟨tLc wi g' tt te ((compOwn c scope).map (·.2)), fun X g => ?_, se_comp i2 (g2 _ y.1) (fun i hi => ?_) t2 e2 (of_decide_eq_true y.2), rfl, fun X g i yy py spos hi hl hw => ?_⟩
                · refine pe_lc g.calm (by rw [g.N]; exact T0.nd) (i1 X g) (blkOk_by (by rw [g.N, g.sc]; exact z1)) (fun s H C cl fp => g1 _ (g.blk scope s H C cl fp)) (fun s H C cl fp => t1 _ (g.blk scope s H C cl fp)) (fun s H C cl fp => e1 _ (g.blk scope s H C cl fp)) fun x => notSet z3
                · unfold csOut at z2
                  have z4 := List.all_eq_true.mp z2 i hi
                  rw [Bool.and_eq_true] at z4
                  exact ⟨of_decide_eq_true z4.1, show c.own.contains i = false by simpa using z4.2⟩
                · exact ps_setLc g.calm (by rw [g.N]; exact T0.nd) hi hl hw (i1 X g) (blkOk_by (by rw [g.N, g.sc]; exact z1)) (fun s H C cl fp => g1 _ (g.blk scope s H C cl fp)) (fun s H C cl fp => t1 _ (g.blk scope s H C cl fp)) (fun s H C cl fp => e1 _ (g.blk scope s H C cl fp)) fun x => notSet z3
              · cases h
    · cases h
  · rename_i tg iter ifs tg1 iter1 ifs1
    simp only at h
    split at h
    · rename_i z
      rw [Bool.and_eq_true, Bool.and_eq_true, Bool.and_eq_true] at z
      obtain ⟨⟨⟨z1, z2⟩, z3⟩, z4⟩ := z
      have z3 : isSet iter = false := by simpa using z3
      have z4 : isSet iter1 = false := by simpa using z4
      cases q1 : trI c (f c) tg iter with
      | none => rw [q1] at h; cases h
      | some ks =>
        rw [q1] at h
        simp only [Option.bind_some] at h
        cases q2 : trG (c.blk scope) tg with
        | none => rw [q2] at h; cases h
        | some t =>
          rw [q2] at h
          simp only [Option.bind_some] at h
          cases q3 : trIf (f (c.blk scope)) (testOk n) ifs with
          | none => rw [q3] at h; cases h
          | some cond =>
            rw [q3] at h
            simp only [Option.bind_some] at h
            cases q5 : trI (c.blk scope) (f (c.blk scope)) tg1 iter1 with
            | none => rw [q5] at h; cases h
            | some ks1 =>
              rw [q5] at h
              simp only [Option.bind_some] at h
              cases q6 : trG (c.blk scope) tg1 with
              | none => rw [q6] at h; cases h
              | some t1 =>
                rw [q6] at h
                simp only [Option.bind_some] at h
                cases q7 : trIf (f (c.blk scope)) (testOk n) ifs1 with
                | none => rw [q7] at h; cases h
                | some cond1 =>
                  rw [q7] at h
                  simp only [Option.bind_some] at h
                  cases q4 : f (c.blk scope) elt with
                  | none => rw [q4] at h; cases h
                  | some x =>
                    rw [q4] at h
                    simp only [Option.bind_some] at h
                    split at h
                    · rename_i y
                      rw [Bool.and_eq_true, Bool.and_eq_true, Bool.and_eq_true, Bool.and_eq_true] at y
                      obtain ⟨⟨⟨⟨y1, y2⟩, y3⟩, y4⟩, y5⟩ := y
                      cases h
                      have T1 := T0.blk scope
                      obtain ⟨wi, i1, i2, _⟩ := sd_I T0 (hf c T0) q1
                      obtain ⟨g', g1, g2⟩ := sd_G T1 q2
                      obtain ⟨tt, t1', t2⟩ := sd_if (hT _ T1) q3
                      obtain ⟨wi1, j1, _, j2⟩ := sd_I T1 (hf _ T1) q5
                      obtain ⟨h', h1, h2⟩ := sd_G T1 q6
                      obtain ⟨tt1, u1, u2⟩ := sd_if (hT _ T1) q7
                      obtain ⟨te, e1, e2⟩ := hf _ T1 elt x q4
                      have sub : ∀ i ∈ t1.slots, i ∈ (compOwn c scope).map (·.2) := fun i hi => by simpa using List.all_eq_true.mp y4 i hi
                      have hout : ∀ i ∈ (compOwn c scope).map (·.2), c.M.cs ≠ some i ∧ c.M.own i = false := fun i hi => by
                        unfold csOut at z2
                        have z4 := List.all_eq_true.mp z2 i hi
                        rw [Bool.and_eq_true] at z4
                        exact ⟨of_decide_eq_true z4.1, show c.own.contains i = false by simpa using z4.2⟩
                      refine ⟨tLc2 wi g' tt wi1 h' tt1 te ((compOwn c scope).map (·.2)) t1.slots, fun X g => ?_, se_comp2 i2 (g2 _ y1) y1 hout t2 (j2 y5) (h2 _ y3) y3 (fun i hi => hout i (sub i hi)) u2 e2 (of_decide_eq_true y2), rfl, fun X g i yy py spos hi hl hw => ?_⟩
                      · refine pe_lc2 g.calm (by rw [g.N]; exact T0.nd) (i1 X g) (blkOk_by (by rw [g.N, g.sc]; exact z1)) sub (fun s H C cl fp => g1 _ (g.blk scope s H C cl fp)) (fun s H C cl fp => t1' _ (g.blk scope s H C cl fp)) (fun s H C cl fp => j1 _ (g.blk scope s H C cl fp)) (fun s H C cl fp => h1 _ (g.blk scope s H C cl fp)) (fun s H C cl fp => u1 _ (g.blk scope s H C cl fp)) (fun s H C cl fp => e1 _ (g.blk scope s H C cl fp)) (fun x => notSet z3) fun _ x => notSet z4
                      · exact ps_setLc2 g.calm (by rw [g.N]; exact T0.nd) hi hl hw (i1 X g) (blkOk_by (by rw [g.N, g.sc]; exact z1)) sub (fun s H C cl fp => g1 _ (g.blk scope s H C cl fp)) (fun s H C cl fp => t1' _ (g.blk scope s H C cl fp)) (fun s H C cl fp => j1 _ (g.blk scope s H C cl fp)) (fun s H C cl fp => h1 _ (g.blk scope s H C cl fp)) (fun s H C cl fp => u1 _ (g.blk scope s H C cl fp)) (fun s H C cl fp => e1 _ (g.blk scope s H C cl fp)) (fun x => notSet z3) fun _ x => notSet z4
                    · cases h
    · cases h
  · cases h
theorem sd_comp {n : Nat} (T0 : Tab P w K mg base k call c) {f : Ctx → Expr → Option E} (hf : ∀ c, Tab P w K mg base k call c → ∀ pe e, f c pe = some e → SdE P w K mg base k call c pe e)
    (hT : ∀ c, Tab P w K mg base k call c → ∀ pe e, f c pe = some e → testOk n pe = true → SdT P w K mg base k call c pe e) {elt : Expr} {gens : List Comprehension} {scope : Scope} {pos : Pos} {e : E} (h : compE c n f elt gens scope = some e) :
    SdE P w K mg base k call c (.ListComp elt gens scope pos) e := by
  obtain ⟨te, a, b, _⟩ := sd_comp' T0 hf hT h
  exact ⟨te, a, b⟩
/-! ### tests -/
theorem sd_T0 {pe : Expr} {e : E} (h0 : isTest0 pe = true) (h : SdE P w K mg base k call c pe e) : SdT P w K mg base k call c pe e := by
  obtain ⟨te, a1, a2⟩ := h
  exact ⟨tB te, fun X g => pt_val (a1 X g) (test0 h0), st_val a2⟩
theorem sd_wand {pos : Pos} : ∀ {pes : List Expr} {es : List E} {e : E}, (∀ n : Nat, ∀ pe x, pes[n]? = some pe → es[n]? = some x → SdT P w K mg base k call c pe x) → pes.length = es.length → andL c es = some e →
    ∃ tt, (∀ X, Gd P w K mg base k c X → PW X (.BoolOp .And pes pos) tt) ∧ ST K call c.M tt e
  | [], [], _, _, _, h => by cases h
  | [_], [], _, _, h, _ => by cases h
  | [], [_], _, _, h, _ => by cases h
  | [pe], [x], e, hf, _, h => by
    cases h
    obtain ⟨te, h1, h2⟩ := hf 0 pe x rfl rfl
    exact ⟨te, fun X g => pw_and1 (h1 X g), h2⟩
  | [], _ :: _ :: _, _, _, h, _ => by cases h
  | _ :: _ :: _, [], _, _, h, _ => by cases h
  | [_], _ :: _ :: _, _, _, h, _ => by simp at h
  | _ :: _ :: _, [_], _, _, h, _ => by simp at h
  | pe :: pe2 :: pes, x :: x2 :: es, e, hf, hl, h => by
    rw [andL] at h
    cases q : andL c (x2 :: es) with
    | none => rw [q] at h; cases h
    | some y =>
      rw [q] at h
      simp only [Option.bind_some] at h
      split at h
      · cases h
      · cases h
        obtain ⟨ta, a1, a2⟩ := hf 0 pe x rfl rfl
        obtain ⟨tb, b1, b2⟩ := sd_wand (pes := pe2 :: pes) (es := x2 :: es) (fun n pe x e1 e2 => hf (n + 1) pe x e1 e2) (by simpa using hl) q
        exact ⟨tAnd ta tb, fun X g => pw_and (a1 X g) (b1 X g), st_and a2 b2⟩
theorem sd_wor {pos : Pos} : ∀ {pes : List Expr} {es : List E} {e : E}, (∀ n : Nat, ∀ pe x, pes[n]? = some pe → es[n]? = some x → SdT P w K mg base k call c pe x) → pes.length = es.length → orL c es = some e →
    ∃ tt, (∀ X, Gd P w K mg base k c X → PW X (.BoolOp .Or pes pos) tt) ∧ ST K call c.M tt e
  | [], [], _, _, _, h => by cases h
  | [_], [], _, _, h, _ => by cases h
  | [], [_], _, _, h, _ => by cases h
  | [pe], [x], e, hf, _, h => by
    cases h
    obtain ⟨te, h1, h2⟩ := hf 0 pe x rfl rfl
    exact ⟨te, fun X g => pw_or1 (h1 X g), h2⟩
  | [], _ :: _ :: _, _, _, h, _ => by cases h
  | _ :: _ :: _, [], _, _, h, _ => by cases h
  | [_], _ :: _ :: _, _, _, h, _ => by simp at h
  | _ :: _ :: _, [_], _, _, h, _ => by simp at h
  | pe :: pe2 :: pes, x :: x2 :: es, e, hf, hl, h => by
    rw [orL] at h
    cases q : orL c (x2 :: es) with
    | none => rw [q] at h; cases h
    | some y =>
      rw [q] at h
      simp only [Option.bind_some] at h
      split at h
      · cases h
      · cases h
        obtain ⟨ta, a1, a2⟩ := hf 0 pe x rfl rfl
        obtain ⟨tb, b1, b2⟩ := sd_wor (pes := pe2 :: pes) (es := x2 :: es) (fun n pe x e1 e2 => hf (n + 1) pe x e1 e2) (by simpa using hl) q
        exact ⟨tOr ta tb, fun X g => pw_or (a1 X g) (b1 X g), st_or a2 b2⟩
theorem PW.pt {pe : Expr} {tt : TT} (h : PW X pe tt) : PT X pe tt := ⟨fun pins s σ H Q I q => h.run _ pins s σ H Q I q⟩
theorem all_get {α : Type} {p : α → Bool} {l : List α} (h : l.all p = true) {n : Nat} {x : α} (hx : l[n]? = some x) : p x = true := List.all_eq_true.mp h x (List.mem_of_getElem? hx)
/-! ### [d[x] for x in d] -/
theorem wipe_out {vs : List Nat} {j : Nat} : ∀ {σ : L2.St}, j ∉ vs → (wipe σ vs)[j]? = σ[j]? := by
  induction vs with
  | nil => exact fun _ => rfl
  | cons v vs ih =>
    intro σ h
    have h1 : j ≠ v := fun e => h (by rw [e]; exact List.mem_cons_self ..)
    have h2 : j ∉ vs := fun m => h (List.mem_cons_of_mem _ m)
    show ((wipe σ vs).set v none)[j]? = _
    rw [List.getElem?_set_ne (Ne.symm h1)]
    exact ih h2
theorem kv_some {kv : List (Key × V)} {i : Nat} {k : Key} {v : V} (h : kv[i]? = some (k, v)) : ∃ y, valV kv k = some y := by
  unfold valV
  have hm : (k, v) ∈ kv := List.mem_of_getElem? h
  cases q : kv.find? fun p => decide (p.1 = k) with
  | some y => exact ⟨y.2, rfl⟩
  | none =>
    have := List.find?_eq_none.mp q (k, v) hm
    simp at this
theorem RpK.vals {K : PySem.W.Frag} {F : Hp} {kv : List (Key × V)} {ds : List (D × D)} (r : RpK K F kv ds) : ∀ {kv' : List (Key × V)} {ds' : List (D × D)}, RpK K F kv' ds' → RpA K F (kv'.filterMap fun p => valV kv p.1) (ds'.filterMap fun p => findKv ds p.1)
  | [], [], _ => .nil
  | [], _ :: _, r' => by cases r'
  | _ :: _, [], r' => by cases r'
  | (k, v) :: kv', (a, d) :: ds', r' => by
    cases r' with
    | cons r1 r2 =>
      have ih := RpK.vals r (kv' := kv') (ds' := ds') r2
      rw [List.filterMap_cons, List.filterMap_cons]
      rcases r.val (keyOf_kD k) with ⟨y, x, e1, e2, e3⟩ | ⟨e1, e2⟩
      · simp only [e1, e2]
        exact .cons e3 ih
      · simp only [e1, e2]
        exact ih
theorem wipeE_length {env : Ev} : ∀ vs : List Nat, (wipeE env vs).length = env.length
  | [] => rfl
  | v :: vs => by
    show ((wipeE env vs).set v none).length = _
    rw [List.length_set, wipeE_length vs]
theorem comp_id {call : CallF} {env : Ev} {j : Nat} {vs : List Nat} : ∀ {xs : List D} {w : D} {z : List D × D}, compL (turn1 call env (.nm j) vs (.con (.bool true)) (.var j)) xs w = some z → z = (xs, w) ∧ (xs ≠ [] → j < (wipeE env vs).length)
  | [], w, z, h => by
    rw [compL] at h
    cases h
    exact ⟨rfl, fun h => absurd rfl h⟩
  | x :: xs, w, z, h => by
    obtain ⟨p, rr, t1, t2, t3⟩ := compL_cons h
    obtain ⟨env', b, w3, b1, b2, b3⟩ := turn1_inv t1
    rw [bindT] at b1
    split at b1
    · rename_i hj
      cases b1
      rw [ev] at b2
      cases b2
      rcases b3 with ⟨_, y, w6, b4, b5⟩ | ⟨b0, _⟩
      · rw [ev, List.getElem?_set_self hj] at b4
        cases b4
        subst b5
        obtain ⟨e, _⟩ := comp_id t2
        subst e
        exact ⟨t3, fun _ => hj⟩
      · cases b0
    · cases b1
theorem se_vals {call : CallF} {M : Mode} {i j : Nat} {vs : List Nat} (ho : M.own i = true) (hj : j ∈ vs) (hi : i ∉ vs) :
    SE K call M (tLockE (tLc (iKeys (tVar i)) (gName j) tYes (tDGet (tVar i) (tVar j)) vs)) (.comp .seq [.prim .dvals [.var i]] (.nm j) vs (.con (.bool true)) (.var j)) := fun F0 H0 c F H σ env w d w' S hv Q q => by
  rw [ev_comp, evs] at hv
  cases h0 : ev call (.prim .dvals [.var i]) env w with
  | none => rw [h0] at hv; cases hv
  | some r0 =>
  rw [h0] at hv
  simp only [Option.bind_some] at hv
  rw [evs] at hv
  simp only [Option.map_some, Option.bind_some] at hv
  obtain ⟨d0, w0⟩ := r0
  obtain ⟨ds, g1, g2⟩ := ev_prims h0
  rw [evs] at g1
  cases h1 : ev call (.var i) env w with
  | none => rw [h1] at g1; cases g1
  | some r1 =>
    rw [h1] at g1
    simp only [Option.bind_some] at g1
    rw [evs] at g1
    cases g1
    obtain ⟨x, w1⟩ := r1
    have g2 : dvalsD x = some d0 := g2
    cases x with
    | dict kvs =>
      rw [dvalsD] at g2
      split at g2
      case isFalse => cases g2
      rename_i hlim
      cases g2
      have he : env[i]? = some (some (.dict kvs)) ∧ w1 = w := by
        rw [ev] at h1
        revert h1
        split
        · rename_i d' hd
          intro h1
          cases h1
          exact ⟨hd, rfl⟩
        · intro h1
          cases h1
      obtain ⟨he, rfl⟩ := he
      have hit : items .seq [.list (kvs.filterMap fun p => findKv kvs p.1)] = some (kvs.filterMap fun p => findKv kvs p.1) := rfl
      rw [hit] at hv
      simp only [Option.bind_some] at hv
      cases h3 : compL (turn1 call env (.nm j) vs (.con (.bool true)) (.var j)) (kvs.filterMap fun p => findKv kvs p.1) w1 with
      | none => rw [h3] at hv; cases hv
      | some z =>
      rw [h3] at hv
      obtain ⟨rfl, hjl⟩ := comp_id h3
      cases hv
      obtain ⟨p, o, k1, k2, k3, k4, k5, k6⟩ := S.owns i _ he ho
      obtain ⟨kv, rfl, r⟩ := k6.dictI
      have hlen : kv.length ≤ sizeLine := by rw [r.length, ← lim_eq]; exact hlim
      refine ⟨p, .dK kv, k5, trivial, fun od => ?_⟩
      refine ⟨.ref p, k1, p, od, rfl, .inl ⟨kv, upd_same, fun D hD => ?_⟩⟩
      have nD : D ≠ p := fun e => by rw [e, upd_same] at hD; cases hD
      have hDH : H D = none := by rw [upd_ne nD] at hD; exact hD
      let acc : Nat → List V := fun n => (kv.take n).filterMap fun q => valV kv q.1
      have acc_le : ∀ n, (acc n).length ≤ n := fun n => Nat.le_trans (List.length_filterMap_le _ _) (by rw [List.length_take]; omega)
      refine ⟨fun n m Hc => m = kv.length - n ∧ n ≤ kv.length ∧ Hc = upd (upd H p (.frz od (.dK kv))) D (.lst (acc n)), ⟨kv.length, by simp, Nat.zero_le _, rfl⟩, ?_⟩
      rintro n m Hc ⟨rfl, hn, rfl⟩
      have hfr : ∀ l, upd (upd H p (.frz od (.dK kv))) D (.lst l) p = some (.frz od (.dK kv)) := fun l => by rw [upd_ne (Ne.symm nD), upd_same]
      by_cases hlt : n < kv.length
      · refine .inr ⟨⟨hfr _, hlt⟩, fun H' => H' = upd (upd H p (.frz od (.dK kv))) D (.lst (acc (n + 1))) ∧ n + 1 ≤ kv.length, fun H' h' => ⟨kv.length - (n + 1), by omega, rfl, h'.2, h'.1⟩, fun x H' hy => ?_⟩
        obtain ⟨rfl, k, v, hk, rfl⟩ := hy
        obtain ⟨y, hy⟩ := kv_some hk
        have hacc : acc (n + 1) = acc n ++ [y] := by
          show (kv.take (n + 1)).filterMap _ = _
          rw [List.take_add_one, hk, List.filterMap_append]
          show _ ++ [(k, v)].filterMap _ = _
          rw [List.filterMap_cons]
          simp only [hy]
          rfl
        refine ⟨by rw [wipe_set hj]; exact wipe_wipe, ?_⟩
        simp only [tYes, if_true]
        have nij : i ≠ j := fun e => hi (by rw [e]; exact hj)
        refine ⟨.ref p, by rw [List.getElem?_set_ne (Ne.symm nij), wipe_out hi]; exact k1, kV k, ?_, p, y, rfl, .inl ⟨kv, k, .inr ⟨od, hfr _⟩, rfl, hy.symm⟩, acc n, upd_same, by have := acc_le n; omega, ?_, hlt⟩
        · have hjl : j < (wipe σ vs).length := by
            rw [wipe_length, S.len, ← wipeE_length vs]
            refine hjl fun e0 => ?_
            have hl := (r.vals r).length
            rw [e0] at hl
            have hz : (kv.filterMap fun q => valV kv q.1) = [] := List.length_eq_zero_iff.mp hl
            have := List.filterMap_eq_nil_iff.mp hz (k, v) (List.mem_of_getElem? hk)
            rw [hy] at this
            cases this
          rw [List.getElem?_set_self hjl]
        · rw [hacc]
          funext b
          by_cases hb : b = D
          · rw [hb, upd_same, upd_same]
          · rw [upd_ne hb, upd_ne hb, upd_ne hb]
      · have hn' : n = kv.length := by omega
        subst hn'
        refine .inl ⟨⟨hfr _, Nat.le_refl _⟩, hfr _, ?_⟩
        have st : Step none F H F (upd H D (.lst (acc kv.length))) := Step.new S.fh hDH
        have e : upd (upd (upd H p (.frz od (.dK kv))) D (.lst (acc kv.length))) p (.dK kv) = upd H D (.lst (acc kv.length)) := by
          funext b
          by_cases hb : b = p
          · rw [hb, upd_same, upd_ne (Ne.symm nD), k5]
          · rw [upd_ne hb]
            by_cases hb2 : b = D
            · rw [hb2, upd_same, upd_same]
            · rw [upd_ne hb2, upd_ne hb2, upd_ne hb]
        rw [e]
        refine q _ _ _ (S.calm st) st.weak ⟨D, _, rfl, hDH, S.fh.none hDH, upd_same, .lst ?_⟩
        have := r.vals r
        show RpA K F ((kv.take kv.length).filterMap _) _
        rw [List.take_length]
        exact this
    | _ => cases g2
theorem sd_valsC (T0 : Tab P w K mg base k call c) {elt : Expr} {gens : List Comprehension} {scope : Scope} {pos : Pos} {e : E} (h : valsC c elt gens scope = some e) : SdE P w K mg base k call c (.ListComp elt gens scope pos) e := by
  unfold valsC at h
  split at h
  · rename_i d1 p1 x1 p2 p3 y p4 d p5
    simp only at h
    split at h
    · rename_i z
      rw [Bool.and_eq_true] at z
      cases q1 : varE c d with
      | none => rw [q1] at h; cases h
      | some i =>
        rw [q1] at h
        simp only [Option.bind_some] at h
        cases q2 : trG (c.blk scope) (.Name y p4) with
        | none => rw [q2] at h; cases h
        | some t =>
          rw [q2] at h
          simp only [Option.bind_some] at h
          split at h
          · rename_i j
            split at h
            · rename_i y1
              simp only [Bool.and_eq_true, decide_eq_true_eq] at y1
              obtain ⟨⟨⟨⟨o1, o2⟩, o3⟩, o4⟩, o5⟩ := y1
              cases h
              have T1 := T0.blk scope (P := P) (w := w) (K := K) (mg := mg) (base := base) (k := k) (call := call)
              have hi : i ∉ (compOwn c scope).map (·.2) := fun m => by
                have z4 := List.all_eq_true.mp z.2 i m
                rw [Bool.and_eq_true] at z4
                have z5 := z4.2
                rw [o1] at z5
                cases z5
              have hg : ∀ X, Gd P w K mg base k (c.blk scope) X → PG X (.Name y p4) (gName j) := by
                rw [trG] at q2
                cases q : ixOf y (c.blk scope).N with
                | none => rw [q] at q2; cases q2
                | some i' =>
                  rw [q] at q2
                  simp only [Option.bind_some] at q2
                  split at q2
                  · rename_i hl
                    cases q2
                    intro X g
                    exact pg_name (by rw [g.N]; exact T1.nd) (by rw [g.N]; exact ixOf_get q) (.inl (by rw [g.sc]; exact hl)) (.inr (by rw [g.sc]; exact hl))
                  · rename_i hl
                    split at q2
                    · rename_i hc
                      cases q2
                      intro X g
                      exact pg_name (by rw [g.N]; exact T1.nd) (by rw [g.N]; exact ixOf_get q) (.inr (by rw [g.sc]; exact hl)) (.inl (g.fn y hc))
                    · cases q2
                  · cases q2
              refine ⟨_, fun X g => ?_, se_vals (M := c.M) (call := call) o1 (by simpa using o3) hi⟩
              refine pe_lock (pe_lc g.calm (by rw [g.N]; exact T0.nd) (pi_keys (g.var q1)) (blkOk_by (by rw [g.N, g.sc]; exact z.1)) (fun s H C cl fp => hg _ (g.blk scope s H C cl fp)) (fun s H C cl fp => pts_nil) (fun s H C cl fp => ?_) fun x => notSet rfl)
              have g' := g.blk scope s H C cl fp
              exact pe_dget (by have := g'.hu; omega) (g'.var o4) (g'.var o5) (plainIx rfl)
            · cases h
          · cases h
    · cases h
  · cases h
theorem sd_vals (T : Tab P w K mg base k call c) {x : Str} {p pos : Pos} {args : List Expr} {e : E} (h : valsE c x args = some e) : SdE P w K mg base k call c (.Call (.Name x p) args [] pos) e := by
  unfold valsE at h
  split at h
  · rename_i elt gens scope lp
    split at h
    · rename_i z
      rw [Bool.and_eq_true, Bool.and_eq_true] at z
      obtain ⟨⟨z1, z2⟩, hb⟩ := z
      have hx := of_decide_eq_true z1
      subst hx
      cases q : valsC c elt gens scope with
      | none => rw [q] at h; cases h
      | some e1 =>
        rw [q] at h
        cases h
        obtain ⟨te, a1, a2⟩ := sd_valsC T (pos := lp) q
        refine ⟨tCB (fun xs H Q => ∃ y, xs = [y] ∧ r1D K .sorted y H Q) (tCons te tNil), fun X g => ?_, se_primR (fun vs H Q hl z => match vs, hl, z with | [y], _, z => ⟨y, rfl, z⟩) (sa_cons a2 sa_nil)⟩
        obtain ⟨id, h1, h2⟩ := rl_blt1 g.calm g.gd g.hu (x := "sorted") (p := .sorted) rfl
        obtain ⟨l1, l2, l3, l4⟩ := bltOk_inv T g hb
        rw [g.K] at h2
        exact pe_callB h2 l1 l2 h1 (pa_cons (a1 X g) pa_nil (notStar' rfl)) l3 l4 (notStar' rfl) rfl
    · cases h
  · cases h
/-! ### expressions -/
theorem sd_meth {f : Expr → Option E} (hf : ∀ pe e, f pe = some e → SdE P w K mg base k call c pe e) {o : Expr} {m : Str} {ap cp : Pos} {args : List Expr} {e : E} (h : methE c f o m ap args cp = some e) : SdE P w K mg base k call c (.Call (.Attribute o m ap) args [] cp) e := by
  unfold methE at h
  split at h
  · rename_i z
    rw [Bool.and_eq_true, Bool.and_eq_true] at z
    obtain ⟨⟨z1, z2⟩, z3⟩ := z
    have z1 : isCall o = false := by simpa using z1
    have z3 := of_decide_eq_true z3
    subst z3
    split at h
    · rename_i a
      split at h
      · cases h
      · rename_i hs
        have hs : isStar a = false := by simpa using hs
        cases q1 : f o with
        | none => rw [q1] at h; cases h
        | some x =>
          rw [q1] at h
          simp only [Option.bind_some] at h
          cases q2 : f a with
          | none => rw [q2] at h; cases h
          | some y =>
            rw [q2] at h
            cases h
            obtain ⟨ta, a1, a2⟩ := hf o x q1
            obtain ⟨tb, b1, b2⟩ := hf a y q2
            refine ⟨tDGet1 ta tb, fun X g => ?_, se_get1 a2 b2⟩
            exact pe_dget1 (by have := g.hu; omega) (a1 X g) (b1 X g) ⟨notCallBase z1, fewStar (pos := cp) (env := X.env) (es := [a]) (by simp [hs]) (show 1 < 30 by decide), z2, by rw [notStar' hs]; rfl⟩
    · rename_i a b
      split at h
      · cases h
      · rename_i hs
        have hs : isStar a = false ∧ isStar b = false := by simpa using hs
        cases q1 : f o with
        | none => rw [q1] at h; cases h
        | some x =>
          rw [q1] at h
          simp only [Option.bind_some] at h
          cases q2 : f a with
          | none => rw [q2] at h; cases h
          | some y =>
            rw [q2] at h
            simp only [Option.bind_some] at h
            cases q3 : f b with
            | none => rw [q3] at h; cases h
            | some u =>
              rw [q3] at h
              simp only [Option.bind_some] at h
              split at h
              · rename_i hk
                cases h
                obtain ⟨ta, a1, a2⟩ := hf o x q1
                obtain ⟨tb, b1, b2⟩ := hf a y q2
                obtain ⟨tc, c1, c2⟩ := hf b u q3
                refine ⟨tDGet2 ta tb tc, fun X g => ?_, se_get2 a2 b2 c2 hk⟩
                exact pe_dget2 (by have := g.hu; omega) (a1 X g) (b1 X g) (c1 X g) ⟨notCallBase z1, fewStar (pos := cp) (env := X.env) (es := [a, b]) (by simp [hs.1, hs.2]) (show 2 < 30 by decide), z2, by rw [notStar' hs.1, notStar' hs.2]; rfl⟩
              · cases h
    · cases h
  · cases h
theorem sd_main : ∀ (n : Nat) (c : Ctx), Tab P w K mg base k call c → ∀ pe e, trE n c pe = some e → SdE P w K mg base k call c pe e ∧ ∀ m, testOk m pe = true → SdT P w K mg base k call c pe e
  | 0, _, _, _, _, h => by cases h
  | n + 1, c, T, pe, e, h => by
    have ih : ∀ pe e, trE n c pe = some e → SdE P w K mg base k call c pe e := fun pe e h => (sd_main n c T pe e h).1
    have ihT : ∀ m pe e, trE n c pe = some e → testOk m pe = true → SdT P w K mg base k call c pe e := fun m pe e h ht => (sd_main n c T pe e h).2 m ht
    have simple : isTest0 pe = true → SdE P w K mg base k call c pe e → SdE P w K mg base k call c pe e ∧ ∀ m, testOk m pe = true → SdT P w K mg base k call c pe e := fun h0 h => ⟨h, fun m _ => sd_T0 h0 h⟩
    rw [trE.eq_def] at h
    simp only at h
    split at h
    · exact simple rfl (sd_name T h)
    · rename_i i kk pos
      cases q : trC i with
      | none => rw [q] at h; cases h
      | some d =>
        rw [q] at h
        cases h
        exact simple rfl (sd_const q)
    · rename_i a pos
      cases q : trE n c a with
      | none => rw [q] at h; cases h
      | some x =>
        rw [q] at h
        cases h
        exact simple rfl (sd_prim1 (ih a x q) fun X g ta ha => pe_un un_negD ha)
    · rename_i a pos
      cases q : trE n c a with
      | none => rw [q] at h; cases h
      | some x =>
        rw [q] at h
        cases h
        refine ⟨sd_not (ih a x q), fun m hm => ?_⟩
        cases m with
        | zero => cases hm
        | succ m =>
          obtain ⟨tt, a1, a2⟩ := ihT m a x q hm
          exact ⟨tNot tt, fun X g => pt_not (a1 X g), st_not a2⟩
    · rename_i a op b pos
      cases q0 : binL (isLstE 9 (.BinOp a op b pos)) op with
      | none => rw [q0] at h; cases h
      | some p =>
        rw [q0] at h
        simp only [Option.bind_some] at h
        cases q : trE n c a with
        | none => rw [q] at h; cases h
        | some x =>
          rw [q] at h
          simp only [Option.bind_some] at h
          cases q2 : trE n c b with
          | none => rw [q2] at h; cases h
          | some y =>
            rw [q2] at h
            cases h
            exact simple rfl (sd_prim2 (ih a x q) (ih b y q2) fun X g ta tb ha hb => pe_op (op_BL q0) ha hb)
    · rename_i vs pos
      cases q : trL (trE n c) vs with
      | none => rw [q] at h; cases h
      | some es =>
        rw [q] at h
        have hl := trL_len q
        refine ⟨sd_andL (fun i pe x e1 e2 => ih pe x (trL_get q e1 e2)) hl h, fun m hm => ?_⟩
        cases m with
        | zero => cases hm
        | succ m =>
          obtain ⟨tt, a1, a2⟩ := sd_wand (pos := pos) (fun i pe x e1 e2 => ihT m pe x (trL_get q e1 e2) (all_get hm e1)) hl h
          exact ⟨tt, fun X g => (a1 X g).pt, a2⟩
    · rename_i vs pos
      cases q : trL (trE n c) vs with
      | none => rw [q] at h; cases h
      | some es =>
        rw [q] at h
        have hl := trL_len q
        refine ⟨sd_orL (fun i pe x e1 e2 => ih pe x (trL_get q e1 e2)) hl h, fun m hm => ?_⟩
        cases m with
        | zero => cases hm
        | succ m =>
          obtain ⟨tt, a1, a2⟩ := sd_wor (pos := pos) (fun i pe x e1 e2 => ihT m pe x (trL_get q e1 e2) (all_get hm e1)) hl h
          exact ⟨tt, fun X g => (a1 X g).pt, a2⟩
    · rename_i t a b pos
      split at h
      · rename_i ht
        cases q : trE n c t with
        | none => rw [q] at h; cases h
        | some x =>
          rw [q] at h
          simp only [Option.bind_some] at h
          cases q2 : trE n c a with
          | none => rw [q2] at h; cases h
          | some y =>
            rw [q2] at h
            simp only [Option.bind_some] at h
            cases q3 : trE n c b with
            | none => rw [q3] at h; cases h
            | some z =>
              rw [q3] at h
              simp only [Option.bind_some] at h
              split at h
              · rename_i hk
                rw [Bool.and_eq_true] at hk
                cases h
                obtain ⟨tt, t1, t2⟩ := ihT n t x q ht
                obtain ⟨ta, a1, a2⟩ := ih a y q2
                obtain ⟨tb, b1, b2⟩ := ih b z q3
                refine ⟨⟨tIf tt ta tb, fun X g => pe_ifExp (t1 X g) (a1 X g) (b1 X g), se_ite t2 a2 b2 (of_decide_eq_true hk.1) (of_decide_eq_true hk.2)⟩, fun m hm => ?_⟩
                cases m <;> cases hm
              · cases h
      · cases h
    · rename_i a op b pos
      split at h
      · cases h
      · rename_i hs
        have hs : isSet b = false := by simpa using hs
        cases q0 : cmpP op b with
        | none => rw [q0] at h; cases h
        | some p =>
          rw [q0] at h
          simp only [Option.bind_some] at h
          cases q : trE n c a with
          | none => rw [q] at h; cases h
          | some x =>
            rw [q] at h
            simp only [Option.bind_some] at h
            cases q2 : trE n c b with
            | none => rw [q2] at h; cases h
            | some y =>
              rw [q2] at h
              cases h
              refine ⟨sd_prim2 (ih a x q) (ih b y q2) fun X g ta tb ha hb => pe_cmpR (op_C g.hu q0).1 ha hb (notBehind hs), fun m _ => ?_⟩
              obtain ⟨ta, a1, a2⟩ := ih a x q
              obtain ⟨tb, b1, b2⟩ := ih b y q2
              refine ⟨tB (tPrim K p (tCons ta (tCons tb tNil))), fun X g => ?_, st_val (se_prim (sa_cons a2 (sa_cons b2 sa_nil)))⟩
              have := pt_cmpR (pos := pos) (op_C (X := X) g.hu q0).1 (a1 X g) (b1 X g) (notBehind hs)
              rw [g.K] at this
              exact this
    · rename_i a op op' b d pos
      split at h
      · cases h
      · rename_i hs
        have hs : isSet d = false := by simpa using hs
        cases q0 : cmpP op b with
        | none => rw [q0] at h; cases h
        | some p =>
          rw [q0] at h
          simp only [Option.bind_some] at h
          cases q0' : cmpP op' d with
          | none => rw [q0'] at h; cases h
          | some p' =>
            rw [q0'] at h
            simp only [Option.bind_some] at h
            cases q : trE n c a with
            | none => rw [q] at h; cases h
            | some x =>
              rw [q] at h
              simp only [Option.bind_some] at h
              cases q2 : trE n c b with
              | none => rw [q2] at h; cases h
              | some y =>
                rw [q2] at h
                simp only [Option.bind_some] at h
                cases q3 : trE n c d with
                | none => rw [q3] at h; cases h
                | some z =>
                  rw [q3] at h
                  cases h
                  obtain ⟨ta, a1, a2⟩ := ih a x q
                  obtain ⟨tb, b1, b2⟩ := ih b y q2
                  obtain ⟨td, d1, d2⟩ := ih d z q3
                  have fr : ∀ {op : CmpOp} {b : Expr} {p : Prim}, cmpP op b = some p → freshP p = false := fun {op b p} h => by
                    unfold cmpP at h
                    split at h
                    iterate 8 (cases h; rfl)
                    · split at h <;> (cases h; rfl)
                    · split at h <;> (cases h; rfl)
                  have se := se_chain (fr q0) (fr q0') a2 b2 d2
                  refine ⟨⟨tChain (r2D K p) (r2D K p') ta tb td, fun X g => ?_, se⟩, fun m _ => ⟨tB (tChain (r2D K p) (r2D K p') ta tb td), fun X g => ?_, st_val se⟩⟩
                  · have := pe_chain (pos := pos) (op_C (X := X) g.hu q0).1 (op_C (X := X) g.hu q0').1 (a1 X g) (b1 X g) (d1 X g) (notLast hs)
                    rw [g.K] at this
                    exact this
                  · have := pt_chain (pos := pos) (op_C (X := X) g.hu q0).1 (op_C (X := X) g.hu q0').1 (a1 X g) (b1 X g) (d1 X g) (notLast hs)
                    rw [g.K] at this
                    exact this
    · split at h
      · rename_i e' hv
        cases h
        exact simple rfl (sd_vals T hv)
      · exact simple rfl (sd_call T ih h)
    · rename_i a lo hi p2 pos
      cases q : trE n c a with
      | none => rw [q] at h; cases h
      | some x =>
        rw [q] at h
        simp only [Option.bind_some] at h
        obtain ⟨ta, a1, a2⟩ := ih a x q
        refine simple rfl ?_
        unfold sliceE at h
        cases lo with
        | none =>
          cases hi with
          | none =>
            cases h
            refine ⟨_, fun X g => ?_, se_sl (lo := none) (hi := none) a2 (fun x h => by cases h) (fun x h => by cases h) rfl⟩
            have := pe_slice (p2 := p2) (pos := pos) (sl_D (X := X)) (a1 X g) po_none po_none
            rw [g.K] at this
            exact this
          | some hx =>
            simp only at h
            cases q2 : trE n c hx with
            | none => rw [q2] at h; cases h
            | some y =>
              rw [q2] at h
              cases h
              obtain ⟨tb, b1, b2⟩ := ih hx y q2
              refine ⟨_, fun X g => ?_, se_sl (lo := none) (hi := some (tb, y)) a2 (fun x h => by cases h) (fun x h => by cases h; exact b2) rfl⟩
              have := pe_slice (p2 := p2) (pos := pos) (sl_D (X := X)) (a1 X g) po_none (po_some (b1 X g))
              rw [g.K] at this
              exact this
        | some lx =>
          cases hi with
          | none =>
            simp only at h
            cases q2 : trE n c lx with
            | none => rw [q2] at h; cases h
            | some y =>
              rw [q2] at h
              cases h
              obtain ⟨tb, b1, b2⟩ := ih lx y q2
              refine ⟨_, fun X g => ?_, se_sl (lo := some (tb, y)) (hi := none) a2 (fun x h => by cases h; exact b2) (fun x h => by cases h) rfl⟩
              have := pe_slice (p2 := p2) (pos := pos) (sl_D (X := X)) (a1 X g) (po_some (b1 X g)) po_none
              rw [g.K] at this
              exact this
          | some hx =>
            simp only at h
            cases q2 : trE n c lx with
            | none => rw [q2] at h; cases h
            | some y =>
              rw [q2] at h
              simp only [Option.bind_some] at h
              cases q3 : trE n c hx with
              | none => rw [q3] at h; cases h
              | some z =>
                rw [q3] at h
                cases h
                obtain ⟨tb, b1, b2⟩ := ih lx y q2
                obtain ⟨td, d1, d2⟩ := ih hx z q3
                refine ⟨_, fun X g => ?_, se_sl (lo := some (tb, y)) (hi := some (td, z)) a2 (fun x h => by cases h; exact b2) (fun x h => by cases h; exact d2) rfl⟩
                have := pe_slice (p2 := p2) (pos := pos) (sl_D (X := X)) (a1 X g) (po_some (b1 X g)) (po_some (d1 X g))
                rw [g.K] at this
                exact this
    · rename_i a kk p1 p2 p3 pos
      cases q : trE n c a with
      | none => rw [q] at h; cases h
      | some x =>
        rw [q] at h
        cases h
        obtain ⟨ta, a1, a2⟩ := ih a x q
        refine simple rfl ⟨tRev2 K ta, fun X g => ?_, se_revL a2⟩
        have := pe_rev2 (k := kk) (p1 := p1) (p2 := p2) (p3 := p3) (pos := pos) (a1 X g)
        rw [g.K] at this
        exact this
    · rename_i a i pos _ _
      split at h
      · rename_i hi
        cases q : trE n c a with
        | none => rw [q] at h; cases h
        | some x =>
          rw [q] at h
          simp only [Option.bind_some] at h
          cases q2 : trE n c i with
          | none => rw [q2] at h; cases h
          | some y =>
            rw [q2] at h
            cases h
            exact simple rfl (sd_prim2 (ih a x q) (ih i y q2) fun X g ta tb ha hb => pe_ix (ix_D g.hu) ha hb (plainIx hi))
      · cases h
    · rename_i es kk pos
      cases q : trL (trE n c) es with
      | none => rw [q] at h; cases h
      | some xs =>
        rw [q] at h
        simp only [Option.bind_some] at h
        split at h
        · rename_i z
          rw [Bool.and_eq_true] at z
          cases h
          obtain ⟨⟨ta, a1, a2, a3⟩, b1, b2⟩ := sd_args ih q
          exact simple rfl ⟨tTup ta, fun X g => pe_tup (a1 X g), se_tup (a3 z.1) (of_decide_eq_true z.2)⟩
        · cases h
    · rename_i es pos
      cases q : trL (trE n c) es with
      | none => rw [q] at h; cases h
      | some xs =>
        rw [q] at h
        simp only [Option.bind_some] at h
        split at h
        · rename_i z
          rw [Bool.and_eq_true] at z
          cases h
          obtain ⟨⟨ta, a1, a2, a3⟩, b1, b2⟩ := sd_args ih q
          exact simple rfl ⟨tLst ta, fun X g => pe_lst (a1 X g), se_lst (a3 z.1) (of_decide_eq_true z.2)⟩
        · cases h
    · exact simple rfl (sd_comp T (fun c T pe e h => (sd_main n c T pe e h).1) (fun c T pe e h ht => (sd_main n c T pe e h).2 n ht) h)
    · cases h
      exact simple rfl ⟨tDNewK, fun X g => pe_dnewK, se_dnew⟩
    · exact simple rfl (sd_meth ih h)
    · cases h
end
end PyI
set_option Elab.async false
set_option linter.all false
set_option maxRecDepth 100000
set_option maxHeartbeats 1000000
namespace PyI
open PySem L2 PySem.Spec

/-- .. of a body -/
structure GdS (P : Program) (w : World) (K : PySem.W.Frag) (mg : Str → Option Value) (base : Heap) (k : Nat) (c : Ctx) (X : Cx) : Prop where
  g : Gd P w K mg base k c X
  xe : X.xe = fun _ _ => False
  kind : c.sc.kind = .function
section
variable (P : Program) (w : World) (K : PySem.W.Frag) (mg : Str → Option Value) (base : Heap) (k : Nat) (call : CallF)
def SdS (c : Ctx) (ps : Stmt) (s : S) : Prop := ∃ ts, (∀ X, GdS P w K mg base k c X → PS X ps ts) ∧ SS K call c.M ts s
def SdSs (c : Ctx) (pss : List Stmt) (ss : List S) : Prop := ∃ ts, (∀ X, GdS P w K mg base k c X → PSs X pss ts) ∧ SSs K call c.M ts ss
end
section
variable {P : Program} {w : World} {K : PySem.W.Frag} {mg : Str → Option Value} {base : Heap} {k : Nat} {call : CallF} {c : Ctx} {X : Cx}
theorem GdS.pass (g : GdS P w K mg base k c X) : PassesOwn (model X.prog X.w) X.A X.env X.xe := by
  rw [g.xe]
  exact PassesOwn.never
theorem GdS.bk (g : GdS P w K mg base k c X) : X.env.blockKind = .function := by
  unfold Env.blockKind
  rw [g.g.sc, g.kind]
  rfl
theorem ownV_inv {e : Expr} {i : Nat} (h : ownV c e = some i) : ∃ x pos, e = .Name x pos ∧ varE c x = some i ∧ c.M.own i = true ∧ c.M.cs ≠ some i := by
  cases e with
  | Name x pos =>
    unfold ownV at h
    simp only at h
    cases q : varE c x with
    | none => rw [q] at h; cases h
    | some j =>
      rw [q] at h
      simp only [Option.bind_some] at h
      split at h
      · rename_i z
        cases h
        rw [Bool.and_eq_true] at z
        exact ⟨x, pos, rfl, q, z.1, of_decide_eq_true z.2⟩
      · cases h
  | _ => cases h
theorem GdS.ownPE (g : GdS P w K mg base k c X) {e : Expr} {i : Nat} (h : ownV c e = some i) : PE X e (tVar i) := by
  obtain ⟨x, pos, rfl, hv, _⟩ := ownV_inv h
  exact g.g.var hv
theorem ownV_notCall {e : Expr} {i : Nat} (h : ownV c e = some i) : isCall e = false := by
  obtain ⟨x, pos, rfl, _⟩ := ownV_inv h
  rfl
theorem sss_all {f : Stmt → Option S} (hf : ∀ ps s, f ps = some s → SdS P w K mg base k call c ps s) : ∀ {pss : List Stmt} {ss : List S}, trSs f pss = some ss → SdSs P w K mg base k call c pss ss
  | [], ss, h => by
    cases h
    exact ⟨tNext, fun X g => pss_nil, sss_nil⟩
  | ps :: pss, ss, h => by
    rw [trSs] at h
    cases q : f ps with
    | none => rw [q] at h; cases h
    | some s =>
      rw [q] at h
      simp only [Option.bind_some] at h
      cases q2 : trSs f pss with
      | none => rw [q2] at h; cases h
      | some r =>
        rw [q2] at h
        cases h
        obtain ⟨t1, a1, a2⟩ := hf ps s q
        obtain ⟨t2, b1, b2⟩ := sss_all hf q2
        exact ⟨tSeq t1 t2, fun X g => pss_cons (a1 X g) (b1 X g), sss_cons a2 b2⟩
/-! ### pop, append -/
theorem popOf_inv {e : Expr} {j : Nat} {args : List Expr} (h : popOf c e = some (j, args)) : ∃ o ap cp, e = .Call (.Attribute o "pop" ap) args [] cp ∧ (ap.endLine == cp.line) = true ∧ ownV c o = some j := by
  unfold popOf at h
  split at h
  · rename_i o m ap args' cp
    split at h
    · rename_i z
      rw [Bool.and_eq_true] at z
      cases q : ownV c o with
      | none => rw [q] at h; cases h
      | some i =>
        rw [q] at h
        cases h
        have em : m = ("pop" : Str) := of_decide_eq_true z.1
        subst em
        exact ⟨o, ap, cp, rfl, z.2, q⟩
    · cases h
  · cases h
theorem appOf_inv {e a : Expr} {i : Nat} (h : appOf c e = some (i, a)) : ∃ o ap cp, e = .Call (.Attribute o "append" ap) [a] [] cp ∧ (ap.endLine == cp.line) = true ∧ ownV c o = some i ∧ isStar a = false := by
  unfold appOf at h
  split at h
  · rename_i o m ap a' cp
    split at h
    · rename_i z
      rw [Bool.and_eq_true, Bool.and_eq_true] at z
      cases q : ownV c o with
      | none => rw [q] at h; cases h
      | some i =>
        rw [q] at h
        cases h
        have em : m = ("append" : Str) := of_decide_eq_true z.1.1
        subst em
        exact ⟨o, ap, cp, rfl, z.1.2, q, by simpa using z.2⟩
    · cases h
  · cases h
theorem GdS.popPE (g : GdS P w K mg base k c X) {e b : Expr} {j : Nat} {tb : TE} (h : popOf c e = some (j, [b])) (hb : PE X b tb) (hs : isStar b = false) : PE X e (tBM K "list" rPopAt (tVar j) (tCons tb tNil)) := by
  obtain ⟨o, ap, cp, rfl, hl, ho⟩ := popOf_inv h
  have := pe_bm PySem.F.plainAttrs_list PySem.F.slot_list_pop PySem.F.type_list_pop mt_popAt (g.ownPE ho) (pa_cons hb pa_nil (notStar' hs)) (notCallBase (ownV_notCall ho)) (fewStar (pos := cp) (env := X.env) (es := [b]) (by simp [hs]) (show 1 < 30 by decide)) hl (notStar' hs) rfl
  rw [g.g.K] at this
  exact this
theorem GdS.popPE0 (g : GdS P w K mg base k c X) {e : Expr} {j : Nat} (h : popOf c e = some (j, [])) : PE X e (tBM0 K "list" rPop (tVar j)) := by
  obtain ⟨o, ap, cp, rfl, hl, ho⟩ := popOf_inv h
  have := pe_bm0 (apos := ap) (cpos := cp) PySem.F.plainAttrs_list PySem.F.slot_list_pop PySem.F.type_list_pop mt_pop (g.ownPE ho) (notCallBase (ownV_notCall ho)) hl
  rw [g.g.K] at this
  exact this
theorem GdS.appPE (g : GdS P w K mg base k c X) {e a : Expr} {i : Nat} {ta : TE} (h : appOf c e = some (i, a)) (ha : PE X a ta) : PE X e (tBM K "list" rAppend (tVar i) (tCons ta tNil)) := by
  obtain ⟨o, ap, cp, rfl, hl, ho, hs⟩ := appOf_inv h
  have := pe_bm PySem.F.plainAttrs_list PySem.F.slot_list_append PySem.F.type_list_append mt_append (g.ownPE ho) (pa_cons ha pa_nil (notStar' hs)) (notCallBase (ownV_notCall ho)) (fewStar (pos := cp) (env := X.env) (es := [a]) (by simp [hs]) (show 1 < 30 by decide)) hl (notStar' hs) rfl
  rw [g.g.K] at this
  exact this
end
end PyI
set_option Elab.async false
set_option linter.all false
set_option maxRecDepth 100000
set_option maxHeartbeats 1000000
namespace PyI
open PySem L2 PySem.Spec

section
variable {P : Program} {w : World} {K : PySem.W.Frag} {mg : Str → Option Value} {base : Heap} {k : Nat} {call : CallF} {c : Ctx} {X : Cx}
theorem swap_tup {ts vs : List Expr} {k1 k2 : Nat} {p1 p2 : Pos} {env : Env} (hb : env.blockKind = .function) (hs : env.scope = c.sc) (h : parFit c ts vs = true) : swappedStores [.Tuple ts k1 p1] (.Tuple vs k2 p2) env = pure (parOf c ts vs) := by
  have hk : ∀ id, env.kindOf id = c.sc.names.lookup id := fun id => by
    unfold Env.kindOf
    rw [hs]
  have e1 : ∀ f : Expr → Bool, (∀ e, f e = isStar e) → vs.any f = vs.any isStar := fun f hf => by rw [funext hf]
  have e2 : ∀ f : Expr → Option Str, (∀ e, f e = nmOf c (lineOf ts) e) → ts.filterMap f = ts.filterMap (nmOf c (lineOf ts)) := fun f hf => by rw [funext hf]
  unfold swappedStores parOf
  simp only [hb, hk]
  unfold parFit parOf at h
  rw [e1 _ (by intro e; cases e <;> rfl)]
  rw [e2 _ (by intro e; cases e <;> rfl)]
  generalize hn : ts.filterMap (nmOf c (lineOf ts)) = names
  rw [hn] at h
  have k0 : (ScopeKind.function != ScopeKind.function) = false := rfl
  rw [k0, Bool.or_false]
  by_cases c2 : (ts.length == 2 || ts.length == 3) = true
  · by_cases c3 : (vs.length == ts.length) = true
    · by_cases c4 : vs.any isStar = true
      · simp [c2, c3, c4]
      · simp only [Bool.not_eq_true] at c4
        simp only [c2, c3, c4, bne, Bool.not_true, Bool.or_self, Bool.false_eq_true, if_false, Bool.not_false, Bool.and_self, if_true, Bool.and_true]
        simp only [c2, c3, c4, bne, Bool.not_true, Bool.or_self, Bool.false_eq_true, if_false, Bool.not_false, Bool.and_self, if_true, Bool.and_true] at h
        split
        · rfl
        · rename_i c5
          rw [if_neg c5] at h
          split
          · rfl
          · rename_i c6
            rw [if_neg c6] at h
            have c7 : vs.all (constantsAlone 8) = false := by simpa using h
            rw [c7]
            rfl
    · simp only [Bool.not_eq_true] at c3
      simp [c2, c3, bne]
  · simp only [Bool.not_eq_true] at c2
    simp [c2]
end
end PyI
set_option Elab.async false
set_option linter.all false
set_option maxRecDepth 100000
set_option maxHeartbeats 1000000
namespace PyI
open PySem L2 PySem.Spec

section
variable {P : Program} {w : World} {K : PySem.W.Frag} {mg : Str → Option Value} {base : Heap} {k : Nat} {call : CallF} {c : Ctx} {X : Cx}
theorem trG_star {tg : Expr} {t : T} (h : trG c tg = some t) : isStar tg = false := by
  cases tg with
  | Starred _ _ => rw [trG] at h <;> first | cases h | simp
  | _ => rfl
theorem swap_none (g : GdS P w K mg base k c X) {tg v : Expr} (h1 : swapFit c tg v = true) (h2 : swapOf c tg v = none) : swappedStores [tg] v X.env = pure none := by
  cases tg with
  | Tuple ts k1 p1 =>
    cases v with
    | Tuple vs k2 p2 =>
      rw [swap_tup g.bk g.g.sc h1]
      have e : parOf c ts vs = none := h2
      rw [e]
    | _ => rfl
  | List ts p => cases h1
  | _ => rfl
theorem ps_store (g : GdS P w K mg base k c X) {tg v : Expr} {pos : Pos} {te : TE} {gg : TG} (he : PE X v te) (hg : PG X tg gg) (hs : isStar tg = false) (hc : swapsWithSole [tg] v pos.line X.env = pure false) (h1 : swapFit c tg v = true) (h2 : swapOf c tg v = none) : PS X (.Assign [tg] v pos) (tAsg te gg) :=
  ps_asg he hg hc (swap_none g h1 h2) (assignOne hs)
/-- a store of the value of a term to a target -/
theorem sd_store {n : Nat} (T0 : Tab P w K mg base k call c) {tg v : Expr} {pos : Pos} {e : E} {t : T} (he : trE n c v = some e) (ht : trG c tg = some t) (h1 : swapFit c tg v = true) (h2 : swapOf c tg v = none) :
    ∃ te gg, (∀ X, GdS P w K mg base k c X → PS X (.Assign [tg] v pos) (tAsg te gg)) ∧ SE K call c.M te e ∧ (∀ vs, t.ok c.M vs = true → SG K c.M gg t vs) ∧ ∀ i, t = .nm i → gg = gName i := by
  have hs := trG_star ht
  have nm : ∀ {x : Str} {px : Pos} {i : Nat} {t : T}, trG c (.Name x px) = some t → ∃ i, t = .nm i ∧ c.N[i]? = some x ∧ (∀ X, Gd P w K mg base k c X → PG X (.Name x px) (gName i)) := fun {x px i t} h => by
    obtain ⟨gg, g1, g2⟩ := sd_G T0 h
    rw [trG] at h
    cases q : ixOf x c.N with
    | none => rw [q] at h; cases h
    | some i =>
      rw [q] at h
      simp only [Option.bind_some] at h
      have hx := ixOf_get q
      split at h
      · rename_i hl
        cases h
        exact ⟨i, rfl, hx, fun X g => pg_name (by rw [g.N]; exact T0.nd) (by rw [g.N]; exact hx) (.inl (by rw [g.sc]; exact hl)) (.inr (by rw [g.sc]; exact hl))⟩
      · rename_i hl
        split at h
        · rename_i hc
          cases h
          exact ⟨i, rfl, hx, fun X g => pg_name (by rw [g.N]; exact T0.nd) (by rw [g.N]; exact hx) (.inr (by rw [g.sc]; exact hl)) (.inl (g.fn x hc))⟩
        · cases h
      · cases h
  have one : ∀ {te : TE}, (∀ X, Gd P w K mg base k c X → PE X v te) → SE K call c.M te e → (∀ X : Cx, GdS P w K mg base k c X → ∀ gg, PG X tg gg → (∀ y py, tg = .Name y py → ∀ i, gg = gName i → c.N[i]? = some y → PS X (.Assign [tg] v pos) (tAsg te gg)) ∧ ((∀ y py, tg ≠ .Name y py) → PS X (.Assign [tg] v pos) (tAsg te gg))) →
      ∃ te gg, (∀ X, GdS P w K mg base k c X → PS X (.Assign [tg] v pos) (tAsg te gg)) ∧ SE K call c.M te e ∧ (∀ vs, t.ok c.M vs = true → SG K c.M gg t vs) ∧ ∀ i, t = .nm i → gg = gName i := fun {te} p1 p2 p3 => by
    by_cases hn : ∃ y py, tg = .Name y py
    · obtain ⟨y, py, rfl⟩ := hn
      obtain ⟨i, rfl, hx, g1⟩ := nm (i := 0) ht
      exact ⟨te, gName i, fun X g => (p3 X g _ (g1 X g.g)).1 y py rfl i rfl hx, p2, fun vs hv => sg_nm hv, fun j e => by cases e; rfl⟩
    · obtain ⟨gg, g1, g2⟩ := sd_G T0 ht
      refine ⟨te, gg, fun X g => (p3 X g _ (g1 X g.g)).2 fun y py e => hn ⟨y, py, e⟩, p2, g2, fun i e => ?_⟩
      subst e
      exfalso
      cases tg with
      | Name y py => exact hn ⟨y, py, rfl⟩
      | Tuple es kk pp =>
        rw [trG] at ht
        cases q : trGs c es with
        | none => rw [q] at ht; cases ht
        | some ts => rw [q] at ht; cases ht
      | _ => rw [trG] at ht <;> first | cases ht | simp
  by_cases hcomp : isCompE v = true
  · cases v with
    | ListComp elt gens scope p =>
      cases n with
      | zero => cases he
      | succ n =>
        have he : compE c n (trE n) elt gens scope = some e := he
        obtain ⟨te, a1, a2, a3, a4⟩ := sd_comp' (pos := p) T0 (fun c T pe e h => (sd_main n c T pe e h).1) (fun c T pe e h ht => (sd_main n c T pe e h).2 n ht) he
        refine one a1 a2 fun X g gg hg => ⟨fun y py e i eg hx => ?_, fun hn => ?_⟩
        · subst e
          subst eg
          have hb : ∃ b, swapsWith (.ListComp elt gens scope p) (some (.Name y py)) pos.line X.env = pure b ∧ (b = true → X.env.scope.names.lookup y = some .local) :=
            ⟨X.env.blockKind == .function && X.env.kindOf y == some .local && py.line == (Expr.ListComp elt gens scope p).pos.line && !(scope.names.any fun (n, k) => n == y && (k == .local || k == .cell)), rfl, fun h => by
              simp only [Bool.and_eq_true] at h
              exact eq_of_beq h.1.1.2⟩
          obtain ⟨b, hb1, hb2⟩ := hb
          cases b with
          | false => exact ps_store g (a1 X g.g) hg hs hb1 h1 h2
          | true => exact a4 X g.g i y py pos (by rw [g.g.N]; exact hx) (hb2 rfl) hb1
        · have e2 : swapsWithSole [tg] (.ListComp elt gens scope p) pos.line X.env = pure false := by
            cases tg with
            | Name y py => exact absurd rfl (hn y py)
            | _ => rfl
          exact ps_store g (a1 X g.g) hg hs e2 h1 h2
    | SetComp _ _ _ _ =>
      cases n <;> cases he
    | DictComp _ _ _ _ _ =>
      cases n <;> cases he
    | _ => cases hcomp
  · have hcomp : isCompE v = false := by simpa using hcomp
    obtain ⟨te, a1, a2⟩ := (sd_main n c T0 v e he).1
    exact one a1 a2 fun X g gg hg => ⟨fun y py e i eg hx => ps_store g (a1 X g.g) hg hs (notSwap hcomp) h1 h2, fun _ => ps_store g (a1 X g.g) hg hs (notSwap hcomp) h1 h2⟩
theorem sd_asgE {n : Nat} (T0 : Tab P w K mg base k call c) {tg v : Expr} {pos : Pos} {e : E} {s : S} (he : trE n c v = some e) (h1 : swapFit c tg v = true) (h2 : swapOf c tg v = none) (h : asgE c tg e = some s) : SdS P w K mg base k call c (.Assign [tg] v pos) s := by
  unfold asgE at h
  cases q : trG c tg with
  | none => rw [q] at h; cases h
  | some t =>
    rw [q] at h
    simp only [Option.bind_some] at h
    obtain ⟨te, gg, a1, a2, a3, a4⟩ := sd_store (pos := pos) T0 he q h1 h2
    have plain : ∀ {t}, (∀ vs, T.ok c.M vs t = true → SG K c.M gg t vs) → (t.ok c.M (allSlots c) && decide (cls c.M e ≠ .own)) = true → SS K call c.M (tAsg te gg) (.asg t e) := fun {t} a3 hz => by
      rw [Bool.and_eq_true] at hz
      exact ss_asg (a2.sv (of_decide_eq_true hz.2)) (a3 _ hz.1)
    cases t with
    | nm i =>
      simp only at h
      split at h
      · rename_i z
        rw [Bool.and_eq_true] at z
        split at h
        · rename_i hk
          rw [Bool.and_eq_true] at hk
          cases h
          have := a4 i rfl
          subst this
          exact ⟨tAsg te (gName i), a1, ss_own a2 (of_decide_eq_true hk.1) z.1 (of_decide_eq_true z.2) (T0.pin i (by simpa using hk.2))⟩
        · cases h
      · split at h
        · rename_i hz
          cases h
          exact ⟨tAsg te gg, a1, plain a3 hz⟩
        · cases h
    | tp ts =>
      simp only at h
      split at h
      · rename_i hz
        cases h
        exact ⟨tAsg te gg, a1, plain a3 hz⟩
      · cases h
end
end PyI
set_option Elab.async false
set_option linter.all false
set_option maxRecDepth 100000
set_option maxHeartbeats 1000000
namespace PyI
open PySem L2 PySem.Spec

section
variable {P : Program} {w : World} {K : PySem.W.Frag} {mg : Str → Option Value} {base : Heap} {k : Nat} {call : CallF} {c : Ctx} {X : Cx}
/-! ### a, b = x, y -/
theorem sd_SP (T0 : Tab P w K mg base k call c) {f : Expr → Option E} (hf : ∀ pe e, f pe = some e → SdE P w K mg base k call c pe e) : ∀ {pes : List Expr} {es : List E} {is : List Nat}, trL f pes = some es → parAll c is es = true →
    ∃ ta, (∀ X, Gd P w K mg base k c X → PA X pes ta) ∧ SP K call c.M ta is es
  | [], es, is, h, hp => by
    cases h
    cases is with
    | nil => exact ⟨tNil, fun X g => pa_nil, sp_nil⟩
    | cons _ _ => cases hp
  | pe :: pes, es, is, h, hp => by
    rw [trL] at h
    split at h
    · cases h
    · rename_i hs
      have hs : isStar pe = false := by simpa using hs
      cases q : f pe with
      | none => rw [q] at h; cases h
      | some e =>
        rw [q] at h
        simp only [Option.bind_some] at h
        cases q2 : trL f pes with
        | none => rw [q2] at h; cases h
        | some r =>
          rw [q2] at h
          cases h
          cases is with
          | nil => cases hp
          | cons i is =>
            rw [parAll, Bool.and_eq_true] at hp
            obtain ⟨te, a1, a2⟩ := hf pe e q
            obtain ⟨ta, b1, b2⟩ := sd_SP T0 hf q2 hp.2
            refine ⟨tCons te ta, fun X g => pa_cons (a1 X g) (b1 X g) (notStar' hs), ?_⟩
            have h1 := hp.1
            unfold parOne at h1
            rw [Bool.and_eq_true] at h1
            have hc : c.M.cs ≠ some i := of_decide_eq_true h1.1
            cases ho : c.own.contains i with
            | true =>
              have h2 := h1.2
              rw [ho, if_pos rfl] at h2
              rw [Bool.and_eq_true] at h2
              exact sp_own a2 (of_decide_eq_true h2.1) ho hc (T0.pin i (by simpa using h2.2)) b2
            | false =>
              have h2 := h1.2
              rw [ho, if_neg (by simp)] at h2
              exact sp_plain (a2.sv (of_decide_eq_true h2)) ho hc b2
theorem nm_name {line : Nat} {e : Expr} {x : Str} (h : nmOf c line e = some x) : ∃ pos, e = .Name x pos ∧ c.sc.names.lookup x = some .local := by
  cases e with
  | Name y pos =>
    unfold nmOf at h
    simp only at h
    split at h
    · rename_i z
      cases h
      rw [Bool.and_eq_true] at z
      exact ⟨pos, rfl, eq_of_beq z.1⟩
    · cases h
  | _ => cases h
theorem fm_len {α β : Type} {f : α → Option β} : ∀ {l : List α}, (l.filterMap f).length = l.length → ∀ (n : Nat) (x : α), l[n]? = some x → ∃ y, (l.filterMap f)[n]? = some y ∧ f x = some y
  | [], _, n, x, h => by simp at h
  | a :: l, hl, n, x, h => by
    cases q : f a with
    | none =>
      rw [List.filterMap_cons_none q] at hl
      have := List.length_filterMap_le f l
      rw [List.length_cons] at hl
      omega
    | some b =>
      rw [List.filterMap_cons_some q] at hl ⊢
      cases n with
      | zero =>
        have e := Option.some.inj (show some a = some x from h)
        subst e
        exact ⟨b, rfl, q⟩
      | succ n => exact fm_len (l := l) (by simpa using hl) n x h
theorem ixsOf_inv : ∀ {names : List Str} {is : List Nat}, ixsOf c names = some is → is.length = names.length ∧ ∀ (n : Nat) (x : Str), names[n]? = some x → ∃ i, is[n]? = some i ∧ c.N[i]? = some x
  | [], is, h => by
    cases h
    exact ⟨rfl, fun n x h => by simp at h⟩
  | y :: names, is, h => by
    rw [ixsOf] at h
    split at h
    · cases q : ixOf y c.N with
      | none => rw [q] at h; cases h
      | some i =>
        rw [q] at h
        simp only [Option.bind_some] at h
        cases q2 : ixsOf c names with
        | none => rw [q2] at h; cases h
        | some r =>
          rw [q2] at h
          cases h
          obtain ⟨h1, h2⟩ := ixsOf_inv q2
          refine ⟨by rw [List.length_cons, List.length_cons, h1], fun n x hx => ?_⟩
          cases n with
          | zero =>
            have e := Option.some.inj (show some y = some x from hx)
            subst e
            exact ⟨i, rfl, ixOf_get q⟩
          | succ n => exact h2 n x hx
    · cases h
theorem parOf_inv {ts vs : List Expr} {names : List Str} (h : parOf c ts vs = some names) : (ts.length = 2 ∨ ts.length = 3) ∧ vs.length = ts.length ∧ names = ts.filterMap (nmOf c (lineOf ts)) ∧ names.length = ts.length := by
  unfold parOf at h
  split at h
  · rename_i z
    simp only [Bool.and_eq_true, Bool.or_eq_true] at z
    split at h
    · cases h
    · rename_i z2
      split at h
      · cases h
      · cases h
        refine ⟨?_, eq_of_beq z.1.2, rfl, ?_⟩
        · rcases z.1.1 with q | q
          · exact .inl (eq_of_beq q)
          · exact .inr (eq_of_beq q)
        · rw [Bool.or_eq_true, not_or, bne_iff_ne, Classical.not_not] at z2
          exact z2.1
  · cases h
theorem sd_par {f : Expr → Option E} (T0 : Tab P w K mg base k call c) (hf : ∀ pe e, f pe = some e → SdE P w K mg base k call c pe e) {ts vs : List Expr} {k1 k2 : Nat} {p1 p2 pos : Pos} {names : List Str} {is : List Nat} {es : List E} (h1 : parFit c ts vs = true) (h2 : parOf c ts vs = some names) (h3 : ixsOf c names = some is) (h4 : trL f vs = some es) (h5 : parAll c is es = true) (h6 : is.Nodup) :
    SdS P w K mg base k call c (.Assign [.Tuple ts k1 p1] (.Tuple vs k2 p2) pos) (.par is es) := by
  obtain ⟨ta, a1, a2⟩ := sd_SP T0 hf h4 h5
  obtain ⟨g1, g2, g3, g4⟩ := parOf_inv h2
  obtain ⟨i1, i2⟩ := ixsOf_inv h3
  have key : ∀ n x, ts[n]? = some x → ∃ y pos i, x = PySem.Expr.Name y pos ∧ names[n]? = some y ∧ is[n]? = some i ∧ c.N[i]? = some y ∧ c.sc.names.lookup y = some .local := fun n x hx => by
    rw [g3] at g4
    obtain ⟨y, hy, hf⟩ := fm_len g4 n x hx
    rw [← g3] at hy
    obtain ⟨pos, e, hl⟩ := nm_name hf
    obtain ⟨i, hi, hN⟩ := i2 n y hy
    exact ⟨y, pos, i, e, hy, hi, hN, hl⟩
  rcases g1 with hl | hl
  · match ts, vs, names, is, hl, g2, g4, i1, key with
    | [t1, t2], [v1, v2], [x1, x2], [j1, j2], _, _, _, _, key =>
      obtain ⟨y1, q1, i1', rfl, e1, e2, e3, e4⟩ := key 0 t1 rfl
      obtain ⟨y2, q2, i2', rfl, f1, f2, f3, f4⟩ := key 1 t2 rfl
      cases e1; cases e2; cases f1; cases f2
      have hne : j1 ≠ j2 := by
        have := List.nodup_cons.mp h6
        simpa using this.1
      refine ⟨tPar j1 j2 ta, fun X g => ?_, ss_par2 a2⟩
      refine ps_par g.g.calm (by rw [g.g.N]; exact T0.nd) (by rw [g.g.N]; exact e3) (by rw [g.g.N]; exact f3) hne (by rw [g.g.sc]; exact e4) (by rw [g.g.sc]; exact f4) (a1 X g.g) ?_
      rw [swap_tup g.bk g.g.sc h1, h2]
  · match ts, vs, names, is, hl, g2, g4, i1, key with
    | [t1, t2, t3], [v1, v2, v3], [x1, x2, x3], [j1, j2, j3], _, _, _, _, key =>
      obtain ⟨y1, q1, i1', rfl, e1, e2, e3, e4⟩ := key 0 t1 rfl
      obtain ⟨y2, q2, i2', rfl, f1, f2, f3, f4⟩ := key 1 t2 rfl
      obtain ⟨y3, q3, i3', rfl, d1, d2, d3, d4⟩ := key 2 t3 rfl
      cases e1; cases e2; cases f1; cases f2; cases d1; cases d2
      have n1 := (List.nodup_cons.mp h6).1
      have n2 := (List.nodup_cons.mp (List.nodup_cons.mp h6).2).1
      have n1' : j1 ≠ j2 ∧ j1 ≠ j3 := by simpa using n1
      have n2' : j2 ≠ j3 := by simpa using n2
      refine ⟨tPar3 j1 j2 j3 ta, fun X g => ?_, ss_par3 a2⟩
      refine ps_par3 g.g.calm (by rw [g.g.N]; exact T0.nd) (by rw [g.g.N]; exact e3) (by rw [g.g.N]; exact f3) (by rw [g.g.N]; exact d3) n1'.1 n1'.2 n2' (by rw [g.g.sc]; exact e4) (by rw [g.g.sc]; exact f4) (by rw [g.g.sc]; exact d4) (a1 X g.g) ?_
      rw [swap_tup g.bk g.g.sc h1, h2]
/-! ### the other stores -/
theorem assignSub {o i : Expr} {pos : Pos} {env : Env} (h : isIx i = true) (v : Value) : assign (.Subscript o i pos) env v = (do
      let ov ← holding [v] (eval o env)
      let iv ← holding [v, ov] (eval i env)
      standAt pos
      holding [v, ov, iv] (setItem ov iv v)
      release [v, ov, iv] []) := by
  cases i <;> first | rfl | cases h
theorem popOf_notComp {v : Expr} {r : Nat × List Expr} (h : popOf c v = some r) : isCompE v = false ∧ ∀ ts k p, v ≠ .Tuple ts k p := by
  obtain ⟨j, args⟩ := r
  obtain ⟨o, ap, cp, rfl, _⟩ := popOf_inv h
  exact ⟨rfl, fun ts k p e => by cases e⟩
theorem notSwap1 {tg v : Expr} {l : Nat} {env : Env} (h : isCompE v = false) : swapsWithSole [tg] v l env = pure false := notSwap h
theorem ps_storeP (g : GdS P w K mg base k c X) {tg v : Expr} {pos : Pos} {te : TE} {gg : TG} {r : Nat × List Expr} (h : popOf c v = some r) (he : PE X v te) (hg : PG X tg gg) (hs : isStar tg = false) : PS X (.Assign [tg] v pos) (tAsg te gg) := by
  obtain ⟨j, args⟩ := r
  obtain ⟨o, ap, cp, rfl, _⟩ := popOf_inv h
  refine ps_asg he hg (notSwap1 rfl) ?_ (assignOne hs)
  cases tg <;> rfl
theorem sd_Gn (T0 : Tab P w K mg base k call c) : ∀ {pes : List Expr} {ts : List T} {is : List Nat}, trGs c pes = some ts → nmSlots ts = some is → (∀ X, Gd P w K mg base k c X → PGs X pes (gsN is)) ∧ pes.length = is.length ∧ pes.all (fun e => !isStar e) = true
  | [], ts, is, h, h2 => by
    rw [trGs] at h
    cases h
    cases h2
    exact ⟨fun X g => pgs_nil, rfl, rfl⟩
  | e :: es, ts, is, h, h2 => by
    rw [trGs] at h
    split at h
    · cases h
    · rename_i hs
      have hs : isStar e = false := by simpa using hs
      cases q : trG c e with
      | none => rw [q] at h; cases h
      | some t =>
        rw [q] at h
        simp only [Option.bind_some] at h
        cases q2 : trGs c es with
        | none => rw [q2] at h; cases h
        | some r =>
          rw [q2] at h
          cases h
          cases t with
          | tp _ => cases h2
          | nm i =>
            have h2 : (nmSlots r).map (i :: ·) = some is := h2
            cases q3 : nmSlots r with
            | none => rw [q3] at h2; cases h2
            | some js =>
              rw [q3] at h2
              cases h2
              obtain ⟨b1, b2, b3⟩ := sd_Gn T0 q2 q3
              refine ⟨fun X g => pgs_cons ?_ (b1 X g) (assignOne hs), by rw [List.length_cons, List.length_cons, b2], by rw [List.all_cons, b3, hs]; rfl⟩
              cases e with
              | Name x pos =>
                rw [trG] at q
                cases q4 : ixOf x c.N with
                | none => rw [q4] at q; cases q
                | some j =>
                  rw [q4] at q
                  simp only [Option.bind_some] at q
                  split at q
                  · rename_i hl
                    cases q
                    exact pg_name (by rw [g.N]; exact T0.nd) (by rw [g.N]; exact ixOf_get q4) (.inl (by rw [g.sc]; exact hl)) (.inr (by rw [g.sc]; exact hl))
                  · rename_i hl
                    split at q
                    · rename_i hc
                      cases q
                      exact pg_name (by rw [g.N]; exact T0.nd) (by rw [g.N]; exact ixOf_get q4) (.inr (by rw [g.sc]; exact hl)) (.inl (g.fn x hc))
                    · cases q
                  · cases q
              | Tuple es2 kk pos =>
                rw [trG] at q
                cases q4 : trGs c es2 with
                | none => rw [q4] at q; cases q
                | some ts => rw [q4] at q; cases q
              | _ => rw [trG] at q <;> first | cases q | simp
theorem sd_parT {f : Expr → Option E} (T0 : Tab P w K mg base k call c) (hf : ∀ pe e, f pe = some e → SdE P w K mg base k call c pe e) {tg v : Expr} {pos : Pos} {is : List Nat} {es : List E} (h1 : swapFit c tg v = true) (h2 : swapOf c tg v = none) (h : parT c f tg v = some (is, es)) : SdS P w K mg base k call c (.Assign [tg] v pos) (.par is es) := by
  unfold parT at h
  split at h
  · rename_i ts k1 p1 vs k2 p2
    cases q : trGs c ts with
    | none => rw [q] at h; cases h
    | some tt =>
      rw [q] at h
      simp only [Option.bind_some] at h
      cases q2 : nmSlots tt with
      | none => rw [q2] at h; cases h
      | some js =>
        rw [q2] at h
        simp only [Option.bind_some] at h
        split at h
        · cases q3 : trL f vs with
          | none => rw [q3] at h; cases h
          | some xs =>
            rw [q3] at h
            simp only [Option.bind_some] at h
            split at h
            · rename_i z
              rw [Bool.and_eq_true, Bool.and_eq_true] at z
              cases h
              obtain ⟨ta, a1, a2⟩ := sd_SP T0 hf q3 z.1.1
              obtain ⟨b1, b2, b3⟩ := sd_Gn T0 q q2
              refine ⟨tAsg (tTup ta) (gTup K is.length (gsN is)), fun X g => ?_, ss_parT a2 (of_decide_eq_true z.2)⟩
              have hg := pg_tup (X := X) (k := k1) (pos := p1) (n := ts.length) g.g.calm (b1 X g.g) assignLen (assignNoStar b3)
              rw [g.g.K, b2] at hg
              exact ps_store g (pe_tup (a1 X g.g)) hg rfl (notSwap1 rfl) h1 h2
            · cases h
        · cases h
  · cases h
theorem sd_asg {n : Nat} (T0 : Tab P w K mg base k call c) {tg v : Expr} {pos : Pos} {s : S} (h : trAsg n c tg v = some s) : SdS P w K mg base k call c (.Assign [tg] v pos) s := by
  have ih : ∀ pe e, trE n c pe = some e → SdE P w K mg base k call c pe e := fun pe e h => (sd_main n c T0 pe e h).1
  unfold trAsg at h
  split at h
  · rename_i j hp
    cases q : trG c tg with
    | none => rw [q] at h; cases h
    | some t =>
      rw [q] at h
      simp only [Option.bind_some] at h
      split at h
      · rename_i ht
        cases h
        obtain ⟨gg, g1, g2⟩ := sd_G T0 q
        obtain ⟨o, ap, cp, _, _, ho⟩ := popOf_inv hp
        obtain ⟨_, _, _, _, hj, _⟩ := ownV_inv ho
        exact ⟨_, fun X g => ps_storeP g hp (g.popPE0 hp) (g1 X g.g) (trG_star q), ss_popE hj (g2 _ ht)⟩
      · cases h
  · rename_i j b hp
    split at h
    · cases h
    · rename_i hs
      have hs : isStar b = false := by simpa using hs
      cases q : trG c tg with
      | none => rw [q] at h; cases h
      | some t =>
        rw [q] at h
        simp only [Option.bind_some] at h
        split at h
        · rename_i ht
          cases q2 : trE n c b with
          | none => rw [q2] at h; cases h
          | some e =>
            rw [q2] at h
            cases h
            obtain ⟨gg, g1, g2⟩ := sd_G T0 q
            obtain ⟨tb, b1, b2⟩ := ih b e q2
            obtain ⟨o, ap, cp, _, _, ho⟩ := popOf_inv hp
            obtain ⟨_, _, _, _, hj, _⟩ := ownV_inv ho
            exact ⟨_, fun X g => ps_storeP g hp (g.popPE hp (b1 X g.g) hs) (g1 X g.g) (trG_star q), ss_popL b2 hj (g2 _ ht)⟩
        · cases h
  · cases h
  · split at h
    · rename_i o i sp
      split at h
      · rename_i z
        rw [Bool.and_eq_true] at z
        cases q : ownV c o with
        | none => rw [q] at h; cases h
        | some j =>
          rw [q] at h
          simp only [Option.bind_some] at h
          cases q2 : trE n c v with
          | none => rw [q2] at h; cases h
          | some e =>
            rw [q2] at h
            simp only [Option.bind_some] at h
            split at h
            · rename_i hk
              cases q3 : trE n c i with
              | none => rw [q3] at h; cases h
              | some ke =>
                rw [q3] at h
                cases h
                obtain ⟨te, a1, a2⟩ := ih v e q2
                obtain ⟨tk, b1, b2⟩ := ih i ke q3
                obtain ⟨_, _, _, _, hj, _⟩ := ownV_inv q
                refine ⟨tAsg te (gSub (tVar j) tk rSet2), fun X g => ?_, ss_putL (a2.sv hk) b2 hj⟩
                exact ps_asg (a1 X g.g) (pg_sub (g.ownPE q) (b1 X g.g) (set_2 (by have := g.g.hu; omega)) (assignSub z.1)) (notSwap1 (by simpa using z.2)) rfl rfl
            · cases h
      · cases h
    · split at h
      · rename_i hf
        split at h
        · rename_i names hn
          split at h
          · rename_i vs k2 p2 _
            cases tg with
            | Tuple ts k1 p1 =>
              have hn : parOf c ts vs = some names := hn
              have hf : parFit c ts vs = true := hf
              cases q : ixsOf c names with
              | none => rw [q] at h; cases h
              | some is =>
                rw [q] at h
                simp only [Option.bind_some] at h
                cases q2 : trL (trE n c) vs with
                | none => rw [q2] at h; cases h
                | some es =>
                  rw [q2] at h
                  simp only [Option.bind_some] at h
                  split at h
                  · rename_i z
                    rw [Bool.and_eq_true] at z
                    cases h
                    exact sd_par T0 ih hf hn q q2 z.1 (of_decide_eq_true z.2)
                  · cases h
            | _ => cases hn
          · cases h
        · rename_i hn
          split at h
          · rename_i is es hm
            cases h
            exact sd_parT T0 ih hf hn hm
          split at h
          · rename_i i j hm
            cases h
            unfold mvOf at hm
            split at hm
            · rename_i j' hj
              split at hm
              · rename_i i' hi'
                split at hm
                · rename_i hok
                  cases hm
                  obtain ⟨gg, g1, g2⟩ := sd_G T0 hi'
                  obtain ⟨_, _, e, _, hj2, _⟩ := ownV_inv hj
                  exact ⟨_, fun X g => ps_store g (g.ownPE hj) (g1 X g.g) (trG_star hi') (notSwap1 (by rw [e]; rfl)) hf hn, ss_mv hj2 (g2 _ hok)⟩
                · cases hm
              · cases hm
            · cases hm
          · cases q : trE n c v with
            | none => rw [q] at h; cases h
            | some e =>
              rw [q] at h
              exact sd_asgE T0 q hf hn h
      · cases h
/-! ### expressions as statements, return -/
theorem sd_X {n : Nat} (T0 : Tab P w K mg base k call c) {e : Expr} {pos : Pos} {s : S} (h : trX n c e = some s) : SdS P w K mg base k call c (.Expr e pos) s := by
  have ih : ∀ pe e, trE n c pe = some e → SdE P w K mg base k call c pe e := fun pe e h => (sd_main n c T0 pe e h).1
  unfold trX at h
  split at h
  · rename_i i a ha
    obtain ⟨o, ap, cp, rfl, _, ho, hsa⟩ := appOf_inv ha
    obtain ⟨_, _, _, _, hi, _⟩ := ownV_inv ho
    split at h
    · rename_i j b hp
      split at h
      · rename_i z
        rw [Bool.and_eq_true] at z
        cases q : trE n c b with
        | none => rw [q] at h; cases h
        | some x =>
          rw [q] at h
          cases h
          obtain ⟨tb, b1, b2⟩ := ih b x q
          obtain ⟨_, _, _, _, _, ho2⟩ := popOf_inv hp
          obtain ⟨_, _, _, _, hj, _⟩ := ownV_inv ho2
          exact ⟨_, fun X g => ps_expr (g.appPE ha (g.popPE hp (b1 X g.g) (by simpa using z.2))) (notSwap rfl), ss_appPop b2 hi hj (of_decide_eq_true z.1)⟩
      · cases h
    · cases h
    · split at h
      · rename_i j hj
        split at h
        · rename_i hij
          cases h
          obtain ⟨_, _, _, _, hj2, hcj⟩ := ownV_inv hj
          exact ⟨_, fun X g => ps_expr (g.appPE ha (g.ownPE hj)) (notSwap rfl), ss_appMv hi hj2 hij hcj⟩
        · cases h
      · cases q : trE n c a with
        | none => rw [q] at h; cases h
        | some x =>
          rw [q] at h
          simp only [Option.bind_some] at h
          split at h
          · rename_i hk
            cases h
            obtain ⟨ta, a1, a2⟩ := ih a x q
            exact ⟨_, fun X g => ps_expr (g.appPE ha (a1 X g.g)) (notSwap rfl), ss_app (a2.sv hk) hi⟩
          · cases h
  · split at h
    · cases h
    · rename_i hc
      cases q : trE n c e with
      | none => rw [q] at h; cases h
      | some x =>
        rw [q] at h
        cases h
        obtain ⟨te, a1, a2⟩ := ih e x q
        exact ⟨_, fun X g => ps_expr (a1 X g.g) (notSwap (by simpa using hc)), ss_expr a2⟩
theorem sd_ret {n : Nat} (T0 : Tab P w K mg base k call c) {v : Expr} {pos : Pos} {s : S} (h : trRet n c v = some s) : SdS P w K mg base k call c (.Return (some v) pos) s := by
  unfold trRet at h
  split at h
  · rename_i i hi
    cases h
    obtain ⟨_, _, _, _, ho, _⟩ := ownV_inv hi
    exact ⟨_, fun X g => ps_ret (g.ownPE hi), ss_retO ho⟩
  · cases q : trE n c v with
    | none => rw [q] at h; cases h
    | some e =>
      rw [q] at h
      simp only [Option.bind_some] at h
      split at h
      · rename_i hk
        cases h
        obtain ⟨te, a1, a2⟩ := (sd_main n c T0 v e q).1
        exact ⟨_, fun X g => ps_ret (a1 X g.g), ss_ret a2 hk⟩
      · cases h
/-! ### statements -/
theorem sd_stmt : ∀ (n : Nat) (c : Ctx), Tab P w K mg base k call c → ∀ ps s, trS n c ps = some s → SdS P w K mg base k call c ps s
  | 0, _, _, _, _, h => by cases h
  | n + 1, c, T0, ps, s, h => by
    have ih : ∀ pe e, trE n c pe = some e → SdE P w K mg base k call c pe e := fun pe e h => (sd_main n c T0 pe e h).1
    have ihT : ∀ pe e, trE n c pe = some e → testOk n pe = true → SdT P w K mg base k call c pe e := fun pe e h => (sd_main n c T0 pe e h).2 n
    have ihS : ∀ ps s, trS n c ps = some s → SdS P w K mg base k call c ps s := sd_stmt n c T0
    rw [trS.eq_def] at h
    simp only at h
    split at h
    · cases h; exact ⟨_, fun X g => ps_pass, ss_pass⟩
    · cases h; exact ⟨_, fun X g => ps_break, ss_brk⟩
    · cases h; exact ⟨_, fun X g => ps_continue, ss_cnt⟩
    · cases h; exact ⟨_, fun X g => ps_never, ss_never⟩
    · cases h; exact ⟨_, fun X g => ps_retN, ss_retN⟩
    · exact sd_ret T0 h
    · cases h; exact ⟨_, fun X g => ps_doc, ss_pass⟩
    · exact sd_X T0 h
    · exact sd_asg T0 h
    · rename_i x px e pos
      cases q : ixOf x c.N with
      | none => rw [q] at h; cases h
      | some i =>
        rw [q] at h
        simp only [Option.bind_some] at h
        split at h
        · rename_i z
          rw [Bool.and_eq_true, Bool.and_eq_true] at z
          obtain ⟨⟨z1, z2⟩, z4⟩ := z
          have hl : c.sc.names.lookup x = some .local := of_decide_eq_true z4
          cases q2 : trE n c e with
          | none => rw [q2] at h; cases h
          | some y =>
            rw [q2] at h
            cases h
            obtain ⟨te, a1, a2⟩ := ih e y q2
            exact ⟨_, fun X g => ps_aug (by rw [g.g.N]; exact T0.nd) (by rw [g.g.N]; exact ixOf_get q) (.inl (by rw [g.g.sc]; exact hl)) (a1 X g.g) iop_ext (.inr (by rw [g.g.sc]; exact hl)), ss_ext a2 z1⟩
        · cases h
    · rename_i t a b pos
      split at h
      · rename_i ht
        cases q : trE n c t with
        | none => rw [q] at h; cases h
        | some x =>
          rw [q] at h
          simp only [Option.bind_some] at h
          cases q2 : trSs (trS n c) a with
          | none => rw [q2] at h; cases h
          | some y =>
            rw [q2] at h
            simp only [Option.bind_some] at h
            cases q3 : trSs (trS n c) b with
            | none => rw [q3] at h; cases h
            | some z =>
              rw [q3] at h
              cases h
              obtain ⟨tt, t1, t2⟩ := ihT t x q ht
              obtain ⟨ta, a1, a2⟩ := sss_all ihS q2
              obtain ⟨tb, b1, b2⟩ := sss_all ihS q3
              exact ⟨_, fun X g => ps_if (t1 X g.g) (a1 X g) (b1 X g), ss_ifs t2 a2 b2⟩
      · cases h
    · rename_i tg iter body pos
      split at h
      · cases h
      · rename_i hs
        cases q : trI c (trE n c) tg iter with
        | none => rw [q] at h; cases h
        | some ks =>
          rw [q] at h
          simp only [Option.bind_some] at h
          split at h
          · rename_i hn
            cases q2 : trG c tg with
            | none => rw [q2] at h; cases h
            | some t =>
              rw [q2] at h
              simp only [Option.bind_some] at h
              split at h
              · rename_i ht
                cases q3 : trSs (trS n c) body with
                | none => rw [q3] at h; cases h
                | some b =>
                  rw [q3] at h
                  cases h
                  obtain ⟨wi, i1, i2, i3⟩ := sd_I T0 ih q
                  obtain ⟨gg, g1, g2⟩ := sd_G T0 q2
                  obtain ⟨tb, b1, b2⟩ := sss_all ihS q3
                  exact ⟨_, fun X g => ps_for g.pass g.g.calm (i1 X g.g) (g1 X g.g) (b1 X g) fun x => notSet (by simpa using hs), ss_for (i3 hn) (g2 _ ht) b2⟩
              · cases h
          · cases h
    · rename_i t body pos
      split at h
      · rename_i ht
        cases q : trE n c t with
        | none => rw [q] at h; cases h
        | some x =>
          rw [q] at h
          simp only [Option.bind_some] at h
          cases q3 : trSs (trS n c) body with
          | none => rw [q3] at h; cases h
          | some b =>
            rw [q3] at h
            cases h
            obtain ⟨tt, t1, t2⟩ := ihT t x q ht
            obtain ⟨tb, b1, b2⟩ := sss_all ihS q3
            exact ⟨_, fun X g => ps_while g.pass (t1 X g.g) (b1 X g), ss_while t2 b2⟩
      · cases h
    · cases h
end
end PyI
set_option Elab.async false
set_option linter.all false
set_option maxRecDepth 100000
set_option maxHeartbeats 1000000
namespace PyI
open PySem L2 PySem.Spec

/-! ### defs -/
/-- a def of the text with its term -/
structure Df where
  name : Str
  st : Stmt
  N : List Str
  ps : List Str
  own : List Nat
  fn : Fn
/-- what all bodies may call -/
structure Glob where
  fns : List (Str × Fe)
  cons : List (Str × D)
  blt : List Str
def ctxOf (G : Glob) (d : Df) (pn : Nat → Option Addr) : Ctx where
  N := d.N
  sc := defScope d.st
  cells := cellsOf' (defScope d.st)
  own := d.own
  cs := if (d.fn.cup && !d.fn.lend) = true then some 0 else none
  pinned := if d.fn.lend = true then [0] else []
  pn := pn
  fns := G.fns
  cons := G.cons
  blt := G.blt
def trFuel : Nat := 60
/-- the term is the text's -/
structure DfOk (G : Glob) (d : Df) : Prop where
  tr : ∀ pn, trSs (trS trFuel (ctxOf G d pn)) (defBody d.st) = some d.fn.body
  slots : d.fn.slots = d.N.length
  pars : d.fn.pars = d.ps.length
  le : d.ps.length ≤ d.N.length
  own : d.fn.lend = false → ∀ i ∈ d.own, d.ps.length ≤ i
  own0 : d.fn.lend = true → d.own = [0] ∧ d.fn.cup = false ∧ 1 ≤ d.ps.length
  cup : d.fn.cup = true → d.fn.lend = false ∧ 1 ≤ d.ps.length
section
variable {P : Program} {w : World} {K : PySem.W.Frag} {mg : Str → Option Value} {base : Heap} {k : Nat} {call : CallF}
theorem start_len {N : List Str} {vs : List V} (h : vs.length ≤ N.length) : (L2.start N vs).length = N.length := by
  unfold L2.start
  rw [List.length_append, List.length_map, List.length_replicate]
  omega
theorem start_get {N : List Str} {vs : List V} {i : Nat} {v : V} (h : vs[i]? = some v) : (L2.start N vs)[i]? = some (some v) := by
  unfold L2.start
  have hl := (List.getElem?_eq_some_iff.mp h).1
  rw [List.getElem?_append_left (by rw [List.length_map]; exact hl), List.getElem?_map, h]
  rfl
theorem ent_get {ds : List D} {n i : Nat} {d : D} (h : (ds.map some ++ List.replicate n (none : Option D))[i]? = some (some d)) : ds[i]? = some d := by
  by_cases hl : i < ds.length
  · rw [List.getElem?_append_left (by rw [List.length_map]; exact hl), List.getElem?_map] at h
    cases q : ds[i]? with
    | none => rw [q] at h; cases h
    | some x => rw [q] at h; cases h; rfl
  · rw [List.getElem?_append_right (by rw [List.length_map]; omega), List.getElem?_replicate] at h
    split at h
    · cases h
    · cases h
theorem retOf_inv {r : Option (Fl × Ev × D)} {d w' : D} (h : retOf r = some (d, w')) : ∃ env, (r = some (.nx, env, w') ∧ d = .none) ∨ r = some (.rt d, env, w') := by
  match r, h with
  | some (.nx, env, w1), h => cases h; exact ⟨env, .inl ⟨rfl, rfl⟩⟩
  | some (.rt d1, env, w1), h => cases h; exact ⟨env, .inr rfl⟩
theorem lendOf_inv {r : Option (Fl × Ev × D)} {d w' : D} (h : lendOf r = some (d, w')) : ∃ env w1, r = some (.rt d, env, w1) ∧ flat d = true ∧ getE env 0 = some w' := by
  match r, h with
  | some (.rt d1, env, w1), h =>
    rw [lendOf] at h
    split at h
    · rename_i hf
      cases q : getE env 0 with
      | none => rw [q] at h; cases h
      | some x =>
        rw [q] at h
        cases h
        exact ⟨env, w1, rfl, hf, q⟩
    · cases h
theorem cup_of_known {F F' H H' : Hp} {a : Addr} {w0 : D} (s : Step (some a) F H F' H') (h : CupAt K F H a w0) : True := trivial
theorem gd_of {G : Glob} {d : Df} {pn : Nat → Option Addr} {f : Addr} {cdv : Value} {A : Around} {outer : List Env} {s : Shared} {H : Hp} {E : XK} (hk : (defScope d.st).kind = .function) (hgd : A.guards = some []) (hr : Room k (A.deeper (PyProof.Rows.envOfC d.name (defScope d.st) s.heap.objs.size f cdv))) :
    GdS P w K mg base k (ctxOf G d pn) (cxOf CX0 P w K mg base d.N d.name (defScope d.st) f cdv A outer s H E).nox :=
  ⟨⟨rfl, rfl, rfl, rfl, rfl, rfl, rfl, rfl, hr, hgd, fun _ _ => rfl⟩, rfl, hk⟩
/-- THE RULE for a def -/
theorem fn_ok {Φ : Nat → Fn} {G : Glob} {d : Df} {i : Nat} {fe : Fe} {f : Addr} {fd : FuncData} (hd : DfOk G d) (hf : Φ i = d.fn) (hfe : fe.ix = i ∧ fe.ar = d.ps.length ∧ fe.cup = (d.fn.cup || d.fn.lend)) (S0 : FnScope d.N d.ps (defScope d.st))
    (F0 : L2.Fun K d.name d.name d.st f fd) (T : ∀ pn, (∀ i, (if d.fn.lend = true then [0] else ([] : List Nat)).contains i = false → pn i = none) → Tab P w K mg base k (run Φ k) (ctxOf G d pn)) :
    FnG P w K mg base (k + 1) f fd d.ps (spOf K (run Φ (k + 1)) fe) := by
  obtain ⟨e1, e2, e3⟩ := hfe
  have fuel : ∀ pn, (∀ i, (if d.fn.lend = true then [0] else ([] : List Nat)).contains i = false → pn i = none) → SdSs P w K mg base k (run Φ k) (ctxOf G d pn) (defBody d.st) d.fn.body := fun pn hp => sss_all (fun ps s h => sd_stmt trFuel _ (T pn hp) ps s h) (hd.tr pn)
  have spLen : ∀ vs H Q E, spOf K (run Φ (k + 1)) fe vs H Q E → vs.length = d.ps.length := fun vs H Q E h => by
    unfold spOf at h
    split at h
    · rw [← e2]; exact h.1
    · rw [← e2]; exact h.1
  refine fnG_of F0 S0 spLen fun cdv A outer s H vs Q E hr hgd hsp => ?_
  have hvl := spLen vs H Q E hsp
  have hle := hd.le
  cases hl : d.fn.lend with
  | true =>
    obtain ⟨o1, o2, o3⟩ := hd.own0 hl
    unfold spOf at hsp
    rw [if_pos (by rw [e3, hl]; simp)] at hsp
    obtain ⟨_, a, vs', F, ds, r, w0, w', rfl, hF, cu, ra, hc, q⟩ := hsp
    obtain ⟨ts, t1, t2⟩ := fuel (fun i => if i = 0 then some a else none) (fun i hi => by
      rw [hl, if_pos rfl] at hi
      by_cases z : i = 0
      · subst z; simp at hi
      · rw [if_neg z])
    refine ⟨ts, t1 _ (gd_of S0.kind hgd hr), ?_⟩
    rw [run, e1, hf, hl, if_pos rfl] at hc
    split at hc
    · rename_i hlen
      obtain ⟨env', w1, h1, h2, h3⟩ := lendOf_inv hc
      obtain ⟨cF, o, cH, cC⟩ := cu
      have hr1 : Ex F (fun b => if b = a then none else H b) := fun b x hx => by
        have nb : b ≠ a := fun z => by rw [z, cF] at hx; cases hx
        simp only [nb, if_false]
        exact hF b x hx
      have st0 : Step none F (fun b => if b = a then none else H b) F H := ⟨Ex.refl _, fun b x _ hx => by
        by_cases z : b = a
        · simp [z] at hx
        · simpa [z] using hx, hF, fun b x hx => .inl hx, fun b z => by cases z⟩
      have ll : vs'.length + 1 = d.ps.length := by
        rw [List.length_cons] at hvl
        exact hvl
      have S1 : Stt K (ctxOf G d (fun i => if i = 0 then some a else none)).M F (fun b => if b = a then none else H b) none F H (L2.start d.N (.ref a :: vs')) (entry d.fn (w0 :: ds)) .none := by
        have ent : entry d.fn (w0 :: ds) = (w0 :: ds).map some ++ List.replicate (d.fn.slots - d.fn.pars) none := by
          unfold entry
          rw [o2]
          rfl
        refine ⟨st0, ?_, fun i x h1 h2 => ?_, fun i x h1 h2 => ?_, fun i j x y p n h1 h2 h3 h4 h5 => ?_, fun s hs => ?_, fun _ => rfl, fun i b hb => ?_⟩
        · rw [start_len (by rw [List.length_cons]; omega), ent, List.length_append, List.length_map, List.length_replicate, List.length_cons, hd.slots, hd.pars]
          have := ra.length
          omega
        · rw [ent] at h1
          have hx := ent_get h1
          cases i with
          | zero =>
            have : (ctxOf G d (fun i => if i = 0 then some a else none)).M.own 0 = true := by
              show d.own.contains 0 = true
              rw [o1]
              rfl
            rw [this] at h2
            cases h2
          | succ i =>
            obtain ⟨v, g1, g2⟩ := ra.get (i := i) (show ds[i]? = some x from hx)
            exact ⟨v, start_get (i := i + 1) g1, g2⟩
        · have i0 : i = 0 := by
            have : d.own.contains i = true := h2
            rw [o1] at this
            simpa using this
          subst i0
          rw [ent] at h1
          have hx := ent_get h1
          cases hx
          exact ⟨a, o, start_get rfl, cF, by simp, by simp, cH, cC⟩
        · have i0 : i = 0 := by
            have : d.own.contains i = true := h1
            rw [o1] at this
            simpa using this
          have j0 : j = 0 := by
            have : d.own.contains j = true := h2
            rw [o1] at this
            simpa using this
          exact absurd (i0.trans j0.symm) n
        · have : (if (d.fn.cup && !d.fn.lend) = true then some 0 else none) = some s := hs
          rw [o2, hl] at this
          cases this
        · have hb : (if i = 0 then some a else none) = some b := hb
          split at hb
          · rename_i z
            subst z
            cases hb
            exact ⟨show d.own.contains 0 = true by rw [o1]; rfl, start_get rfl⟩
          · cases hb
      refine t2 F _ none F H _ _ .none _ _ S1 h1 ?_
      intro v F' H' R
      obtain ⟨σ', S'⟩ := R.left h2
      have g0 := getE_inv h3
      have own0 : (ctxOf G d (fun i => if i = 0 then some a else none)).M.own 0 = true := show d.own.contains 0 = true by rw [o1]; rfl
      obtain ⟨p, o', k1, k2, k3, k4, k5, k6⟩ := S'.owns 0 _ g0 own0
      obtain ⟨_, k7⟩ := S'.pins 0 a (by show (if (0 : Nat) = 0 then some a else none) = some a; rfl)
      rw [k1] at k7
      cases k7
      refine q v F' H' ⟨R.st.ef, fun b x n hx => ?_, R.st.fh, fun b x hx => ?_, fun b z _ => ?_⟩ ⟨k2, o', k5, k6⟩ R.rp
      · have nb : b ≠ a := fun z => n (by rw [z])
        exact R.st.eh b x (by simp) (by simp only [nb, if_false]; exact hx)
      · rcases R.st.nw b x hx with z | z | z
        · exact .inl z
        · by_cases nb : b = a
          · rw [nb, k2] at hx; cases hx
          · simp only [nb, if_false] at z
            exact .inr (.inl z)
        · exact .inr (.inr z)
      · cases z
        rw [k5]
        simp
    · cases hc
  | false =>
    have pinNone : ∀ i, (if d.fn.lend = true then [0] else ([] : List Nat)).contains i = false → (fun _ : Nat => (none : Option Addr)) i = none := fun _ _ => rfl
    obtain ⟨ts, t1, t2⟩ := fuel (fun _ => none) pinNone
    refine ⟨ts, t1 _ (gd_of S0.kind hgd hr), ?_⟩
    have noOwnP : ∀ i, (ctxOf G d (fun _ => none)).M.own i = true → d.ps.length ≤ i := fun i hi => hd.own hl i (by
      have : d.own.contains i = true := hi
      simpa using this)
    cases hcup : d.fn.cup with
    | true =>
      obtain ⟨_, o3⟩ := hd.cup hcup
      unfold spOf at hsp
      rw [if_pos (by rw [e3, hcup]; simp)] at hsp
      obtain ⟨_, a, vs', F, ds, r, w0, w', rfl, hF, cu, ra, hc, q⟩ := hsp
      rw [run, e1, hf, hl, if_neg (by simp), hcup] at hc
      simp only [if_true, Bool.false_eq_true, if_false, Nat.add_zero] at hc
      split at hc
      · rename_i hlen
        have ll : vs'.length + 1 = d.ps.length := by
          rw [List.length_cons] at hvl
          exact hvl
        have ent : entry d.fn ds = none :: (ds.map some ++ List.replicate (d.fn.slots - d.fn.pars) none) := by
          unfold entry
          rw [hcup]
          rfl
        have cs0 : (ctxOf G d (fun _ => none)).M.cs = some 0 := by
          show (if (d.fn.cup && !d.fn.lend) = true then some 0 else none) = some 0
          rw [hcup, hl]
          rfl
        have S1 : Stt K (ctxOf G d (fun _ => none)).M F H (some a) F H (L2.start d.N (.ref a :: vs')) (entry d.fn ds) w0 := by
          refine ⟨Step.refl hF, ?_, fun i x h1 h2 => ?_, fun i x h1 h2 => ?_, fun i j x y p n h1 h2 h3 h4 h5 => ?_, fun s hs => ?_, fun h => ?_, fun i b hb => by cases hb⟩
          · rw [start_len (by rw [List.length_cons]; omega), ent, List.length_cons, List.length_append, List.length_map, List.length_replicate, hd.slots, hd.pars]
            have := ra.length
            omega
          · rw [ent] at h1
            cases i with
            | zero => cases h1
            | succ i =>
              have hx := ent_get (i := i) h1
              obtain ⟨v, g1, g2⟩ := ra.get hx
              exact ⟨v, start_get (i := i + 1) g1, g2⟩
          · have := noOwnP i h2
            rw [ent] at h1
            cases i with
            | zero => omega
            | succ i =>
              have hx := lt_of_get (ent_get (i := i) h1)
              have := ra.length
              omega
          · have := noOwnP i h1
            rw [ent] at h3
            cases i with
            | zero => omega
            | succ i =>
              have hx := lt_of_get (ent_get (i := i) h3)
              have := ra.length
              omega
          · rw [cs0] at hs
            cases hs
            exact ⟨a, rfl, start_get rfl, cu⟩
          · rw [cs0] at h
            cases h
        obtain ⟨env', h⟩ := retOf_inv hc
        rcases h with ⟨h1, rfl⟩ | h1
        · refine t2 F H (some a) F H _ _ w0 _ _ S1 h1 ?_
          intro σ' F' H' S' _
          obtain ⟨b, z1, z2, z3⟩ := S'.cup 0 cs0
          cases z1
          exact q .non F' H' S'.st z3 .non
        · refine t2 F H (some a) F H _ _ w0 _ _ S1 h1 ?_
          intro v F' H' R
          obtain ⟨b, z1, z3⟩ := R.cup 0 cs0
          cases z1
          exact q v F' H' R.st z3 R.rp
      · cases hc
    | false =>
      unfold spOf at hsp
      rw [if_neg (by rw [e3, hcup, hl]; simp)] at hsp
      obtain ⟨_, F, ds, r, w', hF, ra, hc, q⟩ := hsp
      rw [run, e1, hf, hl, if_neg (by simp), hcup] at hc
      simp only [if_true, Bool.false_eq_true, if_false, Nat.add_zero] at hc
      split at hc
      · rename_i hlen
        have ent : entry d.fn ds = ds.map some ++ List.replicate (d.fn.slots - d.fn.pars) none := by
          unfold entry
          rw [hcup]
          rfl
        have csN : (ctxOf G d (fun _ => none)).M.cs = none := by
          show (if (d.fn.cup && !d.fn.lend) = true then some 0 else none) = none
          rw [hcup]
          rfl
        have S1 : Stt K (ctxOf G d (fun _ => none)).M F H none F H (L2.start d.N vs) (entry d.fn ds) .none := by
          refine ⟨Step.refl hF, ?_, fun i x h1 h2 => ?_, fun i x h1 h2 => ?_, fun i j x y p n h1 h2 h3 h4 h5 => ?_, fun s hs => ?_, fun _ => rfl, fun i b hb => by cases hb⟩
          · rw [start_len (by omega), ent, List.length_append, List.length_map, List.length_replicate, hd.slots, hd.pars]
            have := ra.length
            omega
          · rw [ent] at h1
            obtain ⟨v, g1, g2⟩ := ra.get (ent_get h1)
            exact ⟨v, start_get g1, g2⟩
          · have := noOwnP i h2
            rw [ent] at h1
            have hx := lt_of_get (ent_get h1)
            have := ra.length
            omega
          · have := noOwnP i h1
            rw [ent] at h3
            have hx := lt_of_get (ent_get h3)
            have := ra.length
            omega
          · rw [csN] at hs
            cases hs
        obtain ⟨env', h⟩ := retOf_inv hc
        rcases h with ⟨h1, rfl⟩ | h1
        · refine t2 F H none F H _ _ .none _ _ S1 h1 ?_
          intro σ' F' H' S' _
          exact q .non F' H' S'.st .non
        · refine t2 F H none F H _ _ .none _ _ S1 h1 ?_
          intro v F' H' R
          exact q v F' H' R.st R.rp
      · cases hc
end
end PyI
set_option Elab.async false
set_option linter.all false
set_option maxRecDepth 100000
set_option maxHeartbeats 1000000
namespace PyI
open PySem L2 PySem.Spec

/-! ### all defs, level by level -/
structure DfIn (K : PySem.W.Frag) (mg : Str → Option Value) (G : Glob) (Φ : Nat → Fn) (x : Str) (fe : Fe) (d : Df) : Prop where
  fn : Φ fe.ix = d.fn
  name : d.name = x
  ok : DfOk G d
  ar : fe.ar = d.ps.length
  cup : fe.cup = (d.fn.cup || d.fn.lend)
  sc : FnScope d.N d.ps (defScope d.st)
  def_ : ∃ f fd, L2.Fun K d.name d.name d.st f fd ∧ mg d.name = some (.ref f) ∧ Binds K fd d.ps []
def AllIn (K : PySem.W.Frag) (mg : Str → Option Value) (G : Glob) (Φ : Nat → Fn) : List (Str × Fe) → Prop
  | [] => True
  | (x, fe) :: r => (∃ d, DfIn K mg G Φ x fe d) ∧ AllIn K mg G Φ r
def ConIn (K : PySem.W.Frag) (mg : Str → Option Value) (x : Str) (d : D) : Prop := ∃ u v, mg x = some u ∧ RelV v u ∧ ∀ F, Rp K F v d
def ConsIn (K : PySem.W.Frag) (mg : Str → Option Value) : List (Str × D) → Prop
  | [] => True
  | (x, d) :: r => ConIn K mg x d ∧ ConsIn K mg r
def BltIn (mg : Str → Option Value) : List Str → Prop
  | [] => True
  | x :: r => BltM mg x ∧ BltIn mg r
section
variable {P : Program} {w : World} {K : PySem.W.Frag} {mg : Str → Option Value} {base : Heap} {k : Nat} {call : CallF} {Φ : Nat → Fn} {G : Glob}
theorem AllIn.get : ∀ {l : List (Str × Fe)} {x : Str} {fe : Fe}, AllIn K mg G Φ l → l.lookup x = some fe → ∃ d, DfIn K mg G Φ x fe d
  | [], _, _, _, h => by cases h
  | (y, fe') :: r, x, fe, ⟨h1, h2⟩, h => by
    rw [List.lookup_cons] at h
    cases hb : x == y with
    | true =>
      rw [hb] at h
      cases h
      have e : x = y := eq_of_beq hb
      subst e
      exact h1
    | false =>
      rw [hb] at h
      exact AllIn.get h2 h
theorem ConsIn.get : ∀ {l : List (Str × D)} {x : Str} {d : D}, ConsIn K mg l → l.lookup x = some d → ConIn K mg x d
  | [], _, _, _, h => by cases h
  | (y, d') :: r, x, d, ⟨h1, h2⟩, h => by
    rw [List.lookup_cons] at h
    cases hb : x == y with
    | true =>
      rw [hb] at h
      cases h
      have e : x = y := eq_of_beq hb
      subst e
      exact h1
    | false =>
      rw [hb] at h
      exact ConsIn.get h2 h
theorem BltIn.get : ∀ {l : List Str} {x : Str}, BltIn mg l → l.contains x = true → BltM mg x
  | [], _, _, h => by cases h
  | y :: r, x, ⟨h1, h2⟩, h => by
    rw [List.contains_cons, Bool.or_eq_true] at h
    rcases h with h | h
    · have e : x = y := eq_of_beq h
      subst e
      exact h1
    · exact BltIn.get h2 h
theorem tab_of (h : ∀ x fe, G.fns.lookup x = some fe → CalOk P w K mg base k x (spOf K call fe)) (hc : ConsIn K mg G.cons) (hb : BltIn mg G.blt) {c : Ctx} (h1 : c.fns = G.fns) (h2 : c.cons = G.cons) (h3 : c.blt = G.blt) (nd : c.N.Nodup) (pin : ∀ i, c.pinned.contains i = false → c.pn i = none) :
    Tab P w K mg base k call c :=
  ⟨fun x f e => h x f (by rw [← h1]; exact e), fun x d e => hc.get (by rw [← h2]; exact e), fun x e => hb.get (by rw [← h3]; exact e), nd, pin⟩
theorem levels (ha : AllIn K mg G Φ G.fns) (hc : ConsIn K mg G.cons) (hb : BltIn mg G.blt) : ∀ k x fe, G.fns.lookup x = some fe → CalOk P w K mg base k x (spOf K (run Φ k) fe)
  | 0, x, fe, h => by
    obtain ⟨d, e1, e2, e3, e4, e5, e6, f, fd, g1, g2, g3⟩ := ha.get h
    subst e2
    refine ⟨f, fd, d.ps, ⟨fun vs H Q E h => ?_, fun A outer s H args us vs Q E hr hgd he hb hv hs => ?_⟩, g2, g1.kp, g3⟩
    · unfold spOf at h
      split at h
      · rw [← e4]; exact h.1
      · rw [← e4]; exact h.1
    · exfalso
      unfold spOf at hs
      split at hs
      · obtain ⟨_, a, vs', F, ds, r, w0, w', _, _, _, _, hc, _⟩ := hs
        cases hc
      · obtain ⟨_, F, ds, r, w', _, _, hc, _⟩ := hs
        cases hc
  | k + 1, x, fe, h => by
    have ih := levels ha hc hb k
    obtain ⟨d, e1, e2, e3, e4, e5, e6, f, fd, g1, g2, g3⟩ := ha.get h
    subst e2
    exact ⟨f, fd, d.ps, fn_ok e3 e1 ⟨rfl, e4, e5⟩ e6 g1 fun pn hp => tab_of ih hc hb rfl rfl rfl e6.nd hp, g2, g1.kp, g3⟩
/-! ### the list of draws is made -/
def spCup (K : PySem.W.Frag) : Sp := fun vs H Q _ => ∃ (a : Addr) (ns : List Int), vs = [.ref a] ∧ SqL K H a (ns.map V.int) ∧ ns.length ≤ 63 ∧ ∀ p H' (c0 c1 : Int), H' p = some (.lst [.int c0, .int c1]) → Q (.ref p) H'
theorem cup_ok {st : Stmt} {f : Addr} {fd : FuncData} {c : Ctx} {p1 p2 p3 p4 p5 p6 p7 p8 p9 p10 p11 p12 p13 : Pos} {k1 k2 : Nat} {r : Expr} {s1 : S} (F0 : L2.Fun K "_law_cup" "_law_cup" st f fd) (S0 : FnScope c.N ["script"] (defScope st))
    (hb : defBody st = [.Assign [.Name "cell" p1] (.Call (.Name "abs" p2) [.Subscript (.BinOp (.Call (.Name "list" p3) [.Name "script" p4] [] p5) .Add (.List [.Constant (.int 0) k1 p6] p7) p8) (.Constant (.int 0) k2 p9) p10] [] p11) p12, .Return (some r) p13])
    (T0 : Tab P w K mg base k (run Φ k) c) (hsc : c.sc = defScope st) (hN : c.N.length = 2) (hcs : c.cs = none) (hown : c.own = []) (hpn : c.pn = fun _ => none)
    (v0 : varE c "script" = some 0) (v1 : ixOf "cell" c.N = some 1) (l1 : c.sc.names.lookup ("cell" : Str) = some .local) (b1 : bltOk c "abs" = true) (b2 : bltOk c "list" = true)
    (htr : trS trFuel c (.Return (some r) p13) = some s1) (math : ∀ x : Int, ∃ c0 c1 env' w', ex (run Φ k) s1 [none, some (.int x)] .none = some (.rt (.list [.int c0, .int c1]), env', w')) : FnG P w K mg base (k + 1) f fd ["script"] (spCup K) := by
  refine fnG_of F0 S0 (fun vs H Q E h => ?_) fun cdv A outer s H vs Q E hr hgd hsp => ?_
  · obtain ⟨a, ns, rfl, _⟩ := h
    rfl
  obtain ⟨a, ns, rfl, hS, hlen, q⟩ := hsp
  obtain ⟨ts, t1, t2⟩ := sd_stmt trFuel c T0 _ _ htr
  have g : GdS P w K mg base k c (cxOf CX0 P w K mg base c.N "_law_cup" (defScope st) f cdv A outer s H E).nox :=
    ⟨⟨rfl, rfl, rfl, rfl, rfl, rfl, hsc.symm, rfl, hr, hgd, fun _ _ => rfl⟩, rfl, by rw [hsc]; exact S0.kind⟩
  obtain ⟨a1, a2, a3, a4⟩ := bltOk_inv T0 g.g b1
  obtain ⟨m1, m2, m3, m4⟩ := bltOk_inv T0 g.g b2
  rw [hb]
  refine ⟨_, pss_cons (ps_set (i := 1) T0.nd (ixOf_get v1) (.inl (by rw [g.g.sc]; exact l1))
    (pe_callB call_absD a1 a2 (by decide +kernel) (pa_cons (pe_ix (ix_D g.g.hu) (pe_op op_addD (pe_callTy call_list_of m1 m2 (by decide +kernel) (pa_cons (g.g.var v0) pa_nil)) (pe_lst (pa_cons pe_int pa_nil))) pe_int (fun _ _ => rfl)) pa_nil)) rfl (.inr (by rw [g.g.sc]; exact l1)))
    (pss_cons (t1 _ g) pss_nil), ?_⟩
  -- list(script) + [0]
  refine ⟨.ref a, start_get rfl, ?_⟩
  refine ⟨a, ns.map V.int, rfl, .inl hS, fun l hl => ?_⟩
  refine ⟨by show 1 ≤ sizeLine; decide, fun m hm => ?_⟩
  have e0 : Ex (fun _ => none) (upd (upd H l (.lst (ns.map V.int))) m (.lst [.int 0])) := fun _ _ h => by cases h
  have nlm : l ≠ m := fun z => by rw [← z, upd_same] at hm; cases hm
  refine ⟨fun _ => none, [.list (ns.map PyData.int), .list [.int 0]], .list (ns.map PyData.int ++ [.int 0]), e0, .cons (.inr ⟨l, _, rfl, rfl, by rw [upd_ne nlm]; exact upd_same, .lst (RpA.ints ns)⟩) (.cons (.inr ⟨m, _, rfl, rfl, upd_same, .lst (RpA.ints [0])⟩) .nil), ?_, fun v F1 H1 s1' k1' => ?_⟩
  · show addD (.list (ns.map PyData.int)) (.list [.int 0]) = _
    rw [addD, if_pos]
    rw [List.length_map]
    show ns.length + 1 ≤ 16777216
    omega
  · have k1' : Rp K F1 v (.list (ns.map PyData.int ++ [.int 0])) := k1'
    obtain ⟨x, hx⟩ : ∃ x : Int, L2.atI (ns.map PyData.int ++ [PyData.int 0]) 0 = some (.int x) := by
      cases ns with
      | nil => exact ⟨0, rfl⟩
      | cons n r =>
        refine ⟨n, ?_⟩
        unfold L2.atI L2.ixN
        rw [if_pos (by omega), if_pos (by simp; omega)]
        rfl
    refine ⟨F1, [PyData.list (ns.map PyData.int ++ [PyData.int 0]), .int 0], .int x, s1'.fh, .cons (.inl k1') (.cons (.inl (.int 0)) .nil), hx, fun v2 F2 H2 s2 k2' => ?_⟩
    have k2' : Rp K F2 v2 (.int x) := k2'
    refine ⟨v2, rfl, F2, [.int x], .int (if x < 0 then -x else x), s2.fh, .cons (.inl k2') .nil, rfl, fun v3 F3 H3 s3 k3 => ?_⟩
    have k3 : Rp K F3 v3 (.int (if x < 0 then -x else x)) := k3
    cases k3
    generalize (if x < 0 then -x else x) = y
    obtain ⟨c0, c1, env', w', hm2⟩ := math y
    have ownF : ∀ i, c.M.own i = true → False := fun i h => by
      have : c.own.contains i = true := h
      rw [hown] at this
      cases this
    have csN : c.M.cs = none := hcs
    have S1 : Stt K c.M (fun _ => none) H3 none (fun _ => none) H3 ((L2.start c.N [.ref a]).set 1 (some (.int y))) [none, some (.int y)] .none := by
      have sl : L2.start c.N [V.ref a] = [some (.ref a), none] := by
        unfold L2.start
        rw [hN]
        rfl
      rw [sl]
      refine ⟨Step.refl fun _ _ h => by (cases h), rfl, fun i x h1 h2 => ?_, fun i x h1 h2 => (ownF i h2).elim, fun i j x y p n h1 h2 => (ownF i h1).elim, fun s hs => by rw [csN] at hs; (cases hs), fun _ => rfl, fun i b hb => by
        have : c.pn i = some b := hb
        rw [hpn] at this
        cases this⟩
      match i, h1 with
      | 1, h1 =>
        cases h1
        exact ⟨.int y, rfl, .int y⟩
    refine t2 _ _ none _ H3 _ _ .none _ _ S1 hm2 ?_
    intro v4 F4 H4 R
    have k4 := R.rp
    cases k4 with
    | lst h r =>
      cases r with
      | cons r1 r =>
        cases r with
        | cons r2 r =>
          cases r
          cases r1
          cases r2
          exact q _ H4 c0 c1 (R.st.fh _ _ h)
/-! ### the law -/
def spLawP (K : PySem.W.Frag) : Sp := fun vs H Q _ => ∃ (a : Addr) (ns : List Int), vs = [.ref a] ∧ SqL K H a (ns.map V.int) ∧ ns.length ≤ 63 ∧ ∀ H', Q (.bl true) H'
theorem law_ok {st : Stmt} {f fc : Addr} {fd fdc : FuncData} {c : Ctx} {p1 p2 p3 p4 p5 : Pos} {rest : List Stmt} {body : List S} (F0 : L2.Fun K "law" "law" st f fd) (S0 : FnScope c.N ["script"] (defScope st))
    (hb : defBody st = .Assign [.Name "cup" p1] (.Call (.Name "_law_cup" p2) [.Name "script" p3] [] p4) p5 :: rest) (FC : FnG P w K mg base k fc fdc ["script"] (spCup K)) (mC : mg "_law_cup" = some (.ref fc)) (kC : PySem.W.keepIn K (.ref fc) = true) (bC : Binds K fdc ["script"] [])
    (T0 : Tab P w K mg base k (run Φ k) c) (hsc : c.sc = defScope st) (hcs : c.cs = some 1) (hpn : c.pn = fun _ => none) (v0 : varE c "script" = some 0) (v1 : ixOf "cup" c.N = some 1) (l1 : c.sc.names.lookup ("cup" : Str) = some .local ∨ c.sc.names.lookup ("cup" : Str) = some .cell) (g1 : isGl c "_law_cup" = true)
    (htr : trSs (trS trFuel c) rest = some body) (math : ∀ c0 c1 : Int, ∃ env' w', exs (run Φ k) body (List.replicate c.N.length none) (.list [.int c0, .int c1]) = some (.rt (.bool true), env', w')) : FnG P w K mg base (k + 1) f fd ["script"] (spLawP K) := by
  refine fnG_of F0 S0 (fun vs H Q E h => ?_) fun cdv A outer s H vs Q E hr hgd hsp => ?_
  · obtain ⟨a, ns, rfl, _⟩ := h
    rfl
  obtain ⟨a, ns, rfl, hS, hlen, q⟩ := hsp
  obtain ⟨ts, t1, t2⟩ := sss_all (fun ps s h => sd_stmt trFuel c T0 ps s h) htr
  have g : GdS P w K mg base k c (cxOf CX0 P w K mg base c.N "law" (defScope st) f cdv A outer s H E).nox :=
    ⟨⟨rfl, rfl, rfl, rfl, rfl, rfl, hsc.symm, rfl, hr, hgd, fun _ _ => rfl⟩, rfl, by rw [hsc]; exact S0.kind⟩
  rw [hb]
  have nl : 1 < c.N.length := lt_of_get (ixOf_get v1)
  refine ⟨_, pss_cons (ps_set (i := 1) T0.nd (ixOf_get v1) (by rw [L2.Loc, g.g.sc]; exact l1) (pe_callG FC hr hgd (g.g.gl g1) mC kC bC (pa_cons (g.g.var v0) pa_nil) (by decide) rfl rfl) rfl (.inl rfl)) (t1 _ g), ?_⟩
  refine ⟨.ref a, start_get rfl, a, ns, rfl, hS, hlen, fun p H1 c0 c1 hp => ?_⟩
  obtain ⟨env', w', hm⟩ := math c0 c1
  have noE : ∀ {i : Nat} {x : D}, (List.replicate c.N.length (none : Option D))[i]? = some (some x) → False := fun {i x} h => by
    rw [List.getElem?_replicate] at h
    split at h <;> cases h
  have cs1 : c.M.cs = some 1 := hcs
  have S1 : Stt K c.M (fun _ => none) H1 (some p) (fun _ => none) H1 ((L2.start c.N [.ref a]).set 1 (some (.ref p))) (List.replicate c.N.length none) (.list [.int c0, .int c1]) := by
    refine ⟨Step.refl fun _ _ h => by (cases h), by rw [List.length_set, start_len (by show 1 ≤ _; omega), List.length_replicate], fun i x h1 _ => (noE h1).elim, fun i x h1 _ => (noE h1).elim, fun i j x y p n _ _ h3 => (noE h3).elim, fun s hs => ?_, fun h => by rw [cs1] at h; (cases h), fun i b hb => by
      have : c.pn i = some b := hb
      rw [hpn] at this
      cases this⟩
    rw [cs1] at hs
    cases hs
    exact ⟨p, rfl, List.getElem?_set_self (by rw [start_len (by show 1 ≤ _; omega)]; exact nl), rfl, _, hp, .lst (RpA.ints [c0, c1])⟩
  refine t2 _ _ (some p) _ H1 _ _ _ _ _ S1 hm ?_
  intro v F' H' R
  have k1 := R.rp
  cases k1
  exact q H'
end
/-! ### what the top has written -/
section
variable {K : PySem.W.Frag} {h : Heap} {mg : Str → Option Value}
def DefK (K : PySem.W.Frag) (x : Str) (st : Stmt) : Prop := ∃ f fd, PySem.W.nsIn K mainGlobals x = some (some (.ref f)) ∧ L2.Fun K x x st f fd ∧
  ∃ kV doc pm an cdv ct, fd = PySem.W.fnOf x x (defArgs st) (defBody st) (defScope st) .none kV doc pm an cdv ct
theorem def_mk {x : Str} {st : Stmt} {f : Addr} {oc : Value} {od an : Option Addr} {osl : Array (Option Value)} {kV doc pm cdv ct : Value} (a : PySem.W.nsIn K mainGlobals x = some (some (.ref f)))
    (l : K.lookup f = some ⟨oc, od, .func (PySem.W.fnOf x x (defArgs st) (defBody st) (defScope st) .none kV doc pm an cdv ct), osl⟩) (c : PySem.W.codeIn K cdv x = true) (k : PySem.W.keepIn K (.ref f) = true) : DefK K x st :=
  ⟨f, _, a, fun_mk l c k, kV, doc, pm, an, cdv, ct, rfl⟩
/-- how the arguments bind -/
def BindOk (x : Str) (st : Stmt) (ps : List Str) : Prop := ∀ (kV doc pm : Value) (an : Option Addr) (cdv ct : Value) (us : List Value), us.length = ps.length → bindArgs (PySem.W.fnOf x x (defArgs st) (defBody st) (defScope st) .none kV doc pm an cdv ct) ⟨us, []⟩ = pure (ps.zip us)
theorem dfIn_of (X : K.In h) (G0 : h.Ns mainGlobals mg) {G : Glob} {Φ : Nat → Fn} {x : Str} {fe : Fe} {d : Df} (hk : DefK K x d.st) (h1 : Φ fe.ix = d.fn) (h2 : d.name = x) (h3 : DfOk G d) (h4 : fe.ar = d.ps.length) (h5 : fe.cup = (d.fn.cup || d.fn.lend)) (h6 : FnScope d.N d.ps (defScope d.st)) (h7 : BindOk x d.st d.ps) :
    ∃ d, DfIn K mg G Φ x fe d := by
  obtain ⟨f, fd, a, F, _⟩ := hk
  subst h2
  exact ⟨d, h1, rfl, h3, h4, h5, h6, f, fd, F, PySem.W.mg_of X G0 a, F.binds h7⟩
mutual
/-- what stands in the written part reads as the datum -/
inductive RvK (K : PySem.W.Frag) : Value → D → Prop
  | int {i : Int} {t : Tok} : RvK K (.int i t) (.int i)
  | bool {b : Bool} : RvK K (.bool b) (.bool b)
  | none : RvK K .none .none
  | str {x : Str} {t : Tok} : RvK K (.str x t) (.str x)
  | tup {a : Addr} {od : Option Addr} {its : List Value} {n : Nat} {sl : Array (Option Value)} {ds : List D} : K.lookup a = some ⟨.type "tuple", od, .seq its.toArray n, sl⟩ → its.length ≤ 1000 → RvKs K its ds → RvK K (.ref a) (.tuple ds)
inductive RvKs (K : PySem.W.Frag) : List Value → List D → Prop
  | nil : RvKs K [] []
  | cons {u : Value} {us : List Value} {d : D} {ds : List D} : RvK K u d → RvKs K us ds → RvKs K (u :: us) (d :: ds)
end
mutual
theorem RvK.rp : ∀ {d : D} {u : Value}, RvK K u d → ∃ v, RelV v u ∧ ∀ F, Rp K F v d
  | _, _, .int => ⟨.int _, ⟨_, rfl⟩, fun F => .int _⟩
  | _, _, .bool => ⟨.bl _, rfl, fun F => .bl _⟩
  | _, _, .none => ⟨.non, rfl, fun F => .non⟩
  | _, _, .str => ⟨.str _, ⟨_, rfl⟩, fun F => .str _⟩
  | _, _, @RvK.tup _ a od its n sl ds hl hz hs => by
    obtain ⟨vs, h1, h2⟩ := RvKs.rp hs
    refine ⟨.ref a, rfl, fun F => .tup (.inr ⟨_, _, n, hl, rfl, rfl, ?_, by simpa using h1⟩) (h2 F)⟩
    rw [List.size_toArray]
    exact Nat.le_trans hz (by decide)
theorem RvKs.rp : ∀ {ds : List D} {us : List Value}, RvKs K us ds → ∃ vs, Vals vs us ∧ ∀ F, RpA K F vs ds
  | _, _, .nil => ⟨[], .nil, fun F => .nil⟩
  | _, _, .cons h hs => by
    obtain ⟨v, r, p⟩ := RvK.rp h
    obtain ⟨vs, rs, ps⟩ := RvKs.rp hs
    exact ⟨v :: vs, .cons r rs, fun F => .cons (p F) (ps F)⟩
end
theorem bltN_of (X : K.In h) (G0 : h.Ns mainGlobals mg) {x : Str} (a : PySem.W.nsIn K mainGlobals x = some none) (hx : decide (x = ("gcd" : Str)) = false := by decide) : BltM mg x := by
  unfold BltM
  rw [if_neg (of_decide_eq_false hx)]
  exact PySem.W.mg_none_of X G0 a
theorem bltG_of (X : K.In h) (G0 : h.Ns mainGlobals mg) (a : PySem.W.nsIn K mainGlobals "gcd" = some (some (.builtin "math.gcd"))) : BltM mg "gcd" := by
  unfold BltM
  rw [if_pos rfl]
  exact PySem.W.mg_of X G0 a
theorem conIn_of (X : K.In h) (G0 : h.Ns mainGlobals mg) {x : Str} {u : Value} {d : D} (a : PySem.W.nsIn K mainGlobals x = some (some u)) (r : RvK K u d) : ConIn K mg x d := by
  obtain ⟨v, h1, h2⟩ := r.rp
  exact ⟨u, v, PySem.W.mg_of X G0 a, h1, h2⟩
end
end PyI
set_option Elab.async false
set_option linter.all false
set_option maxRecDepth 100000
set_option maxHeartbeats 1000000
namespace PyI
open PySem L2 PySem.Spec

/-- what stands alike in all laws -/
structure CtxIs (c : PyI.Ctx) (G : Glob) (st : Stmt) (cs : Option Nat) : Prop where
  sc : c.sc = defScope st
  fns : c.fns = G.fns
  cons : c.cons = G.cons
  blt : c.blt = G.blt
  cs : c.cs = cs
  pn : c.pn = fun _ => none
  pinned : c.pinned = []
theorem law_end {P : Program} {w : World} {K : PySem.W.Frag} {h : Heap} {mg : Str → Option Value} {Φ : Nat → Fn} {G : Glob} {fa : Addr} {st stc : Stmt} {c cc : PyI.Ctx} {l : Nat} {body : List S} {s1 : S} {rest : List Stmt} {r : Expr} {k1 k2 : Nat} {p1 p2 p3 p4 p5 p6 p7 p8 p9 p10 p11 p12 p13 q1 q2 q3 q4 q5 : Pos}
    (X : K.In h) (G0 : h.Ns mainGlobals mg) (hfa : mg "law" = some (.ref fa)) (kl : DefK K "law" st) (kc : DefK K "_law_cup" stc) (ha : AllIn K mg G Φ G.fns) (hc : ConsIn K mg G.cons) (hb : BltIn mg G.blt)
    (S : FnScope c.N ["script"] (defScope st)) (Sc : FnScope cc.N ["script"] (defScope stc)) (B : BindOk "law" st ["script"]) (Bc : BindOk "_law_cup" stc ["script"])
    (hbc : defBody stc = [.Assign [.Name "cell" p1] (.Call (.Name "abs" p2) [.Subscript (.BinOp (.Call (.Name "list" p3) [.Name "script" p4] [] p5) .Add (.List [.Constant (.int 0) k1 p6] p7) p8) (.Constant (.int 0) k2 p9) p10] [] p11) p12, .Return (some r) p13])
    (hbl : defBody st = .Assign [.Name "cup" q1] (.Call (.Name "_law_cup" q2) [.Name "script" q3] [] q4) q5 :: rest) (Ic : CtxIs cc G stc none) (Il : CtxIs c G st (some 1)) (n2 : cc.N.length = 2) (own : cc.own = [])
    (trc : trS trFuel cc (.Return (some r) p13) = some s1) (trl : trSs (trS trFuel c) rest = some body)
    (v0 : varE cc "script" = some 0) (v1 : ixOf "cell" cc.N = some 1) (l1 : cc.sc.names.lookup ("cell" : Str) = some .local) (b1 : bltOk cc "abs" = true) (b2 : bltOk cc "list" = true)
    (u0 : varE c "script" = some 0) (u1 : ixOf "cup" c.N = some 1) (m1 : c.sc.names.lookup ("cup" : Str) = some .local ∨ c.sc.names.lookup ("cup" : Str) = some .cell) (g1 : isGl c "_law_cup" = true)
    (mathc : ∀ x : Int, ∃ c0 c1 env' w', ex (run Φ l) s1 [none, some (.int x)] .none = some (.rt (.list [.int c0, .int c1]), env', w'))
    (mathl : ∀ c0 c1 : Int, ∃ env' w', exs (run Φ (l + 1)) body (List.replicate c.N.length none) (.list [.int c0, .int c1]) = some (.rt (.bool true), env', w')) :
    ∃ fd : FuncData, (∀ (s : Shared) (v : Value), BindsTo s fd ⟨[v], []⟩ [("script", v)]) ∧ ∀ base : Heap, K.In base → base.Ns mainGlobals mg → FnG P w K mg base (l + 2) fa fd ["script"] (spLawP K) := by
  obtain ⟨f, fd, a, F, kV, doc, pm, an, cdv, ct, efd⟩ := kl
  obtain ⟨fc, fdc, ac, Fc, _⟩ := kc
  have e := hfa.symm.trans (PySem.W.mg_of X G0 a)
  cases e
  refine ⟨fd, fun s v => ?_, fun base _ _ => ?_⟩
  · subst efd
    exact .of_eq (B kV doc pm an cdv ct [v] rfl)
  · have T : ∀ k, ∀ x fe, G.fns.lookup x = some fe → CalOk P w K mg base k x (spOf K (run Φ k) fe) := levels ha hc hb
    have pin0 : ∀ {c : PyI.Ctx}, c.pn = (fun _ => none) → ∀ i, c.pinned.contains i = false → c.pn i = none := fun h i _ => by rw [h]
    have FC : FnG P w K mg base (l + 1) fc fdc ["script"] (spCup K) :=
      cup_ok Fc Sc hbc (tab_of (T l) hc hb Ic.fns Ic.cons Ic.blt Sc.nd (pin0 Ic.pn)) Ic.sc n2 Ic.cs own Ic.pn v0 v1 l1 b1 b2 trc mathc
    exact law_ok F S hbl FC (PySem.W.mg_of X G0 ac) Fc.kp (Fc.binds Bc) (tab_of (T (l + 1)) hc hb Il.fns Il.cons Il.blt S.nd (pin0 Il.pn)) Il.sc Il.cs Il.pn u0 u1 m1 g1 trl mathl
end PyI
set_option Elab.async false
set_option linter.all false
set_option maxRecDepth 100000
set_option maxHeartbeats 1000000
namespace PyI
open PySem L2 PySem.Spec

/-! ### evaluation -/
section
variable {call : CallF} {env : Ev} {w : D}
@[simp] theorem gE0 {d : D} {l : Ev} : getE (some d :: l) 0 = some d := rfl
@[simp] theorem gEn {l : Ev} : getE (none :: l) 0 = none := rfl
@[simp] theorem gES {x : Option D} {l : Ev} {i : Nat} : getE (x :: l) (i + 1) = getE l i := rfl
@[simp] theorem sE0 {x : Option D} {d : D} {l : Ev} : setE (x :: l) 0 d = some (some d :: l) := by simp [setE]
@[simp] theorem sES {x : Option D} {d : D} {l : Ev} {i : Nat} : setE (x :: l) (i + 1) d = (setE l i d).map (x :: ·) := by
  unfold setE
  simp only [List.length_cons, Nat.add_lt_add_iff_right, List.set_cons_succ]
  split <;> rfl
@[simp] theorem e_var {i : Nat} : ev call (.var i) env w = (getE env i).map fun d => (d, w) := by
  rw [ev]
  unfold getE
  cases env[i]? with
  | none => rfl
  | some o => cases o <;> rfl
@[simp] theorem e_con {d : D} : ev call (.con d) env w = some (d, w) := by rw [ev]
@[simp] theorem e_prim {p : Prim} {es : List E} : ev call (.prim p es) env w = (evs call es env w).bind fun r => (prim p r.1).map fun d => (d, r.2) := by rw [ev]
@[simp] theorem e_not {a : E} : ev call (.not a) env w = (ev call a env w).bind fun r => (asB r.1).map fun b => (.bool (!b), r.2) := by rw [ev]
@[simp] theorem e_and {a b : E} : ev call (.and a b) env w = (ev call a env w).bind fun r => (asB r.1).bind fun c => if c = true then ev call b env r.2 else some (.bool false, r.2) := by rw [ev]
@[simp] theorem e_or {a b : E} : ev call (.or a b) env w = (ev call a env w).bind fun r => (asB r.1).bind fun c => if c = true then some (.bool true, r.2) else ev call b env r.2 := by rw [ev]
@[simp] theorem e_ite {c a b : E} : ev call (.ite c a b) env w = (ev call c env w).bind fun r => (asB r.1).bind fun k => if k = true then ev call a env r.2 else ev call b env r.2 := by rw [ev]
@[simp] theorem e_chain {p q : Prim} {a b c : E} : ev call (.chain p q a b c) env w = (ev call a env w).bind fun r => (ev call b env r.2).bind fun s => (prim p [r.1, s.1]).bind fun d => (asB d).bind fun k =>
    if k = true then (ev call c env s.2).bind fun t => (prim q [s.1, t.1]).map fun d => (d, t.2) else some (.bool false, s.2) := by rw [ev]
@[simp] theorem e_call {f : Nat} {chk : Bool} {es : List E} : ev call (.call f chk es) env w = (evs call es env w).bind fun r => (call f r.1 .none).bind fun q => if (chk && !flat q.1) = true then none else some (q.1, r.2) := by rw [ev]
@[simp] theorem e_callC {f : Nat} {es : List E} : ev call (.callC f es) env w = (evs call es env w).bind fun r => call f r.1 r.2 := by rw [ev]
/-- one turn of a comprehension -/
def turnC (call : CallF) (env : Ev) (tg : T) (own : List Nat) (cond elt : E) (x w : D) : Option (Option D × D) :=
  (bindT tg x (wipeE env own)).bind fun env' => (ev call cond env' w).bind fun c => (asB c.1).bind fun b => if b = true then (ev call elt env' c.2).map fun y => (some y.1, y.2) else some (none, c.2)
@[simp] theorem e_comp {k : ItK} {srcs : List E} {tg : T} {own : List Nat} {cond elt : E} : ev call (.comp k srcs tg own cond elt) env w = (evs call srcs env w).bind fun r => (items k r.1).bind fun xs => (compL (turnC call env tg own cond elt) xs r.2).map fun q => (.list q.1, q.2) := by
  rw [ev]
  rfl
@[simp] theorem e_nil : evs call [] env w = some ([], w) := by rw [evs]
@[simp] theorem e_cons {e : E} {es : List E} : evs call (e :: es) env w = (ev call e env w).bind fun r => (evs call es env r.2).map fun q => (r.1 :: q.1, q.2) := by rw [evs]
@[simp] theorem b_nm {i : Nat} {d : D} : bindT (.nm i) d env = setE env i d := by rw [bindT]; rfl
@[simp] theorem b_tp {ts : List T} {ds : List D} : bindT (.tp ts) (.tuple ds) env = bindTs ts ds env := by rw [bindT]
@[simp] theorem b_nil : bindTs [] [] env = some env := by rw [bindTs]
@[simp] theorem b_cons {t : T} {ts : List T} {d : D} {ds : List D} : bindTs (t :: ts) (d :: ds) env = (bindT t d env).bind fun env' => bindTs ts ds env' := by rw [bindTs]
@[simp] theorem w_nil : wipeE env [] = env := rfl
@[simp] theorem w_cons {v : Nat} {vs : List Nat} : wipeE env (v :: vs) = (wipeE env vs).set v none := rfl
@[simp] theorem x_nil : exs call [] env w = some (.nx, env, w) := by rw [exs]
theorem x_cons {s : S} {ss : List S} : exs call (s :: ss) env w = (ex call s env w).bind fun r => match r.1 with
    | .nx => exs call ss r.2.1 r.2.2
    | f => some (f, r.2.1, r.2.2) := by
  first
  | (rw [exs]; cases ex call s env w <;> rfl)
  | rw [exs]
theorem x_step {s : S} {ss : List S} {env' : Ev} {w' : D} (h : ex call s env w = some (.nx, env', w')) : exs call (s :: ss) env w = exs call ss env' w' := by
  rw [x_cons, h]
  rfl
theorem x_last {s : S} {r : Fl × Ev × D} (h : ex call s env w = some r) : exs call [s] env w = some r := by
  rw [x_cons, h]
  obtain ⟨f, e, w'⟩ := r
  cases f <;> simp
@[simp] theorem x_pass : ex call .pass env w = some (.nx, env, w) := by rw [ex]
@[simp] theorem x_asg {t : T} {e : E} : ex call (.asg t e) env w = (ev call e env w).bind fun r => (bindT t r.1 env).map fun env' => (.nx, env', r.2) := by rw [ex]
@[simp] theorem x_own {i : Nat} {e : E} : ex call (.own i e) env w = (ev call e env w).bind fun r => (setE env i r.1).map fun env' => (.nx, env', r.2) := by rw [ex]
@[simp] theorem x_par {is : List Nat} {es : List E} : ex call (.par is es) env w = (evs call es env w).bind fun r => (setsE env is r.1).map fun env' => (.nx, env', r.2) := by rw [ex]
@[simp] theorem sets_nil : setsE env [] [] = some env := by rw [setsE]
@[simp] theorem sets_cons {i : Nat} {is : List Nat} {d : D} {ds : List D} : setsE env (i :: is) (d :: ds) = (setE env i d).bind fun env' => setsE env' is ds := by rw [setsE]
def putK : D → D → D → Option D
  | .list xs, k, d => putD (.list xs) k d
  | .dict xs, k, d => putD (.dict xs) k d
  | _, _, _ => none
@[simp] theorem x_putL {i : Nat} {k e : E} : ex call (.putL i k e) env w = (ev call e env w).bind fun r => (ev call k env r.2).bind fun q => (getE env i).bind fun x => (putK x q.1 r.1).bind fun y => (setE env i y).map fun env' => (.nx, env', q.2) := by
  rw [ex]
  congr 1
  funext r
  congr 1
  funext q
  cases getE env i with
  | none => rfl
  | some x => cases x <;> rfl
@[simp] theorem x_expr {e : E} : ex call (.expr e) env w = (ev call e env w).map fun r => (.nx, env, r.2) := by rw [ex]
@[simp] theorem x_ret {e : E} : ex call (.ret e) env w = (ev call e env w).map fun r => (.rt r.1, env, r.2) := by rw [ex]
@[simp] theorem x_brk : ex call .brk env w = some (.bk, env, w) := by rw [ex]
@[simp] theorem x_cnt : ex call .cnt env w = some (.ct, env, w) := by rw [ex]
@[simp] theorem x_never : ex call .never env w = none := by rw [ex]
@[simp] theorem x_ifs {c : E} {a b : List S} : ex call (.ifs c a b) env w = (ev call c env w).bind fun r => (asB r.1).bind fun k => if k = true then exs call a env r.2 else exs call b env r.2 := by rw [ex]
@[simp] theorem x_app {i : Nat} {e : E} : ex call (.app i e) env w = (ev call e env w).bind fun r => (getE env i).bind fun x => (appD x r.1).bind fun y => (setE env i y).map fun env' => (.nx, env', r.2) := by rw [ex]
@[simp] theorem x_for {k : ItK} {srcs : List E} {tg : T} {body : List S} : ex call (.for k srcs tg body) env w = (evs call srcs env w).bind fun r => (items k r.1).bind fun xs => forL (loop1 call tg body) xs env r.2 := by
  rw [ex]
  rfl
@[simp] theorem asB_b {b : Bool} : asB (.bool b) = some b := rfl
/-! operations -/
@[simp] theorem p_add {a b : D} : prim .add [a, b] = addD a b := rfl
@[simp] theorem p_sub {a b : D} : prim .sub [a, b] = subD a b := rfl
@[simp] theorem p_mul {a b : D} : prim .mul [a, b] = mulD a b := rfl
@[simp] theorem p_fdiv {a b : D} : prim .fdiv [a, b] = fdivD a b := rfl
@[simp] theorem p_mod {a b : D} : prim .mod [a, b] = modD a b := rfl
@[simp] theorem p_pow {a b : D} : prim .pow [a, b] = powD a b := rfl
@[simp] theorem p_neg {a : Int} : prim .neg [.int a] = some (.int (-a)) := rfl
@[simp] theorem p_eq {a b : D} : prim .eq [a, b] = (eqD a b).map .bool := rfl
@[simp] theorem p_ne {a b : D} : prim .ne [a, b] = ((eqD a b).map (!·)).map .bool := rfl
@[simp] theorem p_lt {a b : D} : prim .lt [a, b] = (ltD a b).map .bool := rfl
@[simp] theorem p_le {a b : D} : prim .le [a, b] = (leD a b).map .bool := rfl
@[simp] theorem p_gt {a b : D} : prim .gt [a, b] = (gtD a b).map .bool := rfl
@[simp] theorem p_ge {a b : D} : prim .ge [a, b] = (geD a b).map .bool := rfl
@[simp] theorem p_in {a b : D} : prim .isin [a, b] = (inD a b).map .bool := rfl
@[simp] theorem p_notin {a b : D} : prim .notin [a, b] = ((inD a b).map (!·)).map .bool := rfl
@[simp] theorem p_isB {a b : D} : prim .isB [a, b] = (isBD a b).map .bool := rfl
@[simp] theorem p_notB {a b : D} : prim .notB [a, b] = ((isBD a b).map (!·)).map .bool := rfl
@[simp] theorem p_isN {a : D} : prim .isN [a, .none] = some (.bool (isNone a)) := rfl
@[simp] theorem p_notN {a : D} : prim .notN [a, .none] = some (.bool (!isNone a)) := rfl
@[simp] theorem p_tup {ds : List D} : prim .tup ds = some (.tuple ds) := rfl
@[simp] theorem p_lst {ds : List D} : prim .lst ds = some (.list ds) := rfl
@[simp] theorem p_ix {a b : D} : prim .ix [a, b] = ixD a b := rfl
@[simp] theorem p_len {a : D} : prim .len [a] = lenD a := rfl
@[simp] theorem p_sum {a : D} : prim .sum [a] = sumD a := rfl
@[simp] theorem p_tuple {a : D} : prim .tuple [a] = tupleD a := rfl
@[simp] theorem p_list {a : D} : prim .list [a] = listD a := rfl
@[simp] theorem p_all {a : D} : prim .all [a] = allD a := rfl
@[simp] theorem p_any {a : D} : prim .any [a] = anyD a := rfl
@[simp] theorem p_int {a : D} : prim .int [a] = intD a := rfl
@[simp] theorem p_abs {a : D} : prim .abs [a] = absD a := rfl
@[simp] theorem p_dict : prim .dict [] = some (.dict []) := rfl
@[simp] theorem p_addL {a b : D} : prim .addL [a, b] = addLD a b := rfl
@[simp] theorem p_mulL {a b : D} : prim .mulL [a, b] = mulLD a b := rfl
@[simp] theorem p_dvals {a : D} : prim .dvals [a] = dvalsD a := rfl
@[simp] theorem p_dictP {a : D} : prim .dictP [a] = dictPD a := rfl
@[simp] theorem p_get1 {a b : D} : prim .get1 [a, b] = get1D a b := rfl
@[simp] theorem p_get2 {a b c : D} : prim .get2 [a, b, c] = get2D a b c := rfl
@[simp] theorem p_repr {a : D} : prim .repr [a] = reprD a := rfl
@[simp] theorem p_min2 {a b : D} : prim .min2 [a, b] = min2D a b := rfl
@[simp] theorem p_max2 {a b : D} : prim .max2 [a, b] = max2D a b := rfl
@[simp] theorem p_min1 {a : D} : prim .min1 [a] = min1D a := rfl
@[simp] theorem p_max1 {a : D} : prim .max1 [a] = max1D a := rfl
@[simp] theorem p_sorted {a : D} : prim .sorted [a] = sortedD a := rfl
@[simp] theorem p_rev {a : D} : prim .rev [a] = revD a := rfl
@[simp] theorem p_range1 {ds : List D} : prim .range1 ds = (itRng1 ds).map .list := rfl
@[simp] theorem p_range2 {ds : List D} : prim .range2 ds = (itRng2 ds).map .list := rfl
@[simp] theorem p_trange1 {ds : List D} : prim .trange1 ds = (itRng1 ds).map .tuple := rfl
@[simp] theorem p_trange2 {ds : List D} : prim .trange2 ds = (itRng2 ds).map .tuple := rfl
@[simp] theorem p_iInt {a : D} : prim .iInt [a] = if a.plain = true then some (.bool a.isInt) else none := rfl
@[simp] theorem p_iBool {a : D} : prim .iBool [a] = if a.plain = true then some (.bool a.isBool) else none := rfl
@[simp] theorem p_iStr {a : D} : prim .iStr [a] = if a.plain = true then some (.bool a.isStr) else none := rfl
@[simp] theorem p_iTup {a : D} : prim .iTup [a] = if a.plain = true then some (.bool a.isTuple) else none := rfl
@[simp] theorem p_iList {a : D} : prim .iList [a] = if a.plain = true then some (.bool a.isList) else none := rfl
@[simp] theorem p_sl00 {a : D} : prim (.sl false false) [a] = slD none none a := rfl
@[simp] theorem p_sl10 {a : D} {i : Int} : prim (.sl true false) [a, .int i] = slD (some i) none a := rfl
@[simp] theorem p_sl01 {a : D} {i : Int} : prim (.sl false true) [a, .int i] = slD none (some i) a := rfl
@[simp] theorem p_sl11 {a : D} {i j : Int} : prim (.sl true true) [a, .int i, .int j] = slD (some i) (some j) a := rfl
@[simp] theorem i_add {a b : Int} : addD (.int a) (.int b) = some (.int (a + b)) := rfl
@[simp] theorem i_sub {a b : Int} : subD (.int a) (.int b) = some (.int (a - b)) := rfl
@[simp] theorem pl_int {a : Int} : PyData.plain (.int a) = true := rfl
@[simp] theorem pl_bool {a : Bool} : PyData.plain (.bool a) = true := rfl
@[simp] theorem pl_str {a : Str} : PyData.plain (.str a) = true := rfl
@[simp] theorem pl_none : PyData.plain .none = true := rfl
@[simp] theorem pl_tup {xs : List D} : PyData.plain (.tuple xs) = PyData.plainAll xs := by rw [PyData.plain]
@[simp] theorem pl_lst {xs : List D} : PyData.plain (.list xs) = PyData.plainAll xs := by rw [PyData.plain]
@[simp] theorem pl_nil : PyData.plainAll [] = true := rfl
@[simp] theorem pl_cons {x : D} {xs : List D} : PyData.plainAll (x :: xs) = (PyData.plain x && PyData.plainAll xs) := rfl
theorem cmpOk_int {a b : Int} : cmpOk (.int a) (.int b) = true := rfl
theorem lt_int_ {a b : Int} : W.dataLt (.int a) (.int b) = decide (a < b) := by
  exact W.dataLt_int a b
@[simp] theorem i_lt {a b : Int} : ltD (.int a) (.int b) = some (decide (a < b)) := by
  unfold ltD
  rw [if_pos cmpOk_int, lt_int_]
@[simp] theorem i_gt {a b : Int} : gtD (.int a) (.int b) = some (decide (b < a)) := by
  unfold gtD
  rw [if_pos cmpOk_int, lt_int_]
@[simp] theorem i_le {a b : Int} : leD (.int a) (.int b) = some (decide (a ≤ b)) := by
  unfold leD
  rw [if_pos cmpOk_int, lt_int_]
  congr 1
  rw [← decide_not]
  exact decide_eq_decide.mpr (by omega)
@[simp] theorem i_ge {a b : Int} : geD (.int a) (.int b) = some (decide (b ≤ a)) := by
  unfold geD
  rw [if_pos cmpOk_int, lt_int_]
  congr 1
  rw [← decide_not]
  exact decide_eq_decide.mpr (by omega)
@[simp] theorem i_fdiv {a b : Int} (h : 0 < b ∧ b < 1073741824) : fdivD (.int a) (.int b) = some (.int (a / b)) := by
  show (if _ then _ else _) = _
  rw [if_pos h]
@[simp] theorem i_mod {a b : Int} (h : 0 < b) : modD (.int a) (.int b) = some (.int (a % b)) := by
  show (if _ then _ else _) = _
  rw [if_pos h]
@[simp] theorem i_mulL {a b : Int} (h : smallI a = true) : mulD (.int a) (.int b) = some (.int (a * b)) := by
  show (if _ then _ else _) = _
  rw [if_pos (by rw [h]; rfl)]
@[simp] theorem i_mulR {a b : Int} (h : smallI b = true) : mulD (.int a) (.int b) = some (.int (a * b)) := by
  show (if _ then _ else _) = _
  rw [if_pos (by rw [h, Bool.or_true])]
@[simp] theorem i_int {a : Int} : intD (.int a) = some (.int a) := rfl
@[simp] theorem i_abs {a : Int} : absD (.int a) = some (.int (if a < 0 then -a else a)) := rfl
@[simp] theorem i_min2 {a b : Int} : min2D (.int a) (.int b) = some (.int (if b < a then b else a)) := rfl
@[simp] theorem i_max2 {a b : Int} : max2D (.int a) (.int b) = some (.int (if b > a then b else a)) := rfl
theorem at_nat {α : Type} {xs : List α} {i : Nat} : L2.atI xs (i : Int) = xs[i]? := by
  unfold L2.atI L2.ixN
  rw [if_pos (by omega)]
  by_cases h : i < xs.length
  · rw [if_pos (by omega)]
    rfl
  · rw [if_neg (by omega), List.getElem?_eq_none (by omega)]
    rfl
@[simp] theorem at0 {α : Type} {x : α} {xs : List α} : L2.atI (x :: xs) 0 = some x := at_nat (xs := x :: xs) (i := 0)
@[simp] theorem at1 {α : Type} {x y : α} {xs : List α} : L2.atI (x :: y :: xs) 1 = some y := at_nat (xs := x :: y :: xs) (i := 1)
@[simp] theorem at2 {α : Type} {x y z : α} {xs : List α} : L2.atI (x :: y :: z :: xs) 2 = some z := at_nat (xs := x :: y :: z :: xs) (i := 2)
@[simp] theorem ix_lst {xs : List D} {i : Int} : ixD (.list xs) (.int i) = L2.atI xs i := rfl
@[simp] theorem ix_tup_ {xs : List D} {i : Int} : ixD (.tuple xs) (.int i) = L2.atI xs i := rfl
@[simp] theorem put0 {x d : D} {xs : List D} : putK (.list (x :: xs)) (.int 0) d = some (.list (d :: xs)) := by
  show (L2.ixN (x :: xs).length 0).map _ = _
  unfold L2.ixN
  rw [if_pos (by omega), if_pos (by simp <;> omega)]
  rfl
@[simp] theorem put1 {x y d : D} {xs : List D} : putK (.list (x :: y :: xs)) (.int 1) d = some (.list (x :: d :: xs)) := by
  show (L2.ixN (x :: y :: xs).length 1).map _ = _
  unfold L2.ixN
  rw [if_pos (by omega), if_pos (by simp <;> omega)]
  rfl
end
theorem run_fn {Φ : Nat → Fn} {n i sl pa : Nat} {b : List S} {ds : List D} {w : D} (h : Φ i = ⟨sl, pa, b, false, false⟩) (hl : ds.length = pa) : run Φ (n + 1) i ds w = retOf (exs (run Φ n) b (ds.map some ++ List.replicate (sl - pa) none) w) := by
  rw [run, h]
  simp only [Bool.false_eq_true, if_false, Nat.add_zero, hl, if_true]
  rfl
theorem run_cup {Φ : Nat → Fn} {n i sl pa : Nat} {b : List S} {ds : List D} {w : D} (h : Φ i = ⟨sl, pa, b, true, false⟩) (hl : ds.length + 1 = pa) : run Φ (n + 1) i ds w = retOf (exs (run Φ n) b (none :: (ds.map some ++ List.replicate (sl - pa) none)) w) := by
  rw [run, h]
  simp only [Bool.false_eq_true, if_false, hl, if_true]
  rfl
@[simp] theorem ret_rt {d w : D} {env : Ev} : retOf (some (.rt d, env, w)) = some (d, w) := rfl
@[simp] theorem ret_nx {w : D} {env : Ev} : retOf (some (.nx, env, w)) = some (.none, w) := rfl
/-! ### the draws of the laws -/
def rollB (a b c d e f : Int) : List S :=
  [.ifs (.prim .gt [.prim .ix [.var 0, .con (.int 0)], .con (.int 0)]) [.asg (.nm 2) (.prim .mod [.prim .int [.prim .ix [.var 0, .con (.int 0)]], .var 1]), .putL 0 (.con (.int 0)) (.prim .fdiv [.prim .ix [.var 0, .con (.int 0)], .var 1]), .ret (.var 2)] [],
   .putL 0 (.con (.int 1)) (.prim .mod [.prim .int [.prim .add [.prim .mul [.prim .ix [.var 0, .con (.int 1)], .con (.int a)], .con (.int b)]], .con (.int c)]),
   .asg (.nm 3) (.prim .mod [.prim .int [.prim .mul [.prim .ix [.var 0, .con (.int 1)], .prim .add [.prim .ix [.var 0, .con (.int 1)], .con (.int d)]]], .con (.int e)]),
   .ret (.prim .mod [.prim .int [.prim .fdiv [.var 3, .con (.int f)]], .var 1])]
/-- the list of draws -/
def Cup (w : D) : Prop := ∃ c0 c1 : Int, w = .list [.int c0, .int c1]
theorem roll_ok {Φ : Nat → Fn} {i : Nat} {a b c d e f : Int} (h : Φ i = ⟨4, 2, rollB a b c d e f, false, true⟩) (ha : smallI a = true) (hc : 0 < c) (hc2 : c < 2 ^ 40) (he : 0 < e) (hf : 0 < f ∧ f < 1073741824) (n : Nat) {many : Int} {w : D} (hw : Cup w) (h0 : 0 < many) (h1 : many < 1073741824) :
    ∃ r w', run Φ (n + 1) i [.int many] w = some (.int r, w') ∧ 0 ≤ r ∧ r < many ∧ Cup w' := by
  obtain ⟨c0, c1, rfl⟩ := hw
  have hm : ∀ x : Int, 0 ≤ x % many ∧ x % many < many := fun x => ⟨Int.emod_nonneg _ (by omega), Int.emod_lt_of_pos _ h0⟩
  rw [run, h]
  by_cases hg : 0 < c0
  · refine ⟨c0 % many, .list [.int (c0 / many), .int c1], ?_, (hm _).1, (hm _).2, _, _, rfl⟩
    simp [entry, rollB, x_cons, hg, h0, h1, lendOf, flat]
  · have hs : smallI ((c1 * a + b) % c) = true := by
      have z1 := Int.emod_nonneg (c1 * a + b) (show c ≠ 0 by omega)
      have z2 := Int.emod_lt_of_pos (c1 * a + b) hc
      unfold smallI
      exact decide_eq_true ⟨by omega, by omega⟩
    refine ⟨(((c1 * a + b) % c * ((c1 * a + b) % c + d)) % e / f) % many, .list [.int c0, .int ((c1 * a + b) % c)], ?_, (hm _).1, (hm _).2, _, _, rfl⟩
    simp [entry, rollB, x_cons, hg, h0, h1, lendOf, flat, ha, hc, he, hf, hs]
end PyI
set_option Elab.async false
set_option linter.all false
set_option maxRecDepth 100000
set_option maxHeartbeats 1000000
namespace PyI
open PySem L2 PySem.Spec

/-! ### walks -/
theorem compL_pure {α : Type} {f : D → D → Option (Option D × D)} {enc : α → D} {g : α → Option D} {w : D} : ∀ {xs : List α}, (∀ x ∈ xs, f (enc x) w = some (g x, w)) → compL f (xs.map enc) w = some (xs.filterMap g, w)
  | [], _ => rfl
  | x :: xs, h => by
    rw [List.map_cons, compL, h x (List.mem_cons_self ..)]
    simp only [Option.bind_some]
    rw [compL_pure (xs := xs) fun y hy => h y (List.mem_cons_of_mem _ hy), List.filterMap_cons]
    cases g x <;> rfl
theorem compL_map {α : Type} {f : D → D → Option (Option D × D)} {enc g : α → D} {w : D} {xs : List α} (h : ∀ x ∈ xs, f (enc x) w = some (some (g x), w)) : compL f (xs.map enc) w = some (xs.map g, w) := by
  have z := compL_pure (g := fun x => some (g x)) h
  rw [z]
  congr 2
  exact congrFun List.filterMap_eq_map xs
/-- a walk that may change the state a, kept in env as I tells -/
theorem forL_fold {α β : Type} {f : D → Ev → D → Option (Fl × Ev × D)} {enc : β → D} {w : D} (I : α → Ev → Prop) (step : α → β → α) : ∀ {xs : List β}, (∀ x ∈ xs, ∀ a env, I a env → ∃ env', I (step a x) env' ∧ f (enc x) env w = some (.nx, env', w)) →
    ∀ {a : α} {env : Ev}, I a env → ∃ env', I (xs.foldl step a) env' ∧ forL f (xs.map enc) env w = some (.nx, env', w)
  | [], _, a, env, hi => ⟨env, hi, rfl⟩
  | x :: xs, h, a, env, hi => by
    obtain ⟨env1, h1, h2⟩ := h x (List.mem_cons_self ..) a env hi
    obtain ⟨env2, h3, h4⟩ := forL_fold (f := f) (enc := enc) I step (xs := xs) (fun y hy => h y (List.mem_cons_of_mem _ hy)) h1
    refine ⟨env2, h3, ?_⟩
    rw [List.map_cons, forL, h2]
    exact h4
/-- a walk that ends at the first item that is bad -/
theorem forL_bad {β : Type} {f : D → Ev → D → Option (Fl × Ev × D)} {enc : β → D} {w d : D} (I : Ev → Prop) (bad : β → Bool) : ∀ {xs : List β}, (∀ x ∈ xs, ∀ env, I env → ∃ env', I env' ∧ f (enc x) env w = some (if bad x = true then .rt d else .nx, env', w)) →
    ∀ {env : Ev}, I env → ∃ env', I env' ∧ forL f (xs.map enc) env w = some (if xs.any bad = true then .rt d else .nx, env', w)
  | [], _, env, hi => ⟨env, hi, rfl⟩
  | x :: xs, h, env, hi => by
    obtain ⟨env1, h1, h2⟩ := h x (List.mem_cons_self ..) env hi
    rw [List.map_cons, forL, h2, List.any_cons]
    cases hb : bad x with
    | true => exact ⟨env1, h1, rfl⟩
    | false =>
      obtain ⟨env2, h3, h4⟩ := forL_bad (f := f) (enc := enc) I bad (xs := xs) (fun y hy => h y (List.mem_cons_of_mem _ hy)) h1
      exact ⟨env2, h3, h4⟩
/-- a walk with draws: J of the state and of what is left -/
theorem forL_draw {α : Type} {f : D → Ev → D → Option (Fl × Ev × D)} (I : α → Nat → Ev → D → Prop) : ∀ {xs : List D} {k : Nat} {a : α} {env : Ev} {w : D}, I a k env w →
    (∀ i x, xs[i]? = some x → ∀ a env w, I a (k + i) env w → ∃ a' env' w', I a' (k + i + 1) env' w' ∧ f x env w = some (.nx, env', w')) →
    ∃ a' env' w', I a' (k + xs.length) env' w' ∧ forL f xs env w = some (.nx, env', w')
  | [], k, a, env, w, hi, _ => ⟨a, env, w, hi, rfl⟩
  | x :: xs, k, a, env, w, hi, h => by
    obtain ⟨a1, e1, w1, h1, h2⟩ := h 0 x rfl a env w hi
    obtain ⟨a2, e2, w2, h3, h4⟩ := forL_draw (f := f) I (xs := xs) (k := k + 1) (a := a1) (env := e1) (w := w1) h1 fun i y hy a env w hi => by
      have e : k + 1 + i = k + (i + 1) := by omega
      rw [e] at hi ⊢
      exact h (i + 1) y hy a env w hi
    refine ⟨a2, e2, w2, by rw [List.length_cons, show k + (xs.length + 1) = k + 1 + xs.length by omega]; exact h3, ?_⟩
    rw [forL, h2]
    exact h4
theorem range_zip {α : Type} {lo : Int} (xs : List α) : rangeL lo xs.length = xs.zipIdx.map fun p => PyData.int (lo + p.2) := by
  unfold rangeL
  have h : List.range xs.length = xs.zipIdx.map (·.2) := by
    rw [List.zipIdx_map_snd]
    rw [List.range_eq_range']
  rw [h, List.map_map]
  rfl
theorem pair_zip (xs : List D) : pairL (rangeL 0 xs.length) xs = xs.zipIdx.map fun p => PyData.tuple [.int p.2, p.1] := by
  rw [range_zip]
  have key : ∀ (xs : List D) (k : Nat), pairL ((xs.zipIdx k).map fun p => PyData.int (0 + p.2)) xs = (xs.zipIdx k).map fun p => PyData.tuple [.int p.2, p.1] := by
    intro xs
    induction xs with
    | nil => intro k; rfl
    | cons x xs ih =>
      intro k
      rw [List.zipIdx_cons, List.map_cons, List.map_cons]
      show PyData.tuple [.int (0 + (k : Int)), x] :: pairL _ xs = _
      rw [ih (k + 1), Int.zero_add]
  exact key xs 0
/-! ### == and in -/
section
variable {α : Type} [DecidableEq α] [W.Datum α]
theorem eq_D (hd : W.Datum.depth α ≤ 60) (a b : α) : eqD (W.Datum.toD a) (W.Datum.toD b) = some (decide (a = b)) := by
  unfold eqD
  have h1 := W.Datum.plain a
  have h2 := W.Datum.plain b
  have h3 : dep2 (W.Datum.toD a) (W.Datum.toD b) = true := by
    unfold dep2
    have := W.Datum.depth_le a
    exact decide_eq_true (by show min _ _ ≤ 60; omega)
  rw [if_pos (by rw [h1, h2, h3]; rfl), W.Datum.eqv]
theorem depthAll_map (xs : List α) : PyData.depthAll (xs.map W.Datum.toD) ≤ W.Datum.depth α := by
  induction xs with
  | nil => exact Nat.zero_le _
  | cons x xs ih =>
    rw [List.map_cons, PyData.depthAll]
    have := W.Datum.depth_le x
    omega
theorem any_eqv (x : α) (xs : List α) : ((xs.map W.Datum.toD).any fun y => PyData.eqv y (W.Datum.toD x)) = decide (x ∈ xs) := by
  induction xs with
  | nil => rfl
  | cons y ys ih =>
    rw [List.map_cons, List.any_cons, ih, W.Datum.eqv, ← Bool.decide_or]
    exact decide_eq_decide.mpr (by rw [List.mem_cons]; exact ⟨fun h => h.imp Eq.symm id, fun h => h.imp Eq.symm id⟩)
theorem in_DL (hd : W.Datum.depth α ≤ 60) (x : α) (xs : List α) : inD (W.Datum.toD x) (.list (xs.map W.Datum.toD)) = some (decide (x ∈ xs)) := by
  have h : inOk (W.Datum.toD x) (xs.map W.Datum.toD) = true := by
    unfold inOk
    rw [W.Datum.plain, W.plainAll_map]
    have := depthAll_map xs
    simp only [Bool.and_self, Bool.true_and]
    exact decide_eq_true (by show min _ _ ≤ 60; omega)
  show (if _ then _ else _) = _
  rw [if_pos h, any_eqv]
theorem in_DT (hd : W.Datum.depth α ≤ 60) (x : α) (xs : List α) : inD (W.Datum.toD x) (.tuple (xs.map W.Datum.toD)) = some (decide (x ∈ xs)) := in_DL hd x xs
end
theorem eqNone {α : Type} (xs : List α) (p : α → Bool) (g : α → Int) : eqD (.list ((xs.filterMap fun y => if p y = true then some (g y) else none).map .int)) (.list []) = some (!xs.any p) := by
  have h := eq_D (α := List Int) (by decide) (xs.filterMap fun y => if p y = true then some (g y) else none) []
  refine Eq.trans h ?_
  congr 1
  rw [Bool.eq_iff_iff, decide_eq_true_eq, Bool.not_eq_true', List.filterMap_eq_nil_iff, List.any_eq_false]
  refine forall_congr' fun x => forall_congr' fun _ => ?_
  by_cases hp : p x = true <;> simp [hp]
/-- .. as data -/
theorem eqNoneD {α : Type} (xs : List α) (p : α → Bool) (g : α → Int) : eqD (.list (xs.filterMap fun y => if p y = true then some (PyData.int (g y)) else none)) (.list []) = some (!xs.any p) := by
  rw [← eqNone xs p g, List.map_filterMap]
  congr 3
  funext y
  by_cases hp : p y = true <;> simp [hp]
/-! ### repr -/
mutual
/-- small numbers, no texts but short ones -/
def tame : D → Bool
  | .none => true
  | .bool _ => true
  | .int i => decide (i.natAbs < 10 ^ 12)
  | .str x => x.cps.toList.all fun c => decide (c < 16 ^ 8)
  | .list xs => tameAll xs
  | .tuple xs => tameAll xs
  | .dict _ => false
def tameAll : List D → Bool
  | [] => true
  | x :: xs => tame x && tameAll xs
end
theorem tame_int {i : Int} (h : i.natAbs < 10 ^ 12) : (PyData.shown (.int i)).length ≤ 13 ∧ i.natAbs.log2 < 1920 := by
  refine ⟨PyData.shown_int_le h, ?_⟩
  by_cases h0 : i.natAbs = 0
  · rw [h0]; decide
  · exact (Nat.log2_lt h0).mpr (Nat.lt_of_lt_of_le h (Nat.le_trans (show 10 ^ 12 ≤ 2 ^ 40 by decide) (Nat.pow_le_pow_right (by decide) (by decide))))
mutual
theorem tame_all : ∀ {d : D}, tame d = true → d.plain = true ∧ d.showable = true ∧ d.leavesShort 13 = true
  | .none, _ => ⟨rfl, rfl, rfl⟩
  | .bool _, _ => ⟨rfl, rfl, rfl⟩
  | .int i, h => by
    obtain ⟨h1, h2⟩ := tame_int (of_decide_eq_true h)
    exact ⟨rfl, decide_eq_true h2, decide_eq_true h1⟩
  | .str x, h => ⟨rfl, rfl, h⟩
  | .list xs, h => by
    obtain ⟨a, b, c⟩ := tameAll_all (ds := xs) h
    exact ⟨by rw [PyData.plain]; exact a, by rw [PyData.showable]; exact b, by rw [PyData.leavesShort]; exact c⟩
  | .tuple xs, h => by
    obtain ⟨a, b, c⟩ := tameAll_all (ds := xs) h
    exact ⟨by rw [PyData.plain]; exact a, by rw [PyData.showable]; exact b, by rw [PyData.leavesShort]; exact c⟩
  | .dict _, h => by cases h
theorem tameAll_all : ∀ {ds : List D}, tameAll ds = true → PyData.plainAll ds = true ∧ PyData.showableAll ds = true ∧ PyData.leavesShortAll 13 ds = true
  | [], _ => ⟨rfl, rfl, rfl⟩
  | d :: ds, h => by
    have h : (tame d && tameAll ds) = true := h
    rw [Bool.and_eq_true] at h
    obtain ⟨a, b, c⟩ := tame_all h.1
    obtain ⟨a', b', c'⟩ := tameAll_all h.2
    exact ⟨by rw [PyData.plainAll, a, a']; rfl, by rw [PyData.showableAll, b, b']; rfl, by rw [PyData.leavesShortAll, c, c']; rfl⟩
end
theorem repr_ok {d : D} (h1 : tame d = true) (h2 : d.depth ≤ 60) (h3 : d.bulk ≤ 1000000) : reprD d = some (.str d.shown) := by
  obtain ⟨a, b, c⟩ := tame_all h1
  have z := PyData.shown_le_bulk 13 (by decide) d c
  unfold reprD
  rw [if_pos]
  unfold reprOk
  rw [a, b]
  simp only [Bool.true_and, Bool.and_eq_true, decide_eq_true_eq]
  exact ⟨h2, by show _ ≤ 16777216; omega⟩
theorem eqStr (x y : Str) : eqD (.str x) (.str y) = some (decide (x = y)) := eq_D (α := Str) (by decide) x y
theorem bulkAll_le {B : Nat} : ∀ {xs : List D}, (∀ x ∈ xs, x.bulk ≤ B) → PyData.bulkAll xs ≤ xs.length * (B + 1)
  | [], _ => Nat.zero_le _
  | x :: xs, h => by
    rw [PyData.bulkAll, List.length_cons, Nat.succ_mul]
    have h1 := h x (List.mem_cons_self ..)
    have h2 := bulkAll_le (xs := xs) fun y hy => h y (List.mem_cons_of_mem _ hy)
    omega
theorem depthAll_le {B : Nat} : ∀ {xs : List D}, (∀ x ∈ xs, x.depth ≤ B) → PyData.depthAll xs ≤ B
  | [], _ => Nat.zero_le _
  | x :: xs, h => by
    rw [PyData.depthAll]
    have h1 := h x (List.mem_cons_self ..)
    have h2 := depthAll_le (xs := xs) fun y hy => h y (List.mem_cons_of_mem _ hy)
    omega
theorem tameAll_of : ∀ {xs : List D}, (∀ x ∈ xs, tame x = true) → tameAll xs = true
  | [], _ => rfl
  | x :: xs, h => by
    rw [tameAll, h x (List.mem_cons_self ..), tameAll_of (xs := xs) fun y hy => h y (List.mem_cons_of_mem _ hy)]
    rfl
/-- what may be shown: tame, of this depth, of this bulk -/
structure Fit (x : D) (k b : Nat) : Prop where
  tm : tame x = true
  dp : x.depth ≤ k
  bk : x.bulk ≤ b
theorem Fit.mono {d : D} {k b k' b' : Nat} (h : Fit d k b) (h1 : k ≤ k') (h2 : b ≤ b') : Fit d k' b' := ⟨h.tm, Nat.le_trans h.dp h1, Nat.le_trans h.bk h2⟩
theorem fit_int {i : Int} (h : i.natAbs < 10 ^ 12) : Fit (.int i) 0 0 := ⟨decide_eq_true h, Nat.le_refl _, Nat.le_refl _⟩
theorem fit_bool {b : Bool} : Fit (.bool b) 0 0 := ⟨rfl, Nat.le_refl _, Nat.le_refl _⟩
theorem fit_none : Fit .none 0 0 := ⟨rfl, Nat.le_refl _, Nat.le_refl _⟩
theorem fit_tup {xs : List D} {k b n : Nat} (h : ∀ x ∈ xs, Fit x k b) (hl : xs.length ≤ n) : Fit (.tuple xs) (k + 1) (n * (b + 1)) := by
  have h1 := depthAll_le fun x hx => (h x hx).dp
  have h2 : PyData.bulkAll xs ≤ n * (b + 1) := Nat.le_trans (bulkAll_le fun x hx => (h x hx).bk) (Nat.mul_le_mul_right _ hl)
  have e1 : PyData.depth (.tuple xs) = PyData.depthAll xs + 1 := by simp [PyData.depth, Nat.add_comm]
  have e2 : PyData.bulk (.tuple xs) = PyData.bulkAll xs := by simp [PyData.bulk]
  exact ⟨tameAll_of fun x hx => (h x hx).tm, by rw [e1]; omega, by rw [e2]; exact h2⟩
theorem fit_lst {xs : List D} {k b n : Nat} (h : ∀ x ∈ xs, Fit x k b) (hl : xs.length ≤ n) : Fit (.list xs) (k + 1) (n * (b + 1)) := by
  have h1 := depthAll_le fun x hx => (h x hx).dp
  have h2 : PyData.bulkAll xs ≤ n * (b + 1) := Nat.le_trans (bulkAll_le fun x hx => (h x hx).bk) (Nat.mul_le_mul_right _ hl)
  have e1 : PyData.depth (.list xs) = PyData.depthAll xs + 1 := by simp [PyData.depth, Nat.add_comm]
  have e2 : PyData.bulk (.list xs) = PyData.bulkAll xs := by simp [PyData.bulk]
  exact ⟨tameAll_of fun x hx => (h x hx).tm, by rw [e1]; omega, by rw [e2]; exact h2⟩
theorem Fit.repr {d : D} {k b : Nat} (h : Fit d k b) (h1 : k ≤ 60) (h2 : b ≤ 1000000) : reprD d = some (.str d.shown) := repr_ok h.tm (Nat.le_trans h.dp h1) (Nat.le_trans h.bk h2)
theorem addTup {xs ys : List D} (h : xs.length + ys.length ≤ 16777216) : addD (.tuple xs) (.tuple ys) = some (.tuple (xs ++ ys)) := by
  show (if _ then _ else _) = _
  have z : (LIM : Nat) = 16777216 := rfl
  rw [if_pos (by omega)]
theorem addLst {xs ys : List D} (h : xs.length + ys.length ≤ 16777216) : addD (.list xs) (.list ys) = some (.list (xs ++ ys)) := by
  show (if _ then _ else _) = _
  have z : (LIM : Nat) = 16777216 := rfl
  rw [if_pos (by omega)]
theorem rng1_I {k : Int} (h0 : 0 ≤ k) (h1 : k ≤ 16777216) : itRng1 [.int k] = some (rangeL 0 k.toNat) := by
  show (if _ then _ else _) = _
  rw [if_pos ⟨by show -(16777216 : Int) ≤ _; omega, by show _ ≤ (16777216 : Int); omega⟩]
theorem rng1_N {k : Nat} (h1 : k ≤ 16777216) : itRng1 [.int k] = some (rangeL 0 k) := rng1_I (by omega) (by omega)
theorem tripL_map {α : Type} (f g h : α → D) : ∀ t : List α, tripL (t.map f) (t.map g) (t.map h) = t.map fun a => PyData.tuple [f a, g a, h a]
  | [] => rfl
  | a :: t => by
    have ih := tripL_map f g h t
    unfold tripL at ih ⊢
    rw [List.map_cons, List.map_cons, List.map_cons, List.zip_cons_cons, List.zipWith_cons_cons, ih, List.map_cons]
theorem pairL_map {α : Type} (f g : α → D) : ∀ t : List α, pairL (t.map f) (t.map g) = t.map fun a => PyData.tuple [f a, g a]
  | [] => rfl
  | a :: t => by
    have ih := pairL_map f g t
    unfold pairL at ih ⊢
    rw [List.map_cons, List.map_cons, List.zipWith_cons_cons, ih, List.map_cons]
theorem zip3I {a b c : D} {xs ys zs : List D} (ha : seqOf a = some xs) (hb : seqOf b = some ys) (hc : seqOf c = some zs) (hl : xs.length ≤ 16777216) : items .zip3 [a, b, c] = some (tripL xs ys zs) := by
  show ((seqOf a).bind fun xs => (seqOf b).bind fun ys => (seqOf c).bind fun zs => if xs.length ≤ LIM then some (tripL xs ys zs) else none) = _
  rw [ha, hb, hc]
  simp only [Option.bind_some]
  rw [if_pos (show xs.length ≤ LIM from hl)]
theorem zipI {a b : D} {xs ys : List D} (ha : seqOf a = some xs) (hb : seqOf b = some ys) (hl : xs.length ≤ 16777216) : items .zip [a, b] = some (pairL xs ys) := by
  show ((seqOf a).bind fun xs => (seqOf b).bind fun ys => if xs.length ≤ LIM then some (pairL xs ys) else none) = _
  rw [ha, hb]
  simp only [Option.bind_some]
  rw [if_pos (show xs.length ≤ LIM from hl)]
/-! ### the list of draws is made -/
def cupB (a b c m d : Int) : S := .ret (.prim .lst [.ite (.prim .ge [.var 1, .prim .pow [.con (.int 10), .con (.int 18)]]) (.prim .fdiv [.var 1, .con (.int a)]) (.con (.int 0)), .prim .add [.prim .mod [.prim .int [.prim .add [.prim .mul [.var 1, .con (.int b)], .con (.int c)]], .con (.int m)], .con (.int d)]])
theorem cup_any {call : CallF} {a b c m d : Int} (ha : 0 < a ∧ a < 1073741824) (hb : smallI b = true) (hm : 0 < m) (x : Int) : ∃ c0 c1 env' w', ex call (cupB a b c m d) [none, some (.int x)] .none = some (.rt (.list [.int c0, .int c1]), env', w') := by
  have hp : powD (.int 10) (.int 18) = some (.int (10 ^ 18)) := rfl
  unfold cupB
  by_cases h : (1000000000000000000 : Int) ≤ x
  · refine ⟨x / a, (x * b + c) % m + d, [none, some (.int x)], .none, ?_⟩
    simp [hp, ha, hb, hm, h]
  · refine ⟨0, (x * b + c) % m + d, [none, some (.int x)], .none, ?_⟩
    simp [hp, ha, hb, hm, h]
/-- things[_law_roll(cup, len(things))] -/
def someB (i : Nat) : List S := [.ret (.prim .ix [.var 1, .callC i [.prim .len [.var 1]]])]
theorem some_ok {Φ : Nat → Fn} {i j : Nat} (h : Φ j = ⟨2, 2, someB i, true, false⟩) {n : Nat} (hr : ∀ (many : Int) (w : D), Cup w → 0 < many → many < 1073741824 → ∃ r w', run Φ n i [.int many] w = some (.int r, w') ∧ 0 ≤ r ∧ r < many ∧ Cup w') {xs : List D} {w : D} (hw : Cup w) (h0 : xs ≠ []) (h1 : xs.length < 1073741824) :
    ∃ x w', run Φ (n + 1) j [.list xs] w = some (x, w') ∧ x ∈ xs ∧ Cup w' := by
  have hl : 0 < xs.length := by
    cases xs with
    | nil => exact absurd rfl h0
    | cons _ _ => simp
  obtain ⟨r, w', e, r0, r1, c⟩ := hr xs.length w hw (by omega) (by omega)
  obtain ⟨k, rfl⟩ : ∃ k : Nat, r = k := ⟨r.toNat, by omega⟩
  have hk : k < xs.length := by omega
  refine ⟨xs[k], w', ?_, List.getElem_mem hk, c⟩
  rw [run_cup h rfl]
  have hi : L2.atI xs (k : Int) = some xs[k] := by rw [at_nat]; exact List.getElem?_eq_getElem hk
  simp [someB, x_cons, lenD, e, hi]
end PyI
set_option Elab.async false
set_option linter.all false
set_option maxRecDepth 100000
set_option maxHeartbeats 1000000
namespace PyI
open PySem L2 PySem.Spec

section
variable {call : CallF} {env : Ev} {w : D}
@[simp] theorem x_appPop {i j : Nat} {e : E} : ex call (.appPop i j e) env w = (ev call e env w).bind fun r => (getE env j).bind fun xs => (popD xs r.1).bind fun q => (setE env j q.2).bind fun env1 =>
      (getE env1 i).bind fun x => (appD x q.1).bind fun y => (setE env1 i y).map fun env' => (.nx, env', r.2) := by rw [ex]
end
/-! ### numbers in order -/
def lei (a b : Int) : Bool := decide (a ≤ b)
theorem plain_ints (xs : List Int) : PyData.plainAll (xs.map .int) = true := by
  induction xs with
  | nil => rfl
  | cons x xs ih => rw [List.map_cons, PyData.plainAll, ih]; rfl
theorem alikeB_ints (xs : List Int) : alikeB (xs.map .int) = true := by
  unfold alikeB
  simp only [Bool.and_eq_true, List.all_eq_true, decide_eq_true_eq]
  refine ⟨⟨⟨plain_ints xs, ?_⟩, ?_⟩, ?_⟩
  · intro x hx y hy
    obtain ⟨i, _, rfl⟩ := List.mem_map.mp hx
    obtain ⟨j, _, rfl⟩ := List.mem_map.mp hy
    simp [W.alike]
  · intro x hx
    obtain ⟨i, _, rfl⟩ := List.mem_map.mp hx
    rfl
  · have : PyData.depthAll (xs.map .int) ≤ 0 := depthAll_le fun x hx => by
      obtain ⟨i, _, rfl⟩ := List.mem_map.mp hx
      exact Nat.le_refl _
    exact Nat.le_trans this (Nat.zero_le _)
theorem sortedD_seq {d : D} {xs : List D} (h : seqOf d = some xs) : sortedD d = if sortOk xs = true then some (.list (sortD xs)) else none := by
  cases d with
  | list ys => cases h; rfl
  | tuple ys => cases h; rfl
  | _ => cases h
theorem sort_ints {d : D} {xs : List Int} (h : seqOf d = some (xs.map .int)) : sortedD d = some (.list ((xs.mergeSort lei).map .int)) := by
  rw [sortedD_seq h, if_pos]
  · unfold sortD
    rw [List.map_mergeSort (s := W.dataLe false id)]
    intro a _ b _
    have e := W.dataLe_int (β := Int) id
    have e := congrFun (congrFun e a) b
    exact e.symm
  · unfold sortOk
    rw [alikeB_ints]
    have : (xs.map PyData.int).all noTup = true := by
      rw [List.all_eq_true]
      intro x hx
      obtain ⟨i, _, rfl⟩ := List.mem_map.mp hx
      rfl
    rw [this]
    simp
theorem lei_trans (a b c : Int) (h1 : lei a b = true) (h2 : lei b c = true) : lei a c = true := by
  unfold lei at *
  rw [decide_eq_true_eq] at *
  omega
theorem lei_total (a b : Int) : (lei a b || lei b a) = true := by
  unfold lei
  rw [Bool.or_eq_true, decide_eq_true_eq, decide_eq_true_eq]
  omega
theorem sort_perm {xs ys : List Int} (h : xs.Perm ys) : xs.mergeSort lei = ys.mergeSort lei := by
  refine List.Perm.eq_of_pairwise (le := fun a b => lei a b = true) (fun a b _ _ h1 h2 => ?_) (List.pairwise_mergeSort lei_trans lei_total xs) (List.pairwise_mergeSort lei_trans lei_total ys) ((List.mergeSort_perm xs lei).trans (h.trans (List.mergeSort_perm ys lei).symm))
  unfold lei at *
  rw [decide_eq_true_eq] at *
  omega
theorem perm2 {α : Type} {x y a b : α} (h : List.Perm [x, y] [a, b]) : (x = a ∧ y = b) ∨ (x = b ∧ y = a) := by
  have hx : x = a ∨ x = b := by simpa using h.mem_iff.mp (List.mem_cons_self ..)
  rcases hx with rfl | rfl
  · have := h.cons_inv
    exact .inl ⟨rfl, by simpa using List.perm_singleton.mp this⟩
  · have := (h.trans (List.Perm.swap ..)).cons_inv
    exact .inr ⟨rfl, by simpa using List.perm_singleton.mp this⟩
theorem perm3 {α : Type} {x y z a b c : α} (h : List.Perm [x, y, z] [a, b, c]) : (x = a ∧ y = b ∧ z = c) ∨ (x = a ∧ y = c ∧ z = b) ∨ (x = b ∧ y = a ∧ z = c) ∨ (x = b ∧ y = c ∧ z = a) ∨ (x = c ∧ y = a ∧ z = b) ∨ (x = c ∧ y = b ∧ z = a) := by
  have hx : x = a ∨ x = b ∨ x = c := by simpa using h.mem_iff.mp (List.mem_cons_self ..)
  rcases hx with rfl | rfl | rfl
  · rcases perm2 h.cons_inv with ⟨rfl, rfl⟩ | ⟨rfl, rfl⟩ <;> simp
  · have h2 : List.Perm [a, x, c] [x, a, c] := List.Perm.swap ..
    rcases perm2 (h.trans h2).cons_inv with ⟨rfl, rfl⟩ | ⟨rfl, rfl⟩ <;> simp
  · have h2 : List.Perm [a, b, x] [x, a, b] := ((List.Perm.swap ..).cons a).trans (List.Perm.swap ..)
    rcases perm2 (h.trans h2).cons_inv with ⟨rfl, rfl⟩ | ⟨rfl, rfl⟩ <;> simp
/-- three numbers in order -/
theorem sort3 (a b c : Int) : ∃ x y z, [a, b, c].mergeSort lei = [x, y, z] ∧ x ≤ y ∧ y ≤ z ∧ List.Perm [x, y, z] [a, b, c] := by
  have hp := List.mergeSort_perm [a, b, c] lei
  have hl := hp.length_eq
  have hs := List.pairwise_mergeSort lei_trans lei_total [a, b, c]
  match h : [a, b, c].mergeSort lei with
  | [x, y, z] =>
    rw [h] at hp hs
    refine ⟨x, y, z, rfl, ?_, ?_, hp⟩
    · have := (List.pairwise_cons.mp hs).1 y (by simp)
      exact of_decide_eq_true this
    · have := (List.pairwise_cons.mp (List.pairwise_cons.mp hs).2).1 z (by simp)
      exact of_decide_eq_true this
  | [] => rw [h] at hl; simp at hl
  | [_] => rw [h] at hl; simp at hl
  | [_, _] => rw [h] at hl; simp at hl
  | _ :: _ :: _ :: _ :: _ => rw [h] at hl; simp at hl
/-! ### places at which something holds -/
section
variable {α : Type} {enc : α → D} {p q : α → Bool} {m : List α}
theorem mem_zipG {a : α × Nat} (h : a ∈ m.zipIdx) : m[a.2]? = some a.1 := by
  obtain ⟨x, i⟩ := a
  exact List.mem_zipIdx_iff_getElem?.mp h
theorem mem_zipG1 {a : α × Nat} (h : a ∈ m.zipIdx) : a.1 ∈ m := List.mem_of_getElem? (mem_zipG h)
theorem ix_zipG {a : α × Nat} (h : a ∈ m.zipIdx) : L2.atI (m.map enc) (a.2 : Int) = some (enc a.1) := by
  rw [at_nat, List.getElem?_map, mem_zipG h]
  rfl
def rowG (p : α → Bool) (m : List α) : List Int := m.zipIdx.filterMap fun q => if p q.1 = true then some (q.2 : Int) else none
def rowGD (p : α → Bool) (m : List α) : List D := (rowG p m).map .int
theorem rowGD_eq : (m.zipIdx.filterMap fun q => if p q.1 = true then some (PyData.int q.2) else none) = rowGD p m := by
  unfold rowGD rowG
  rw [List.map_filterMap]
  congr 1
  funext a
  by_cases h : p a.1 = true <;> simp [h]
theorem rowG_len : (rowG p m).length ≤ m.length := by
  unfold rowG
  have := List.length_filterMap_le (fun q : α × Nat => if p q.1 = true then some (q.2 : Int) else none) m.zipIdx
  rw [List.length_zipIdx] at this
  exact this
theorem mem_rowG {x : Int} : x ∈ rowG p m ↔ ∃ (i : Nat) (b : α), x = i ∧ m[i]? = some b ∧ p b = true := by
  unfold rowG
  rw [List.mem_filterMap]
  constructor
  · rintro ⟨⟨b, i⟩, hq, h⟩
    by_cases hp : p b = true
    · rw [if_pos hp] at h
      exact ⟨i, b, (Option.some.inj h).symm, mem_zipG hq, hp⟩
    · rw [if_neg hp] at h
      cases h
  · rintro ⟨i, b, rfl, hi, hp⟩
    exact ⟨(b, i), List.mem_zipIdx_iff_getElem?.mpr hi, if_pos hp⟩
theorem nat_rowG {i : Nat} {b : α} (h : m[i]? = some b) : ((i : Int) ∈ rowG p m) ↔ p b = true := by
  rw [mem_rowG]
  constructor
  · rintro ⟨j, c, e, hj, hp⟩
    have : i = j := by omega
    subst this
    rw [h] at hj
    cases hj
    exact hp
  · exact fun hp => ⟨i, b, rfl, h, hp⟩
theorem rowG_sub (h : ∀ b ∈ m, p b = true → q b = true) {x : Int} (hx : x ∈ rowG p m) : x ∈ rowG q m := by
  obtain ⟨i, b, e, hi, hp⟩ := mem_rowG.mp hx
  exact mem_rowG.mpr ⟨i, b, e, hi, h b (List.mem_of_getElem? hi) hp⟩
theorem enumG {l : D} (h : seqOf l = some (m.map enc)) (hl : m.length ≤ 16777216) : items .enum [l] = some (m.zipIdx.map fun q => .tuple [.int q.2, enc q.1]) := by
  show (seqOf l).bind _ = _
  rw [h]
  simp only [Option.bind_some]
  rw [if_pos (by rw [List.length_map]; exact hl), pair_zip]
  rw [List.zipIdx_map, List.map_map]
  rfl
theorem rngG (hl : m.length ≤ 16777216) : items .rng1 [.int (m.length : Int)] = some (m.zipIdx.map fun q => PyData.int (0 + q.2)) := by
  rw [show items .rng1 [.int (m.length : Int)] = some (rangeL 0 m.length) from rng1_N hl, range_zip]
theorem in_rowG (x : Int) : inD (.int x) (.tuple (rowGD p m)) = some (decide (x ∈ rowG p m)) := in_DT (α := Int) (by decide) x (rowG p m)
theorem in_rowGL (x : Int) : inD (.int x) (.list (rowGD p m)) = some (decide (x ∈ rowG p m)) := in_DL (α := Int) (by decide) x (rowG p m)
/-- row by row -/
def tabG {β : Type} (p : β → α → Bool) (t : List β) (m : List α) : D := .tuple (t.map fun a => .tuple (rowGD (p a) m))
theorem fit_row {n : Nat} (hn : m.length ≤ n) (h9 : n ≤ 1000000) : Fit (.tuple (rowGD p m)) 1 n := by
  have := fit_tup (n := n) (k := 0) (b := 0) (xs := rowGD p m) (fun y hy => by
      obtain ⟨i, hi, rfl⟩ := List.mem_map.mp hy
      obtain ⟨j, b, e, hj, _⟩ := mem_rowG.mp hi
      have := lt_of_get hj
      exact fit_int (by omega)) (by
      unfold rowGD
      rw [List.length_map]
      exact Nat.le_trans rowG_len hn)
  exact this.mono (by omega) (by omega)
theorem fit_tabG {β : Type} (p : β → α → Bool) (t : List β) {n k : Nat} (h1 : t.length ≤ k) (h2 : m.length ≤ n) (h9 : n ≤ 1000000) : Fit (tabG p t m) 2 (k * (n + 1)) :=
  fit_tup (fun x hx => by
    obtain ⟨a, _, rfl⟩ := List.mem_map.mp hx
    exact fit_row h2 h9) (by rw [List.length_map]; exact h1)
theorem tabG_D {β : Type} (p : β → α → Bool) (t : List β) : W.Datum.toD (α := W.Tup (W.Tup Int)) ⟨t.map fun a => ⟨rowG (p a) m⟩⟩ = tabG p t m := by
  show PyData.tuple (List.map _ (List.map _ t)) = _
  rw [List.map_map]
  rfl
theorem eq_tabG {β : Type} (p : β → α → Bool) (t : List β) : eqD (tabG p t m) (tabG p t m) = some true := by
  have h := eq_D (α := W.Tup (W.Tup Int)) (by decide) ⟨t.map fun a => ⟨rowG (p a) m⟩⟩ ⟨t.map fun a => ⟨rowG (p a) m⟩⟩
  rw [tabG_D] at h
  rw [h, decide_eq_true rfl]
end
theorem foldl_filter {α β : Type} (p : α → Bool) (f : α → β) : ∀ (xs : List α) (a : List β), xs.foldl (fun l x => if p x = true then l ++ [f x] else l) a = a ++ (xs.filter p).map f
  | [], a => by simp
  | x :: xs, a => by
    rw [List.foldl_cons, foldl_filter p f xs]
    by_cases h : p x = true <;> simp [h]
/-- a walk that changes the state a, with the number of items that are left -/
theorem forL_foldN {α β : Type} {f : D → Ev → D → Option (Fl × Ev × D)} {enc : β → D} {w : D} (I : α → Nat → Ev → Prop) (step : α → β → α) : ∀ {xs : List β}, (∀ x ∈ xs, ∀ a r env, I a (r + 1) env → ∃ env', I (step a x) r env' ∧ f (enc x) env w = some (.nx, env', w)) →
    ∀ {a : α} {env : Ev}, I a xs.length env → ∃ env', I (xs.foldl step a) 0 env' ∧ forL f (xs.map enc) env w = some (.nx, env', w)
  | [], _, a, env, hi => ⟨env, hi, rfl⟩
  | x :: xs, h, a, env, hi => by
    obtain ⟨env1, h1, h2⟩ := h x (List.mem_cons_self ..) a xs.length env hi
    obtain ⟨env2, h3, h4⟩ := forL_foldN (f := f) (enc := enc) I step (xs := xs) (fun y hy => h y (List.mem_cons_of_mem _ hy)) h1
    refine ⟨env2, h3, ?_⟩
    rw [List.map_cons, forL, h2]
    exact h4
/-- a comprehension with draws -/
theorem compL_draw {α : Type} {f : D → D → Option (Option D × D)} {enc : α → D} (R : α → D → Prop) : ∀ {xs : List α} {w : D}, Cup w → (∀ x ∈ xs, ∀ w, Cup w → ∃ y w', f (enc x) w = some (some y, w') ∧ R x y ∧ Cup w') →
    ∃ (g : List D) (w' : D), compL f (xs.map enc) w = some (g, w') ∧ Cup w' ∧ g.length = xs.length ∧ ∀ (i : Nat) (x : α) (y : D), xs[i]? = some x → g[i]? = some y → R x y
  | [], w, hw, _ => ⟨[], w, rfl, hw, rfl, fun i x y h => by (simp at h)⟩
  | x :: xs, w, hw, h => by
    obtain ⟨y, w1, e1, r1, c1⟩ := h x (List.mem_cons_self ..) w hw
    obtain ⟨g, w2, e2, c2, l2, r2⟩ := compL_draw R (xs := xs) c1 fun z hz => h z (List.mem_cons_of_mem _ hz)
    refine ⟨y :: g, w2, ?_, c2, by simp [l2], ?_⟩
    · rw [List.map_cons, compL, e1]
      simp only [Option.bind_some]
      rw [e2]
      rfl
    · intro i z v hz hv
      cases i with
      | zero =>
        simp at hz hv
        rw [← hz, ← hv]
        exact r1
      | succ i => exact r2 i z v hz hv
/-- alike item by item -/
def PW {α β : Type} (R : α → β → Prop) (l : List α) (l' : List β) : Prop := l'.length = l.length ∧ ∀ (i : Nat) (x : α) (y : β), l[i]? = some x → l'[i]? = some y → R x y
theorem PW.map_eq {α β γ : Type} {R : α → β → Prop} {l : List α} {l' : List β} (h : PW R l l') {f : α → γ} {f' : β → γ} (hf : ∀ x y, R x y → f' y = f x) : l'.map f' = l.map f := by
  apply List.ext_getElem?
  intro i
  rw [List.getElem?_map, List.getElem?_map]
  by_cases hi : i < l.length
  · have hi' : i < l'.length := by rw [h.1]; exact hi
    rw [List.getElem?_eq_getElem hi, List.getElem?_eq_getElem hi']
    exact congrArg some (hf _ _ (h.2 i _ _ (List.getElem?_eq_getElem hi) (List.getElem?_eq_getElem hi')))
  · have hi' : ¬ i < l'.length := by rw [h.1]; exact hi
    rw [List.getElem?_eq_none (by omega), List.getElem?_eq_none (by omega)]
    rfl
theorem PW.all {α β : Type} {R : α → β → Prop} {l : List α} {l' : List β} (h : PW R l l') {y : β} (hy : y ∈ l') : ∃ x ∈ l, R x y := by
  obtain ⟨i, hi, rfl⟩ := List.getElem_of_mem hy
  have hi' : i < l.length := by rw [← h.1]; exact hi
  exact ⟨l[i], List.getElem_mem hi', h.2 i _ _ (List.getElem?_eq_getElem hi') (List.getElem?_eq_getElem hi)⟩
theorem compL_drawT {α β : Type} {f : D → D → Option (Option D × D)} {enc : α → D} {enc' : β → D} (R : α → β → Prop) : ∀ {xs : List α} {w : D}, Cup w → (∀ x ∈ xs, ∀ w, Cup w → ∃ y w', f (enc x) w = some (some (enc' y), w') ∧ R x y ∧ Cup w') →
    ∃ (g : List β) (w' : D), compL f (xs.map enc) w = some (g.map enc', w') ∧ Cup w' ∧ PW R xs g
  | [], w, hw, _ => ⟨[], w, rfl, hw, rfl, fun i x y h => by (simp at h)⟩
  | x :: xs, w, hw, h => by
    obtain ⟨y, w1, e1, r1, c1⟩ := h x (List.mem_cons_self ..) w hw
    obtain ⟨g, w2, e2, c2, l2, r2⟩ := compL_drawT R (xs := xs) c1 fun z hz => h z (List.mem_cons_of_mem _ hz)
    refine ⟨y :: g, w2, ?_, c2, by simp [l2], ?_⟩
    · rw [List.map_cons, compL, e1]
      simp only [Option.bind_some]
      rw [e2]
      rfl
    · intro i z v hz hv
      cases i with
      | zero =>
        simp at hz hv
        rw [← hz, ← hv]
        exact r1
      | succ i => exact r2 i z v hz hv
theorem rowG_map {α : Type} (p : α → Bool) (m : List α) : rowG p m = rowG id (m.map p) := by
  unfold rowG
  rw [List.zipIdx_map, List.filterMap_map]
  rfl
theorem filterMap_if {α β : Type} (p : α → Bool) (f : α → β) (xs : List α) : (xs.filterMap fun x => if p x = true then some (f x) else none) = (xs.filter p).map f := by
  induction xs with
  | nil => rfl
  | cons x xs ih => by_cases h : p x = true <;> simp [h, ih]
theorem filterMap_no {α β : Type} (xs : List α) : (xs.filterMap fun _ => (none : Option β)) = [] := by
  rw [List.filterMap_eq_nil_iff]
  exact fun _ _ => rfl
theorem tab_ix {α β : Type} {p : β → α → Bool} {t : List β} {m : List α} {i : Nat} {b : β} (h : t[i]? = some b) : ixD (tabG p t m) (.int i) = some (.tuple (rowGD (p b) m)) := by
  show L2.atI (t.map _) (i : Int) = _
  rw [at_nat, List.getElem?_map, h]
  rfl
theorem pop_nat {xs : List D} {i : Nat} {x : D} (h : xs[i]? = some x) (hl : xs.length ≤ 16777216) : popD (.list xs) (.int i) = some (x, .list (xs.eraseIdx i)) := by
  have hi := lt_of_get h
  show (if _ then _ else _) = _
  rw [if_pos (show xs.length ≤ LIM from hl)]
  have : L2.ixN xs.length (i : Int) = some i := by
    unfold L2.ixN
    rw [if_pos (by omega), if_pos (by omega)]
    rfl
  rw [this]
  simp [h]
theorem app_lst {xs : List D} {d : D} (hl : xs.length < 16777216) : appD (.list xs) d = some (.list (xs ++ [d])) := by
  show (if _ then _ else _) = _
  rw [if_pos (show xs.length < LIM from hl)]
theorem erase_perm {α : Type} : ∀ {xs : List α} {i : Nat} {x : α}, xs[i]? = some x → (x :: xs.eraseIdx i).Perm xs
  | y :: ys, 0, x, h => by
    simp at h
    rw [h]
    exact .refl _
  | y :: ys, i + 1, x, h => by
    have h : ys[i]? = some x := h
    exact (List.Perm.swap ..).trans ((erase_perm h).cons y)
  | [], i, x, h => by simp at h
end PyI
set_option Elab.async false
set_option linter.all false
set_option maxRecDepth 100000
set_option maxHeartbeats 1000000
namespace PyI
open PySem L2 PySem.Spec

/-! ### _law_same -/
def sameB (i : Nat) : List S := [.ifs (.prim .iTup [.var 1]) [.ifs (.or (.not (.prim .iTup [.var 0])) (.prim .ne [.prim .len [.var 0], .prim .len [.var 1]])) [.ret (.con (.bool false))] [], .ret (.prim .all [.comp .rng1 [.prim .len [.var 1]] (.nm 2) [2] (.con (.bool true)) (.call i false [.prim .ix [.var 0, .var 2], .prim .ix [.var 1, .var 2]])])] [], .ifs (.prim .isN [.var 1, .con (.none)]) [.ret (.prim .isN [.var 0, .con (.none)])] [], .ifs (.prim .iBool [.var 1]) [.ret (.ite (.var 1) (.prim .isB [.var 0, .con (.bool true)]) (.prim .isB [.var 0, .con (.bool false)]))] [], .ifs (.prim .iInt [.var 1]) [.ret (.and (.prim .iInt [.var 0]) (.and (.not (.prim .iBool [.var 0])) (.prim .eq [.prim .int [.var 0], .var 1])))] [], .ret (.and (.prim .iStr [.var 0]) (.prim .eq [.prim .str [.var 0], .var 1]))]
/-- tuples of this depth, of at most a million items -/
inductive Smp : Nat → D → Prop
  | none {k : Nat} : Smp k .none
  | bool {k : Nat} {b : Bool} : Smp k (.bool b)
  | int {k : Nat} {i : Int} : Smp k (.int i)
  | str {k : Nat} {x : Str} : Smp k (.str x)
  | tup {k : Nat} {xs : List D} (h : ∀ x ∈ xs, Smp k x) (hl : xs.length ≤ 1000000) : Smp (k + 1) (.tuple xs)
theorem plainAll_of : ∀ {xs : List D}, (∀ x ∈ xs, x.plain = true) → PyData.plainAll xs = true
  | [], _ => rfl
  | x :: xs, h => by
    rw [PyData.plainAll, h x (List.mem_cons_self ..), plainAll_of (xs := xs) fun y hy => h y (List.mem_cons_of_mem _ hy)]
    rfl
theorem Smp.plain {k : Nat} {d : D} (h : Smp k d) : d.plain = true := by
  induction h with
  | none => rfl
  | bool => rfl
  | int => rfl
  | str => rfl
  | tup _ _ ih => rw [PyData.plain]; exact plainAll_of ih

@[simp] theorem p_str {a : D} : prim .str [a] = strD a := rfl
theorem allTrue {α : Type} (xs : List α) : boolsOf (xs.map fun _ => PyData.bool true) = some (xs.map fun _ => true) := by
  induction xs with
  | nil => rfl
  | cons x xs ih => rw [List.map_cons, boolsOf, ih]; rfl
theorem eq_int' (a b : Int) : eqD (.int a) (.int b) = some (decide (a = b)) := eq_D (α := Int) (by decide) a b
theorem same_refl {Φ : Nat → Fn} {i : Nat} (h : Φ i = ⟨3, 2, sameB i, false, false⟩) : ∀ {k : Nat} {d : D}, Smp k d → ∀ n, run Φ (n + k + 1) i [d, d] .none = some (.bool true, .none)
  | k, .none, _, n => by
    rw [run_fn h rfl]
    simp [sameB, x_cons, isNone, PyData.isTuple, isBD, PyData.plain]
  | k, .bool b, _, n => by
    rw [run_fn h rfl]
    cases b <;> simp [sameB, x_cons, isNone, PyData.isTuple, PyData.isBool, PyData.plain, isBD]
  | k, .int j, _, n => by
    rw [run_fn h rfl]
    simp [sameB, x_cons, isNone, PyData.isTuple, PyData.isBool, PyData.isInt, PyData.plain, isBD, intD, eq_int']
  | k, .str x, _, n => by
    rw [run_fn h rfl]
    simp [sameB, x_cons, isNone, PyData.isTuple, PyData.isBool, PyData.isInt, PyData.isStr, PyData.plain, isBD, strD, eqStr]
  | k + 1, .tuple xs, .tup hs hl, n => by
    rw [run_fn h rfl]
    have hp : (PyData.tuple xs).plain = true := (Smp.tup hs hl).plain
    have ih : ∀ x ∈ xs, run Φ (n + k + 1) i [x, x] .none = some (.bool true, .none) := fun x hx => same_refl h (hs x hx) n
    have hlen : lenD (.tuple xs) = some (.int xs.length) := rfl
    have hc := compL_map (f := turnC (run Φ (n + k + 1)) [some (.tuple xs), some (.tuple xs), none] (.nm 2) [2] (.con (.bool true)) (.call i false [.prim .ix [.var 0, .var 2], .prim .ix [.var 1, .var 2]])) (enc := fun (q : D × Nat) => PyData.int (0 + q.2)) (g := fun _ => PyData.bool true) (w := .none) (xs := xs.zipIdx) fun q hq => by
      have e : L2.atI xs (q.2 : Int) = some q.1 := by rw [at_nat, mem_zipG hq]
      simp [turnC, e, ih _ (mem_zipG1 hq)]
    have hr := rngG (m := xs) (by omega)
    have hr' : items .rng1 [.int (xs.length : Int)] = some (xs.zipIdx.map fun q => PyData.int (0 + q.2)) := hr
    simp only [Int.zero_add] at hc hr'
    have e : n + (k + 1) = n + k + 1 := by omega
    rw [e]
    simp [sameB, x_cons, isNone, PyData.isTuple, hp, hlen, eq_int', hr', hc, allD, allTrue]
end PyI
set_option Elab.async false
set_option linter.all false
set_option maxRecDepth 100000
set_option maxHeartbeats 1000000
namespace PyI
open PySem L2 PySem.Spec

/-! ### slices -/
theorem cut_from {α : Type} (xs : List α) (k : Nat) : cutL xs (some (k : Int)) none = xs.drop k := by
  unfold cutL
  rw [HT.sIx_nat, HT.sIx_none]
  by_cases h : k ≤ xs.length
  · rw [Nat.min_eq_left h, List.take_of_length_le (by simp)]
  · rw [Nat.min_eq_right (by omega), List.drop_eq_nil_of_le (Nat.le_refl _), List.drop_eq_nil_of_le (by omega)]
    simp
theorem cut_to {α : Type} (xs : List α) (k : Nat) : cutL xs none (some (k : Int)) = xs.take k := by
  unfold cutL
  rw [HT.sIx_nat, HT.sIx_none]
  by_cases h : k ≤ xs.length
  · rw [Nat.min_eq_left h]
    simp
  · rw [Nat.min_eq_right (by omega)]
    simp [List.take_of_length_le (show xs.length ≤ k by omega)]
/-! ### helpers of the program -/
def wholeD (v : D) (lo hi : Int) : Bool := match v with
  | .int i => decide (lo ≤ i) && decide (i ≤ hi)
  | _ => false
def tupD (v : D) (lo hi : Int) : Bool := match v with
  | .tuple xs => decide (lo ≤ xs.length) && decide ((xs.length : Int) ≤ hi)
  | _ => false
def wholeB : List S := [.ret (.and (.prim .iInt [.var 0]) (.and (.not (.prim .iBool [.var 0])) (.chain .le .le (.var 1) (.var 0) (.var 2))))]
def tupOfB : List S := [.ret (.and (.prim .iTup [.var 0]) (.chain .le .le (.var 1) (.prim .len [.var 0]) (.var 2)))]
def risingB : List S := [.ret (.prim .all [.comp .zip [.var 0, .prim (.sl true false) [.var 0, .con (.int 1)]] (.tp [.nm 1, .nm 2]) [1, 2] (.con (.bool true)) (.prim .lt [.var 1, .var 2])])]
section
variable {Φ : Nat → Fn} {i : Nat}
theorem whole_ok (h : Φ i = ⟨3, 3, wholeB, false, false⟩) (n : Nat) {v : D} (hp : v.plain = true) (lo hi : Int) : run Φ (n + 1) i [v, .int lo, .int hi] .none = some (.bool (wholeD v lo hi), .none) := by
  rw [run_fn h rfl]
  cases v with
  | int v => by_cases h1 : lo ≤ v <;> simp [wholeB, x_cons, PyData.isInt, PyData.isBool, h1, wholeD]
  | _ => simp [wholeB, x_cons, PyData.isInt, PyData.isBool, wholeD, hp]
theorem tupOf_ok (h : Φ i = ⟨3, 3, tupOfB, false, false⟩) (n : Nat) {v : D} (hp : v.plain = true) (lo hi : Int) : run Φ (n + 1) i [v, .int lo, .int hi] .none = some (.bool (tupD v lo hi), .none) := by
  rw [run_fn h rfl]
  cases v with
  | tuple xs =>
    by_cases h1 : lo ≤ (xs.length : Int) <;> simp [tupOfB, x_cons, PyData.isTuple, h1, tupD, hp, lenD]
    all_goals simpa using hp
  | _ => simp [tupOfB, x_cons, PyData.isTuple, tupD, hp]
end
theorem allMap {α : Type} (xs : List α) (f : α → Bool) : allD (.list (xs.map fun x => PyData.bool (f x))) = some (.bool (xs.all f)) := by
  have : boolsOf (xs.map fun x => PyData.bool (f x)) = some (xs.map f) := by
    induction xs with
    | nil => rfl
    | cons x xs ih => rw [List.map_cons, boolsOf, ih]; rfl
  show (boolsOf _).map _ = _
  rw [this]
  simp [List.all_map]
theorem anyMap {α : Type} (xs : List α) (f : α → Bool) : anyD (.list (xs.map fun x => PyData.bool (f x))) = some (.bool (xs.any f)) := by
  have : boolsOf (xs.map fun x => PyData.bool (f x)) = some (xs.map f) := by
    induction xs with
    | nil => rfl
    | cons x xs ih => rw [List.map_cons, boolsOf, ih]; rfl
  show (boolsOf _).map _ = _
  rw [this]
  simp [List.any_map]
theorem pairL_zip {α β : Type} (f : α → D) (g : β → D) : ∀ (xs : List α) (ys : List β), pairL (xs.map f) (ys.map g) = (xs.zip ys).map fun p => PyData.tuple [f p.1, g p.2]
  | [], _ => rfl
  | _ :: _, [] => rfl
  | x :: xs, y :: ys => by
    have ih := pairL_zip f g xs ys
    unfold pairL at ih ⊢
    rw [List.map_cons, List.map_cons, List.zipWith_cons_cons, ih]
    rfl
theorem zip_rise : ∀ {s : List Int}, s.Pairwise (· < ·) → ∀ p ∈ s.zip (s.drop 1), p.1 < p.2
  | [], _, p, h => by simp at h
  | [x], _, p, h => by simp at h
  | x :: y :: t, hp, p, h => by
    have hp := List.pairwise_cons.mp hp
    have h : p ∈ (x, y) :: ((y :: t).zip ((y :: t).drop 1)) := h
    rcases List.mem_cons.mp h with rfl | h
    · exact hp.1 y (List.mem_cons_self ..)
    · exact zip_rise hp.2 p h
section
variable {Φ : Nat → Fn} {i : Nat}
theorem rising_ok (h : Φ i = ⟨3, 1, risingB, false, false⟩) (n : Nat) {s : List Int} (hs : s.Pairwise (· < ·)) (hl : s.length ≤ 16777216) : run Φ (n + 1) i [.tuple (s.map .int)] .none = some (.bool true, .none) := by
  rw [run_fn h rfl]
  have hc := compL_map (f := turnC (run Φ n) [some (.tuple (s.map .int)), none, none] (.tp [.nm 1, .nm 2]) [1, 2] (.con (.bool true)) (.prim .lt [.var 1, .var 2])) (enc := fun p : Int × Int => PyData.tuple [.int p.1, .int p.2]) (g := fun _ => PyData.bool true) (w := .none) (xs := s.zip (s.drop 1)) fun p hp => by
    have := zip_rise hs p hp
    simp [turnC, this]
  have e1 : slD (some 1) none (.tuple (s.map .int)) = some (.tuple ((s.drop 1).map .int)) := by
    show some (PyData.tuple (cutL _ (some ((1 : Nat) : Int)) none)) = _
    rw [cut_from, List.map_drop]
  have hz : items .zip [.tuple (s.map .int), .tuple ((s.drop 1).map .int)] = some ((s.zip (s.drop 1)).map fun p => PyData.tuple [.int p.1, .int p.2]) := by
    rw [zipI (xs := s.map .int) (ys := (s.drop 1).map .int) rfl rfl (by simpa using hl), pairL_zip]
  have ha := allMap (s.zip (s.drop 1)) (fun _ => true)
  simp [risingB, x_cons, e1, hz, hc, ha, -List.drop_one, -List.map_drop, -List.map_tail]
end
/-! ### ranges -/
def rngI (m : Int) : List Int := (List.range m.toNat).map fun i : Nat => (i : Int)
theorem items_rngI {m : Int} (h0 : 0 ≤ m) (h1 : m ≤ 16777216) : items .rng1 [.int m] = some ((rngI m).map .int) := by
  rw [show items .rng1 [.int m] = some (rangeL 0 m.toNat) from rng1_I h0 h1]
  unfold rangeL rngI
  rw [List.map_map]
  congr 2
  funext i
  simp
theorem mem_rngI {m x : Int} : x ∈ rngI m ↔ 0 ≤ x ∧ x < m := by
  unfold rngI
  simp only [List.mem_map, List.mem_range]
  constructor
  · rintro ⟨i, h, rfl⟩
    omega
  · rintro ⟨h0, h1⟩
    exact ⟨x.toNat, by omega, by omega⟩
theorem rngI_rise (m : Int) : (rngI m).Pairwise (· < ·) := by
  unfold rngI
  rw [List.pairwise_map]
  exact List.pairwise_lt_range.imp fun h => by omega
theorem rngI_len {m : Int} : (rngI m).length = m.toNat := by simp [rngI]
theorem nodup_rise {s : List Int} (h : s.Pairwise (· < ·)) : s.Nodup := h.imp fun {a b} hab z => by omega
/-! ### comprehensions that leave some out -/
theorem compL_filter {α : Type} {f : D → D → Option (Option D × D)} {enc g : α → D} {p : α → Bool} {w : D} {xs : List α} (h : ∀ x ∈ xs, f (enc x) w = some (if p x = true then some (g x) else none, w)) : compL f (xs.map enc) w = some ((xs.filter p).map g, w) := by
  rw [compL_pure (g := fun x => if p x = true then some (g x) else none) h, filterMap_if]
theorem compL_none {f : D → D → Option (Option D × D)} {w : D} : ∀ {xs : List D}, (∀ x ∈ xs, f x w = some (none, w)) → compL f xs w = some ([], w)
  | [], _ => rfl
  | x :: xs, h => by
    rw [compL, h x (List.mem_cons_self ..)]
    simp only [Option.bind_some]
    rw [compL_none fun y hy => h y (List.mem_cons_of_mem _ hy)]
    rfl
theorem compL_drawS {α : Type} {f : D → D → Option (Option D × D)} {enc : α → D} : ∀ {xs : List α} {w : D}, Cup w → (∀ x ∈ xs, ∀ w, Cup w → ∃ (b : Bool) (w' : D), f (enc x) w = some (if b = true then some (enc x) else none, w') ∧ Cup w') →
    ∃ (g : List α) (w' : D), compL f (xs.map enc) w = some (g.map enc, w') ∧ Cup w' ∧ g.Sublist xs
  | [], w, hw, _ => ⟨[], w, rfl, hw, .slnil⟩
  | x :: xs, w, hw, h => by
    obtain ⟨b, w1, e1, c1⟩ := h x (List.mem_cons_self ..) w hw
    obtain ⟨g, w2, e2, c2, s2⟩ := compL_drawS (xs := xs) c1 fun z hz => h z (List.mem_cons_of_mem _ hz)
    cases b with
    | true =>
      refine ⟨x :: g, w2, ?_, c2, s2.cons₂ x⟩
      rw [List.map_cons, compL, e1]
      simp only [Option.bind_some]
      rw [e2]
      rfl
    | false =>
      refine ⟨g, w2, ?_, c2, s2.cons x⟩
      rw [List.map_cons, compL, e1]
      simp only [Option.bind_some]
      rw [e2]
      rfl
/-! ### rows of numbers in order -/
def rle (a b : List Int) : Bool := !decide (b < a)
theorem rle_iff {a b : List Int} : rle a b = true ↔ a ≤ b := by
  unfold rle
  rw [Bool.not_eq_true', decide_eq_false_iff_not]
  exact Iff.rfl
theorem rle_trans (a b c : List Int) (h1 : rle a b = true) (h2 : rle b c = true) : rle a c = true :=
  rle_iff.mpr (List.le_trans (rle_iff.mp h1) (rle_iff.mp h2))
theorem rle_total (a b : List Int) : (rle a b || rle b a) = true := by
  rw [Bool.or_eq_true, rle_iff, rle_iff]
  exact List.le_total a b
theorem rle_anti {a b : List Int} (h1 : rle a b = true) (h2 : rle b a = true) : a = b := List.le_antisymm (rle_iff.mp h1) (rle_iff.mp h2)
theorem rsort_perm {xs ys : List (List Int)} (h : xs.Perm ys) : xs.mergeSort rle = ys.mergeSort rle :=
  List.Perm.eq_of_pairwise (le := fun a b => rle a b = true) (fun a b _ _ h1 h2 => rle_anti h1 h2) (List.pairwise_mergeSort rle_trans rle_total xs) (List.pairwise_mergeSort rle_trans rle_total ys) ((List.mergeSort_perm xs rle).trans (h.trans (List.mergeSort_perm ys rle).symm))
theorem rsort_filter (xs : List (List Int)) (p : List Int → Bool) : (xs.mergeSort rle).filter p = (xs.filter p).mergeSort rle :=
  List.Perm.eq_of_pairwise (le := fun a b => rle a b = true) (fun a b _ _ h1 h2 => rle_anti h1 h2) ((List.pairwise_mergeSort rle_trans rle_total xs).filter p) (List.pairwise_mergeSort rle_trans rle_total _) (((List.mergeSort_perm xs rle).filter p).trans (List.mergeSort_perm _ rle).symm)
def tI (s : List Int) : D := .tuple (s.map .int)
theorem tI_plain (s : List Int) : (tI s).plain = true := by
  unfold tI
  rw [PyData.plain]
  exact plain_ints s
theorem tI_depth (s : List Int) : (tI s).depth ≤ 1 := by
  have : PyData.depthAll (s.map .int) ≤ 0 := depthAll_le fun x hx => by
    obtain ⟨i, _, rfl⟩ := List.mem_map.mp hx
    exact Nat.le_refl _
  have e1 : PyData.depth (.tuple (s.map .int)) = PyData.depthAll (s.map .int) + 1 := by simp [PyData.depth, Nat.add_comm]
  unfold tI
  omega
theorem dataLt_tI (a b : List Int) : W.dataLt (tI a) (tI b) = decide (a < b) := by
  unfold tI
  rw [W.dataLt_tuple]
  exact W.dataLt_ints a b
theorem alikeB_rows (F : List (List Int)) : alikeB (F.map tI) = true := by
  unfold alikeB
  simp only [Bool.and_eq_true, List.all_eq_true, decide_eq_true_eq]
  refine ⟨⟨⟨plainAll_of fun x hx => ?_, ?_⟩, ?_⟩, ?_⟩
  · obtain ⟨s, _, rfl⟩ := List.mem_map.mp hx
    exact tI_plain s
  · intro x hx y hy
    obtain ⟨a, _, rfl⟩ := List.mem_map.mp hx
    obtain ⟨b, _, rfl⟩ := List.mem_map.mp hy
    show W.alike (.tuple _) (.tuple _) = true
    rw [W.alike]
    exact W.alike_ints a b
  · intro x hx
    obtain ⟨i, _, rfl⟩ := List.mem_map.mp hx
    rfl
  · have : PyData.depthAll (F.map tI) ≤ 1 := depthAll_le fun x hx => by
      obtain ⟨i, _, rfl⟩ := List.mem_map.mp hx
      exact tI_depth i
    exact Nat.le_trans this (by decide)
/-- only the first may be empty -/
def HeadE (F : List (List Int)) : Prop := ∀ x ∈ F.tail, x ≠ []
theorem tupC_of {s : List Int} (h : s ≠ []) : isTupC (tI s) = true := by
  cases s with
  | nil => exact absurd rfl h
  | cons _ _ => rfl
theorem sort_rows {d : D} {F : List (List Int)} (h : seqOf d = some (F.map tI)) (he : HeadE F) : sortedD d = some (.list ((F.mergeSort rle).map tI)) := by
  rw [sortedD_seq h, if_pos]
  · unfold sortD
    rw [List.map_mergeSort (s := W.dataLe false id)]
    intro a _ b _
    show rle a b = W.dataLe false id (tI a) (tI b)
    rw [W.dataLe_eq]
    show rle a b = !W.dataLt (tI b) (tI a)
    rw [dataLt_tI]
    rfl
  · unfold sortOk
    rw [alikeB_rows, Bool.true_and, Bool.or_eq_true, Bool.or_eq_true]
    cases F with
    | nil => exact .inl (.inl rfl)
    | cons x t =>
      cases x with
      | nil =>
        refine .inr ?_
        show (t.map tI).all isTup = true
        rw [List.all_eq_true]
        intro y hy
        obtain ⟨i, _, rfl⟩ := List.mem_map.mp hy
        rfl
      | cons a r =>
        refine .inl (.inl ?_)
        rw [List.all_eq_true]
        intro y hy
        obtain ⟨s, hs, rfl⟩ := List.mem_map.mp hy
        rcases List.mem_cons.mp hs with rfl | hs
        · rfl
        · exact tupC_of (he s hs)
theorem in_tI (x : Int) (s : List Int) : inD (.int x) (tI s) = some (decide (x ∈ s)) := in_DT (α := Int) (by decide) x s
theorem eq_tI (a b : List Int) : eqD (tI a) (tI b) = some (decide (a = b)) := by
  have h := eq_D (α := W.Tup Int) (by decide) ⟨a⟩ ⟨b⟩
  have e : decide ((⟨a⟩ : W.Tup Int) = ⟨b⟩) = decide (a = b) := decide_eq_decide.mpr ⟨fun h => by cases h; rfl, fun h => by rw [h]⟩
  rw [e] at h
  exact h
theorem smp_tI {k : Nat} {s : List Int} (h : s.length ≤ 1000000) : Smp (k + 1) (tI s) :=
  .tup (fun x hx => by
    obtain ⟨i, _, rfl⟩ := List.mem_map.mp hx
    exact .int) (by simpa using h)
theorem eq_bool' (a b : Bool) : eqD (.bool a) (.bool b) = some (decide (a = b)) := eq_D (α := Bool) (by decide) a b
@[simp] theorem at3 {α : Type} {x y z u : α} {xs : List α} : L2.atI (x :: y :: z :: u :: xs) 3 = some u := at_nat (xs := x :: y :: z :: u :: xs) (i := 3)
@[simp] theorem at4 {α : Type} {x y z u v : α} {xs : List α} : L2.atI (x :: y :: z :: u :: v :: xs) 4 = some v := at_nat (xs := x :: y :: z :: u :: v :: xs) (i := 4)
@[simp] theorem at5 {α : Type} {x y z u v t : α} {xs : List α} : L2.atI (x :: y :: z :: u :: v :: t :: xs) 5 = some t := at_nat (xs := x :: y :: z :: u :: v :: t :: xs) (i := 5)
theorem ret_ev {call : CallF} {e : E} {env : Ev} {w d w' : D} (h : ev call e env w = some (d, w')) : retOf (exs call [.ret e] env w) = some (d, w') := by
  rw [x_last (r := (.rt d, env, w')) (by rw [x_ret, h]; rfl)]
  rfl
end PyI
set_option Elab.async false
set_option linter.all false
set_option maxRecDepth 100000
set_option maxHeartbeats 1000000
namespace PyI
open PySem L2 PySem.Spec

section
variable {call : CallF} {env : Ev} {w : D}
/-- one turn of the first clause of two -/
def turnD (call : CallF) (env : Ev) (tg : T) (own : List Nat) (cond : E) (k2 : ItK) (srcs2 : List E) (tg2 : T) (own2 : List Nat) (cond2 elt : E) : D → D → Option (List D × D) := fun x w => (bindT tg x (wipeE env own)).bind fun env1 => (ev call cond env1 w).bind fun c => (asB c.1).bind fun b =>
  if b = true then (evs call srcs2 env1 c.2).bind fun r2 => (items k2 r2.1).bind fun ys => compL (turnC call env1 tg2 own2 cond2 elt) ys r2.2 else some ([], c.2)
@[simp] theorem e_comp2 {k k2 : ItK} {srcs srcs2 : List E} {tg tg2 : T} {own own2 : List Nat} {cond cond2 elt : E} : ev call (.comp2 k srcs tg own cond k2 srcs2 tg2 own2 cond2 elt) env w = (evs call srcs env w).bind fun r => (items k r.1).bind fun xs => (compLs (turnD call env tg own cond k2 srcs2 tg2 own2 cond2 elt) xs r.2).bind fun q => if q.1.length ≤ LIM then some (.list q.1, q.2) else none := by
  rw [ev]
  rfl
@[simp] theorem x_ext {i : Nat} {e : E} : ex call (.ext i e) env w = (ev call e env w).bind fun r => (getE env i).bind fun x => (extD x r.1).bind fun y => (setE env i y).map fun env' => (.nx, env', r.2) := by rw [ex]
@[simp] theorem x_mv {i j : Nat} : ex call (.mv i j) env w = (getE env j).bind fun d => (setE (env.set j none) i d).map fun env' => (.nx, env', w) := by rw [ex]
@[simp] theorem p_lenset {a : D} : prim .lenset [a] = lensetD a := rfl
end
theorem compLs_map {α : Type} {f : D → D → Option (List D × D)} {enc : α → D} {g : α → List D} {w : D} : ∀ {xs : List α}, (∀ x ∈ xs, f (enc x) w = some (g x, w)) → compLs f (xs.map enc) w = some (xs.flatMap g, w)
  | [], _ => rfl
  | x :: xs, h => by
    rw [List.map_cons, compLs, h x (List.mem_cons_self ..)]
    simp only [Option.bind_some]
    rw [compLs_map (xs := xs) fun y hy => h y (List.mem_cons_of_mem _ hy), List.flatMap_cons]
    rfl
theorem ext_lst {xs ys : List D} (h : xs.length + ys.length ≤ 16777216) : extD (.list xs) (.list ys) = some (.list (xs ++ ys)) := by
  show (if _ then _ else _) = _
  rw [if_pos (show xs.length + ys.length ≤ LIM from h)]
/-- a walk whose turns put items behind a list -/
theorem forL_ext {β : Type} {f : D → Ev → D → Option (Fl × Ev × D)} {enc : β → D} {w : D} (I : List D → Ev → Prop) (g : β → List D) (B : Nat) : ∀ {xs : List β}, (∀ x ∈ xs, ∀ a env, a.length + (g x).length ≤ B → I a env → ∃ env', I (a ++ g x) env' ∧ f (enc x) env w = some (.nx, env', w)) →
    ∀ {a : List D} {env : Ev}, a.length + (xs.flatMap g).length ≤ B → I a env → ∃ env', I (a ++ xs.flatMap g) env' ∧ forL f (xs.map enc) env w = some (.nx, env', w)
  | [], _, a, env, _, hi => ⟨env, by rw [List.flatMap_nil, List.append_nil]; exact hi, rfl⟩
  | x :: xs, h, a, env, hb, hi => by
    rw [List.flatMap_cons, List.length_append] at hb
    obtain ⟨env1, h1, h2⟩ := h x (List.mem_cons_self ..) a env (by omega) hi
    obtain ⟨env2, h3, h4⟩ := forL_ext (f := f) (enc := enc) (w := w) I g B (xs := xs) (fun y hy => h y (List.mem_cons_of_mem _ hy)) (a := a ++ g x) (env := env1) (by rw [List.length_append]; omega) h1
    refine ⟨env2, by rw [List.flatMap_cons, ← List.append_assoc]; exact h3, ?_⟩
    rw [List.map_cons, forL, h2]
    exact h4
def rngF (lo hi : Int) : List Int := (List.range (hi - lo).toNat).map fun i : Nat => lo + i
theorem items_rngF {lo hi : Int} (h0 : -16777216 ≤ lo) (h1 : lo ≤ 16777216) (h2 : -16777216 ≤ hi) (h3 : hi ≤ 16777216) (h4 : hi - lo ≤ 16777216) : items .rng2 [.int lo, .int hi] = some ((rngF lo hi).map .int) := by
  show (if _ then _ else _) = _
  rw [if_pos ⟨h0, h1, h2, h3, h4⟩]
  unfold rangeL rngF
  rw [List.map_map]
  rfl
theorem mem_rngF {lo hi x : Int} : x ∈ rngF lo hi ↔ lo ≤ x ∧ x < hi := by
  unfold rngF
  simp only [List.mem_map, List.mem_range]
  constructor
  · rintro ⟨i, h, rfl⟩
    omega
  · rintro ⟨h0, h1⟩
    exact ⟨(x - lo).toNat, by omega, by omega⟩
theorem at_int {α : Type} {xs : List α} {i : Int} (h0 : 0 ≤ i) {x : α} (h : xs[i.toNat]? = some x) : L2.atI xs i = some x := by
  have := at_nat (xs := xs) (i := i.toNat)
  rw [show ((i.toNat : Nat) : Int) = i by omega] at this
  rw [this, h]
theorem ix_tI {s : List Int} {i : Int} (h0 : 0 ≤ i) (h1 : i < s.length) : ixD (tI s) (.int i) = some (.int (s.getD i.toNat 0)) := by
  show L2.atI (s.map PyData.int) i = _
  have hl : i.toNat < s.length := by omega
  refine at_int h0 ?_
  rw [List.getElem?_map, List.getElem?_eq_getElem hl, List.getD_eq_getElem?_getD, List.getElem?_eq_getElem hl]
  rfl
theorem len_tI (s : List Int) : lenD (tI s) = some (.int s.length) := by
  show some (PyData.int ((s.map PyData.int).length : Nat)) = _
  rw [List.length_map]
/-- rows of numbers -/
def tT (t : List (List Int)) : D := .tuple (t.map tI)
theorem ix_tT {t : List (List Int)} {i : Int} (h0 : 0 ≤ i) (h1 : i < t.length) : ixD (tT t) (.int i) = some (tI (t.getD i.toNat [])) := by
  show L2.atI (t.map tI) i = _
  have hl : i.toNat < t.length := by omega
  refine at_int h0 ?_
  rw [List.getElem?_map, List.getElem?_eq_getElem hl, List.getD_eq_getElem?_getD, List.getElem?_eq_getElem hl]
  rfl
theorem len_tT (t : List (List Int)) : lenD (tT t) = some (.int t.length) := by
  show some (PyData.int ((t.map tI).length : Nat)) = _
  rw [List.length_map]
theorem tT_plain (t : List (List Int)) : (tT t).plain = true := by
  unfold tT
  rw [PyData.plain]
  exact plainAll_of fun x hx => by
    obtain ⟨s, _, rfl⟩ := List.mem_map.mp hx
    exact tI_plain s
theorem plainAll_mem : ∀ {xs : List D}, PyData.plainAll xs = true → ∀ x ∈ xs, x.plain = true
  | [], _, x, hx => by cases hx
  | y :: ys, hp, x, hx => by
    rw [PyData.plainAll, Bool.and_eq_true] at hp
    rcases List.mem_cons.mp hx with rfl | hx
    · exact hp.1
    · exact plainAll_mem hp.2 x hx
end PyI
set_option Elab.async false
set_option linter.all false
set_option maxRecDepth 100000
set_option maxHeartbeats 4000000
namespace K76
open PySem L2 PySem.Spec PyI
def top (i : Nat) : Stmt := PySem.Challenge.pw_carpentersyard_k76_whole_rows_of_planks.main.body.getD i (.Pass ⟨0, 0, 0, 0⟩)
abbrev s_is_whole : Stmt := top 6
abbrev s_is_tuple_of : Stmt := top 7
abbrev s_is_rising : Stmt := top 8
abbrev s_fits_kit : Stmt := top 14
abbrev s_need_kit : Stmt := top 15
abbrev s_fits_row : Stmt := top 16
abbrev s_need_row : Stmt := top 17
abbrev s_joints_in : Stmt := top 18
abbrev s_counts_from : Stmt := top 19
abbrev s_rows_in : Stmt := top 20
abbrev s_few_rows : Stmt := top 21
abbrev s_is_kit : Stmt := top 22
abbrev s_is_row : Stmt := top 23
abbrev s_joints : Stmt := top 24
abbrev s_count_rows : Stmt := top 25
abbrev s_row_with : Stmt := top 26
abbrev s_number_of : Stmt := top 27
abbrev s_all_rows : Stmt := top 28
abbrev s_u_law_cup : Stmt := top 30
abbrev s_u_law_roll : Stmt := top 31
abbrev s_u_law_some : Stmt := top 32
abbrev s_u_law_turned : Stmt := top 33
abbrev s_u_law_kit : Stmt := top 34
abbrev s_u_law_rows : Stmt := top 35
abbrev s_u_law_joints : Stmt := top 36
abbrev s_u_law_right : Stmt := top 37
abbrev s_u_law_great_right : Stmt := top 38
abbrev s_u_law_odds_right : Stmt := top 39
abbrev s_law : Stmt := top 40
def fes : List (Str × Fe) := ("is_whole", ⟨0, 3, false⟩) :: ("is_tuple_of", ⟨1, 3, false⟩) :: ("is_rising", ⟨2, 1, false⟩) :: ("fits_kit", ⟨3, 1, false⟩) :: ("need_kit", ⟨4, 1, false⟩) :: ("fits_row", ⟨5, 2, false⟩) :: ("need_row", ⟨6, 2, false⟩) :: ("joints_in", ⟨7, 1, false⟩) :: ("counts_from", ⟨8, 2, false⟩) :: ("rows_in", ⟨9, 2, false⟩) :: ("few_rows", ⟨10, 1, false⟩) :: ("is_kit", ⟨11, 1, false⟩) :: ("is_row", ⟨12, 2, false⟩) :: ("joints", ⟨13, 2, false⟩) :: ("count_rows", ⟨14, 1, false⟩) :: ("row_with", ⟨15, 2, false⟩) :: ("number_of", ⟨16, 2, false⟩) :: ("all_rows", ⟨17, 1, false⟩) :: ("_law_roll", ⟨18, 2, true⟩) :: ("_law_some", ⟨19, 2, true⟩) :: ("_law_turned", ⟨20, 2, true⟩) :: ("_law_kit", ⟨21, 3, true⟩) :: ("_law_rows", ⟨22, 1, false⟩) :: ("_law_joints", ⟨23, 1, false⟩) :: ("_law_right", ⟨24, 1, true⟩) :: ("_law_great_right", ⟨25, 1, true⟩) :: ("_law_odds_right", ⟨26, 0, false⟩) :: []
def gl : Glob := ⟨fes, ("WIDE", .int 16) :: ("KINDS", .int 4) :: ("LONG", .int 8) :: ("ROWS", .int 300) :: [], "isinstance" :: "int" :: "bool" :: "tuple" :: "len" :: "all" :: "zip" :: "sum" :: "range" :: "abs" :: "list" :: "sorted" :: "repr" :: "dict" :: []⟩
def N_is_whole : List Str := ["value", "low", "high"]
def b_is_whole : List PyI.S := [.ret (.and (.prim .iInt [.var 0]) (.and (.not (.prim .iBool [.var 0])) (.chain .le .le (.var 1) (.var 0) (.var 2))))]
def d_is_whole : Df := ⟨"is_whole", s_is_whole, N_is_whole, ["value", "low", "high"], [], ⟨3, 3, b_is_whole, false, false⟩⟩
def N_is_tuple_of : List Str := ["value", "low", "high"]
def b_is_tuple_of : List PyI.S := [.ret (.and (.prim .iTup [.var 0]) (.chain .le .le (.var 1) (.prim .len [.var 0]) (.var 2)))]
def d_is_tuple_of : Df := ⟨"is_tuple_of", s_is_tuple_of, N_is_tuple_of, ["value", "low", "high"], [], ⟨3, 3, b_is_tuple_of, false, false⟩⟩
def N_is_rising : List Str := ["value", "one", "other"]
def b_is_rising : List PyI.S := [.ret (.prim .all [.comp .zip [.var 0, .prim (.sl true false) [.var 0, .con (.int 1)]] (.tp [.nm 1, .nm 2]) [1, 2] (.con (.bool true)) (.prim .lt [.var 1, .var 2])])]
def d_is_rising : Df := ⟨"is_rising", s_is_rising, N_is_rising, ["value"], [], ⟨3, 1, b_is_rising, false, false⟩⟩
def N_fits_kit : List Str := ["value", "one"]
def b_fits_kit : List PyI.S := [.ifs (.or (.not (.call 1 false [.var 0, .con (.int 2), .con (.int 2)])) (.or (.not (.call 0 false [.prim .ix [.var 0, .con (.int 0)], .con (.int 1), .con (.int 16)])) (.not (.call 1 false [.prim .ix [.var 0, .con (.int 1)], .con (.int 1), .con (.int 4)])))) [.ret (.con (.bool false))] [], .ret (.and (.prim .all [.comp .seq [.prim .ix [.var 0, .con (.int 1)]] (.nm 1) [1] (.con (.bool true)) (.call 0 false [.var 1, .con (.int 1), .con (.int 8)])]) (.call 2 false [.prim .ix [.var 0, .con (.int 1)]]))]
def d_fits_kit : Df := ⟨"fits_kit", s_fits_kit, N_fits_kit, ["value"], [], ⟨2, 1, b_fits_kit, false, false⟩⟩
def N_need_kit : List Str := ["kit"]
def b_need_kit : List PyI.S := [.ifs (.not (.call 3 false [.var 0])) [.never] []]
def d_need_kit : Df := ⟨"need_kit", s_need_kit, N_need_kit, ["kit"], [], ⟨1, 1, b_need_kit, false, false⟩⟩
def N_fits_row : List Str := ["kit", "value", "one"]
def b_fits_row : List PyI.S := [.ifs (.or (.not (.call 1 false [.var 1, .con (.int 1), .con (.int 16)])) (.not (.prim .all [.comp .seq [.var 1] (.nm 2) [2] (.con (.bool true)) (.call 0 false [.var 2, .con (.int 1), .con (.int 8)])]))) [.ret (.con (.bool false))] [], .ret (.and (.prim .all [.comp .seq [.var 1] (.nm 2) [2] (.con (.bool true)) (.prim .isin [.var 2, .prim .ix [.var 0, .con (.int 1)]])]) (.prim .eq [.prim .sum [.var 1], .prim .ix [.var 0, .con (.int 0)]]))]
def d_fits_row : Df := ⟨"fits_row", s_fits_row, N_fits_row, ["kit", "value"], [], ⟨3, 2, b_fits_row, false, false⟩⟩
def N_need_row : List Str := ["kit", "row"]
def b_need_row : List PyI.S := [.expr (.call 4 false [.var 0]), .ifs (.not (.call 5 false [.var 0, .var 1])) [.never] []]
def d_need_row : Df := ⟨"need_row", s_need_row, N_need_row, ["kit", "row"], [], ⟨2, 2, b_need_row, false, false⟩⟩
def N_joints_in : List Str := ["row", "found", "here", "one"]
def b_joints_in : List PyI.S := [.par [1, 2] [.prim .lst [], .con (.int 0)], .for .seq [.prim (.sl false true) [.var 0, .prim .neg [.con (.int 1)]]] (.nm 3) [.asg (.nm 2) (.prim .add [.var 2, .var 3]), .app 1 (.var 2)], .ret (.var 1)]
def d_joints_in : Df := ⟨"joints_in", s_joints_in, N_joints_in, ["row"], [1], ⟨4, 1, b_joints_in, false, false⟩⟩
def N_counts_from : List Str := ["kit", "shut", "found", "place", "one"]
def b_counts_from : List PyI.S := [.own 2 (.prim .addL [.prim .mulL [.prim .lst [.con (.int 0)], .prim .ix [.var 0, .con (.int 0)]], .prim .lst [.con (.int 1)]]), .for .rng3 [.prim .sub [.prim .ix [.var 0, .con (.int 0)], .con (.int 1)], .prim .neg [.con (.int 1)], .prim .neg [.con (.int 1)]] (.nm 3) [.ifs (.prim .notin [.var 3, .var 1]) [.putL 2 (.var 3) (.prim .sum [.comp .seq [.prim .ix [.var 0, .con (.int 1)]] (.nm 4) [4] (.prim .le [.prim .add [.var 3, .var 4], .prim .ix [.var 0, .con (.int 0)]]) (.prim .ix [.var 2, .prim .add [.var 3, .var 4]])])] []], .ret (.var 2)]
def d_counts_from : Df := ⟨"counts_from", s_counts_from, N_counts_from, ["kit", "shut"], [2], ⟨5, 2, b_counts_from, false, false⟩⟩
def N_rows_in : List Str := ["kit", "shut", "counts", "line", "found", "row", "here", "good", "one"]
def b_rows_in : List PyI.S := [.par [2, 3, 4] [.call 8 false [.var 0, .var 1], .prim .lst [.prim .tup []], .prim .lst []], .while (.prim .ne [.var 3, .prim .lst []]) [.popE (.nm 5) 3, .asg (.nm 6) (.prim .sum [.var 5]), .ifs (.prim .eq [.var 6, .prim .ix [.var 0, .con (.int 0)]]) [.app 4 (.var 5)] [.asg (.nm 7) (.comp .seq [.prim .ix [.var 0, .con (.int 1)]] (.nm 8) [8] (.and (.prim .le [.prim .add [.var 6, .var 8], .prim .ix [.var 0, .con (.int 0)]]) (.prim .gt [.prim .ix [.var 2, .prim .add [.var 6, .var 8]], .con (.int 0)])) (.var 8)), .ext 3 (.comp .seq [.prim .rev [.var 7]] (.nm 8) [8] (.con (.bool true)) (.prim .add [.var 5, .prim .tup [.var 8]]))]], .ret (.var 4)]
def d_rows_in : Df := ⟨"rows_in", s_rows_in, N_rows_in, ["kit", "shut"], [3, 4], ⟨9, 2, b_rows_in, false, false⟩⟩
def N_few_rows : List Str := ["kit"]
def b_few_rows : List PyI.S := [.expr (.call 4 false [.var 0]), .ifs (.prim .gt [.prim .ix [.call 8 false [.var 0, .prim .lst []], .con (.int 0)], .con (.int 300)]) [.never] [], .ret (.call 9 false [.var 0, .prim .lst []])]
def d_few_rows : Df := ⟨"few_rows", s_few_rows, N_few_rows, ["kit"], [], ⟨1, 1, b_few_rows, false, false⟩⟩
def N_is_kit : List Str := ["value"]
def b_is_kit : List PyI.S := [.ret (.call 3 false [.var 0])]
def d_is_kit : Df := ⟨"is_kit", s_is_kit, N_is_kit, ["value"], [], ⟨1, 1, b_is_kit, false, false⟩⟩
def N_is_row : List Str := ["kit", "value"]
def b_is_row : List PyI.S := [.expr (.call 4 false [.var 0]), .ret (.call 5 false [.var 0, .var 1])]
def d_is_row : Df := ⟨"is_row", s_is_row, N_is_row, ["kit", "value"], [], ⟨2, 2, b_is_row, false, false⟩⟩
def N_joints : List Str := ["kit", "row"]
def b_joints : List PyI.S := [.expr (.call 6 false [.var 0, .var 1]), .ret (.prim .tuple [.call 7 false [.var 1]])]
def d_joints : Df := ⟨"joints", s_joints, N_joints, ["kit", "row"], [], ⟨2, 2, b_joints, false, false⟩⟩
def N_count_rows : List Str := ["kit"]
def b_count_rows : List PyI.S := [.expr (.call 4 false [.var 0]), .ret (.prim .ix [.call 8 false [.var 0, .prim .lst []], .con (.int 0)])]
def d_count_rows : Df := ⟨"count_rows", s_count_rows, N_count_rows, ["kit"], [], ⟨1, 1, b_count_rows, false, false⟩⟩
def N_row_with : List Str := ["kit", "number", "counts", "row", "here", "one", "own"]
def b_row_with : List PyI.S := [.expr (.call 4 false [.var 0]), .par [2, 3] [.call 8 false [.var 0, .prim .lst []], .prim .tup []], .ifs (.not (.call 0 false [.var 1, .con (.int 0), .prim .sub [.prim .ix [.var 2, .con (.int 0)], .con (.int 1)]])) [.never] [], .while (.prim .ne [.prim .sum [.var 3], .prim .ix [.var 0, .con (.int 0)]]) [.asg (.nm 4) (.prim .sum [.var 3]), .for .seq [.prim .ix [.var 0, .con (.int 1)]] (.nm 5) [.asg (.nm 6) (.ite (.prim .le [.prim .add [.var 4, .var 5], .prim .ix [.var 0, .con (.int 0)]]) (.prim .ix [.var 2, .prim .add [.var 4, .var 5]]) (.con (.int 0))), .ifs (.prim .lt [.var 1, .var 6]) [.asg (.nm 3) (.prim .add [.var 3, .prim .tup [.var 5]]), .brk] [], .asg (.nm 1) (.prim .sub [.var 1, .var 6])]], .ret (.var 3)]
def d_row_with : Df := ⟨"row_with", s_row_with, N_row_with, ["kit", "number"], [], ⟨7, 2, b_row_with, false, false⟩⟩
def N_number_of : List Str := ["kit", "row", "counts", "found", "here", "one", "less"]
def b_number_of : List PyI.S := [.expr (.call 6 false [.var 0, .var 1]), .asg (.tp [.nm 2, .nm 3, .nm 4]) (.prim .tup [.call 8 false [.var 0, .prim .lst []], .con (.int 0), .con (.int 0)]), .for .seq [.var 1] (.nm 5) [.asg (.nm 3) (.prim .add [.var 3, .prim .sum [.comp .seq [.prim .ix [.var 0, .con (.int 1)]] (.nm 6) [6] (.prim .lt [.var 6, .var 5]) (.prim .ix [.var 2, .prim .add [.var 4, .var 6]])]]), .asg (.nm 4) (.prim .add [.var 4, .var 5])], .ret (.var 3)]
def d_number_of : Df := ⟨"number_of", s_number_of, N_number_of, ["kit", "row"], [], ⟨7, 2, b_number_of, false, false⟩⟩
def N_all_rows : List Str := ["kit"]
def b_all_rows : List PyI.S := [.ret (.prim .tuple [.call 10 false [.var 0]])]
def d_all_rows : Df := ⟨"all_rows", s_all_rows, N_all_rows, ["kit"], [], ⟨1, 1, b_all_rows, false, false⟩⟩
def N_u_law_cup : List Str := ["script", "cell"]
def c_u_law_cup : PyI.Ctx := ⟨N_u_law_cup, defScope s_u_law_cup, cellsOf' (defScope s_u_law_cup), [], none, [], fun _ => none, gl.fns, gl.cons, gl.blt⟩
def b_u_law_cup : List PyI.S := [.ret (.prim .lst [.ite (.prim .ge [.var 1, .prim .pow [.con (.int 10), .con (.int 18)]]) (.prim .fdiv [.var 1, .con (.int 141)]) (.con (.int 0)), .prim .add [.prim .mod [.prim .int [.prim .add [.prim .mul [.var 1, .con (.int 375)], .con (.int 4337)]], .con (.int 2077503101)], .con (.int 229)]])]
def N_u_law_roll : List Str := ["cup", "many", "found", "deep"]
def b_u_law_roll : List PyI.S := [.ifs (.prim .gt [.prim .ix [.var 0, .con (.int 0)], .con (.int 0)]) [.asg (.nm 2) (.prim .mod [.prim .int [.prim .ix [.var 0, .con (.int 0)]], .var 1]), .putL 0 (.con (.int 0)) (.prim .fdiv [.prim .ix [.var 0, .con (.int 0)], .var 1]), .ret (.var 2)] [], .putL 0 (.con (.int 1)) (.prim .mod [.prim .int [.prim .add [.prim .mul [.prim .ix [.var 0, .con (.int 1)], .con (.int 31017)], .con (.int 8087)]], .con (.int 2147483399)]), .asg (.nm 3) (.prim .mod [.prim .int [.prim .mul [.prim .ix [.var 0, .con (.int 1)], .prim .add [.prim .ix [.var 0, .con (.int 1)], .con (.int 419)]]], .con (.int 2147483563)]), .ret (.prim .mod [.prim .int [.prim .fdiv [.var 3, .con (.int 797)]], .var 1])]
def d_u_law_roll : Df := ⟨"_law_roll", s_u_law_roll, N_u_law_roll, ["cup", "many"], [0], ⟨4, 2, b_u_law_roll, false, true⟩⟩
def N_u_law_some : List Str := ["cup", "things"]
def b_u_law_some : List PyI.S := [.ret (.prim .ix [.var 1, .callC 18 [.prim .len [.var 1]]])]
def d_u_law_some : Df := ⟨"_law_some", s_u_law_some, N_u_law_some, ["cup", "things"], [], ⟨2, 2, b_u_law_some, true, false⟩⟩
def N_u_law_turned : List Str := ["cup", "things", "left", "found", "turn"]
def b_u_law_turned : List PyI.S := [.par [2, 3] [.prim .list [.var 1], .prim .lst []], .for .rng1 [.prim .len [.var 2]] (.nm 4) [.appPop 3 2 (.callC 18 [.prim .len [.var 2]])], .ret (.prim .tuple [.var 3])]
def d_u_law_turned : Df := ⟨"_law_turned", s_u_law_turned, N_u_law_turned, ["cup", "things"], [2, 3], ⟨5, 2, b_u_law_turned, true, false⟩⟩
def N_u_law_kit : List Str := ["cup", "wide", "kinds", "found", "turn"]
def b_u_law_kit : List PyI.S := [.own 3 (.prim .dict []), .for .rng1 [.prim .add [.con (.int 1), .callC 18 [.var 2]]] (.nm 4) [.putL 3 (.prim .add [.con (.int 1), .callC 18 [.callC 19 [.prim .lst [.con (.int 3), .con (.int 5), .con (.int 8)]]]]) (.con (.int 1))], .ret (.prim .tup [.prim .add [.con (.int 1), .callC 18 [.var 1]], .prim .tuple [.prim .sorted [.var 3]]])]
def d_u_law_kit : Df := ⟨"_law_kit", s_u_law_kit, N_u_law_kit, ["cup", "wide", "kinds"], [3], ⟨5, 3, b_u_law_kit, true, false⟩⟩
def N_u_law_rows : List Str := ["kit", "found", "line", "longer", "row", "one"]
def b_u_law_rows : List PyI.S := [.par [1, 2] [.prim .lst [], .prim .lst [.prim .tup []]], .while (.prim .ne [.var 2, .prim .lst []]) [.asg (.nm 3) (.prim .lst []), .for .seq [.var 2] (.nm 4) [.asg (.nm 3) (.prim .add [.var 3, .comp .seq [.prim .ix [.var 0, .con (.int 1)]] (.nm 5) [5] (.prim .le [.prim .add [.prim .sum [.var 4], .var 5], .prim .ix [.var 0, .con (.int 0)]]) (.prim .add [.var 4, .prim .tup [.var 5]])])], .asg (.nm 1) (.prim .add [.var 1, .comp .seq [.var 3] (.nm 4) [4] (.prim .eq [.prim .sum [.var 4], .prim .ix [.var 0, .con (.int 0)]]) (.var 4)]), .asg (.nm 2) (.comp .seq [.var 3] (.nm 4) [4] (.prim .lt [.prim .sum [.var 4], .prim .ix [.var 0, .con (.int 0)]]) (.var 4))], .ret (.prim .sorted [.var 1])]
def d_u_law_rows : Df := ⟨"_law_rows", s_u_law_rows, N_u_law_rows, ["kit"], [], ⟨6, 1, b_u_law_rows, false, false⟩⟩
def N_u_law_joints : List Str := ["row", "at"]
def b_u_law_joints : List PyI.S := [.ret (.comp .rng2 [.con (.int 1), .prim .len [.var 0]] (.nm 1) [1] (.con (.bool true)) (.prim .sum [.prim (.sl false true) [.var 0, .var 1]]))]
def d_u_law_joints : Df := ⟨"_law_joints", s_u_law_joints, N_u_law_joints, ["row"], [], ⟨2, 1, b_u_law_joints, false, false⟩⟩
def N_u_law_right : List Str := ["cup", "kit", "rows", "turn", "at", "row", "by", "value", "odds", "odd"]
def b_u_law_right : List PyI.S := [.asg (.nm 1) (.callC 21 [.con (.int 8), .con (.int 4)]), .asg (.nm 2) (.call 22 false [.var 1]), .ifs (.prim .ne [.prim .repr [.prim .tup [.call 11 false [.var 1], .call 14 false [.var 1], .call 17 false [.var 1]]], .prim .repr [.prim .tup [.con (.bool true), .prim .len [.var 2], .prim .tuple [.var 2]]]]) [.ret (.con (.bool false))] [], .for .rng1 [.con (.int 6)] (.nm 3) [.ifs (.prim .ne [.var 2, .prim .lst []]) [.asg (.nm 4) (.callC 18 [.prim .len [.var 2]]), .asg (.nm 5) (.prim .ix [.var 2, .var 4]), .ifs (.prim .ne [.prim .repr [.prim .tup [.call 15 false [.var 1, .var 4], .call 16 false [.var 1, .var 5], .call 13 false [.var 1, .var 5]]], .prim .repr [.prim .tup [.var 5, .var 4, .prim .tuple [.call 23 false [.var 5]]]]]) [.ret (.con (.bool false))] [], .asg (.nm 6) (.callC 18 [.prim .len [.var 5]]), .for .seq [.prim .tup [.var 5, .prim .rev [.var 5], .callC 20 [.var 5], .prim .add [.prim (.sl false true) [.var 5, .var 6], .prim (.sl true false) [.var 5, .prim .add [.var 6, .con (.int 1)]]], .prim .add [.var 5, .prim (.sl true false) [.var 5, .prim .neg [.con (.int 1)]]], .prim .add [.prim .add [.prim (.sl false true) [.var 5, .var 6], .prim .tup [.callC 19 [.prim .ix [.var 1, .con (.int 1)]]]], .prim (.sl true false) [.var 5, .prim .add [.var 6, .con (.int 1)]]]]] (.nm 7) [.ifs (.prim .ne [.prim .repr [.call 12 false [.var 1, .var 7]], .prim .repr [.prim .isin [.var 7, .var 2]]]) [.ret (.con (.bool false))] []]] []], .asg (.nm 8) (.prim .lst [.con (.none), .prim .tup [], .prim .list [.prim .ix [.var 1, .con (.int 1)]], .prim .mul [.prim .tup [.con (.int 0)], .prim .ix [.var 1, .con (.int 0)]], .prim .mul [.prim .tup [.con (.bool true)], .prim .ix [.var 1, .con (.int 0)]], .prim .tup [.con (.str "1")], .prim .tup [.con (.none)], .prim .tup [.prim .add [.prim .ix [.var 1, .con (.int 0)], .con (.int 1)]], .con (.int 5)]), .ret (.prim .eq [.comp .seq [.var 8] (.nm 9) [9] (.prim .notB [.call 12 false [.var 1, .var 9], .con (.bool false)]) (.var 9), .prim .lst []])]
def d_u_law_right : Df := ⟨"_law_right", s_u_law_right, N_u_law_right, ["cup"], [], ⟨10, 1, b_u_law_right, true, false⟩⟩
def N_u_law_great_right : List Str := ["cup", "kit", "many", "ways", "place", "one", "last", "number", "turn", "row"]
def b_u_law_great_right : List PyI.S := [.asg (.nm 1) (.callC 21 [.con (.int 16), .con (.int 4)]), .par [2, 3] [.call 14 false [.var 1], .prim .addL [.prim .lst [.con (.int 1)], .prim .mulL [.prim .lst [.con (.int 0)], .prim .ix [.var 1, .con (.int 0)]]]], .for .rng2 [.con (.int 1), .prim .add [.prim .ix [.var 1, .con (.int 0)], .con (.int 1)]] (.nm 4) [.putL 3 (.var 4) (.prim .sum [.comp .seq [.prim .ix [.var 1, .con (.int 1)]] (.nm 5) [5] (.prim .le [.var 5, .var 4]) (.prim .ix [.var 3, .prim .sub [.var 4, .var 5]])])], .ifs (.prim .ne [.prim .repr [.var 2], .prim .repr [.prim .ix [.var 3, .prim .ix [.var 1, .con (.int 0)]]]]) [.ret (.con (.bool false))] [], .asg (.nm 6) (.con (.none)), .for .seq [.ite (.prim .gt [.var 2, .con (.int 0)]) (.prim .sorted [.prim .dictP [.comp .seq [.prim .addL [.prim .lst [.con (.int 0), .prim .sub [.var 2, .con (.int 1)]], .comp .rng1 [.con (.int 4)] (.nm 8) [8] (.con (.bool true)) (.callC 18 [.var 2])]] (.nm 7) [7] (.con (.bool true)) (.prim .tup [.var 7, .con (.int 1)])]]) (.prim .lst [])] (.nm 7) [.asg (.nm 9) (.call 15 false [.var 1, .var 7]), .ifs (.or (.prim .notB [.call 12 false [.var 1, .var 9], .con (.bool true)]) (.or (.prim .ne [.call 16 false [.var 1, .var 9], .var 7]) (.and (.prim .notN [.var 6, .con (.none)]) (.prim .ge [.var 6, .var 9])))) [.ret (.con (.bool false))] [], .asg (.nm 6) (.var 9)], .ret (.con (.bool true))]
def d_u_law_great_right : Df := ⟨"_law_great_right", s_u_law_great_right, N_u_law_great_right, ["cup"], [3], ⟨10, 1, b_u_law_great_right, true, false⟩⟩
def N_u_law_odds_right : List Str := ["odds", "lengths", "odd"]
def b_u_law_odds_right : List PyI.S := [.asg (.nm 0) (.prim .lst [.con (.none), .prim .tup [], .prim .tup [.con (.int 5)], .prim .tup [.con (.int 5), .prim .tup [.con (.int 1)], .con (.int 0)], .prim .lst [.con (.int 5), .prim .tup [.con (.int 1)]], .prim .tup [.con (.int 0), .prim .tup [.con (.int 1)]], .prim .tup [.con (.int 17), .prim .tup [.con (.int 1)]], .prim .tup [.con (.bool true), .prim .tup [.con (.int 1)]], .prim .tup [.con (.str "5"), .prim .tup [.con (.int 1)]], .prim .tup [.con (.int 5), .prim .tup []], .prim .tup [.con (.int 5), .prim .lst [.con (.int 1)]], .prim .tup [.con (.int 5), .con (.int 1)], .con (.int 5)]), .asg (.nm 0) (.prim .add [.var 0, .comp .seq [.prim .tup [.prim .tup [.con (.int 0)], .prim .tup [.con (.int 9)], .prim .tup [.prim .neg [.con (.int 1)]], .prim .tup [.con (.bool true)], .prim .tup [.con (.none)], .prim .tup [.con (.int 2), .con (.int 1)], .prim .tup [.con (.int 1), .con (.int 1)], .prim .tup [.con (.int 1), .con (.int 2), .con (.int 3), .con (.int 4), .con (.int 5)]]] (.nm 1) [1] (.con (.bool true)) (.prim .tup [.con (.int 5), .var 1])]), .ret (.and (.prim .eq [.comp .seq [.var 0] (.nm 2) [2] (.prim .notB [.call 11 false [.var 2], .con (.bool false)]) (.var 2), .prim .lst []]) (.and (.prim .isB [.call 11 false [.prim .tup [.con (.int 16), .prim .tup [.con (.int 5), .con (.int 6), .con (.int 7), .con (.int 8)]]], .con (.bool true)]) (.prim .isB [.call 11 false [.prim .tup [.con (.int 1), .prim .tup [.con (.int 8)]]], .con (.bool true)])))]
def d_u_law_odds_right : Df := ⟨"_law_odds_right", s_u_law_odds_right, N_u_law_odds_right, [], [], ⟨3, 0, b_u_law_odds_right, false, false⟩⟩
def N_law : List Str := ["script", "cup", "turn", "wide", "one", "two", "kit", "told"]
def c_law : PyI.Ctx := ⟨N_law, defScope s_law, cellsOf' (defScope s_law), [], some 1, [], fun _ => none, gl.fns, gl.cons, gl.blt⟩
def b_law : List PyI.S := [.for .rng1 [.con (.int 4)] (.nm 2) [.ifs (.or (.not (.callC 24 [])) (.not (.callC 25 []))) [.ret (.con (.bool false))] []], .par [3, 4, 5] [.prim .add [.con (.int 1), .callC 18 [.con (.int 16)]], .con (.int 1), .con (.int 2)], .for .rng1 [.prim .sub [.var 3, .con (.int 1)]] (.nm 2) [.par [4, 5] [.var 5, .prim .add [.var 4, .var 5]]], .asg (.nm 6) (.prim .tup [.var 3, .prim .tup [.con (.int 1), .con (.int 2)]]), .asg (.nm 7) (.prim .tup [.call 14 false [.var 6], .call 15 false [.var 6, .con (.int 0)], .call 15 false [.var 6, .prim .sub [.var 4, .con (.int 1)]], .call 16 false [.var 6, .prim .mul [.prim .tup [.con (.int 1)], .var 3]]]), .ret (.and (.prim .eq [.var 7, .prim .tup [.var 4, .prim .mul [.prim .tup [.con (.int 1)], .var 3], .prim .add [.prim .mul [.prim .tup [.con (.int 2)], .prim .fdiv [.var 3, .con (.int 2)]], .prim .mul [.prim .tup [.con (.int 1)], .prim .mod [.prim .int [.var 3], .con (.int 2)]]], .con (.int 0)]]) (.call 26 false []))]
def Φ (i : Nat) : Fn := match i with
  | 0 => d_is_whole.fn
  | 1 => d_is_tuple_of.fn
  | 2 => d_is_rising.fn
  | 3 => d_fits_kit.fn
  | 4 => d_need_kit.fn
  | 5 => d_fits_row.fn
  | 6 => d_need_row.fn
  | 7 => d_joints_in.fn
  | 8 => d_counts_from.fn
  | 9 => d_rows_in.fn
  | 10 => d_few_rows.fn
  | 11 => d_is_kit.fn
  | 12 => d_is_row.fn
  | 13 => d_joints.fn
  | 14 => d_count_rows.fn
  | 15 => d_row_with.fn
  | 16 => d_number_of.fn
  | 17 => d_all_rows.fn
  | 18 => d_u_law_roll.fn
  | 19 => d_u_law_some.fn
  | 20 => d_u_law_turned.fn
  | 21 => d_u_law_kit.fn
  | 22 => d_u_law_rows.fn
  | 23 => d_u_law_joints.fn
  | 24 => d_u_law_right.fn
  | 25 => d_u_law_great_right.fn
  | 26 => d_u_law_odds_right.fn
  | _ => default
theorem f_is_whole : Φ 0 = ⟨3, 3, b_is_whole, false, false⟩ := rfl
theorem f_is_tuple_of : Φ 1 = ⟨3, 3, b_is_tuple_of, false, false⟩ := rfl
theorem f_is_rising : Φ 2 = ⟨3, 1, b_is_rising, false, false⟩ := rfl
theorem f_fits_kit : Φ 3 = ⟨2, 1, b_fits_kit, false, false⟩ := rfl
theorem f_need_kit : Φ 4 = ⟨1, 1, b_need_kit, false, false⟩ := rfl
theorem f_fits_row : Φ 5 = ⟨3, 2, b_fits_row, false, false⟩ := rfl
theorem f_need_row : Φ 6 = ⟨2, 2, b_need_row, false, false⟩ := rfl
theorem f_joints_in : Φ 7 = ⟨4, 1, b_joints_in, false, false⟩ := rfl
theorem f_counts_from : Φ 8 = ⟨5, 2, b_counts_from, false, false⟩ := rfl
theorem f_rows_in : Φ 9 = ⟨9, 2, b_rows_in, false, false⟩ := rfl
theorem f_few_rows : Φ 10 = ⟨1, 1, b_few_rows, false, false⟩ := rfl
theorem f_is_kit : Φ 11 = ⟨1, 1, b_is_kit, false, false⟩ := rfl
theorem f_is_row : Φ 12 = ⟨2, 2, b_is_row, false, false⟩ := rfl
theorem f_joints : Φ 13 = ⟨2, 2, b_joints, false, false⟩ := rfl
theorem f_count_rows : Φ 14 = ⟨1, 1, b_count_rows, false, false⟩ := rfl
theorem f_row_with : Φ 15 = ⟨7, 2, b_row_with, false, false⟩ := rfl
theorem f_number_of : Φ 16 = ⟨7, 2, b_number_of, false, false⟩ := rfl
theorem f_all_rows : Φ 17 = ⟨1, 1, b_all_rows, false, false⟩ := rfl
theorem f_u_law_roll : Φ 18 = ⟨4, 2, b_u_law_roll, false, true⟩ := rfl
theorem f_u_law_some : Φ 19 = ⟨2, 2, b_u_law_some, true, false⟩ := rfl
theorem f_u_law_turned : Φ 20 = ⟨5, 2, b_u_law_turned, true, false⟩ := rfl
theorem f_u_law_kit : Φ 21 = ⟨5, 3, b_u_law_kit, true, false⟩ := rfl
theorem f_u_law_rows : Φ 22 = ⟨6, 1, b_u_law_rows, false, false⟩ := rfl
theorem f_u_law_joints : Φ 23 = ⟨2, 1, b_u_law_joints, false, false⟩ := rfl
theorem f_u_law_right : Φ 24 = ⟨10, 1, b_u_law_right, true, false⟩ := rfl
theorem f_u_law_great_right : Φ 25 = ⟨10, 1, b_u_law_great_right, true, false⟩ := rfl
theorem f_u_law_odds_right : Φ 26 = ⟨3, 0, b_u_law_odds_right, false, false⟩ := rfl
theorem tr_is_whole : ∀ pn, trSs (trS trFuel (ctxOf gl d_is_whole pn)) (defBody d_is_whole.st) = some d_is_whole.fn.body := fun pn => by kernel_rfl
theorem ok_is_whole : DfOk gl d_is_whole := ⟨tr_is_whole, rfl, rfl, by decide, fun h => by first | exact absurd h (by decide) | decide, fun h => by first | exact absurd h (by decide) | exact ⟨rfl, rfl, by decide⟩, fun h => by first | exact absurd h (by decide) | exact ⟨rfl, by decide⟩⟩
theorem sc_is_whole : FnScope d_is_whole.N d_is_whole.ps (defScope d_is_whole.st) := ⟨rfl, rfl, rfl, by decide +kernel, rfl, by decide +kernel, by decide +kernel⟩
theorem bd_is_whole : BindOk "is_whole" s_is_whole ["value", "low", "high"] := fun _ _ _ _ _ _ us hl => match us, hl with | [_, _, _], _ => rfl
theorem tr_is_tuple_of : ∀ pn, trSs (trS trFuel (ctxOf gl d_is_tuple_of pn)) (defBody d_is_tuple_of.st) = some d_is_tuple_of.fn.body := fun pn => by kernel_rfl
theorem ok_is_tuple_of : DfOk gl d_is_tuple_of := ⟨tr_is_tuple_of, rfl, rfl, by decide, fun h => by first | exact absurd h (by decide) | decide, fun h => by first | exact absurd h (by decide) | exact ⟨rfl, rfl, by decide⟩, fun h => by first | exact absurd h (by decide) | exact ⟨rfl, by decide⟩⟩
theorem sc_is_tuple_of : FnScope d_is_tuple_of.N d_is_tuple_of.ps (defScope d_is_tuple_of.st) := ⟨rfl, rfl, rfl, by decide +kernel, rfl, by decide +kernel, by decide +kernel⟩
theorem bd_is_tuple_of : BindOk "is_tuple_of" s_is_tuple_of ["value", "low", "high"] := fun _ _ _ _ _ _ us hl => match us, hl with | [_, _, _], _ => rfl
theorem tr_is_rising : ∀ pn, trSs (trS trFuel (ctxOf gl d_is_rising pn)) (defBody d_is_rising.st) = some d_is_rising.fn.body := fun pn => by kernel_rfl
theorem ok_is_rising : DfOk gl d_is_rising := ⟨tr_is_rising, rfl, rfl, by decide, fun h => by first | exact absurd h (by decide) | decide, fun h => by first | exact absurd h (by decide) | exact ⟨rfl, rfl, by decide⟩, fun h => by first | exact absurd h (by decide) | exact ⟨rfl, by decide⟩⟩
theorem sc_is_rising : FnScope d_is_rising.N d_is_rising.ps (defScope d_is_rising.st) := ⟨rfl, rfl, rfl, by decide +kernel, rfl, by decide +kernel, by decide +kernel⟩
theorem bd_is_rising : BindOk "is_rising" s_is_rising ["value"] := fun _ _ _ _ _ _ us hl => match us, hl with | [_], _ => rfl
theorem tr_fits_kit : ∀ pn, trSs (trS trFuel (ctxOf gl d_fits_kit pn)) (defBody d_fits_kit.st) = some d_fits_kit.fn.body := fun pn => by kernel_rfl
theorem ok_fits_kit : DfOk gl d_fits_kit := ⟨tr_fits_kit, rfl, rfl, by decide, fun h => by first | exact absurd h (by decide) | decide, fun h => by first | exact absurd h (by decide) | exact ⟨rfl, rfl, by decide⟩, fun h => by first | exact absurd h (by decide) | exact ⟨rfl, by decide⟩⟩
theorem sc_fits_kit : FnScope d_fits_kit.N d_fits_kit.ps (defScope d_fits_kit.st) := ⟨rfl, rfl, rfl, by decide +kernel, rfl, by decide +kernel, by decide +kernel⟩
theorem bd_fits_kit : BindOk "fits_kit" s_fits_kit ["value"] := fun _ _ _ _ _ _ us hl => match us, hl with | [_], _ => rfl
theorem tr_need_kit : ∀ pn, trSs (trS trFuel (ctxOf gl d_need_kit pn)) (defBody d_need_kit.st) = some d_need_kit.fn.body := fun pn => by kernel_rfl
theorem ok_need_kit : DfOk gl d_need_kit := ⟨tr_need_kit, rfl, rfl, by decide, fun h => by first | exact absurd h (by decide) | decide, fun h => by first | exact absurd h (by decide) | exact ⟨rfl, rfl, by decide⟩, fun h => by first | exact absurd h (by decide) | exact ⟨rfl, by decide⟩⟩
theorem sc_need_kit : FnScope d_need_kit.N d_need_kit.ps (defScope d_need_kit.st) := ⟨rfl, rfl, rfl, by decide +kernel, rfl, by decide +kernel, by decide +kernel⟩
theorem bd_need_kit : BindOk "need_kit" s_need_kit ["kit"] := fun _ _ _ _ _ _ us hl => match us, hl with | [_], _ => rfl
theorem tr_fits_row : ∀ pn, trSs (trS trFuel (ctxOf gl d_fits_row pn)) (defBody d_fits_row.st) = some d_fits_row.fn.body := fun pn => by kernel_rfl
theorem ok_fits_row : DfOk gl d_fits_row := ⟨tr_fits_row, rfl, rfl, by decide, fun h => by first | exact absurd h (by decide) | decide, fun h => by first | exact absurd h (by decide) | exact ⟨rfl, rfl, by decide⟩, fun h => by first | exact absurd h (by decide) | exact ⟨rfl, by decide⟩⟩
theorem sc_fits_row : FnScope d_fits_row.N d_fits_row.ps (defScope d_fits_row.st) := ⟨rfl, rfl, rfl, by decide +kernel, rfl, by decide +kernel, by decide +kernel⟩
theorem bd_fits_row : BindOk "fits_row" s_fits_row ["kit", "value"] := fun _ _ _ _ _ _ us hl => match us, hl with | [_, _], _ => rfl
theorem tr_need_row : ∀ pn, trSs (trS trFuel (ctxOf gl d_need_row pn)) (defBody d_need_row.st) = some d_need_row.fn.body := fun pn => by kernel_rfl
theorem ok_need_row : DfOk gl d_need_row := ⟨tr_need_row, rfl, rfl, by decide, fun h => by first | exact absurd h (by decide) | decide, fun h => by first | exact absurd h (by decide) | exact ⟨rfl, rfl, by decide⟩, fun h => by first | exact absurd h (by decide) | exact ⟨rfl, by decide⟩⟩
theorem sc_need_row : FnScope d_need_row.N d_need_row.ps (defScope d_need_row.st) := ⟨rfl, rfl, rfl, by decide +kernel, rfl, by decide +kernel, by decide +kernel⟩
theorem bd_need_row : BindOk "need_row" s_need_row ["kit", "row"] := fun _ _ _ _ _ _ us hl => match us, hl with | [_, _], _ => rfl
theorem tr_joints_in : ∀ pn, trSs (trS trFuel (ctxOf gl d_joints_in pn)) (defBody d_joints_in.st) = some d_joints_in.fn.body := fun pn => by kernel_rfl
theorem ok_joints_in : DfOk gl d_joints_in := ⟨tr_joints_in, rfl, rfl, by decide, fun h => by first | exact absurd h (by decide) | decide, fun h => by first | exact absurd h (by decide) | exact ⟨rfl, rfl, by decide⟩, fun h => by first | exact absurd h (by decide) | exact ⟨rfl, by decide⟩⟩
theorem sc_joints_in : FnScope d_joints_in.N d_joints_in.ps (defScope d_joints_in.st) := ⟨rfl, rfl, rfl, by decide +kernel, rfl, by decide +kernel, by decide +kernel⟩
theorem bd_joints_in : BindOk "joints_in" s_joints_in ["row"] := fun _ _ _ _ _ _ us hl => match us, hl with | [_], _ => rfl
theorem tr_counts_from : ∀ pn, trSs (trS trFuel (ctxOf gl d_counts_from pn)) (defBody d_counts_from.st) = some d_counts_from.fn.body := fun pn => by kernel_rfl
theorem ok_counts_from : DfOk gl d_counts_from := ⟨tr_counts_from, rfl, rfl, by decide, fun h => by first | exact absurd h (by decide) | decide, fun h => by first | exact absurd h (by decide) | exact ⟨rfl, rfl, by decide⟩, fun h => by first | exact absurd h (by decide) | exact ⟨rfl, by decide⟩⟩
theorem sc_counts_from : FnScope d_counts_from.N d_counts_from.ps (defScope d_counts_from.st) := ⟨rfl, rfl, rfl, by decide +kernel, rfl, by decide +kernel, by decide +kernel⟩
theorem bd_counts_from : BindOk "counts_from" s_counts_from ["kit", "shut"] := fun _ _ _ _ _ _ us hl => match us, hl with | [_, _], _ => rfl
theorem tr_rows_in : ∀ pn, trSs (trS trFuel (ctxOf gl d_rows_in pn)) (defBody d_rows_in.st) = some d_rows_in.fn.body := fun pn => by kernel_rfl
theorem ok_rows_in : DfOk gl d_rows_in := ⟨tr_rows_in, rfl, rfl, by decide, fun h => by first | exact absurd h (by decide) | decide, fun h => by first | exact absurd h (by decide) | exact ⟨rfl, rfl, by decide⟩, fun h => by first | exact absurd h (by decide) | exact ⟨rfl, by decide⟩⟩
theorem sc_rows_in : FnScope d_rows_in.N d_rows_in.ps (defScope d_rows_in.st) := ⟨rfl, rfl, rfl, by decide +kernel, rfl, by decide +kernel, by decide +kernel⟩
theorem bd_rows_in : BindOk "rows_in" s_rows_in ["kit", "shut"] := fun _ _ _ _ _ _ us hl => match us, hl with | [_, _], _ => rfl
theorem tr_few_rows : ∀ pn, trSs (trS trFuel (ctxOf gl d_few_rows pn)) (defBody d_few_rows.st) = some d_few_rows.fn.body := fun pn => by kernel_rfl
theorem ok_few_rows : DfOk gl d_few_rows := ⟨tr_few_rows, rfl, rfl, by decide, fun h => by first | exact absurd h (by decide) | decide, fun h => by first | exact absurd h (by decide) | exact ⟨rfl, rfl, by decide⟩, fun h => by first | exact absurd h (by decide) | exact ⟨rfl, by decide⟩⟩
theorem sc_few_rows : FnScope d_few_rows.N d_few_rows.ps (defScope d_few_rows.st) := ⟨rfl, rfl, rfl, by decide +kernel, rfl, by decide +kernel, by decide +kernel⟩
theorem bd_few_rows : BindOk "few_rows" s_few_rows ["kit"] := fun _ _ _ _ _ _ us hl => match us, hl with | [_], _ => rfl
theorem tr_is_kit : ∀ pn, trSs (trS trFuel (ctxOf gl d_is_kit pn)) (defBody d_is_kit.st) = some d_is_kit.fn.body := fun pn => by kernel_rfl
theorem ok_is_kit : DfOk gl d_is_kit := ⟨tr_is_kit, rfl, rfl, by decide, fun h => by first | exact absurd h (by decide) | decide, fun h => by first | exact absurd h (by decide) | exact ⟨rfl, rfl, by decide⟩, fun h => by first | exact absurd h (by decide) | exact ⟨rfl, by decide⟩⟩
theorem sc_is_kit : FnScope d_is_kit.N d_is_kit.ps (defScope d_is_kit.st) := ⟨rfl, rfl, rfl, by decide +kernel, rfl, by decide +kernel, by decide +kernel⟩
theorem bd_is_kit : BindOk "is_kit" s_is_kit ["value"] := fun _ _ _ _ _ _ us hl => match us, hl with | [_], _ => rfl
theorem tr_is_row : ∀ pn, trSs (trS trFuel (ctxOf gl d_is_row pn)) (defBody d_is_row.st) = some d_is_row.fn.body := fun pn => by kernel_rfl
theorem ok_is_row : DfOk gl d_is_row := ⟨tr_is_row, rfl, rfl, by decide, fun h => by first | exact absurd h (by decide) | decide, fun h => by first | exact absurd h (by decide) | exact ⟨rfl, rfl, by decide⟩, fun h => by first | exact absurd h (by decide) | exact ⟨rfl, by decide⟩⟩
theorem sc_is_row : FnScope d_is_row.N d_is_row.ps (defScope d_is_row.st) := ⟨rfl, rfl, rfl, by decide +kernel, rfl, by decide +kernel, by decide +kernel⟩
theorem bd_is_row : BindOk "is_row" s_is_row ["kit", "value"] := fun _ _ _ _ _ _ us hl => match us, hl with | [_, _], _ => rfl
theorem tr_joints : ∀ pn, trSs (trS trFuel (ctxOf gl d_joints pn)) (defBody d_joints.st) = some d_joints.fn.body := fun pn => by kernel_rfl
theorem ok_joints : DfOk gl d_joints := ⟨tr_joints, rfl, rfl, by decide, fun h => by first | exact absurd h (by decide) | decide, fun h => by first | exact absurd h (by decide) | exact ⟨rfl, rfl, by decide⟩, fun h => by first | exact absurd h (by decide) | exact ⟨rfl, by decide⟩⟩
theorem sc_joints : FnScope d_joints.N d_joints.ps (defScope d_joints.st) := ⟨rfl, rfl, rfl, by decide +kernel, rfl, by decide +kernel, by decide +kernel⟩
theorem bd_joints : BindOk "joints" s_joints ["kit", "row"] := fun _ _ _ _ _ _ us hl => match us, hl with | [_, _], _ => rfl
theorem tr_count_rows : ∀ pn, trSs (trS trFuel (ctxOf gl d_count_rows pn)) (defBody d_count_rows.st) = some d_count_rows.fn.body := fun pn => by kernel_rfl
theorem ok_count_rows : DfOk gl d_count_rows := ⟨tr_count_rows, rfl, rfl, by decide, fun h => by first | exact absurd h (by decide) | decide, fun h => by first | exact absurd h (by decide) | exact ⟨rfl, rfl, by decide⟩, fun h => by first | exact absurd h (by decide) | exact ⟨rfl, by decide⟩⟩
theorem sc_count_rows : FnScope d_count_rows.N d_count_rows.ps (defScope d_count_rows.st) := ⟨rfl, rfl, rfl, by decide +kernel, rfl, by decide +kernel, by decide +kernel⟩
theorem bd_count_rows : BindOk "count_rows" s_count_rows ["kit"] := fun _ _ _ _ _ _ us hl => match us, hl with | [_], _ => rfl
theorem tr_row_with : ∀ pn, trSs (trS trFuel (ctxOf gl d_row_with pn)) (defBody d_row_with.st) = some d_row_with.fn.body := fun pn => by kernel_rfl
theorem ok_row_with : DfOk gl d_row_with := ⟨tr_row_with, rfl, rfl, by decide, fun h => by first | exact absurd h (by decide) | decide, fun h => by first | exact absurd h (by decide) | exact ⟨rfl, rfl, by decide⟩, fun h => by first | exact absurd h (by decide) | exact ⟨rfl, by decide⟩⟩
theorem sc_row_with : FnScope d_row_with.N d_row_with.ps (defScope d_row_with.st) := ⟨rfl, rfl, rfl, by decide +kernel, rfl, by decide +kernel, by decide +kernel⟩
theorem bd_row_with : BindOk "row_with" s_row_with ["kit", "number"] := fun _ _ _ _ _ _ us hl => match us, hl with | [_, _], _ => rfl
theorem tr_number_of : ∀ pn, trSs (trS trFuel (ctxOf gl d_number_of pn)) (defBody d_number_of.st) = some d_number_of.fn.body := fun pn => by kernel_rfl
theorem ok_number_of : DfOk gl d_number_of := ⟨tr_number_of, rfl, rfl, by decide, fun h => by first | exact absurd h (by decide) | decide, fun h => by first | exact absurd h (by decide) | exact ⟨rfl, rfl, by decide⟩, fun h => by first | exact absurd h (by decide) | exact ⟨rfl, by decide⟩⟩
theorem sc_number_of : FnScope d_number_of.N d_number_of.ps (defScope d_number_of.st) := ⟨rfl, rfl, rfl, by decide +kernel, rfl, by decide +kernel, by decide +kernel⟩
theorem bd_number_of : BindOk "number_of" s_number_of ["kit", "row"] := fun _ _ _ _ _ _ us hl => match us, hl with | [_, _], _ => rfl
theorem tr_all_rows : ∀ pn, trSs (trS trFuel (ctxOf gl d_all_rows pn)) (defBody d_all_rows.st) = some d_all_rows.fn.body := fun pn => by kernel_rfl
theorem ok_all_rows : DfOk gl d_all_rows := ⟨tr_all_rows, rfl, rfl, by decide, fun h => by first | exact absurd h (by decide) | decide, fun h => by first | exact absurd h (by decide) | exact ⟨rfl, rfl, by decide⟩, fun h => by first | exact absurd h (by decide) | exact ⟨rfl, by decide⟩⟩
theorem sc_all_rows : FnScope d_all_rows.N d_all_rows.ps (defScope d_all_rows.st) := ⟨rfl, rfl, rfl, by decide +kernel, rfl, by decide +kernel, by decide +kernel⟩
theorem bd_all_rows : BindOk "all_rows" s_all_rows ["kit"] := fun _ _ _ _ _ _ us hl => match us, hl with | [_], _ => rfl
theorem tr_u_law_roll : ∀ pn, trSs (trS trFuel (ctxOf gl d_u_law_roll pn)) (defBody d_u_law_roll.st) = some d_u_law_roll.fn.body := fun pn => by kernel_rfl
theorem ok_u_law_roll : DfOk gl d_u_law_roll := ⟨tr_u_law_roll, rfl, rfl, by decide, fun h => by first | exact absurd h (by decide) | decide, fun h => by first | exact absurd h (by decide) | exact ⟨rfl, rfl, by decide⟩, fun h => by first | exact absurd h (by decide) | exact ⟨rfl, by decide⟩⟩
theorem sc_u_law_roll : FnScope d_u_law_roll.N d_u_law_roll.ps (defScope d_u_law_roll.st) := ⟨rfl, rfl, rfl, by decide +kernel, rfl, by decide +kernel, by decide +kernel⟩
theorem bd_u_law_roll : BindOk "_law_roll" s_u_law_roll ["cup", "many"] := fun _ _ _ _ _ _ us hl => match us, hl with | [_, _], _ => rfl
theorem tr_u_law_some : ∀ pn, trSs (trS trFuel (ctxOf gl d_u_law_some pn)) (defBody d_u_law_some.st) = some d_u_law_some.fn.body := fun pn => by kernel_rfl
theorem ok_u_law_some : DfOk gl d_u_law_some := ⟨tr_u_law_some, rfl, rfl, by decide, fun h => by first | exact absurd h (by decide) | decide, fun h => by first | exact absurd h (by decide) | exact ⟨rfl, rfl, by decide⟩, fun h => by first | exact absurd h (by decide) | exact ⟨rfl, by decide⟩⟩
theorem sc_u_law_some : FnScope d_u_law_some.N d_u_law_some.ps (defScope d_u_law_some.st) := ⟨rfl, rfl, rfl, by decide +kernel, rfl, by decide +kernel, by decide +kernel⟩
theorem bd_u_law_some : BindOk "_law_some" s_u_law_some ["cup", "things"] := fun _ _ _ _ _ _ us hl => match us, hl with | [_, _], _ => rfl
theorem tr_u_law_turned : ∀ pn, trSs (trS trFuel (ctxOf gl d_u_law_turned pn)) (defBody d_u_law_turned.st) = some d_u_law_turned.fn.body := fun pn => by kernel_rfl
theorem ok_u_law_turned : DfOk gl d_u_law_turned := ⟨tr_u_law_turned, rfl, rfl, by decide, fun h => by first | exact absurd h (by decide) | decide, fun h => by first | exact absurd h (by decide) | exact ⟨rfl, rfl, by decide⟩, fun h => by first | exact absurd h (by decide) | exact ⟨rfl, by decide⟩⟩
theorem sc_u_law_turned : FnScope d_u_law_turned.N d_u_law_turned.ps (defScope d_u_law_turned.st) := ⟨rfl, rfl, rfl, by decide +kernel, rfl, by decide +kernel, by decide +kernel⟩
theorem bd_u_law_turned : BindOk "_law_turned" s_u_law_turned ["cup", "things"] := fun _ _ _ _ _ _ us hl => match us, hl with | [_, _], _ => rfl
theorem tr_u_law_kit : ∀ pn, trSs (trS trFuel (ctxOf gl d_u_law_kit pn)) (defBody d_u_law_kit.st) = some d_u_law_kit.fn.body := fun pn => by kernel_rfl
theorem ok_u_law_kit : DfOk gl d_u_law_kit := ⟨tr_u_law_kit, rfl, rfl, by decide, fun h => by first | exact absurd h (by decide) | decide, fun h => by first | exact absurd h (by decide) | exact ⟨rfl, rfl, by decide⟩, fun h => by first | exact absurd h (by decide) | exact ⟨rfl, by decide⟩⟩
theorem sc_u_law_kit : FnScope d_u_law_kit.N d_u_law_kit.ps (defScope d_u_law_kit.st) := ⟨rfl, rfl, rfl, by decide +kernel, rfl, by decide +kernel, by decide +kernel⟩
theorem bd_u_law_kit : BindOk "_law_kit" s_u_law_kit ["cup", "wide", "kinds"] := fun _ _ _ _ _ _ us hl => match us, hl with | [_, _, _], _ => rfl
theorem tr_u_law_rows : ∀ pn, trSs (trS trFuel (ctxOf gl d_u_law_rows pn)) (defBody d_u_law_rows.st) = some d_u_law_rows.fn.body := fun pn => by kernel_rfl
theorem ok_u_law_rows : DfOk gl d_u_law_rows := ⟨tr_u_law_rows, rfl, rfl, by decide, fun h => by first | exact absurd h (by decide) | decide, fun h => by first | exact absurd h (by decide) | exact ⟨rfl, rfl, by decide⟩, fun h => by first | exact absurd h (by decide) | exact ⟨rfl, by decide⟩⟩
theorem sc_u_law_rows : FnScope d_u_law_rows.N d_u_law_rows.ps (defScope d_u_law_rows.st) := ⟨rfl, rfl, rfl, by decide +kernel, rfl, by decide +kernel, by decide +kernel⟩
theorem bd_u_law_rows : BindOk "_law_rows" s_u_law_rows ["kit"] := fun _ _ _ _ _ _ us hl => match us, hl with | [_], _ => rfl
theorem tr_u_law_joints : ∀ pn, trSs (trS trFuel (ctxOf gl d_u_law_joints pn)) (defBody d_u_law_joints.st) = some d_u_law_joints.fn.body := fun pn => by kernel_rfl
theorem ok_u_law_joints : DfOk gl d_u_law_joints := ⟨tr_u_law_joints, rfl, rfl, by decide, fun h => by first | exact absurd h (by decide) | decide, fun h => by first | exact absurd h (by decide) | exact ⟨rfl, rfl, by decide⟩, fun h => by first | exact absurd h (by decide) | exact ⟨rfl, by decide⟩⟩
theorem sc_u_law_joints : FnScope d_u_law_joints.N d_u_law_joints.ps (defScope d_u_law_joints.st) := ⟨rfl, rfl, rfl, by decide +kernel, rfl, by decide +kernel, by decide +kernel⟩
theorem bd_u_law_joints : BindOk "_law_joints" s_u_law_joints ["row"] := fun _ _ _ _ _ _ us hl => match us, hl with | [_], _ => rfl
theorem tr_u_law_right : ∀ pn, trSs (trS trFuel (ctxOf gl d_u_law_right pn)) (defBody d_u_law_right.st) = some d_u_law_right.fn.body := fun pn => by kernel_rfl
theorem ok_u_law_right : DfOk gl d_u_law_right := ⟨tr_u_law_right, rfl, rfl, by decide, fun h => by first | exact absurd h (by decide) | decide, fun h => by first | exact absurd h (by decide) | exact ⟨rfl, rfl, by decide⟩, fun h => by first | exact absurd h (by decide) | exact ⟨rfl, by decide⟩⟩
theorem sc_u_law_right : FnScope d_u_law_right.N d_u_law_right.ps (defScope d_u_law_right.st) := ⟨rfl, rfl, rfl, by decide +kernel, rfl, by decide +kernel, by decide +kernel⟩
theorem bd_u_law_right : BindOk "_law_right" s_u_law_right ["cup"] := fun _ _ _ _ _ _ us hl => match us, hl with | [_], _ => rfl
theorem tr_u_law_great_right : ∀ pn, trSs (trS trFuel (ctxOf gl d_u_law_great_right pn)) (defBody d_u_law_great_right.st) = some d_u_law_great_right.fn.body := fun pn => by kernel_rfl
theorem ok_u_law_great_right : DfOk gl d_u_law_great_right := ⟨tr_u_law_great_right, rfl, rfl, by decide, fun h => by first | exact absurd h (by decide) | decide, fun h => by first | exact absurd h (by decide) | exact ⟨rfl, rfl, by decide⟩, fun h => by first | exact absurd h (by decide) | exact ⟨rfl, by decide⟩⟩
theorem sc_u_law_great_right : FnScope d_u_law_great_right.N d_u_law_great_right.ps (defScope d_u_law_great_right.st) := ⟨rfl, rfl, rfl, by decide +kernel, rfl, by decide +kernel, by decide +kernel⟩
theorem bd_u_law_great_right : BindOk "_law_great_right" s_u_law_great_right ["cup"] := fun _ _ _ _ _ _ us hl => match us, hl with | [_], _ => rfl
theorem tr_u_law_odds_right : ∀ pn, trSs (trS trFuel (ctxOf gl d_u_law_odds_right pn)) (defBody d_u_law_odds_right.st) = some d_u_law_odds_right.fn.body := fun pn => by kernel_rfl
theorem ok_u_law_odds_right : DfOk gl d_u_law_odds_right := ⟨tr_u_law_odds_right, rfl, rfl, by decide, fun h => by first | exact absurd h (by decide) | decide, fun h => by first | exact absurd h (by decide) | exact ⟨rfl, rfl, by decide⟩, fun h => by first | exact absurd h (by decide) | exact ⟨rfl, by decide⟩⟩
theorem sc_u_law_odds_right : FnScope d_u_law_odds_right.N d_u_law_odds_right.ps (defScope d_u_law_odds_right.st) := ⟨rfl, rfl, rfl, by decide +kernel, rfl, by decide +kernel, by decide +kernel⟩
theorem bd_u_law_odds_right : BindOk "_law_odds_right" s_u_law_odds_right [] := fun _ _ _ _ _ _ us hl => match us, hl with | [], _ => rfl
theorem sc_u_law_cup : FnScope c_u_law_cup.N ["script"] (defScope s_u_law_cup) := ⟨rfl, rfl, rfl, by decide +kernel, rfl, by decide +kernel, by decide +kernel⟩
theorem sc_law : FnScope c_law.N ["script"] (defScope s_law) := ⟨rfl, rfl, rfl, by decide +kernel, rfl, by decide +kernel, by decide +kernel⟩
theorem bd_u_law_cup : BindOk "_law_cup" s_u_law_cup ["script"] := fun _ _ _ _ _ _ us hl => match us, hl with | [_], _ => rfl
theorem bd_law : BindOk "law" s_law ["script"] := fun _ _ _ _ _ _ us hl => match us, hl with | [_], _ => rfl
def r_cup : Stmt := ((defBody s_u_law_cup).drop 1).headD (.Pass ⟨0, 0, 0, 0⟩)
def cup1 : PyI.S := b_u_law_cup.headD .pass
theorem tr_u_law_cup : trS trFuel c_u_law_cup r_cup = some cup1 := by kernel_rfl
theorem tr_law : trSs (trS trFuel c_law) ((defBody s_law).drop 1) = some b_law := by kernel_rfl
end K76
set_option Elab.async false
set_option linter.all false
set_option maxRecDepth 100000
namespace K76
open PySem L2 PySem.Spec PyI
def S_fits_kit_0 : PyI.S := .ifs (.or (.not (.call 1 false [.var 0, .con (.int 2), .con (.int 2)])) (.or (.not (.call 0 false [.prim .ix [.var 0, .con (.int 0)], .con (.int 1), .con (.int 16)])) (.not (.call 1 false [.prim .ix [.var 0, .con (.int 1)], .con (.int 1), .con (.int 4)])))) [.ret (.con (.bool false))] []
def S_fits_kit_1 : PyI.S := .ret (.and (.prim .all [.comp .seq [.prim .ix [.var 0, .con (.int 1)]] (.nm 1) [1] (.con (.bool true)) (.call 0 false [.var 1, .con (.int 1), .con (.int 8)])]) (.call 2 false [.prim .ix [.var 0, .con (.int 1)]]))
theorem S_fits_kit : b_fits_kit = [S_fits_kit_0, S_fits_kit_1] := rfl
def S_fits_row_0 : PyI.S := .ifs (.or (.not (.call 1 false [.var 1, .con (.int 1), .con (.int 16)])) (.not (.prim .all [.comp .seq [.var 1] (.nm 2) [2] (.con (.bool true)) (.call 0 false [.var 2, .con (.int 1), .con (.int 8)])]))) [.ret (.con (.bool false))] []
def S_fits_row_1 : PyI.S := .ret (.and (.prim .all [.comp .seq [.var 1] (.nm 2) [2] (.con (.bool true)) (.prim .isin [.var 2, .prim .ix [.var 0, .con (.int 1)]])]) (.prim .eq [.prim .sum [.var 1], .prim .ix [.var 0, .con (.int 0)]]))
theorem S_fits_row : b_fits_row = [S_fits_row_0, S_fits_row_1] := rfl
def S_need_row_0 : PyI.S := .expr (.call 4 false [.var 0])
def S_need_row_1 : PyI.S := .ifs (.not (.call 5 false [.var 0, .var 1])) [.never] []
theorem S_need_row : b_need_row = [S_need_row_0, S_need_row_1] := rfl
def S_joints_in_0 : PyI.S := .par [1, 2] [.prim .lst [], .con (.int 0)]
def S_joints_in_1_0 : PyI.S := .asg (.nm 2) (.prim .add [.var 2, .var 3])
def S_joints_in_1_1 : PyI.S := .app 1 (.var 2)
def S_joints_in_1_b : List PyI.S := [S_joints_in_1_0, S_joints_in_1_1]
def S_joints_in_1 : PyI.S := .for .seq [.prim (.sl false true) [.var 0, .prim .neg [.con (.int 1)]]] (.nm 3) S_joints_in_1_b
def S_joints_in_2 : PyI.S := .ret (.var 1)
theorem S_joints_in : b_joints_in = [S_joints_in_0, S_joints_in_1, S_joints_in_2] := rfl
def S_counts_from_0 : PyI.S := .own 2 (.prim .addL [.prim .mulL [.prim .lst [.con (.int 0)], .prim .ix [.var 0, .con (.int 0)]], .prim .lst [.con (.int 1)]])
def S_counts_from_1 : PyI.S := .for .rng3 [.prim .sub [.prim .ix [.var 0, .con (.int 0)], .con (.int 1)], .prim .neg [.con (.int 1)], .prim .neg [.con (.int 1)]] (.nm 3) [.ifs (.prim .notin [.var 3, .var 1]) [.putL 2 (.var 3) (.prim .sum [.comp .seq [.prim .ix [.var 0, .con (.int 1)]] (.nm 4) [4] (.prim .le [.prim .add [.var 3, .var 4], .prim .ix [.var 0, .con (.int 0)]]) (.prim .ix [.var 2, .prim .add [.var 3, .var 4]])])] []]
def S_counts_from_2 : PyI.S := .ret (.var 2)
theorem S_counts_from : b_counts_from = [S_counts_from_0, S_counts_from_1, S_counts_from_2] := rfl
def S_rows_in_0 : PyI.S := .par [2, 3, 4] [.call 8 false [.var 0, .var 1], .prim .lst [.prim .tup []], .prim .lst []]
def S_rows_in_1_0 : PyI.S := .popE (.nm 5) 3
def S_rows_in_1_1 : PyI.S := .asg (.nm 6) (.prim .sum [.var 5])
def S_rows_in_1_2e_0 : PyI.S := .asg (.nm 7) (.comp .seq [.prim .ix [.var 0, .con (.int 1)]] (.nm 8) [8] (.and (.prim .le [.prim .add [.var 6, .var 8], .prim .ix [.var 0, .con (.int 0)]]) (.prim .gt [.prim .ix [.var 2, .prim .add [.var 6, .var 8]], .con (.int 0)])) (.var 8))
def S_rows_in_1_2e_1 : PyI.S := .ext 3 (.comp .seq [.prim .rev [.var 7]] (.nm 8) [8] (.con (.bool true)) (.prim .add [.var 5, .prim .tup [.var 8]]))
def S_rows_in_1_2e_b : List PyI.S := [S_rows_in_1_2e_0, S_rows_in_1_2e_1]
def S_rows_in_1_2 : PyI.S := .ifs (.prim .eq [.var 6, .prim .ix [.var 0, .con (.int 0)]]) [.app 4 (.var 5)] S_rows_in_1_2e_b
def S_rows_in_1_b : List PyI.S := [S_rows_in_1_0, S_rows_in_1_1, S_rows_in_1_2]
def S_rows_in_1 : PyI.S := .while (.prim .ne [.var 3, .prim .lst []]) S_rows_in_1_b
def S_rows_in_2 : PyI.S := .ret (.var 4)
theorem S_rows_in : b_rows_in = [S_rows_in_0, S_rows_in_1, S_rows_in_2] := rfl
def S_few_rows_0 : PyI.S := .expr (.call 4 false [.var 0])
def S_few_rows_1 : PyI.S := .ifs (.prim .gt [.prim .ix [.call 8 false [.var 0, .prim .lst []], .con (.int 0)], .con (.int 300)]) [.never] []
def S_few_rows_2 : PyI.S := .ret (.call 9 false [.var 0, .prim .lst []])
theorem S_few_rows : b_few_rows = [S_few_rows_0, S_few_rows_1, S_few_rows_2] := rfl
def S_is_row_0 : PyI.S := .expr (.call 4 false [.var 0])
def S_is_row_1 : PyI.S := .ret (.call 5 false [.var 0, .var 1])
theorem S_is_row : b_is_row = [S_is_row_0, S_is_row_1] := rfl
def S_joints_0 : PyI.S := .expr (.call 6 false [.var 0, .var 1])
def S_joints_1 : PyI.S := .ret (.prim .tuple [.call 7 false [.var 1]])
theorem S_joints : b_joints = [S_joints_0, S_joints_1] := rfl
def S_count_rows_0 : PyI.S := .expr (.call 4 false [.var 0])
def S_count_rows_1 : PyI.S := .ret (.prim .ix [.call 8 false [.var 0, .prim .lst []], .con (.int 0)])
theorem S_count_rows : b_count_rows = [S_count_rows_0, S_count_rows_1] := rfl
def S_row_with_0 : PyI.S := .expr (.call 4 false [.var 0])
def S_row_with_1 : PyI.S := .par [2, 3] [.call 8 false [.var 0, .prim .lst []], .prim .tup []]
def S_row_with_2 : PyI.S := .ifs (.not (.call 0 false [.var 1, .con (.int 0), .prim .sub [.prim .ix [.var 2, .con (.int 0)], .con (.int 1)]])) [.never] []
def S_row_with_3_0 : PyI.S := .asg (.nm 4) (.prim .sum [.var 3])
def S_row_with_3_1_0 : PyI.S := .asg (.nm 6) (.ite (.prim .le [.prim .add [.var 4, .var 5], .prim .ix [.var 0, .con (.int 0)]]) (.prim .ix [.var 2, .prim .add [.var 4, .var 5]]) (.con (.int 0)))
def S_row_with_3_1_1t_0 : PyI.S := .asg (.nm 3) (.prim .add [.var 3, .prim .tup [.var 5]])
def S_row_with_3_1_1t_1 : PyI.S := .brk
def S_row_with_3_1_1t_b : List PyI.S := [S_row_with_3_1_1t_0, S_row_with_3_1_1t_1]
def S_row_with_3_1_1 : PyI.S := .ifs (.prim .lt [.var 1, .var 6]) S_row_with_3_1_1t_b []
def S_row_with_3_1_2 : PyI.S := .asg (.nm 1) (.prim .sub [.var 1, .var 6])
def S_row_with_3_1_b : List PyI.S := [S_row_with_3_1_0, S_row_with_3_1_1, S_row_with_3_1_2]
def S_row_with_3_1 : PyI.S := .for .seq [.prim .ix [.var 0, .con (.int 1)]] (.nm 5) S_row_with_3_1_b
def S_row_with_3_b : List PyI.S := [S_row_with_3_0, S_row_with_3_1]
def S_row_with_3 : PyI.S := .while (.prim .ne [.prim .sum [.var 3], .prim .ix [.var 0, .con (.int 0)]]) S_row_with_3_b
def S_row_with_4 : PyI.S := .ret (.var 3)
theorem S_row_with : b_row_with = [S_row_with_0, S_row_with_1, S_row_with_2, S_row_with_3, S_row_with_4] := rfl
def S_number_of_0 : PyI.S := .expr (.call 6 false [.var 0, .var 1])
def S_number_of_1 : PyI.S := .asg (.tp [.nm 2, .nm 3, .nm 4]) (.prim .tup [.call 8 false [.var 0, .prim .lst []], .con (.int 0), .con (.int 0)])
def S_number_of_2_0 : PyI.S := .asg (.nm 3) (.prim .add [.var 3, .prim .sum [.comp .seq [.prim .ix [.var 0, .con (.int 1)]] (.nm 6) [6] (.prim .lt [.var 6, .var 5]) (.prim .ix [.var 2, .prim .add [.var 4, .var 6]])]])
def S_number_of_2_1 : PyI.S := .asg (.nm 4) (.prim .add [.var 4, .var 5])
def S_number_of_2_b : List PyI.S := [S_number_of_2_0, S_number_of_2_1]
def S_number_of_2 : PyI.S := .for .seq [.var 1] (.nm 5) S_number_of_2_b
def S_number_of_3 : PyI.S := .ret (.var 3)
theorem S_number_of : b_number_of = [S_number_of_0, S_number_of_1, S_number_of_2, S_number_of_3] := rfl
def S_u_law_roll_0t_0 : PyI.S := .asg (.nm 2) (.prim .mod [.prim .int [.prim .ix [.var 0, .con (.int 0)]], .var 1])
def S_u_law_roll_0t_1 : PyI.S := .putL 0 (.con (.int 0)) (.prim .fdiv [.prim .ix [.var 0, .con (.int 0)], .var 1])
def S_u_law_roll_0t_2 : PyI.S := .ret (.var 2)
def S_u_law_roll_0t_b : List PyI.S := [S_u_law_roll_0t_0, S_u_law_roll_0t_1, S_u_law_roll_0t_2]
def S_u_law_roll_0 : PyI.S := .ifs (.prim .gt [.prim .ix [.var 0, .con (.int 0)], .con (.int 0)]) S_u_law_roll_0t_b []
def S_u_law_roll_1 : PyI.S := .putL 0 (.con (.int 1)) (.prim .mod [.prim .int [.prim .add [.prim .mul [.prim .ix [.var 0, .con (.int 1)], .con (.int 31017)], .con (.int 8087)]], .con (.int 2147483399)])
def S_u_law_roll_2 : PyI.S := .asg (.nm 3) (.prim .mod [.prim .int [.prim .mul [.prim .ix [.var 0, .con (.int 1)], .prim .add [.prim .ix [.var 0, .con (.int 1)], .con (.int 419)]]], .con (.int 2147483563)])
def S_u_law_roll_3 : PyI.S := .ret (.prim .mod [.prim .int [.prim .fdiv [.var 3, .con (.int 797)]], .var 1])
theorem S_u_law_roll : b_u_law_roll = [S_u_law_roll_0, S_u_law_roll_1, S_u_law_roll_2, S_u_law_roll_3] := rfl
def S_u_law_turned_0 : PyI.S := .par [2, 3] [.prim .list [.var 1], .prim .lst []]
def S_u_law_turned_1 : PyI.S := .for .rng1 [.prim .len [.var 2]] (.nm 4) [.appPop 3 2 (.callC 18 [.prim .len [.var 2]])]
def S_u_law_turned_2 : PyI.S := .ret (.prim .tuple [.var 3])
theorem S_u_law_turned : b_u_law_turned = [S_u_law_turned_0, S_u_law_turned_1, S_u_law_turned_2] := rfl
def S_u_law_kit_0 : PyI.S := .own 3 (.prim .dict [])
def S_u_law_kit_1 : PyI.S := .for .rng1 [.prim .add [.con (.int 1), .callC 18 [.var 2]]] (.nm 4) [.putL 3 (.prim .add [.con (.int 1), .callC 18 [.callC 19 [.prim .lst [.con (.int 3), .con (.int 5), .con (.int 8)]]]]) (.con (.int 1))]
def S_u_law_kit_2 : PyI.S := .ret (.prim .tup [.prim .add [.con (.int 1), .callC 18 [.var 1]], .prim .tuple [.prim .sorted [.var 3]]])
theorem S_u_law_kit : b_u_law_kit = [S_u_law_kit_0, S_u_law_kit_1, S_u_law_kit_2] := rfl
def S_u_law_rows_0 : PyI.S := .par [1, 2] [.prim .lst [], .prim .lst [.prim .tup []]]
def S_u_law_rows_1_0 : PyI.S := .asg (.nm 3) (.prim .lst [])
def S_u_law_rows_1_1 : PyI.S := .for .seq [.var 2] (.nm 4) [.asg (.nm 3) (.prim .add [.var 3, .comp .seq [.prim .ix [.var 0, .con (.int 1)]] (.nm 5) [5] (.prim .le [.prim .add [.prim .sum [.var 4], .var 5], .prim .ix [.var 0, .con (.int 0)]]) (.prim .add [.var 4, .prim .tup [.var 5]])])]
def S_u_law_rows_1_2 : PyI.S := .asg (.nm 1) (.prim .add [.var 1, .comp .seq [.var 3] (.nm 4) [4] (.prim .eq [.prim .sum [.var 4], .prim .ix [.var 0, .con (.int 0)]]) (.var 4)])
def S_u_law_rows_1_3 : PyI.S := .asg (.nm 2) (.comp .seq [.var 3] (.nm 4) [4] (.prim .lt [.prim .sum [.var 4], .prim .ix [.var 0, .con (.int 0)]]) (.var 4))
def S_u_law_rows_1_b : List PyI.S := [S_u_law_rows_1_0, S_u_law_rows_1_1, S_u_law_rows_1_2, S_u_law_rows_1_3]
def S_u_law_rows_1 : PyI.S := .while (.prim .ne [.var 2, .prim .lst []]) S_u_law_rows_1_b
def S_u_law_rows_2 : PyI.S := .ret (.prim .sorted [.var 1])
theorem S_u_law_rows : b_u_law_rows = [S_u_law_rows_0, S_u_law_rows_1, S_u_law_rows_2] := rfl
def S_u_law_right_0 : PyI.S := .asg (.nm 1) (.callC 21 [.con (.int 8), .con (.int 4)])
def S_u_law_right_1 : PyI.S := .asg (.nm 2) (.call 22 false [.var 1])
def S_u_law_right_2 : PyI.S := .ifs (.prim .ne [.prim .repr [.prim .tup [.call 11 false [.var 1], .call 14 false [.var 1], .call 17 false [.var 1]]], .prim .repr [.prim .tup [.con (.bool true), .prim .len [.var 2], .prim .tuple [.var 2]]]]) [.ret (.con (.bool false))] []
def S_u_law_right_3 : PyI.S := .for .rng1 [.con (.int 6)] (.nm 3) [.ifs (.prim .ne [.var 2, .prim .lst []]) [.asg (.nm 4) (.callC 18 [.prim .len [.var 2]]), .asg (.nm 5) (.prim .ix [.var 2, .var 4]), .ifs (.prim .ne [.prim .repr [.prim .tup [.call 15 false [.var 1, .var 4], .call 16 false [.var 1, .var 5], .call 13 false [.var 1, .var 5]]], .prim .repr [.prim .tup [.var 5, .var 4, .prim .tuple [.call 23 false [.var 5]]]]]) [.ret (.con (.bool false))] [], .asg (.nm 6) (.callC 18 [.prim .len [.var 5]]), .for .seq [.prim .tup [.var 5, .prim .rev [.var 5], .callC 20 [.var 5], .prim .add [.prim (.sl false true) [.var 5, .var 6], .prim (.sl true false) [.var 5, .prim .add [.var 6, .con (.int 1)]]], .prim .add [.var 5, .prim (.sl true false) [.var 5, .prim .neg [.con (.int 1)]]], .prim .add [.prim .add [.prim (.sl false true) [.var 5, .var 6], .prim .tup [.callC 19 [.prim .ix [.var 1, .con (.int 1)]]]], .prim (.sl true false) [.var 5, .prim .add [.var 6, .con (.int 1)]]]]] (.nm 7) [.ifs (.prim .ne [.prim .repr [.call 12 false [.var 1, .var 7]], .prim .repr [.prim .isin [.var 7, .var 2]]]) [.ret (.con (.bool false))] []]] []]
def S_u_law_right_4 : PyI.S := .asg (.nm 8) (.prim .lst [.con (.none), .prim .tup [], .prim .list [.prim .ix [.var 1, .con (.int 1)]], .prim .mul [.prim .tup [.con (.int 0)], .prim .ix [.var 1, .con (.int 0)]], .prim .mul [.prim .tup [.con (.bool true)], .prim .ix [.var 1, .con (.int 0)]], .prim .tup [.con (.str "1")], .prim .tup [.con (.none)], .prim .tup [.prim .add [.prim .ix [.var 1, .con (.int 0)], .con (.int 1)]], .con (.int 5)])
def S_u_law_right_5 : PyI.S := .ret (.prim .eq [.comp .seq [.var 8] (.nm 9) [9] (.prim .notB [.call 12 false [.var 1, .var 9], .con (.bool false)]) (.var 9), .prim .lst []])
theorem S_u_law_right : b_u_law_right = [S_u_law_right_0, S_u_law_right_1, S_u_law_right_2, S_u_law_right_3, S_u_law_right_4, S_u_law_right_5] := rfl
def S_u_law_great_right_0 : PyI.S := .asg (.nm 1) (.callC 21 [.con (.int 16), .con (.int 4)])
def S_u_law_great_right_1 : PyI.S := .par [2, 3] [.call 14 false [.var 1], .prim .addL [.prim .lst [.con (.int 1)], .prim .mulL [.prim .lst [.con (.int 0)], .prim .ix [.var 1, .con (.int 0)]]]]
def S_u_law_great_right_2 : PyI.S := .for .rng2 [.con (.int 1), .prim .add [.prim .ix [.var 1, .con (.int 0)], .con (.int 1)]] (.nm 4) [.putL 3 (.var 4) (.prim .sum [.comp .seq [.prim .ix [.var 1, .con (.int 1)]] (.nm 5) [5] (.prim .le [.var 5, .var 4]) (.prim .ix [.var 3, .prim .sub [.var 4, .var 5]])])]
def S_u_law_great_right_3 : PyI.S := .ifs (.prim .ne [.prim .repr [.var 2], .prim .repr [.prim .ix [.var 3, .prim .ix [.var 1, .con (.int 0)]]]]) [.ret (.con (.bool false))] []
def S_u_law_great_right_4 : PyI.S := .asg (.nm 6) (.con (.none))
def S_u_law_great_right_5_0 : PyI.S := .asg (.nm 9) (.call 15 false [.var 1, .var 7])
def S_u_law_great_right_5_1 : PyI.S := .ifs (.or (.prim .notB [.call 12 false [.var 1, .var 9], .con (.bool true)]) (.or (.prim .ne [.call 16 false [.var 1, .var 9], .var 7]) (.and (.prim .notN [.var 6, .con (.none)]) (.prim .ge [.var 6, .var 9])))) [.ret (.con (.bool false))] []
def S_u_law_great_right_5_2 : PyI.S := .asg (.nm 6) (.var 9)
def S_u_law_great_right_5_b : List PyI.S := [S_u_law_great_right_5_0, S_u_law_great_right_5_1, S_u_law_great_right_5_2]
def S_u_law_great_right_5 : PyI.S := .for .seq [.ite (.prim .gt [.var 2, .con (.int 0)]) (.prim .sorted [.prim .dictP [.comp .seq [.prim .addL [.prim .lst [.con (.int 0), .prim .sub [.var 2, .con (.int 1)]], .comp .rng1 [.con (.int 4)] (.nm 8) [8] (.con (.bool true)) (.callC 18 [.var 2])]] (.nm 7) [7] (.con (.bool true)) (.prim .tup [.var 7, .con (.int 1)])]]) (.prim .lst [])] (.nm 7) S_u_law_great_right_5_b
def S_u_law_great_right_6 : PyI.S := .ret (.con (.bool true))
theorem S_u_law_great_right : b_u_law_great_right = [S_u_law_great_right_0, S_u_law_great_right_1, S_u_law_great_right_2, S_u_law_great_right_3, S_u_law_great_right_4, S_u_law_great_right_5, S_u_law_great_right_6] := rfl
def S_u_law_odds_right_0 : PyI.S := .asg (.nm 0) (.prim .lst [.con (.none), .prim .tup [], .prim .tup [.con (.int 5)], .prim .tup [.con (.int 5), .prim .tup [.con (.int 1)], .con (.int 0)], .prim .lst [.con (.int 5), .prim .tup [.con (.int 1)]], .prim .tup [.con (.int 0), .prim .tup [.con (.int 1)]], .prim .tup [.con (.int 17), .prim .tup [.con (.int 1)]], .prim .tup [.con (.bool true), .prim .tup [.con (.int 1)]], .prim .tup [.con (.str "5"), .prim .tup [.con (.int 1)]], .prim .tup [.con (.int 5), .prim .tup []], .prim .tup [.con (.int 5), .prim .lst [.con (.int 1)]], .prim .tup [.con (.int 5), .con (.int 1)], .con (.int 5)])
def S_u_law_odds_right_1 : PyI.S := .asg (.nm 0) (.prim .add [.var 0, .comp .seq [.prim .tup [.prim .tup [.con (.int 0)], .prim .tup [.con (.int 9)], .prim .tup [.prim .neg [.con (.int 1)]], .prim .tup [.con (.bool true)], .prim .tup [.con (.none)], .prim .tup [.con (.int 2), .con (.int 1)], .prim .tup [.con (.int 1), .con (.int 1)], .prim .tup [.con (.int 1), .con (.int 2), .con (.int 3), .con (.int 4), .con (.int 5)]]] (.nm 1) [1] (.con (.bool true)) (.prim .tup [.con (.int 5), .var 1])])
def S_u_law_odds_right_2 : PyI.S := .ret (.and (.prim .eq [.comp .seq [.var 0] (.nm 2) [2] (.prim .notB [.call 11 false [.var 2], .con (.bool false)]) (.var 2), .prim .lst []]) (.and (.prim .isB [.call 11 false [.prim .tup [.con (.int 16), .prim .tup [.con (.int 5), .con (.int 6), .con (.int 7), .con (.int 8)]]], .con (.bool true)]) (.prim .isB [.call 11 false [.prim .tup [.con (.int 1), .prim .tup [.con (.int 8)]]], .con (.bool true)])))
theorem S_u_law_odds_right : b_u_law_odds_right = [S_u_law_odds_right_0, S_u_law_odds_right_1, S_u_law_odds_right_2] := rfl
def S_law_0 : PyI.S := .for .rng1 [.con (.int 4)] (.nm 2) [.ifs (.or (.not (.callC 24 [])) (.not (.callC 25 []))) [.ret (.con (.bool false))] []]
def S_law_1 : PyI.S := .par [3, 4, 5] [.prim .add [.con (.int 1), .callC 18 [.con (.int 16)]], .con (.int 1), .con (.int 2)]
def S_law_2 : PyI.S := .for .rng1 [.prim .sub [.var 3, .con (.int 1)]] (.nm 2) [.par [4, 5] [.var 5, .prim .add [.var 4, .var 5]]]
def S_law_3 : PyI.S := .asg (.nm 6) (.prim .tup [.var 3, .prim .tup [.con (.int 1), .con (.int 2)]])
def S_law_4 : PyI.S := .asg (.nm 7) (.prim .tup [.call 14 false [.var 6], .call 15 false [.var 6, .con (.int 0)], .call 15 false [.var 6, .prim .sub [.var 4, .con (.int 1)]], .call 16 false [.var 6, .prim .mul [.prim .tup [.con (.int 1)], .var 3]]])
def S_law_5 : PyI.S := .ret (.and (.prim .eq [.var 7, .prim .tup [.var 4, .prim .mul [.prim .tup [.con (.int 1)], .var 3], .prim .add [.prim .mul [.prim .tup [.con (.int 2)], .prim .fdiv [.var 3, .con (.int 2)]], .prim .mul [.prim .tup [.con (.int 1)], .prim .mod [.prim .int [.var 3], .con (.int 2)]]], .con (.int 0)]]) (.call 26 false []))
theorem S_law : b_law = [S_law_0, S_law_1, S_law_2, S_law_3, S_law_4, S_law_5] := rfl
end K76
set_option Elab.async false
set_option linter.all false
set_option maxRecDepth 100000
set_option maxHeartbeats 200000
namespace K76
open PyI

theorem flat_congr {α β : Type} {f g : α → List β} : ∀ {xs : List α}, (∀ x ∈ xs, f x = g x) → xs.flatMap f = xs.flatMap g
  | [], _ => rfl
  | x :: xs, h => by
    rw [List.flatMap_cons, List.flatMap_cons, h x (List.mem_cons_self ..), flat_congr fun y hy => h y (List.mem_cons_of_mem _ hy)]
/-! ### how many rows, and which -/
/-- ks: the lengths; n: what is left -/
def c (ks : List Nat) : Nat → Nat → Nat
  | 0, _ => 0
  | _ + 1, 0 => 1
  | f + 1, n + 1 => ((ks.filter fun k => decide (k ≤ n + 1)).map fun k => c ks f (n + 1 - k)).sum
def R (ks : List Nat) : Nat → Nat → List (List Nat)
  | 0, _ => []
  | _ + 1, 0 => [[]]
  | f + 1, n + 1 => (ks.filter fun k => decide (k ≤ n + 1)).flatMap fun k => (R ks f (n + 1 - k)).map (k :: ·)
structure GK (ks : List Nat) : Prop where
  pos : ∀ k ∈ ks, 1 ≤ k
  up : ks.Pairwise (· < ·)
theorem R_len (ks : List Nat) : ∀ f n, (R ks f n).length = c ks f n
  | 0, _ => rfl
  | _ + 1, 0 => rfl
  | f + 1, n + 1 => by
    rw [R, c, List.length_flatMap]
    congr 1
    refine List.map_congr_left fun k _ => ?_
    rw [List.length_map, R_len ks f]
section
variable {ks : List Nat} (g : GK ks)
include g
/-- more fuel changes nothing -/
theorem c_fuel : ∀ {f n : Nat}, n < f → c ks f n = c ks (n + 1) n
  | 0, n, h => by omega
  | f + 1, 0, _ => rfl
  | f + 1, n + 1, h => by
    rw [c, c]
    congr 1
    refine List.map_congr_left fun k hk => ?_
    have hk := List.mem_filter.mp hk
    have h1 := g.pos k hk.1
    have h2 : k ≤ n + 1 := of_decide_eq_true hk.2
    rw [c_fuel (f := f) (by omega), c_fuel (f := n + 1) (by omega)]
theorem R_fuel : ∀ {f n : Nat}, n < f → R ks f n = R ks (n + 1) n
  | 0, n, h => by omega
  | f + 1, 0, _ => rfl
  | f + 1, n + 1, h => by
    rw [R, R]
    refine flat_congr fun k hk => ?_
    have hk := List.mem_filter.mp hk
    have h1 := g.pos k hk.1
    have h2 : k ≤ n + 1 := of_decide_eq_true hk.2
    rw [R_fuel (f := f) (by omega), R_fuel (f := n + 1) (by omega)]
end
/-- .. of n -/
def cn (ks : List Nat) (n : Nat) : Nat := c ks (n + 1) n
def Rn (ks : List Nat) (n : Nat) : List (List Nat) := R ks (n + 1) n
theorem Rn_len (ks : List Nat) (n : Nat) : (Rn ks n).length = cn ks n := R_len ks _ _
theorem cn_zero (ks : List Nat) : cn ks 0 = 1 := rfl
theorem Rn_zero (ks : List Nat) : Rn ks 0 = [[]] := rfl
section
variable {ks : List Nat} (g : GK ks)
include g
theorem cn_succ (n : Nat) : cn ks (n + 1) = ((ks.filter fun k => decide (k ≤ n + 1)).map fun k => cn ks (n + 1 - k)).sum := by
  unfold cn
  rw [c]
  congr 1
  refine List.map_congr_left fun k hk => ?_
  have hk := List.mem_filter.mp hk
  have h1 := g.pos k hk.1
  rw [c_fuel g (by omega)]
theorem Rn_succ (n : Nat) : Rn ks (n + 1) = (ks.filter fun k => decide (k ≤ n + 1)).flatMap fun k => (Rn ks (n + 1 - k)).map (k :: ·) := by
  unfold Rn
  rw [R]
  refine flat_congr fun k hk => ?_
  have hk := List.mem_filter.mp hk
  have h1 := g.pos k hk.1
  rw [R_fuel g (by omega)]
/-- members: all lengths of the kit, together n -/
theorem mem_Rn : ∀ {n : Nat} {r : List Nat}, r ∈ Rn ks n ↔ (∀ x ∈ r, x ∈ ks) ∧ r.sum = n
  | 0, r => by
    rw [Rn_zero, List.mem_singleton]
    constructor
    · rintro rfl
      simp
    · rintro ⟨h1, h2⟩
      cases r with
      | nil => rfl
      | cons x t =>
        have := g.pos x (h1 x (List.mem_cons_self ..))
        rw [List.sum_cons] at h2
        omega
  | n + 1, r => by
    rw [Rn_succ g, List.mem_flatMap]
    constructor
    · rintro ⟨k, hk, hr⟩
      have hk := List.mem_filter.mp hk
      have h2 : k ≤ n + 1 := of_decide_eq_true hk.2
      have h1 := g.pos k hk.1
      obtain ⟨t, ht, rfl⟩ := List.mem_map.mp hr
      obtain ⟨h3, h4⟩ := (mem_Rn (n := n + 1 - k)).mp ht
      refine ⟨fun x hx => ?_, by rw [List.sum_cons, h4]; omega⟩
      rcases List.mem_cons.mp hx with rfl | hx
      · exact hk.1
      · exact h3 x hx
    · rintro ⟨h1, h2⟩
      cases r with
      | nil => simp at h2
      | cons x t =>
        rw [List.sum_cons] at h2
        have hx := h1 x (List.mem_cons_self ..)
        have := g.pos x hx
        refine ⟨x, List.mem_filter.mpr ⟨hx, decide_eq_true (by omega)⟩, List.mem_map.mpr ⟨t, (mem_Rn (n := n + 1 - x)).mpr ⟨fun y hy => h1 y (List.mem_cons_of_mem _ hy), by omega⟩, rfl⟩⟩
termination_by n => n
/-- in order -/
theorem Rn_up : ∀ n : Nat, (Rn ks n).Pairwise (· < ·)
  | 0 => by rw [Rn_zero]; simp
  | n + 1 => by
    rw [Rn_succ g]
    have hf : (ks.filter fun k => decide (k ≤ n + 1)).Pairwise (· < ·) := g.up.filter _
    have hm : ∀ k ∈ ks.filter (fun k => decide (k ≤ n + 1)), 1 ≤ k := fun k hk => g.pos k (List.mem_filter.mp hk).1
    rw [List.pairwise_flatMap]
    refine ⟨fun k hk => ?_, hf.imp fun {a b} hab x hx y hy => ?_⟩
    · have := hm k hk
      rw [List.pairwise_map]
      exact (Rn_up (n + 1 - k)).imp fun {a b} h => List.Lex.cons h
    · obtain ⟨s, _, rfl⟩ := List.mem_map.mp hx
      obtain ⟨t, _, rfl⟩ := List.mem_map.mp hy
      exact List.Lex.rel hab
termination_by n => n
/-- fewer than 2 ^ n -/
theorem sum_two : ∀ (l : List Nat) (n m : Nat), (∀ k ∈ l, m < k ∧ k ≤ n) → l.Pairwise (· < ·) → (l.map fun k => 2 ^ (n - k)).sum ≤ 2 ^ (n - m)
  | [], n, m, _, _ => by simp
  | k :: l, n, m, h, hp => by
    have h1 := h k (List.mem_cons_self ..)
    have hp := List.pairwise_cons.mp hp
    have ih := sum_two l n k (fun j hj => ⟨hp.1 j hj, (h j (List.mem_cons_of_mem _ hj)).2⟩) hp.2
    rw [List.map_cons, List.sum_cons]
    have e : 2 ^ (n - k) + 2 ^ (n - k) = 2 ^ (n - k + 1) := by rw [Nat.pow_succ]; omega
    have e2 : 2 ^ (n - k + 1) ≤ 2 ^ (n - m) := Nat.pow_le_pow_right (by decide) (by omega)
    omega
theorem cn_le : ∀ n : Nat, cn ks n ≤ 2 ^ n
  | 0 => by rw [cn_zero]; exact Nat.le_refl _
  | n + 1 => by
    rw [cn_succ g]
    have h1 : ((ks.filter fun k => decide (k ≤ n + 1)).map fun k => cn ks (n + 1 - k)).sum ≤ ((ks.filter fun k => decide (k ≤ n + 1)).map fun k => 2 ^ (n + 1 - k)).sum := by
      have : ∀ l : List Nat, (∀ k ∈ l, 1 ≤ k) → (l.map fun k => cn ks (n + 1 - k)).sum ≤ (l.map fun k => 2 ^ (n + 1 - k)).sum := by
        intro l
        induction l with
        | nil => exact fun _ => Nat.le_refl _
        | cons k l ih =>
          intro h
          have hk := h k (List.mem_cons_self ..)
          have h2 := cn_le (n + 1 - k)
          have h3 := ih fun j hj => h j (List.mem_cons_of_mem _ hj)
          rw [List.map_cons, List.map_cons, List.sum_cons, List.sum_cons]
          omega
      exact this _ fun k hk => g.pos k (List.mem_filter.mp hk).1
    have h2 := sum_two g (ks.filter fun k => decide (k ≤ n + 1)) (n + 1) 0 (fun k hk => ⟨g.pos k (List.mem_filter.mp hk).1, of_decide_eq_true (List.mem_filter.mp hk).2⟩) (g.up.filter _)
    exact Nat.le_trans h1 h2
termination_by n => n
decreasing_by omega
end
/-! ### by number -/
/-- the length chosen, the number that is left -/
def pick (ks : List Nat) (n : Nat) : List Nat → Nat → Option (Nat × Nat)
  | [], _ => none
  | k :: t, m => let own := if k ≤ n then cn ks (n - k) else 0
    if m < own then some (k, m) else pick ks n t (m - own)
theorem pick_get {ks : List Nat} {n : Nat} : ∀ {l : List Nat} {m : Nat} {k m' : Nat}, pick ks n l m = some (k, m') → k ∈ l ∧ k ≤ n ∧ m' < cn ks (n - k) ∧
    ∀ {B : List (List Nat)}, (((l.filter fun k => decide (k ≤ n)).flatMap fun k => (Rn ks (n - k)).map (k :: ·)) ++ B)[m]? = ((Rn ks (n - k)).map (k :: ·))[m']?
  | [], m, k, m', h => by cases h
  | j :: t, m, k, m', h => by
    rw [pick] at h
    by_cases hj : j ≤ n
    · rw [if_pos hj] at h
      have hf : (j :: t).filter (fun k => decide (k ≤ n)) = j :: t.filter fun k => decide (k ≤ n) := List.filter_cons_of_pos (by simpa using hj)
      split at h
      · rename_i hm
        cases h
        refine ⟨List.mem_cons_self .., hj, hm, fun {B} => ?_⟩
        rw [hf, List.flatMap_cons, List.append_assoc, List.getElem?_append_left (by rw [List.length_map, Rn_len]; exact hm)]
      · rename_i hm
        obtain ⟨h1, h2, h3, h4⟩ := pick_get h
        refine ⟨List.mem_cons_of_mem _ h1, h2, h3, fun {B} => ?_⟩
        rw [hf, List.flatMap_cons, List.append_assoc, List.getElem?_append_right (by rw [List.length_map, Rn_len]; omega), List.length_map, Rn_len]
        exact h4
    · rw [if_neg hj] at h
      have hf : (j :: t).filter (fun k => decide (k ≤ n)) = t.filter fun k => decide (k ≤ n) := List.filter_cons_of_neg (by simpa using hj)
      simp only [Nat.not_lt_zero, if_false, Nat.sub_zero] at h
      obtain ⟨h1, h2, h3, h4⟩ := pick_get h
      refine ⟨List.mem_cons_of_mem _ h1, h2, h3, fun {B} => ?_⟩
      rw [hf]
      exact h4
theorem pick_some {ks : List Nat} {n : Nat} : ∀ {l : List Nat} {m : Nat}, m < ((l.filter fun k => decide (k ≤ n)).map fun k => cn ks (n - k)).sum → ∃ q, pick ks n l m = some q
  | [], m, h => by simp at h
  | j :: t, m, h => by
    rw [pick]
    by_cases hj : j ≤ n
    · rw [List.filter_cons_of_pos (by simpa using hj), List.map_cons, List.sum_cons] at h
      rw [if_pos hj]
      split
      · exact ⟨_, rfl⟩
      · exact pick_some (by omega)
    · rw [List.filter_cons_of_neg (by simpa using hj)] at h
      rw [if_neg hj]
      simp only [Nat.not_lt_zero, if_false, Nat.sub_zero]
      exact pick_some h
theorem pick_row {ks : List Nat} (g : GK ks) {n m k m' : Nat} (h : pick ks (n + 1) ks m = some (k, m')) : (Rn ks (n + 1))[m]? = ((Rn ks (n + 1 - k))[m']?).map (k :: ·) := by
  have := (pick_get h).2.2.2 (B := [])
  rw [List.append_nil, ← Rn_succ g, List.getElem?_map] at this
  exact this
/-- how many rows of n begin with less than k -/
def less (ks : List Nat) (n k : Nat) : Nat := ((ks.filter fun j => decide (j < k)).map fun j => if j ≤ n then cn ks (n - j) else 0).sum
/-- the place of a row -/
theorem rank_step {ks : List Nat} (g : GK ks) {n k m : Nat} {t : List Nat} (hk : k ∈ ks) (hkn : k ≤ n + 1) (h : (Rn ks (n + 1 - k))[m]? = some t) : (Rn ks (n + 1))[((ks.filter fun j => decide (j < k)).map fun j => cn ks (n + 1 - j)).sum + m]? = some (k :: t) := by
  obtain ⟨A, B, rfl⟩ := List.append_of_mem hk
  have hp := List.pairwise_append.mp g.up
  have hp2 := List.pairwise_cons.mp hp.2.1
  have hA : (A ++ k :: B).filter (fun j => decide (j < k)) = A := by
    rw [List.filter_append, List.filter_cons_of_neg (by simp)]
    have h1 : A.filter (fun j => decide (j < k)) = A := List.filter_eq_self.mpr fun j hj => decide_eq_true (hp.2.2 j hj k (List.mem_cons_self ..))
    have h2 : B.filter (fun j => decide (j < k)) = [] := List.filter_eq_nil_iff.mpr fun j hj => by
      have := hp2.1 j hj
      simp
      omega
    rw [h1, h2, List.append_nil]
  rw [hA, Rn_succ g]
  have hA2 : A.filter (fun j => decide (j ≤ n + 1)) = A := List.filter_eq_self.mpr fun j hj => decide_eq_true (by have := hp.2.2 j hj k (List.mem_cons_self ..); omega)
  rw [List.filter_append, hA2, List.filter_cons_of_pos (by simpa using hkn), List.flatMap_append, List.flatMap_cons]
  have hl : (A.flatMap fun j => (Rn (A ++ k :: B) (n + 1 - j)).map (j :: ·)).length = (A.map fun j => cn (A ++ k :: B) (n + 1 - j)).sum := by
    rw [List.length_flatMap]
    congr 1
    refine List.map_congr_left fun j _ => ?_
    rw [List.length_map, Rn_len]
  rw [List.getElem?_append_right (by rw [hl]; omega), hl, Nat.add_sub_cancel_left, List.getElem?_append_left (by
    rw [List.length_map]
    rcases Nat.lt_or_ge m (Rn (A ++ k :: B) (n + 1 - k)).length with h1 | h1
    · exact h1
    · rw [List.getElem?_eq_none h1] at h
      cases h), List.getElem?_map, h]
  rfl
end K76
set_option Elab.async false
set_option linter.all false
set_option maxRecDepth 100000
set_option maxHeartbeats 200000
namespace K76
open PySem L2 PySem.Spec PyI

theorem cup_math : ∀ x : Int, ∃ c0 c1 env' w', ex (run Φ 39) cup1 [none, some (.int x)] .none = some (.rt (.list [.int c0, .int c1]), env', w') :=
  fun x => cup_any (a := 141) (b := 375) (c := 4337) (m := 2077503101) (d := 229) (by decide) (by decide) (by decide) x
theorem rolls (n : Nat) (many : Int) (w : D) (hw : Cup w) (h0 : 0 < many) (h1 : many < 1073741824) : ∃ r w', run Φ (n + 1) 18 [.int many] w = some (.int r, w') ∧ 0 ≤ r ∧ r < many ∧ Cup w' :=
  roll_ok (a := 31017) (b := 8087) (c := 2147483399) (d := 419) (e := 2147483563) (f := 797) f_u_law_roll (by decide) (by decide) (by decide) (by decide) (by decide) n hw h0 h1
theorem somes (n : Nat) {xs : List D} {w : D} (hw : Cup w) (h0 : xs ≠ []) (h1 : xs.length < 1073741824) : ∃ x w', run Φ (n + 2) 19 [.list xs] w = some (x, w') ∧ x ∈ xs ∧ Cup w' :=
  some_ok (i := 18) f_u_law_some (rolls n) hw h0 h1
theorem somesT (n : Nat) {xs : List D} {w : D} (hw : Cup w) (h0 : xs ≠ []) (h1 : xs.length < 1073741824) : ∃ x w', run Φ (n + 2) 19 [.tuple xs] w = some (x, w') ∧ x ∈ xs ∧ Cup w' := by
  obtain ⟨x, w', h, hx, c⟩ := somes n hw h0 h1
  refine ⟨x, w', ?_, hx, c⟩
  obtain ⟨r, w1, e1, r0, r1, c1⟩ := rolls n xs.length w hw (by have := List.length_pos_iff.mpr h0; omega) (by omega)
  rw [run_cup f_u_law_some rfl] at h ⊢
  have l1 : lenD (.list xs) = some (.int xs.length) := rfl
  have l2 : lenD (.tuple xs) = some (.int xs.length) := rfl
  have i1 : ixD (.list xs) (.int r) = L2.atI xs r := rfl
  have i2 : ixD (.tuple xs) (.int r) = L2.atI xs r := rfl
  have h : retOf (exs (run Φ (n + 1)) b_u_law_some [none, some (.list xs)] w) = some (x, w') := h
  show retOf (exs (run Φ (n + 1)) b_u_law_some [none, some (.tuple xs)] w) = some (x, w')
  simp only [b_u_law_some, x_cons, x_ret, e_prim, e_cons, e_nil, e_callC, e_var, gE0, gES, Option.map_some, Option.bind_some, p_len, l1, l2, e1, p_ix, i1, i2] at h ⊢
  cases ha : L2.atI xs r with
  | none => rw [ha] at h; cases h
  | some y =>
    rw [ha] at h
    exact h
theorem m_whole (n : Nat) {v : D} (hp : v.plain = true) (lo hi : Int) : run Φ (n + 1) 0 [v, .int lo, .int hi] .none = some (.bool (wholeD v lo hi), .none) := whole_ok f_is_whole n hp lo hi
theorem m_tupOf (n : Nat) {v : D} (hp : v.plain = true) (lo hi : Int) : run Φ (n + 1) 1 [v, .int lo, .int hi] .none = some (.bool (tupD v lo hi), .none) := tupOf_ok f_is_tuple_of n hp lo hi
theorem m_risingI (n : Nat) {l : List Int} (h : l.Pairwise (· < ·)) (hl : l.length ≤ 16777216) : run Φ (n + 1) 2 [tI l] .none = some (.bool true, .none) := rising_ok f_is_rising n h hl
theorem ints_of (xs : List Int) : intsOf (xs.map .int) = some xs := by
  induction xs with
  | nil => rfl
  | cons x xs ih =>
    rw [List.map_cons, intsOf, ih]
    rfl
theorem sumL (xs : List Int) : sumD (.list (xs.map .int)) = some (.int xs.sum) := by
  show (intsOf _).map _ = _
  rw [ints_of]
  rfl
theorem sumT (xs : List Int) : sumD (tI xs) = some (.int xs.sum) := by
  show (intsOf _).map _ = _
  rw [ints_of]
  rfl
/-! ### kits -/
def up (r : List Nat) : List Int := r.map fun x : Nat => (x : Int)
def tN (r : List Nat) : D := tI (up r)
theorem up_sum (r : List Nat) : (up r).sum = ((r.sum : Nat) : Int) := by
  unfold up
  induction r with
  | nil => rfl
  | cons x r ih => rw [List.map_cons, List.sum_cons, ih, List.sum_cons]; omega
theorem up_len (r : List Nat) : (up r).length = r.length := by unfold up; rw [List.length_map]
theorem up_app (r s : List Nat) : up (r ++ s) = up r ++ up s := by unfold up; rw [List.map_append]
structure Kit where
  w : Nat
  ks : List Nat
structure GK' (K : Kit) : Prop where
  w1 : 1 ≤ K.w
  w16 : K.w ≤ 16
  n1 : 1 ≤ K.ks.length
  n4 : K.ks.length ≤ 4
  ok : ∀ k ∈ K.ks, 1 ≤ k ∧ k ≤ 8
  up : K.ks.Pairwise (· < ·)
theorem GK'.g {K : Kit} (h : GK' K) : GK K.ks := ⟨fun k hk => (h.ok k hk).1, h.up⟩
def kitD (K : Kit) : D := .tuple [.int K.w, tN K.ks]
theorem tN_plain (r : List Nat) : (tN r).plain = true := tI_plain _
theorem kit_plain (K : Kit) : (kitD K).plain = true := by
  simp [kitD, tN_plain]
theorem kt0 {K : Kit} : ixD (kitD K) (.int 0) = some (.int K.w) := rfl
theorem kt1 {K : Kit} : ixD (kitD K) (.int 1) = some (tN K.ks) := rfl
theorem len_tN (r : List Nat) : lenD (tN r) = some (.int r.length) := by
  unfold tN
  rw [len_tI, up_len]
theorem items_tN (r : List Nat) : items .seq [tN r] = some (r.map fun x : Nat => PyData.int (x : Int)) := by
  show some ((up r).map PyData.int) = _
  unfold up
  rw [List.map_map]
  rfl
theorem sum_tN (r : List Nat) : sumD (tN r) = some (.int (r.sum : Nat)) := by
  unfold tN
  rw [sumT, up_sum]
section
variable {K : Kit} (g : GK' K)
include g
theorem m_fits_kit (n : Nat) : run Φ (n + 2) 3 [kitD K] .none = some (.bool true, .none) := by
  rw [run_fn f_fits_kit rfl, S_fits_kit]
  show retOf (exs (run Φ (n + 1)) _ [some (kitD K), none] _) = _
  have w1 := g.w1
  have w16 := g.w16
  have n1 := g.n1
  have n4 := g.n4
  have h1 := m_tupOf n (kit_plain K) 2 2
  have e1 : tupD (kitD K) 2 2 = true := rfl
  have h2 := m_whole n (v := .int K.w) rfl 1 16
  have e2 : wholeD (.int K.w) 1 16 = true := by simp [wholeD]; omega
  have h4 := m_tupOf n (tN_plain K.ks) 1 4
  have e4 : tupD (tN K.ks) 1 4 = true := by
    unfold tN tI tupD
    simp [up]
    omega
  rw [e1] at h1
  rw [e2] at h2
  rw [e4] at h4
  have hc : compL (turnC (run Φ (n + 1)) [some (kitD K), none] (.nm 1) [1] (.con (.bool true)) (.call 0 false [.var 1, .con (.int 1), .con (.int 8)])) (K.ks.map fun x : Nat => PyData.int (x : Int)) .none = some (K.ks.map fun _ => .bool true, .none) := compL_map fun p hp => by
    have := g.ok p hp
    have h5 := m_whole n (v := .int p) rfl 1 8
    have e5 : wholeD (.int p) 1 8 = true := by simp [wholeD]; omega
    rw [e5] at h5
    simp [turnC, h5]
  have ha : allD (.list (K.ks.map fun _ => PyData.bool true)) = some (.bool true) := by
    rw [allMap K.ks fun _ => true]
    simp
  have h6 := m_risingI n (l := up K.ks) (by
    unfold up
    rw [List.pairwise_map]
    exact g.up.imp fun h => by omega) (by rw [up_len]; omega)
  have h6 : run Φ (n + 1) 2 [tN K.ks] .none = some (.bool true, .none) := h6
  rw [x_step (env' := [some (kitD K), none]) (w' := .none) (by simp [S_fits_kit_0, x_cons, kt0, kt1, h1, h2, h4])]
  refine ret_ev ?_
  simp [kt1, items_tN, hc, ha, h6]
theorem m_need_kit (n : Nat) : run Φ (n + 3) 4 [kitD K] .none = some (.none, .none) := by
  rw [run_fn f_need_kit rfl]
  show retOf (exs (run Φ (n + 2)) b_need_kit [some (kitD K)] _) = _
  simp [b_need_kit, x_cons, m_fits_kit g n]
  try rfl
theorem m_is_kit (n : Nat) : run Φ (n + 3) 11 [kitD K] .none = some (.bool true, .none) := by
  rw [run_fn f_is_kit rfl]
  show retOf (exs (run Φ (n + 2)) b_is_kit [some (kitD K)] _) = _
  simp [b_is_kit, x_cons, m_fits_kit g n]
  try rfl
end
/-! ### counts -/
/-- the counts after j places from behind -/
def fj (K : Kit) (j : Nat) : List Int := (List.range (K.w + 1)).map fun i => if K.w - j ≤ i then ((cn K.ks (K.w - i) : Nat) : Int) else 0
def cts (K : Kit) : List Int := (List.range (K.w + 1)).map fun i => ((cn K.ks (K.w - i) : Nat) : Int)
theorem fj_all (K : Kit) : fj K K.w = cts K := by
  unfold fj cts
  refine List.map_congr_left fun i _ => ?_
  rw [if_pos (by omega)]
theorem fj_zero (K : Kit) : fj K 0 = List.replicate K.w 0 ++ [1] := by
  unfold fj
  rw [List.range_succ, List.map_append]
  congr 1
  · refine List.ext_getElem (by simp) ?_
    intro i h1 h2
    have : i < K.w := by simpa using h2
    simp
    intro h
    omega
  · simp [cn_zero]
theorem fj_get {K : Kit} {j i : Nat} (h : i ≤ K.w) : (fj K j)[i]? = some (if K.w - j ≤ i then ((cn K.ks (K.w - i) : Nat) : Int) else 0) := by
  unfold fj
  rw [List.getElem?_map, List.getElem?_range (by omega)]
  rfl
theorem fj_len (K : Kit) (j : Nat) : (fj K j).length = K.w + 1 := by simp [fj]
theorem fj_set {K : Kit} {j : Nat} (h : j < K.w) : (fj K j).set (K.w - 1 - j) ((cn K.ks (j + 1) : Nat) : Int) = fj K (j + 1) := by
  refine List.ext_getElem? fun i => ?_
  rw [List.getElem?_set]
  by_cases hi : i ≤ K.w
  · rw [fj_get hi, fj_get hi, fj_len]
    by_cases e : K.w - 1 - j = i
    · rw [if_pos e, if_pos (by omega), if_pos (by omega)]
      congr 3
      omega
    · rw [if_neg e]
      congr 1
      by_cases h2 : K.w - j ≤ i
      · rw [if_pos h2, if_pos (by omega)]
      · rw [if_neg h2, if_neg (by omega)]
  · rw [List.getElem?_eq_none (by rw [fj_len]; omega), List.getElem?_eq_none (by rw [fj_len]; omega), fj_len]
    split
    · rw [if_neg (by omega)]
    · rfl
theorem ix_L {xs : List Int} {i : Nat} {x : Int} (h : xs[i]? = some x) : ixD (.list (xs.map .int)) (.int (i : Int)) = some (.int x) := by
  show L2.atI (xs.map PyData.int) (i : Int) = _
  rw [at_nat, List.getElem?_map, h]
  rfl
theorem put_L {xs : List Int} {i : Nat} (h : i < xs.length) (x : Int) : putK (.list (xs.map .int)) (.int (i : Int)) (.int x) = some (.list ((xs.set i x).map .int)) := by
  show (L2.ixN (xs.map PyData.int).length (i : Int)).map _ = _
  rw [List.length_map]
  have : L2.ixN xs.length (i : Int) = some i := by
    unfold L2.ixN
    rw [if_pos (by omega), if_pos (by omega), Int.toNat_natCast]
  rw [this, Option.map_some, List.map_set]
theorem down_range (W : Nat) (h : W ≤ 16) : items .rng3 [.int ((W : Int) - 1), .int (-1), .int (-1)] = some ((List.range W).map fun j : Nat => .int ((W : Int) - 1 - j)) := by
  have hk : ∀ W : Fin 17, (Builtin.Range.small ((W.val : Int) - 1) (-1) (-1) = true ∧ Builtin.Range.rangeSize ((W.val : Int) - 1) (-1) (-1) = W.val) := by decide +kernel
  obtain ⟨h1, h2⟩ := hk ⟨W, by omega⟩
  simp only at h1 h2
  show (if _ then _ else _) = _
  rw [if_pos ⟨by omega, by omega, h1, by rw [h2]; omega, by rw [h2]; omega⟩, h2]
  unfold rangeC
  rw [Int.toNat_natCast]
  congr 2
  funext j
  congr 1
  omega
section
variable {K : Kit} (g : GK' K)
include g
theorem cts_sum {j : Nat} (h : j < K.w) : ((K.ks.filter fun k => decide (K.w - 1 - j + k ≤ K.w)).map fun k => ((cn K.ks (j + 1 - k) : Nat) : Int)).sum = ((cn K.ks (j + 1) : Nat) : Int) := by
  rw [cn_succ g.g, ← up_sum]
  unfold up
  rw [List.map_map]
  congr 1
  have : (K.ks.filter fun k => decide (K.w - 1 - j + k ≤ K.w)) = K.ks.filter fun k => decide (k ≤ j + 1) := List.filter_congr fun k _ => by
    rw [decide_eq_decide]
    omega
  rw [this]
  rfl
theorem m_counts (n : Nat) : run Φ (n + 1) 8 [kitD K, .list []] .none = some (.list ((cts K).map .int), .none) := by
  rw [run_fn f_counts_from rfl, S_counts_from]
  show retOf (exs (run Φ n) _ [some (kitD K), some (.list []), none, none, none] _) = _
  have w1 := g.w1
  have w16 := g.w16
  obtain ⟨_, env', w', ⟨hw', y3, rfl⟩, hf⟩ := forL_draw (f := loop1 (run Φ n) (.nm 3) [.ifs (.prim .notin [.var 3, .var 1]) [.putL 2 (.var 3) (.prim .sum [.comp .seq [.prim .ix [.var 0, .con (.int 1)]] (.nm 4) [4] (.prim .le [.prim .add [.var 3, .var 4], .prim .ix [.var 0, .con (.int 0)]]) (.prim .ix [.var 2, .prim .add [.var 3, .var 4]])])] []])
    (fun (_ : Unit) (j : Nat) env w => w = .none ∧ ∃ y3, env = [some (kitD K), some (.list []), some (.list ((fj K j).map .int)), y3, none])
    (xs := (List.range K.w).map fun j : Nat => .int ((K.w : Int) - 1 - j)) (k := 0) (a := ()) (env := [some (kitD K), some (.list []), some (.list ((fj K 0).map .int)), none, none]) (w := .none) ⟨rfl, none, rfl⟩ (fun j x hx u env w hi => by
      obtain ⟨rfl, y3, rfl⟩ := hi
      rw [Nat.zero_add]
      have hj := lt_of_get hx
      rw [List.length_map, List.length_range] at hj
      have hxj : x = .int (((K.w - 1 - j : Nat)) : Int) := by
        rw [List.getElem?_map, List.getElem?_range hj] at hx
        have := Option.some.inj hx
        rw [← this]
        show PyData.int ((K.w : Int) - 1 - (j : Int)) = _
        rw [show (K.w : Int) - 1 - (j : Int) = ((K.w - 1 - j : Nat) : Int) by omega]
      subst hxj
      refine ⟨(), [some (kitD K), some (.list []), some (.list ((fj K (j + 1)).map .int)), some (.int (((K.w - 1 - j : Nat)) : Int)), none], .none, ⟨rfl, _, rfl⟩, ?_⟩
      have hc : compL (turnC (run Φ n) [some (kitD K), some (.list []), some (.list ((fj K j).map .int)), some (.int (((K.w - 1 - j : Nat)) : Int)), none] (.nm 4) [4] (.prim .le [.prim .add [.var 3, .var 4], .prim .ix [.var 0, .con (.int 0)]]) (.prim .ix [.var 2, .prim .add [.var 3, .var 4]])) (K.ks.map fun x : Nat => PyData.int (x : Int)) .none = some (((K.ks.filter fun k => decide (K.w - 1 - j + k ≤ K.w)).map fun k => ((cn K.ks (j + 1 - k) : Nat) : Int)).map .int, .none) := by
        rw [List.map_map]
        exact compL_filter fun k hk => by
          have hk1 := (g.ok k hk).1
          by_cases hle : K.w - 1 - j + k ≤ K.w
          · have h1 : (((K.w - 1 - j : Nat) : Int) + (k : Int) ≤ (K.w : Int)) := by omega
            have h2 : ixD (.list ((fj K j).map .int)) (.int (((K.w - 1 - j : Nat) : Int) + (k : Int))) = some (.int ((cn K.ks (j + 1 - k) : Nat) : Int)) := by
              rw [show ((K.w - 1 - j : Nat) : Int) + (k : Int) = ((K.w - 1 - j + k : Nat) : Int) by omega]
              refine ix_L ?_
              rw [fj_get hle, if_pos (by omega), show K.w - (K.w - 1 - j + k) = j + 1 - k by omega]
            simp only [turnC, w_cons, w_nil, List.set_cons_succ, List.set_cons_zero, b_nm, sES, sE0, Option.map_some, Option.bind_some, e_prim, e_cons, e_nil, e_var, e_con, gE0, gES, p_add, i_add, p_ix, kt0, p_le, i_le, decide_eq_true h1, asB_b, if_true, h2, decide_eq_true hle]
            rfl
          · have h1 : ¬ (((K.w - 1 - j : Nat) : Int) + (k : Int) ≤ (K.w : Int)) := by omega
            simp only [turnC, w_cons, w_nil, List.set_cons_succ, List.set_cons_zero, b_nm, sES, sE0, Option.map_some, Option.bind_some, e_prim, e_cons, e_nil, e_var, e_con, gE0, gES, p_add, i_add, p_ix, kt0, p_le, i_le, decide_eq_false h1, asB_b, Bool.false_eq_true, if_false, decide_eq_false hle]
      have hp := put_L (xs := fj K j) (i := K.w - 1 - j) (by rw [fj_len]; omega) ((cn K.ks (j + 1) : Nat) : Int)
      rw [fj_set (by omega)] at hp
      have hin : inD (.int (((K.w - 1 - j : Nat)) : Int)) (.list []) = some false := rfl
      have hs := sumL ((K.ks.filter fun k => decide (K.w - 1 - j + k ≤ K.w)).map fun k => ((cn K.ks (j + 1 - k) : Nat) : Int))
      rw [cts_sum g (by omega)] at hs
      unfold loop1
      simp only [b_nm, sES, sE0, Option.map_some, Option.bind_some]
      rw [x_last (r := (.nx, [some (kitD K), some (.list []), some (.list ((fj K (j + 1)).map .int)), some (.int (((K.w - 1 - j : Nat)) : Int)), none], .none)) (by
        simp only [x_ifs, x_cons, x_nil, x_putL, e_prim, e_comp, e_cons, e_nil, e_var, e_con, gE0, gES, Option.map_some, Option.bind_some, p_notin, hin, Bool.not_false, asB_b, if_true, p_ix, kt1, items_tN, hc, p_sum, hs, hp, sES, sE0])])
  rw [List.length_map, List.length_range, Nat.zero_add, fj_all] at hf
  subst hw'
  have hm : mulLD (.list [.int 0]) (.int K.w) = some (.list ((List.replicate K.w (0 : Int)).map .int)) := by
    rw [mulLD, mulD, if_pos ⟨by omega, by show (K.w : Int) ≤ 16777216; omega, by show 1 * _ ≤ 16777216; omega⟩]
    have : ∀ k, repL [PyData.int 0] k = (List.replicate k (0 : Int)).map .int := fun k => by
      unfold repL
      induction k with
      | zero => rfl
      | succ k ih => rw [List.replicate_succ, List.flatten_cons, ih, List.replicate_succ]; rfl
    rw [Int.toNat_natCast, this]
  have hadd : addLD (.list ((List.replicate K.w (0 : Int)).map .int)) (.list [.int 1]) = some (.list ((fj K 0).map .int)) := by
    rw [addLD, addLst (by simp; omega), fj_zero, List.map_append]
    rfl
  rw [x_step (env' := [some (kitD K), some (.list []), some (.list ((fj K 0).map .int)), none, none]) (w' := .none) (by
    simp only [S_counts_from_0, x_own, e_prim, e_cons, e_nil, e_var, e_con, gE0, Option.map_some, Option.bind_some, p_lst, p_ix, kt0, p_mulL, hm, p_addL, hadd, sES, sE0])]
  rw [x_step (env' := [some (kitD K), some (.list []), some (.list ((cts K).map .int)), y3, none]) (w' := .none) (by
    have hd := down_range K.w w16
    simp only [S_counts_from_1, x_for, e_prim, e_cons, e_nil, e_var, e_con, gE0, Option.map_some, Option.bind_some, p_ix, kt0, p_sub, i_sub, p_neg, hd]
    exact hf)]
  exact ret_ev (by simp [S_counts_from_2])
end
end K76
set_option Elab.async false
set_option linter.all false
set_option maxRecDepth 100000
set_option maxHeartbeats 200000
namespace K76
open PySem L2 PySem.Spec PyI

/-! ### rows of a kit -/
def frB (K : Kit) (l : List Int) : Bool := ((decide (1 ≤ l.length) && decide (l.length ≤ 16)) && l.all fun x => decide (1 ≤ x) && decide (x ≤ 8)) && ((l.all fun x => decide (x ∈ up K.ks)) && decide (l.sum = K.w))
theorem up_inj : ∀ {r s : List Nat}, up r = up s → r = s
  | [], [], _ => rfl
  | [], _ :: _, h => by cases h
  | _ :: _, [], h => by cases h
  | x :: r, y :: s, h => by
    have h1 : (x : Int) :: up r = (y : Int) :: up s := h
    obtain ⟨h2, h3⟩ := List.cons.inj h1
    rw [up_inj h3, show x = y by omega]
theorem len_le_sum : ∀ {r : List Nat}, (∀ x ∈ r, 1 ≤ x) → r.length ≤ r.sum
  | [], _ => Nat.le_refl _
  | x :: r, h => by
    have h1 := h x (List.mem_cons_self ..)
    have h2 := len_le_sum (r := r) fun y hy => h y (List.mem_cons_of_mem _ hy)
    rw [List.length_cons, List.sum_cons]
    omega
section
variable {K : Kit} (g : GK' K)
include g
theorem row_facts {r : List Nat} (h : r ∈ Rn K.ks K.w) : (∀ x ∈ r, x ∈ K.ks) ∧ r.sum = K.w ∧ r.length ≤ 16 ∧ 1 ≤ r.length := by
  obtain ⟨h1, h2⟩ := (mem_Rn g.g).mp h
  have h3 := len_le_sum (r := r) fun x hx => (g.ok x (h1 x hx)).1
  have := g.w1
  have := g.w16
  refine ⟨h1, h2, by omega, ?_⟩
  cases r with
  | nil => simp at h2; omega
  | cons _ _ => simp
theorem frB_iff {l : List Int} : frB K l = true ↔ ∃ r ∈ Rn K.ks K.w, l = up r := by
  constructor
  · intro h
    unfold frB at h
    simp only [Bool.and_eq_true, decide_eq_true_eq, List.all_eq_true] at h
    obtain ⟨⟨⟨h1, h2⟩, h3⟩, h4, h5⟩ := h
    have hl : l = up (l.map Int.toNat) := by
      unfold up
      rw [List.map_map]
      conv => lhs; rw [← List.map_id l]
      refine List.map_congr_left fun x hx => ?_
      have := h3 x hx
      show x = ((x.toNat : Nat) : Int)
      omega
    refine ⟨l.map Int.toNat, (mem_Rn g.g).mpr ⟨fun x hx => ?_, ?_⟩, hl⟩
    · obtain ⟨y, hy, rfl⟩ := List.mem_map.mp hx
      obtain ⟨k, hk, e⟩ := List.mem_map.mp (h4 y hy)
      rw [← e, Int.toNat_natCast]
      exact hk
    · rw [hl, up_sum] at h5
      omega
  · rintro ⟨r, hr, rfl⟩
    obtain ⟨h1, h2, h3, h4⟩ := row_facts g hr
    unfold frB
    simp only [Bool.and_eq_true, decide_eq_true_eq, List.all_eq_true, up_len, up_sum]
    refine ⟨⟨⟨h4, h3⟩, fun x hx => ?_⟩, fun x hx => ?_, by rw [h2]⟩
    · obtain ⟨k, hk, rfl⟩ := List.mem_map.mp hx
      have := g.ok k (h1 k hk)
      omega
    · obtain ⟨k, hk, rfl⟩ := List.mem_map.mp hx
      exact List.mem_map.mpr ⟨k, h1 k hk, rfl⟩
theorem m_fits_row (n : Nat) (l : List Int) : run Φ (n + 2) 5 [kitD K, tI l] .none = some (.bool (frB K l), .none) := by
  rw [run_fn f_fits_row rfl, S_fits_row]
  show retOf (exs (run Φ (n + 1)) _ [some (kitD K), some (tI l), none] _) = _
  have h1 := m_tupOf n (tI_plain l) 1 16
  have e1 : tupD (tI l) 1 16 = (decide (1 ≤ l.length) && decide (l.length ≤ 16)) := by
    unfold tI tupD
    simp only [List.length_map]
    congr 1
    · rw [decide_eq_decide]; omega
    · rw [decide_eq_decide]; omega
  rw [e1] at h1
  have hi : items .seq [tI l] = some (l.map .int) := rfl
  have hc : compL (turnC (run Φ (n + 1)) [some (kitD K), some (tI l), none] (.nm 2) [2] (.con (.bool true)) (.call 0 false [.var 2, .con (.int 1), .con (.int 8)])) (l.map .int) .none = some (l.map fun x => .bool (decide (1 ≤ x) && decide (x ≤ 8)), .none) := compL_map fun x hx => by
    have h5 := m_whole n (v := .int x) rfl 1 8
    simp [turnC, h5, wholeD]
  have ha := allMap l fun x => decide (1 ≤ x) && decide (x ≤ 8)
  have hc2 : compL (turnC (run Φ (n + 1)) [some (kitD K), some (tI l), none] (.nm 2) [2] (.con (.bool true)) (.prim .isin [.var 2, .prim .ix [.var 0, .con (.int 1)]])) (l.map .int) .none = some (l.map fun x => .bool (decide (x ∈ up K.ks)), .none) := compL_map fun x hx => by
    have h5 := in_tI x (up K.ks)
    have h5 : inD (.int x) (tN K.ks) = some (decide (x ∈ up K.ks)) := h5
    simp [turnC, kt1, h5]
  have ha2 := allMap l fun x => decide (x ∈ up K.ks)
  have hs := sumT l
  cases ht : (decide (1 ≤ l.length) && decide (l.length ≤ 16)) with
  | false =>
    rw [ht] at h1
    unfold frB
    rw [ht, x_cons]
    simp [S_fits_row_0, x_cons, h1]
  | true =>
    rw [ht] at h1
    cases hq : (l.all fun x => decide (1 ≤ x) && decide (x ≤ 8)) with
    | false =>
      rw [hq] at ha
      unfold frB
      rw [ht, hq, x_cons]
      simp [S_fits_row_0, x_cons, h1, hi, hc, ha]
    | true =>
      rw [hq] at ha
      unfold frB
      rw [ht, hq]
      rw [x_step (env' := [some (kitD K), some (tI l), none]) (w' := .none) (by
        simp only [S_fits_row_0, x_ifs, e_or, e_not, e_prim, e_comp, e_call, e_cons, e_nil, e_var, e_con, gE0, gES, Option.map_some, Option.bind_some, h1, Bool.false_and, Bool.false_eq_true, if_false, asB_b, Bool.not_true, hi, hc, p_all, ha, x_nil])]
      refine ret_ev ?_
      have hd : eqD (.int l.sum) (.int K.w) = some (decide (l.sum = K.w)) := eq_int' _ _
      simp only [e_and, e_prim, e_comp, e_cons, e_nil, e_var, e_con, gE0, gES, Option.map_some, Option.bind_some, hi, hc2, p_all, ha2, asB_b, p_sum, hs, p_ix, kt0, p_eq, hd, Bool.and_self, Bool.true_and]
      cases (l.all fun x => decide (x ∈ up K.ks)) <;> simp
theorem m_is_row (n : Nat) (l : List Int) : run Φ (n + 4) 12 [kitD K, tI l] .none = some (.bool (frB K l), .none) := by
  rw [run_fn f_is_row rfl, S_is_row]
  show retOf (exs (run Φ (n + 3)) _ [some (kitD K), some (tI l)] _) = _
  simp [S_is_row_0, S_is_row_1, x_cons, m_need_kit g n, m_fits_row g (n + 1) l]
theorem m_need_row (n : Nat) {r : List Nat} (h : r ∈ Rn K.ks K.w) : run Φ (n + 4) 6 [kitD K, tN r] .none = some (.none, .none) := by
  rw [run_fn f_need_row rfl, S_need_row]
  show retOf (exs (run Φ (n + 3)) _ [some (kitD K), some (tN r)] _) = _
  have h1 := m_fits_row g (n + 1) (up r)
  rw [(frB_iff g).mpr ⟨r, h, rfl⟩] at h1
  have h1 : run Φ (n + 3) 5 [kitD K, tN r] .none = some (.bool true, .none) := h1
  simp [S_need_row_0, S_need_row_1, x_cons, m_need_kit g n, h1]
  try rfl
/-! ### joints -/
omit g in
theorem take_sum {r : List Int} {j : Nat} {x : Int} (h : r[j]? = some x) : (r.take (j + 1)).sum = (r.take j).sum + x := by
  rw [List.take_add_one, h, List.sum_append]
  simp
def jn (r : List Int) : List Int := (List.range (r.length - 1)).map fun i => (r.take (i + 1)).sum
omit g in
theorem m_joints_in (n : Nat) {r : List Int} (h : r.length ≤ 1000) : run Φ (n + 1) 7 [tI r] .none = some (.list ((jn r).map .int), .none) := by
  rw [run_fn f_joints_in rfl, S_joints_in]
  show retOf (exs (run Φ n) _ [some (tI r), none, none, none] _) = _
  obtain ⟨_, env', w', ⟨hw', y3, rfl⟩, hf⟩ := forL_draw (f := loop1 (run Φ n) (.nm 3) S_joints_in_1_b)
    (fun (_ : Unit) (j : Nat) env w => w = .none ∧ ∃ y3, env = [some (tI r), some (.list (((List.range j).map fun i => (r.take (i + 1)).sum).map .int)), some (.int (r.take j).sum), y3])
    (xs := (r.take (r.length - 1)).map .int) (k := 0) (a := ()) (env := [some (tI r), some (.list []), some (.int 0), none]) (w := .none) ⟨rfl, none, rfl⟩ (fun j x hx u env w hi => by
      obtain ⟨rfl, y3, rfl⟩ := hi
      rw [Nat.zero_add]
      have hj := lt_of_get hx
      rw [List.length_map, List.length_take] at hj
      rw [List.getElem?_map, List.getElem?_take, if_pos (by omega), List.getElem?_eq_getElem (by omega)] at hx
      have hx := Option.some.inj hx
      subst hx
      have hts := take_sum (r := r) (j := j) (List.getElem?_eq_getElem (by omega))
      have ha := app_lst (xs := ((List.range j).map fun i => (r.take (i + 1)).sum).map PyData.int) (d := .int (r.take (j + 1)).sum) (by rw [List.length_map, List.length_map, List.length_range]; omega)
      have e : ((List.range j).map fun i => (r.take (i + 1)).sum).map PyData.int ++ [.int (r.take (j + 1)).sum] = ((List.range (j + 1)).map fun i => (r.take (i + 1)).sum).map PyData.int := by
        rw [List.range_succ, List.map_append, List.map_append]
        rfl
      rw [e] at ha
      refine ⟨(), [some (tI r), some (.list (((List.range (j + 1)).map fun i => (r.take (i + 1)).sum).map .int)), some (.int (r.take (j + 1)).sum), some (.int r[j])], .none, ⟨rfl, _, rfl⟩, ?_⟩
      unfold loop1
      simp only [b_nm, sES, sE0, Option.map_some, Option.bind_some]
      rw [S_joints_in_1_b]
      rw [x_step (env' := [some (tI r), some (.list (((List.range j).map fun i => (r.take (i + 1)).sum).map .int)), some (.int (r.take (j + 1)).sum), some (.int r[j])]) (w' := .none) (by
        simp only [S_joints_in_1_0, x_asg, e_prim, e_cons, e_nil, e_var, gE0, gES, Option.map_some, Option.bind_some, p_add, i_add, b_nm, sES, sE0, hts])]
      rw [x_last (r := (.nx, [some (tI r), some (.list (((List.range (j + 1)).map fun i => (r.take (i + 1)).sum).map .int)), some (.int (r.take (j + 1)).sum), some (.int r[j])], .none)) (by
        simp only [S_joints_in_1_1, x_app, e_var, gE0, gES, Option.map_some, Option.bind_some, ha, sES, sE0])])
  subst hw'
  rw [List.length_map, List.length_take, Nat.zero_add, Nat.min_eq_left (by omega)] at hf
  have hs : slD none (some (-1)) (tI r) = some (tI (r.take (r.length - 1))) := by
    show some (PyData.tuple (cutL _ none (some (-1)))) = _
    unfold cutL
    have e1 : HT.sIx (r.map PyData.int).length (r.map PyData.int).length (some (-1)) = r.length - 1 := by
      show (if (-1 : Int) < 0 then ((-1 : Int) + ((r.map PyData.int).length : Int)).toNat else min (-1 : Int).toNat (r.map PyData.int).length) = _
      rw [if_pos (by omega), List.length_map]
      omega
    rw [e1, HT.sIx_none]
    simp [tI]
  have hi : items .seq [tI (r.take (r.length - 1))] = some ((r.take (r.length - 1)).map .int) := rfl
  rw [x_step (env' := [some (tI r), some (.list []), some (.int 0), none]) (w' := .none) (by simp [S_joints_in_0])]
  rw [x_step (env' := [some (tI r), some (.list ((jn r).map .int)), some (.int (r.take (r.length - 1)).sum), y3]) (w' := .none) (by
    simp only [S_joints_in_1, x_for, e_prim, e_cons, e_nil, e_var, e_con, gE0, gES, Option.map_some, Option.bind_some, p_neg, p_sl01, hs, hi]
    exact hf)]
  exact ret_ev (by simp [S_joints_in_2])
theorem m_joints (n : Nat) {r : List Nat} (h : r ∈ Rn K.ks K.w) : run Φ (n + 5) 13 [kitD K, tN r] .none = some (tI (jn (up r)), .none) := by
  rw [run_fn f_joints rfl, S_joints]
  show retOf (exs (run Φ (n + 4)) _ [some (kitD K), some (tN r)] _) = _
  have h1 := m_joints_in (n + 3) (r := up r) (by rw [up_len]; have := (row_facts g h).2.2.1; omega)
  have h1 : run Φ (n + 4) 7 [tN r] .none = some (.list ((jn (up r)).map .int), .none) := h1
  have ht : tupleD (.list ((jn (up r)).map .int)) = some (tI (jn (up r))) := rfl
  rw [x_step (env' := [some (kitD K), some (tN r)]) (w' := .none) (by simp [S_joints_0, m_need_row g n h])]
  refine ret_ev ?_
  simp only [e_prim, e_call, e_cons, e_nil, e_var, gE0, gES, Option.map_some, Option.bind_some, h1, Bool.false_and, Bool.false_eq_true, if_false, p_tuple, ht]
omit g in
theorem m_law_joints (n : Nat) {r : List Int} (h : r.length ≤ 1000) : run Φ (n + 1) 23 [tI r] .none = some (.list ((jn r).map .int), .none) := by
  rw [run_fn f_u_law_joints rfl]
  show retOf (exs (run Φ n) b_u_law_joints [some (tI r), none] _) = _
  have hi := items_rngF (lo := 1) (hi := r.length) (by omega) (by omega) (by omega) (by omega) (by omega)
  have e : rngF 1 r.length = (List.range (r.length - 1)).map fun i : Nat => ((i + 1 : Nat) : Int) := by
    unfold rngF
    rw [show ((r.length : Int) - 1).toNat = r.length - 1 by omega]
    refine List.map_congr_left fun i _ => ?_
    omega
  rw [e, List.map_map] at hi
  have hc : compL (turnC (run Φ n) [some (tI r), none] (.nm 1) [1] (.con (.bool true)) (.prim .sum [.prim (.sl false true) [.var 0, .var 1]])) ((List.range (r.length - 1)).map (PyData.int ∘ fun i : Nat => ((i + 1 : Nat) : Int))) .none = some ((jn r).map .int, .none) := by
    unfold jn
    rw [List.map_map]
    exact compL_map fun i hi => by
      have h1 : slD none (some (((i + 1 : Nat)) : Int)) (tI r) = some (tI (r.take (i + 1))) := by
        show some (PyData.tuple (cutL _ none (some (((i + 1 : Nat)) : Int)))) = _
        rw [cut_to, ← List.map_take]
        rfl
      have h2 := sumT (r.take (i + 1))
      simp only [turnC, w_cons, w_nil, List.set_cons_succ, List.set_cons_zero, b_nm, sES, sE0, Option.map_some, Option.bind_some, e_con, asB_b, if_true, e_prim, e_cons, e_nil, e_var, gE0, gES, Function.comp_apply, p_sl01, h1, p_sum, h2]
  refine ret_ev ?_
  simp only [e_prim, e_comp, e_cons, e_nil, e_var, e_con, gE0, gES, Option.map_some, Option.bind_some, p_len, len_tI, hi, hc]
end
/-! ### numbers -/
theorem cts_get {K : Kit} {i : Nat} (h : i ≤ K.w) : (cts K)[i]? = some ((cn K.ks (K.w - i) : Nat) : Int) := by
  rw [← fj_all, fj_get h, if_pos (by omega)]
def rk (ks : List Nat) : Nat → List Nat → Nat
  | _, [] => 0
  | n, k :: t => ((ks.filter fun j => decide (j < k)).map fun j => cn ks (n - j)).sum + rk ks (n - k) t
theorem rk_get {ks : List Nat} (g : GK ks) : ∀ {r : List Nat} {n : Nat}, (∀ x ∈ r, x ∈ ks) → r.sum = n → (Rn ks n)[rk ks n r]? = some r
  | [], n, _, h => by
    have : n = 0 := by simpa using h.symm
    subst this
    rfl
  | k :: t, n, h, hs => by
    have hk := h k (List.mem_cons_self ..)
    have h1 := g.pos k hk
    rw [List.sum_cons] at hs
    obtain ⟨m, rfl⟩ : ∃ m, n = m + 1 := ⟨n - 1, by omega⟩
    exact rank_step g hk (by omega) (rk_get g (r := t) (n := m + 1 - k) (fun x hx => h x (List.mem_cons_of_mem _ hx)) (by omega))
/-- the number of a row is its place -/
theorem rk_ix {ks : List Nat} (g : GK ks) {n i : Nat} {r : List Nat} (h : (Rn ks n)[i]? = some r) : rk ks n r = i := by
  have hm := List.mem_of_getElem? h
  obtain ⟨h1, h2⟩ := (mem_Rn g).mp hm
  have h3 := rk_get g h1 h2
  have hlt : i < (Rn ks n).length := by
    rcases Nat.lt_or_ge i (Rn ks n).length with h4 | h4
    · exact h4
    · rw [List.getElem?_eq_none h4] at h
      cases h
  have hlt2 : rk ks n r < (Rn ks n).length := by
    rcases Nat.lt_or_ge (rk ks n r) (Rn ks n).length with h4 | h4
    · exact h4
    · rw [List.getElem?_eq_none h4] at h3
      cases h3
  have hnd : (Rn ks n).Nodup := (Rn_up g n).imp fun {a b} hab e => by
    subst e
    exact List.lt_irrefl _ hab
  rw [List.getElem?_eq_getElem hlt] at h
  rw [List.getElem?_eq_getElem hlt2] at h3
  exact (List.getElem_inj hnd).mp ((Option.some.inj h3).trans (Option.some.inj h).symm)
section
variable {K : Kit} (g : GK' K)
include g
theorem num_loop (n : Nat) (r0 : D) : ∀ (t : List Nat) (here : Nat) (found : Int) (x5 : Option D), (∀ x ∈ t, x ∈ K.ks) → here + t.sum = K.w →
    ∃ h5 x5', forL (loop1 (run Φ n) (.nm 5) S_number_of_2_b) (t.map fun x : Nat => PyData.int (x : Int)) [some (kitD K), some r0, some (.list ((cts K).map .int)), some (.int found), some (.int here), x5, none] .none = some (.nx, [some (kitD K), some r0, some (.list ((cts K).map .int)), some (.int (found + (rk K.ks (K.w - here) t : Nat))), some (.int h5), x5', none], .none)
  | [], here, found, x5, _, _ => ⟨here, x5, by simp [forL, rk]⟩
  | k :: t, here, found, x5, h, hs => by
    rw [List.sum_cons] at hs
    have hk := h k (List.mem_cons_self ..)
    have hk1 := (g.ok k hk).1
    obtain ⟨h5, x5', e⟩ := num_loop n r0 t (here + k) (found + (((K.ks.filter fun j => decide (j < k)).map fun j => cn K.ks (K.w - here - j)).sum : Nat)) (some (.int k)) (fun x hx => h x (List.mem_cons_of_mem _ hx)) (by omega)
    refine ⟨h5, x5', ?_⟩
    rw [List.map_cons, forL]
    have hc : compL (turnC (run Φ n) [some (kitD K), some r0, some (.list ((cts K).map .int)), some (.int found), some (.int here), some (.int k), none] (.nm 6) [6] (.prim .lt [.var 6, .var 5]) (.prim .ix [.var 2, .prim .add [.var 4, .var 6]])) (K.ks.map fun x : Nat => PyData.int (x : Int)) .none = some ((up ((K.ks.filter fun j => decide (j < k)).map fun j => cn K.ks (K.w - here - j))).map .int, .none) := by
      unfold up
      rw [List.map_map, List.map_map]
      exact compL_filter fun j hj => by
        by_cases hlt : j < k
        · have h1 : ((j : Int) < (k : Int)) := by omega
          have h2 : ixD (.list ((cts K).map .int)) (.int ((here : Int) + (j : Int))) = some (.int ((cn K.ks (K.w - here - j) : Nat) : Int)) := by
            rw [show (here : Int) + (j : Int) = ((here + j : Nat) : Int) by omega]
            refine ix_L ?_
            rw [cts_get (by omega), Nat.sub_add_eq]
          simp only [turnC, w_cons, w_nil, List.set_cons_succ, List.set_cons_zero, b_nm, sES, sE0, Option.map_some, Option.bind_some, e_prim, e_cons, e_nil, e_var, gE0, gES, p_lt, i_lt, decide_eq_true h1, asB_b, if_true, p_add, i_add, p_ix, h2, decide_eq_true hlt]
          rfl
        · have h1 : ¬ ((j : Int) < (k : Int)) := by omega
          simp only [turnC, w_cons, w_nil, List.set_cons_succ, List.set_cons_zero, b_nm, sES, sE0, Option.map_some, Option.bind_some, e_prim, e_cons, e_nil, e_var, gE0, gES, p_lt, i_lt, decide_eq_false h1, asB_b, Bool.false_eq_true, if_false, decide_eq_false hlt]
    have hsm := sumL (up ((K.ks.filter fun j => decide (j < k)).map fun j => cn K.ks (K.w - here - j)))
    rw [up_sum] at hsm
    have : loop1 (run Φ n) (.nm 5) S_number_of_2_b (.int k) [some (kitD K), some r0, some (.list ((cts K).map .int)), some (.int found), some (.int here), x5, none] .none = some (.nx, [some (kitD K), some r0, some (.list ((cts K).map .int)), some (.int (found + (((K.ks.filter fun j => decide (j < k)).map fun j => cn K.ks (K.w - here - j)).sum : Nat))), some (.int ((here + k : Nat) : Int)), some (.int k), none], .none) := by
      unfold loop1
      simp only [b_nm, sES, sE0, Option.map_some, Option.bind_some]
      rw [S_number_of_2_b]
      rw [x_step (env' := [some (kitD K), some r0, some (.list ((cts K).map .int)), some (.int (found + (((K.ks.filter fun j => decide (j < k)).map fun j => cn K.ks (K.w - here - j)).sum : Nat))), some (.int here), some (.int k), none]) (w' := .none) (by
        simp only [S_number_of_2_0, x_asg, e_prim, e_comp, e_cons, e_nil, e_var, e_con, gE0, gES, Option.map_some, Option.bind_some, p_ix, kt1, items_tN, hc, p_sum, hsm, p_add, i_add, b_nm, sES, sE0])]
      rw [x_last (r := (.nx, [some (kitD K), some r0, some (.list ((cts K).map .int)), some (.int (found + (((K.ks.filter fun j => decide (j < k)).map fun j => cn K.ks (K.w - here - j)).sum : Nat))), some (.int ((here + k : Nat) : Int)), some (.int k), none], .none)) (by
        simp only [S_number_of_2_1, x_asg, e_prim, e_cons, e_nil, e_var, gE0, gES, Option.map_some, Option.bind_some, p_add, i_add, b_nm, sES, sE0]
        rw [show ((here + k : Nat) : Int) = (here : Int) + (k : Int) by omega])]
    rw [this]
    simp only [Option.bind_some]
    rw [e, rk]
    rw [show K.w - (here + k) = K.w - here - k by omega]
    rw [show ((((K.ks.filter fun j => decide (j < k)).map fun j => cn K.ks (K.w - here - j)).sum + rk K.ks (K.w - here - k) t : Nat) : Int) = (((K.ks.filter fun j => decide (j < k)).map fun j => cn K.ks (K.w - here - j)).sum : Nat) + (rk K.ks (K.w - here - k) t : Nat) by omega, Int.add_assoc]
theorem m_number_of (n : Nat) {r : List Nat} (h : r ∈ Rn K.ks K.w) : run Φ (n + 5) 16 [kitD K, tN r] .none = some (.int (rk K.ks K.w r : Nat), .none) := by
  rw [run_fn f_number_of rfl, S_number_of]
  show retOf (exs (run Φ (n + 4)) _ [some (kitD K), some (tN r), none, none, none, none, none] _) = _
  obtain ⟨h1, h2, h3, h4⟩ := row_facts g h
  obtain ⟨h5, x5, e⟩ := num_loop g (n + 4) (tN r) r 0 0 none h1 (by omega)
  rw [x_step (env' := [some (kitD K), some (tN r), none, none, none, none, none]) (w' := .none) (by simp [S_number_of_0, m_need_row g n h])]
  rw [x_step (env' := [some (kitD K), some (tN r), some (.list ((cts K).map .int)), some (.int 0), some (.int 0), none, none]) (w' := .none) (by
    simp only [S_number_of_1, x_asg, e_prim, e_call, e_cons, e_nil, e_var, e_con, gE0, gES, Option.map_some, Option.bind_some, p_lst, m_counts g (n + 3), Bool.false_and, Bool.false_eq_true, if_false, p_tup, b_tp, b_cons, b_nil, b_nm, sES, sE0])]
  rw [x_step (env' := [some (kitD K), some (tN r), some (.list ((cts K).map .int)), some (.int (0 + (rk K.ks (K.w - 0) r : Nat))), some (.int h5), x5, none]) (w' := .none) (by
    simp only [S_number_of_2, x_for, e_cons, e_nil, e_var, gE0, gES, Option.map_some, Option.bind_some, items_tN]
    exact e)]
  refine ret_ev ?_
  simp
theorem m_count_rows (n : Nat) : run Φ (n + 4) 14 [kitD K] .none = some (.int (cn K.ks K.w : Nat), .none) := by
  rw [run_fn f_count_rows rfl, S_count_rows]
  show retOf (exs (run Φ (n + 3)) _ [some (kitD K)] _) = _
  rw [x_step (env' := [some (kitD K)]) (w' := .none) (by simp [S_count_rows_0, m_need_kit g n])]
  have h := ix_L (cts_get (K := K) (i := 0) (by omega))
  have h : ixD (.list ((cts K).map .int)) (.int 0) = some (.int (cn K.ks K.w : Nat)) := h
  refine ret_ev ?_
  simp only [e_prim, e_call, e_cons, e_nil, e_var, e_con, gE0, Option.map_some, Option.bind_some, p_lst, m_counts g (n + 2), Bool.false_and, Bool.false_eq_true, if_false, p_ix, h]
end
end K76
set_option Elab.async false
set_option linter.all false
set_option maxRecDepth 100000
set_option maxHeartbeats 200000
namespace K76
open PySem L2 PySem.Spec PyI

def wc (n : Nat) (c : PyI.E) : Ev → D → Option (Bool × D) := fun env w => (ev (run Φ n) c env w).bind fun r => (asB r.1).map fun b => (b, r.2)
def wf (n : Nat) (b : List PyI.S) : Ev → D → Option (Fl × Ev × D) := fun env w => exs (run Φ n) b env w
theorem w_go {n m : Nat} {c : PyI.E} {b : List PyI.S} {env env' : Ev} {w : D} (h1 : wc n c env w = some (true, w)) (h2 : wf n b env w = some (.nx, env', w)) : whileL (wc n c) (wf n b) (m + 1) env w = whileL (wc n c) (wf n b) m env' w := by
  rw [whileL, h1]
  simp only [Option.bind_some, if_true]
  rw [h2]
  rfl
theorem w_stop {n m : Nat} {c : PyI.E} {b : List PyI.S} {env : Ev} {w : D} (h1 : wc n c env w = some (false, w)) : whileL (wc n c) (wf n b) (m + 1) env w = some (.nx, env, w) := by
  rw [whileL, h1]
  rfl
theorem add_tN (r : List Nat) (k : Nat) (h : r.length ≤ 1000) : addD (tN r) (.tuple [.int (k : Int)]) = some (tN (r ++ [k])) := by
  unfold tN tI
  rw [addTup (by simp [up]; omega), up_app, List.map_append]
  rfl
section
variable {K : Kit} (g : GK' K)
include g
/-! ### a row by its number -/
def eR (K : Kit) (m : Int) (row : List Nat) (x4 x5 x6 : Option D) : Ev := [some (kitD K), some (.int m), some (.list ((cts K).map .int)), some (tN row), x4, x5, x6]
omit g in
theorem pick_loop (n : Nat) {row : List Nat} (hr : row.length ≤ 1000) {rem : Nat} (hs : row.sum + rem = K.w) : ∀ (l : List Nat) (m : Nat) {k m' : Nat} (x5 x6 : Option D), pick K.ks rem l m = some (k, m') →
    ∃ x5' x6', forL (loop1 (run Φ n) (.nm 5) S_row_with_3_1_b) (l.map fun x : Nat => PyData.int (x : Int)) (eR K m row (some (.int (row.sum : Nat))) x5 x6) .none = some (.nx, eR K m' (row ++ [k]) (some (.int (row.sum : Nat))) x5' x6', .none)
  | [], m, k, m', x5, x6, h => by cases h
  | j :: t, m, k, m', x5, x6, h => by
    rw [pick] at h
    rw [List.map_cons, forL]
    have hown : ev (run Φ n) (.ite (.prim .le [.prim .add [.var 4, .var 5], .prim .ix [.var 0, .con (.int 0)]]) (.prim .ix [.var 2, .prim .add [.var 4, .var 5]]) (.con (.int 0))) (eR K m row (some (.int (row.sum : Nat))) (some (.int j)) x6) .none = some (.int ((if j ≤ rem then cn K.ks (rem - j) else 0 : Nat) : Int), .none) := by
      by_cases hj : j ≤ rem
      · have h1 : ((row.sum : Nat) : Int) + (j : Int) ≤ (K.w : Int) := by omega
        have h2 : ixD (.list ((cts K).map .int)) (.int (((row.sum : Nat) : Int) + (j : Int))) = some (.int ((cn K.ks (rem - j) : Nat) : Int)) := by
          rw [show ((row.sum : Nat) : Int) + (j : Int) = ((row.sum + j : Nat) : Int) by omega]
          refine ix_L ?_
          rw [cts_get (by omega), show K.w - (row.sum + j) = rem - j by omega]
        rw [if_pos hj]
        simp only [eR, e_ite, e_prim, e_cons, e_nil, e_var, e_con, gE0, gES, Option.map_some, Option.bind_some, p_add, i_add, p_ix, kt0, p_le, i_le, decide_eq_true h1, asB_b, if_true, h2]
      · have h1 : ¬ (((row.sum : Nat) : Int) + (j : Int) ≤ (K.w : Int)) := by omega
        rw [if_neg hj]
        simp only [eR, e_ite, e_prim, e_cons, e_nil, e_var, e_con, gE0, gES, Option.map_some, Option.bind_some, p_add, i_add, p_ix, kt0, p_le, i_le, decide_eq_false h1, asB_b, Bool.false_eq_true, if_false]
        rfl
    obtain ⟨own, hO⟩ : ∃ own, own = if j ≤ rem then cn K.ks (rem - j) else 0 := ⟨_, rfl⟩
    rw [← hO] at hown h
    have s0 : ex (run Φ n) S_row_with_3_1_0 (eR K m row (some (.int (row.sum : Nat))) (some (.int j)) x6) .none = some (.nx, eR K m row (some (.int (row.sum : Nat))) (some (.int j)) (some (.int (own : Int))), .none) := by
      rw [S_row_with_3_1_0, x_asg, hown]
      simp only [eR, Option.bind_some, b_nm, sES, sE0, Option.map_some]
    by_cases hm : m < own
    · rw [if_pos hm] at h
      cases h
      have h1 : ((m : Int) < (own : Int)) := by omega
      have ha := add_tN row j hr
      refine ⟨some (.int j), some (.int (own : Int)), ?_⟩
      have : loop1 (run Φ n) (.nm 5) S_row_with_3_1_b (.int j) (eR K m row (some (.int (row.sum : Nat))) x5 x6) .none = some (.bk, eR K m (row ++ [j]) (some (.int (row.sum : Nat))) (some (.int j)) (some (.int (own : Int))), .none) := by
        unfold loop1
        rw [show PyI.bindT (.nm 5) (.int j) (eR K m row (some (.int (row.sum : Nat))) x5 x6) = some (eR K m row (some (.int (row.sum : Nat))) (some (.int j)) x6) from by simp [eR]]
        simp only [Option.bind_some]
        rw [S_row_with_3_1_b, x_step s0, x_cons]
        have s1 : ex (run Φ n) S_row_with_3_1_1 (eR K m row (some (.int (row.sum : Nat))) (some (.int j)) (some (.int (own : Int)))) .none = some (.bk, eR K m (row ++ [j]) (some (.int (row.sum : Nat))) (some (.int j)) (some (.int (own : Int))), .none) := by
          simp only [S_row_with_3_1_1, eR, x_ifs, e_prim, e_cons, e_nil, e_var, gE0, gES, Option.map_some, Option.bind_some, p_lt, i_lt, decide_eq_true h1, asB_b, if_true, S_row_with_3_1_1t_b, S_row_with_3_1_1t_0, S_row_with_3_1_1t_1, x_cons, x_asg, p_tup, p_add, ha, b_nm, sES, sE0, x_brk]
        rw [s1]
        rfl
      rw [this]
      rfl
    · rw [if_neg hm] at h
      have h1 : ¬ ((m : Int) < (own : Int)) := by omega
      obtain ⟨y5, y6, e⟩ := pick_loop n hr hs t (m - own) (some (.int j)) (some (.int (own : Int))) h
      refine ⟨y5, y6, ?_⟩
      have : loop1 (run Φ n) (.nm 5) S_row_with_3_1_b (.int j) (eR K m row (some (.int (row.sum : Nat))) x5 x6) .none = some (.nx, eR K ((m - own : Nat) : Int) row (some (.int (row.sum : Nat))) (some (.int j)) (some (.int (own : Int))), .none) := by
        unfold loop1
        rw [show PyI.bindT (.nm 5) (.int j) (eR K m row (some (.int (row.sum : Nat))) x5 x6) = some (eR K m row (some (.int (row.sum : Nat))) (some (.int j)) x6) from by simp [eR]]
        simp only [Option.bind_some]
        rw [S_row_with_3_1_b, x_step s0]
        rw [x_step (env' := eR K m row (some (.int (row.sum : Nat))) (some (.int j)) (some (.int (own : Int)))) (w' := .none) (by
          simp only [S_row_with_3_1_1, eR, x_ifs, e_prim, e_cons, e_nil, e_var, gE0, gES, Option.map_some, Option.bind_some, p_lt, i_lt, decide_eq_false h1, asB_b, Bool.false_eq_true, if_false, x_nil])]
        rw [x_last (r := (.nx, eR K ((m - own : Nat) : Int) row (some (.int (row.sum : Nat))) (some (.int j)) (some (.int (own : Int))), .none)) (by
          simp only [S_row_with_3_1_2, eR, x_asg, e_prim, e_cons, e_nil, e_var, gE0, gES, Option.map_some, Option.bind_some, p_sub, i_sub, b_nm, sES, sE0]
          rw [show (m : Int) - (own : Int) = ((m - own : Nat) : Int) by omega])]
      rw [this]
      exact e
theorem with_loop (n : Nat) : ∀ (rem : Nat) (row : List Nat) (m : Nat) (x4 x5 x6 : Option D), row.length + rem ≤ 100 → row.sum + rem = K.w → m < cn K.ks rem →
    ∃ u m' y4 y5 y6 N, (Rn K.ks rem)[m]? = some u ∧ N ≤ rem ∧ ∀ f, whileL (wc n (.prim .ne [.prim .sum [.var 3], .prim .ix [.var 0, .con (.int 0)]])) (wf n S_row_with_3_b) (N + f) (eR K m row x4 x5 x6) .none = whileL (wc n (.prim .ne [.prim .sum [.var 3], .prim .ix [.var 0, .con (.int 0)]])) (wf n S_row_with_3_b) f (eR K m' (row ++ u) y4 y5 y6) .none
  | 0, row, m, x4, x5, x6, _, _, hm => by
    rw [cn_zero] at hm
    have : m = 0 := by omega
    subst this
    exact ⟨[], 0, x4, x5, x6, 0, rfl, Nat.le_refl _, fun f => by rw [List.append_nil, Nat.zero_add]; rfl⟩
  | rem + 1, row, m, x4, x5, x6, hl, hs, hm => by
    have hm2 := hm
    rw [cn_succ g.g] at hm2
    obtain ⟨⟨k, m'⟩, hp⟩ := pick_some (ks := K.ks) hm2
    obtain ⟨hk, hkn, hm', _⟩ := pick_get hp
    have hk1 := (g.ok k hk).1
    obtain ⟨y5, y6, e⟩ := pick_loop (K := K) n (row := row) (by omega) (rem := rem + 1) hs K.ks m x5 x6 hp
    obtain ⟨u, mm, z4, z5, z6, N, h1, h2, h3⟩ := with_loop n (rem + 1 - k) (row ++ [k]) m' (some (.int (row.sum : Nat))) y5 y6 (by simp; omega) (by simp; omega) hm'
    refine ⟨k :: u, mm, z4, z5, z6, N + 1, by rw [pick_row g.g hp, h1]; rfl, by omega, fun f => ?_⟩
    rw [show N + 1 + f = (N + f) + 1 by omega, w_go (env' := eR K m' (row ++ [k]) (some (.int (row.sum : Nat))) y5 y6), h3]
    · rw [List.append_assoc]
      rfl
    · have hd : eqD (.int (row.sum : Nat)) (.int K.w) = some false := by
        rw [eq_int', decide_eq_false (by omega)]
      unfold wc eR
      simp only [e_prim, e_cons, e_nil, e_var, e_con, gE0, gES, Option.map_some, Option.bind_some, p_sum, sum_tN, p_ix, kt0, p_ne, hd, Bool.not_false, asB_b]
    · unfold wf
      rw [S_row_with_3_b]
      rw [x_step (env' := eR K m row (some (.int (row.sum : Nat))) x5 x6) (w' := .none) (by
        simp only [S_row_with_3_0, eR, x_asg, e_prim, e_cons, e_nil, e_var, gE0, gES, Option.map_some, Option.bind_some, p_sum, sum_tN, b_nm, sES, sE0])]
      refine x_last ?_
      unfold eR at e ⊢
      simp only [S_row_with_3_1, x_for, e_prim, e_cons, e_nil, e_var, e_con, gE0, gES, Option.map_some, Option.bind_some, p_ix, kt1, items_tN]
      exact e
termination_by rem => rem
theorem m_row_with (n : Nat) {m : Nat} (hm : m < cn K.ks K.w) : ∃ u, (Rn K.ks K.w)[m]? = some u ∧ run Φ (n + 4) 15 [kitD K, .int m] .none = some (tN u, .none) := by
  rw [run_fn f_row_with rfl, S_row_with]
  show ∃ u, _ ∧ retOf (exs (run Φ (n + 3)) _ [some (kitD K), some (.int m), none, none, none, none, none] _) = _
  have w16 := g.w16
  obtain ⟨u, mm, z4, z5, z6, N, h1, h2, h3⟩ := with_loop g (n + 3) K.w [] m none none none (by simp; omega) (by simp) hm
  refine ⟨u, h1, ?_⟩
  rw [x_step (env' := [some (kitD K), some (.int m), none, none, none, none, none]) (w' := .none) (by simp [S_row_with_0, m_need_kit g n])]
  rw [x_step (env' := eR K m [] none none none) (w' := .none) (by
    simp only [S_row_with_1, x_par, e_prim, e_call, e_cons, e_nil, e_var, gE0, gES, Option.map_some, Option.bind_some, p_lst, m_counts g (n + 2), Bool.false_and, Bool.false_eq_true, if_false, p_tup, sets_cons, sets_nil, sES, sE0]
    rfl)]
  have hix := ix_L (cts_get (K := K) (i := 0) (by omega))
  have hix : ixD (.list ((cts K).map .int)) (.int 0) = some (.int (cn K.ks K.w : Nat)) := hix
  have hwh := m_whole (n + 2) (v := .int m) rfl 0 ((cn K.ks K.w : Nat) - 1)
  have ew : wholeD (.int m) 0 ((cn K.ks K.w : Nat) - 1) = true := by simp [wholeD]; omega
  rw [ew] at hwh
  rw [x_step (env' := eR K m [] none none none) (w' := .none) (by
    simp only [S_row_with_2, eR, x_ifs, e_not, e_prim, e_call, e_cons, e_nil, e_var, e_con, gE0, gES, Option.map_some, Option.bind_some, p_ix, hix, p_sub, i_sub, hwh, Bool.false_and, Bool.false_eq_true, if_false, asB_b, Bool.not_true, x_nil])]
  have hsum : u.sum = K.w := ((mem_Rn g.g).mp (List.mem_of_getElem? h1)).2
  rw [x_step (env' := eR K mm u z4 z5 z6) (w' := .none) (by
    rw [S_row_with_3, ex]
    show whileL (wc (n + 3) _) (wf (n + 3) S_row_with_3_b) FUEL _ _ = _
    obtain ⟨f, hf⟩ : ∃ f, FUEL = N + (f + 1) := ⟨2 ^ 40 - N - 1, by unfold FUEL; omega⟩
    rw [hf, h3, List.nil_append, w_stop]
    have hd : eqD (.int (u.sum : Nat)) (.int K.w) = some true := by
      rw [eq_int', decide_eq_true (by omega)]
    unfold wc eR
    simp only [e_prim, e_cons, e_nil, e_var, e_con, gE0, gES, Option.map_some, Option.bind_some, p_sum, sum_tN, p_ix, kt0, p_ne, hd, Bool.not_true, asB_b])]
  exact ret_ev (by simp [eR])
/-! ### all rows, depth first -/
def eD (K : Kit) (S F : List (List Nat)) (x5 x6 x7 : Option D) : Ev := [some (kitD K), some (.list []), some (.list ((cts K).map .int)), some (.list (S.map tN)), some (.list (F.map tN)), x5, x6, x7, none]
theorem eq_nilD {xs : List D} (hp : PyData.plainAll xs = true) : eqD (.list xs) (.list []) = some xs.isEmpty := by
  have h : ((PyData.list xs).plain && (PyData.list []).plain && dep2 (.list xs) (.list [])) = true := by
    have h1 : (PyData.list xs).plain = true := by simpa using hp
    have h2 : (PyData.list []).plain = true := by simp
    have h3 : dep2 (.list xs) (.list []) = true := by
      unfold dep2
      rw [decide_eq_true_iff]
      have : PyData.depth (.list []) ≤ 60 := by decide
      exact Nat.le_trans (Nat.min_le_right _ _) this
    rw [h1, h2, h3]
    rfl
  unfold eqD
  rw [if_pos h]
  cases xs with
  | nil => rfl
  | cons x xs => rfl
omit g in
theorem rows_plain (S : List (List Nat)) : PyData.plainAll (S.map tN) = true := plainAll_of fun x hx => by
  obtain ⟨r, _, rfl⟩ := List.mem_map.mp hx
  exact tN_plain r
omit g in
theorem pop_row (S : List (List Nat)) (r : List Nat) : popE (.list ((S ++ [r]).map tN)) = some (tN r, .list (S.map tN)) := by
  rw [List.map_append]
  show ((S.map tN ++ [tN r])[(S.map tN ++ [tN r]).length - 1]?).map _ = _
  rw [List.length_append, List.length_singleton, Nat.add_sub_cancel, List.getElem?_append_right (Nat.le_refl _), Nat.sub_self]
  simp
def goodD (K : Kit) (rem : Nat) : List Nat := K.ks.filter fun k => decide (k ≤ rem) && decide (0 < cn K.ks (rem - k))
theorem good_Rn (n : Nat) : (goodD K (n + 1)).flatMap (fun k => (Rn K.ks (n + 1 - k)).map (k :: ·)) = Rn K.ks (n + 1) := by
  rw [Rn_succ g.g]
  unfold goodD
  have : ∀ l : List Nat, (l.filter fun k => decide (k ≤ n + 1) && decide (0 < cn K.ks (n + 1 - k))).flatMap (fun k => (Rn K.ks (n + 1 - k)).map (k :: ·)) = (l.filter fun k => decide (k ≤ n + 1)).flatMap fun k => (Rn K.ks (n + 1 - k)).map (k :: ·) := by
    intro l
    induction l with
    | nil => rfl
    | cons k l ih =>
      by_cases h1 : k ≤ n + 1
      · rw [List.filter_cons_of_pos (p := fun k => decide (k ≤ n + 1)) (by simpa using h1), List.flatMap_cons]
        by_cases h2 : 0 < cn K.ks (n + 1 - k)
        · rw [List.filter_cons_of_pos (by simp [h1, h2]), List.flatMap_cons, ih]
        · rw [List.filter_cons_of_neg (by simp [h1, h2]), ih]
          have : Rn K.ks (n + 1 - k) = [] := List.length_eq_zero_iff.mp (by rw [Rn_len]; omega)
          rw [this]
          rfl
      · rw [List.filter_cons_of_neg (p := fun k => decide (k ≤ n + 1)) (by simpa using h1), List.filter_cons_of_neg (by simp [h1]), ih]
  exact this _
theorem good_len (rem : Nat) : (goodD K rem).length ≤ 4 := by
  have := List.length_filter_le (fun k => decide (k ≤ rem) && decide (0 < cn K.ks (rem - k))) K.ks
  have := g.n4
  unfold goodD
  omega
theorem wf_end (n : Nat) {S F : List (List Nat)} {r : List Nat} (hs : r.sum = K.w) (hF : F.length ≤ 100000) (x5 x6 x7 : Option D) : wf n S_rows_in_1_b (eD K (S ++ [r]) F x5 x6 x7) .none = some (.nx, eD K S (F ++ [r]) (some (tN r)) (some (.int (r.sum : Nat))) x7, .none) := by
  unfold wf
  rw [S_rows_in_1_b]
  rw [x_step (env' := eD K S F (some (tN r)) x6 x7) (w' := .none) (by
    simp only [S_rows_in_1_0, eD, ex, gE0, gES, Option.bind_some, pop_row, sES, sE0, Option.map_some, b_nm])]
  rw [x_step (env' := eD K S F (some (tN r)) (some (.int (r.sum : Nat))) x7) (w' := .none) (by
    simp only [S_rows_in_1_1, eD, x_asg, e_prim, e_cons, e_nil, e_var, gE0, gES, Option.map_some, Option.bind_some, p_sum, sum_tN, b_nm, sES, sE0])]
  have hd : eqD (.int (r.sum : Nat)) (.int K.w) = some true := by
    rw [eq_int', decide_eq_true (by omega)]
  have ha := app_lst (xs := F.map tN) (d := tN r) (by rw [List.length_map]; omega)
  refine x_last ?_
  simp only [S_rows_in_1_2, eD, x_ifs, e_prim, e_cons, e_nil, e_var, e_con, gE0, gES, Option.map_some, Option.bind_some, p_ix, kt0, p_eq, hd, asB_b, if_true, x_cons, x_app, ha, sES, sE0, x_nil, List.map_append, List.map_cons, List.map_nil]
theorem wf_more (n : Nat) {S F : List (List Nat)} {r : List Nat} {rem : Nat} (hs : r.sum + (rem + 1) = K.w) (hr : r.length ≤ 100) (hS : S.length ≤ 10000) (x5 x6 x7 : Option D) : wf n S_rows_in_1_b (eD K (S ++ [r]) F x5 x6 x7) .none = some (.nx, eD K (S ++ (goodD K (rem + 1)).reverse.map fun k => r ++ [k]) F (some (tN r)) (some (.int (r.sum : Nat))) (some (.list ((goodD K (rem + 1)).map fun x : Nat => PyData.int (x : Int)))), .none) := by
  unfold wf
  rw [S_rows_in_1_b]
  rw [x_step (env' := eD K S F (some (tN r)) x6 x7) (w' := .none) (by
    simp only [S_rows_in_1_0, eD, ex, gE0, gES, Option.bind_some, pop_row, sES, sE0, Option.map_some, b_nm])]
  rw [x_step (env' := eD K S F (some (tN r)) (some (.int (r.sum : Nat))) x7) (w' := .none) (by
    simp only [S_rows_in_1_1, eD, x_asg, e_prim, e_cons, e_nil, e_var, gE0, gES, Option.map_some, Option.bind_some, p_sum, sum_tN, b_nm, sES, sE0])]
  have hd : eqD (.int (r.sum : Nat)) (.int K.w) = some false := by
    rw [eq_int', decide_eq_false (by omega)]
  have hc : compL (turnC (run Φ n) (eD K S F (some (tN r)) (some (.int (r.sum : Nat))) x7) (.nm 8) [8] (.and (.prim .le [.prim .add [.var 6, .var 8], .prim .ix [.var 0, .con (.int 0)]]) (.prim .gt [.prim .ix [.var 2, .prim .add [.var 6, .var 8]], .con (.int 0)])) (.var 8)) (K.ks.map fun x : Nat => PyData.int (x : Int)) .none = some ((goodD K (rem + 1)).map fun x : Nat => PyData.int (x : Int), .none) := by
    unfold goodD
    exact compL_filter fun k hk => by
      by_cases hle : k ≤ rem + 1
      · have h1 : ((r.sum : Nat) : Int) + (k : Int) ≤ (K.w : Int) := by omega
        have h2 : ixD (.list ((cts K).map .int)) (.int (((r.sum : Nat) : Int) + (k : Int))) = some (.int ((cn K.ks (rem + 1 - k) : Nat) : Int)) := by
          rw [show ((r.sum : Nat) : Int) + (k : Int) = ((r.sum + k : Nat) : Int) by omega]
          refine ix_L ?_
          rw [cts_get (by omega), show K.w - (r.sum + k) = rem + 1 - k by omega]
        by_cases hc : 0 < cn K.ks (rem + 1 - k)
        · have h3 : (0 : Int) < ((cn K.ks (rem + 1 - k) : Nat) : Int) := by omega
          simp [turnC, eD, kt0, h1, h2, h3, hle, hc]
        · have h3 : ¬ (0 : Int) < ((cn K.ks (rem + 1 - k) : Nat) : Int) := by omega
          simp [turnC, eD, kt0, h1, h2, h3, hle, hc]
      · have h1 : ¬ (((r.sum : Nat) : Int) + (k : Int) ≤ (K.w : Int)) := by omega
        simp [turnC, eD, kt0, h1, hle]
  have hrev : revD (.list ((goodD K (rem + 1)).map fun x : Nat => PyData.int (x : Int))) = some (.list ((goodD K (rem + 1)).reverse.map fun x : Nat => PyData.int (x : Int))) := by
    show some (PyData.list (List.reverse _)) = _
    rw [List.map_reverse]
  have hi : items .seq [.list ((goodD K (rem + 1)).reverse.map fun x : Nat => PyData.int (x : Int))] = some ((goodD K (rem + 1)).reverse.map fun x : Nat => PyData.int (x : Int)) := rfl
  have hc2 : compL (turnC (run Φ n) (eD K S F (some (tN r)) (some (.int (r.sum : Nat))) (some (.list ((goodD K (rem + 1)).map fun x : Nat => PyData.int (x : Int))))) (.nm 8) [8] (.con (.bool true)) (.prim .add [.var 5, .prim .tup [.var 8]])) ((goodD K (rem + 1)).reverse.map fun x : Nat => PyData.int (x : Int)) .none = some (((goodD K (rem + 1)).reverse.map fun k => r ++ [k]).map tN, .none) := by
    rw [List.map_map]
    exact compL_map fun k hk => by
      have ha := add_tN r k (by omega)
      simp [turnC, eD, ha]
  have hgl := good_len g (rem + 1)
  have hex := ext_lst (xs := S.map tN) (ys := ((goodD K (rem + 1)).reverse.map fun k => r ++ [k]).map tN) (by simp; omega)
  refine x_last ?_
  simp only [eD] at hc hc2
  simp only [S_rows_in_1_2, eD, x_ifs, e_prim, e_cons, e_nil, e_var, e_con, gE0, gES, Option.map_some, Option.bind_some, p_ix, kt0, p_eq, hd, asB_b, Bool.false_eq_true, if_false, S_rows_in_1_2e_b, S_rows_in_1_2e_0, S_rows_in_1_2e_1, x_cons, x_asg, e_comp, kt1, items_tN, hc, b_nm, sES, sE0, x_ext, p_rev, hrev, hi, hc2, hex, x_nil, List.map_append]
theorem dfs (n : Nat) : ∀ (rem : Nat) (r : List Nat) (S F : List (List Nat)) (x5 x6 x7 : Option D), r.sum + rem = K.w → r.length + rem ≤ 100 → F.length + 2 ^ rem ≤ 100000 → S.length + 4 * rem ≤ 1000 →
    ∃ N y5 y6 y7, N ≤ 5 ^ rem ∧ ∀ f, whileL (wc n (.prim .ne [.var 3, .prim .lst []])) (wf n S_rows_in_1_b) (N + f) (eD K (S ++ [r]) F x5 x6 x7) .none = whileL (wc n (.prim .ne [.var 3, .prim .lst []])) (wf n S_rows_in_1_b) f (eD K S (F ++ (Rn K.ks rem).map fun u => r ++ u) y5 y6 y7) .none
  | 0, r, S, F, x5, x6, x7, hs, hl, hF, hS => by
    refine ⟨1, some (tN r), some (.int (r.sum : Nat)), x7, Nat.le_refl _, fun f => ?_⟩
    have hq := eq_nilD g (rows_plain (S ++ [r]))
    have hemp : ((S ++ [r]).map tN).isEmpty = false := by cases S <;> rfl
    rw [hemp] at hq
    rw [Nat.add_comm 1 f, w_go (by
      unfold wc eD
      simp only [e_prim, e_cons, e_nil, e_var, gE0, gES, Option.map_some, Option.bind_some, p_lst, p_ne, hq, Bool.not_false, asB_b]) (wf_end g n (by omega) (by omega) x5 x6 x7)]
    rw [Rn_zero, List.map_cons, List.map_nil, List.append_nil]
  | rem + 1, r, S, F, x5, x6, x7, hs, hl, hF, hS => by
    have hall : ∀ (ds : List Nat) (F : List (List Nat)) (x5 x6 x7 : Option D), (∀ d ∈ ds, d ∈ K.ks ∧ d ≤ rem + 1) → F.length + (ds.map fun k => 2 ^ (rem + 1 - k)).sum ≤ 100000 → S.length + ds.length + 4 * rem ≤ 1000 →
        ∃ N y5 y6 y7, N ≤ ds.length * 5 ^ rem ∧ ∀ f, whileL (wc n (.prim .ne [.var 3, .prim .lst []])) (wf n S_rows_in_1_b) (N + f) (eD K (S ++ ds.reverse.map fun k => r ++ [k]) F x5 x6 x7) .none = whileL (wc n (.prim .ne [.var 3, .prim .lst []])) (wf n S_rows_in_1_b) f (eD K S (F ++ (ds.flatMap fun k => (Rn K.ks (rem + 1 - k)).map (k :: ·)).map fun u => r ++ u) y5 y6 y7) .none := by
      intro ds
      induction ds with
      | nil => exact fun F x5 x6 x7 _ _ _ => ⟨0, x5, x6, x7, Nat.zero_le _, fun f => by simp⟩
      | cons d ds ih =>
        intro F x5 x6 x7 hd hF hS
        obtain ⟨hdk, hdn⟩ := hd d (List.mem_cons_self ..)
        have hd1 := (g.ok d hdk).1
        rw [List.map_cons, List.sum_cons] at hF
        rw [List.length_cons] at hS
        obtain ⟨N1, a5, a6, a7, b1, e1⟩ := dfs n (rem + 1 - d) (r ++ [d]) (S ++ ds.reverse.map fun k => r ++ [k]) F x5 x6 x7 (by simp; omega) (by simp; omega) (by omega) (by simp; omega)
        have hcl : (Rn K.ks (rem + 1 - d)).length ≤ 2 ^ (rem + 1 - d) := by rw [Rn_len]; exact cn_le g.g _
        obtain ⟨N2, c5, c6, c7, b2, e2⟩ := ih (F ++ (Rn K.ks (rem + 1 - d)).map fun u => (r ++ [d]) ++ u) a5 a6 a7 (fun z hz => hd z (List.mem_cons_of_mem _ hz)) (by rw [List.length_append, List.length_map]; omega) (by omega)
        have hp : 5 ^ (rem + 1 - d) ≤ 5 ^ rem := Nat.pow_le_pow_right (by decide) (by omega)
        refine ⟨N1 + N2, c5, c6, c7, by rw [List.length_cons, Nat.succ_mul]; omega, fun f => ?_⟩
        rw [List.reverse_cons, List.map_append, ← List.append_assoc, Nat.add_assoc]
        show whileL _ _ (N1 + (N2 + f)) (eD K ((S ++ ds.reverse.map fun k => r ++ [k]) ++ [r ++ [d]]) F x5 x6 x7) .none = _
        rw [e1, e2, List.flatMap_cons, List.map_append, List.append_assoc]
        congr 3
        congr 1
        rw [List.map_map]
        refine List.map_congr_left fun u _ => ?_
        show (r ++ [d]) ++ u = r ++ (d :: u)
        rw [List.append_assoc]
        rfl
    have hgl := good_len g (rem + 1)
    have hsum2 : ((goodD K (rem + 1)).map fun k => 2 ^ (rem + 1 - k)).sum ≤ 2 ^ (rem + 1) := by
      have := sum_two g.g (goodD K (rem + 1)) (rem + 1) 0 (fun k hk => by
        have := List.mem_filter.mp hk
        rw [Bool.and_eq_true, decide_eq_true_eq] at this
        exact ⟨(g.ok k this.1).1, this.2.1⟩) (g.up.filter _)
      simpa using this
    obtain ⟨N, c5, c6, c7, b, e2⟩ := hall (goodD K (rem + 1)) F (some (tN r)) (some (.int (r.sum : Nat))) (some (.list ((goodD K (rem + 1)).map fun x : Nat => PyData.int (x : Int)))) (fun d hd => by
      have := List.mem_filter.mp hd
      rw [Bool.and_eq_true, decide_eq_true_eq] at this
      exact ⟨this.1, this.2.1⟩) (by omega) (by omega)
    have hq := eq_nilD g (rows_plain (S ++ [r]))
    have hemp : ((S ++ [r]).map tN).isEmpty = false := by cases S <;> rfl
    rw [hemp] at hq
    have hN : N ≤ 4 * 5 ^ rem := Nat.le_trans b (Nat.mul_le_mul_right _ hgl)
    have hp1 : 1 ≤ 5 ^ rem := Nat.one_le_pow _ _ (by decide)
    refine ⟨N + 1, c5, c6, c7, by rw [Nat.pow_succ]; omega, fun f => ?_⟩
    rw [show N + 1 + f = (N + f) + 1 by omega, w_go (by
      unfold wc eD
      simp only [e_prim, e_cons, e_nil, e_var, gE0, gES, Option.map_some, Option.bind_some, p_lst, p_ne, hq, Bool.not_false, asB_b]) (wf_more g n hs (by omega) (by omega) x5 x6 x7), e2, good_Rn g]
termination_by rem => rem
theorem m_rows_in (n : Nat) : run Φ (n + 2) 9 [kitD K, .list []] .none = some (.list ((Rn K.ks K.w).map tN), .none) := by
  rw [run_fn f_rows_in rfl, S_rows_in]
  show retOf (exs (run Φ (n + 1)) _ [some (kitD K), some (.list []), none, none, none, none, none, none, none] _) = _
  have w16 := g.w16
  have hp : 2 ^ K.w ≤ 2 ^ 16 := Nat.pow_le_pow_right (by decide) w16
  obtain ⟨N, y5, y6, y7, b, e⟩ := dfs g (n + 1) K.w [] [] [] none none none (by simp) (by simp; omega) (by simp; omega) (by simp; omega)
  have hp5 : 5 ^ K.w ≤ 5 ^ 16 := Nat.pow_le_pow_right (by decide) w16
  rw [x_step (env' := eD K ([] ++ [[]]) [] none none none) (w' := .none) (by
    simp only [S_rows_in_0, x_par, e_prim, e_call, e_cons, e_nil, e_var, gE0, gES, Option.map_some, Option.bind_some, m_counts g n, Bool.false_and, Bool.false_eq_true, if_false, p_tup, p_lst, sets_cons, sets_nil, sES, sE0]
    rfl)]
  rw [x_step (env' := eD K [] ([] ++ (Rn K.ks K.w).map fun u => [] ++ u) y5 y6 y7) (w' := .none) (by
    rw [S_rows_in_1, ex]
    show whileL (wc (n + 1) _) (wf (n + 1) S_rows_in_1_b) FUEL _ _ = _
    obtain ⟨f, hf⟩ : ∃ f, FUEL = N + (f + 1) := ⟨2 ^ 40 - N - 1, by unfold FUEL; omega⟩
    rw [hf, e, w_stop]
    have hq := eq_nilD g (rows_plain [])
    have hq : eqD (.list []) (.list []) = some true := hq
    unfold wc eD
    simp only [e_prim, e_cons, e_nil, e_var, gE0, gES, Option.map_some, Option.bind_some, List.map_nil, p_lst, p_ne, hq, Bool.not_true, asB_b])]
  refine ret_ev ?_
  have : (Rn K.ks K.w).map (fun u => [] ++ u) = Rn K.ks K.w := by
    rw [show (fun u : List Nat => [] ++ u) = id from rfl, List.map_id]
  rw [List.nil_append, this]
  simp [eD]
theorem m_all_rows (n : Nat) (w8 : K.w ≤ 8) : run Φ (n + 5) 17 [kitD K] .none = some (.tuple ((Rn K.ks K.w).map tN), .none) := by
  rw [run_fn f_all_rows rfl]
  show retOf (exs (run Φ (n + 4)) b_all_rows [some (kitD K)] _) = _
  have h1 : run Φ (n + 4) 10 [kitD K] .none = some (.list ((Rn K.ks K.w).map tN), .none) := by
    rw [run_fn f_few_rows rfl, S_few_rows]
    show retOf (exs (run Φ (n + 3)) _ [some (kitD K)] _) = _
    have hix := ix_L (cts_get (K := K) (i := 0) (by omega))
    have hix : ixD (.list ((cts K).map .int)) (.int 0) = some (.int (cn K.ks K.w : Nat)) := hix
    have hc := cn_le g.g K.w
    have hp : 2 ^ K.w ≤ 2 ^ 8 := Nat.pow_le_pow_right (by decide) w8
    have hgt : ¬ ((300 : Int) < ((cn K.ks K.w : Nat) : Int)) := by omega
    rw [x_step (env' := [some (kitD K)]) (w' := .none) (by simp [S_few_rows_0, m_need_kit g n])]
    rw [x_step (env' := [some (kitD K)]) (w' := .none) (by
      simp only [S_few_rows_1, x_ifs, e_prim, e_call, e_cons, e_nil, e_var, e_con, gE0, Option.map_some, Option.bind_some, p_lst, m_counts g (n + 2), Bool.false_and, Bool.false_eq_true, if_false, p_ix, hix, p_gt, i_gt, decide_eq_false hgt, asB_b, x_nil])]
    refine ret_ev ?_
    simp only [e_prim, e_call, e_cons, e_nil, e_var, gE0, Option.map_some, Option.bind_some, p_lst, m_rows_in g (n + 1), Bool.false_and, Bool.false_eq_true, if_false]
  have ht : tupleD (.list ((Rn K.ks K.w).map tN)) = some (.tuple ((Rn K.ks K.w).map tN)) := rfl
  refine ret_ev ?_
  simp only [e_prim, e_call, e_cons, e_nil, e_var, gE0, Option.map_some, Option.bind_some, h1, Bool.false_and, Bool.false_eq_true, if_false, p_tuple, ht]
end
end K76
set_option Elab.async false
set_option linter.all false
set_option maxRecDepth 100000
set_option maxHeartbeats 200000
namespace K76
open PySem L2 PySem.Spec PyI

theorem up_lt : ∀ {r s : List Nat}, r < s → up r < up s
  | _, _, .nil => .nil
  | _, _, .rel h => .rel (Int.ofNat_lt.mpr h)
  | _ :: r, _ :: s, .cons h => .cons (up_lt (r := r) (s := s) h)
/-! ### breadth first -/
def exts (K : Kit) (r : List Nat) : List (List Nat) := (K.ks.filter fun k => decide (r.sum + k ≤ K.w)).map fun k => r ++ [k]
def ext (K : Kit) (L : List (List Nat)) : List (List Nat) := L.flatMap (exts K)
def cmp (K : Kit) (r : List Nat) : List (List Nat) := (Rn K.ks (K.w - r.sum)).map fun u => r ++ u
def eB (K : Kit) (F L : List (List Nat)) (x3 x4 : Option D) : Ev := [some (kitD K), some (.list (F.map tN)), some (.list (L.map tN)), x3, x4, none]
theorem flat_le {α β : Type} {f : α → List β} {k : Nat} : ∀ {xs : List α}, (∀ x ∈ xs, (f x).length ≤ k) → (xs.flatMap f).length ≤ xs.length * k
  | [], _ => by simp
  | x :: xs, h => by
    have h1 := h x (List.mem_cons_self ..)
    have h2 := flat_le (xs := xs) fun y hy => h y (List.mem_cons_of_mem _ hy)
    rw [List.flatMap_cons, List.length_append, List.length_cons, Nat.add_mul]
    omega
section
variable {K : Kit} (g : GK' K)
include g
theorem exts_len (r : List Nat) : (exts K r).length ≤ 4 := by
  unfold exts
  rw [List.length_map]
  have := List.length_filter_le (fun k => decide (r.sum + k ≤ K.w)) K.ks
  have := g.n4
  omega
theorem cmp_step {r : List Nat} (h : r.sum < K.w) : cmp K r = (exts K r).flatMap (cmp K) := by
  obtain ⟨m, hm⟩ : ∃ m, K.w - r.sum = m + 1 := ⟨K.w - r.sum - 1, by omega⟩
  unfold cmp exts
  rw [hm, Rn_succ g.g, List.map_flatMap, List.flatMap_map]
  have hf : (K.ks.filter fun k => decide (k ≤ m + 1)) = K.ks.filter fun k => decide (r.sum + k ≤ K.w) := List.filter_congr fun k _ => by
    rw [decide_eq_decide]
    omega
  rw [hf]
  refine flat_congr fun k hk => ?_
  have hk := of_decide_eq_true (List.mem_filter.mp hk).2
  rw [List.map_map, show K.w - (r ++ [k]).sum = m + 1 - k by rw [List.sum_append]; simp; omega]
  refine List.map_congr_left fun u _ => ?_
  show r ++ (k :: u) = (r ++ [k]) ++ u
  rw [List.append_assoc]
  rfl
omit g in
theorem cmp_done {r : List Nat} (h : r.sum = K.w) : cmp K r = [r] := by
  unfold cmp
  rw [show K.w - r.sum = 0 by omega, Rn_zero, List.map_cons, List.append_nil]
  rfl
theorem ext_perm {L : List (List Nat)} (h : ∀ r ∈ L, r.sum < K.w) : (L.flatMap (cmp K)).Perm ((ext K L).filter (fun r => decide (r.sum = K.w)) ++ ((ext K L).filter fun r => decide (r.sum < K.w)).flatMap (cmp K)) := by
  have e1 : L.flatMap (cmp K) = (ext K L).flatMap (cmp K) := by
    unfold ext
    rw [List.flatMap_assoc]
    exact flat_congr fun r hr => cmp_step g (h r hr)
  have hle : ∀ r ∈ ext K L, r.sum ≤ K.w := fun r hr => by
    obtain ⟨s, _, hr⟩ := List.mem_flatMap.mp hr
    obtain ⟨k, hk, rfl⟩ := List.mem_map.mp hr
    have := of_decide_eq_true (List.mem_filter.mp hk).2
    rw [List.sum_append]
    simpa using this
  have e2 : (ext K L).filter (fun r => decide (r.sum < K.w)) = (ext K L).filter fun r => !decide (r.sum = K.w) := List.filter_congr fun r hr => by
    have := hle r hr
    by_cases h : r.sum = K.w
    · simp [h]
    · simp [h]
      omega
  have e3 : ((ext K L).filter fun r => decide (r.sum = K.w)).flatMap (cmp K) = (ext K L).filter fun r => decide (r.sum = K.w) := by
    have : ∀ l : List (List Nat), (∀ r ∈ l, r.sum = K.w) → l.flatMap (cmp K) = l := by
      intro l
      induction l with
      | nil => exact fun _ => rfl
      | cons r l ih =>
        intro h
        rw [List.flatMap_cons, cmp_done (h r (List.mem_cons_self ..)), ih fun x hx => h x (List.mem_cons_of_mem _ hx)]
        rfl
    exact this _ fun r hr => of_decide_eq_true (List.mem_filter.mp hr).2
  rw [e1, e2]
  have hp := List.filter_append_perm (fun r : List Nat => decide (r.sum = K.w)) (ext K L)
  have := (hp.flatMap_right (cmp K)).symm
  rw [List.flatMap_append, e3] at this
  exact this
theorem bfs_step (n : Nat) {F L : List (List Nat)} (hl : ∀ r ∈ L, r.length ≤ 100) (hL : L.length ≤ 100000) (hF : F.length ≤ 1000000) (x3 x4 : Option D) : ∃ y3 y4, wf n S_u_law_rows_1_b (eB K F L x3 x4) .none = some (.nx, eB K (F ++ (ext K L).filter fun r => decide (r.sum = K.w)) ((ext K L).filter fun r => decide (r.sum < K.w)) y3 y4, .none) := by
  have hfl := flat_le (f := fun r => (exts K r).map tN) (k := 4) (xs := L) fun r _ => by rw [List.length_map]; exact exts_len g r
  obtain ⟨env', ⟨y4, rfl⟩, hf⟩ := forL_ext (f := loop1 (run Φ n) (.nm 4) [.asg (.nm 3) (.prim .add [.var 3, .comp .seq [.prim .ix [.var 0, .con (.int 1)]] (.nm 5) [5] (.prim .le [.prim .add [.prim .sum [.var 4], .var 5], .prim .ix [.var 0, .con (.int 0)]]) (.prim .add [.var 4, .prim .tup [.var 5]])])]) (enc := tN) (w := .none)
    (fun acc env => ∃ y4, env = [some (kitD K), some (.list (F.map tN)), some (.list (L.map tN)), some (.list acc), y4, none]) (fun r => (exts K r).map tN) 16777216 (xs := L) (fun r hr acc env hb hI => by
      obtain ⟨y4, rfl⟩ := hI
      refine ⟨_, ⟨some (tN r), rfl⟩, ?_⟩
      have hc : compL (turnC (run Φ n) [some (kitD K), some (.list (F.map tN)), some (.list (L.map tN)), some (.list acc), some (tN r), none] (.nm 5) [5] (.prim .le [.prim .add [.prim .sum [.var 4], .var 5], .prim .ix [.var 0, .con (.int 0)]]) (.prim .add [.var 4, .prim .tup [.var 5]])) (K.ks.map fun x : Nat => PyData.int (x : Int)) .none = some ((exts K r).map tN, .none) := by
        unfold exts
        rw [List.map_map]
        exact compL_filter fun k hk => by
          have ha := add_tN r k (by have := hl r hr; omega)
          by_cases hle : r.sum + k ≤ K.w
          · have h1 : ((r.sum : Nat) : Int) + (k : Int) ≤ (K.w : Int) := by omega
            simp [turnC, kt0, sum_tN, h1, hle, ha]
          · have h1 : ¬ (((r.sum : Nat) : Int) + (k : Int) ≤ (K.w : Int)) := by omega
            simp [turnC, kt0, sum_tN, h1, hle]
      have ha := addLst hb
      unfold loop1
      simp only [b_nm, sES, sE0, Option.map_some, Option.bind_some]
      rw [x_last (r := (.nx, [some (kitD K), some (.list (F.map tN)), some (.list (L.map tN)), some (.list (acc ++ (exts K r).map tN)), some (tN r), none], .none)) (by
        simp only [x_asg, e_prim, e_comp, e_cons, e_nil, e_var, e_con, gE0, gES, Option.map_some, Option.bind_some, p_ix, kt1, items_tN, hc, p_add, ha, b_nm, sES, sE0])]) (a := []) (env := [some (kitD K), some (.list (F.map tN)), some (.list (L.map tN)), some (.list []), x4, none]) (by simp only [List.length_nil]; omega) ⟨x4, rfl⟩
  have e : (L.flatMap fun r => (exts K r).map tN) = (ext K L).map tN := by
    unfold ext
    rw [List.map_flatMap]
  rw [List.nil_append, e] at hf
  rw [e, List.length_map] at hfl
  refine ⟨some (.list ((ext K L).map tN)), y4, ?_⟩
  unfold wf eB
  rw [S_u_law_rows_1_b]
  rw [x_step (env' := [some (kitD K), some (.list (F.map tN)), some (.list (L.map tN)), some (.list []), x4, none]) (w' := .none) (by simp [S_u_law_rows_1_0])]
  have hi : ∀ M : List (List Nat), items .seq [.list (M.map tN)] = some (M.map tN) := fun _ => rfl
  rw [x_step (env' := [some (kitD K), some (.list (F.map tN)), some (.list (L.map tN)), some (.list ((ext K L).map tN)), y4, none]) (w' := .none) (by
    simp only [S_u_law_rows_1_1, x_for, e_cons, e_nil, e_var, gE0, gES, Option.map_some, Option.bind_some, hi]
    exact hf)]
  have hc1 : compL (turnC (run Φ n) [some (kitD K), some (.list (F.map tN)), some (.list (L.map tN)), some (.list ((ext K L).map tN)), y4, none] (.nm 4) [4] (.prim .eq [.prim .sum [.var 4], .prim .ix [.var 0, .con (.int 0)]]) (.var 4)) ((ext K L).map tN) .none = some (((ext K L).filter fun r => decide (r.sum = K.w)).map tN, .none) := compL_filter fun r hr => by
    have hd := eq_int' (r.sum : Nat) (K.w : Int)
    by_cases h : r.sum = K.w
    · have h1 : ((r.sum : Nat) : Int) = (K.w : Int) := by omega
      have hd' : eqD (.int (K.w : Int)) (.int (K.w : Int)) = some true := by rw [eq_int']; simp
      simp [turnC, sum_tN, kt0, hd', h]
    · have h1 : ¬ (((r.sum : Nat) : Int) = (K.w : Int)) := by omega
      rw [decide_eq_false h1] at hd
      simp [turnC, sum_tN, kt0, hd, h]
  have hadd := addLst (xs := F.map tN) (ys := ((ext K L).filter fun r => decide (r.sum = K.w)).map tN) (by
    have := List.length_filter_le (fun r : List Nat => decide (r.sum = K.w)) (ext K L)
    simp only [List.length_map]
    omega)
  rw [x_step (env' := [some (kitD K), some (.list ((F ++ (ext K L).filter fun r => decide (r.sum = K.w)).map tN)), some (.list (L.map tN)), some (.list ((ext K L).map tN)), y4, none]) (w' := .none) (by
    simp only [S_u_law_rows_1_2, x_asg, e_prim, e_comp, e_cons, e_nil, e_var, gE0, gES, Option.map_some, Option.bind_some, hi, hc1, p_add, hadd, b_nm, sES, sE0, List.map_append])]
  have hc2 : compL (turnC (run Φ n) [some (kitD K), some (.list ((F ++ (ext K L).filter fun r => decide (r.sum = K.w)).map tN)), some (.list (L.map tN)), some (.list ((ext K L).map tN)), y4, none] (.nm 4) [4] (.prim .lt [.prim .sum [.var 4], .prim .ix [.var 0, .con (.int 0)]]) (.var 4)) ((ext K L).map tN) .none = some (((ext K L).filter fun r => decide (r.sum < K.w)).map tN, .none) := compL_filter fun r hr => by
    by_cases h : r.sum < K.w
    · have h1 : ((r.sum : Nat) : Int) < (K.w : Int) := by omega
      simp [turnC, sum_tN, kt0, h1, h]
    · have h1 : ¬ (((r.sum : Nat) : Int) < (K.w : Int)) := by omega
      simp [turnC, sum_tN, kt0, h1, h]
  rw [x_last (r := (.nx, [some (kitD K), some (.list ((F ++ (ext K L).filter fun r => decide (r.sum = K.w)).map tN)), some (.list (((ext K L).filter fun r => decide (r.sum < K.w)).map tN)), some (.list ((ext K L).map tN)), y4, none], .none)) (by
    simp only [S_u_law_rows_1_3, x_asg, e_comp, e_cons, e_nil, e_var, gE0, gES, Option.map_some, Option.bind_some, hi, hc2, b_nm, sES, sE0])]
theorem bfs (n : Nat) (w8 : K.w ≤ 8) : ∀ (d t : Nat) (F L : List (List Nat)) (x3 x4 : Option D), t + d = K.w → (∀ r ∈ L, t ≤ r.sum ∧ r.sum < K.w ∧ r.length ≤ t) → L.length ≤ 4 ^ t → F.length ≤ 4 ^ (t + 1) →
    ∃ N F' y3 y4, N ≤ d ∧ F'.Perm (F ++ L.flatMap (cmp K)) ∧ ∀ f, whileL (wc n (.prim .ne [.var 2, .prim .lst []])) (wf n S_u_law_rows_1_b) (N + f) (eB K F L x3 x4) .none = whileL (wc n (.prim .ne [.var 2, .prim .lst []])) (wf n S_u_law_rows_1_b) f (eB K F' [] y3 y4) .none
  | 0, t, F, L, x3, x4, ht, hL, _, _ => by
    cases L with
    | nil => exact ⟨0, F, x3, x4, Nat.le_refl _, by simp, fun f => by rw [Nat.zero_add]⟩
    | cons r L =>
      have := hL r (List.mem_cons_self ..)
      omega
  | d + 1, t, F, L, x3, x4, ht, hL, hLl, hFl => by
    cases hLe : L with
    | nil => exact ⟨0, F, x3, x4, Nat.zero_le _, by simp, fun f => by rw [Nat.zero_add]⟩
    | cons r0 L0 =>
      rw [← hLe]
      have hne : (L.map tN).isEmpty = false := by rw [hLe]; rfl
      have h4 : 4 ^ (t + 1) ≤ 4 ^ 8 := Nat.pow_le_pow_right (by decide) (by omega)
      have h4a : 4 ^ t ≤ 4 ^ 8 := Nat.pow_le_pow_right (by decide) (by omega)
      obtain ⟨y3, y4, e⟩ := bfs_step g n (F := F) (L := L) (fun r hr => by have := hL r hr; omega) (by omega) (by omega) x3 x4
      have hel : (ext K L).length ≤ L.length * 4 := flat_le fun r _ => exts_len g r
      have hf1 := List.length_filter_le (fun r : List Nat => decide (r.sum = K.w)) (ext K L)
      have hf2 := List.length_filter_le (fun r : List Nat => decide (r.sum < K.w)) (ext K L)
      have p1 : 4 ^ (t + 1) = 4 ^ t * 4 := Nat.pow_succ ..
      have p2 : 4 ^ (t + 1 + 1) = 4 ^ (t + 1) * 4 := Nat.pow_succ ..
      obtain ⟨N, F', z3, z4, hN, hp, e2⟩ := bfs n w8 d (t + 1) (F ++ (ext K L).filter fun r => decide (r.sum = K.w)) ((ext K L).filter fun r => decide (r.sum < K.w)) y3 y4 (by omega) (fun r hr => by
        have hr := List.mem_filter.mp hr
        have h2 := of_decide_eq_true hr.2
        obtain ⟨s, hs, hr⟩ := List.mem_flatMap.mp hr.1
        obtain ⟨k, hk, rfl⟩ := List.mem_map.mp hr
        have := hL s hs
        have hk1 := (g.ok k (List.mem_filter.mp hk).1).1
        refine ⟨by rw [List.sum_append]; simp; omega, h2, by rw [List.length_append, List.length_singleton]; omega⟩) (by omega) (by rw [List.length_append]; omega)
      refine ⟨N + 1, F', z3, z4, by omega, ?_, fun f => ?_⟩
      · refine hp.trans ?_
        rw [List.append_assoc]
        exact (ext_perm g fun r hr => (hL r hr).2.1).symm.append_left F
      · have hq := eq_nilD g (rows_plain L)
        rw [hne] at hq
        rw [show N + 1 + f = (N + f) + 1 by omega, w_go (by
          unfold wc eB
          simp only [e_prim, e_cons, e_nil, e_var, gE0, gES, Option.map_some, Option.bind_some, p_lst, p_ne, hq, Bool.not_false, asB_b]) e, e2]
theorem m_rows (n : Nat) (w8 : K.w ≤ 8) : run Φ (n + 1) 22 [kitD K] .none = some (.list ((Rn K.ks K.w).map tN), .none) := by
  rw [run_fn f_u_law_rows rfl, S_u_law_rows]
  show retOf (exs (run Φ n) _ [some (kitD K), none, none, none, none, none] _) = _
  have w1 := g.w1
  obtain ⟨N, F', y3, y4, hN, hp, e⟩ := bfs g n w8 K.w 0 [] [[]] none none (by omega) (fun r hr => by
    rw [List.mem_singleton.mp hr]
    simp
    omega) (by simp) (by simp)
  have hc : ([[]] : List (List Nat)).flatMap (cmp K) = Rn K.ks K.w := by
    rw [List.flatMap_cons, List.flatMap_nil, List.append_nil]
    unfold cmp
    rw [show (fun u : List Nat => [] ++ u) = id from rfl, List.map_id]
    rfl
  rw [List.nil_append, hc] at hp
  rw [x_step (env' := eB K [] [[]] none none) (w' := .none) (by
    simp only [S_u_law_rows_0, x_par, e_prim, e_cons, e_nil, Option.map_some, Option.bind_some, p_tup, p_lst, sets_cons, sets_nil, sES, sE0]
    rfl)]
  rw [x_step (env' := eB K F' [] y3 y4) (w' := .none) (by
    rw [S_u_law_rows_1, ex]
    show whileL (wc n _) (wf n S_u_law_rows_1_b) FUEL _ _ = _
    obtain ⟨f, hf⟩ : ∃ f, FUEL = N + (f + 1) := ⟨2 ^ 40 - N - 1, by unfold FUEL; omega⟩
    rw [hf, e, w_stop]
    have hq := eq_nilD g (rows_plain [])
    have hq : eqD (.list []) (.list []) = some true := hq
    unfold wc eB
    simp only [e_prim, e_cons, e_nil, e_var, gE0, gES, Option.map_some, Option.bind_some, List.map_nil, p_lst, p_ne, hq, Bool.not_true, asB_b])]
  have hseq : seqOf (.list (F'.map tN)) = some ((F'.map up).map tI) := by
    show some (F'.map tN) = _
    rw [List.map_map]
    rfl
  have hs := sort_rows hseq (fun x hx => by
    obtain ⟨r, hr, rfl⟩ := List.mem_map.mp (List.mem_of_mem_tail hx)
    have := (row_facts g (hp.subset hr)).2.2.2
    intro e
    have := congrArg List.length e
    rw [up_len, List.length_nil] at this
    omega)
  have hsr : (F'.map up).mergeSort rle = (Rn K.ks K.w).map up := by
    rw [rsort_perm (hp.map up)]
    refine List.mergeSort_of_pairwise ?_
    rw [List.pairwise_map]
    exact (Rn_up g.g K.w).imp fun h => rle_iff.mpr (List.le_of_lt (up_lt h))
  rw [hsr, List.map_map] at hs
  have hs : sortedD (.list (F'.map tN)) = some (.list ((Rn K.ks K.w).map tN)) := hs
  refine ret_ev ?_
  simp only [eB, e_prim, e_cons, e_nil, e_var, gE0, gES, Option.map_some, Option.bind_some, p_sorted, hs]
end
/-! ### kits drawn -/
def enc (p : Int × Int) : D × D := (.int p.1, .int p.2)
def kvD (kv : List (Int × Int)) : D := .dict (kv.map enc)
def putI (kv : List (Int × Int)) (k v : Int) : List (Int × Int) := if (kv.any fun p => decide (p.1 = k)) = true then kv.map (fun p => if p.1 = k then (p.1, v) else p) else kv ++ [(k, v)]
theorem key_eq (a b : Int) : (keyOf (.int a) = keyOf (.int b)) ↔ a = b := by simp [keyOf]
theorem putKv_I (kv : List (Int × Int)) (k v : Int) : putKv (kv.map enc) (.int k) (.int v) = (putI kv k v).map enc := by
  unfold putKv putI
  have e : ((kv.map enc).any fun p => decide (keyOf p.1 = keyOf (.int k))) = kv.any fun p => decide (p.1 = k) := by
    rw [List.any_map]
    congr 1
    funext p
    exact decide_eq_decide.mpr (key_eq p.1 k)
  rw [e]
  split
  · rw [List.map_map, List.map_map]
    refine List.map_congr_left fun p hp => ?_
    show (if keyOf (.int p.1) = keyOf (.int k) then ((.int p.1, .int v) : D × D) else enc p) = enc (if p.1 = k then (p.1, v) else p)
    by_cases h : p.1 = k
    · rw [if_pos ((key_eq _ _).mpr h), if_pos h]
      rfl
    · rw [if_neg (fun z => h ((key_eq _ _).mp z)), if_neg h]
  · rw [List.map_append]
    rfl
theorem put_kv {kv : List (Int × Int)} (h : kv.length ≤ 1000) (k v : Int) : putK (kvD kv) (.int k) (.int v) = some (kvD (putI kv k v)) := by
  show (if (kv.map enc).length < LIM then some (PyData.dict (putKv (kv.map enc) (.int k) (.int v))) else none) = _
  rw [if_pos (by rw [List.length_map]; show _ < 16777216; omega), putKv_I]
  rfl
structure KV (lo hi : Int) (n : Nat) (kv : List (Int × Int)) : Prop where
  nd : (kv.map (·.1)).Nodup
  gd : ∀ p ∈ kv, lo ≤ p.1 ∧ p.1 ≤ hi
  len : kv.length ≤ n
theorem KV.put {lo hi : Int} {n : Nat} {kv : List (Int × Int)} (h : KV lo hi n kv) {k v : Int} (h0 : lo ≤ k) (h1 : k ≤ hi) : KV lo hi (n + 1) (putI kv k v) := by
  unfold putI
  split
  · have e : (kv.map fun p => if p.1 = k then (p.1, v) else p).map (·.1) = kv.map (·.1) := by
      rw [List.map_map]
      refine List.map_congr_left fun p hp => ?_
      show (if p.1 = k then (p.1, v) else p).1 = p.1
      split <;> rfl
    refine ⟨by rw [e]; exact h.nd, fun p hp => ?_, by rw [List.length_map]; have := h.len; omega⟩
    obtain ⟨q, hq, rfl⟩ := List.mem_map.mp hp
    have := h.gd q hq
    split <;> exact this
  · rename_i hn
    have hn : ∀ p ∈ kv, p.1 ≠ k := fun p hp e => hn (List.any_eq_true.mpr ⟨p, hp, decide_eq_true e⟩)
    refine ⟨?_, fun p hp => ?_, by rw [List.length_append]; have := h.len; simp; omega⟩
    · rw [List.map_append, List.nodup_append]
      refine ⟨h.nd, by simp, fun a ha b hb e => ?_⟩
      obtain ⟨p, hp, rfl⟩ := List.mem_map.mp ha
      have : b = k := by simpa using hb
      exact hn p hp (by rw [e, this])
    · rcases List.mem_append.mp hp with hp | hp
      · exact h.gd p hp
      · rw [List.mem_singleton.mp hp]
        exact ⟨h0, h1⟩
def keys (kv : List (Int × Int)) : List Int := (kv.map (·.1)).mergeSort lei
theorem sort_kv {kv : List (Int × Int)} (h : kv.length < 64) : sortedD (kvD kv) = some (.list ((keys kv).map .int)) := by
  show sortedK (kv.map enc) = _
  unfold sortedK
  have e : (kv.map enc).map (·.1) = (kv.map (·.1)).map .int := by
    rw [List.map_map, List.map_map]
    rfl
  rw [e, ints_of]
  simp only [Option.bind_some, List.length_map]
  rw [if_pos h]
  rfl
theorem keys_up {lo hi : Int} {n : Nat} {kv : List (Int × Int)} (h : KV lo hi n kv) : (keys kv).Pairwise (· < ·) ∧ (∀ k ∈ keys kv, lo ≤ k ∧ k ≤ hi) ∧ (keys kv).length = kv.length := by
  have hp := List.mergeSort_perm (kv.map (·.1)) lei
  refine ⟨?_, fun k hk => ?_, by unfold keys; rw [hp.length_eq, List.length_map]⟩
  · have h1 := List.pairwise_mergeSort lei_trans lei_total (kv.map (·.1))
    have h2 : ((kv.map (·.1)).mergeSort lei).Pairwise (· ≠ ·) := (hp.nodup_iff).mpr h.nd
    refine (h1.and h2).imp fun {a b} h => ?_
    have h3 : a ≤ b := of_decide_eq_true h.1
    have h4 := h.2
    omega
  · obtain ⟨p, hp', rfl⟩ := List.mem_map.mp (hp.subset hk)
    exact h.gd p hp'
theorem m_kit (n : Nat) (wide : Int) (w0 : 1 ≤ wide) (w16 : wide ≤ 16) (w : D) (hw : Cup w) : ∃ K w', run Φ (n + 3) 21 [.int wide, .int 4] w = some (kitD K, w') ∧ Cup w' ∧ GK' K ∧ (K.w : Int) ≤ wide := by
  rw [run_cup f_u_law_kit rfl, S_u_law_kit]
  obtain ⟨r, w1, e1, r0, r1, c1⟩ := rolls (n + 1) 4 w hw (by omega) (by omega)
  obtain ⟨kv, env', w2, ⟨c2, hkv, hpos, y4, rfl⟩, hf⟩ := forL_draw (f := loop1 (run Φ (n + 2)) (.nm 4) [.putL 3 (.prim .add [.con (.int 1), .callC 18 [.callC 19 [.prim .lst [.con (.int 3), .con (.int 5), .con (.int 8)]]]]) (.con (.int 1))])
    (fun (kv : List (Int × Int)) (k : Nat) env w => Cup w ∧ KV 1 8 k kv ∧ (1 ≤ k → 1 ≤ kv.length) ∧ ∃ y4, env = [none, some (.int wide), some (.int 4), some (kvD kv), y4])
    (xs := (rngI (1 + r)).map .int) (k := 0) (a := []) (env := [none, some (.int wide), some (.int 4), some (kvD []), none]) (w := w1) ⟨c1, ⟨by simp, by simp, by simp⟩, by omega, none, rfl⟩ (fun i x hx kv env w hi => by
      obtain ⟨c, hkv, hpos, y4, rfl⟩ := hi
      rw [Nat.zero_add] at hkv
      have hj := lt_of_get hx
      rw [List.length_map, rngI_len] at hj
      obtain ⟨y, w3, e3, hy, c3⟩ := somes n (xs := [.int 3, .int 5, .int 8]) c (by simp) (by decide)
      obtain ⟨z, rfl, z0, z1⟩ : ∃ z : Int, y = .int z ∧ 3 ≤ z ∧ z ≤ 8 := by
        rcases (show y = .int 3 ∨ y = .int 5 ∨ y = .int 8 by simpa using hy) with h | h | h
        · exact ⟨3, h, by decide, by decide⟩
        · exact ⟨5, h, by decide, by decide⟩
        · exact ⟨8, h, by decide, by decide⟩
      obtain ⟨q, w4, e4, q0, q1, c4⟩ := rolls (n + 1) z w3 c3 (by omega) (by omega)
      have hp := put_kv (kv := kv) (by have := hkv.len; omega) (1 + q) 1
      refine ⟨putI kv (1 + q) 1, [none, some (.int wide), some (.int 4), some (kvD (putI kv (1 + q) 1)), some x], w4, ⟨c4, ?_, fun _ => ?_, some x, rfl⟩, ?_⟩
      · rw [Nat.zero_add]
        exact hkv.put (by omega) (by omega)
      · unfold putI
        split
        · rename_i h
          obtain ⟨p, hp, _⟩ := List.any_eq_true.mp h
          rw [List.length_map]
          exact List.length_pos_of_mem hp
        · simp
      · unfold loop1
        simp only [b_nm, sES, sE0, Option.map_some, Option.bind_some]
        rw [x_last (r := (.nx, [none, some (.int wide), some (.int 4), some (kvD (putI kv (1 + q) 1)), some x], w4)) (by
          simp only [x_putL, e_prim, e_callC, e_cons, e_nil, e_con, gE0, gES, Option.map_some, Option.bind_some, p_lst, e3, e4, p_add, i_add, hp, sES, sE0])])
  rw [List.length_map, rngI_len, Nat.zero_add] at hkv hpos
  have hpos := hpos (by omega)
  have hle := hkv.len
  obtain ⟨ku, kr, kl⟩ := keys_up hkv
  obtain ⟨q, w3, e3, q0, q1, c3⟩ := rolls (n + 1) wide w2 c2 (by omega) (by omega)
  obtain ⟨K, hK⟩ : ∃ K : Kit, K = ⟨(1 + q).toNat, (keys kv).map Int.toNat⟩ := ⟨_, rfl⟩
  have hup : up K.ks = keys kv := by
    rw [hK]
    show ((keys kv).map Int.toNat).map _ = _
    rw [List.map_map]
    conv => rhs; rw [← List.map_id (keys kv)]
    refine List.map_congr_left fun x hx => ?_
    have := kr x hx
    show ((x.toNat : Nat) : Int) = x
    omega
  have hw' : (K.w : Int) = 1 + q := by rw [hK]; show (((1 + q).toNat : Nat) : Int) = _; omega
  have hlen : K.ks.length = kv.length := by rw [← kl, ← hup, up_len]
  refine ⟨K, w3, ?_, c3, ⟨by omega, by omega, by omega, by omega, fun k hk => ?_, ?_⟩, by omega⟩
  · show retOf (exs (run Φ (n + 2)) _ [none, some (.int wide), some (.int 4), none, none] _) = _
    have hi := items_rngI (m := 1 + r) (by omega) (by omega)
    rw [x_step (env' := [none, some (.int wide), some (.int 4), some (kvD []), none]) (w' := w) (by
      simp [S_u_law_kit_0]
      rfl)]
    rw [x_step (env' := [none, some (.int wide), some (.int 4), some (kvD kv), y4]) (w' := w2) (by
      simp only [S_u_law_kit_1, x_for, e_prim, e_callC, e_cons, e_nil, e_var, e_con, gE0, gES, Option.map_some, Option.bind_some, e1, p_add, i_add, hi]
      exact hf)]
    have hs := sort_kv (kv := kv) (by omega)
    have ht : tupleD (.list ((keys kv).map .int)) = some (tN K.ks) := by
      show some (tI (keys kv)) = some (tI (up K.ks))
      rw [hup]
    refine ret_ev ?_
    simp only [e_prim, e_callC, e_cons, e_nil, e_var, e_con, gE0, gES, Option.map_some, Option.bind_some, e3, p_add, i_add, p_sorted, hs, p_tuple, ht, p_tup, ← hw']
    rfl
  · have : (k : Int) ∈ keys kv := by
      rw [← hup]
      exact List.mem_map.mpr ⟨k, hk, rfl⟩
    have := kr _ this
    omega
  · have := ku
    rw [← hup] at this
    unfold up at this
    rw [List.pairwise_map] at this
    exact this.imp fun h => by omega
end K76
set_option Elab.async false
set_option linter.all false
set_option maxRecDepth 100000
set_option maxHeartbeats 200000
namespace K76
open PySem L2 PySem.Spec PyI

def RC : PyI.E := (.prim .ne [.var 2, .prim .lst []])
def RA1 : PyI.S := .asg (.nm 4) (.callC 18 [.prim .len [.var 2]])
def RA2 : PyI.S := .asg (.nm 5) (.prim .ix [.var 2, .var 4])
def RA3 : PyI.S := .ifs (.prim .ne [.prim .repr [.prim .tup [.call 15 false [.var 1, .var 4], .call 16 false [.var 1, .var 5], .call 13 false [.var 1, .var 5]]], .prim .repr [.prim .tup [.var 5, .var 4, .prim .tuple [.call 23 false [.var 5]]]]]) [.ret (.con (.bool false))] []
def RA4 : PyI.S := .asg (.nm 6) (.callC 18 [.prim .len [.var 5]])
def RV : PyI.E := .prim .tup [.var 5, .prim .rev [.var 5], .callC 20 [.var 5], .prim .add [.prim (.sl false true) [.var 5, .var 6], .prim (.sl true false) [.var 5, .prim .add [.var 6, .con (.int 1)]]], .prim .add [.var 5, .prim (.sl true false) [.var 5, .prim .neg [.con (.int 1)]]], .prim .add [.prim .add [.prim (.sl false true) [.var 5, .var 6], .prim .tup [.callC 19 [.prim .ix [.var 1, .con (.int 1)]]]], .prim (.sl true false) [.var 5, .prim .add [.var 6, .con (.int 1)]]]]
def RB : List PyI.S := [.ifs (.prim .ne [.prim .repr [.call 12 false [.var 1, .var 7]], .prim .repr [.prim .isin [.var 7, .var 2]]]) [.ret (.con (.bool false))] []]
def RA5 : PyI.S := .for .seq [RV] (.nm 7) RB
theorem R3 : S_u_law_right_3 = .for .rng1 [.con (.int 6)] (.nm 3) [.ifs RC [RA1, RA2, RA3, RA4, RA5] []] := rfl
theorem map_erase {α β : Type} (f : α → β) : ∀ (xs : List α) (i : Nat), (xs.map f).eraseIdx i = (xs.eraseIdx i).map f
  | [], _ => by simp
  | _ :: _, 0 => rfl
  | x :: xs, i + 1 => by
    show f x :: (xs.map f).eraseIdx i = _
    rw [map_erase f xs i]
    rfl
theorem m_turned (n : Nat) (legs : List Int) (hl : legs.length ≤ 1000) (w : D) (hw : Cup w) : ∃ legs' w', run Φ (n + 2) 20 [tI legs] w = some (tI legs', w') ∧ legs'.Perm legs ∧ Cup w' := by
  rw [run_cup f_u_law_turned rfl]
  obtain ⟨⟨fo, le⟩, env', w', ⟨c, h1, h2, hp, u, rfl⟩, hf⟩ := forL_draw (f := loop1 (run Φ (n + 1)) (.nm 4) [.appPop 3 2 (.callC 18 [.prim .len [.var 2]])])
    (fun (a : List Int × List Int) k env w => Cup w ∧ a.1.length = k ∧ a.2.length + k = legs.length ∧ (a.1 ++ a.2).Perm legs ∧ ∃ u, env = [none, some (tI legs), some (.list (a.2.map .int)), some (.list (a.1.map .int)), u])
    (xs := (rngI legs.length).map .int) (k := 0) (a := ([], legs)) (env := [none, some (tI legs), some (.list (legs.map .int)), some (.list []), none]) (w := w) ⟨hw, rfl, rfl, .refl _, none, rfl⟩ (fun i x hx a env w hI => by
      obtain ⟨fo, le⟩ := a
      obtain ⟨c, h1, h2, hp, u, rfl⟩ := hI
      have hi := lt_of_get hx
      rw [List.length_map, rngI_len] at hi
      simp only at h1 h2 hp
      obtain ⟨r, w', e, r0, r1, c'⟩ := rolls n le.length w c (by omega) (by omega)
      obtain ⟨j, rfl⟩ : ∃ j : Nat, r = j := ⟨r.toNat, by omega⟩
      have hj : j < le.length := by omega
      have hg : le[j]? = some le[j] := List.getElem?_eq_getElem hj
      have e1 : popD (.list (le.map .int)) (.int j) = some (.int le[j], .list ((le.eraseIdx j).map .int)) := by
        rw [pop_nat (x := .int le[j]) (by rw [List.getElem?_map, hg]; rfl) (by rw [List.length_map]; omega), map_erase]
      have e2 : appD (.list (fo.map .int)) (.int le[j]) = some (.list ((fo ++ [le[j]]).map .int)) := by
        rw [app_lst (by rw [List.length_map]; omega), List.map_append]
        rfl
      have e3 : lenD (.list (le.map .int)) = some (.int le.length) := by
        show some (PyData.int ((le.map PyData.int).length : Int)) = _
        rw [List.length_map]
      refine ⟨(fo ++ [le[j]], le.eraseIdx j), [none, some (tI legs), some (.list ((le.eraseIdx j).map .int)), some (.list ((fo ++ [le[j]]).map .int)), some x], w', ⟨c', ?_, ?_, ?_, _, rfl⟩, ?_⟩
      · simp [h1]
      · simp [List.length_eraseIdx, hj]; omega
      · refine List.Perm.trans ?_ hp
        show ((fo ++ [le[j]]) ++ le.eraseIdx j).Perm (fo ++ le)
        rw [List.append_assoc]
        exact (erase_perm hg).append_left fo
      · simp only [List.map_append, List.map_cons, List.map_nil] at e2
        simp [loop1, x_cons, e3, e, e1, e2])
  simp only at h1 h2 hp
  have hle : le = [] := List.length_eq_zero_iff.mp (by rw [List.length_map, rngI_len] at h2; omega)
  subst hle
  rw [List.append_nil] at hp
  refine ⟨fo, w', ?_, hp, c⟩
  have h3 := items_rngI (m := legs.length) (by omega) (by omega)
  have e3 : lenD (.list (legs.map .int)) = some (.int legs.length) := by
    show some (PyData.int ((legs.map PyData.int).length : Int)) = _
    rw [List.length_map]
  have e4 : listD (tI legs) = some (.list (legs.map .int)) := rfl
  have e5 : tupleD (.list (fo.map .int)) = some (tI fo) := rfl
  have hf' := hf
  rw [S_u_law_turned]
  show retOf (exs (run Φ (n + 1)) _ [none, some (tI legs), none, none, none] _) = _
  rw [x_step (env' := [none, some (tI legs), some (.list (legs.map .int)), some (.list []), none]) (w' := w) (by simp [S_u_law_turned_0, e4])]
  rw [x_step (env' := [none, some (tI legs), some (.list []), some (.list (fo.map .int)), u]) (w' := w') (by
    simp only [S_u_law_turned_1, x_for, e_cons, e_nil, e_var, e_prim, gE0, gES, Option.map_some, Option.bind_some, p_len, e3, h3]
    exact hf')]
  exact ret_ev (by simp [e5])
/-! ### slices of rows -/
theorem sl_to {l : List Int} {i : Int} (h0 : 0 ≤ i) : slD none (some i) (tI l) = some (tI (l.take i.toNat)) := by
  obtain ⟨k, rfl⟩ : ∃ k : Nat, i = k := ⟨i.toNat, by omega⟩
  show some (PyData.tuple (cutL _ none (some ((k : Nat) : Int)))) = _
  rw [cut_to, ← List.map_take]
  rfl
theorem sl_from {l : List Int} {i : Int} (h0 : 0 ≤ i) : slD (some (i + 1)) none (tI l) = some (tI (l.drop (i.toNat + 1))) := by
  obtain ⟨k, rfl⟩ : ∃ k : Nat, i = k := ⟨i.toNat, by omega⟩
  show some (PyData.tuple (cutL _ (some (((k + 1 : Nat)) : Int)) none)) = _
  rw [cut_from, ← List.map_drop]
  rfl
theorem sl_last (l : List Int) : slD (some (-1)) none (tI l) = some (tI (l.drop (l.length - 1))) := by
  show some (PyData.tuple (cutL _ (some (-1)) none)) = _
  unfold cutL
  have e1 : HT.sIx (l.map PyData.int).length 0 (some (-1)) = l.length - 1 := by
    show (if (-1 : Int) < 0 then ((-1 : Int) + ((l.map PyData.int).length : Int)).toNat else min (-1 : Int).toNat (l.map PyData.int).length) = _
    rw [if_pos (by omega), List.length_map]
    omega
  rw [e1, HT.sIx_none, List.length_map, ← List.map_drop, List.take_of_length_le (by simp)]
  rfl
theorem add_tI {a b : List Int} (h : a.length + b.length ≤ 10000) : addD (tI a) (tI b) = some (tI (a ++ b)) := by
  unfold tI
  rw [addTup (by simp; omega), List.map_append]
def eW (K : Kit) (x3 x4 x5 x6 x7 x8 : Option D) : Ev := [none, some (kitD K), some (.list ((Rn K.ks K.w).map tN)), x3, x4, x5, x6, x7, x8, none]
section
variable {K : Kit} (g : GK' K)
include g
theorem in_rows (l : List Int) : inD (tI l) (.list ((Rn K.ks K.w).map tN)) = some (frB K l) := by
  have h := in_DL (α := W.Tup Int) (by decide) ⟨l⟩ ((Rn K.ks K.w).map fun r => ⟨up r⟩)
  rw [List.map_map] at h
  have h : inD (tI l) (.list ((Rn K.ks K.w).map tN)) = some (decide ((⟨l⟩ : W.Tup Int) ∈ (Rn K.ks K.w).map fun r => (⟨up r⟩ : W.Tup Int))) := h
  rw [h]
  congr 1
  rw [Bool.eq_iff_iff, decide_eq_true_eq, frB_iff g, List.mem_map]
  constructor
  · rintro ⟨r, hr, e⟩
    exact ⟨r, hr, (congrArg (fun t : W.Tup Int => t.1) e).symm⟩
  · rintro ⟨r, hr, rfl⟩
    exact ⟨r, hr, rfl⟩
theorem val_turn (l : List Int) (x3 x4 x5 x6 x7 x8 : Option D) (w : D) : loop1 (run Φ 39) (.nm 7) RB (tI l) (eW K x3 x4 x5 x6 x7 x8) w = some (.nx, eW K x3 x4 x5 x6 (some (tI l)) x8, w) := by
  have h1 := m_is_row g 35 l
  have h1 : run Φ 39 12 [kitD K, tI l] .none = some (.bool (frB K l), .none) := h1
  have h2 := in_rows g l
  have h2 : inD (tI l) (.list ((Rn K.ks K.w).map tN)) = some (frB K l) := h2
  have r2 := (fit_bool (b := frB K l)).repr (by decide) (by decide)
  have h3 := eqStr (PyData.bool (frB K l)).shown (PyData.bool (frB K l)).shown
  rw [decide_eq_true rfl] at h3
  unfold loop1 eW
  simp only [b_nm, sES, sE0, Option.map_some, Option.bind_some]
  rw [RB, x_last (r := (.nx, [none, some (kitD K), some (.list ((Rn K.ks K.w).map tN)), x3, x4, x5, x6, some (tI l), x8, none], w)) (by
    simp only [x_ifs, e_prim, e_call, e_cons, e_nil, e_var, gE0, gES, Option.map_some, Option.bind_some, h1, Bool.false_and, Bool.false_eq_true, if_false, p_repr, r2, p_in, h2, p_ne, h3, Bool.not_true, asB_b, x_nil])]
theorem jn_fit {r : List Nat} (h : r ∈ Rn K.ks K.w) : ∀ x ∈ jn (up r), 0 ≤ x ∧ x ≤ 16 := by
  intro x hx
  unfold jn at hx
  obtain ⟨i, _, rfl⟩ := List.mem_map.mp hx
  obtain ⟨_, hs, _, _⟩ := row_facts g h
  have e1 : (up r).take (i + 1) = up (r.take (i + 1)) := by unfold up; rw [List.map_take]
  have e2 : (r.take (i + 1)).sum + (r.drop (i + 1)).sum = r.sum := by
    rw [← List.sum_append, List.take_append_drop]
  have w16 := g.w16
  rw [e1, up_sum]
  omega
theorem fit_ints {l : List Int} {m : Nat} (h : ∀ x ∈ l, x.natAbs < 10 ^ 12) (hl : l.length ≤ m) : Fit (tI l) 1 (m * 1) := fit_tup (xs := l.map .int) (k := 0) (b := 0) (fun y hy => by
  obtain ⟨z, hz, rfl⟩ := List.mem_map.mp hy
  exact fit_int (h z hz)) (by rw [List.length_map]; exact hl)
theorem row_fit {r : List Nat} (h : r ∈ Rn K.ks K.w) : Fit (tN r) 1 (16 * 1) := by
  obtain ⟨h1, _, h3, _⟩ := row_facts g h
  exact fit_ints g (fun x hx => by
    obtain ⟨k, hk, rfl⟩ := List.mem_map.mp hx
    have := g.ok k (h1 k hk)
    omega) (by rw [up_len]; exact h3)
theorem turn6 {w : D} (hw : Cup w) (w8 : K.w ≤ 8) (i : D) (x3 x4 x5 x6 x7 x8 : Option D) : ∃ y4 y5 y6 y7 w', loop1 (run Φ 39) (.nm 3) [.ifs RC [RA1, RA2, RA3, RA4, RA5] []] i (eW K x3 x4 x5 x6 x7 x8) w = some (.nx, eW K (some i) y4 y5 y6 y7 x8, w') ∧ Cup w' := by
  have hq := eq_nilD g (rows_plain (Rn K.ks K.w))
  have hb : loop1 (run Φ 39) (.nm 3) [.ifs RC [RA1, RA2, RA3, RA4, RA5] []] i (eW K x3 x4 x5 x6 x7 x8) w = exs (run Φ 39) [.ifs RC [RA1, RA2, RA3, RA4, RA5] []] (eW K (some i) x4 x5 x6 x7 x8) w := by
    unfold loop1 eW
    simp only [b_nm, sES, sE0, Option.map_some, Option.bind_some]
  rw [hb]
  have hcl := cn_le g.g K.w
  have hp8 : 2 ^ K.w ≤ 2 ^ 8 := Nat.pow_le_pow_right (by decide) w8
  have hlen := Rn_len K.ks K.w
  cases hR : Rn K.ks K.w with
  | nil =>
    rw [hR] at hq
    have hq : eqD (.list []) (.list []) = some true := hq
    refine ⟨x4, x5, x6, x7, w, ?_, hw⟩
    unfold eW
    rw [hR]
    rw [x_last (r := (.nx, [none, some (kitD K), some (.list ([].map tN)), some i, x4, x5, x6, x7, x8, none], w)) (by
      simp only [x_ifs, RC, e_prim, e_cons, e_nil, e_var, gE0, gES, Option.map_some, Option.bind_some, List.map_nil, p_lst, p_ne, hq, Bool.not_true, asB_b, Bool.false_eq_true, if_false, x_nil])]
  | cons r0 R0 =>
    have hpos : 0 < (Rn K.ks K.w).length := by rw [hR]; simp
    have hemp : ((Rn K.ks K.w).map tN).isEmpty = false := by rw [hR]; rfl
    rw [hemp] at hq
    obtain ⟨at_, w1, e1, a0, a1, c1⟩ := rolls 38 (Rn K.ks K.w).length w hw (by omega) (by omega)
    obtain ⟨a, rfl⟩ : ∃ a : Nat, at_ = a := ⟨at_.toNat, by omega⟩
    have ha : a < (Rn K.ks K.w).length := by omega
    obtain ⟨r, hr⟩ : ∃ r, (Rn K.ks K.w)[a]? = some r := ⟨_, List.getElem?_eq_getElem ha⟩
    have hrm := List.mem_of_getElem? hr
    obtain ⟨f1, f2, f3, f4⟩ := row_facts g hrm
    obtain ⟨u, hu, k1⟩ := m_row_with g 35 (m := a) (by omega)
    rw [hr] at hu
    cases hu
    have k1 : run Φ 39 15 [kitD K, .int a] .none = some (tN r, .none) := k1
    have k2 := m_number_of g 34 hrm
    rw [rk_ix g.g hr] at k2
    have k2 : run Φ 39 16 [kitD K, tN r] .none = some (.int a, .none) := k2
    have k3 := m_joints g 34 hrm
    have k3 : run Φ 39 13 [kitD K, tN r] .none = some (tI (jn (up r)), .none) := k3
    have k4 := m_law_joints (n := 38) (r := up r) (by rw [up_len]; omega)
    have k4 : run Φ 39 23 [tN r] .none = some (.list ((jn (up r)).map .int), .none) := k4
    have ht4 : tupleD (.list ((jn (up r)).map .int)) = some (tI (jn (up r))) := rfl
    have hfit : Fit (.tuple [tN r, .int a, tI (jn (up r))]) 2 (3 * (16 * 1 + 1)) := fit_tup (xs := [tN r, .int a, tI (jn (up r))]) (k := 1) (b := 16 * 1) (fun x hx => by
      rcases (show x = tN r ∨ x = .int a ∨ x = tI (jn (up r)) by simpa using hx) with rfl | rfl | rfl
      · exact row_fit g hrm
      · exact (fit_int (i := (a : Int)) (by omega)).mono (by decide) (by decide)
      · refine fit_ints g (fun x hx => by have := jn_fit g hrm x hx; omega) ?_
        unfold jn
        rw [List.length_map, List.length_range, up_len]
        omega) (by simp)
    have hrep := hfit.repr (by decide) (by decide)
    have hse := eqStr (PyData.tuple [tN r, .int a, tI (jn (up r))]).shown (PyData.tuple [tN r, .int a, tI (jn (up r))]).shown
    rw [decide_eq_true rfl] at hse
    obtain ⟨by_, w2, e2, b0, b1, c2⟩ := rolls 38 r.length w1 c1 (by omega) (by omega)
    obtain ⟨tu, w3, e3, hp3, c3⟩ := m_turned 37 (up r) (by rw [up_len]; omega) w2 c2
    have htul := hp3.length_eq
    rw [up_len] at htul
    have n1 := g.n1
    have n4 := g.n4
    obtain ⟨z, w4, e4, hz, c4⟩ := somesT 37 (xs := (up K.ks).map .int) c3 (by
      intro e
      have := congrArg List.length e
      rw [List.length_map, up_len] at this
      simp at this
      rw [this] at n1
      simp at n1) (by rw [List.length_map, up_len]; omega)
    obtain ⟨z, _, rfl⟩ := List.mem_map.mp hz
    have e1 : run Φ 39 18 [.int (Rn K.ks K.w).length] w = some (.int a, w1) := e1
    have e2 : run Φ 39 18 [.int r.length] w1 = some (.int by_, w2) := e2
    have e3 : run Φ 39 20 [tN r] w2 = some (tI tu, w3) := e3
    have e4 : run Φ 39 19 [tN K.ks] w3 = some (.int z, w4) := e4
    obtain ⟨vs, hvs⟩ : ∃ vs : List (List Int), vs = [up r, (up r).reverse, tu, (up r).take by_.toNat ++ (up r).drop (by_.toNat + 1), up r ++ (up r).drop ((up r).length - 1), ((up r).take by_.toNat ++ [z]) ++ (up r).drop (by_.toNat + 1)] := ⟨_, rfl⟩
    obtain ⟨env', ⟨y7, rfl⟩, hf⟩ := forL_fold (f := loop1 (run Φ 39) (.nm 7) RB) (enc := tI) (w := w4) (fun (_ : Unit) env => ∃ y7, env = eW K (some i) (some (.int a)) (some (tN r)) (some (.int by_)) y7 x8) (fun _ _ => ()) (xs := vs) (fun l hl _ env hI => by
      obtain ⟨y7, rfl⟩ := hI
      exact ⟨_, ⟨some (tI l), rfl⟩, val_turn g l _ _ _ _ y7 _ w4⟩) (a := ()) (env := eW K (some i) (some (.int a)) (some (tN r)) (some (.int by_)) x7 x8) ⟨x7, rfl⟩
    refine ⟨some (.int a), some (tN r), some (.int by_), y7, w4, ?_, c4⟩
    refine x_last ?_
    have hlr : lenD (.list ((Rn K.ks K.w).map tN)) = some (.int (Rn K.ks K.w).length) := by
      show some (PyData.int (((Rn K.ks K.w).map tN).length : Nat)) = _
      rw [List.length_map]
    have hix : ixD (.list ((Rn K.ks K.w).map tN)) (.int (a : Int)) = some (tN r) := by
      show L2.atI ((Rn K.ks K.w).map tN) (a : Int) = _
      rw [at_nat, List.getElem?_map, hr]
      rfl
    have hcond : ev (run Φ 39) RC (eW K (some i) x4 x5 x6 x7 x8) w = some (.bool true, w) := by
      simp only [RC, eW, e_prim, e_cons, e_nil, e_var, gE0, gES, Option.map_some, Option.bind_some, p_lst, p_ne, hq, Bool.not_false]
    rw [x_ifs, hcond]
    simp only [Option.bind_some, asB_b, if_true]
    rw [x_step (env' := eW K (some i) (some (.int a)) x5 x6 x7 x8) (w' := w1) (by
      simp only [RA1, eW, x_asg, e_prim, e_callC, e_cons, e_nil, e_var, gE0, gES, Option.map_some, Option.bind_some, p_len, hlr, e1, b_nm, sES, sE0])]
    rw [x_step (env' := eW K (some i) (some (.int a)) (some (tN r)) x6 x7 x8) (w' := w1) (by
      simp only [RA2, eW, x_asg, e_prim, e_cons, e_nil, e_var, gE0, gES, Option.map_some, Option.bind_some, p_ix, hix, b_nm, sES, sE0])]
    rw [x_step (env' := eW K (some i) (some (.int a)) (some (tN r)) x6 x7 x8) (w' := w1) (by
      simp only [RA3, eW, x_ifs, e_prim, e_call, e_cons, e_nil, e_var, gE0, gES, Option.map_some, Option.bind_some, k1, k2, k3, k4, Bool.false_and, Bool.false_eq_true, if_false, p_tup, p_tuple, ht4, p_repr, hrep, p_ne, hse, Bool.not_true, asB_b, x_nil])]
    rw [x_step (env' := eW K (some i) (some (.int a)) (some (tN r)) (some (.int by_)) x7 x8) (w' := w2) (by
      simp only [RA4, eW, x_asg, e_prim, e_callC, e_cons, e_nil, e_var, gE0, gES, Option.map_some, Option.bind_some, p_len, len_tN, e2, b_nm, sES, sE0])]
    refine x_last ?_
    have hv : ev (run Φ 39) RV (eW K (some i) (some (.int a)) (some (tN r)) (some (.int by_)) x7 x8) w2 = some (.tuple (vs.map tI), w4) := by
      have g1 : revD (tN r) = some (tI (up r).reverse) := by
        show some (PyData.tuple ((up r).map PyData.int).reverse) = _
        rw [← List.map_reverse]
        rfl
      have g2 : slD none (some by_) (tN r) = some (tI ((up r).take by_.toNat)) := sl_to b0
      have g3 : slD (some (by_ + 1)) none (tN r) = some (tI ((up r).drop (by_.toNat + 1))) := sl_from b0
      have g4 : slD (some (-1)) none (tN r) = some (tI ((up r).drop ((up r).length - 1))) := sl_last (up r)
      have hul := up_len r
      have g5 := add_tI (a := (up r).take by_.toNat) (b := (up r).drop (by_.toNat + 1)) (by simp; omega)
      have g6 : addD (tN r) (tI ((up r).drop ((up r).length - 1))) = some (tI (up r ++ (up r).drop ((up r).length - 1))) := add_tI (by simp; omega)
      have g7 : addD (tI ((up r).take by_.toNat)) (.tuple [.int z]) = some (tI ((up r).take by_.toNat ++ [z])) := add_tI (b := [z]) (by simp; omega)
      have g8 := add_tI (a := (up r).take by_.toNat ++ [z]) (b := (up r).drop (by_.toNat + 1)) (by simp; omega)
      simp only [RV, eW, e_prim, e_callC, e_cons, e_nil, e_var, e_con, gE0, gES, Option.map_some, Option.bind_some, p_rev, g1, e3, p_sl01, g2, p_add, i_add, p_sl10, g3, g5, p_neg, g4, g6, p_ix, kt1, e4, p_tup, g7, g8, hvs]
      rfl
    have hi : items .seq [.tuple (vs.map tI)] = some (vs.map tI) := rfl
    rw [RA5, x_for, e_cons, hv]
    simp only [Option.bind_some, e_nil, Option.map_some, hi]
    exact hf
/-! ### values that are no rows -/
theorem row_no (n : Nat) {v : D} (hp : v.plain = true) (h : tupD v 1 16 = false) : run Φ (n + 4) 12 [kitD K, v] .none = some (.bool false, .none) := by
  rw [run_fn f_is_row rfl, S_is_row]
  show retOf (exs (run Φ (n + 3)) _ [some (kitD K), some v] _) = _
  have k : run Φ (n + 3) 5 [kitD K, v] .none = some (.bool false, .none) := by
    rw [run_fn f_fits_row rfl, S_fits_row]
    show retOf (exs (run Φ (n + 2)) _ [some (kitD K), some v, none] _) = _
    have h1 := m_tupOf (n + 1) hp 1 16
    rw [h] at h1
    rw [x_cons]
    simp [S_fits_row_0, x_cons, h1]
  simp [S_is_row_0, S_is_row_1, x_cons, m_need_kit g n, k]
theorem row_noT (n : Nat) {xs : List D} (hp : PyData.plainAll xs = true) (h0 : xs ≠ []) (h : ∀ x ∈ xs, wholeD x 1 8 = false) : run Φ (n + 4) 12 [kitD K, .tuple xs] .none = some (.bool false, .none) := by
  rw [run_fn f_is_row rfl, S_is_row]
  show retOf (exs (run Φ (n + 3)) _ [some (kitD K), some (.tuple xs)] _) = _
  have k : run Φ (n + 3) 5 [kitD K, .tuple xs] .none = some (.bool false, .none) := by
    rw [run_fn f_fits_row rfl, S_fits_row]
    show retOf (exs (run Φ (n + 2)) _ [some (kitD K), some (.tuple xs), none] _) = _
    have h1 := m_tupOf (n + 1) (v := .tuple xs) (by simpa using hp) 1 16
    have hi : items .seq [.tuple xs] = some xs := rfl
    have hc := compL_map (f := turnC (run Φ (n + 2)) [some (kitD K), some (.tuple xs), none] (.nm 2) [2] (.con (.bool true)) (.call 0 false [.var 2, .con (.int 1), .con (.int 8)])) (enc := id) (g := fun _ => PyData.bool false) (w := .none) (xs := xs) (fun x hx => by
      have h5 := m_whole (n + 1) (plainAll_mem hp x hx) 1 8
      rw [h x hx] at h5
      simp [turnC, h5])
    rw [List.map_id] at hc
    have ha := allMap xs fun _ => false
    have hz : (xs.all fun _ => false) = false := by
      cases xs with
      | nil => exact absurd rfl h0
      | cons _ _ => rfl
    rw [hz] at ha
    rw [x_cons]
    cases ht : tupD (.tuple xs) 1 16 <;> rw [ht] at h1 <;> simp [S_fits_row_0, x_cons, h1, hi, hc, ha]
  simp [S_is_row_0, S_is_row_1, x_cons, m_need_kit g n, k]
def oddsW (K : Kit) : List D := [.none, .tuple [], .list ((up K.ks).map .int), .tuple (List.replicate K.w (.int 0)), .tuple (List.replicate K.w (.bool true)), .tuple [.str "1"], .tuple [.none], .tuple [.int ((K.w : Int) + 1)], .int 5]
theorem oddsW_no (n : Nat) : ∀ v ∈ oddsW K, run Φ (n + 4) 12 [kitD K, v] .none = some (.bool false, .none) := by
  intro v hv
  have w1 := g.w1
  have hpr : ∀ (x : D) (k : Nat), x.plain = true → PyData.plainAll (List.replicate k x) = true := fun x k hx => plainAll_of fun y hy => by rw [List.eq_of_mem_replicate hy]; exact hx
  have hne : ∀ (x : D), List.replicate K.w x ≠ [] := fun x e => by
    have := congrArg List.length e
    rw [List.length_replicate, List.length_nil] at this
    omega
  rcases (show v = .none ∨ v = .tuple [] ∨ v = .list ((up K.ks).map .int) ∨ v = .tuple (List.replicate K.w (.int 0)) ∨ v = .tuple (List.replicate K.w (.bool true)) ∨ v = .tuple [.str "1"] ∨ v = .tuple [.none] ∨ v = .tuple [.int ((K.w : Int) + 1)] ∨ v = .int 5 by simpa [oddsW] using hv) with rfl | rfl | rfl | rfl | rfl | rfl | rfl | rfl | rfl
  · exact row_no g n rfl rfl
  · exact row_no g n rfl rfl
  · exact row_no g n (by simp [plain_ints]) rfl
  · exact row_noT g n (hpr _ _ rfl) (hne _) fun x hx => by rw [List.eq_of_mem_replicate hx]; rfl
  · exact row_noT g n (hpr _ _ rfl) (hne _) fun x hx => by rw [List.eq_of_mem_replicate hx]; rfl
  · exact row_noT g n rfl (by simp) fun x hx => by rw [List.mem_singleton.mp hx]; rfl
  · exact row_noT g n rfl (by simp) fun x hx => by rw [List.mem_singleton.mp hx]; rfl
  · have := m_is_row g n [(K.w : Int) + 1]
    have hb : frB K [(K.w : Int) + 1] = false := by
      unfold frB
      have : decide ([(K.w : Int) + 1].sum = K.w) = false := decide_eq_false (by simp; omega)
      rw [this]
      simp
    rw [hb] at this
    exact this
  · exact row_no g n rfl rfl
end
theorem m_right {w : D} (hw : Cup w) : ∃ w', run Φ 40 24 [] w = some (.bool true, w') ∧ Cup w' := by
  rw [run_cup (n := 39) f_u_law_right rfl]
  obtain ⟨K, w1, e1, c1, g, w8⟩ := m_kit 36 8 (by decide) (by decide) w hw
  have e1 : run Φ 39 21 [.int 8, .int 4] w = some (kitD K, w1) := e1
  have w8 : K.w ≤ 8 := by omega
  have k1 := m_rows g 38 w8
  have k1 : run Φ 39 22 [kitD K] .none = some (.list ((Rn K.ks K.w).map tN), .none) := k1
  have k2 := m_is_kit g 36
  have k2 : run Φ 39 11 [kitD K] .none = some (.bool true, .none) := k2
  have k3 := m_count_rows g 35
  have k3 : run Φ 39 14 [kitD K] .none = some (.int (cn K.ks K.w : Nat), .none) := k3
  have k4 := m_all_rows g 34 w8
  have k4 : run Φ 39 17 [kitD K] .none = some (.tuple ((Rn K.ks K.w).map tN), .none) := k4
  have hcl := cn_le g.g K.w
  have hp8 : 2 ^ K.w ≤ 2 ^ 8 := Nat.pow_le_pow_right (by decide) w8
  have hlen := Rn_len K.ks K.w
  have hfit : Fit (.tuple [.bool true, .int (cn K.ks K.w : Nat), .tuple ((Rn K.ks K.w).map tN)]) 3 (3 * (256 * (16 * 1 + 1) + 1)) := fit_tup (xs := [.bool true, .int (cn K.ks K.w : Nat), .tuple ((Rn K.ks K.w).map tN)]) (k := 2) (b := 256 * (16 * 1 + 1)) (fun x hx => by
    rcases (show x = .bool true ∨ x = .int (cn K.ks K.w : Nat) ∨ x = .tuple ((Rn K.ks K.w).map tN) by simpa using hx) with rfl | rfl | rfl
    · exact fit_bool.mono (by decide) (by decide)
    · exact (fit_int (i := ((cn K.ks K.w : Nat) : Int)) (by omega)).mono (by decide) (by decide)
    · exact fit_tup (fun y hy => by
        obtain ⟨r, hr, rfl⟩ := List.mem_map.mp hy
        exact row_fit g hr) (by rw [List.length_map]; omega)) (by simp)
  have hrep := hfit.repr (by decide) (by decide)
  have hse := eqStr (PyData.tuple [.bool true, .int (cn K.ks K.w : Nat), .tuple ((Rn K.ks K.w).map tN)]).shown (PyData.tuple [.bool true, .int (cn K.ks K.w : Nat), .tuple ((Rn K.ks K.w).map tN)]).shown
  rw [decide_eq_true rfl] at hse
  obtain ⟨_, env2, w2, ⟨c2, x3, x4, x5, x6, x7, rfl⟩, hf⟩ := forL_draw (f := loop1 (run Φ 39) (.nm 3) [.ifs RC [RA1, RA2, RA3, RA4, RA5] []]) (fun (_ : Unit) (k : Nat) env w => Cup w ∧ ∃ x3 x4 x5 x6 x7, env = eW K x3 x4 x5 x6 x7 none) (xs := (rngI 6).map .int) (k := 0) (a := ()) (env := eW K none none none none none none) (w := w1) ⟨c1, none, none, none, none, none, rfl⟩ (fun i x hx u env w hi => by
    obtain ⟨c, x3, x4, x5, x6, x7, rfl⟩ := hi
    obtain ⟨y4, y5, y6, y7, w', h1, h2⟩ := turn6 g c w8 x x3 x4 x5 x6 x7 none
    exact ⟨(), _, w', ⟨h2, some x, y4, y5, y6, y7, rfl⟩, h1⟩)
  refine ⟨w2, ?_, c2⟩
  rw [S_u_law_right]
  show retOf (exs (run Φ 39) _ [none, none, none, none, none, none, none, none, none, none] w) = _
  rw [x_step (env' := [none, some (kitD K), none, none, none, none, none, none, none, none]) (w' := w1) (by
    simp only [S_u_law_right_0, x_asg, e_callC, e_cons, e_nil, e_con, Option.map_some, Option.bind_some, e1, b_nm, sES, sE0])]
  rw [x_step (env' := eW K none none none none none none) (w' := w1) (by
    simp only [S_u_law_right_1, eW, x_asg, e_call, e_cons, e_nil, e_var, gE0, gES, Option.map_some, Option.bind_some, k1, Bool.false_and, Bool.false_eq_true, if_false, b_nm, sES, sE0])]
  have hlr : lenD (.list ((Rn K.ks K.w).map tN)) = some (.int (cn K.ks K.w : Nat)) := by
    show some (PyData.int (((Rn K.ks K.w).map tN).length : Nat)) = _
    rw [List.length_map, hlen]
  have htr : tupleD (.list ((Rn K.ks K.w).map tN)) = some (.tuple ((Rn K.ks K.w).map tN)) := rfl
  rw [x_step (env' := eW K none none none none none none) (w' := w1) (by
    simp only [S_u_law_right_2, eW, x_ifs, e_prim, e_call, e_cons, e_nil, e_var, e_con, gE0, gES, Option.map_some, Option.bind_some, k2, k3, k4, Bool.false_and, Bool.false_eq_true, if_false, p_tup, p_len, hlr, p_tuple, htr, p_repr, hrep, p_ne, hse, Bool.not_true, asB_b, x_nil])]
  rw [x_step (env' := eW K x3 x4 x5 x6 x7 none) (w' := w2) (by
    have hri := items_rngI (m := 6) (by omega) (by omega)
    rw [R3]
    simp only [x_for, e_cons, e_nil, e_con, Option.map_some, Option.bind_some, hri]
    exact hf)]
  have n4 := g.n4
  have w16 := g.w16
  have hm1 : mulD (.tuple [.int 0]) (.int K.w) = some (.tuple (List.replicate K.w (.int 0))) := by
    rw [mulD, if_pos ⟨by omega, by omega, by simp⟩, Int.toNat_natCast]
    congr 2
    generalize K.w = k
    unfold repL
    induction k with
    | zero => rfl
    | succ k ih => rw [List.replicate_succ, List.flatten_cons, ih]; rfl
  have hm2 : mulD (.tuple [.bool true]) (.int K.w) = some (.tuple (List.replicate K.w (.bool true))) := by
    rw [mulD, if_pos ⟨by omega, by omega, by simp⟩, Int.toNat_natCast]
    congr 2
    generalize K.w = k
    unfold repL
    induction k with
    | zero => rfl
    | succ k ih => rw [List.replicate_succ, List.flatten_cons, ih]; rfl
  have hls : listD (tN K.ks) = some (.list ((up K.ks).map .int)) := rfl
  rw [x_step (env' := eW K x3 x4 x5 x6 x7 (some (.list (oddsW K)))) (w' := w2) (by
    simp only [S_u_law_right_4, eW, x_asg, e_prim, e_cons, e_nil, e_var, e_con, gE0, gES, Option.map_some, Option.bind_some, p_tup, p_ix, kt0, kt1, p_list, hls, p_mul, hm1, hm2, p_add, i_add, p_lst, b_nm, sES, sE0]
    rfl)]
  have o1 := oddsW_no g 35
  have o1 : ∀ v ∈ oddsW K, run Φ 39 12 [kitD K, v] .none = some (.bool false, .none) := o1
  have isb : isBD (.bool false) (.bool false) = some true := rfl
  have hi : items .seq [.list (oddsW K)] = some (oddsW K) := rfl
  have hc : compL (turnC (run Φ 39) (eW K x3 x4 x5 x6 x7 (some (.list (oddsW K)))) (.nm 9) [9] (.prim .notB [.call 12 false [.var 1, .var 9], .con (.bool false)]) (.var 9)) (oddsW K) w2 = some ([], w2) := compL_none fun v hv => by
    simp [turnC, eW, o1 v hv, isb]
  have he : eqD (.list []) (.list []) = some true := eq_nilD g (xs := []) rfl
  refine ret_ev ?_
  simp only [eW] at hc
  simp only [eW, e_prim, e_comp, e_cons, e_nil, e_var, gE0, gES, Option.map_some, Option.bind_some, hi, hc, p_lst, p_eq, he]
end K76
set_option Elab.async false
set_option linter.all false
set_option maxRecDepth 100000
set_option maxHeartbeats 200000
namespace K76
open PySem L2 PySem.Spec PyI

theorem ge_tI (a b : List Int) : geD (tI a) (tI b) = some (!decide (a < b)) := by
  have h : cmpOk (tI a) (tI b) = true := by
    unfold cmpOk
    have h1 := tI_plain a
    have h2 := tI_plain b
    have h3 := tI_depth a
    have h5 : W.alike (tI a) (tI b) = true := by
      show W.alike (.tuple _) (.tuple _) = true
      rw [W.alike]
      exact W.alike_ints a b
    have h6 : dep2 (tI a) (tI b) = true := by
      unfold dep2
      rw [decide_eq_true_iff]
      exact Nat.le_trans (Nat.min_le_left _ _) (Nat.le_trans h3 (by decide))
    have h7 : notNone (tI a) = true := rfl
    rw [h1, h2, h5, h6, h7]
    rfl
  unfold geD
  rw [if_pos h, dataLt_tI]
/-! ### counts from before -/
def wj (K : Kit) (j : Nat) : List Int := (List.range (K.w + 1)).map fun i => if i ≤ j then ((cn K.ks i : Nat) : Int) else 0
theorem wj_get {K : Kit} {j i : Nat} (h : i ≤ K.w) : (wj K j)[i]? = some (if i ≤ j then ((cn K.ks i : Nat) : Int) else 0) := by
  unfold wj
  rw [List.getElem?_map, List.getElem?_range (by omega)]
  rfl
theorem wj_len (K : Kit) (j : Nat) : (wj K j).length = K.w + 1 := by simp [wj]
theorem wj_zero (K : Kit) : wj K 0 = [1] ++ List.replicate K.w 0 := by
  refine List.ext_getElem? fun i => ?_
  by_cases hi : i ≤ K.w
  · rw [wj_get hi]
    cases i with
    | zero => simp [cn_zero]
    | succ i =>
      rw [if_neg (by omega), List.getElem?_append_right (by simp), List.getElem?_replicate]
      rw [if_pos (by simp; omega)]
  · rw [List.getElem?_eq_none (by rw [wj_len]; omega), List.getElem?_eq_none (by simp; omega)]
theorem wj_set {K : Kit} {j : Nat} (h : j < K.w) : (wj K j).set (j + 1) ((cn K.ks (j + 1) : Nat) : Int) = wj K (j + 1) := by
  refine List.ext_getElem? fun i => ?_
  rw [List.getElem?_set]
  by_cases hi : i ≤ K.w
  · rw [wj_get hi, wj_get hi, wj_len]
    by_cases e : j + 1 = i
    · rw [if_pos e, if_pos (by omega), if_pos (by omega), e]
    · rw [if_neg e]
      congr 1
      by_cases h2 : i ≤ j
      · rw [if_pos h2, if_pos (by omega)]
      · rw [if_neg h2, if_neg (by omega)]
  · rw [List.getElem?_eq_none (by rw [wj_len]; omega), List.getElem?_eq_none (by rw [wj_len]; omega), wj_len]
    split
    · rw [if_neg (by omega)]
    · rfl
def eG (K : Kit) (ways : List Int) (x4 x6 x7 x9 : Option D) : Ev := [none, some (kitD K), some (.int (cn K.ks K.w : Nat)), some (.list (ways.map .int)), x4, none, x6, x7, none, x9]
theorem pairs_of (xs : List Int) : pairsOf (xs.map fun x => PyData.tuple [.int x, .int 1]) = some (xs.map fun x => (PyData.int x, PyData.int 1)) := by
  induction xs with
  | nil => rfl
  | cons x xs ih =>
    rw [List.map_cons, pairsOf, ih]
    rfl
theorem fold_kv : ∀ (xs : List Int) (kv : List (Int × Int)), (xs.map fun x => (PyData.int x, PyData.int 1)).foldl (fun d p => putKvE d p.1 p.2) (kv.map enc) = (xs.foldl (fun kv x => putI kv x 1) kv).map enc
  | [], kv => rfl
  | x :: xs, kv => by
    rw [List.map_cons, List.foldl_cons, List.foldl_cons]
    have : putKvE (kv.map enc) (.int x) (.int 1) = (putI kv x 1).map enc := putKv_I kv x 1
    rw [this]
    exact fold_kv xs _
theorem fold_KV {lo hi : Int} : ∀ (xs : List Int) (kv : List (Int × Int)) (n : Nat), KV lo hi n kv → (∀ x ∈ xs, lo ≤ x ∧ x ≤ hi) → KV lo hi (n + xs.length) (xs.foldl (fun kv x => putI kv x 1) kv)
  | [], kv, n, h, _ => h
  | x :: xs, kv, n, h, hx => by
    have h1 := hx x (List.mem_cons_self ..)
    have := fold_KV xs (putI kv x 1) (n + 1) (h.put h1.1 h1.2) fun y hy => hx y (List.mem_cons_of_mem _ hy)
    rw [List.foldl_cons, List.length_cons, show n + (xs.length + 1) = n + 1 + xs.length by omega]
    exact this
section
variable {K : Kit} (g : GK' K)
include g
theorem ways_sum {j : Nat} (h : j < K.w) : ((K.ks.filter fun k => decide (k ≤ j + 1)).map fun k => ((cn K.ks (j + 1 - k) : Nat) : Int)).sum = ((cn K.ks (j + 1) : Nat) : Int) := by
  rw [cn_succ g.g, ← up_sum]
  unfold up
  rw [List.map_map]
  rfl
theorem ways_loop (w : D) : ∃ y4, forL (loop1 (run Φ 39) (.nm 4) [.putL 3 (.var 4) (.prim .sum [.comp .seq [.prim .ix [.var 1, .con (.int 1)]] (.nm 5) [5] (.prim .le [.var 5, .var 4]) (.prim .ix [.var 3, .prim .sub [.var 4, .var 5]])])]) ((rngF 1 ((K.w : Int) + 1)).map .int) (eG K (wj K 0) none none none none) w = some (.nx, eG K (wj K K.w) y4 none none none, w) := by
  obtain ⟨_, env', w', ⟨hw', y4, rfl⟩, hf⟩ := forL_draw (f := loop1 (run Φ 39) (.nm 4) [.putL 3 (.var 4) (.prim .sum [.comp .seq [.prim .ix [.var 1, .con (.int 1)]] (.nm 5) [5] (.prim .le [.var 5, .var 4]) (.prim .ix [.var 3, .prim .sub [.var 4, .var 5]])])])
    (fun (_ : Unit) (j : Nat) env w0 => w0 = w ∧ ∃ y4, env = eG K (wj K j) y4 none none none)
    (xs := (rngF 1 ((K.w : Int) + 1)).map .int) (k := 0) (a := ()) (env := eG K (wj K 0) none none none none) (w := w) ⟨rfl, none, rfl⟩ (fun j x hx u env w0 hi => by
      obtain ⟨rfl, y4, rfl⟩ := hi
      rw [Nat.zero_add]
      have hj := lt_of_get hx
      have hll : (rngF 1 ((K.w : Int) + 1)).length = K.w := by simp [rngF]
      rw [List.length_map, hll] at hj
      have hxj : x = .int (((j + 1 : Nat)) : Int) := by
        unfold rngF at hx
        have hj2 : j < ((K.w : Int) + 1 - 1).toNat := by omega
        rw [List.getElem?_map, List.getElem?_map, List.getElem?_range hj2] at hx
        have := Option.some.inj hx
        rw [← this]
        show PyData.int (1 + (j : Int)) = _
        rw [show 1 + (j : Int) = ((j + 1 : Nat) : Int) by omega]
      subst hxj
      refine ⟨(), eG K (wj K (j + 1)) (some (.int (((j + 1 : Nat)) : Int))) none none none, w0, ⟨rfl, _, rfl⟩, ?_⟩
      have hc : compL (turnC (run Φ 39) (eG K (wj K j) (some (.int (((j + 1 : Nat)) : Int))) none none none) (.nm 5) [5] (.prim .le [.var 5, .var 4]) (.prim .ix [.var 3, .prim .sub [.var 4, .var 5]])) (K.ks.map fun x : Nat => PyData.int (x : Int)) w0 = some (((K.ks.filter fun k => decide (k ≤ j + 1)).map fun k => ((cn K.ks (j + 1 - k) : Nat) : Int)).map .int, w0) := by
        rw [List.map_map]
        exact compL_filter fun k hk => by
          have hk1 := (g.ok k hk).1
          by_cases hle : k ≤ j + 1
          · have h1 : ((k : Int) ≤ ((j + 1 : Nat) : Int)) := by omega
            have h2 : ixD (.list ((wj K j).map .int)) (.int (((j + 1 : Nat) : Int) - (k : Int))) = some (.int ((cn K.ks (j + 1 - k) : Nat) : Int)) := by
              rw [show ((j + 1 : Nat) : Int) - (k : Int) = ((j + 1 - k : Nat) : Int) by omega]
              refine ix_L ?_
              rw [wj_get (by omega), if_pos (by omega)]
            simp only [turnC, eG, w_cons, w_nil, List.set_cons_succ, List.set_cons_zero, b_nm, sES, sE0, Option.map_some, Option.bind_some, e_prim, e_cons, e_nil, e_var, gE0, gES, p_le, i_le, decide_eq_true h1, asB_b, if_true, p_sub, i_sub, p_ix, h2, decide_eq_true hle]
            rfl
          · have h1 : ¬ ((k : Int) ≤ ((j + 1 : Nat) : Int)) := by omega
            simp only [turnC, eG, w_cons, w_nil, List.set_cons_succ, List.set_cons_zero, b_nm, sES, sE0, Option.map_some, Option.bind_some, e_prim, e_cons, e_nil, e_var, gE0, gES, p_le, i_le, decide_eq_false h1, asB_b, Bool.false_eq_true, if_false, decide_eq_false hle]
      have hp := put_L (xs := wj K j) (i := j + 1) (by rw [wj_len]; omega) ((cn K.ks (j + 1) : Nat) : Int)
      rw [wj_set hj] at hp
      have hs := sumL ((K.ks.filter fun k => decide (k ≤ j + 1)).map fun k => ((cn K.ks (j + 1 - k) : Nat) : Int))
      rw [ways_sum g hj] at hs
      unfold loop1
      simp only [eG] at hc ⊢
      simp only [b_nm, sES, sE0, Option.map_some, Option.bind_some]
      rw [x_last (r := (.nx, [none, some (kitD K), some (.int (cn K.ks K.w : Nat)), some (.list ((wj K (j + 1)).map .int)), some (.int (((j + 1 : Nat)) : Int)), none, none, none, none, none], w0)) (by
        simp only [x_putL, e_prim, e_comp, e_cons, e_nil, e_var, e_con, gE0, gES, Option.map_some, Option.bind_some, p_ix, kt1, items_tN, hc, p_sum, hs, hp, sES, sE0])])
  have hll : (rngF 1 ((K.w : Int) + 1)).length = K.w := by simp [rngF]
  rw [List.length_map, hll, Nat.zero_add] at hf
  subst hw'
  exact ⟨y4, hf⟩
/-- there and back by number -/
theorem nums_loop (w : D) (ways : List Int) (x4 : Option D) : ∀ (ns : List Int) (last : Option Nat) (x7 x9 : Option D), ns.Pairwise (· < ·) → (∀ m ∈ ns, 0 ≤ m ∧ m < (cn K.ks K.w : Nat)) → (∀ p, last = some p → p < cn K.ks K.w ∧ ∀ m ∈ ns, (p : Int) < m) →
    ∀ ld, (last = none → ld = .none) → (∀ p, last = some p → ∃ r, (Rn K.ks K.w)[p]? = some r ∧ ld = tN r) →
    ∃ y6 y7 y9, forL (loop1 (run Φ 39) (.nm 7) S_u_law_great_right_5_b) (ns.map .int) (eG K ways x4 (some ld) x7 x9) w = some (.nx, eG K ways x4 y6 y7 y9, w)
  | [], last, x7, x9, _, _, _, ld, _, _ => ⟨some ld, x7, x9, rfl⟩
  | m :: ns, last, x7, x9, hp, hr, hl, ld, h1, h2 => by
    obtain ⟨m0, m1⟩ := hr m (List.mem_cons_self ..)
    obtain ⟨a, rfl⟩ : ∃ a : Nat, m = a := ⟨m.toNat, by omega⟩
    obtain ⟨u, hu, k1⟩ := m_row_with g 35 (m := a) (by omega)
    have hum := List.mem_of_getElem? hu
    have k1 : run Φ 39 15 [kitD K, .int a] .none = some (tN u, .none) := k1
    have k2 := m_is_row g 35 (up u)
    rw [(frB_iff g).mpr ⟨u, hum, rfl⟩] at k2
    have k2 : run Φ 39 12 [kitD K, tN u] .none = some (.bool true, .none) := k2
    have k3 := m_number_of g 34 hum
    rw [rk_ix g.g hu] at k3
    have k3 : run Φ 39 16 [kitD K, tN u] .none = some (.int a, .none) := k3
    have isb : isBD (.bool true) (.bool true) = some true := rfl
    have eqn : eqD (.int (a : Int)) (.int (a : Int)) = some true := by rw [eq_int']; simp
    have hpc := List.pairwise_cons.mp hp
    obtain ⟨y6, y7, y9, e⟩ := nums_loop w ways x4 ns (some a) (some (.int a)) (some (tN u)) hpc.2 (fun q hq => hr q (List.mem_cons_of_mem _ hq)) (fun p hp => by
      cases hp
      exact ⟨by omega, hpc.1⟩) (tN u) (fun h => by cases h) (fun p hp => by cases hp; exact ⟨u, hu, rfl⟩)
    refine ⟨y6, y7, y9, ?_⟩
    rw [List.map_cons, forL]
    have hlast : ev (run Φ 39) (.and (.prim .notN [.var 6, .con (.none)]) (.prim .ge [.var 6, .var 9])) (eG K ways x4 (some ld) (some (.int a)) (some (tN u))) w = some (.bool false, w) := by
      cases last with
      | none =>
        have := h1 rfl
        subst this
        simp only [eG, e_and, e_prim, e_cons, e_nil, e_var, e_con, gE0, gES, Option.map_some, Option.bind_some, p_notN, isNone, Bool.not_true, asB_b, Bool.false_eq_true, if_false]
      | some p =>
        obtain ⟨r, hr', rfl⟩ := h2 p rfl
        obtain ⟨hp1, hp2⟩ := hl p rfl
        have hpa := hp2 a (List.mem_cons_self ..)
        have hpl : p < (Rn K.ks K.w).length := by rw [Rn_len]; exact hp1
        have hal : a < (Rn K.ks K.w).length := by rw [Rn_len]; omega
        have hlt := List.pairwise_iff_getElem.mp (Rn_up g.g K.w) p a hpl hal (by omega)
        rw [List.getElem?_eq_getElem hpl] at hr'
        rw [List.getElem?_eq_getElem hal] at hu
        rw [Option.some.inj hr', Option.some.inj hu] at hlt
        have hge := ge_tI (up r) (up u)
        rw [decide_eq_true (up_lt hlt)] at hge
        have hge : geD (tN r) (tN u) = some false := hge
        have hn : isNone (tN r) = false := rfl
        simp only [eG, e_and, e_prim, e_cons, e_nil, e_var, e_con, gE0, gES, Option.map_some, Option.bind_some, p_notN, hn, Bool.not_false, asB_b, if_true, p_ge, hge]
    have : loop1 (run Φ 39) (.nm 7) S_u_law_great_right_5_b (.int (a : Int)) (eG K ways x4 (some ld) x7 x9) w = some (.nx, eG K ways x4 (some (tN u)) (some (.int a)) (some (tN u)), w) := by
      unfold loop1
      rw [show PyI.bindT (.nm 7) (.int (a : Int)) (eG K ways x4 (some ld) x7 x9) = some (eG K ways x4 (some ld) (some (.int a)) x9) from by simp [eG]]
      simp only [Option.bind_some]
      rw [S_u_law_great_right_5_b]
      rw [x_step (env' := eG K ways x4 (some ld) (some (.int a)) (some (tN u))) (w' := w) (by
        simp only [S_u_law_great_right_5_0, eG, x_asg, e_call, e_cons, e_nil, e_var, gE0, gES, Option.map_some, Option.bind_some, k1, Bool.false_and, Bool.false_eq_true, if_false, b_nm, sES, sE0])]
      rw [x_step (env' := eG K ways x4 (some ld) (some (.int a)) (some (tN u))) (w' := w) (by
        have hfirst : ev (run Φ 39) (.prim .notB [.call 12 false [.var 1, .var 9], .con (.bool true)]) (eG K ways x4 (some ld) (some (.int a)) (some (tN u))) w = some (.bool false, w) := by
          simp only [eG, e_prim, e_call, e_cons, e_nil, e_var, e_con, gE0, gES, Option.map_some, Option.bind_some, k2, Bool.false_and, Bool.false_eq_true, if_false, p_notB, isb, Bool.not_true]
        have hsec : ev (run Φ 39) (.prim .ne [.call 16 false [.var 1, .var 9], .var 7]) (eG K ways x4 (some ld) (some (.int a)) (some (tN u))) w = some (.bool false, w) := by
          simp only [eG, e_prim, e_call, e_cons, e_nil, e_var, gE0, gES, Option.map_some, Option.bind_some, k3, Bool.false_and, Bool.false_eq_true, if_false, p_ne, eqn, Bool.not_true]
        rw [S_u_law_great_right_5_1, x_ifs, e_or, hfirst]
        simp only [Option.bind_some, asB_b, Bool.false_eq_true, if_false]
        rw [e_or, hsec]
        simp only [Option.bind_some, asB_b, Bool.false_eq_true, if_false]
        rw [hlast]
        simp only [Option.bind_some, asB_b, Bool.false_eq_true, if_false, x_nil])]
      rw [x_last (r := (.nx, eG K ways x4 (some (tN u)) (some (.int a)) (some (tN u)), w)) (by
        simp only [S_u_law_great_right_5_2, eG, x_asg, e_var, gE0, gES, Option.map_some, Option.bind_some, b_nm, sES, sE0])]
    rw [this]
    exact e
end
theorem cn_16 {K : Kit} (g : GK' K) : cn K.ks K.w ≤ 65536 := by
  have h := cn_le g.g K.w
  have h2 : 2 ^ K.w ≤ 2 ^ 16 := Nat.pow_le_pow_right (by decide) g.w16
  exact Nat.le_trans h (Nat.le_trans h2 (by decide))
theorem dict_D (xs : List Int) : dictPD (.list (xs.map fun x => PyData.tuple [.int x, .int 1])) = some (kvD (xs.foldl (fun kv x => putI kv x 1) [])) := by
  have h : dictPD (.list (xs.map fun x => PyData.tuple [.int x, .int 1])) = (pairsOf (xs.map fun x => PyData.tuple [.int x, .int 1])).map fun ps => PyData.dict (ps.foldl (fun d p => putKvE d p.1 p.2) []) := rfl
  rw [h, pairs_of, Option.map_some]
  have h2 := fold_kv xs []
  rw [List.map_nil] at h2
  rw [h2]
  rfl
theorem great_pos {K : Kit} (g : GK' K) {w1 : D} (c1 : Cup w1) (y4 : Option D) (hpos : 0 < cn K.ks K.w) : ∃ env' w', exs (run Φ 39) [S_u_law_great_right_5, S_u_law_great_right_6] (eG K (wj K K.w) y4 (some .none) none none) w1 = some (.rt (.bool true), env', w') ∧ Cup w' := by
  have hcl := cn_16 g
  obtain ⟨qs, w2, e2, c2, hqs⟩ := compL_drawT (f := turnC (run Φ 39) (eG K (wj K K.w) y4 (some .none) none none) (.nm 8) [8] (.con (.bool true)) (.callC 18 [.var 2])) (enc := PyData.int) (enc' := PyData.int) (fun (_ : Int) (y : Int) => 0 ≤ y ∧ y < (cn K.ks K.w : Nat)) (xs := rngI 4) c1 (fun x hx w hw => by
    obtain ⟨r, w', e, r0, r1, c⟩ := rolls 38 (cn K.ks K.w : Nat) w hw (by omega) (by omega)
    have e : run Φ 39 18 [.int (cn K.ks K.w : Nat)] w = some (.int r, w') := e
    refine ⟨r, w', ?_, ⟨r0, r1⟩, c⟩
    simp [turnC, eG, e])
  have hql := hqs.1
  rw [rngI_len] at hql
  have hql : qs.length = 4 := hql
  obtain ⟨xs, hxs⟩ : ∃ xs : List Int, xs = [0, ((cn K.ks K.w : Nat) : Int) - 1] ++ qs := ⟨_, rfl⟩
  have hxr : ∀ x ∈ xs, 0 ≤ x ∧ x ≤ ((cn K.ks K.w : Nat) : Int) - 1 := by
    intro x hx
    rw [hxs] at hx
    rcases List.mem_append.mp hx with hx | hx
    · rcases (show x = 0 ∨ x = ((cn K.ks K.w : Nat) : Int) - 1 by simpa using hx) with rfl | rfl <;> omega
    · obtain ⟨y, hy, h⟩ := hqs.all hx
      omega
  have hkv := fold_KV xs [] 0 (lo := 0) (hi := ((cn K.ks K.w : Nat) : Int) - 1) ⟨by simp, by simp, by simp⟩ hxr
  obtain ⟨ku, kr, kl⟩ := keys_up hkv
  have hkl := hkv.len
  have hxl : xs.length = 6 := by rw [hxs, List.length_append, hql]; rfl
  obtain ⟨y6, y7, y9, e5⟩ := nums_loop g w2 (wj K K.w) y4 (keys (xs.foldl (fun kv x => putI kv x 1) [])) none none none ku (fun m hm => by have := kr m hm; omega) (fun p hp => by cases hp) .none (fun _ => rfl) (fun p hp => by cases hp)
  refine ⟨eG K (wj K K.w) y4 y6 y7 y9, w2, ?_, c2⟩
  rw [x_step (env' := eG K (wj K K.w) y4 y6 y7 y9) (w' := w2) (by
    have hgt : (0 : Int) < ((cn K.ks K.w : Nat) : Int) := by omega
    have hri := items_rngI (m := 4) (by omega) (by omega)
    have ha : addLD (.list [.int 0, .int (((cn K.ks K.w : Nat) : Int) - 1)]) (.list (qs.map .int)) = some (.list (xs.map .int)) := by
      rw [addLD, addLst (by simp; omega), hxs, List.map_append]
      rfl
    have hi : items .seq [.list (xs.map .int)] = some (xs.map .int) := rfl
    have hc : compL (turnC (run Φ 39) (eG K (wj K K.w) y4 (some .none) none none) (.nm 7) [7] (.con (.bool true)) (.prim .tup [.var 7, .con (.int 1)])) (xs.map .int) w2 = some (xs.map fun x => .tuple [.int x, .int 1], w2) := compL_map fun x hx => by simp [turnC, eG]
    have hd := dict_D xs
    have hs := sort_kv (kv := xs.foldl (fun kv x => putI kv x 1) []) (by omega)
    have hi2 : items .seq [.list ((keys (xs.foldl (fun kv x => putI kv x 1) [])).map .int)] = some ((keys (xs.foldl (fun kv x => putI kv x 1) [])).map .int) := rfl
    simp only [eG] at e2 hc e5 ⊢
    simp only [S_u_law_great_right_5, x_for, e_ite, e_prim, e_comp, e_cons, e_nil, e_var, e_con, gE0, gES, Option.map_some, Option.bind_some, p_gt, i_gt, decide_eq_true hgt, asB_b, if_true, p_sub, i_sub, p_lst, hri, e2, p_addL, ha, hi, hc, p_dictP, hd, p_sorted, hs, hi2]
    exact e5)]
  rw [x_last (r := (.rt (.bool true), eG K (wj K K.w) y4 y6 y7 y9, w2)) (by simp [S_u_law_great_right_6])]

theorem great_zero {K : Kit} (g : GK' K) {w1 : D} (c1 : Cup w1) (y4 : Option D) (hpos : ¬ 0 < cn K.ks K.w) : ∃ env' w', exs (run Φ 39) [S_u_law_great_right_5, S_u_law_great_right_6] (eG K (wj K K.w) y4 (some .none) none none) w1 = some (.rt (.bool true), env', w') ∧ Cup w' := by
  have hcl := cn_16 g
  refine ⟨eG K (wj K K.w) y4 (some .none) none none, w1, ?_, c1⟩
  rw [x_step (env' := eG K (wj K K.w) y4 (some .none) none none) (w' := w1) (by
    have hgt : ¬ (0 : Int) < ((cn K.ks K.w : Nat) : Int) := by omega
    have hi : items .seq [.list []] = some [] := rfl
    simp only [eG]
    simp only [S_u_law_great_right_5, x_for, e_ite, e_prim, e_cons, e_nil, e_var, e_con, gE0, gES, Option.map_some, Option.bind_some, p_gt, i_gt, decide_eq_false hgt, asB_b, Bool.false_eq_true, if_false, p_lst, hi]
    rfl)]
  rw [x_last (r := (.rt (.bool true), eG K (wj K K.w) y4 (some .none) none none, w1)) (by simp [S_u_law_great_right_6])]

end K76
set_option Elab.async false
set_option linter.all false
set_option maxRecDepth 100000
set_option maxHeartbeats 200000
namespace K76
open PySem L2 PySem.Spec PyI

theorem eqStr_self (x : Str) : eqD (.str x) (.str x) = some true := by
  have h := eqStr x x
  rw [decide_eq_true rfl] at h
  exact h
theorem t1 {K : Kit} (g : GK' K) : reprD (.int (cn K.ks K.w : Nat)) = some (.str (PyData.int (cn K.ks K.w : Nat)).shown) := by
  have hcl := cn_16 g
  exact ((fit_int (i := ((cn K.ks K.w : Nat) : Int)) (by omega)).mono (Nat.le_refl 0) (Nat.le_refl 0)).repr (by decide) (by decide)
theorem t2 {K : Kit} (g : GK' K) : mulLD (.list [.int 0]) (.int K.w) = some (.list ((List.replicate K.w (0 : Int)).map .int)) := by
  have w16 := g.w16
  rw [mulLD, mulD, if_pos ⟨by omega, by show (K.w : Int) ≤ 16777216; omega, by show 1 * _ ≤ 16777216; omega⟩]
  have : ∀ k, repL [PyData.int 0] k = (List.replicate k (0 : Int)).map .int := fun k => by
    unfold repL
    induction k with
    | zero => rfl
    | succ k ih => rw [List.replicate_succ, List.flatten_cons, ih, List.replicate_succ]; rfl
  rw [Int.toNat_natCast, this]
theorem t3 {K : Kit} (g : GK' K) : addLD (.list [.int 1]) (.list ((List.replicate K.w (0 : Int)).map .int)) = some (.list ((wj K 0).map .int)) := by
  have w16 := g.w16
  rw [addLD, addLst (by simp; omega), wj_zero, List.map_append]
  rfl
theorem for_step {call : CallF} {k : ItK} {srcs : List PyI.E} {tg : T} {body : List PyI.S} {env : Ev} {w w' : D} {ds xs : List D} (h1 : evs call srcs env w = some (ds, w')) (h2 : items k ds = some xs) : ex call (.for k srcs tg body) env w = forL (loop1 call tg body) xs env w' := by
  rw [x_for, h1]
  simp only [Option.bind_some]
  rw [h2]
  simp only [Option.bind_some]
theorem st2 {K : Kit} (g : GK' K) (w1 : D) : ∃ y4, ex (run Φ 39) S_u_law_great_right_2 (eG K (wj K 0) none none none none) w1 = some (.nx, eG K (wj K K.w) y4 none none none, w1) := by
  have w16 := g.w16
  obtain ⟨y4, hf⟩ := ways_loop g w1
  refine ⟨y4, ?_⟩
  have hri := items_rngF (lo := 1) (hi := (K.w : Int) + 1) (by omega) (by omega) (by omega) (by omega) (by omega)
  have hev : evs (run Φ 39) [.con (.int 1), .prim .add [.prim .ix [.var 1, .con (.int 0)], .con (.int 1)]] (eG K (wj K 0) none none none none) w1 = some ([.int 1, .int ((K.w : Int) + 1)], w1) := by
    simp only [eG, e_prim, e_cons, e_nil, e_var, e_con, gE0, gES, Option.map_some, Option.bind_some, p_ix, kt0, p_add, i_add]
  rw [S_u_law_great_right_2, for_step hev hri]
  exact hf
theorem m_great {w : D} (hw : Cup w) : ∃ w', run Φ 40 25 [] w = some (.bool true, w') ∧ Cup w' := by
  rw [run_cup (n := 39) f_u_law_great_right rfl]
  obtain ⟨K, w1, e1, c1, g, w8⟩ := m_kit 36 16 (by decide) (by decide) w hw
  have e1 : run Φ 39 21 [.int 16, .int 4] w = some (kitD K, w1) := e1
  have wl := g.w1
  have w16 := g.w16
  have k3 := m_count_rows g 35
  have k3 : run Φ 39 14 [kitD K] .none = some (.int (cn K.ks K.w : Nat), .none) := k3
  have hcl := cn_16 g
  obtain ⟨y4, hst⟩ := st2 g w1
  have hrep := t1 g
  have hse := eqStr_self (PyData.int (cn K.ks K.w : Nat)).shown
  have hwix : ixD (.list ((wj K K.w).map .int)) (.int (K.w : Int)) = some (.int (cn K.ks K.w : Nat)) := ix_L (by rw [wj_get (Nat.le_refl _), if_pos (Nat.le_refl _)])
  have hm := t2 g
  have hadd := t3 g
  -- the walk
  suffices ∃ env' w', exs (run Φ 39) [S_u_law_great_right_5, S_u_law_great_right_6] (eG K (wj K K.w) y4 (some .none) none none) w1 = some (.rt (.bool true), env', w') ∧ Cup w' by
    obtain ⟨env', w', h1, h2⟩ := this
    refine ⟨w', ?_, h2⟩
    rw [S_u_law_great_right]
    show retOf (exs (run Φ 39) _ [none, none, none, none, none, none, none, none, none, none] w) = _
    rw [x_step (env' := [none, some (kitD K), none, none, none, none, none, none, none, none]) (w' := w1) (by
      simp only [S_u_law_great_right_0, x_asg, e_callC, e_cons, e_nil, e_con, Option.map_some, Option.bind_some, e1, b_nm, sES, sE0])]
    rw [x_step (env' := eG K (wj K 0) none none none none) (w' := w1) (by
      simp only [S_u_law_great_right_1, eG, x_par, e_prim, e_call, e_cons, e_nil, e_var, e_con, gE0, gES, Option.map_some, Option.bind_some, k3, Bool.false_and, Bool.false_eq_true, if_false, p_lst, p_ix, kt0, p_mulL, hm, p_addL, hadd, sets_cons, sets_nil, sES, sE0])]
    rw [x_step hst]
    rw [x_step (env' := eG K (wj K K.w) y4 none none none) (w' := w1) (by
      simp only [S_u_law_great_right_3, eG, x_ifs, e_prim, e_cons, e_nil, e_var, e_con, gE0, gES, Option.map_some, Option.bind_some, p_repr, hrep, p_ix, kt0, hwix, p_ne, hse, Bool.not_true, asB_b, Bool.false_eq_true, if_false, x_nil])]
    rw [x_step (env' := eG K (wj K K.w) y4 (some .none) none none) (w' := w1) (by
      simp only [S_u_law_great_right_4, eG, x_asg, e_con, Option.map_some, Option.bind_some, b_nm, sES, sE0])]
    rw [h1]
    rfl
  by_cases hpos : 0 < cn K.ks K.w
  · exact great_pos g c1 y4 hpos
  · exact great_zero g c1 y4 hpos
end K76
set_option Elab.async false
set_option linter.all false
set_option maxRecDepth 100000
set_option maxHeartbeats 200000
namespace K76
open PySem L2 PySem.Spec PyI

def isT : Option (D × D) → Bool
  | some (.bool true, .none) => true
  | _ => false
theorem isT_eq : ∀ {x : Option (D × D)}, isT x = true → x = some (.bool true, .none)
  | some (.bool true, .none), _ => rfl
theorem odds_k : isT (run Φ 40 26 [] .none) = true := by decide +kernel
theorem m_odds : run Φ 40 26 [] .none = some (.bool true, .none) := isT_eq odds_k
/-! ### lengths one and two -/
def K12 (w : Nat) : Kit := ⟨w, [1, 2]⟩
theorem g12 {w : Nat} (h1 : 1 ≤ w) (h2 : w ≤ 16) : GK' (K12 w) := ⟨h1, h2, by simp [K12], by simp [K12], fun k hk => by
  rcases (show k = 1 ∨ k = 2 by simpa [K12] using hk) with rfl | rfl <;> decide, by simp [K12]⟩
theorem gk12 : GK [1, 2] := ⟨fun k hk => by rcases (show k = 1 ∨ k = 2 by simpa using hk) with rfl | rfl <;> decide, by simp⟩
theorem fib (n : Nat) : cn [1, 2] (n + 2) = cn [1, 2] (n + 1) + cn [1, 2] n := by
  rw [cn_succ gk12 (n + 1)]
  have : ([1, 2].filter fun k => decide (k ≤ n + 1 + 1)) = [1, 2] := by
    refine List.filter_eq_self.mpr fun k hk => ?_
    rcases (show k = 1 ∨ k = 2 by simpa using hk) with rfl | rfl <;> simp
  rw [this]
  simp
theorem rk12 : ∀ w : Fin 17, rk [1, 2] w.val (List.replicate w.val 1) = 0 ∧ rk [1, 2] w.val (List.replicate (w.val / 2) 2 ++ List.replicate (w.val % 2) 1) + 1 = cn [1, 2] w.val := by decide +kernel
theorem sum_rep (n k : Nat) : (List.replicate n k).sum = n * k := by
  induction n with
  | zero => simp
  | succ n ih => rw [List.replicate_succ, List.sum_cons, ih, Nat.succ_mul]; omega
theorem ones {w : Nat} : ∀ x ∈ List.replicate w 1, x ∈ [1, 2] := fun x hx => by rw [List.eq_of_mem_replicate hx]; simp
theorem twos {w : Nat} : (∀ x ∈ List.replicate (w / 2) 2 ++ List.replicate (w % 2) 1, x ∈ [1, 2]) ∧ (List.replicate (w / 2) 2 ++ List.replicate (w % 2) 1).sum = w := by
  constructor
  · intro x hx
    rcases List.mem_append.mp hx with hx | hx <;> rw [List.eq_of_mem_replicate hx] <;> simp
  · rw [List.sum_append, sum_rep, sum_rep]
    omega
theorem mulT (x : Int) {k : Nat} (h : k ≤ 100) : mulD (.tuple [.int x]) (.int (k : Int)) = some (tI (List.replicate k x)) := by
  rw [mulD, if_pos ⟨by omega, by omega, by simp⟩, Int.toNat_natCast]
  congr 2
  unfold repL
  induction k with
  | zero => rfl
  | succ k ih => rw [List.replicate_succ, List.flatten_cons, ih (by omega), List.replicate_succ]; rfl
theorem up_rep (k x : Nat) : up (List.replicate k x) = List.replicate k (x : Int) := by
  unfold up
  rw [List.map_replicate]
theorem eqv_self (T : D) (h : T.plain = true) : PyData.eqv T T = true := by
  first
  | exact PyData.eqv_refl_plain T h
  | exact PySem.eqv_refl_plain T h
  | exact PySem.SeqAt.eqv_refl_plain T h
  | exact W.eqv_refl_plain T h
  | exact PySem.W.SeqAt.eqv_refl_plain T h
def ev8 (x2 x3 x4 x5 x6 x7 : Option D) : Ev := [none, none, x2, x3, x4, x5, x6, x7]
theorem law_math : ∀ c0 c1 : Int, ∃ env' w', exs (run Φ 40) b_law (List.replicate 8 none) (.list [.int c0, .int c1]) = some (.rt (.bool true), env', w') := by
  intro c0 c1
  have cc : Cup (.list [.int c0, .int c1]) := ⟨c0, c1, rfl⟩
  generalize PyData.list [.int c0, .int c1] = w at cc
  obtain ⟨_, env1, w1, ⟨c1, x2, rfl⟩, hl⟩ := forL_draw (f := loop1 (run Φ 40) (.nm 2) [.ifs (.or (.not (.callC 24 [])) (.not (.callC 25 []))) [.ret (.con (.bool false))] []]) (fun (_ : Unit) (k : Nat) env w => Cup w ∧ ∃ x2, env = ev8 x2 none none none none none) (xs := (rngI 4).map .int) (k := 0) (a := ()) (env := ev8 none none none none none none) (w := w) ⟨cc, none, rfl⟩ (fun i x hx u env w hi => by
    obtain ⟨c, x2, rfl⟩ := hi
    obtain ⟨u1, f1, d1⟩ := m_right c
    obtain ⟨u2, f2, d2⟩ := m_great d1
    refine ⟨(), ev8 (some x) none none none none none, u2, ⟨d2, some x, rfl⟩, ?_⟩
    simp [loop1, ev8, x_cons, f1, f2])
  obtain ⟨q, w2, e2, q0, q1, c2⟩ := rolls 39 16 w1 c1 (by omega) (by omega)
  obtain ⟨W, hW⟩ : ∃ W : Nat, (W : Int) = 1 + q := ⟨(1 + q).toNat, by omega⟩
  have w1' : 1 ≤ W := by omega
  have w16 : W ≤ 16 := by omega
  obtain ⟨_, env3, w3, ⟨hw3, z2, rfl⟩, hf⟩ := forL_draw (f := loop1 (run Φ 40) (.nm 2) [.par [4, 5] [.var 5, .prim .add [.var 4, .var 5]]]) (fun (_ : Unit) (j : Nat) env w => w = w2 ∧ ∃ z2, env = ev8 z2 (some (.int W)) (some (.int (cn [1, 2] (j + 1) : Nat))) (some (.int (cn [1, 2] (j + 2) : Nat))) none none) (xs := (rngI ((W : Int) - 1)).map .int) (k := 0) (a := ()) (env := ev8 x2 (some (.int W)) (some (.int (cn [1, 2] 1 : Nat))) (some (.int (cn [1, 2] 2 : Nat))) none none) (w := w2) ⟨rfl, x2, rfl⟩ (fun j x hx u env w hi => by
    obtain ⟨rfl, z2, rfl⟩ := hi
    rw [Nat.zero_add]
    refine ⟨(), ev8 (some x) (some (.int W)) (some (.int (cn [1, 2] (j + 1 + 1) : Nat))) (some (.int (cn [1, 2] (j + 1 + 2) : Nat))) none none, w, ⟨rfl, some x, rfl⟩, ?_⟩
    have hfb := fib (j + 1)
    have hfi : ((cn [1, 2] (j + 1) : Nat) : Int) + ((cn [1, 2] (j + 2) : Nat) : Int) = ((cn [1, 2] (j + 1 + 2) : Nat) : Int) := by
      rw [hfb]
      show _ = (((cn [1, 2] (j + 1 + 1) + cn [1, 2] (j + 1) : Nat)) : Int)
      have : j + 1 + 1 = j + 2 := by omega
      rw [this]
      omega
    unfold loop1 ev8
    simp only [b_nm, sES, sE0, Option.map_some, Option.bind_some]
    rw [x_last (r := (.nx, [none, none, some x, some (.int W), some (.int (cn [1, 2] (j + 2) : Nat)), some (.int (cn [1, 2] (j + 1 + 2) : Nat)), none, none], w)) (by
      simp only [x_par, e_prim, e_cons, e_nil, e_var, gE0, gES, Option.map_some, Option.bind_some, p_add, i_add, hfi, sets_cons, sets_nil, sES, sE0])])
  subst hw3
  have hlen : ((rngI ((W : Int) - 1)).map PyData.int).length = W - 1 := by
    rw [List.length_map, rngI_len]
    omega
  rw [hlen, Nat.zero_add, show W - 1 + 1 = W by omega] at hf
  have g := g12 w1' w16
  obtain ⟨r1, r2⟩ := rk12 ⟨W, by omega⟩
  simp only at r1 r2
  have one_mem : List.replicate W 1 ∈ Rn (K12 W).ks (K12 W).w := (mem_Rn gk12).mpr ⟨ones, by rw [sum_rep]; show W * 1 = W; omega⟩
  have k1 := m_count_rows g 36
  have k1 : run Φ 40 14 [kitD (K12 W)] .none = some (.int (cn [1, 2] W : Nat), .none) := k1
  have g1 := rk_get gk12 (r := List.replicate W 1) (n := W) ones (by rw [sum_rep]; omega)
  rw [r1] at g1
  have g2 := rk_get gk12 (r := List.replicate (W / 2) 2 ++ List.replicate (W % 2) 1) (n := W) twos.1 twos.2
  obtain ⟨u1, h1, k2⟩ := m_row_with g 36 (m := 0) (by show 0 < cn [1, 2] W; omega)
  have h1 : (Rn [1, 2] W)[0]? = some u1 := h1
  rw [g1] at h1
  have h1 := Option.some.inj h1
  subst h1
  have k2 : run Φ 40 15 [kitD (K12 W), .int 0] .none = some (tN (List.replicate W 1), .none) := k2
  obtain ⟨u2, h2, k3⟩ := m_row_with g 36 (m := rk [1, 2] W (List.replicate (W / 2) 2 ++ List.replicate (W % 2) 1)) (by show _ < cn [1, 2] W; omega)
  have h2 : (Rn [1, 2] W)[rk [1, 2] W (List.replicate (W / 2) 2 ++ List.replicate (W % 2) 1)]? = some u2 := h2
  rw [g2] at h2
  have h2 := Option.some.inj h2
  subst h2
  have k3 : run Φ 40 15 [kitD (K12 W), .int (((cn [1, 2] W : Nat) : Int) - 1)] .none = some (tN (List.replicate (W / 2) 2 ++ List.replicate (W % 2) 1), .none) := by
    rw [show ((cn [1, 2] W : Nat) : Int) - 1 = ((rk [1, 2] W (List.replicate (W / 2) 2 ++ List.replicate (W % 2) 1) : Nat) : Int) by omega]
    exact k3
  have k4 := m_number_of g 35 one_mem
  have k4 : run Φ 40 16 [kitD (K12 W), tN (List.replicate W 1)] .none = some (.int ((rk [1, 2] W (List.replicate W 1) : Nat) : Int), .none) := k4
  rw [r1] at k4
  have k4 : run Φ 40 16 [kitD (K12 W), tN (List.replicate W 1)] .none = some (.int 0, .none) := k4
  have m1 : mulD (.tuple [.int 1]) (.int (W : Int)) = some (tN (List.replicate W 1)) := by
    rw [mulT 1 (by omega)]
    unfold tN
    rw [up_rep]
    rfl
  have fd : fdivD (.int (W : Int)) (.int 2) = some (.int ((W / 2 : Nat) : Int)) := by
    rw [i_fdiv ⟨by omega, by omega⟩]
    rfl
  have md : modD (.int (W : Int)) (.int 2) = some (.int ((W % 2 : Nat) : Int)) := rfl
  have m2 : mulD (.tuple [.int 2]) (.int ((W / 2 : Nat) : Int)) = some (tI (List.replicate (W / 2) 2)) := mulT 2 (by omega)
  have m3 : mulD (.tuple [.int 1]) (.int ((W % 2 : Nat) : Int)) = some (tI (List.replicate (W % 2) 1)) := mulT 1 (by omega)
  have ad : addD (tI (List.replicate (W / 2) 2)) (tI (List.replicate (W % 2) 1)) = some (tN (List.replicate (W / 2) 2 ++ List.replicate (W % 2) 1)) := by
    rw [add_tI (by simp; omega)]
    unfold tN
    rw [up_app, up_rep, up_rep]
    rfl
  obtain ⟨T, hT⟩ : ∃ T : D, T = .tuple [.int (cn [1, 2] W : Nat), tN (List.replicate W 1), tN (List.replicate (W / 2) 2 ++ List.replicate (W % 2) 1), .int 0] := ⟨_, rfl⟩
  have hTp : T.plain = true := by rw [hT]; simp [tN_plain]
  have hTd : T.depth ≤ 60 := by
    have h3 : PyData.depthAll [.int (cn [1, 2] W : Nat), tN (List.replicate W 1), tN (List.replicate (W / 2) 2 ++ List.replicate (W % 2) 1), .int 0] ≤ 1 := depthAll_le fun x hx => by
      rcases (show x = .int (cn [1, 2] W : Nat) ∨ x = tN (List.replicate W 1) ∨ x = tN (List.replicate (W / 2) 2 ++ List.replicate (W % 2) 1) ∨ x = .int 0 by simpa using hx) with rfl | rfl | rfl | rfl
      · exact Nat.zero_le _
      · exact tI_depth _
      · exact tI_depth _
      · exact Nat.zero_le _
    have e1 : PyData.depth T = PyData.depthAll [.int (cn [1, 2] W : Nat), tN (List.replicate W 1), tN (List.replicate (W / 2) 2 ++ List.replicate (W % 2) 1), .int 0] + 1 := by rw [hT]; simp [PyData.depth, Nat.add_comm]
    omega
  have hTT : eqD T T = some true := by
    unfold eqD
    have h6 : dep2 T T = true := by
      unfold dep2
      rw [decide_eq_true_iff]
      exact Nat.le_trans (Nat.min_le_left _ _) hTd
    rw [hTp, h6, if_pos (by rfl), eqv_self T hTp]
  rw [S_law]
  rw [x_step (env' := ev8 x2 none none none none none) (w' := w1) (by
    show ex _ S_law_0 (ev8 none none none none none none) _ = _
    simp only [S_law_0, x_for, e_cons, e_nil, e_con, Option.map_some, Option.bind_some, items_rngI (show (0 : Int) ≤ 4 by omega) (show (4 : Int) ≤ 16777216 by omega)]
    exact hl)]
  rw [x_step (env' := ev8 x2 (some (.int W)) (some (.int (cn [1, 2] 1 : Nat))) (some (.int (cn [1, 2] 2 : Nat))) none none) (w' := w3) (by
    simp only [S_law_1, ev8, x_par, e_prim, e_callC, e_cons, e_nil, e_con, Option.map_some, Option.bind_some, e2, p_add, i_add, sets_cons, sets_nil, sES, sE0, ← hW]
    rfl)]
  rw [x_step (env' := ev8 z2 (some (.int W)) (some (.int (cn [1, 2] W : Nat))) (some (.int (cn [1, 2] (W - 1 + 2) : Nat))) none none) (w' := w3) (by
    have hri := items_rngI (m := (W : Int) - 1) (by omega) (by omega)
    have hev : evs (run Φ 40) [.prim .sub [.var 3, .con (.int 1)]] (ev8 x2 (some (.int W)) (some (.int (cn [1, 2] 1 : Nat))) (some (.int (cn [1, 2] 2 : Nat))) none none) w3 = some ([.int ((W : Int) - 1)], w3) := by
      simp only [ev8, e_prim, e_cons, e_nil, e_var, e_con, gE0, gES, Option.map_some, Option.bind_some, p_sub, i_sub]
    rw [S_law_2, for_step hev hri]
    exact hf)]
  rw [x_step (env' := ev8 z2 (some (.int W)) (some (.int (cn [1, 2] W : Nat))) (some (.int (cn [1, 2] (W - 1 + 2) : Nat))) (some (kitD (K12 W))) none) (w' := w3) (by
    simp only [S_law_3, ev8, x_asg, e_prim, e_cons, e_nil, e_var, e_con, gE0, gES, Option.map_some, Option.bind_some, p_tup, b_nm, sES, sE0]
    rfl)]
  rw [x_step (env' := ev8 z2 (some (.int W)) (some (.int (cn [1, 2] W : Nat))) (some (.int (cn [1, 2] (W - 1 + 2) : Nat))) (some (kitD (K12 W))) (some T)) (w' := w3) (by
    simp only [S_law_4, ev8, x_asg, e_prim, e_call, e_cons, e_nil, e_var, e_con, gE0, gES, Option.map_some, Option.bind_some, k1, k2, k3, p_sub, i_sub, p_mul, m1, k4, Bool.false_and, Bool.false_eq_true, if_false, p_tup, b_nm, sES, sE0, hT])]
  refine ⟨ev8 z2 (some (.int W)) (some (.int (cn [1, 2] W : Nat))) (some (.int (cn [1, 2] (W - 1 + 2) : Nat))) (some (kitD (K12 W))) (some T), w3, x_last ?_⟩
  have hin : intD (.int (W : Int)) = some (.int (W : Int)) := rfl
  have hTe : PyData.tuple [.int (cn [1, 2] W : Nat), tN (List.replicate W 1), tN (List.replicate (W / 2) 2 ++ List.replicate (W % 2) 1), .int 0] = T := hT.symm
  simp only [S_law_5, ev8, x_ret, e_and, e_prim, e_call, e_cons, e_nil, e_var, e_con, gE0, gES, Option.map_some, Option.bind_some, p_mul, m1, p_fdiv, fd, m2, p_int, hin, p_mod, md, m3, p_add, ad, p_tup, hTe, p_eq, hTT, asB_b, if_true, m_odds, Bool.false_and, Bool.false_eq_true, if_false]
end K76
namespace K76
open PySem L2 PySem.Spec PyI
theorem all_mk {l : PySem.W.OpenLaw} {w : World} {K : PySem.W.Frag} {h : Heap} {mg : Str → Option Value} {fa : Addr} (X : K.In h) (G0 : h.Ns mainGlobals mg) (hfa : mg "law" = some (.ref fa))
    (k_is_whole : DefK K "is_whole" s_is_whole) (k_is_tuple_of : DefK K "is_tuple_of" s_is_tuple_of) (k_is_rising : DefK K "is_rising" s_is_rising) (k_fits_kit : DefK K "fits_kit" s_fits_kit) (k_need_kit : DefK K "need_kit" s_need_kit) (k_fits_row : DefK K "fits_row" s_fits_row) (k_need_row : DefK K "need_row" s_need_row) (k_joints_in : DefK K "joints_in" s_joints_in) (k_counts_from : DefK K "counts_from" s_counts_from) (k_rows_in : DefK K "rows_in" s_rows_in) (k_few_rows : DefK K "few_rows" s_few_rows) (k_is_kit : DefK K "is_kit" s_is_kit) (k_is_row : DefK K "is_row" s_is_row) (k_joints : DefK K "joints" s_joints) (k_count_rows : DefK K "count_rows" s_count_rows) (k_row_with : DefK K "row_with" s_row_with) (k_number_of : DefK K "number_of" s_number_of) (k_all_rows : DefK K "all_rows" s_all_rows) (k_u_law_cup : DefK K "_law_cup" s_u_law_cup) (k_u_law_roll : DefK K "_law_roll" s_u_law_roll) (k_u_law_some : DefK K "_law_some" s_u_law_some) (k_u_law_turned : DefK K "_law_turned" s_u_law_turned) (k_u_law_kit : DefK K "_law_kit" s_u_law_kit) (k_u_law_rows : DefK K "_law_rows" s_u_law_rows) (k_u_law_joints : DefK K "_law_joints" s_u_law_joints) (k_u_law_right : DefK K "_law_right" s_u_law_right) (k_u_law_great_right : DefK K "_law_great_right" s_u_law_great_right) (k_u_law_odds_right : DefK K "_law_odds_right" s_u_law_odds_right) (k_law : DefK K "law" s_law)
    {v_WIDE : Value} (g_WIDE : PySem.W.nsIn K mainGlobals "WIDE" = some (some v_WIDE)) (r_WIDE : RvK K v_WIDE (.int 16)) {v_KINDS : Value} (g_KINDS : PySem.W.nsIn K mainGlobals "KINDS" = some (some v_KINDS)) (r_KINDS : RvK K v_KINDS (.int 4)) {v_LONG : Value} (g_LONG : PySem.W.nsIn K mainGlobals "LONG" = some (some v_LONG)) (r_LONG : RvK K v_LONG (.int 8)) {v_ROWS : Value} (g_ROWS : PySem.W.nsIn K mainGlobals "ROWS" = some (some v_ROWS)) (r_ROWS : RvK K v_ROWS (.int 300))
    (z_isinstance : PySem.W.nsIn K mainGlobals "isinstance" = some none) (z_int : PySem.W.nsIn K mainGlobals "int" = some none) (z_bool : PySem.W.nsIn K mainGlobals "bool" = some none) (z_tuple : PySem.W.nsIn K mainGlobals "tuple" = some none) (z_len : PySem.W.nsIn K mainGlobals "len" = some none) (z_all : PySem.W.nsIn K mainGlobals "all" = some none) (z_zip : PySem.W.nsIn K mainGlobals "zip" = some none) (z_sum : PySem.W.nsIn K mainGlobals "sum" = some none) (z_range : PySem.W.nsIn K mainGlobals "range" = some none) (z_abs : PySem.W.nsIn K mainGlobals "abs" = some none) (z_list : PySem.W.nsIn K mainGlobals "list" = some none) (z_sorted : PySem.W.nsIn K mainGlobals "sorted" = some none) (z_repr : PySem.W.nsIn K mainGlobals "repr" = some none) (z_dict : PySem.W.nsIn K mainGlobals "dict" = some none)
    : ∃ fd : FuncData, (∀ (s : Shared) (v : Value), BindsTo s fd ⟨[v], []⟩ [("script", v)]) ∧ ∀ base : Heap, K.In base → base.Ns mainGlobals mg → FnG l.prog w K mg base 41 fa fd ["script"] (spLawP K) := by
  have ha : AllIn K mg gl Φ gl.fns := ⟨dfIn_of X G0 k_is_whole (d := d_is_whole) rfl rfl ok_is_whole rfl rfl sc_is_whole bd_is_whole, dfIn_of X G0 k_is_tuple_of (d := d_is_tuple_of) rfl rfl ok_is_tuple_of rfl rfl sc_is_tuple_of bd_is_tuple_of, dfIn_of X G0 k_is_rising (d := d_is_rising) rfl rfl ok_is_rising rfl rfl sc_is_rising bd_is_rising, dfIn_of X G0 k_fits_kit (d := d_fits_kit) rfl rfl ok_fits_kit rfl rfl sc_fits_kit bd_fits_kit, dfIn_of X G0 k_need_kit (d := d_need_kit) rfl rfl ok_need_kit rfl rfl sc_need_kit bd_need_kit, dfIn_of X G0 k_fits_row (d := d_fits_row) rfl rfl ok_fits_row rfl rfl sc_fits_row bd_fits_row, dfIn_of X G0 k_need_row (d := d_need_row) rfl rfl ok_need_row rfl rfl sc_need_row bd_need_row, dfIn_of X G0 k_joints_in (d := d_joints_in) rfl rfl ok_joints_in rfl rfl sc_joints_in bd_joints_in, dfIn_of X G0 k_counts_from (d := d_counts_from) rfl rfl ok_counts_from rfl rfl sc_counts_from bd_counts_from, dfIn_of X G0 k_rows_in (d := d_rows_in) rfl rfl ok_rows_in rfl rfl sc_rows_in bd_rows_in, dfIn_of X G0 k_few_rows (d := d_few_rows) rfl rfl ok_few_rows rfl rfl sc_few_rows bd_few_rows, dfIn_of X G0 k_is_kit (d := d_is_kit) rfl rfl ok_is_kit rfl rfl sc_is_kit bd_is_kit, dfIn_of X G0 k_is_row (d := d_is_row) rfl rfl ok_is_row rfl rfl sc_is_row bd_is_row, dfIn_of X G0 k_joints (d := d_joints) rfl rfl ok_joints rfl rfl sc_joints bd_joints, dfIn_of X G0 k_count_rows (d := d_count_rows) rfl rfl ok_count_rows rfl rfl sc_count_rows bd_count_rows, dfIn_of X G0 k_row_with (d := d_row_with) rfl rfl ok_row_with rfl rfl sc_row_with bd_row_with, dfIn_of X G0 k_number_of (d := d_number_of) rfl rfl ok_number_of rfl rfl sc_number_of bd_number_of, dfIn_of X G0 k_all_rows (d := d_all_rows) rfl rfl ok_all_rows rfl rfl sc_all_rows bd_all_rows, dfIn_of X G0 k_u_law_roll (d := d_u_law_roll) rfl rfl ok_u_law_roll rfl rfl sc_u_law_roll bd_u_law_roll, dfIn_of X G0 k_u_law_some (d := d_u_law_some) rfl rfl ok_u_law_some rfl rfl sc_u_law_some bd_u_law_some, dfIn_of X G0 k_u_law_turned (d := d_u_law_turned) rfl rfl ok_u_law_turned rfl rfl sc_u_law_turned bd_u_law_turned, dfIn_of X G0 k_u_law_kit (d := d_u_law_kit) rfl rfl ok_u_law_kit rfl rfl sc_u_law_kit bd_u_law_kit, dfIn_of X G0 k_u_law_rows (d := d_u_law_rows) rfl rfl ok_u_law_rows rfl rfl sc_u_law_rows bd_u_law_rows, dfIn_of X G0 k_u_law_joints (d := d_u_law_joints) rfl rfl ok_u_law_joints rfl rfl sc_u_law_joints bd_u_law_joints, dfIn_of X G0 k_u_law_right (d := d_u_law_right) rfl rfl ok_u_law_right rfl rfl sc_u_law_right bd_u_law_right, dfIn_of X G0 k_u_law_great_right (d := d_u_law_great_right) rfl rfl ok_u_law_great_right rfl rfl sc_u_law_great_right bd_u_law_great_right, dfIn_of X G0 k_u_law_odds_right (d := d_u_law_odds_right) rfl rfl ok_u_law_odds_right rfl rfl sc_u_law_odds_right bd_u_law_odds_right, trivial⟩
  have hc : ConsIn K mg gl.cons := ⟨conIn_of X G0 g_WIDE r_WIDE, conIn_of X G0 g_KINDS r_KINDS, conIn_of X G0 g_LONG r_LONG, conIn_of X G0 g_ROWS r_ROWS, trivial⟩
  have hb : BltIn mg gl.blt := ⟨bltN_of X G0 z_isinstance, bltN_of X G0 z_int, bltN_of X G0 z_bool, bltN_of X G0 z_tuple, bltN_of X G0 z_len, bltN_of X G0 z_all, bltN_of X G0 z_zip, bltN_of X G0 z_sum, bltN_of X G0 z_range, bltN_of X G0 z_abs, bltN_of X G0 z_list, bltN_of X G0 z_sorted, bltN_of X G0 z_repr, bltN_of X G0 z_dict, trivial⟩
  exact PyI.law_end (st := s_law) (stc := s_u_law_cup) (c := c_law) (cc := c_u_law_cup) (body := b_law) (l := 39) X G0 hfa k_law k_u_law_cup ha hc hb sc_law sc_u_law_cup bd_law bd_u_law_cup rfl rfl ⟨rfl, rfl, rfl, rfl, rfl, rfl, rfl⟩ ⟨rfl, rfl, rfl, rfl, rfl, rfl, rfl⟩ rfl rfl tr_u_law_cup tr_law (by decide +kernel) (by decide +kernel) (by decide +kernel) (by decide +kernel) (by decide +kernel) (by decide +kernel) (by decide +kernel) (by decide +kernel) (by decide +kernel) cup_math law_math
end K76
open PySem PySem.W PyProof.Rows
set_option maxHeartbeats 0 in
theorem PySem.Challenge.cw_carpentersyard_k76_whole_rows_of_planks_holds : PySem.Challenge.rw_carpentersyard_k76_whole_rows_of_planks.Holds := by
  w_on; o_law; k_head; (case hw => w_witness2)
  k_fill
  refine PyI.walkG_of (l := PySem.Challenge.rw_carpentersyard_k76_whole_rows_of_planks) (n := 63) (k := 41) (x := "script") (sp := fun w => PyI.spLawP _) rfl (by decide) rfl ⟨rfl, by decide, by decide⟩ (fun w h Y => PySem.W.kIn_of Y) ?F (fun _ _ a ns hl hS => ⟨a, ns, rfl, hS, hl, fun _ => rfl⟩)
  case F =>
    intro w mg fa h KX G hmg
    refine' K76.all_mk KX G hmg (PyI.def_mk ?a_is_whole ?l_is_whole ?c_is_whole ?k_is_whole) (PyI.def_mk ?a_is_tuple_of ?l_is_tuple_of ?c_is_tuple_of ?k_is_tuple_of) (PyI.def_mk ?a_is_rising ?l_is_rising ?c_is_rising ?k_is_rising) (PyI.def_mk ?a_fits_kit ?l_fits_kit ?c_fits_kit ?k_fits_kit) (PyI.def_mk ?a_need_kit ?l_need_kit ?c_need_kit ?k_need_kit) (PyI.def_mk ?a_fits_row ?l_fits_row ?c_fits_row ?k_fits_row) (PyI.def_mk ?a_need_row ?l_need_row ?c_need_row ?k_need_row) (PyI.def_mk ?a_joints_in ?l_joints_in ?c_joints_in ?k_joints_in) (PyI.def_mk ?a_counts_from ?l_counts_from ?c_counts_from ?k_counts_from) (PyI.def_mk ?a_rows_in ?l_rows_in ?c_rows_in ?k_rows_in) (PyI.def_mk ?a_few_rows ?l_few_rows ?c_few_rows ?k_few_rows) (PyI.def_mk ?a_is_kit ?l_is_kit ?c_is_kit ?k_is_kit) (PyI.def_mk ?a_is_row ?l_is_row ?c_is_row ?k_is_row) (PyI.def_mk ?a_joints ?l_joints ?c_joints ?k_joints) (PyI.def_mk ?a_count_rows ?l_count_rows ?c_count_rows ?k_count_rows) (PyI.def_mk ?a_row_with ?l_row_with ?c_row_with ?k_row_with) (PyI.def_mk ?a_number_of ?l_number_of ?c_number_of ?k_number_of) (PyI.def_mk ?a_all_rows ?l_all_rows ?c_all_rows ?k_all_rows) (PyI.def_mk ?a_u_law_cup ?l_u_law_cup ?c_u_law_cup ?k_u_law_cup) (PyI.def_mk ?a_u_law_roll ?l_u_law_roll ?c_u_law_roll ?k_u_law_roll) (PyI.def_mk ?a_u_law_some ?l_u_law_some ?c_u_law_some ?k_u_law_some) (PyI.def_mk ?a_u_law_turned ?l_u_law_turned ?c_u_law_turned ?k_u_law_turned) (PyI.def_mk ?a_u_law_kit ?l_u_law_kit ?c_u_law_kit ?k_u_law_kit) (PyI.def_mk ?a_u_law_rows ?l_u_law_rows ?c_u_law_rows ?k_u_law_rows) (PyI.def_mk ?a_u_law_joints ?l_u_law_joints ?c_u_law_joints ?k_u_law_joints) (PyI.def_mk ?a_u_law_right ?l_u_law_right ?c_u_law_right ?k_u_law_right) (PyI.def_mk ?a_u_law_great_right ?l_u_law_great_right ?c_u_law_great_right ?k_u_law_great_right) (PyI.def_mk ?a_u_law_odds_right ?l_u_law_odds_right ?c_u_law_odds_right ?k_u_law_odds_right) (PyI.def_mk ?a_law ?l_law ?c_law ?k_law) ?g_WIDE .int ?g_KINDS .int ?g_LONG .int ?g_ROWS .int ?z_isinstance ?z_int ?z_bool ?z_tuple ?z_len ?z_all ?z_zip ?z_sum ?z_range ?z_abs ?z_list ?z_sorted ?z_repr ?z_dict
    (case a_is_whole => k_is); (case l_is_whole => k_is); (case c_is_whole => k_is); (case k_is_whole => k_is); (case a_is_tuple_of => k_is); (case l_is_tuple_of => k_is); (case c_is_tuple_of => k_is); (case k_is_tuple_of => k_is); (case a_is_rising => k_is); (case l_is_rising => k_is); (case c_is_rising => k_is); (case k_is_rising => k_is); (case a_fits_kit => k_is); (case l_fits_kit => k_is); (case c_fits_kit => k_is); (case k_fits_kit => k_is); (case a_need_kit => k_is); (case l_need_kit => k_is); (case c_need_kit => k_is); (case k_need_kit => k_is); (case a_fits_row => k_is); (case l_fits_row => k_is); (case c_fits_row => k_is); (case k_fits_row => k_is); (case a_need_row => k_is); (case l_need_row => k_is); (case c_need_row => k_is); (case k_need_row => k_is); (case a_joints_in => k_is); (case l_joints_in => k_is); (case c_joints_in => k_is); (case k_joints_in => k_is); (case a_counts_from => k_is); (case l_counts_from => k_is); (case c_counts_from => k_is); (case k_counts_from => k_is); (case a_rows_in => k_is); (case l_rows_in => k_is); (case c_rows_in => k_is); (case k_rows_in => k_is); (case a_few_rows => k_is); (case l_few_rows => k_is); (case c_few_rows => k_is); (case k_few_rows => k_is); (case a_is_kit => k_is); (case l_is_kit => k_is); (case c_is_kit => k_is); (case k_is_kit => k_is); (case a_is_row => k_is); (case l_is_row => k_is); (case c_is_row => k_is); (case k_is_row => k_is); (case a_joints => k_is); (case l_joints => k_is); (case c_joints => k_is); (case k_joints => k_is); (case a_count_rows => k_is); (case l_count_rows => k_is); (case c_count_rows => k_is); (case k_count_rows => k_is); (case a_row_with => k_is); (case l_row_with => k_is); (case c_row_with => k_is); (case k_row_with => k_is); (case a_number_of => k_is); (case l_number_of => k_is); (case c_number_of => k_is); (case k_number_of => k_is); (case a_all_rows => k_is); (case l_all_rows => k_is); (case c_all_rows => k_is); (case k_all_rows => k_is); (case a_u_law_cup => k_is); (case l_u_law_cup => k_is); (case c_u_law_cup => k_is); (case k_u_law_cup => k_is); (case a_u_law_roll => k_is); (case l_u_law_roll => k_is); (case c_u_law_roll => k_is); (case k_u_law_roll => k_is); (case a_u_law_some => k_is); (case l_u_law_some => k_is); (case c_u_law_some => k_is); (case k_u_law_some => k_is); (case a_u_law_turned => k_is); (case l_u_law_turned => k_is); (case c_u_law_turned => k_is); (case k_u_law_turned => k_is); (case a_u_law_kit => k_is); (case l_u_law_kit => k_is); (case c_u_law_kit => k_is); (case k_u_law_kit => k_is); (case a_u_law_rows => k_is); (case l_u_law_rows => k_is); (case c_u_law_rows => k_is); (case k_u_law_rows => k_is); (case a_u_law_joints => k_is); (case l_u_law_joints => k_is); (case c_u_law_joints => k_is); (case k_u_law_joints => k_is); (case a_u_law_right => k_is); (case l_u_law_right => k_is); (case c_u_law_right => k_is); (case k_u_law_right => k_is); (case a_u_law_great_right => k_is); (case l_u_law_great_right => k_is); (case c_u_law_great_right => k_is); (case k_u_law_great_right => k_is); (case a_u_law_odds_right => k_is); (case l_u_law_odds_right => k_is); (case c_u_law_odds_right => k_is); (case k_u_law_odds_right => k_is); (case a_law => k_is); (case l_law => k_is); (case c_law => k_is); (case k_law => k_is); (case g_WIDE => k_is); (case g_KINDS => k_is); (case g_LONG => k_is); (case g_ROWS => k_is); (case z_isinstance => k_is); (case z_int => k_is); (case z_bool => k_is); (case z_tuple => k_is); (case z_len => k_is); (case z_all => k_is); (case z_zip => k_is); (case z_sum => k_is); (case z_range => k_is); (case z_abs => k_is); (case z_list => k_is); (case z_sorted => k_is); (case z_repr => k_is); (case z_dict => k_is)
