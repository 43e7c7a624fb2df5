import PyProof.Rows.All
import KE.SortData
import KE.DataCmp
import KE.DataMinMax
import KE.DataFind
import KE.KeyNested
import HandS.ForMost
import HandS.Zip
import HandS.Conv
import HandS.Flow
import KE.KDictKeyed
import HandS.TupAny
import HandS.TupMul
import HandS.TupLe
import HandS.Style
import HandS.TupLen
import HandS.Gcd
import HandS.Deep
import HandS.Text
import HandS.IsInst
import KE.KDictPairs
import HandS.Codes
import HandS.Iter
import HandS.DictComp
import KE.GoesEnum
import KE.GoesZip
import HandS.SetFor
import KE.KDictSum
import HandS.ExcValue
import KE.KDictWalk
import PyProof.SeqIndex
import HandS.Rev
import PySem.Challenge.RW_fairlands_k42_whole_loads_of_wagons
set_option Elab.async false
set_option linter.all false
set_option maxRecDepth 100000
set_option maxHeartbeats 4000000
/-! the pure layer: a small tree of the text, and its reading over plain data -/
namespace Z
open PySem

/-! ### data -/
/-- no dict within, depth at most 64 -/
def okD (d : PyData) : Bool := d.plain && decide (d.depth ≤ 64)
def okDs (ds : List PyData) : Bool := PyData.plainAll ds && decide (PyData.depthAll ds ≤ 64)
def big : Nat := 16777216

def isKey0 : PyData → Bool
  | .int _ => true
  | .str _ => true
  | _ => false
def tru : PyData → Option Bool
  | .none => some false
  | .bool b => some b
  | .int i => some (i != 0)
  | .str s => if s.cps.size ≤ big then some (s.cps.size != 0) else none
  | .list xs => some (!xs.isEmpty)
  | .tuple xs => some (!xs.isEmpty)
  | .dict xs => if xs.all (fun p => isKey0 p.1) then some (!xs.isEmpty) else none

def sgn (c : Nat) : PyData := .str ⟨#[c]⟩
def signs (s : Str) : List PyData := s.cps.toList.map sgn

def itemsOf : PyData → Option (List PyData)
  | .list xs => some xs
  | .tuple xs => some xs
  | .str s => if s.cps.size ≤ big then some (signs s) else none
  | _ => none

/-- keys of a dict: ints, texts, tuples of these -/
def flatKey : PyData → Bool
  | .int _ => true
  | .str _ => true
  | _ => false
mutual
/-- a key tuple (or what stands in one) as the library names it -/
def nkOf : PyData → Option PySem.NestedKey
  | .none => some .none
  | .int i => some (.num i)
  | .str x => some (.text x)
  | .tuple ds => (nksOf ds).map .tup
  | _ => none
def nksOf : List PyData → Option (List PySem.NestedKey)
  | [] => some []
  | d :: ds => (nkOf d).bind fun k => (nksOf ds).map fun ks => k :: ks
end
def isKey : PyData → Bool
  | .int _ => true
  | .str _ => true
  | .tuple ks => match nkOf (.tuple ks) with
    | some k => decide (k.depth ≤ 8)
    | none => false
  | _ => false
/-- the key fits the keys of the dict: all are tuples, or none is -/
def keyFit (es : List (PyData × PyData)) (k : PyData) : Bool := isKey k && es.all fun p => flatKey p.1 == flatKey k
def keyEq (a b : PyData) : Bool := PyData.eqv a b
def lookD (es : List (PyData × PyData)) (k : PyData) : Option PyData := (es.find? fun kv => keyEq kv.1 k).map (·.2)
def putD (es : List (PyData × PyData)) (k v : PyData) : List (PyData × PyData) :=
  if (es.any fun kv => keyEq kv.1 k) = true then es.map (fun kv => if keyEq kv.1 k = true then (kv.1, v) else kv) else es ++ [(k, v)]
def mergeD (es : List (PyData × PyData)) : List (PyData × PyData) → List (PyData × PyData)
  | [] => es
  | (k, v) :: r => mergeD (putD es k v) r
def pairsOf : List PyData → Option (List (PyData × PyData))
  | [] => some []
  | .tuple [k, v] :: r => (pairsOf r).map fun q => (k, v) :: q
  | _ :: _ => none

/-- an index from either end -/
def ixOf (n : Nat) (i : Int) : Option Nat := if 0 ≤ i then (if i < n then some i.toNat else none) else if -(n : Int) ≤ i then some (i + n).toNat else none
def atD (ds : List PyData) (i : Int) : Option PyData := (ixOf ds.length i).bind fun j => ds[j]?
/-- a slice's end -/
def slIx (n d : Nat) : Option Int → Nat
  | none => d
  | some v => if v < 0 then (v + (n : Int)).toNat else min v.toNat n
def cut {α : Type} (xs : List α) (lo hi : Option Int) : List α := (xs.drop (slIx xs.length 0 lo)).take (slIx xs.length xs.length hi - slIx xs.length 0 lo)

def intsOf : List PyData → Option (List Int)
  | [] => some []
  | .int i :: r => (intsOf r).map fun q => i :: q
  | _ :: _ => none
def boolsOf : List PyData → Option (List Bool)
  | [] => some []
  | .bool i :: r => (boolsOf r).map fun q => i :: q
  | _ :: _ => none
def strsOf : List PyData → Option (List Str)
  | [] => some []
  | .str i :: r => (strsOf r).map fun q => i :: q
  | _ :: _ => none

/-- all of one kind, place by place; no None at the top -/
def sameKind (ds : List PyData) : Bool := ds.all (fun x => ds.all fun y => PySem.W.alike x y) && ds.all fun x => match x with | .none => false | _ => true
def leD (x y : PyData) : Bool := PySem.W.dataLe false id x y
def sortD (ds : List PyData) : List PyData := ds.mergeSort leD
def minOf : List PyData → Option PyData
  | [] => none
  | x :: xs => some (PySem.W.minD x xs)
def maxOf : List PyData → Option PyData
  | [] => none
  | x :: xs => some (PySem.W.maxD x xs)
/-- each once, the first ones stay -/
def dedup : List PyData → List PyData
  | [] => []
  | x :: xs => x :: (dedup xs).filter fun y => !PyData.eqv y x
/-! ### the tree -/
inductive Pr where
  | add | sub | mul | fdiv | mod | pow
  | eq | ne | lt | le | gt | ge | in_ | nin | is_ | isn
  | neg
  | ix | sl0 | slL | slH | slLH | rev
  | len | abs | int | min2 | max2 | min1 | max1 | sum | all | any | sorted | tuple | list | dict | sortedSet | lenSet
  | isInt | isStr | isBool | isList | isTuple | isSeq
  | get1 | get2 | index | count | join | values | itemsSorted
  | gcd | lcm
  deriving DecidableEq, Repr

/-- does it make a new list or dict? -/
def Pr.fresh : Pr → Bool
  | .add | .mul | .sl0 | .slL | .slH | .slLH | .rev | .sorted | .list | .dict | .sortedSet | .itemsSorted | .values => true
  | _ => false
def isMut : PyData → Bool
  | .list _ => true
  | .dict _ => true
  | _ => false

/-! small steps -/
def cmpOk (x y : PyData) : Bool := x.plain && y.plain && PySem.W.alike x y && decide (x.depth ≤ 64) && (match x with | .none => false | _ => true)
def kindOk (xs : List PyData) : Bool := PyData.plainAll xs && sameKind xs && decide (PyData.depthAll xs ≤ 64)
/-- can be sorted: tuples that are not empty, or no tuples -/
def sortOk (xs : List PyData) : Bool := kindOk xs && (xs.all (fun x => match x with | .tuple (_ :: _) => true | _ => false) || xs.all fun x => match x with | .tuple _ => false | _ => true)
def negD : PyData → Option PyData
  | .int i => some (.int (-i))
  | _ => none
def lenD : PyData → Option PyData
  | .list xs => some (.int xs.length)
  | .tuple xs => some (.int xs.length)
  | .dict xs => some (.int xs.length)
  | .str s => if s.cps.size ≤ big then some (.int s.cps.size) else none
  | _ => none
def absD : PyData → Option PyData
  | .int i => some (.int i.natAbs)
  | _ => none
def intD : PyData → Option PyData
  | .int i => some (.int i)
  | _ => none
def seqD : PyData → Option (List PyData)
  | .list xs => some xs
  | .tuple xs => some xs
  | _ => none
def min1D (d : PyData) : Option PyData := (seqD d).bind fun xs => if kindOk xs then minOf xs else none
def max1D (d : PyData) : Option PyData := (seqD d).bind fun xs => if kindOk xs then maxOf xs else none
def sumD : PyData → Option PyData
  | .list xs => (intsOf xs).map fun ns => .int ns.sum
  | .tuple xs => (intsOf xs).map fun ns => .int ns.sum
  | _ => none
def allD : PyData → Option PyData
  | .list xs => (boolsOf xs).map fun bs => .bool (bs.all id)
  | _ => none
def anyD : PyData → Option PyData
  | .list xs => (boolsOf xs).map fun bs => .bool (bs.any id)
  | _ => none
def keysOf : PyData → Option (List PyData)
  | .list xs => some xs
  | .tuple xs => some xs
  | .dict es => some (es.map (·.1))
  | _ => none
def isTupNe : PyData → Bool
  | .tuple (_ :: _) => true
  | _ => false
def isTupD : PyData → Bool
  | .tuple _ => true
  | _ => false
/-- keys that are tuples: none is empty, or there is one at most -/
def sortTOk (ks : List PyData) : Bool := kindOk ks && ks.all isTupD && (ks.all isTupNe || decide (ks.length ≤ 1))
def sortedD : PyData → Option PyData
  | .list xs => if sortOk xs then some (.list (sortD xs)) else none
  | .tuple xs => if sortOk xs then some (.list (sortD xs)) else none
  | .dict es => if (sortOk (es.map (·.1)) && (es.map (·.1)).all isKey0) = true then some (.list (sortD (es.map (·.1)))) else if sortTOk (es.map (·.1)) = true then some (.list (sortD (es.map (·.1)))) else none
  | _ => none
/-- a list of which a set is made: ints, or texts, not too many -/
def setItems : PyData → Option (List PyData)
  | .list xs => if (sortOk xs && xs.all isKey0 && decide (xs.length ≤ 4000)) = true then some xs else none
  | _ => none
def sortedSetD (d : PyData) : Option PyData := (setItems d).bind fun xs => some (.list (sortD (dedup xs)))
def lenSetD (d : PyData) : Option PyData := (setItems d).bind fun xs => some (.int (dedup xs).length)
def tupleD (d : PyData) : Option PyData := (seqD d).map .tuple
def listD (d : PyData) : Option PyData := (seqD d).map .list
def isListD : PyData → Bool
  | .list _ => true
  | _ => false
def dictD (d : PyData) : Option PyData := (seqD d).bind fun xs => (pairsOf xs).bind fun ps => if ps.all (fun p => flatKey p.1) then some (.dict (mergeD [] ps)) else
  if (isListD d && ps.all fun p => isKey p.1 && !flatKey p.1) = true then some (.dict (mergeD [] ps)) else none
def revD : PyData → Option PyData
  | .list xs => some (.list xs.reverse)
  | .tuple xs => some (.tuple xs.reverse)
  | _ => none
def valuesD : PyData → Option PyData
  | .dict es => some (.list (es.map (·.2)))
  | _ => none
def itemsSortedD : PyData → Option PyData
  | .dict es => let xs := es.map fun p => PyData.tuple [p.1, p.2]; if sortOk xs then some (.list (sortD xs)) else none
  | _ => none
def isDictD : PyData → Bool
  | .dict _ => true
  | _ => false
/-- a test of a datum's kind -/
def kindT (f : PyData → Bool) (d : PyData) : Option PyData := if isDictD d then none else some (.bool (f d))
def isIntD : PyData → Bool
  | .int _ => true
  | .bool _ => true
  | _ => false
def isStrD : PyData → Bool
  | .str _ => true
  | _ => false
def isBoolD : PyData → Bool
  | .bool _ => true
  | _ => false
def isTupleD : PyData → Bool
  | .tuple _ => true
  | _ => false
def isSeqD : PyData → Bool
  | .list _ => true
  | .tuple _ => true
  | _ => false
def kindN : PyData → Nat
  | .none => 0
  | .bool _ => 1
  | .int _ => 2
  | .str _ => 3
  | .list _ => 4
  | .tuple _ => 5
  | .dict _ => 6
/-- what a method is asked of -/
def recv : Pr → PyData → Bool
  | .get1, .dict _ => true
  | .get2, .dict _ => true
  | .index, .list _ => true
  | .index, .tuple _ => true
  | .count, .list _ => true
  | .count, .tuple _ => true
  | .join, .str _ => true
  | _, _ => false
def p1 : Pr → PyData → Option PyData
  | .neg => negD
  | .len => lenD
  | .abs => absD
  | .int => intD
  | .min1 => min1D
  | .max1 => max1D
  | .sum => sumD
  | .all => allD
  | .any => anyD
  | .sorted => sortedD
  | .sortedSet => sortedSetD
  | .lenSet => lenSetD
  | .tuple => tupleD
  | .list => listD
  | .dict => dictD
  | .rev => revD
  | .values => valuesD
  | .itemsSorted => itemsSortedD
  | .isInt => kindT isIntD
  | .isStr => kindT isStrD
  | .isBool => kindT isBoolD
  | .isList => kindT isListD
  | .isTuple => kindT isTupleD
  | .isSeq => kindT isSeqD
  | _ => fun _ => none
def addD : PyData → PyData → Option PyData
  | .int i, .int j => some (.int (i + j))
  | .str x, .str y => if x.cps.size + y.cps.size ≤ big then some (.str (x ++ y)) else none
  | .list xs, .list ys => if xs.length + ys.length ≤ big then some (.list (xs ++ ys)) else none
  | .tuple xs, .tuple ys => if xs.length + ys.length ≤ big then some (.tuple (xs ++ ys)) else none
  | _, _ => none
def subD : PyData → PyData → Option PyData
  | .int i, .int j => some (.int (i - j))
  | _, _ => none
def mulD : PyData → PyData → Option PyData
  | .int i, .int j => if (-(2 ^ 64) < i ∧ i < 2 ^ 64) ∨ (-(2 ^ 64) < j ∧ j < 2 ^ 64) then some (.int (i * j)) else none
  | .list xs, .int k => if -16777216 < k ∧ k < 16777216 ∧ xs.length * k.toNat ≤ big then some (.list (List.replicate k.toNat xs).flatten) else none
  | .tuple xs, .int k => if xs.isEmpty = false ∧ 2 ≤ k ∧ k ≤ 1000 ∧ xs.length ≤ 1000 then some (.tuple (List.replicate k.toNat xs).flatten) else none
  | _, _ => none
def fdivD : PyData → PyData → Option PyData
  | .int i, .int j => if 0 < j ∧ j < 1073741824 then some (.int (i / j)) else none
  | _, _ => none
def modD : PyData → PyData → Option PyData
  | .int i, .int j => if 0 < j then some (.int (i % j)) else none
  | _, _ => none
def powD : PyData → PyData → Option PyData
  | .int i, .int j => if 0 ≤ j ∧ j ≤ 1000000 ∧ i.natAbs < 2 ^ 64 then some (.int (i ^ j.toNat)) else none
  | _, _ => none
def eqOk (x y : PyData) : Bool := x.plain && y.plain && decide (min x.depth y.depth ≤ 64)
def eqD (x y : PyData) : Option PyData := if eqOk x y then some (.bool (PyData.eqv x y)) else none
def neD (x y : PyData) : Option PyData := if eqOk x y then some (.bool (!PyData.eqv x y)) else none
def ltD (x y : PyData) : Option PyData := if cmpOk x y then some (.bool (PySem.W.dataLt x y)) else none
def leD' (x y : PyData) : Option PyData := if cmpOk x y then some (.bool (!PySem.W.dataLt y x)) else none
def gtD (x y : PyData) : Option PyData := if cmpOk x y then some (.bool (PySem.W.dataLt y x)) else none
def geD (x y : PyData) : Option PyData := if cmpOk x y then some (.bool (!PySem.W.dataLt x y)) else none
def memOk (x : PyData) (ys : List PyData) : Bool := x.plain && PyData.plainAll ys && decide (min (PyData.depthAll ys) x.depth ≤ 64)
def memD (x : PyData) (ys : List PyData) : Bool := ys.any fun y => PyData.eqv y x
def inB : PyData → PyData → Option Bool
  | x, .list ys => if memOk x ys then some (memD x ys) else none
  | x, .tuple ys => if memOk x ys then some (memD x ys) else none
  | x, .dict es => if keyFit es x then some (lookD es x).isSome else none
  | .str x, .str y => if x.cps.size = 1 then some (decide (x.cps.getD 0 0 ∈ y.cps.toList)) else none
  | _, _ => none
def inD (x y : PyData) : Option PyData := (inB x y).map .bool
def ninD (x y : PyData) : Option PyData := (inB x y).map fun b => .bool (!b)
def isNoneD : PyData → Bool
  | .none => true
  | _ => false
def isB : PyData → PyData → Option Bool
  | x, .none => some (isNoneD x)
  | .bool c, .bool b => some (decide (c = b))
  | _, _ => none
def isD (x y : PyData) : Option PyData := (isB x y).map .bool
def isnD (x y : PyData) : Option PyData := (isB x y).map fun b => .bool (!b)
def ixD : PyData → PyData → Option PyData
  | .list xs, .int i => atD xs i
  | .tuple xs, .int i => atD xs i
  | .str s, .int i => if s.cps.size ≤ big then atD (signs s) i else none
  | .dict es, k => if keyFit es k then lookD es k else none
  | _, _ => none
def cutD (d : PyData) (lo hi : Option Int) : Option PyData := match d with
  | .list xs => some (.list (cut xs lo hi))
  | .tuple xs => some (.tuple (cut xs lo hi))
  | .str s => if s.cps.size ≤ big then some (.str ⟨(cut s.cps.toList lo hi).toArray⟩) else none
  | _ => none
def slLD : PyData → PyData → Option PyData
  | d, .int i => cutD d (some i) none
  | _, _ => none
def slHD : PyData → PyData → Option PyData
  | d, .int i => cutD d none (some i)
  | _, _ => none
def slLHD : PyData → PyData → PyData → Option PyData
  | d, .int i, .int j => cutD d (some i) (some j)
  | _, _, _ => none
def min2D (x y : PyData) : Option PyData := if kindOk [x, y] && (!isMut x && !isMut y) then minOf [x, y] else none
def max2D (x y : PyData) : Option PyData := if kindOk [x, y] && (!isMut x && !isMut y) then maxOf [x, y] else none
def get1D : PyData → PyData → Option PyData
  | .dict es, k => if keyFit es k then some ((lookD es k).getD .none) else none
  | _, _ => none
def get2D : PyData → PyData → PyData → Option PyData
  | .dict es, k, x => if keyFit es k then some ((lookD es k).getD x) else none
  | _, _, _ => none
def indexD (s x : PyData) : Option PyData := (seqD s).bind fun ys => if memOk x ys then (PySem.SeqAt.dataPlace ys x).map fun j => PyData.int (j : Nat) else none
def countD (s x : PyData) : Option PyData := (seqD s).bind fun ys => if memOk x ys then some (.int (ys.countP fun y => PyData.eqv y x : Nat)) else none
def gcdD : PyData → PyData → Option PyData
  | .int i, .int j => some (.int (Int.gcd i j))
  | _, _ => none
def lcmD : PyData → PyData → Option PyData
  | .int i, .int j => if i.natAbs < 18446744073709551616 ∧ j.natAbs < 18446744073709551616 then some (.int (Int.lcm i j)) else none
  | _, _ => none
def p2 : Pr → PyData → PyData → Option PyData
  | .add => addD
  | .sub => subD
  | .mul => mulD
  | .fdiv => fdivD
  | .mod => modD
  | .pow => powD
  | .eq => eqD
  | .ne => neD
  | .lt => ltD
  | .le => leD'
  | .gt => gtD
  | .ge => geD
  | .in_ => inD
  | .nin => ninD
  | .is_ => isD
  | .isn => isnD
  | .ix => ixD
  | .slL => slLD
  | .slH => slHD
  | .min2 => min2D
  | .max2 => max2D
  | .get1 => get1D
  | .index => indexD
  | .count => countD
  | .gcd => gcdD
  | .lcm => lcmD
  | _ => fun _ _ => none
def p3 : Pr → PyData → PyData → PyData → Option PyData
  | .slLH => slLHD
  | .get2 => get2D
  | _ => fun _ _ _ => none
end Z

namespace Z
open PySem
inductive Tg where
  | nm (i : Nat)
  | nil
  | cons (t : Tg) (r : Tg)      -- a tuple's targets
mutual
inductive E where
  | k (c : PyData)
  | v (i : Nat)
  | p1 (p : Pr) (a : E)
  | p2 (p : Pr) (a b : E)
  | p3 (p : Pr) (a b c : E)
  | m1 (p : Pr) (a b : E)
  | m2 (p : Pr) (a b c : E)
  | chain (p q : Pr) (a b c : E)
  | and_ (a b : E)
  | or_ (a b : E)
  | not_ (a : E)
  | ite (c a b : E)
  | tup (es : Es)
  | lst (es : Es)
  | dct (es : Es)
  | call (f : Nat) (es : Es)
  | calld (f i : Nat) (es : Es)
  | nxt (i : Nat) (a : E)
  | lc (g : Tg) (it : I) (ifs : Es) (vs : List Nat) (e : E)
  | dc (g : Tg) (it : I) (ifs : Es) (vs : List Nat) (a b : E)
  | rngL (it : I)
  | rngT (it : I)
  | pop (i : Nat)
  | popAt (i : Nat) (a : E)
  | dix (i : Nat) (a : E)
inductive Es where
  | nil
  | cons (e : E) (r : Es)
inductive I where
  | val (e : E)
  | rng1 (a : E)
  | rng2 (a b : E)
  | rng3 (a b c : E)
  | enum (e : E)
  | zip (a b : E)
  | zip3 (a b c : E)
  | items (e : E)
  | rev (e : E)
  | perm (e : E)
end
mutual
inductive S where
  | asg (g : Tg) (e : E)
  | par (is : List Nat) (es : Es)
  | setix (i : Nat) (ix e : E)
  | setdw (i : Nat) (ix e : E)
  | app (i : Nat) (e : E)
  | ext (i : Nat) (e : E)
  | rem (i : Nat) (e : E)
  | upd (i : Nat) (e : E)
  | ex (e : E)
  | ife (c : E) (a b : Ss)
  | for_ (g : Tg) (it : I) (b : Ss)
  | wh (c : E) (b : Ss)
  | ret (e : E)
  | brk
  | cnt
  | nop
inductive Ss where
  | nil
  | cons (s : S) (r : Ss)
end

/-! ### the reading -/
/-- what a name holds: nothing, a value that may be shared, a list or dict of its own, the same while it is walked, the draws, the script -/
inductive Sl where
  | no
  | sh (d : PyData)
  | ow (d : PyData)
  | lk (d : PyData)
  | dr
  | dw (d : PyData)   -- a list that a def was handed to write on
abbrev Env := List Sl
/-- an operand: a value, or the name's own -/
inductive Opd where
  | val (d : PyData)
  | slot (i : Nat)
def Sl.dat : Sl → Option PyData
  | .sh d => some d
  | .ow d => some d
  | .lk d => some d
  | _ => none
def res (ρ : Env) : Opd → Option PyData
  | .val d => some d
  | .slot i => (ρ[i]?).bind Sl.dat
/-- .. must be there -/
def must {α : Type} (o : Option α) (Q : α → Prop) : Prop := ∃ a, o = some a ∧ Q a
abbrev QE := Bool → PyData → Env → Prop
abbrev RE := Env → QE → Prop
def rdVar (i : Nat) : RE := fun ρ Q => match ρ[i]? with
  | some (.sh d) => Q false d ρ
  | some (.ow d) => Q false d (ρ.set i (.sh d))
  | _ => False
def opd (e : E) (r : RE) (ρ : Env) (K : Opd → Env → Prop) : Prop := match e with
  | .v i => must (res ρ (.slot i)) fun _ => K (.slot i) ρ
  | _ => r ρ fun _ d ρ' => K (.val d) ρ'
def lockS : Sl → Sl
  | .ow d => .lk d
  | s => s
def unlockS : Sl → Sl
  | .lk d => .ow d
  | s => s
/-- a walked name is locked; told whether it was -/
def lock (ρ : Env) : Opd → Env × List Nat
  | .val _ => (ρ, [])
  | .slot i => match ρ[i]? with
    | some (.ow d) => (ρ.set i (.lk d), [i])
    | _ => (ρ, [])
/-- a dict that is walked is shared from then on -/
def shareE (ρ : Env) : Opd → Option Env
  | .val _ => some ρ
  | .slot i => match ρ[i]? with
    | some (.ow d) => some (ρ.set i (.sh d))
    | some (.sh _) => some ρ
    | _ => none
/-- what is walked: a dict's keys, the items of a list, of a tuple, of a text -/
def walkOf (ρ : Env) (o : Opd) (x : PyData) : Option (List Nat × List PyData × Env) := match x with
  | .dict es => (shareE ρ o).map fun ρ' => ([], es.map (·.1), ρ')
  | x => (itemsOf x).map fun ds => ((lock ρ o).2, ds, (lock ρ o).1)
def unlock (ρ : Env) : List Nat → Env
  | [] => ρ
  | i :: r => match ρ[i]? with
    | some (.lk d) => unlock (ρ.set i (.ow d)) r
    | _ => unlock ρ r
def wipeE (ρ : Env) : List Nat → Env
  | [] => ρ
  | i :: r => (wipeE ρ r).set i .no
/-- the block's own names get back what they held ahead -/
def restE (ρ0 ρ : Env) : List Nat → Env
  | [] => ρ
  | i :: r => (restE ρ0 ρ r).set i (match ρ0[i]? with | some (.sh d) => .sh d | _ => .no)
mutual
def asgT : Tg → Bool → PyData → Env → (Env → Prop) → Prop
  | .nm i, fr, d, ρ, K => K (ρ.set i (if (fr && isMut d) = true then .ow d else .sh d))
  | .nil, _, d, ρ, K => match d with
    | .tuple [] => K ρ
    | _ => False
  | .cons t r, _, d, ρ, K => match d with
    | .tuple ds => asgTs (.cons t r) ds ρ K
    | _ => False
def asgTs : Tg → List PyData → Env → (Env → Prop) → Prop
  | .nil, ds, ρ, K => ds = [] ∧ K ρ
  | .cons t r, ds, ρ, K => match ds with
    | d :: ds' => asgT t false d ρ fun ρ' => asgTs r ds' ρ' K
    | [] => False
  | .nm _, _, _, _ => False
end
/-- a comprehension's turns -/
def compW (g : Tg) (tt : Env → (Bool → Env → Prop) → Prop) (te : Env → (PyData → Env → Prop) → Prop) (vs : List Nat) : List PyData → List PyData → Env → (List PyData → Env → Prop) → Prop
  | [], acc, ρ, Q => Q acc ρ
  | d :: ds, acc, ρ, Q => asgT g false d ρ fun ρ1 => tt ρ1 fun b ρ2 =>
    if b = true then te ρ2 fun x ρ3 => compW g tt te vs ds (acc ++ [x]) (wipeE ρ3 vs) Q else compW g tt te vs ds acc (wipeE ρ2 vs) Q
def dcompW (g : Tg) (tt : Env → (Bool → Env → Prop) → Prop) (te : Env → (PyData → PyData → Env → Prop) → Prop) (vs : List Nat) : List PyData → List (PyData × PyData) → Env → (List (PyData × PyData) → Env → Prop) → Prop
  | [], acc, ρ, Q => Q acc ρ
  | d :: ds, acc, ρ, Q => asgT g false d ρ fun ρ1 => tt ρ1 fun b ρ2 =>
    if b = true then te ρ2 fun x y ρ3 => isKey0 x = true ∧ dcompW g tt te vs ds (putD acc x y) (wipeE ρ3 vs) Q else dcompW g tt te vs ds acc (wipeE ρ2 vs) Q
structure Kt where
  nx : Env → Prop
  rt : QE
  bk : Env → Prop := fun _ => False
  ct : Env → Prop := fun _ => False
def forW (g : Tg) (rb : Env → Kt → Prop) (K : Kt) : List PyData → Env → Prop
  | [], ρ => K.nx ρ
  | d :: ds, ρ => asgT g false d ρ fun ρ1 => rb ρ1 { nx := fun ρ2 => forW g rb K ds ρ2, rt := K.rt, bk := K.bk, ct := fun ρ2 => forW g rb K ds ρ2 }
def whW (rc : Env → (Bool → Env → Prop) → Prop) (rb : Env → Kt → Prop) (ρ : Env) (K : Kt) : Prop :=
  ∃ W : Nat → Env → Prop, (∃ m, W m ρ) ∧ ∀ m ρ, W m ρ → rc ρ fun b ρ1 =>
    if b = true then rb ρ1 { nx := fun ρ2 => ∃ m', m' < m ∧ W m' ρ2, rt := K.rt, bk := K.nx, ct := fun ρ2 => ∃ m', m' < m ∧ W m' ρ2 } else K.nx ρ1

def isDr (ρ : Env) (i : Nat) : Prop := match ρ[i]? with
  | some .dr => True
  | _ => False
def mustW (ρ : Env) (i : Nat) (Q : List PyData → Prop) : Prop := match ρ[i]? with
  | some (.dw (.list ds)) => Q ds
  | _ => False
def mustI (x : PyData) (Q : Int → Prop) : Prop := match x with
  | .int n => Q n
  | _ => False
def mustB (x : PyData) (Q : Bool → Prop) : Prop := match x with
  | .bool n => Q n
  | _ => False
/-- a list of its own -/
def mustL (ρ : Env) (i : Nat) (Q : List PyData → Prop) : Prop := match ρ[i]? with
  | some (.ow (.list ds)) => Q ds
  | _ => False
def dictOf : PyData → Option (List (PyData × PyData))
  | .dict es => some es
  | _ => none
def listOf : PyData → Option (List PyData)
  | .list es => some es
  | _ => none
def setAll (ρ : Env) : List Nat → List (Bool × PyData) → Env
  | i :: is, (fr, d) :: vs => setAll (ρ.set i (if (fr && isMut d) = true then .ow d else .sh d)) is vs
  | _, _ => ρ
/-- x[k] = d -/
def setD : Sl → PyData → PyData → Option Sl
  | .ow (.list ds), .int n, d => (ixOf ds.length n).map fun j => .ow (.list (ds.set j d))
  | .ow (.dict es), k, d => if keyFit es k && decide (es.length < big) then some (.ow (.dict (putD es k d))) else none
  | _, _, _ => none
/-- a def's promise -/
abbrev Spc := List PyData → (Bool → PyData → Prop) → Prop
/-- the ints lo, lo + 1, .. -/
def ups (lo : Int) (n : Nat) : List PyData := (List.range n).map fun (i : Nat) => PyData.int (lo + i)
def steps (lo c : Int) (n : Nat) : List PyData := (List.range n).map fun (i : Nat) => PyData.int (lo + i * c)
def rngLen (i j c : Int) : Nat := if 0 < c then (if i < j then ((j - i - 1) / c + 1).toNat else 0) else if j < i then ((i - j - 1) / (-c) + 1).toNat else 0
def enumD (ds : List PyData) : List PyData := (ds.zipIdx).map fun p => .tuple [.int (p.2 : Nat), p.1]
def zipD (xs ys : List PyData) : List PyData := (xs.zip ys).map fun p => .tuple [p.1, p.2]
def zip3D (xs ys zs : List PyData) : List PyData := (xs.zip (ys.zip zs)).map fun p => .tuple [p.1, p.2.1, p.2.2]
def lim : Int := 4611686018427387904
abbrev RT := Env → (Bool → Env → Prop) → Prop
structure RB where
  e : RE
  t : RT
/-- a reading whose test is the truth of its value -/
def plainT (r : RE) : RB := ⟨r, fun ρ Q => r ρ fun _ x ρ1 => must (tru x) fun b => Q b ρ1⟩
section
variable (Φ : Nat → Spc)
mutual
def rd : E → RB
  | .k c => plainT fun ρ Q => Q false c ρ
  | .v i => ⟨rdVar i, fun ρ Q => must (res ρ (.slot i)) fun x => must (tru x) fun b => Q b ρ⟩
  | .p1 p a => plainT fun ρ Q => opd a (rd a).e ρ fun o ρ1 => must (res ρ1 o) fun x => must (Z.p1 p x) fun d => Q p.fresh d ρ1
  | .p2 p a b => plainT fun ρ Q => opd a (rd a).e ρ fun o ρ1 => opd b (rd b).e ρ1 fun o2 ρ2 => must (res ρ2 o) fun x => must (res ρ2 o2) fun y => must (Z.p2 p x y) fun d => Q p.fresh d ρ2
  | .p3 p a b c => plainT fun ρ Q => opd a (rd a).e ρ fun o ρ1 => opd b (rd b).e ρ1 fun o2 ρ2 => must (res ρ2 o2) fun y => mustI y fun i => opd c (rd c).e ρ2 fun o3 ρ3 => must (res ρ3 o) fun x => must (res ρ3 o3) fun z => must (Z.p3 p x (.int i) z) fun d => Q p.fresh d ρ3
  | .m1 p a b => plainT fun ρ Q => opd a (rd a).e ρ fun o ρ1 => must (res ρ1 o) fun x1 => recv p x1 = true ∧ (rd b).e ρ1 fun _ y ρ2 => must (res ρ2 o) fun x => kindN x1 = kindN x ∧ must (Z.p2 p x y) fun d => Q p.fresh d ρ2
  | .m2 p a b c => plainT fun ρ Q => opd a (rd a).e ρ fun o ρ1 => must (res ρ1 o) fun x1 => recv p x1 = true ∧ (rd b).e ρ1 fun _ y ρ2 => (rd c).e ρ2 fun _ z ρ3 => must (res ρ3 o) fun x => kindN x1 = kindN x ∧ must (Z.p3 p x y z) fun d => Q p.fresh d ρ3
  | .chain p q a b c => plainT fun ρ Q => opd a (rd a).e ρ fun o ρ1 => opd b (rd b).e ρ1 fun o2 ρ2 => must (res ρ2 o) fun x => must (res ρ2 o2) fun y => must (Z.p2 p x y) fun d =>
      mustB d fun t => if t = true then opd c (rd c).e ρ2 fun o3 ρ3 => must (res ρ3 o2) fun y => must (res ρ3 o3) fun z => must (Z.p2 q y z) fun d2 => mustB d2 fun t2 => Q false (.bool t2) ρ3 else Q false (.bool false) ρ2
  | .and_ a b => ⟨fun ρ Q => (rd a).e ρ fun _ x ρ1 => must (tru x) fun t => if t = true then (rd b).e ρ1 fun _ d ρ2 => Q false d ρ2 else Q false x ρ1,
      fun ρ Q => (rd a).t ρ fun t ρ1 => if t = true then (rd b).t ρ1 Q else Q false ρ1⟩
  | .or_ a b => ⟨fun ρ Q => (rd a).e ρ fun _ x ρ1 => must (tru x) fun t => if t = true then Q false x ρ1 else (rd b).e ρ1 fun _ d ρ2 => Q false d ρ2,
      fun ρ Q => (rd a).t ρ fun t ρ1 => if t = true then Q true ρ1 else (rd b).t ρ1 Q⟩
  | .not_ a => ⟨fun ρ Q => opd a (rd a).e ρ fun o ρ1 => must (res ρ1 o) fun x => must (tru x) fun b => Q false (.bool (!b)) ρ1, fun ρ Q => (rd a).t ρ fun t ρ1 => Q (!t) ρ1⟩
  | .ite c a b => ⟨fun ρ Q => (rd c).t ρ fun t ρ1 => if t = true then (rd a).e ρ1 Q else (rd b).e ρ1 Q, fun ρ Q => (rd c).t ρ fun t ρ1 => if t = true then (rd a).t ρ1 Q else (rd b).t ρ1 Q⟩
  | .tup es => plainT fun ρ Q => rdEs es ρ fun ds ρ1 => Q false (.tuple ds) ρ1
  | .lst es => plainT fun ρ Q => rdEs es ρ fun ds ρ1 => Q true (.list ds) ρ1
  | .dct es => plainT fun ρ Q => rdPs es ρ fun ps ρ1 => (ps.all fun p => flatKey p.1) = true ∧ ps.length ≤ 15 ∧ Q true (.dict (mergeD [] ps)) ρ1
  | .call f es => plainT fun ρ Q => rdEs es ρ fun ds ρ1 => Φ f ds fun fr d => Q fr d ρ1
  | .calld f i es => plainT fun ρ Q => isDr ρ i ∧ rdEs es ρ fun ds ρ1 => isDr ρ1 i ∧ Φ f ds fun fr d => Q fr d ρ1
  | .nxt i a => plainT fun ρ Q => isDr ρ i ∧ opd a (rd a).e ρ fun o ρ1 => must (res ρ1 o) fun x => mustI x fun n => isDr ρ1 i ∧ 1 ≤ n ∧ n < 1073741824 ∧ ∀ r : Int, 0 ≤ r → r < n → Q false (.int r) ρ1
  | .lc g it ifs vs e => plainT fun ρ Q => rdI it ρ fun ls ds ρ1 => compW g (rdIfs ifs) (fun ρ' K => (rd e).e ρ' fun _ d ρ'' => K d ρ'') vs ds [] (wipeE ρ1 vs) fun acc ρ2 => Q true (.list acc) (unlock (restE ρ1 ρ2 vs) ls)
  | .dc g it ifs vs a b => plainT fun ρ Q => rdI it ρ fun ls ds ρ1 => dcompW g (rdIfs ifs) (fun ρ' K => (rd a).e ρ' fun _ x ρ'' => (rd b).e ρ'' fun _ y ρ3 => K x y ρ3) vs ds [] (wipeE ρ1 vs) fun acc ρ2 => Q true (.dict acc) (unlock (restE ρ1 ρ2 vs) ls)
  | .rngL it => plainT fun ρ Q => rdI it ρ fun ls ds ρ1 => ls = [] ∧ ds.length ≤ big ∧ Q true (.list ds) ρ1
  | .rngT it => plainT fun ρ Q => rdI it ρ fun ls ds ρ1 => ls = [] ∧ ds.length ≤ big ∧ Q false (.tuple ds) ρ1
  | .dix i a => plainT fun ρ Q => mustW ρ i fun _ => opd a (rd a).e ρ fun o ρ1 => must (res ρ1 o) fun x => mustI x fun n => mustW ρ1 i fun ds => must (atD ds n) fun d => Q false d ρ1
  | .pop i => plainT fun ρ Q => mustL ρ i fun ds => must ds[ds.length - 1]? fun d => Q false d (ρ.set i (.ow (.list ds.dropLast)))
  | .popAt i a => plainT fun ρ Q => mustL ρ i fun _ => opd a (rd a).e ρ fun o ρ1 => must (res ρ1 o) fun x => mustI x fun n => mustL ρ1 i fun ds => must (ixOf ds.length n) fun j => must ds[j]? fun d => Q false d (ρ1.set i (.ow (.list (ds.eraseIdx j))))
def rdEs : Es → Env → (List PyData → Env → Prop) → Prop
  | .nil => fun ρ Q => Q [] ρ
  | .cons e r => fun ρ Q => (rd e).e ρ fun _ d ρ1 => rdEs r ρ1 fun ds ρ2 => Q (d :: ds) ρ2
/-- key, value, key, value .. -/
def rdPs : Es → Env → (List (PyData × PyData) → Env → Prop) → Prop
  | .nil => fun ρ Q => Q [] ρ
  | .cons _ .nil => fun _ _ => False
  | .cons e (.cons f r) => fun ρ Q => (rd e).e ρ fun _ x ρ1 => (rd f).e ρ1 fun _ y ρ2 => rdPs r ρ2 fun ps ρ3 => Q ((x, y) :: ps) ρ3
def rdIfs : Es → RT
  | .nil => fun ρ Q => Q true ρ
  | .cons e r => fun ρ Q => (rd e).t ρ fun b ρ1 => if b = true then rdIfs r ρ1 Q else Q false ρ1
def rdI : I → Env → (List Nat → List PyData → Env → Prop) → Prop
  | .val e => fun ρ Q => opd e (rd e).e ρ fun o ρ1 => must (res ρ1 o) fun x => must (walkOf ρ1 o x) fun q => Q q.1 q.2.1 q.2.2
  | .rng1 a => fun ρ Q => opd a (rd a).e ρ fun o ρ1 => must (res ρ1 o) fun x => mustI x fun n => -lim ≤ n ∧ n ≤ 16777216 ∧ Q [] (ups 0 n.toNat) ρ1
  | .rng2 a b => fun ρ Q => opd a (rd a).e ρ fun o ρ1 => opd b (rd b).e ρ1 fun o2 ρ2 => must (res ρ2 o) fun x => must (res ρ2 o2) fun y => mustI x fun i => mustI y fun j => -lim ≤ i ∧ i < lim ∧ -lim ≤ j ∧ j < lim ∧ j - i ≤ 16777216 ∧ Q [] (ups i (j - i).toNat) ρ2
  | .rng3 a b c => fun ρ Q => opd a (rd a).e ρ fun o ρ1 => opd b (rd b).e ρ1 fun o2 ρ2 => opd c (rd c).e ρ2 fun o3 ρ3 => must (res ρ3 o) fun x => must (res ρ3 o2) fun y => must (res ρ3 o3) fun z => mustI x fun i => mustI y fun j => mustI z fun k =>
      -1000000000 < i ∧ i < 1000000000 ∧ -1000000000 < j ∧ j < 1000000000 ∧ k ≠ 0 ∧ k.natAbs < 1000000000 ∧ rngLen i j k ≤ big ∧ Q [] (steps i k (rngLen i j k)) ρ3
  | .enum e => fun ρ Q => opd e (rd e).e ρ fun o ρ1 => must (res ρ1 o) fun x => must (seqD x) fun ds => Q (lock ρ1 o).2 (enumD ds) (lock ρ1 o).1
  | .zip a b => fun ρ Q => opd a (rd a).e ρ fun o ρ1 => opd b (rd b).e ρ1 fun o2 ρ2 => must (res ρ2 o) fun x => must (res ρ2 o2) fun y => must (seqD x) fun xs => must (seqD y) fun ys =>
      Q ((lock (lock ρ2 o).1 o2).2 ++ (lock ρ2 o).2) (zipD xs ys) (lock (lock ρ2 o).1 o2).1
  | .zip3 a b c => fun ρ Q => False
  | .items e => fun ρ Q => opd e (rd e).e ρ fun o ρ1 => must (res ρ1 o) fun x => must (dictOf x) fun es => must (shareE ρ1 o) fun ρ' => Q [] (es.map fun p => .tuple [p.1, p.2]) ρ'
  | .rev e => fun ρ Q => opd e (rd e).e ρ fun o ρ1 => must (res ρ1 o) fun x => must (seqD x) fun ds => Q (lock ρ1 o).2 ds.reverse (lock ρ1 o).1
  | .perm e => fun ρ Q => False
end
/-- values that keep whether they are new -/
def rdFs : Es → Env → (List (Bool × PyData) → Env → Prop) → Prop
  | .nil => fun ρ Q => Q [] ρ
  | .cons e r => fun ρ Q => (rd Φ e).e ρ fun fr d ρ1 => rdFs r ρ1 fun ds ρ2 => Q ((fr, d) :: ds) ρ2
/-- what is handed back: a name's own list goes along -/
def rdRet (e : E) (ρ : Env) (Q : QE) : Prop := match e with
  | .v i => must ρ[i]? fun s => match s with
      | .sh d => Q false d ρ
      | .ow d => Q true d (ρ.set i .no)
      | _ => False
  | _ => (rd Φ e).e ρ Q
mutual
def rdS : S → Env → Kt → Prop
  | .asg g e => fun ρ K => (rd Φ e).e ρ fun fr d ρ1 => asgT g fr d ρ1 K.nx
  | .par is es => fun ρ K => rdFs Φ es ρ fun vs ρ1 => vs.length = is.length ∧ K.nx (setAll ρ1 is vs)
  | .setix i ix e => fun ρ K => (rd Φ e).e ρ fun _ d ρ1 => must (res ρ1 (.slot i)) fun _ => (rd Φ ix).e ρ1 fun _ k ρ2 => must (ρ2[i]?) fun s => must (setD s k d) fun s' => K.nx (ρ2.set i s')
  | .setdw i ix e => fun ρ K => (rd Φ e).e ρ fun _ d ρ1 => mustW ρ1 i fun _ => (rd Φ ix).e ρ1 fun _ k ρ2 => mustI k fun n => mustW ρ2 i fun ds => must (ixOf ds.length n) fun j => K.nx (ρ2.set i (.dw (.list (ds.set j d))))
  | .app i e => fun ρ K => mustL ρ i fun _ => (rd Φ e).e ρ fun _ d ρ1 => mustL ρ1 i fun ds => ds.length < big ∧ K.nx (ρ1.set i (.ow (.list (ds ++ [d]))))
  | .ext i e => fun ρ K => mustL ρ i fun _ => opd e (rd Φ e).e ρ fun o ρ1 => must (res ρ1 o) fun x => must (listOf x) fun es => mustL ρ1 i fun ds => ds.length + es.length ≤ big ∧ K.nx (ρ1.set i (.ow (.list (ds ++ es))))
  | .rem i e => fun ρ K => mustL ρ i fun _ => (rd Φ e).e ρ fun _ d ρ1 => mustL ρ1 i fun ds => memOk d ds = true ∧ must (PySem.SeqAt.dataPlace ds d) fun j => K.nx (ρ1.set i (.ow (.list (ds.eraseIdx j))))
  | .upd i e => fun ρ K => False
  | .ex e => fun ρ K => (rd Φ e).e ρ fun _ _ ρ1 => K.nx ρ1
  | .ife c a b => fun ρ K => (rd Φ c).t ρ fun t ρ1 => if t = true then rdB a ρ1 K else rdB b ρ1 K
  | .for_ g it b => fun ρ K => rdI Φ it ρ fun ls ds ρ1 => forW g (rdB b) { nx := fun ρ' => K.nx (unlock ρ' ls), rt := fun fr d ρ' => K.rt fr d (unlock ρ' ls), bk := fun ρ' => K.nx (unlock ρ' ls) } ds ρ1
  | .wh c b => fun ρ K => whW (rd Φ c).t (rdB b) ρ K
  | .ret e => fun ρ K => rdRet Φ e ρ K.rt
  | .brk => fun ρ K => K.bk ρ
  | .cnt => fun ρ K => K.ct ρ
  | .nop => fun ρ K => K.nx ρ
def rdB : Ss → Env → Kt → Prop
  | .nil => fun ρ K => K.nx ρ
  | .cons s r => fun ρ K => rdS s ρ { K with nx := fun ρ1 => rdB r ρ1 K }
end
end
/-! equations -/
@[simp] theorem plainT_e (r : RE) : (plainT r).e = r := rfl
@[simp] theorem plainT_t (r : RE) : (plainT r).t = fun ρ Q => r ρ fun _ x ρ1 => must (tru x) fun b => Q b ρ1 := rfl
section
variable {Φ : Nat → Spc} {p q : Pr} {a b c e f : E} {es : Es} {i j : Nat} {g : Tg} {it : I} {ifs : Es} {vs : List Nat} {ρ : Env} {Q : QE} {K : Kt} {x : PyData}
@[simp] theorem rd_k : rd Φ (.k x) = plainT fun ρ Q => Q false x ρ := rfl
@[simp] theorem rd_v : rd Φ (.v i) = ⟨rdVar i, fun ρ Q => must (res ρ (.slot i)) fun x => must (tru x) fun b => Q b ρ⟩ := rfl
@[simp] theorem rd_p1 : rd Φ (.p1 p a) = plainT fun ρ Q => opd a (rd Φ a).e ρ fun o ρ1 => must (res ρ1 o) fun x => must (Z.p1 p x) fun d => Q p.fresh d ρ1 := rfl
@[simp] theorem rd_p2 : rd Φ (.p2 p a b) = plainT fun ρ Q => opd a (rd Φ a).e ρ fun o ρ1 => opd b (rd Φ b).e ρ1 fun o2 ρ2 => must (res ρ2 o) fun x => must (res ρ2 o2) fun y => must (Z.p2 p x y) fun d => Q p.fresh d ρ2 := rfl
@[simp] theorem rd_p3 : rd Φ (.p3 p a b c) = plainT fun ρ Q => opd a (rd Φ a).e ρ fun o ρ1 => opd b (rd Φ b).e ρ1 fun o2 ρ2 => must (res ρ2 o2) fun y => mustI y fun i => opd c (rd Φ c).e ρ2 fun o3 ρ3 => must (res ρ3 o) fun x => must (res ρ3 o3) fun z => must (Z.p3 p x (.int i) z) fun d => Q p.fresh d ρ3 := rfl
@[simp] theorem rd_m1 : rd Φ (.m1 p a b) = plainT fun ρ Q => opd a (rd Φ a).e ρ fun o ρ1 => must (res ρ1 o) fun x1 => recv p x1 = true ∧ (rd Φ b).e ρ1 fun _ y ρ2 => must (res ρ2 o) fun x => kindN x1 = kindN x ∧ must (Z.p2 p x y) fun d => Q p.fresh d ρ2 := rfl
@[simp] theorem rd_m2 : rd Φ (.m2 p a b c) = plainT fun ρ Q => opd a (rd Φ a).e ρ fun o ρ1 => must (res ρ1 o) fun x1 => recv p x1 = true ∧ (rd Φ b).e ρ1 fun _ y ρ2 => (rd Φ c).e ρ2 fun _ z ρ3 => must (res ρ3 o) fun x => kindN x1 = kindN x ∧ must (Z.p3 p x y z) fun d => Q p.fresh d ρ3 := rfl
@[simp] theorem rd_chain : rd Φ (.chain p q a b c) = plainT fun ρ Q => opd a (rd Φ a).e ρ fun o ρ1 => opd b (rd Φ b).e ρ1 fun o2 ρ2 => must (res ρ2 o) fun x => must (res ρ2 o2) fun y => must (Z.p2 p x y) fun d => mustB d fun t => if t = true then opd c (rd Φ c).e ρ2 fun o3 ρ3 => must (res ρ3 o2) fun y => must (res ρ3 o3) fun z => must (Z.p2 q y z) fun d2 => mustB d2 fun t2 => Q false (.bool t2) ρ3 else Q false (.bool false) ρ2 := rfl
@[simp] theorem rd_and : rd Φ (.and_ a b) = ⟨fun ρ Q => (rd Φ a).e ρ fun _ x ρ1 => must (tru x) fun t => if t = true then (rd Φ b).e ρ1 fun _ d ρ2 => Q false d ρ2 else Q false x ρ1, fun ρ Q => (rd Φ a).t ρ fun t ρ1 => if t = true then (rd Φ b).t ρ1 Q else Q false ρ1⟩ := rfl
@[simp] theorem rd_or : rd Φ (.or_ a b) = ⟨fun ρ Q => (rd Φ a).e ρ fun _ x ρ1 => must (tru x) fun t => if t = true then Q false x ρ1 else (rd Φ b).e ρ1 fun _ d ρ2 => Q false d ρ2, fun ρ Q => (rd Φ a).t ρ fun t ρ1 => if t = true then Q true ρ1 else (rd Φ b).t ρ1 Q⟩ := rfl
@[simp] theorem rd_not : rd Φ (.not_ a) = ⟨fun ρ Q => opd a (rd Φ a).e ρ fun o ρ1 => must (res ρ1 o) fun x => must (tru x) fun b => Q false (.bool (!b)) ρ1, fun ρ Q => (rd Φ a).t ρ fun t ρ1 => Q (!t) ρ1⟩ := rfl
@[simp] theorem rd_ite : rd Φ (.ite c a b) = ⟨fun ρ Q => (rd Φ c).t ρ fun t ρ1 => if t = true then (rd Φ a).e ρ1 Q else (rd Φ b).e ρ1 Q, fun ρ Q => (rd Φ c).t ρ fun t ρ1 => if t = true then (rd Φ a).t ρ1 Q else (rd Φ b).t ρ1 Q⟩ := rfl
@[simp] theorem rd_tup : rd Φ (.tup es) = plainT fun ρ Q => rdEs Φ es ρ fun ds ρ1 => Q false (.tuple ds) ρ1 := rfl
@[simp] theorem rd_lst : rd Φ (.lst es) = plainT fun ρ Q => rdEs Φ es ρ fun ds ρ1 => Q true (.list ds) ρ1 := rfl
@[simp] theorem rd_dct : rd Φ (.dct es) = plainT fun ρ Q => rdPs Φ es ρ fun ps ρ1 => (ps.all fun p => flatKey p.1) = true ∧ ps.length ≤ 15 ∧ Q true (.dict (mergeD [] ps)) ρ1 := rfl
@[simp] theorem rd_call : rd Φ (.call i es) = plainT fun ρ Q => rdEs Φ es ρ fun ds ρ1 => Φ i ds fun fr d => Q fr d ρ1 := rfl
@[simp] theorem rd_calld : rd Φ (.calld j i es) = plainT fun ρ Q => isDr ρ i ∧ rdEs Φ es ρ fun ds ρ1 => isDr ρ1 i ∧ Φ j ds fun fr d => Q fr d ρ1 := rfl
@[simp] theorem rd_nxt : rd Φ (.nxt i a) = plainT fun ρ Q => isDr ρ i ∧ opd a (rd Φ a).e ρ fun o ρ1 => must (res ρ1 o) fun x => mustI x fun n => isDr ρ1 i ∧ 1 ≤ n ∧ n < 1073741824 ∧ ∀ r : Int, 0 ≤ r → r < n → Q false (.int r) ρ1 := rfl
@[simp] theorem rd_lc : rd Φ (.lc g it ifs vs e) = plainT fun ρ Q => rdI Φ it ρ fun ls ds ρ1 => compW g (rdIfs Φ ifs) (fun ρ' K => (rd Φ e).e ρ' fun _ d ρ'' => K d ρ'') vs ds [] (wipeE ρ1 vs) fun acc ρ2 => Q true (.list acc) (unlock (restE ρ1 ρ2 vs) ls) := rfl
@[simp] theorem rd_dc : rd Φ (.dc g it ifs vs a b) = plainT fun ρ Q => rdI Φ it ρ fun ls ds ρ1 => dcompW g (rdIfs Φ ifs) (fun ρ' K => (rd Φ a).e ρ' fun _ x ρ'' => (rd Φ b).e ρ'' fun _ y ρ3 => K x y ρ3) vs ds [] (wipeE ρ1 vs) fun acc ρ2 => Q true (.dict acc) (unlock (restE ρ1 ρ2 vs) ls) := rfl
@[simp] theorem rd_rngL : rd Φ (.rngL it) = plainT fun ρ Q => rdI Φ it ρ fun ls ds ρ1 => ls = [] ∧ ds.length ≤ big ∧ Q true (.list ds) ρ1 := rfl
@[simp] theorem rd_rngT : rd Φ (.rngT it) = plainT fun ρ Q => rdI Φ it ρ fun ls ds ρ1 => ls = [] ∧ ds.length ≤ big ∧ Q false (.tuple ds) ρ1 := rfl
@[simp] theorem rd_dix : rd Φ (.dix i a) = plainT fun ρ Q => mustW ρ i fun _ => opd a (rd Φ a).e ρ fun o ρ1 => must (res ρ1 o) fun x => mustI x fun n => mustW ρ1 i fun ds => must (atD ds n) fun d => Q false d ρ1 := rfl
@[simp] theorem rd_pop : rd Φ (.pop i) = plainT fun ρ Q => mustL ρ i fun ds => must ds[ds.length - 1]? fun d => Q false d (ρ.set i (.ow (.list ds.dropLast))) := rfl
@[simp] theorem rd_popAt : rd Φ (.popAt i a) = plainT fun ρ Q => mustL ρ i fun _ => opd a (rd Φ a).e ρ fun o ρ1 => must (res ρ1 o) fun x => mustI x fun n => mustL ρ1 i fun ds => must (ixOf ds.length n) fun j => must ds[j]? fun d => Q false d (ρ1.set i (.ow (.list (ds.eraseIdx j)))) := rfl
@[simp] theorem rdI_val : rdI Φ (.val e) = fun ρ Q => opd e (rd Φ e).e ρ fun o ρ1 => must (res ρ1 o) fun x => must (walkOf ρ1 o x) fun q => Q q.1 q.2.1 q.2.2 := rfl
@[simp] theorem rdI_rng1 : rdI Φ (.rng1 a) = fun ρ Q => opd a (rd Φ a).e ρ fun o ρ1 => must (res ρ1 o) fun x => mustI x fun n => -lim ≤ n ∧ n ≤ 16777216 ∧ Q [] (ups 0 n.toNat) ρ1 := rfl
@[simp] theorem rdI_rng2 : rdI Φ (.rng2 a b) = fun ρ Q => opd a (rd Φ a).e ρ fun o ρ1 => opd b (rd Φ b).e ρ1 fun o2 ρ2 => must (res ρ2 o) fun x => must (res ρ2 o2) fun y => mustI x fun i => mustI y fun j => -lim ≤ i ∧ i < lim ∧ -lim ≤ j ∧ j < lim ∧ j - i ≤ 16777216 ∧ Q [] (ups i (j - i).toNat) ρ2 := rfl
@[simp] theorem rdI_rng3 : rdI Φ (.rng3 a b c) = fun ρ Q => opd a (rd Φ a).e ρ fun o ρ1 => opd b (rd Φ b).e ρ1 fun o2 ρ2 => opd c (rd Φ c).e ρ2 fun o3 ρ3 => must (res ρ3 o) fun x => must (res ρ3 o2) fun y => must (res ρ3 o3) fun z => mustI x fun i => mustI y fun j => mustI z fun k => -1000000000 < i ∧ i < 1000000000 ∧ -1000000000 < j ∧ j < 1000000000 ∧ k ≠ 0 ∧ k.natAbs < 1000000000 ∧ rngLen i j k ≤ big ∧ Q [] (steps i k (rngLen i j k)) ρ3 := rfl
@[simp] theorem rdI_enum : rdI Φ (.enum e) = fun ρ Q => opd e (rd Φ e).e ρ fun o ρ1 => must (res ρ1 o) fun x => must (seqD x) fun ds => Q (lock ρ1 o).2 (enumD ds) (lock ρ1 o).1 := rfl
@[simp] theorem rdI_zip : rdI Φ (.zip a b) = fun ρ Q => opd a (rd Φ a).e ρ fun o ρ1 => opd b (rd Φ b).e ρ1 fun o2 ρ2 => must (res ρ2 o) fun x => must (res ρ2 o2) fun y => must (seqD x) fun xs => must (seqD y) fun ys => Q ((lock (lock ρ2 o).1 o2).2 ++ (lock ρ2 o).2) (zipD xs ys) (lock (lock ρ2 o).1 o2).1 := rfl
@[simp] theorem rdI_zip3 : rdI Φ (.zip3 a b c) = fun ρ Q => False := rfl
@[simp] theorem rdI_items : rdI Φ (.items e) = fun ρ Q => opd e (rd Φ e).e ρ fun o ρ1 => must (res ρ1 o) fun x => must (dictOf x) fun es => must (shareE ρ1 o) fun ρ' => Q [] (es.map fun p => .tuple [p.1, p.2]) ρ' := rfl
@[simp] theorem rdI_rev : rdI Φ (.rev e) = fun ρ Q => opd e (rd Φ e).e ρ fun o ρ1 => must (res ρ1 o) fun x => must (seqD x) fun ds => Q (lock ρ1 o).2 ds.reverse (lock ρ1 o).1 := rfl
@[simp] theorem rdI_perm : rdI Φ (.perm e) = fun ρ Q => False := rfl
@[simp] theorem rdEs_nil : rdEs Φ .nil = fun ρ Q => Q [] ρ := rfl
@[simp] theorem rdEs_cons : rdEs Φ (.cons e es) = fun ρ Q => (rd Φ e).e ρ fun _ d ρ1 => rdEs Φ es ρ1 fun ds ρ2 => Q (d :: ds) ρ2 := rfl
@[simp] theorem rdPs_nil : rdPs Φ .nil = fun ρ Q => Q [] ρ := rfl
@[simp] theorem rdPs_cons : rdPs Φ (.cons e (.cons f es)) = fun ρ Q => (rd Φ e).e ρ fun _ x ρ1 => (rd Φ f).e ρ1 fun _ y ρ2 => rdPs Φ es ρ2 fun ps ρ3 => Q ((x, y) :: ps) ρ3 := rfl
@[simp] theorem rdIfs_nil : rdIfs Φ .nil = fun ρ Q => Q true ρ := rfl
@[simp] theorem rdIfs_cons : rdIfs Φ (.cons e es) = fun ρ Q => (rd Φ e).t ρ fun b ρ1 => if b = true then rdIfs Φ es ρ1 Q else Q false ρ1 := rfl
@[simp] theorem rdFs_nil : rdFs Φ .nil = fun ρ Q => Q [] ρ := rfl
@[simp] theorem rdFs_cons : rdFs Φ (.cons e es) = fun ρ Q => (rd Φ e).e ρ fun fr d ρ1 => rdFs Φ es ρ1 fun ds ρ2 => Q ((fr, d) :: ds) ρ2 := rfl
@[simp] theorem rdS_asg : rdS Φ (.asg g e) = fun ρ K => (rd Φ e).e ρ fun fr d ρ1 => asgT g fr d ρ1 K.nx := rfl
@[simp] theorem rdS_par {is : List Nat} : rdS Φ (.par is es) = fun ρ K => rdFs Φ es ρ fun vs ρ1 => vs.length = is.length ∧ K.nx (setAll ρ1 is vs) := rfl
@[simp] theorem rdS_setix {ix : E} : rdS Φ (.setix i ix e) = fun ρ K => (rd Φ e).e ρ fun _ d ρ1 => must (res ρ1 (.slot i)) fun _ => (rd Φ ix).e ρ1 fun _ k ρ2 => must (ρ2[i]?) fun s => must (setD s k d) fun s' => K.nx (ρ2.set i s') := rfl
@[simp] theorem rdS_setdw {ix : E} : rdS Φ (.setdw i ix e) = fun ρ K => (rd Φ e).e ρ fun _ d ρ1 => mustW ρ1 i fun _ => (rd Φ ix).e ρ1 fun _ k ρ2 => mustI k fun n => mustW ρ2 i fun ds => must (ixOf ds.length n) fun j => K.nx (ρ2.set i (.dw (.list (ds.set j d)))) := rfl
@[simp] theorem rdS_app : rdS Φ (.app i e) = fun ρ K => mustL ρ i fun _ => (rd Φ e).e ρ fun _ d ρ1 => mustL ρ1 i fun ds => ds.length < big ∧ K.nx (ρ1.set i (.ow (.list (ds ++ [d])))) := rfl
@[simp] theorem rdS_ext : rdS Φ (.ext i e) = fun ρ K => mustL ρ i fun _ => opd e (rd Φ e).e ρ fun o ρ1 => must (res ρ1 o) fun x => must (listOf x) fun es => mustL ρ1 i fun ds => ds.length + es.length ≤ big ∧ K.nx (ρ1.set i (.ow (.list (ds ++ es)))) := rfl
@[simp] theorem rdS_rem : rdS Φ (.rem i e) = fun ρ K => mustL ρ i fun _ => (rd Φ e).e ρ fun _ d ρ1 => mustL ρ1 i fun ds => memOk d ds = true ∧ must (PySem.SeqAt.dataPlace ds d) fun j => K.nx (ρ1.set i (.ow (.list (ds.eraseIdx j)))) := rfl
@[simp] theorem rdS_upd : rdS Φ (.upd i e) = fun ρ K => False := rfl
@[simp] theorem rdS_ex : rdS Φ (.ex e) = fun ρ K => (rd Φ e).e ρ fun _ _ ρ1 => K.nx ρ1 := rfl
@[simp] theorem rdS_ife {a b : Ss} : rdS Φ (.ife c a b) = fun ρ K => (rd Φ c).t ρ fun t ρ1 => if t = true then rdB Φ a ρ1 K else rdB Φ b ρ1 K := rfl
@[simp] theorem rdS_for {b : Ss} : rdS Φ (.for_ g it b) = fun ρ K => rdI Φ it ρ fun ls ds ρ1 => forW g (rdB Φ b) { nx := fun ρ' => K.nx (unlock ρ' ls), rt := fun fr d ρ' => K.rt fr d (unlock ρ' ls), bk := fun ρ' => K.nx (unlock ρ' ls) } ds ρ1 := rfl
@[simp] theorem rdS_wh {b : Ss} : rdS Φ (.wh c b) = fun ρ K => whW (rd Φ c).t (rdB Φ b) ρ K := rfl
@[simp] theorem rdS_ret : rdS Φ (.ret e) = fun ρ K => rdRet Φ e ρ K.rt := rfl
@[simp] theorem rdS_brk : rdS Φ (.brk) = fun ρ K => K.bk ρ := rfl
@[simp] theorem rdS_cnt : rdS Φ (.cnt) = fun ρ K => K.ct ρ := rfl
@[simp] theorem rdS_nop : rdS Φ (.nop) = fun ρ K => K.nx ρ := rfl
@[simp] theorem rdB_nil : rdB Φ .nil = fun ρ K => K.nx ρ := rfl
@[simp] theorem rdB_cons {s : S} {r : Ss} : rdB Φ (.cons s r) = fun ρ K => rdS Φ s ρ { K with nx := fun ρ1 => rdB Φ r ρ1 K } := rfl
end
end Z

/-! soundness: representation -/
namespace Z
open PySem PySem.Spec PyProof.Rows L2

abbrev Fz := Addr → Prop
/-- what a representation leans on -/
structure Kx where
  K : PySem.W.Frag
  P : Program
  w : World
abbrev _root_.L2.Cx.k (X : L2.Cx) : Kx := ⟨X.K, X.prog, X.w⟩
/-- a tuple whose object is known -/
def TupAt (H : Hp) (a : Addr) (xs : List V) : Prop := ∃ o : Obj, H a = some (.frz o (.tup xs)) ∧ o.dict = none
theorem TupAt.sq {K : PySem.W.Frag} {H : Hp} {a : Addr} {xs : List V} (h : TupAt H a xs) : SqT K H a xs := let ⟨o, e, _⟩ := h; .inl (.inr ⟨o, e⟩)
theorem TupAt.tr {H : Hp} {a : Addr} {xs : List V} (h : TupAt H a xs) : H a ≠ none := by obtain ⟨o, e, _⟩ := h; rw [e]; simp
theorem TupAt.at {H H' : Hp} {a : Addr} {xs : List V} (e : H' a = H a) (h : TupAt H a xs) : TupAt H' a xs := by unfold TupAt at h ⊢; rw [e]; exact h
/-! a dict whose keys are tuples, by its own object -/
abbrev NK := PySem.NestedKey
abbrev TDs := List (NK × Addr × Value)
def TDh (P : Program) (w : World) (a : Addr) (xs : TDs) (h : Heap) : Prop :=
  xs.length ≤ sizeLine ∧ (a == sysModules) = false ∧ ∃ o es ep, h.get? a = some o ∧ o.ExactDict ∧ o.data = .dict es ep ∧ es.toList = xs.map (entryOfKey (PySem.nestedKind P w)) ∧ (xs.map (·.1)).Nodup
def TD (G : Kx) (a : Addr) (xs : TDs) : HO := .ext (TDh G.P G.w a xs)
/-- there are entries, and their keys are keys -/
def DKeys (es : List (PyData × PyData)) : Prop := es ≠ [] ∧ ∀ p ∈ es, isKey p.1 = true
def keyV : Key → PyData
  | .inl i => .int i
  | .inr x => .str x
mutual
/-- the value v is the datum d; all its lists and dicts are frozen (in F) -/
inductive Rp (K : Kx) (F : Fz) (H : Hp) : V → PyData → Prop where
  | non : Rp K F H .non .none
  | bl (b : Bool) : Rp K F H (.bl b) (.bool b)
  | int (i : Int) : Rp K F H (.int i) (.int i)
  | str (x : Str) : Rp K F H (.str x) (.str x)
  | lst {a : Addr} {xs : List V} {ds : List PyData} : F a → H a = some (.lst xs) → RpAll K F H xs ds → Rp K F H (.ref a) (.list ds)
  | tup {a : Addr} {xs : List V} {ds : List PyData} : F a → TupAt H a xs → RpAll K F H xs ds → Rp K F H (.ref a) (.tuple ds)
  | dk {a : Addr} {kvs : List (Key × V)} {es : List (PyData × PyData)} : F a → Rd H a (.dK kvs) → kvs.map (fun p => keyV p.1) = es.map (·.1) → RpAll K F H (kvs.map (·.2)) (es.map (·.2)) → Rp K F H (.ref a) (.dict es)
  | dt {a : Addr} {xs : TDs} {es : List (PyData × PyData)} : F a → Rd H a (TD K a xs) → DKeys es → xs.map (fun x => some x.1) = es.map (fun e => nkOf e.1) → RpAll K F H (xs.map fun x => .ref x.2.1) (es.map (·.1)) → RpVs K F H (xs.map fun x => x.2.2) (es.map (·.2)) → Rp K F H (.ref a) (.dict es)
inductive RpAll (K : Kx) (F : Fz) (H : Hp) : List V → List PyData → Prop where
  | nil : RpAll K F H [] []
  | cons {v : V} {vs : List V} {d : PyData} {ds : List PyData} : Rp K F H v d → RpAll K F H vs ds → RpAll K F H (v :: vs) (d :: ds)
/-- values as they stand in an object -/
inductive RpVs (K : Kx) (F : Fz) (H : Hp) : List Value → List PyData → Prop where
  | nil : RpVs K F H [] []
  | cons {u : Value} {us : List Value} {v : V} {d : PyData} {ds : List PyData} : L2.RelV v u → Rp K F H v d → RpVs K F H us ds → RpVs K F H (u :: us) (d :: ds)
end
/-- what stands at a, a list or dict that is to be written -/
inductive Ob (K : Kx) (F : Fz) (H : Hp) (a : Addr) : PyData → Prop where
  | lst {xs : List V} {ds : List PyData} : H a = some (.lst xs) → RpAll K F H xs ds → Ob K F H a (.list ds)
  | dk {kvs : List (Key × V)} {es : List (PyData × PyData)} : H a = some (.dK kvs) → kvs.map (fun p => keyV p.1) = es.map (·.1) → RpAll K F H (kvs.map (·.2)) (es.map (·.2)) → Ob K F H a (.dict es)
  | dt {xs : TDs} {es : List (PyData × PyData)} : H a = some (TD K a xs) → DKeys es → xs.map (fun x => some x.1) = es.map (fun e => nkOf e.1) → RpAll K F H (xs.map fun x => .ref x.2.1) (es.map (·.1)) → RpVs K F H (xs.map fun x => x.2.2) (es.map (·.2)) → Ob K F H a (.dict es)
/-- what stands at a, a list or dict that is read -/
inductive Or (K : Kx) (F : Fz) (H : Hp) (a : Addr) : PyData → Prop where
  | lst {xs : List V} {ds : List PyData} : H a = some (.lst xs) → RpAll K F H xs ds → Or K F H a (.list ds)
  | dk {kvs : List (Key × V)} {es : List (PyData × PyData)} : Rd H a (.dK kvs) → kvs.map (fun p => keyV p.1) = es.map (·.1) → RpAll K F H (kvs.map (·.2)) (es.map (·.2)) → Or K F H a (.dict es)
  | dt {xs : TDs} {es : List (PyData × PyData)} : Rd H a (TD K a xs) → DKeys es → xs.map (fun x => some x.1) = es.map (fun e => nkOf e.1) → RpAll K F H (xs.map fun x => .ref x.2.1) (es.map (·.1)) → RpVs K F H (xs.map fun x => x.2.2) (es.map (·.2)) → Or K F H a (.dict es)
theorem Ob.or {K : Kx} {F : Fz} {H : Hp} {a : Addr} {d : PyData} (h : Ob K F H a d) : Or K F H a d := by
  cases h with
  | lst h r => exact .lst h r
  | dk h e r => exact .dk (.inl h) e r
  | dt h ne e r t => exact .dt (.inl h) ne e r t
theorem Or.rp {K : Kx} {F : Fz} {H : Hp} {a : Addr} {d : PyData} (h : Or K F H a d) (f : F a) : Rp K F H (.ref a) d := by
  cases h with
  | lst h r => exact .lst f h r
  | dk h e r => exact .dk f h e r
  | dt h ne e r t => exact .dt f h ne e r t
/-- an operand: a shared value, or what a name's own object holds -/
def Rv (K : Kx) (F : Fz) (H : Hp) (v : V) (d : PyData) : Prop := Rp K F H v d ∨ ∃ a, v = .ref a ∧ Or K F H a d

/-! ### moving on -/
/-- as it was; or a dict that is being walked -/
def Hq (o o' : Option HO) : Prop := o' = o ∨ ∃ od u, o = some u ∧ o' = some (.frz od u) ∧ ((∃ kvs, u = .dK kvs) ∨ ∃ h, u = .ext h)
theorem Hq.refl {o : Option HO} : Hq o o := .inl rfl
theorem Hq.trans {o o1 o2 : Option HO} (a : Hq o o1) (b : Hq o1 o2) : Hq o o2 := by
  rcases a with rfl | ⟨od, u, e1, e2, k⟩
  · exact b
  · rcases b with rfl | ⟨od', u', e3, _, k'⟩
    · exact .inr ⟨od, u, e1, e2, k⟩
    · rw [e2] at e3; cases e3
      rcases k' with ⟨_, z⟩ | ⟨_, z⟩ <;> cases z
theorem Hq.lst {o o' : Option HO} {xs : List V} (a : Hq o o') (h : o = some (.lst xs)) : o' = some (.lst xs) := by
  rcases a with rfl | ⟨od, u, e1, e2, k⟩
  · exact h
  · rw [h] at e1; cases e1
    rcases k with ⟨_, z⟩ | ⟨_, z⟩ <;> cases z
theorem Hq.frz {o o' : Option HO} {ob : Obj} {w : HO} (a : Hq o o') (h : o = some (.frz ob w)) : o' = some (.frz ob w) := by
  rcases a with rfl | ⟨od, u, e1, e2, k⟩
  · exact h
  · rw [h] at e1; cases e1
    rcases k with ⟨_, z⟩ | ⟨_, z⟩ <;> cases z
theorem Hq.tr {o o' : Option HO} (a : Hq o o') (h : o ≠ none) : o' ≠ none := by
  rcases a with rfl | ⟨od, u, e1, e2, k⟩
  · exact h
  · rw [e2]; simp
theorem Hq.rd {H H' : Hp} {a : Addr} {u : HO} (q : Hq (H a) (H' a)) (h : Rd H a u) : Rd H' a u := by
  rcases h with h | ⟨o, h⟩
  · rcases q with e | ⟨od, u', e1, e2, k⟩
    · exact .inl (e.trans h)
    · rw [h] at e1; cases e1
      exact .inr ⟨od, e2⟩
  · exact .inr ⟨o, q.frz h⟩
theorem TupAt.hq {H H' : Hp} {a : Addr} {xs : List V} (q : Hq (H a) (H' a)) (h : TupAt H a xs) : TupAt H' a xs := let ⟨o, e, d⟩ := h; ⟨o, q.frz e, d⟩
/-- more is frozen, and what is frozen stands -/
structure Gr (F : Fz) (H : Hp) (F' : Fz) (H' : Hp) : Prop where
  sub : ∀ a, F a → F' a
  eq : ∀ a, F a → Hq (H a) (H' a)
theorem Gr.refl {F : Fz} {H : Hp} : Gr F H F H := ⟨fun _ h => h, fun _ _ => .refl⟩
theorem Gr.trans {F F1 F2 : Fz} {H H1 H2 : Hp} (a : Gr F H F1 H1) (b : Gr F1 H1 F2 H2) : Gr F H F2 H2 :=
  ⟨fun x h => b.sub x (a.sub x h), fun x h => (a.eq x h).trans (b.eq x (a.sub x h))⟩
theorem rd_eq {H H' : Hp} {a : Addr} {u : HO} (e : H' a = H a) (h : Rd H a u) : Rd H' a u := by unfold Rd at h ⊢; rw [e]; exact h
theorem Gr.rd {F F' : Fz} {H H' : Hp} (g : Gr F H F' H') (a : Addr) (u : HO) (f : F a) (h : Rd H a u) : Rd H' a u := (g.eq a f).rd h
mutual
theorem Rp.gr {K : Kx} {F F' : Fz} {H H' : Hp} (g : Gr F H F' H') : ∀ {v : V} {d : PyData}, Rp K F H v d → Rp K F' H' v d
  | _, _, .non => .non
  | _, _, .bl b => .bl b
  | _, _, .int i => .int i
  | _, _, .str x => .str x
  | _, _, .lst f r t => .lst (g.sub _ f) ((g.eq _ f).lst r) (RpAll.gr g t)
  | _, _, .tup f r t => .tup (g.sub _ f) (r.hq (g.eq _ f)) (RpAll.gr g t)
  | _, _, .dk f r e t => .dk (g.sub _ f) (g.rd _ _ f r) e (RpAll.gr g t)
  | _, _, .dt f r ne e t v => .dt (g.sub _ f) (g.rd _ _ f r) ne e (RpAll.gr g t) (RpVs.gr g v)
theorem RpAll.gr {K : Kx} {F F' : Fz} {H H' : Hp} (g : Gr F H F' H') : ∀ {vs : List V} {ds : List PyData}, RpAll K F H vs ds → RpAll K F' H' vs ds
  | _, _, .nil => .nil
  | _, _, .cons r t => .cons (Rp.gr g r) (RpAll.gr g t)
theorem RpVs.gr {K : Kx} {F F' : Fz} {H H' : Hp} (g : Gr F H F' H') : ∀ {vs : List Value} {ds : List PyData}, RpVs K F H vs ds → RpVs K F' H' vs ds
  | _, _, .nil => .nil
  | _, _, .cons e r t => .cons e (Rp.gr g r) (RpVs.gr g t)
end
theorem Ob.gr {K : Kx} {F F' : Fz} {H H' : Hp} {a : Addr} {d : PyData} (g : Gr F H F' H') (e : H' a = H a) (h : Ob K F H a d) : Ob K F' H' a d := by
  cases h with
  | lst h r => exact .lst (e.trans h) (r.gr g)
  | dk h q r => exact .dk (e.trans h) q (r.gr g)
  | dt h ne q r t => exact .dt (e.trans h) ne q (r.gr g) (t.gr g)
theorem Or.gr {K : Kx} {F F' : Fz} {H H' : Hp} {a : Addr} {d : PyData} (g : Gr F H F' H') (e : H' a = H a) (h : Or K F H a d) : Or K F' H' a d := by
  have er : ∀ u, Rd H a u → Rd H' a u := fun u h => rd_eq e h
  cases h with
  | lst h r => exact .lst (e.trans h) (r.gr g)
  | dk h q r => exact .dk (er _ h) q (r.gr g)
  | dt h ne q r t => exact .dt (er _ h) ne q (r.gr g) (t.gr g)

/-! lists of representations -/
section
variable {K : Kx} {F : Fz} {H : Hp}
theorem RpAll.length : ∀ {vs : List V} {ds : List PyData}, RpAll K F H vs ds → vs.length = ds.length
  | _, _, .nil => rfl
  | _, _, .cons _ t => by rw [List.length_cons, List.length_cons, t.length]
theorem RpAll.append : ∀ {vs ws : List V} {ds es : List PyData}, RpAll K F H vs ds → RpAll K F H ws es → RpAll K F H (vs ++ ws) (ds ++ es)
  | _, _, _, _, .nil, q => q
  | _, _, _, _, .cons r t, q => .cons r (t.append q)
theorem RpAll.get : ∀ {vs : List V} {ds : List PyData} {i : Nat} {v : V}, RpAll K F H vs ds → vs[i]? = some v → ∃ d, ds[i]? = some d ∧ Rp K F H v d
  | _, _, _, _, .nil, e => by simp at e
  | _, _, 0, _, .cons r _, e => by simp at e; subst e; exact ⟨_, rfl, r⟩
  | _, _, i + 1, _, .cons _ t, e => by
    obtain ⟨d, h1, h2⟩ := RpAll.get (i := i) t (by simpa using e)
    exact ⟨d, by simpa using h1, h2⟩
theorem RpAll.get' : ∀ {vs : List V} {ds : List PyData} {i : Nat} {d : PyData}, RpAll K F H vs ds → ds[i]? = some d → ∃ v, vs[i]? = some v ∧ Rp K F H v d
  | _, _, _, _, .nil, e => by simp at e
  | _, _, 0, _, .cons r _, e => by simp at e; subst e; exact ⟨_, rfl, r⟩
  | _, _, i + 1, _, .cons _ t, e => by
    obtain ⟨v, h1, h2⟩ := RpAll.get' (i := i) t (by simpa using e)
    exact ⟨v, by simpa using h1, h2⟩
theorem RpAll.take : ∀ {vs : List V} {ds : List PyData} (n : Nat), RpAll K F H vs ds → RpAll K F H (vs.take n) (ds.take n)
  | _, _, 0, _ => .nil
  | _, _, _ + 1, .nil => .nil
  | _, _, n + 1, .cons r t => .cons r (t.take n)
theorem RpAll.drop : ∀ {vs : List V} {ds : List PyData} (n : Nat), RpAll K F H vs ds → RpAll K F H (vs.drop n) (ds.drop n)
  | _, _, 0, r => r
  | _, _, _ + 1, .nil => .nil
  | _, _, n + 1, .cons _ t => t.drop n
theorem RpAll.set : ∀ {vs : List V} {ds : List PyData} {v : V} {d : PyData} (n : Nat), RpAll K F H vs ds → Rp K F H v d → RpAll K F H (vs.set n v) (ds.set n d)
  | _, _, _, _, _, .nil, _ => .nil
  | _, _, _, _, 0, .cons _ t, q => .cons q t
  | _, _, _, _, n + 1, .cons r t, q => .cons r (t.set n q)
theorem RpAll.eraseIdx : ∀ {vs : List V} {ds : List PyData} (n : Nat), RpAll K F H vs ds → RpAll K F H (vs.eraseIdx n) (ds.eraseIdx n)
  | _, _, _, .nil => .nil
  | _, _, 0, .cons _ t => t
  | _, _, n + 1, .cons r t => .cons r (t.eraseIdx n)
theorem RpAll.reverse : ∀ {vs : List V} {ds : List PyData}, RpAll K F H vs ds → RpAll K F H vs.reverse ds.reverse
  | _, _, .nil => .nil
  | _, _, .cons r t => by rw [List.reverse_cons, List.reverse_cons]; exact t.reverse.append (.cons r .nil)
theorem RpAll.rep {vs : List V} {ds : List PyData} (h : RpAll K F H vs ds) : ∀ k : Nat, RpAll K F H (List.replicate k vs).flatten (List.replicate k ds).flatten
  | 0 => .nil
  | k + 1 => by
    rw [List.replicate_succ, List.replicate_succ, List.flatten_cons, List.flatten_cons]
    exact h.append (h.rep k)
theorem RpAll.dropLast {vs : List V} {ds : List PyData} (h : RpAll K F H vs ds) : RpAll K F H vs.dropLast ds.dropLast := by
  rw [List.dropLast_eq_take, List.dropLast_eq_take, ← h.length]
  exact h.take _
theorem RpAll.ints : ∀ ns : List Int, RpAll K F H (ns.map V.int) (ns.map PyData.int)
  | [] => .nil
  | n :: r => .cons (.int n) (RpAll.ints r)
/-- data that are ints -/
theorem ints_of : ∀ {vs : List V} {ds : List PyData} {ns : List Int}, RpAll K F H vs ds → intsOf ds = some ns → vs = ns.map V.int
  | _, _, ns, .nil, e => by simp [intsOf] at e; subst e; rfl
  | _, _, ns, .cons (d := d) r t, e => by
    cases r with
    | int i =>
      simp only [intsOf, Option.map_eq_some_iff] at e
      obtain ⟨q, e1, rfl⟩ := e
      rw [List.map_cons, ints_of t e1]
    | _ => exact absurd e (by simp [intsOf])
theorem bools_of : ∀ {vs : List V} {ds : List PyData} {ns : List Bool}, RpAll K F H vs ds → boolsOf ds = some ns → vs = ns.map V.bl
  | _, _, ns, .nil, e => by simp [boolsOf] at e; subst e; rfl
  | _, _, ns, .cons (d := d) r t, e => by
    cases r with
    | bl i =>
      simp only [boolsOf, Option.map_eq_some_iff] at e
      obtain ⟨q, e1, rfl⟩ := e
      rw [List.map_cons, bools_of t e1]
    | _ => exact absurd e (by simp [boolsOf])
end

/-! to the layer's own data -/
mutual
theorem Rp.dp {K : Kx} {F : Fz} {H : Hp} : ∀ {v : V} {d : PyData}, Rp K F H v d → d.plain = true → Dp K.K H v d
  | _, _, .non, _ => .non
  | _, _, .bl b, _ => .bl b
  | _, _, .int i, _ => .int i
  | _, _, .str x, _ => .str x
  | _, _, .lst f r t, p => .lst (.inl (.inl r)) (RpAll.dp t (by simpa [PyData.plain] using p))
  | _, _, .tup f r t, p => .tup r.sq (RpAll.dp t (by simpa [PyData.plain] using p))
  | _, _, .dk f r e t, p => by simp [PyData.plain] at p
  | _, _, .dt f r ne e t v, p => by simp [PyData.plain] at p
theorem RpAll.dp {K : Kx} {F : Fz} {H : Hp} : ∀ {vs : List V} {ds : List PyData}, RpAll K F H vs ds → PyData.plainAll ds = true → DpAll K.K H vs ds
  | _, _, .nil, _ => .nil
  | _, _, .cons r t, p => by
    simp only [PyData.plainAll, Bool.and_eq_true] at p
    exact .cons (Rp.dp r p.1) (RpAll.dp t p.2)
end
theorem Rv.dp {K : Kx} {F : Fz} {H : Hp} {v : V} {d : PyData} (h : Rv K F H v d) (p : d.plain = true) : Dp K.K H v d := by
  rcases h with h | ⟨a, rfl, h⟩
  · exact h.dp p
  · cases h with
    | lst h r => exact .lst (.inl (.inl h)) (r.dp (by simpa [PyData.plain] using p))
    | dk => simp [PyData.plain] at p
    | dt => simp [PyData.plain] at p
end Z

/-! soundness: states and steps -/
namespace Z
open PySem PySem.Spec PyProof.Rows L2

/-- a list of draws as _law_draw makes it -/
def drawD (ns : List Int) (i b c : Int) : PyData := .list [.list (ns.map .int), .int i, .int b, .int c]
def ValidD (d : PyData) : Prop := ∃ (ns : List Int) (i b c : Int), d = drawD ns i b c ∧ ns.length ≤ 63 ∧ 0 ≤ i ∧ 0 ≤ b ∧ 0 ≤ c ∧ c < 2147483647
/-- a name's slot -/
def SlR (K : Kx) (F : Fz) (H : Hp) (o : Option (Option V)) : Sl → Prop
  | .no => True
  | .sh d => ∃ v, o = some (some v) ∧ Rp K F H v d
  | .ow d => ∃ a, o = some (some (.ref a)) ∧ ¬ F a ∧ Ob K F H a d
  | .lk d => ∃ a, o = some (some (.ref a)) ∧ ¬ F a ∧ H a ≠ none ∧ Or K F H a d
  | .dr => ∃ a d, o = some (some (.ref a)) ∧ ¬ F a ∧ Ob K F H a d ∧ ValidD d
  | .dw d => ∃ a, o = some (some (.ref a)) ∧ ¬ F a ∧ Ob K F H a d
def Sl.own : Sl → Bool
  | .ow _ => true
  | .lk _ => true
  | .dr => true
  | .dw _ => true
  | _ => false
def Sl.mut : Sl → Bool
  | .ow _ => true
  | .dr => true
  | .dw _ => true
  | _ => false
/-- stays as it is while the text runs on -/
def Sl.pin : Sl → Bool
  | .lk _ => true
  | .dr => true
  | .dw _ => true
  | _ => false
def Like (a b : Sl) : Prop := a = b ∨ ∃ d d', a = .dw d ∧ b = .dw d'
theorem Like.pin {a b : Sl} (h : Like a b) (p : b.pin = true) : a.pin = true := by
  rcases h with rfl | ⟨d, d', rfl, rfl⟩
  · exact p
  · rfl
theorem Like.own {a b : Sl} (h : Like a b) (p : b.own = true) : a.own = true := by
  rcases h with rfl | ⟨d, d', rfl, rfl⟩
  · exact p
  · rfl
theorem Like.trans {a b c : Sl} (h : Like a b) (k : Like b c) : Like a c := by
  rcases h with rfl | ⟨d, d', rfl, rfl⟩
  · exact k
  · rcases k with rfl | ⟨e, e', e1, rfl⟩
    · exact .inr ⟨d, d', rfl, rfl⟩
    · exact .inr ⟨d, e', rfl, rfl⟩
theorem Like.of_lk {d : PyData} {s : Sl} (h : Like (.lk d) s) : s = .lk d := by
  rcases h with h | ⟨_, _, h, _⟩
  · exact h.symm
  · cases h
theorem Sl.mut_own {s : Sl} (h : s.mut = true) : s.own = true := by cases s <;> simp_all [Sl.mut, Sl.own]
structure Sg (K : Kx) (F : Fz) (H : Hp) (σ : L2.St) (ρ : Env) : Prop where
  len : ρ.length = σ.length
  sl : ∀ (i : Nat) (s : Sl), ρ[i]? = some s → SlR K F H σ[i]? s
  inj : ∀ (i j : Nat) (a : Addr) (s s' : Sl), ρ[i]? = some s → ρ[j]? = some s' → s.own = true → s'.own = true → σ[i]? = some (some (.ref a)) → σ[j]? = some (some (.ref a)) → i = j
  tr : ∀ a, F a → H a ≠ none
/-- a name's own object that may be written -/
def Mu (σ : L2.St) (ρ : Env) (a : Addr) : Prop := ∃ (i : Nat) (s : Sl), ρ[i]? = some s ∧ s.mut = true ∧ σ[i]? = some (some (.ref a))
def Ow (σ : L2.St) (ρ : Env) (a : Addr) : Prop := ∃ (i : Nat) (s : Sl), ρ[i]? = some s ∧ s.own = true ∧ σ[i]? = some (some (.ref a))
theorem Mu.ow {σ : L2.St} {ρ : Env} {a : Addr} (h : Mu σ ρ a) : Ow σ ρ a := let ⟨i, s, h1, h2, h3⟩ := h; ⟨i, s, h1, Sl.mut_own h2, h3⟩
structure Stp (F : Fz) (H : Hp) (σ : L2.St) (ρ : Env) (F' : Fz) (H' : Hp) (σ' : L2.St) (ρ' : Env) : Prop where
  sub : ∀ a, F a → F' a
  new : ∀ a, F' a → F a ∨ H a = none ∨ Mu σ ρ a
  keep : ∀ a, H a ≠ none → ¬ Mu σ ρ a → H' a = H a ∨ (F' a ∧ Hq (H a) (H' a))
  tr : ∀ a, H a ≠ none → H' a ≠ none
  own : ∀ a, Mu σ' ρ' a → Mu σ ρ a ∨ H a = none
  lk : ∀ (i : Nat) (s : Sl), ρ'[i]? = some s → s.pin = true → (∃ s0, ρ[i]? = some s0 ∧ Like s0 s) ∧ σ'[i]? = σ[i]?
section
variable {K : Kx} {F F1 F2 F' : Fz} {H H1 H2 H' : Hp} {σ σ1 σ2 σ' : L2.St} {ρ ρ1 ρ2 ρ' : Env}
theorem Stp.refl : Stp F H σ ρ F H σ ρ := ⟨fun _ h => h, fun _ h => .inl h, fun _ _ _ => .inl rfl, fun _ h => h, fun _ h => .inl h, fun _ _ h _ => ⟨⟨_, h, .inl rfl⟩, rfl⟩⟩
theorem keep_trans {F1 F2 : Fz} {H H1 H2 : Hp} {x : Addr} (e1 : H1 x = H x ∨ (F1 x ∧ Hq (H x) (H1 x))) (e2 : H2 x = H1 x ∨ (F2 x ∧ Hq (H1 x) (H2 x))) (s : ∀ a, F1 a → F2 a) : H2 x = H x ∨ (F2 x ∧ Hq (H x) (H2 x)) := by
  rcases e1 with e1 | ⟨f1, e1⟩
  · rcases e2 with e2 | ⟨f2, e2⟩
    · exact .inl (e2.trans e1)
    · exact .inr ⟨f2, by rw [← e1]; exact e2⟩
  · rcases e2 with e2 | ⟨f2, e2⟩
    · exact .inr ⟨s x f1, by rw [e2]; exact e1⟩
    · exact .inr ⟨f2, e1.trans e2⟩
theorem keep_hq {F' : Fz} {H H' : Hp} {x : Addr} (e : H' x = H x ∨ (F' x ∧ Hq (H x) (H' x))) : Hq (H x) (H' x) := e.elim .inl fun h => h.2
theorem keep_eq {F' : Fz} {H H' : Hp} {x : Addr} (e : H' x = H x ∨ (F' x ∧ Hq (H x) (H' x))) (n : ¬ F' x) : H' x = H x := e.resolve_right fun h => n h.1
theorem Stp.trans (a : Stp F H σ ρ F1 H1 σ1 ρ1) (b : Stp F1 H1 σ1 ρ1 F2 H2 σ2 ρ2) : Stp F H σ ρ F2 H2 σ2 ρ2 where
  sub := fun x h => b.sub x (a.sub x h)
  new := fun x h => by
    have back : H1 x = none → H x = none := fun h1 => by
      cases q : H x with
      | none => rfl
      | some o => exact absurd h1 (a.tr x (by rw [q]; simp))
    rcases b.new x h with h | h | h
    · exact a.new x h
    · exact .inr (.inl (back h))
    · rcases a.own x h with h | h
      · exact .inr (.inr h)
      · exact .inr (.inl h)
  keep := fun x h m => by
    have e1 := a.keep x h m
    have h1 : H1 x ≠ none := a.tr x h
    have e2 := b.keep x h1 fun z => by
      rcases a.own x z with z | z
      · exact m z
      · exact h z
    exact keep_trans e1 e2 b.sub
  tr := fun x h => b.tr x (a.tr x h)
  own := fun x h => by
    rcases b.own x h with h | h
    · exact a.own x h
    · refine .inr ?_
      cases q : H x with
      | none => rfl
      | some o => exact absurd h (a.tr x (by rw [q]; simp))
  lk := fun i d h p => by
    obtain ⟨⟨s1, h1, k1⟩, e1⟩ := b.lk i d h p
    obtain ⟨⟨s0, h0, k0⟩, e2⟩ := a.lk i s1 h1 (k1.pin p)
    have h2 := (⟨s0, h0, k0.trans k1⟩ : ∃ s0, ρ[i]? = some s0 ∧ Like s0 d)
    exact ⟨h2, e1.trans e2⟩
theorem Sg.nF (g : Sg K F H σ ρ) {a : Addr} (h : Ow σ ρ a) : ¬ F a := by
  obtain ⟨i, s, h1, h2, h3⟩ := h
  have q := g.sl i s h1
  cases s with
  | no => cases h2
  | sh d => cases h2
  | dw d =>
    obtain ⟨b, e, n, _⟩ := q
    rw [h3] at e; cases e; exact n
  | ow d =>
    obtain ⟨b, e, n, _⟩ := q
    rw [h3] at e; cases e; exact n
  | lk d =>
    obtain ⟨b, e, n, _⟩ := q
    rw [h3] at e; cases e; exact n
  | dr =>
    obtain ⟨b, d, e, n, _⟩ := q
    rw [h3] at e; cases e; exact n
theorem Ob.tr {a : Addr} {d : PyData} (h : Ob K F H a d) : H a ≠ none := by
  cases h with
  | lst h _ => rw [h]; simp
  | dk h _ _ => rw [h]; simp
  | dt h _ _ _ _ => rw [h]; simp
theorem Sg.ntr (g : Sg K F H σ ρ) {a : Addr} (h : Ow σ ρ a) : H a ≠ none := by
  obtain ⟨i, s, h1, h2, h3⟩ := h
  have q := g.sl i s h1
  cases s with
  | no => cases h2
  | sh d => cases h2
  | dw d =>
    obtain ⟨b, e, n, o⟩ := q
    rw [h3] at e; cases e; exact o.tr
  | ow d =>
    obtain ⟨b, e, n, o⟩ := q
    rw [h3] at e; cases e; exact o.tr
  | lk d =>
    obtain ⟨b, e, n, t, _⟩ := q
    rw [h3] at e; cases e; exact t
  | dr =>
    obtain ⟨b, d, e, n, o, _⟩ := q
    rw [h3] at e; cases e; exact o.tr
/-- what was frozen stands -/
theorem Stp.gr (s : Stp F H σ ρ F' H' σ' ρ') (g : Sg K F H σ ρ) : Gr F H F' H' :=
  ⟨s.sub, fun a f => keep_hq (s.keep a (g.tr a f) fun m => g.nF m.ow f)⟩
/-- an operand that was found -/
def OpdOk (K : Kx) (F : Fz) (H : Hp) (σ : L2.St) (v : V) : Opd → Prop
  | .val d => Rp K F H v d
  | .slot i => σ[i]? = some (some v)
theorem OpdOk.gr {v : V} {o : Opd} (g : Gr F H F' H') (h : OpdOk K F H σ v o) : OpdOk K F' H' σ v o := by
  cases o with
  | val d => exact Rp.gr g h
  | slot i => exact h
theorem OpdOk.rv {v : V} {o : Opd} {d : PyData} (g : Sg K F H σ ρ) (h : OpdOk K F H σ v o) (e : res ρ o = some d) : Rv K F H v d := by
  cases o with
  | val d' =>
    have e' : d' = d := Option.some.inj e
    subst e'
    exact .inl h
  | slot i =>
    have h : σ[i]? = some (some v) := h
    cases q : ρ[i]? with
    | none => rw [res, q] at e; cases e
    | some s =>
      rw [res, q] at e
      have e : s.dat = some d := e
      have r := g.sl i s q
      cases s with
      | no => cases e
      | dr => cases e
      | dw d => cases e
      | sh d' =>
        obtain ⟨v', e1, r⟩ := r
        rw [h] at e1; cases e1
        have e' : d' = d := Option.some.inj e
        subst e'
        exact .inl r
      | ow d' =>
        obtain ⟨a, e1, n, r⟩ := r
        rw [h] at e1; cases e1
        have e' : d' = d := Option.some.inj e
        subst e'
        exact .inr ⟨a, rfl, r.or⟩
      | lk d' =>
        obtain ⟨a, e1, n, t, r⟩ := r
        rw [h] at e1; cases e1
        have e' : d' = d := Option.some.inj e
        subst e'
        exact .inr ⟨a, rfl, r⟩
/-- the value that an expression hands on: new, nobody's own yet; or shared. H0: the heap at the beginning -/
def Vr (K : Kx) (H0 : Hp) (F : Fz) (H : Hp) (σ : L2.St) (ρ : Env) (fr : Bool) (v : V) (d : PyData) : Prop :=
  if (fr && isMut d) = true then ∃ a, v = .ref a ∧ ¬ F a ∧ Ob K F H a d ∧ H0 a = none ∧ ¬ Ow σ ρ a else Rp K F H v d
theorem Vr.of {H0 : Hp} {v : V} {d : PyData} {fr : Bool} (h : Rp K F H v d) (e : fr = false) : Vr K H0 F H σ ρ fr v d := by
  subst e; exact h
theorem Vr.back {Ha Hb : Hp} {v : V} {d : PyData} {fr : Bool} (t : ∀ a, Ha a ≠ none → Hb a ≠ none) (h : Vr K Hb F H σ ρ fr v d) : Vr K Ha F H σ ρ fr v d := by
  unfold Vr at h ⊢
  split
  · rename_i c
    rw [if_pos c] at h
    obtain ⟨a, e, n, o, z, w⟩ := h
    refine ⟨a, e, n, o, ?_, w⟩
    cases q : Ha a with
    | none => rfl
    | some u => exact absurd z (t a (by rw [q]; simp))
  · rename_i c
    rw [if_neg c] at h
    exact h
/-- the environment relation where more is frozen -/
theorem SlR.gr {o : Option (Option V)} {s : Sl} (g : Gr F H F' H') (n : ∀ a, s.own = true → o = some (some (.ref a)) → ¬ F' a ∧ H' a = H a) (h : SlR K F H o s) : SlR K F' H' o s := by
  cases s with
  | no => exact h
  | sh d => obtain ⟨v, e, r⟩ := h; exact ⟨v, e, r.gr g⟩
  | ow d =>
    obtain ⟨a, e, m, r⟩ := h
    obtain ⟨n1, n2⟩ := n a rfl e
    exact ⟨a, e, n1, r.gr g n2⟩
  | lk d =>
    obtain ⟨a, e, m, t, r⟩ := h
    obtain ⟨n1, n2⟩ := n a rfl e
    exact ⟨a, e, n1, by rw [n2]; exact t, r.gr g n2⟩
  | dr =>
    obtain ⟨a, d, e, m, r, w⟩ := h
    obtain ⟨n1, n2⟩ := n a rfl e
    exact ⟨a, d, e, n1, r.gr g n2, w⟩
  | dw d =>
    obtain ⟨a, e, m, r⟩ := h
    obtain ⟨n1, n2⟩ := n a rfl e
    exact ⟨a, e, n1, r.gr g n2⟩
/-- a step that only lays new objects and freezes what is nobody's -/
structure Lay (F : Fz) (H : Hp) (F' : Fz) (H' : Hp) : Prop where
  sub : ∀ a, F a → F' a
  new : ∀ a, F' a → F a ∨ H a = none
  keep : ∀ a, H a ≠ none → H' a = H a ∨ (F' a ∧ Hq (H a) (H' a))
  tr : ∀ a, F' a → H' a ≠ none
theorem Lay.refl (t : ∀ a, F a → H a ≠ none) : Lay F H F H := ⟨fun _ h => h, fun _ h => .inl h, fun _ _ => .inl rfl, t⟩
theorem Lay.trans (a : Lay F H F1 H1) (b : Lay F1 H1 F2 H2) : Lay F H F2 H2 := by
  have t : ∀ x, H x ≠ none → H1 x ≠ none := fun x h => (keep_hq (a.keep x h)).tr h
  refine ⟨fun x h => b.sub x (a.sub x h), fun x h => ?_, fun x h => keep_trans (a.keep x h) (b.keep x (t x h)) b.sub, b.tr⟩
  rcases b.new x h with h | h
  · exact a.new x h
  · refine .inr ?_
    cases q : H x with
    | none => rfl
    | some o => exact absurd h (t x (by rw [q]; simp))
theorem Lay.gr (l : Lay F H F' H') (t : ∀ a, F a → H a ≠ none) : Gr F H F' H' := ⟨l.sub, fun a f => keep_hq (l.keep a (t a f))⟩
theorem Lay.sg (l : Lay F H F' H') (g : Sg K F H σ ρ) : Sg K F' H' σ ρ := by
  refine ⟨g.len, fun i s h => (g.sl i s h).gr (l.gr g.tr) fun a o e => ?_, g.inj, l.tr⟩
  have ow : Ow σ ρ a := ⟨i, s, h, o, e⟩
  have nf : ¬ F' a := fun f => by
    rcases l.new a f with f | f
    · exact g.nF ow f
    · exact g.ntr ow f
  exact ⟨nf, keep_eq (l.keep a (g.ntr ow)) nf⟩
theorem Lay.stp (l : Lay F H F' H') : Stp F H σ ρ F' H' σ ρ :=
  ⟨l.sub, fun a h => (l.new a h).elim .inl fun h => .inr (.inl h), fun a h _ => l.keep a h, fun a h => (keep_hq (l.keep a h)).tr h, fun _ h => .inl h, fun _ _ h _ => ⟨⟨_, h, .inl rfl⟩, rfl⟩⟩
/-- freezing one object more -/
def frz1 (F : Fz) (a : Addr) : Fz := fun b => F b ∨ b = a
theorem Vr.freeze {H0 : Hp} {v : V} {d : PyData} {fr : Bool} {Fs : Fz} {σs : L2.St} {ρs : Env} (g : Sg K F H σ ρ) (s : Stp Fs H0 σs ρs F H σ ρ) (h : Vr K H0 F H σ ρ fr v d) :
    ∃ F2, Sg K F2 H σ ρ ∧ Stp Fs H0 σs ρs F2 H σ ρ ∧ Rp K F2 H v d ∧ Gr F H F2 H := by
  unfold Vr at h
  split at h
  · obtain ⟨a, e, n, o, z, w⟩ := h
    have gr : Gr F H (frz1 F a) H := ⟨fun _ f => .inl f, fun _ _ => .refl⟩
    refine ⟨frz1 F a, ⟨g.len, fun i s' hi => (g.sl i s' hi).gr gr fun b ob eb => ⟨fun f => ?_, rfl⟩, g.inj, fun b f => ?_⟩, ⟨fun b f => .inl (s.sub b f), fun b f => ?_, fun b h m => (s.keep b h m).imp id fun z => ⟨.inl z.1, z.2⟩, s.tr, s.own, s.lk⟩, ?_, gr⟩
    · have ow : Ow σ ρ b := ⟨i, s', hi, ob, eb⟩
      rcases f with f | f
      · exact g.nF ow f
      · exact w (f ▸ ow)
    · rcases f with f | f
      · exact g.tr b f
      · rw [f]; exact o.tr
    · rcases f with f | f
      · exact s.new b f
      · exact .inr (.inl (by rw [f]; exact z))
    · rw [e]
      have o' : Or K (frz1 F a) H a d := (o.or).gr gr rfl
      exact o'.rp (.inr rfl)
  · exact ⟨F, g, s, h, Gr.refl⟩
end

/-! ### readings at the layer -/
section
variable {X : Cx}
theorem _root_.L2.PE.imp {e : Expr} {t t' : TE} (h : PE X e t) (w : ∀ σ H Q, t' σ H Q → t σ H Q) : PE X e t' := ⟨fun pins s σ H Q I q => h.run pins s σ H Q I (w σ H Q q)⟩
theorem _root_.L2.PT.imp {e : Expr} {t t' : TT} (h : PT X e t) (w : ∀ σ H Q, t' σ H Q → t σ H Q) : PT X e t' := ⟨fun pins s σ H Q I q => h.run pins s σ H Q I (w σ H Q q)⟩
theorem _root_.L2.PA.imp {e : List Expr} {t t' : TA} (h : PA X e t) (w : ∀ σ H Q, t' σ H Q → t σ H Q) : PA X e t' := ⟨fun pos pins s σ H Q I q => h.run pos pins s σ H Q I (w σ H Q q)⟩
theorem _root_.L2.PS.imp {e : Stmt} {t t' : TS} (h : PS X e t) (w : ∀ D σ H, t' D σ H → t D σ H) : PS X e t' := ⟨fun pins s σ H D I q => h.run pins s σ H D I (w D σ H q)⟩
theorem _root_.L2.PSs.imp {e : List Stmt} {t t' : TS} (h : PSs X e t) (w : ∀ D σ H, t' D σ H → t D σ H) : PSs X e t' := ⟨fun pins s σ H D I q => h.run pins s σ H D I (w D σ H q)⟩
theorem _root_.L2.PG.imp {e : Expr} {t t' : TG} (h : PG X e t) (w : ∀ v σ H Q, t' v σ H Q → t v σ H Q) : PG X e t' := ⟨fun pins s σ H v u Q I r q => h.run pins s σ H v u Q I r (w v σ H Q q)⟩
theorem _root_.L2.PI.imp {tg e : Expr} {t t' : TI} (h : PI X tg e t) (w : ∀ σ H R, t' σ H R → t σ H R) : PI X tg e t' := ⟨fun pins s σ H R I q => h.run pins s σ H R I (w σ H R q)⟩
end
/-- behind a reading: what is wanted -/
def tE (K : Kx) (r : RE) : TE := fun σ H Q' => ∃ (F : Fz) (ρ : Env) (Q : QE), Sg K F H σ ρ ∧ r ρ Q ∧
  ∀ fr v d F' H' ρ', Sg K F' H' σ ρ' → Stp F H σ ρ F' H' σ ρ' → Vr K H F' H' σ ρ' fr v d → Q fr d ρ' → Q' v H'
def tO (K : Kx) (e : E) (r : RE) : TE := fun σ H Q' => ∃ (F : Fz) (ρ : Env) (Kp : Opd → Env → Prop), Sg K F H σ ρ ∧ opd e r ρ Kp ∧
  ∀ v o F' H' ρ', Sg K F' H' σ ρ' → Stp F H σ ρ F' H' σ ρ' → OpdOk K F' H' σ v o → Kp o ρ' → Q' v H'
def tT (K : Kx) (r : RT) : TT := fun σ H Q' => ∃ (F : Fz) (ρ : Env) (Q : Bool → Env → Prop), Sg K F H σ ρ ∧ r ρ Q ∧
  ∀ b F' H' ρ', Sg K F' H' σ ρ' → Stp F H σ ρ F' H' σ ρ' → Q b ρ' → Q' b H'
/-- several values -/
def tEs (K : Kx) (r : Env → (List PyData → Env → Prop) → Prop) : TA := fun σ H Q' => ∃ (F : Fz) (ρ : Env) (Q : List PyData → Env → Prop), Sg K F H σ ρ ∧ r ρ Q ∧
  ∀ vs ds F' H' ρ', Sg K F' H' σ ρ' → Stp F H σ ρ F' H' σ ρ' → RpAll K F' H' vs ds → Q ds ρ' → Q' vs H'
end Z

/-! soundness: expressions over the readings -/
namespace Z
open PySem PySem.Spec PyProof.Rows L2

theorem must_iff {α : Type} {o : Option α} {Q : α → Prop} : must o Q ↔ ∃ a, o = some a ∧ Q a := Iff.rfl
theorem must_get {α : Type} {o : Option α} {a : α} {Q : α → Prop} (h : must o Q) (e : o = some a) : Q a := by
  obtain ⟨b, e', h⟩ := h
  cases e.symm.trans e'
  exact h
theorem must_some {α : Type} (a : α) (Q : α → Prop) : must (some a) Q = Q a := propext ⟨fun ⟨_, e, h⟩ => by cases e; exact h, fun h => ⟨a, rfl, h⟩⟩
/-- what a rule of values hands on -/
def Vn (K : Kx) (H : Hp) (F' : Fz) (H' : Hp) (fr : Bool) (v : V) (d : PyData) : Prop :=
  if (fr && isMut d) = true then ∃ a, v = .ref a ∧ ¬ F' a ∧ Ob K F' H' a d ∧ H a = none else Rp K F' H' v d
def Res (K : Kx) (F : Fz) (H : Hp) (fr : Bool) (d : PyData) (Q : VK) : Prop := ∀ v F' H', Lay F H F' H' → Vn K H F' H' fr v d → Q v H'
theorem Vn.rp {K : Kx} {H : Hp} {F' : Fz} {H' : Hp} {fr : Bool} {v : V} {d : PyData} (h : Rp K F' H' v d) (e : (fr && isMut d) = false) : Vn K H F' H' fr v d := by
  unfold Vn; rw [e]; exact h
section
variable {K : Kx} {F F1 F2 F' : Fz} {H H1 H2 H' : Hp} {σ σ1 : L2.St} {ρ ρ1 ρ2 : Env}
theorem Vn.vr {fr : Bool} {v : V} {d : PyData} {H0 : Hp} (g : Sg K F H σ ρ) (t : ∀ a, H0 a ≠ none → H a ≠ none) (h : Vn K H F' H' fr v d) : Vr K H0 F' H' σ ρ fr v d := by
  unfold Vn at h
  unfold Vr
  split at h
  · rename_i c
    rw [if_pos c]
    obtain ⟨a, e, n, o, z⟩ := h
    refine ⟨a, e, n, o, ?_, fun w => g.ntr w z⟩
    cases q : H0 a with
    | none => rfl
    | some u => exact absurd z (t a (by rw [q]; simp))
  · rename_i c
    rw [if_neg c]
    exact h
/-- a value that stays as it is -/
theorem Res.same {d : PyData} {Q : VK} {fr : Bool} {v : V} (h : Res K F H fr d Q) (t : ∀ a, F a → H a ≠ none) (r : Rp K F H v d) (e : (fr && isMut d) = false) : Q v H :=
  h v F H (Lay.refl t) (Vn.rp r e)
theorem lay_new {p : Addr} {o : HO} (t : ∀ a, F a → H a ≠ none) (hp : H p = none) : Lay F H F (upd H p o) :=
  ⟨fun _ h => h, fun _ h => .inl h, fun a h => .inl (upd_ne (fun e => h (by rw [e]; exact hp))), fun a f => by rw [upd_ne (fun e => t a f (by rw [e]; exact hp))]; exact t a f⟩
theorem lay_frz {p : Addr} {o : HO} (t : ∀ a, F a → H a ≠ none) (hp : H p = none) : Lay F H (frz1 F p) (upd H p o) := by
  refine ⟨fun _ h => .inl h, fun a h => h.elim .inl fun e => .inr (e ▸ hp), fun a h => .inl (upd_ne (fun e => h (by rw [e]; exact hp))), fun a f => ?_⟩
  rcases f with f | f
  · rw [upd_ne (fun e => t a f (by rw [e]; exact hp))]; exact t a f
  · rw [f, upd_same]; simp
theorem notF_new {p : Addr} (t : ∀ a, F a → H a ≠ none) (hp : H p = none) : ¬ F p := fun f => t p f hp
/-- a new list -/
theorem Res.lst {xs : List V} {ds : List PyData} {Q : VK} (h : Res K F H true (.list ds) Q) (t : ∀ a, F a → H a ≠ none) (r : RpAll K F H xs ds) {p : Addr} (hp : H p = none) : Q (.ref p) (upd H p (.lst xs)) := by
  have l : Lay F H F (upd H p (.lst xs)) := lay_new t hp
  exact h _ F _ l ⟨p, rfl, notF_new t hp, .lst upd_same (r.gr (l.gr t)), hp⟩
/-- a new tuple -/
theorem Res.tup {xs : List V} {ds : List PyData} {Q : VK} {fr : Bool} (h : Res K F H fr (.tuple ds) Q) (t : ∀ a, F a → H a ≠ none) (r : RpAll K F H xs ds) {p : Addr} {o : Obj} (hp : H p = none) (ho : o.dict = none) : Q (.ref p) (upd H p (.frz o (.tup xs))) := by
  have l : Lay F H (frz1 F p) (upd H p (.frz o (.tup xs))) := lay_frz t hp
  refine h _ _ _ l ?_
  have e : (fr && isMut (.tuple ds)) = false := by cases fr <;> rfl
  exact Vn.rp (.tup (.inr rfl) ⟨o, upd_same, ho⟩ (r.gr (l.gr t))) e
end

/-! rules by values -/
def r2 (K : Kx) (p : Pr) : R2 := fun x y H Q => ∃ F dx dy d, (∀ a, F a → H a ≠ none) ∧ Rv K F H x dx ∧ Rv K F H y dy ∧ Z.p2 p dx dy = some d ∧ Res K F H p.fresh d Q
def r1 (K : Kx) (p : Pr) : V → Hp → VK → Prop := fun x H Q => ∃ F dx d, (∀ a, F a → H a ≠ none) ∧ Rv K F H x dx ∧ Z.p1 p dx = some d ∧ Res K F H p.fresh d Q
def rL1 (K : Kx) (p : Pr) : List V → Hp → VK → Prop := fun xs H Q => ∃ x, xs = [x] ∧ r1 K p x H Q
def rL2 (K : Kx) (p : Pr) : List V → Hp → VK → Prop := fun xs H Q => ∃ x y, xs = [x, y] ∧ r2 K p x y H Q
def r3 (K : Kx) (p : Pr) (x y z : V) : Hp → VK → Prop := fun H Q => ∃ F dx dy dz d, (∀ a, F a → H a ≠ none) ∧ Rv K F H x dx ∧ Rv K F H y dy ∧ Rv K F H z dz ∧ Z.p3 p dx dy dz = some d ∧ Res K F H p.fresh d Q

section
variable (Φ : Nat → Spc) {K : Kx}
theorem rd2_op {p : Pr} {a b : E} {σ : L2.St} {H : Hp} {Q' : VK} (h : tE K (rd Φ (.p2 p a b)).e σ H Q') : tOp (r2 K p) (tO K a (rd Φ a).e) (tO K b (rd Φ b).e) σ H Q' := by
  obtain ⟨F, ρ, Q, g, h, k⟩ := h
  rw [rd_p2, plainT_e] at h
  refine ⟨F, ρ, _, g, h, fun v o F1 H1 ρ1 g1 s1 ok1 h1 => ⟨F1, ρ1, _, g1, h1, fun w o2 F2 H2 ρ2 g2 s2 ok2 h2 => ?_⟩⟩
  obtain ⟨x, ex, h2⟩ := must_iff.mp h2
  obtain ⟨y, ey, h2⟩ := must_iff.mp h2
  obtain ⟨d, ed, h2⟩ := must_iff.mp h2
  refine ⟨F2, x, y, d, g2.tr, (ok1.gr (s2.gr g1)).rv g2 ex, ok2.rv g2 ey, ed, fun v' F' H' l vn => ?_⟩
  exact k p.fresh v' d F' H' ρ2 (l.sg g2) ((s1.trans s2).trans l.stp) (vn.vr g2 (s1.trans s2).tr) h2
theorem rd1_op {p : Pr} {a : E} {σ : L2.St} {H : Hp} {Q' : VK} (h : tE K (rd Φ (.p1 p a)).e σ H Q') : tUn (r1 K p) (tO K a (rd Φ a).e) σ H Q' := by
  obtain ⟨F, ρ, Q, g, h, k⟩ := h
  rw [rd_p1, plainT_e] at h
  refine ⟨F, ρ, _, g, h, fun v o F1 H1 ρ1 g1 s1 ok1 h1 => ?_⟩
  obtain ⟨x, ex, h2⟩ := must_iff.mp h1
  obtain ⟨d, ed, h2⟩ := must_iff.mp h2
  refine ⟨F1, x, d, g1.tr, ok1.rv g1 ex, ed, fun v' F' H' l vn => ?_⟩
  exact k p.fresh v' d F' H' ρ1 (l.sg g1) (s1.trans l.stp) (vn.vr g1 s1.tr) h2
theorem rd1_call {p : Pr} {a : E} {σ : L2.St} {H : Hp} {Q' : VK} (h : tE K (rd Φ (.p1 p a)).e σ H Q') : tCB (rL1 K p) (tCons (tO K a (rd Φ a).e) tNil) σ H Q' := by
  obtain ⟨F, ρ, Q, g, h, k⟩ := h
  rw [rd_p1, plainT_e] at h
  refine ⟨F, ρ, _, g, h, fun v o F1 H1 ρ1 g1 s1 ok1 h1 => ?_⟩
  obtain ⟨x, ex, h2⟩ := must_iff.mp h1
  obtain ⟨d, ed, h2⟩ := must_iff.mp h2
  refine ⟨v, rfl, F1, x, d, g1.tr, ok1.rv g1 ex, ed, fun v' F' H' l vn => ?_⟩
  exact k p.fresh v' d F' H' ρ1 (l.sg g1) (s1.trans l.stp) (vn.vr g1 s1.tr) h2
theorem rd2_call {p : Pr} {a b : E} {σ : L2.St} {H : Hp} {Q' : VK} (h : tE K (rd Φ (.p2 p a b)).e σ H Q') : tCB (rL2 K p) (tCons (tO K a (rd Φ a).e) (tCons (tO K b (rd Φ b).e) tNil)) σ H Q' := by
  obtain ⟨F, ρ, Q, g, h, k⟩ := h
  rw [rd_p2, plainT_e] at h
  refine ⟨F, ρ, _, g, h, fun v o F1 H1 ρ1 g1 s1 ok1 h1 => ⟨F1, ρ1, _, g1, h1, fun w o2 F2 H2 ρ2 g2 s2 ok2 h2 => ?_⟩⟩
  obtain ⟨x, ex, h2⟩ := must_iff.mp h2
  obtain ⟨y, ey, h2⟩ := must_iff.mp h2
  obtain ⟨d, ed, h2⟩ := must_iff.mp h2
  refine ⟨v, w, rfl, F2, x, y, d, g2.tr, (ok1.gr (s2.gr g1)).rv g2 ex, ok2.rv g2 ey, ed, fun v' F' H' l vn => ?_⟩
  exact k p.fresh v' d F' H' ρ2 (l.sg g2) ((s1.trans s2).trans l.stp) (vn.vr g2 (s1.trans s2).tr) h2
end

section
variable {K : Kx} {F F' : Fz} {H H' : Hp} {σ : L2.St} {ρ : Env}
theorem slot_some (g : Sg K F H σ ρ) {i : Nat} {d : PyData} (e : res ρ (.slot i) = some d) : ∃ v, σ[i]? = some (some v) := by
  cases q : ρ[i]? with
  | none => rw [res, q] at e; cases e
  | some s =>
    rw [res, q] at e
    have e : s.dat = some d := e
    have r := g.sl i s q
    cases s with
    | no => cases e
    | dr => cases e
    | dw d => cases e
    | sh d' => obtain ⟨v', e1, r⟩ := r; exact ⟨_, e1⟩
    | ow d' => obtain ⟨a, e1, n, r⟩ := r; exact ⟨_, e1⟩
    | lk d' => obtain ⟨a, e1, n, t, r⟩ := r; exact ⟨_, e1⟩
theorem get_set_self {i : Nat} {s s' : Sl} (e : ρ[i]? = some s') : (ρ.set i s)[i]? = some s := by
  obtain ⟨h, _⟩ := List.getElem?_eq_some_iff.mp e
  exact List.getElem?_set_self h
theorem get_set_cases {i j : Nat} {s s' : Sl} (e : (ρ.set i s)[j]? = some s') : (j = i ∧ s' = s) ∨ (j ≠ i ∧ ρ[j]? = some s') := by
  by_cases h : i = j
  · subst h
    by_cases hl : i < ρ.length
    · rw [List.getElem?_set_self hl] at e; cases e; exact .inl ⟨rfl, rfl⟩
    · rw [List.getElem?_eq_none (by rw [List.length_set]; omega)] at e; cases e
  · rw [List.getElem?_set_ne h] at e; exact .inr ⟨fun z => h z.symm, e⟩
/-- a name's own object is shared from now on -/
theorem Sg.share (g : Sg K F H σ ρ) {i : Nat} {s : Sl} {a : Addr} {d : PyData} (es : ρ[i]? = some s) (ev : σ[i]? = some (some (.ref a))) (o : Or K F H a d) (t : H a ≠ none) (m : s = .ow d ∨ False) :
    Sg K (frz1 F a) H σ (ρ.set i (.sh d)) ∧ Stp F H σ ρ (frz1 F a) H σ (ρ.set i (.sh d)) ∧ Rp K (frz1 F a) H (.ref a) d := by
  have gr : Gr F H (frz1 F a) H := ⟨fun _ f => .inl f, fun _ _ => .refl⟩
  have rp : Rp K (frz1 F a) H (.ref a) d := (o.gr gr rfl).rp (.inr rfl)
  obtain rfl : s = .ow d := m.elim id False.elim
  have mu : Mu σ ρ a := ⟨i, _, es, rfl, ev⟩
  refine ⟨⟨by rw [List.length_set]; exact g.len, fun j s' e => ?_, fun j k b s1 s2 e1 e2 o1 o2 v1 v2 => ?_, fun b f => ?_⟩, ⟨fun b f => .inl f, fun b f => ?_, fun _ _ _ => .inl rfl, fun _ h => h, fun b h => ?_, fun j d' h p => ?_⟩, rp⟩
  · rcases get_set_cases e with ⟨rfl, rfl⟩ | ⟨ne, e⟩
    · exact ⟨_, ev, rp⟩
    · refine (g.sl j s' e).gr gr fun b ob eb => ⟨fun f => ?_, rfl⟩
      rcases f with f | f
      · exact g.nF ⟨j, s', e, ob, eb⟩ f
      · exact ne (g.inj j i a s' _ e es ob rfl (f ▸ eb) ev)
  · rcases get_set_cases e1 with ⟨rfl, rfl⟩ | ⟨ne1, e1⟩
    · cases o1
    · rcases get_set_cases e2 with ⟨rfl, rfl⟩ | ⟨ne2, e2⟩
      · cases o2
      · exact g.inj j k b s1 s2 e1 e2 o1 o2 v1 v2
  · rcases f with f | f
    · exact g.tr b f
    · rw [f]; exact t
  · rcases f with f | f
    · exact .inl f
    · exact .inr (.inr (by rw [f]; exact mu))
  · obtain ⟨j, s', e, m', v'⟩ := h
    rcases get_set_cases e with ⟨rfl, rfl⟩ | ⟨ne, e⟩
    · cases m'
    · exact .inl ⟨j, s', e, m', v'⟩
  · rcases get_set_cases h with ⟨rfl, z⟩ | ⟨ne, e⟩
    · rw [z] at p; cases p
    · exact ⟨⟨_, e, .inl rfl⟩, rfl⟩
end
/-! ### an expression of the text and its tree -/
structure Sd (Φ : Nat → Spc) (X : Cx) (e0 : Expr) (e : E) : Prop where
  ex : PE X e0 (tE X.k (rd Φ e).e)
  op : PE X e0 (tO X.k e (rd Φ e).e)
  ts : PT X e0 (tT X.k (rd Φ e).t)
section
variable {Φ : Nat → Spc} {X : Cx} {e0 : Expr} {e : E}
theorem dt_flat {K : Kx} {F : Fz} {H : Hp} {xs : TDs} {es : List (PyData × PyData)} (ne : es ≠ []) (t : RpAll K F H (xs.map fun x => .ref x.2.1) (es.map (·.1))) (hk : (es.all fun p => isKey0 p.1) = true) : False := by
  cases es with
  | nil => exact ne rfl
  | cons p r =>
    obtain ⟨k, v⟩ := p
    rw [List.all_cons, Bool.and_eq_true] at hk
    cases xs with
    | nil => cases t
    | cons x ys =>
      rw [List.map_cons, List.map_cons] at t
      cases t with
      | cons h _ =>
        have hk1 : isKey0 k = true := hk.1
        cases k with
        | int i => cases h
        | str i => cases h
        | _ => exact Bool.noConfusion hk1
/-- a value's truth -/
theorem tru_V {K : Kx} {F : Fz} {H : Hp} {v : V} {d : PyData} {b : Bool} (r : Rv K F H v d) (h : tru d = some b) : ∃ k, k = b ∧ (TruV K.K v H k ∨ ∃ a kvs, v = .ref a ∧ Rd H a (.dK kvs) ∧ b = !kvs.isEmpty) := by
  have hs : sizeLine = 16777216 := sizeLine_eq
  rcases r with r | ⟨a, rfl, r⟩
  · cases r with
    | non => simp only [tru, Option.some.injEq] at h; exact ⟨b, rfl, .inl h.symm⟩
    | bl c => simp only [tru, Option.some.injEq] at h; exact ⟨b, rfl, .inl h.symm⟩
    | int i => simp only [tru, Option.some.injEq] at h; exact ⟨b, rfl, .inl h.symm⟩
    | str x =>
      simp only [tru] at h
      split at h
      · rename_i hb
        refine ⟨b, rfl, .inl ⟨?_, ?_⟩⟩
        · show x.cps.size ≤ sizeLine
          unfold big at hb
          omega
        · have e := Option.some.inj h
          subst e
          show (x.cps.size != 0) = (((x.cps.size : Nat) : Int) != 0)
          by_cases q : x.cps.size = 0
          · rw [q]; rfl
          · have q2 : ((x.cps.size : Nat) : Int) ≠ 0 := by omega
            rw [bne_iff_ne.mpr q, bne_iff_ne.mpr q2]
      · cases h
    | lst f q t =>
      simp only [tru, Option.some.injEq] at h
      refine ⟨b, rfl, .inl (.inl ⟨_, .inl (.inl q), ?_⟩)⟩
      rw [← h]; cases t <;> rfl
    | tup f q t =>
      simp only [tru, Option.some.injEq] at h
      refine ⟨b, rfl, .inl (.inr (.inl ⟨_, q.sq, ?_⟩))⟩
      rw [← h]; cases t <;> rfl
    | dk f q e t =>
      simp only [tru] at h
      split at h
      · refine ⟨b, rfl, .inr ⟨_, _, rfl, q, ?_⟩⟩
        have e' := Option.some.inj h
        rw [← e']
        have hl := congrArg List.isEmpty e
        simp only [List.isEmpty_map] at hl
        rw [hl]
      · cases h
    | @dt a xs es f q ne e t v =>
      simp only [tru] at h
      split at h
      · rename_i hk
        exact (dt_flat ne.1 t hk).elim
      · cases h
  · cases r with
    | lst q t =>
      simp only [tru, Option.some.injEq] at h
      refine ⟨b, rfl, .inl (.inl ⟨_, .inl (.inl q), ?_⟩)⟩
      rw [← h]; cases t <;> rfl
    | dk q e t =>
      simp only [tru] at h
      split at h
      · refine ⟨b, rfl, .inr ⟨_, _, rfl, q, ?_⟩⟩
        have e' := Option.some.inj h
        rw [← e']
        have hl := congrArg List.isEmpty e
        simp only [List.isEmpty_map] at hl
        rw [hl]
      · cases h
    | @dt xs es q ne e t v =>
      simp only [tru] at h
      split at h
      · rename_i hk
        exact (dt_flat ne.1 t hk).elim
      · cases h
/-- truth as the layer wants it, with dicts that may be locked -/
def TruZ (K : Kx) (x : V) (H : Hp) (k : Bool) : Prop := TruV K.K x H k ∨ ∃ a kvs, x = .ref a ∧ Rd H a (.dK kvs) ∧ k = !kvs.isEmpty
theorem truz_ok : TruR X (fun x H Q => ∃ k, TruZ X.k x H k ∧ Q k H) := by
  intro pins s σ H x v Q I rx h
  obtain ⟨k, e | ⟨a, kvs, rfl, hd, ek⟩, q⟩ := h
  · exact tru_ok pins s σ H x v Q I rx ⟨k, e, q⟩
  · cases rx
    subst ek
    exact d_truth I hd fun s' I' => ⟨H, I', q⟩
theorem Rv.tru {K : Kx} {F : Fz} {H : Hp} {v : V} {d : PyData} {b : Bool} (r : Rv K F H v d) (h : Z.tru d = some b) : TruZ K v H b := by
  obtain ⟨k, rfl, h⟩ := tru_V r h
  exact h
theorem pt_truz {a : Expr} {ta : TE} (ha : PE X a ta) (he : ∀ whole, isTrue a X.env whole = (do let v ← whole; standAt a.pos; holding [v] (truthy v))) :
    PT X a (fun σ H Q => ta σ H fun x H' => ∃ k, TruZ X.k x H' k ∧ Q k H') := by
  refine ⟨fun pins s σ H Q I h => ?_⟩
  exact isTrue_plain (thn (ha.run pins s σ H _ I h) fun v s1 ⟨x, H1, I1, r1, q1⟩ => truz_ok pins s1 σ H1 x v Q I1 r1 q1) (he _)

/-- an operand that is no name -/
theorem o_of_e (hn : ∀ i, e ≠ .v i) (h : PE X e0 (tE X.k (rd Φ e).e)) : PE X e0 (tO X.k e (rd Φ e).e) := by
  refine h.imp fun σ H Q' q => ?_
  obtain ⟨F, ρ, Kp, g, q, k⟩ := q
  have q' : (rd Φ e).e ρ fun _ d ρ' => Kp (.val d) ρ' := by
    cases e <;> first | exact q | exact absurd rfl (hn _)
  refine ⟨F, ρ, _, g, q', fun fr v d F' H' ρ' g' s' vr qq => ?_⟩
  obtain ⟨F2, g2, s2, r, _⟩ := vr.freeze g' s'
  exact k v (.val d) F2 H' ρ' g2 s2 r qq
/-- the test of an expression that is no operator of tests -/
theorem t_of_o {r : RE} (hn : ∀ i, e ≠ .v i) (hp : rd Φ e = plainT r) (h : PE X e0 (tO X.k e (rd Φ e).e)) (he : ∀ whole, isTrue e0 X.env whole = (do let v ← whole; standAt e0.pos; holding [v] (truthy v))) : PT X e0 (tT X.k (rd Φ e).t) := by
  refine (pt_truz h he).imp fun σ H Q' q => ?_
  obtain ⟨F, ρ, Q, g, q, k⟩ := q
  have q' : (rd Φ e).e ρ fun _ x ρ1 => must (Z.tru x) fun b => Q b ρ1 := by rw [hp] at q ⊢; exact q
  have q2 : (rd Φ e).e ρ fun _ x ρ1 => must (res ρ1 (.val x)) fun x => must (Z.tru x) fun b => Q b ρ1 := by
    have ef : (fun (_ : Bool) (x : PyData) (ρ1 : Env) => must (res ρ1 (.val x)) fun x => must (Z.tru x) fun b => Q b ρ1) = fun _ x ρ1 => must (Z.tru x) fun b => Q b ρ1 := by
      funext _ x ρ1
      exact must_some x _
    rw [ef]
    exact q'
  refine ⟨F, ρ, fun o ρ1 => must (res ρ1 o) fun x => must (Z.tru x) fun b => Q b ρ1, g, ?_, fun v o F' H' ρ' g' s' ok qq => ?_⟩
  · cases e <;> first | exact q2 | exact absurd rfl (hn _)
  · obtain ⟨x, ex, qq⟩ := must_iff.mp qq
    obtain ⟨b, eb, qq⟩ := must_iff.mp qq
    exact ⟨b, (ok.rv g' ex).tru eb, k b F' H' ρ' g' s' qq⟩
theorem Sd.plain {r : RE} (hn : ∀ i, e ≠ .v i) (hp : rd Φ e = plainT r) (h : PE X e0 (tE X.k (rd Φ e).e)) (he : ∀ whole, isTrue e0 X.env whole = (do let v ← whole; standAt e0.pos; holding [v] (truthy v))) : Sd Φ X e0 e :=
  ⟨h, o_of_e hn h, t_of_o hn hp (o_of_e hn h) he⟩

/-! names, constants -/
theorem sd_var {i : Nat} {x : Str} {pos : Pos} (hN : X.N[i]? = some x) (hv : Vis X.env.scope x) (hd : (x == ("__debug__" : Str)) = false) (hcd : (x == ("__classdict__" : Str)) = false) : Sd Φ X (.Name x pos) (.v i) := by
  have P := pe_var (X := X) (pos := pos) hN hv hd hcd
  have hO : PE X (.Name x pos) (tO X.k (.v i) (rd Φ (.v i)).e) := by
    refine P.imp fun σ H Q' q => ?_
    obtain ⟨F, ρ, Kp, g, q, k⟩ := q
    obtain ⟨d, ed, q⟩ := must_iff.mp q
    obtain ⟨v, ev⟩ := slot_some g ed
    exact ⟨v, ev, k v (.slot i) F H ρ g Stp.refl ev q⟩
  refine ⟨P.imp fun σ H Q' q => ?_, hO, ?_⟩
  · obtain ⟨F, ρ, Q, g, q, k⟩ := q
    rw [rd_v] at q
    have q : rdVar i ρ Q := q
    unfold rdVar at q
    cases es : ρ[i]? with
    | none => rw [es] at q; exact q.elim
    | some s =>
      rw [es] at q
      have r := g.sl i s es
      cases s with
      | sh d =>
        obtain ⟨v, ev, r⟩ := r
        exact ⟨v, ev, k false v d F H ρ g Stp.refl r q⟩
      | ow d =>
        obtain ⟨a, ev, n, r⟩ := r
        obtain ⟨g2, s2, r2⟩ := g.share es ev r.or r.tr (.inl rfl)
        exact ⟨_, ev, k false _ d _ H _ g2 s2 r2 q⟩
      | no => exact q.elim
      | lk d => exact q.elim
      | dr => exact q.elim
      | dw d => exact q.elim
  · refine (pt_truz P fun _ => rfl).imp fun σ H Q' q => ?_
    obtain ⟨F, ρ, Q, g, q, k⟩ := q
    rw [rd_v] at q
    obtain ⟨d, ed, q⟩ := must_iff.mp q
    obtain ⟨b, eb, q⟩ := must_iff.mp q
    obtain ⟨v, ev⟩ := slot_some g ed
    have ok : OpdOk X.k F H σ v (.slot i) := ev
    exact ⟨v, ev, b, (ok.rv g ed).tru eb, k b F H ρ g Stp.refl q⟩
theorem sd_k {c : PyData} {v : V} (h : PE X e0 (tC v)) (r : ∀ F H, Rp X.k F H v c) (he : ∀ whole, isTrue e0 X.env whole = (do let v ← whole; standAt e0.pos; holding [v] (truthy v))) : Sd Φ X e0 (.k c) := by
  refine Sd.plain (by intro i; exact fun z => nomatch z) rd_k (h.imp fun σ H Q' q => ?_) he
  obtain ⟨F, ρ, Q, g, q, k⟩ := q
  rw [rd_k, plainT_e] at q
  exact k false v c F H ρ g Stp.refl (r F H) q
end
end Z

/-! soundness: operators by values -/
namespace Z
open PySem PySem.Spec PyProof.Rows L2
section
variable {K : Kx} {F : Fz} {H : Hp} {v : V}
theorem Rv.int {i : Int} (h : Rv K F H v (.int i)) : v = .int i := by
  rcases h with h | ⟨a, rfl, h⟩
  · cases h; rfl
  · cases h
theorem Rv.str {i : Str} (h : Rv K F H v (.str i)) : v = .str i := by
  rcases h with h | ⟨a, rfl, h⟩
  · cases h; rfl
  · cases h
theorem Rv.bl {i : Bool} (h : Rv K F H v (.bool i)) : v = .bl i := by
  rcases h with h | ⟨a, rfl, h⟩
  · cases h; rfl
  · cases h
theorem Rv.non (h : Rv K F H v .none) : v = .non := by
  rcases h with h | ⟨a, rfl, h⟩
  · cases h; rfl
  · cases h
theorem Rv.lst {ds : List PyData} (h : Rv K F H v (.list ds)) : ∃ a xs, v = .ref a ∧ H a = some (.lst xs) ∧ RpAll K F H xs ds := by
  rcases h with h | ⟨a, rfl, h⟩
  · cases h with
    | lst f q r => exact ⟨_, _, rfl, q, r⟩
  · cases h with
    | lst q r => exact ⟨_, _, rfl, q, r⟩
theorem Rv.tup {ds : List PyData} (h : Rv K F H v (.tuple ds)) : ∃ a xs, v = .ref a ∧ TupAt H a xs ∧ RpAll K F H xs ds ∧ Rp K F H (.ref a) (.tuple ds) := by
  rcases h with h | ⟨a, rfl, h⟩
  · cases h with
    | tup f q r => exact ⟨_, _, rfl, q, r, .tup f q r⟩
  · cases h
end
/-- the object of a new tuple -/
def tupObj (us : List Value) : Obj := { cls := .type "tuple", data := .seq us.toArray }
theorem laidT {X : Cx} {pins : List (Addr × Obj)} {σ : L2.St} {H : Hp} {s : Shared} {ys : List V} {us : List Value} {tk : Nat} (I : Inv X pins σ H s) (r : Vals ys us) (hz : ys.length ≤ sizeLine) :
    Inv X pins σ (upd H s.heap.objs.size (.frz (tupObj us) (.tup ys))) { s with heap := s.heap.push (tupObj us), toks := tk } := by
  refine I.laid (t' := tk) (fun b ob q => Heap.get?_push_of_some _ q) (Nat.le_refl _) ⟨Heap.get?_push_size _ rfl, hz, us, r, IsTup.new _ _⟩
theorem big_eq : big = sizeLine := by rw [sizeLine_eq]; rfl
section
variable {X : Cx}
theorem ok_add : OpR X (binaryOp .Add) (r2 X.k .add) := by
  intro pins s σ H x y v u Q I rx ry h
  obtain ⟨F, dx, dy, d, t, hx, hy, ed, k⟩ := h
  have ed : addD dx dy = some d := ed
  have hb := big_eq
  unfold addD at ed
  split at ed
  · cases ed
    cases hx.int; cases hy.int
    exact op_add pins s σ H _ _ v u Q I rx ry ⟨_, _, rfl, rfl, k.same t (.int _) rfl⟩
  · split at ed
    · rename_i hz
      cases ed
      cases hx.str; cases hy.str
      exact op_add_str pins s σ H _ _ v u Q I rx ry ⟨_, _, rfl, rfl, by show _ + _ ≤ sizeLine; rw [← hb]; exact hz, k.same t (.str _) rfl⟩
    · cases ed
  · split at ed
    · rename_i hz
      cases ed
      obtain ⟨a, xs, rfl, q1, t1⟩ := hx.lst
      obtain ⟨b, ys, rfl, q2, t2⟩ := hy.lst
      exact op_cat pins s σ H _ _ v u Q I rx ry ⟨a, b, xs, ys, rfl, rfl, q1, q2, by rw [t1.length, t2.length, ← hb]; exact hz, fun p hp => k.lst t (t1.append t2) hp⟩
    · cases ed
  · split at ed
    · rename_i hz
      cases ed
      obtain ⟨a, xs, rfl, q1, t1, w1⟩ := hx.tup
      obtain ⟨b, ys, rfl, q2, t2, w2⟩ := hy.tup
      have hz' : xs.length + ys.length ≤ sizeLine := by rw [t1.length, t2.length, ← hb]; exact hz
      cases rx
      cases ry
      obtain ⟨its, v1, p1, _⟩ := I.tuple q1.sq
      obtain ⟨its2, v2, p2, _⟩ := I.tuple q2.sq
      by_cases e0 : xs = []
      · subst e0
        cases t1
        cases v1
        exact L2.cat_tup0 p1 p2 ⟨.ref b, H, I, rfl, k.same t w2 rfl⟩
      · refine HT.cat_tup p1 p2 (fun z => e0 (v1.nil_iff.mp z)) (fun z => ?_) (fun z => ?_) (by rw [← v1.length, ← v2.length]; exact hz')
        · have e1 := v2.nil_iff.mp z
          subst e1
          cases t2
          rw [List.append_nil] at k
          exact ⟨.ref a, H, I, rfl, k.same t w1 rfl⟩
        · exact ⟨.ref _, _, laidT I (v1.append v2) (by rw [List.length_append]; exact hz'), rfl, k.tup t (t1.append t2) (I.hok.fresh (Nat.le_refl _)) rfl⟩
    · cases ed
  · cases ed
theorem ok_sub : OpR X (binaryOp .Sub) (r2 X.k .sub) := by
  intro pins s σ H x y v u Q I rx ry h
  obtain ⟨F, dx, dy, d, t, hx, hy, ed, k⟩ := h
  have ed : subD dx dy = some d := ed
  unfold subD at ed
  split at ed
  · cases ed
    cases hx.int; cases hy.int
    exact op_sub pins s σ H _ _ v u Q I rx ry ⟨_, _, rfl, rfl, k.same t (.int _) rfl⟩
  · cases ed
/-- tuple * int, with the new object known -/
theorem op_repZ : OpR X (binaryOp .Mult) (fun x y H Q => ∃ l k xs, x = .ref l ∧ y = .int k ∧ SqT X.K H l xs ∧ xs ≠ [] ∧ 2 ≤ k ∧ k ≤ 1000 ∧ xs.length ≤ 1000 ∧ ∀ p us, H p = none → Q (.ref p) (upd H p (.frz (tupObj us) (.tup (List.replicate k.toNat xs).flatten)))) := by
  intro pins s σ H x y v u Q I rx ry h
  obtain ⟨l, k, xs, rfl, rfl, sq, ne, k2, k3, lx, q⟩ := h
  cases rx
  obtain ⟨tk, rfl⟩ := ry
  obtain ⟨us, rv, ⟨⟨cl, di, da, sl⟩, go, gc, cap, gd⟩, _⟩ := I.tuple sq
  dsimp only at gc gd
  subst gc gd
  have el := rv.length
  have hu : us ≠ [] := fun z => ne (List.eq_nil_of_length_eq_zero (by rw [el, z]; rfl))
  have emp : us.toArray.isEmpty = false := by cases us <;> first | exact absurd rfl hu | rfl
  have bd : k.toNat * xs.length ≤ 1000000 := Nat.le_trans (Nat.mul_le_mul (by omega : k.toNat ≤ 1000) lx) (by omega)
  have fl : ∀ {β : Type} (bs : List β), bs.length = xs.length → (List.replicate k.toNat bs).flatten.length ≤ sizeLine := fun bs hb => by
    rw [PyProof.Rows.lm_len_rep_flat, hb, ← big_eq]
    exact Nat.le_trans bd (by rw [show big = 16777216 from rfl]; omega)
  have no1 : (decide (k < -(2 ^ 63)) || decide (k ≥ 2 ^ 63)) = false := by rw [Bool.or_eq_false_iff]; exact ⟨decide_eq_false (by omega), decide_eq_false (by omega)⟩
  have no2 : (us.toArray.isEmpty || k == 1) = false := by rw [emp, Bool.false_or]; exact beq_eq_false_iff_ne.mpr (by omega)
  have no3 : (decide (k ≤ 0) || us.toArray.isEmpty) = false := by rw [emp, Bool.or_false]; exact decide_eq_false (by omega)
  have sz : ((us.toArray.size : Nat) : Int) * k = ((k.toNat * xs.length : Nat) : Int) := by
    rw [List.size_toArray, ← el, Int.natCast_mul, Int.toNat_of_nonneg (by omega), Int.mul_comm]
  have bd' : ((k.toNat * xs.length : Nat) : Int) ≤ 1000000 := Int.ofNat_le.mpr bd
  have no4 : Builtin.Tuple.tupleTooMany (((us.toArray.size : Nat) : Int) * k) = false := by
    rw [sz]
    unfold Builtin.Tuple.tupleTooMany
    rw [← big_eq]
    exact decide_eq_false (by rw [show big = 16777216 from rfl]; omega)
  refine wpAny_binaryOp_repeat_ref (T := "tuple") (U := "int") (by decide) ⟨_, go, rfl⟩ (fun s' => typeIs_int s' k tk) noFill_tuple_mul F.fills_int_mul F.slot_int_rmul repeat_tuple F.slot_int_index.lookup ?_
  refine call_meets F.slot_int_rmul (typeIs_int s k tk) F.entry_int_rmul (F.args_int_rmul_2 _ _) (int_rmul_tuple k tk l us.toArray cap di sl) ⟨go, rfl, ⟨_, go, rfl⟩, ?_⟩
  refine call_meets F.slot_tuple_mul ⟨_, go, rfl⟩ F.entry_tuple_mul (F.args_tuple_mul_2 _ _) (tuple_mulW l us.toArray cap di sl k tk no1 no2 no3 (by rw [sz]; omega) no4 ?_) ⟨go, ?_⟩
  · rw [size_rep, List.size_toArray]
    exact fl us el.symm
  · rw [size_rep]
    exact ⟨.ref s.heap.objs.size, _, laidT I (rv.rep k.toNat) (fl xs rfl), rfl, q _ _ (I.hok.fresh (Nat.le_refl _))⟩
theorem ok_mul : OpR X (binaryOp .Mult) (r2 X.k .mul) := by
  intro pins s σ H x y v u Q I rx ry h
  obtain ⟨F, dx, dy, d, t, hx, hy, ed, k⟩ := h
  have ed : mulD dx dy = some d := ed
  have hb := big_eq
  unfold mulD at ed
  split at ed
  · split at ed
    · rename_i hz
      cases ed
      cases hx.int; cases hy.int
      exact op_mul pins s σ H _ _ v u Q I rx ry ⟨_, _, rfl, rfl, hz, k.same t (.int _) rfl⟩
    · cases ed
  · split at ed
    · rename_i hz
      cases ed
      obtain ⟨a, xs, rfl, q1, t1⟩ := hx.lst
      cases hy.int
      exact op_rep pins s σ H _ _ v u Q I rx ry ⟨a, _, xs, rfl, rfl, q1, by omega, by omega, by rw [t1.length, ← hb]; exact hz.2.2, fun p hp => k.lst t (t1.rep _) hp⟩
    · cases ed
  · split at ed
    · rename_i hz
      cases ed
      obtain ⟨a, xs, rfl, q1, t1, w1⟩ := hx.tup
      cases hy.int
      refine op_repZ pins s σ H _ _ v u Q I rx ry ⟨a, _, xs, rfl, rfl, q1.sq, fun z => ?_, hz.2.1, hz.2.2.1, by rw [t1.length]; exact hz.2.2.2, fun p us hp => k.tup t (t1.rep _) hp rfl⟩
      subst z
      cases t1
      exact absurd hz.1 (by simp)
    · cases ed
  · cases ed
theorem ok_fdiv : OpR X (binaryOp .FloorDiv) (r2 X.k .fdiv) := by
  intro pins s σ H x y v u Q I rx ry h
  obtain ⟨F, dx, dy, d, t, hx, hy, ed, k⟩ := h
  have ed : fdivD dx dy = some d := ed
  unfold fdivD at ed
  split at ed
  · split at ed
    · rename_i hz
      cases ed
      cases hx.int; cases hy.int
      exact op_fdiv pins s σ H _ _ v u Q I rx ry ⟨_, _, rfl, rfl, hz, k.same t (.int _) rfl⟩
    · cases ed
  · cases ed
theorem ok_mod : OpR X (binaryOp .Mod) (r2 X.k .mod) := by
  intro pins s σ H x y v u Q I rx ry h
  obtain ⟨F, dx, dy, d, t, hx, hy, ed, k⟩ := h
  have ed : modD dx dy = some d := ed
  unfold modD at ed
  split at ed
  · split at ed
    · rename_i hz
      cases ed
      cases hx.int; cases hy.int
      exact op_mod pins s σ H _ _ v u Q I rx ry ⟨_, _, rfl, rfl, hz, k.same t (.int _) rfl⟩
    · cases ed
  · cases ed
theorem ok_pow : OpR X (binaryOp .Pow) (r2 X.k .pow) := by
  intro pins s σ H x y v u Q I rx ry h
  obtain ⟨F, dx, dy, d, t, hx, hy, ed, k⟩ := h
  have ed : powD dx dy = some d := ed
  unfold powD at ed
  split at ed
  · split at ed
    · rename_i hz
      cases ed
      cases hx.int; cases hy.int
      exact op_pow pins s σ H _ _ v u Q I rx ry ⟨_, _, rfl, rfl, hz, k.same t (.int _) rfl⟩
    · cases ed
  · cases ed
theorem ok_neg : UnR X (unaryOp .USub) (r1 X.k .neg) := by
  intro pins s σ H x v Q I rx h
  obtain ⟨F, dx, d, t, hx, ed, k⟩ := h
  have ed : negD dx = some d := ed
  unfold negD at ed
  split at ed
  · cases ed
    cases hx.int
    exact un_neg pins s σ H _ v Q I rx ⟨_, rfl, k.same t (.int _) rfl⟩
  · cases ed
/-! comparisons -/
/-- what a pure comparison of data gives -/
theorem ok_eq (hu : X.A.units + 64 < cLine) : OpR X (compareOp .Eq) (r2 X.k .eq) := by
  intro pins s σ H x y v u Q I rx ry h
  obtain ⟨F, dx, dy, d, t, hx, hy, ed, k⟩ := h
  have ed : eqD dx dy = some d := ed
  unfold eqD at ed
  split at ed
  · rename_i c
    cases ed
    simp only [eqOk, Bool.and_eq_true, decide_eq_true_eq] at c
    obtain ⟨as, r1⟩ := Dp.reads I dx x v (hx.dp c.1.1) rx
    obtain ⟨bs, r2⟩ := Dp.reads I dy y u (hy.dp c.1.2) ry
    exact PySem.SeqAt.eq_plain r1 r2 c.1.1 c.1.2 (by omega) ⟨.bl _, H, I, rfl, k.same t (.bl _) rfl⟩
  · cases ed
theorem ok_ne (hu : X.A.units + 64 < cLine) : OpR X (compareOp .NotEq) (r2 X.k .ne) := by
  intro pins s σ H x y v u Q I rx ry h
  obtain ⟨F, dx, dy, d, t, hx, hy, ed, k⟩ := h
  have ed : neD dx dy = some d := ed
  unfold neD at ed
  split at ed
  · rename_i c
    cases ed
    simp only [eqOk, Bool.and_eq_true, decide_eq_true_eq] at c
    obtain ⟨as, r1⟩ := Dp.reads I dx x v (hx.dp c.1.1) rx
    obtain ⟨bs, r2⟩ := Dp.reads I dy y u (hy.dp c.1.2) ry
    exact PySem.SeqAt.ne_plain r1 r2 c.1.1 c.1.2 (by omega) ⟨.bl _, H, I, rfl, k.same t (.bl _) rfl⟩
  · cases ed
theorem cmpOk_iff {x y : PyData} (h : cmpOk x y = true) : x.plain = true ∧ y.plain = true ∧ PySem.W.alike x y = true ∧ x.depth ≤ 64 ∧ x ≠ .none := by
  simp only [cmpOk, Bool.and_eq_true, decide_eq_true_eq] at h
  refine ⟨h.1.1.1.1, h.1.1.1.2, h.1.1.2, h.1.2, fun e => ?_⟩
  subst e
  exact Bool.noConfusion h.2
theorem ok_lt (hu : X.A.units + 64 < cLine) : OpR X (compareOp .Lt) (r2 X.k .lt) := by
  intro pins s σ H x y v u Q I rx ry h
  obtain ⟨F, dx, dy, d, t, hx, hy, ed, k⟩ := h
  have ed : ltD dx dy = some d := ed
  unfold ltD at ed
  split at ed
  · rename_i c
    cases ed
    obtain ⟨p1, p2, c1, c2, c3⟩ := cmpOk_iff c
    obtain ⟨as, r1⟩ := Dp.reads I dx x v (hx.dp p1) rx
    obtain ⟨bs, r2⟩ := Dp.reads I dy y u (hy.dp p2) ry
    exact PySem.W.lt_data r1 r2 c1 c3 (by omega) ⟨.bl _, H, I, rfl, k.same t (.bl _) rfl⟩
  · cases ed
theorem ok_le (hu : X.A.units + 64 < cLine) : OpR X (compareOp .LtE) (r2 X.k .le) := by
  intro pins s σ H x y v u Q I rx ry h
  obtain ⟨F, dx, dy, d, t, hx, hy, ed, k⟩ := h
  have ed : leD' dx dy = some d := ed
  unfold leD' at ed
  split at ed
  · rename_i c
    cases ed
    obtain ⟨p1, p2, c1, c2, c3⟩ := cmpOk_iff c
    obtain ⟨as, r1⟩ := Dp.reads I dx x v (hx.dp p1) rx
    obtain ⟨bs, r2⟩ := Dp.reads I dy y u (hy.dp p2) ry
    exact PySem.W.le_data r1 r2 c1 c3 (by omega) ⟨.bl _, H, I, rfl, k.same t (.bl _) rfl⟩
  · cases ed
theorem ok_gt (hu : X.A.units + 64 < cLine) : OpR X (compareOp .Gt) (r2 X.k .gt) := by
  intro pins s σ H x y v u Q I rx ry h
  obtain ⟨F, dx, dy, d, t, hx, hy, ed, k⟩ := h
  have ed : gtD dx dy = some d := ed
  unfold gtD at ed
  split at ed
  · rename_i c
    cases ed
    obtain ⟨p1, p2, c1, c2, c3⟩ := cmpOk_iff c
    obtain ⟨as, r1⟩ := Dp.reads I dx x v (hx.dp p1) rx
    obtain ⟨bs, r2⟩ := Dp.reads I dy y u (hy.dp p2) ry
    exact PySem.W.gt_data r1 r2 c1 c3 (by omega) ⟨.bl _, H, I, rfl, k.same t (.bl _) rfl⟩
  · cases ed
theorem ok_ge (hu : X.A.units + 64 < cLine) : OpR X (compareOp .GtE) (r2 X.k .ge) := by
  intro pins s σ H x y v u Q I rx ry h
  obtain ⟨F, dx, dy, d, t, hx, hy, ed, k⟩ := h
  have ed : geD dx dy = some d := ed
  unfold geD at ed
  split at ed
  · rename_i c
    cases ed
    obtain ⟨p1, p2, c1, c2, c3⟩ := cmpOk_iff c
    obtain ⟨as, r1⟩ := Dp.reads I dx x v (hx.dp p1) rx
    obtain ⟨bs, r2⟩ := Dp.reads I dy y u (hy.dp p2) ry
    exact PySem.W.ge_data r1 r2 c1 c3 (by omega) ⟨.bl _, H, I, rfl, k.same t (.bl _) rfl⟩
  · cases ed
theorem memOk_iff {x : PyData} {ys : List PyData} (h : memOk x ys = true) : x.plain = true ∧ PyData.plainAll ys = true ∧ min (PyData.depthAll ys) x.depth ≤ 64 := by
  simp only [memOk, Bool.and_eq_true, decide_eq_true_eq] at h
  exact ⟨h.1.1, h.1.2, h.2⟩
theorem keyEq_iff : ∀ (k j : Key), keyEq (keyV k) (keyV j) = decide (k = j)
  | .inl a, .inl b => by
    show PyData.eqv (.int a) (.int b) = _
    simp only [PyData.eqv]
    rw [key_ll]
  | .inr a, .inr b => by
    show PyData.eqv (.str a) (.str b) = _
    simp only [PyData.eqv]
    rw [key_rr]
    by_cases e : a = b
    · simp [e]
    · simp [e]
  | .inl a, .inr b => by
    show PyData.eqv (.int a) (.str b) = _
    simp only [PyData.eqv]
    rw [key_lr]
  | .inr a, .inl b => by
    show PyData.eqv (.str a) (.int b) = _
    simp only [PyData.eqv]
    rw [key_rl]
mutual
theorem eqv_nk : ∀ (a b : PyData) (k j : NK), nkOf a = some k → nkOf b = some j → PyData.eqv a b = NestedKey.beq k j
  | .none, b, k, j, ha, hb => by
    cases ha
    cases b <;> first | (cases hb; simp only [PyData.eqv, NestedKey.beq]; done) | (cases hb; simp only [PyData.eqv, NestedKey.beq]; (rw [Bool.eq_iff_iff]; simp)) | (simp only [nkOf, Option.map_eq_some_iff] at hb; obtain ⟨q, _, rfl⟩ := hb; simp [PyData.eqv, NestedKey.beq]) | (simp [nkOf] at hb)
  | .int i, b, k, j, ha, hb => by
    cases ha
    cases b <;> first | (cases hb; simp only [PyData.eqv, NestedKey.beq]; done) | (cases hb; simp only [PyData.eqv, NestedKey.beq]; (rw [Bool.eq_iff_iff]; simp)) | (simp only [nkOf, Option.map_eq_some_iff] at hb; obtain ⟨q, _, rfl⟩ := hb; simp [PyData.eqv, NestedKey.beq]) | (simp [nkOf] at hb)
  | .str i, b, k, j, ha, hb => by
    cases ha
    cases b <;> first | (cases hb; simp only [PyData.eqv, NestedKey.beq]; done) | (cases hb; simp only [PyData.eqv, NestedKey.beq]; (rw [Bool.eq_iff_iff]; simp)) | (simp only [nkOf, Option.map_eq_some_iff] at hb; obtain ⟨q, _, rfl⟩ := hb; simp [PyData.eqv, NestedKey.beq]) | (simp [nkOf] at hb)
  | .tuple xs, b, k, j, ha, hb => by
    simp only [nkOf, Option.map_eq_some_iff] at ha
    obtain ⟨ks, ea, rfl⟩ := ha
    cases b with
    | tuple ys =>
      simp only [nkOf, Option.map_eq_some_iff] at hb
      obtain ⟨js, eb, rfl⟩ := hb
      simp only [PyData.eqv, NestedKey.beq]
      exact eqv_nks xs ys ks js ea eb
    | none => cases hb; simp [PyData.eqv, NestedKey.beq]
    | int i => cases hb; simp [PyData.eqv, NestedKey.beq]
    | str i => cases hb; simp [PyData.eqv, NestedKey.beq]
    | bool i => simp [nkOf] at hb
    | list i => simp [nkOf] at hb
    | dict i => simp [nkOf] at hb
  | .bool _, _, _, _, ha, _ => by simp [nkOf] at ha
  | .list _, _, _, _, ha, _ => by simp [nkOf] at ha
  | .dict _, _, _, _, ha, _ => by simp [nkOf] at ha
theorem eqv_nks : ∀ (a b : List PyData) (k j : List NK), nksOf a = some k → nksOf b = some j → PyData.eqvAll a b = NestedKey.beqAll k j
  | [], [], k, j, ha, hb => by cases ha; cases hb; simp [PyData.eqvAll, NestedKey.beqAll]
  | [], y :: ys, k, j, ha, hb => by
    cases ha
    simp only [nksOf, Option.bind_eq_some_iff, Option.map_eq_some_iff] at hb
    obtain ⟨q, _, r, _, rfl⟩ := hb
    simp [PyData.eqvAll, NestedKey.beqAll]
  | x :: xs, [], k, j, ha, hb => by
    cases hb
    simp only [nksOf, Option.bind_eq_some_iff, Option.map_eq_some_iff] at ha
    obtain ⟨q, _, r, _, rfl⟩ := ha
    simp [PyData.eqvAll, NestedKey.beqAll]
  | x :: xs, y :: ys, k, j, ha, hb => by
    simp only [nksOf, Option.bind_eq_some_iff, Option.map_eq_some_iff] at ha hb
    obtain ⟨q, e1, r, e2, rfl⟩ := ha
    obtain ⟨q', e3, r', e4, rfl⟩ := hb
    rw [PyData.eqvAll, NestedKey.beqAll, eqv_nk x y _ _ e1 e3, eqv_nks xs ys _ _ e2 e4]
end
theorem keyT_iff {a b : PyData} {k j : NK} (ha : nkOf a = some k) (hb : nkOf b = some j) : keyEq a b = decide (k = j) := by
  unfold keyEq
  rw [eqv_nk a b k j ha hb, NestedKey.decide_eq]
theorem keyEq_tup (k : Key) (j : List PyData) : keyEq (keyV k) (.tuple j) = false := by
  cases k <;> simp [keyEq, keyV, PyData.eqv]
/-- a datum that may be a key -/
theorem isKey_cases {d : PyData} (h : isKey d = true) : (∃ k : Key, d = keyV k) ∨ ∃ (ds : List PyData) (k : NK), d = .tuple ds ∧ nkOf d = some k ∧ k.depth ≤ 8 := by
  cases d with
  | int i => exact .inl ⟨.inl i, rfl⟩
  | str i => exact .inl ⟨.inr i, rfl⟩
  | tuple l =>
    simp only [isKey] at h
    split at h
    · rename_i k e
      exact .inr ⟨l, k, rfl, e, of_decide_eq_true h⟩
    · cases h
  | _ => exact Bool.noConfusion h
mutual
theorem nested_is {K : Kx} {F : Fz} {H : Hp} {h : Heap} (ok : HOk K.P K.w H h) : ∀ {v : V} {d : PyData} (k : NK) (u : Value), Rp K F H v d → L2.RelV v u → nkOf d = some k → NestedIs h k u
  | _, _, k, u, .non, r, e => by cases e; cases r; exact .none
  | _, _, k, u, .bl b, r, e => by simp [nkOf] at e
  | _, _, k, u, .int i, r, e => by cases e; obtain ⟨t, rfl⟩ := r; exact .int _ _
  | _, _, k, u, .str x, r, e => by cases e; obtain ⟨t, rfl⟩ := r; exact .text _ _
  | _, _, k, u, .lst f q t, r, e => by simp [nkOf] at e
  | _, _, k, u, .tup f q t, r, e => by
    simp only [nkOf, Option.map_eq_some_iff] at e
    obtain ⟨ks, e1, rfl⟩ := e
    cases r
    obtain ⟨o, eo, _⟩ := q
    obtain ⟨_, _, its, rv, o', h1, h2, n, h3⟩ := ok _ _ eo
    exact .tup h1 h2 h3 (by simpa using nested_all ok ks its t rv e1)
  | _, _, k, u, .dk f q n t, r, e => by simp [nkOf] at e
  | _, _, k, u, .dt f q n m t w, r, e => by simp [nkOf] at e
theorem nested_all {K : Kx} {F : Fz} {H : Hp} {h : Heap} (ok : HOk K.P K.w H h) : ∀ {vs : List V} {ds : List PyData} (ks : List NK) (us : List Value), RpAll K F H vs ds → Vals vs us → nksOf ds = some ks → NestedAll h ks us
  | _, _, ks, us, .nil, r, e => by cases e; cases r; exact .nil
  | _, _, ks, us, .cons x t, r, e => by
    simp only [nksOf, Option.bind_eq_some_iff, Option.map_eq_some_iff] at e
    obtain ⟨q, e1, r', e2, rfl⟩ := e
    cases r with
    | cons r1 r2 => exact .cons (nested_is ok q _ x r1 e1) (nested_all ok r' _ t r2 e2)
end
section
variable {K : Kx} {F : Fz} {H : Hp}
theorem Rv.key {v : V} {k : Key} (h : Rv K F H v (keyV k)) : v = kV k := by
  cases k with
  | inl i => exact h.int
  | inr i => exact h.str
/-- the dict at a -/
inductive DRep (K : Kx) (F : Fz) (H : Hp) (a : Addr) (es : List (PyData × PyData)) : Prop where
  | dk {kvs : List (Key × V)} : Rd H a (.dK kvs) → kvs.map (fun p => keyV p.1) = es.map (·.1) → RpAll K F H (kvs.map (·.2)) (es.map (·.2)) → DRep K F H a es
  | dt {xs : TDs} : Rd H a (TD K a xs) → DKeys es → xs.map (fun x => some x.1) = es.map (fun e => nkOf e.1) → RpAll K F H (xs.map fun x => .ref x.2.1) (es.map (·.1)) → RpVs K F H (xs.map fun x => x.2.2) (es.map (·.2)) → DRep K F H a es
theorem Rv.dict {v : V} {es : List (PyData × PyData)} (h : Rv K F H v (.dict es)) : ∃ a, v = .ref a ∧ DRep K F H a es := by
  rcases h with h | ⟨a, rfl, h⟩
  · cases h with
    | dk f q e r => exact ⟨_, rfl, .dk q e r⟩
    | dt f q n e r t => exact ⟨_, rfl, .dt q n e r t⟩
  · cases h with
    | dk q e r => exact ⟨_, rfl, .dk q e r⟩
    | dt q n e r t => exact ⟨_, rfl, .dt q n e r t⟩
theorem look_k : ∀ {kvs : List (Key × V)} {es : List (PyData × PyData)} (k : Key), kvs.map (fun p => keyV p.1) = es.map (·.1) → RpAll K F H (kvs.map (·.2)) (es.map (·.2)) →
    (valV kvs k = none ∧ lookD es (keyV k) = none) ∨ ∃ v d, valV kvs k = some v ∧ lookD es (keyV k) = some d ∧ Rp K F H v d
  | [], [], _, _, _ => .inl ⟨rfl, rfl⟩
  | [], _ :: _, _, e, _ => nomatch e
  | _ :: _, [], _, e, _ => nomatch e
  | p :: kvs, q :: es, k, e, r => by
    rw [List.map_cons, List.map_cons] at e r
    obtain ⟨e1, e2⟩ := List.cons.inj e
    cases r with
    | cons r1 r2 =>
      have ek := keyEq_iff p.1 k
      rw [e1] at ek
      by_cases h : p.1 = k
      · refine .inr ⟨p.2, q.2, valV_pos h, ?_, r1⟩
        rw [decide_eq_true h] at ek
        unfold lookD
        rw [List.find?_cons, ek]
        rfl
      · rw [decide_eq_false h] at ek
        rw [valV_neg h]
        have el : lookD (q :: es) (keyV k) = lookD es (keyV k) := by
          unfold lookD
          rw [List.find?_cons, ek]
        rw [el]
        exact look_k k e2 r2
theorem look_t : ∀ {xs : TDs} {es : List (PyData × PyData)} {d : PyData} (k : NK), nkOf d = some k → xs.map (fun x => some x.1) = es.map (fun e => nkOf e.1) → RpVs K F H (xs.map fun x => x.2.2) (es.map (·.2)) →
    (atKey xs k = none ∧ lookD es d = none) ∨ ∃ p v x, atKey xs k = some p ∧ L2.RelV v p.2 ∧ lookD es d = some x ∧ Rp K F H v x
  | [], [], _, _, _, _, _ => .inl ⟨rfl, rfl⟩
  | [], _ :: _, _, _, _, e, _ => nomatch e
  | _ :: _, [], _, _, _, e, _ => nomatch e
  | p :: xs, q :: es, d, k, hd, e, r => by
    rw [List.map_cons, List.map_cons] at e r
    obtain ⟨e1, e2⟩ := List.cons.inj e
    cases r with
    | cons r0 r1 r2 =>
      have ek := keyT_iff e1.symm hd
      by_cases h : p.1 = k
      · refine .inr ⟨p.2, _, q.2, ?_, r0, ?_, r1⟩
        · unfold atKey
          rw [List.find?_cons, decide_eq_true h]
          rfl
        · rw [decide_eq_true h] at ek
          unfold lookD
          rw [List.find?_cons, ek]
          rfl
      · rw [decide_eq_false h] at ek
        have el : lookD (q :: es) d = lookD es d := by
          unfold lookD
          rw [List.find?_cons, ek]
        have ea : atKey (p :: xs) k = atKey xs k := by
          unfold atKey
          rw [List.find?_cons, decide_eq_false h]
        rw [el, ea]
        exact look_t k hd e2 r2
end
/-! dicts -/
theorem KV.nil_right {vs : List (Key × Value)} (h : KV ([] : List (Key × V)) vs) : vs = [] := by cases h; rfl
theorem dk_nil {P : Program} {w : World} {H : Hp} {h : Heap} {a : Addr} (ok : HOk P w H h) (e : Rd H a (.dK [])) : (a == sysModules) = false ∧ h.DictOfH (nestedKind P w) a [] := by
  obtain ⟨_, hd, vs, rel, o, es, ep, h1, h2, h3, h4, h5, h6⟩ := dk_rd ok e
  have ev : vs = [] := KV.nil_right rel
  subst ev
  refine ⟨hd, o, es, ep, h1, h2, h3, ?_, ?_, List.nodup_nil⟩
  · cases h5' : es.toList with
    | nil => rfl
    | cons x r => rw [h5'] at h5; cases h5
  · intro x hx
    cases hx
theorem td_at {K : Kx} {F : Fz} {H : Hp} {h : Heap} {a : Addr} {xs : TDs} {es : List (PyData × PyData)} (ok : HOk K.P K.w H h) (e : Rd H a (TD K a xs)) (hk : ∀ p ∈ es, isKey p.1 = true) (n : xs.map (fun x => some x.1) = es.map (fun e => nkOf e.1)) (r : RpAll K F H (xs.map fun x => .ref x.2.1) (es.map (·.1))) :
    xs.length ≤ sizeLine ∧ (a == sysModules) = false ∧ h.DictOfH (nestedKind K.P K.w) a xs := by
  obtain ⟨⟨hz, hd, o, es', ep, h1, h2, h3, h4, h5⟩, _, _⟩ := rd_of ok e
  refine ⟨hz, hd, o, es', ep, h1, h2, h3, h4, ?_, h5⟩
  have all : ∀ (xs : TDs) (es : List (PyData × PyData)), (∀ p ∈ es, isKey p.1 = true) → xs.map (fun x => some x.1) = es.map (fun e => nkOf e.1) → RpAll K F H (xs.map fun x => .ref x.2.1) (es.map (·.1)) → ∀ x ∈ xs, (nestedKind K.P K.w).is h x.1 x.2.1 := by
    intro xs
    induction xs with
    | nil => intro es _ _ _ x hx; cases hx
    | cons y ys ih =>
      intro es hk n r x hx
      cases es with
      | nil => cases n
      | cons p es =>
        rw [List.map_cons, List.map_cons] at n r
        obtain ⟨n1, n2⟩ := List.cons.inj n
        cases r with
        | cons r1 r2 =>
          rcases List.mem_cons.mp hx with rfl | hx
          · have i1 := nested_is ok x.1 (.ref x.2.1) r1 rfl n1.symm
            refine ⟨i1, ?_⟩
            rcases isKey_cases (hk p List.mem_cons_self) with ⟨k, e⟩ | ⟨ds, k, e1, e2, e3⟩
            · rw [e] at r1
              cases k <;> cases r1
            · rw [e2] at n1
              cases n1
              exact e3
          · exact ih es (fun q hq => hk q (List.mem_cons_of_mem _ hq)) n2 r2 x hx
  exact all xs es hk n r
/-- a look-up that the library has a rule for -/
structure DLook (X : Cx) (s : Shared) (a : Addr) (u : Value) (o : Option Value) : Prop where
  ii : X.A.units + 66 < cLine → ∀ (Q : Value → Shared → Prop) (E : Value → Shared → Prop), (∀ tk, Q (.bool o.isSome) { s with toks := tk }) → wpAny (model X.prog X.w) X.A (compareOp .In u (.ref a)) Q E s
  ni : X.A.units + 66 < cLine → ∀ (Q : Value → Shared → Prop) (E : Value → Shared → Prop), (∀ tk, Q (.bool (!o.isSome)) { s with toks := tk }) → wpAny (model X.prog X.w) X.A (compareOp .NotIn u (.ref a)) Q E s
  gi : X.A.units + 66 < cLine → ∀ (v : Value) (Q : Value → Shared → Prop) (E : Value → Shared → Prop), o = some v → (∀ tk, Q v { s with toks := tk }) → wpAny (model X.prog X.w) X.A (getItem (.ref a) u) Q E s
  g1 : X.A.units + 66 < cLine → ∀ (Q : Value → Shared → Prop) (E : Value → Shared → Prop), (∀ tk, Q (o.getD .none) { s with toks := tk }) → wpAny (model X.prog X.w) X.A (call (.builtin "dict.get") [.ref a, u]) Q E s
  g2 : X.A.units + 66 < cLine → ∀ (z : Value) (Q : Value → Shared → Prop) (E : Value → Shared → Prop), (∀ tk, Q (o.getD z) { s with toks := tk }) → wpAny (model X.prog X.w) X.A (call (.builtin "dict.get") [.ref a, u, z]) Q E s
theorem dlook_k {X : Cx} {s : Shared} {a : Addr} {u : Value} {k : Key} {vs : List (Key × Value)} (hu : keyIs k u = true) (hd : (a == sysModules) = false) (dd : s.heap.DictOf (mixKind X.prog X.w) a vs) : DLook X s a u (valueAt vs k) where
  ii := fun _ Q E h => wpAny_in_of hu hd dd.mapOf (h _)
  ni := fun _ Q E h => wpAny_notIn_of hu hd dd.mapOf (h _)
  gi := fun _ v Q E e h => wpAny_getItem_of hu dd.mapOf e (h _)
  g1 := fun _ Q E h => call_meetsIn PySem.F.slot_dict_get dd.typeIs PySem.F.entry_dict_get (PySem.F.args_dict_get_2 _ _) (meets_dict_get (mixKind X.prog X.w) a hu hd) ⟨_, dd.mapOf, h _⟩
  g2 := fun _ z Q E h => call_meetsIn PySem.F.slot_dict_get dd.typeIs PySem.F.entry_dict_get (PySem.F.args_dict_get_3 _ _ _) (meets_dict_get_default (mixKind X.prog X.w) a hu hd z) ⟨_, dd.mapOf, h _⟩
theorem dlook_t {X : Cx} {s : Shared} {a b : Addr} {k : NK} {xs : TDs} (hk : (nestedKind X.prog X.w).is s.heap k b) (hd : (a == sysModules) = false) (dd : s.heap.DictOfH (nestedKind X.prog X.w) a xs) : DLook X s a (.ref b) ((atKey xs k).map (·.2)) where
  ii := fun hu Q E h => wpAny_in_heap (by show X.A.units + 1 + 8 < cLine; omega) hk hd dd (by rw [← Option.isSome_map]; exact h _)
  ni := fun hu Q E h => wpAny_notIn_heap (by show X.A.units + 1 + 8 < cLine; omega) hk hd dd (by rw [← Option.isSome_map]; exact h _)
  gi := fun hu v Q E e h => by
    obtain ⟨p, e1, rfl⟩ := Option.map_eq_some_iff.mp e
    exact wpAny_getItem_heap (by show X.A.units + 1 + 8 < cLine; omega) hk dd e1 (h _)
  g1 := fun hu Q E h => call_meetsIn PySem.F.slot_dict_get dd.typeIs PySem.F.entry_dict_get (PySem.F.args_dict_get_2 _ _) (meetsH_dict_get (nestedKind X.prog X.w) a b hd) ⟨by show X.A.units + 1 + 8 < cLine; omega, k, xs, hk, dd, h _⟩
  g2 := fun hu z Q E h => call_meetsIn PySem.F.slot_dict_get dd.typeIs PySem.F.entry_dict_get (PySem.F.args_dict_get_3 _ _ _) (meetsH_dict_get_default (nestedKind X.prog X.w) a b hd z) ⟨by show X.A.units + 1 + 8 < cLine; omega, k, xs, hk, dd, h _⟩
/-- the key and the dict fit -/
theorem dget_of {X : Cx} {pins : List (Addr × Obj)} {s : Shared} {σ : L2.St} {H : Hp} {F : Fz} {a : Addr} {es : List (PyData × PyData)} {y : V} {u : Value} {k : PyData} (I : Inv X pins σ H s) (D : DRep X.k F H a es) (hy : Rv X.k F H y k) (ry : L2.RelV y u) (fit : keyFit es k = true) :
    ∃ o, DLook X s a u o ∧ ((o = none ∧ lookD es k = none) ∨ ∃ w v d, o = some w ∧ L2.RelV v w ∧ lookD es k = some d ∧ Rp X.k F H v d) := by
  unfold keyFit at fit
  rw [Bool.and_eq_true] at fit
  obtain ⟨hk, hf⟩ := fit
  rcases isKey_cases hk with ⟨k', rfl⟩ | ⟨ds, k', rfl, ek, dk⟩
  · have ey := hy.key
    subst ey
    cases D with
    | @dk kvs q e r =>
      obtain ⟨_, hd, vs, rel, dd⟩ := dk_rd I.hok q
      refine ⟨valueAt vs k', dlook_k (kV_is (P := X.prog) (w := X.w) ry) hd dd, ?_⟩
      have rl := rel.val k'
      rcases look_k k' e r with ⟨h1, h2⟩ | ⟨v, d, h1, h2, h3⟩
      · rw [h1] at rl
        exact .inl ⟨RelO.none_of rl, h2⟩
      · rw [h1] at rl
        obtain ⟨w, hw, rw'⟩ := RelO.some_of rl
        exact .inr ⟨w, v, d, hw, rw', h2, h3⟩
    | @dt xs q n e r t =>
      exfalso
      refine dt_flat n.1 r ?_
      rw [List.all_eq_true] at hf ⊢
      intro p hp
      have := hf p hp
      cases k' with
      | inl i => cases hp1 : p.1 <;> simp_all [flatKey, keyV, isKey0]
      | inr i => cases hp1 : p.1 <;> simp_all [flatKey, keyV, isKey0]
  · obtain ⟨b, xs', rfl, qb, rb, wb⟩ := hy.tup
    cases (show u = Value.ref b from ry)
    have isb : (nestedKind X.prog X.w).is s.heap k' b := ⟨nested_is (K := X.k) I.hok k' (.ref b) wb rfl ek, dk⟩
    cases D with
    | @dk kvs q e r =>
      cases kvs with
      | nil =>
        cases es with
        | nil =>
          obtain ⟨hd, dd⟩ := dk_nil I.hok q
          exact ⟨_, dlook_t isb hd dd, .inl ⟨rfl, rfl⟩⟩
        | cons x z => cases e
      | cons p w =>
        exfalso
        cases es with
        | nil => cases e
        | cons x z =>
          rw [List.map_cons, List.map_cons] at e
          rw [List.all_cons, Bool.and_eq_true, ← (List.cons.inj e).1] at hf
          obtain ⟨p1, p2⟩ := p
          cases p1 <;> exact Bool.noConfusion hf.1
    | @dt xs q n e r t =>
      obtain ⟨_, hd, dd⟩ := td_at I.hok q n.2 e r
      refine ⟨_, dlook_t isb hd dd, ?_⟩
      rcases look_t k' ek e t with ⟨h1, h2⟩ | ⟨p, v, x, h1, h2, h3, h4⟩
      · exact .inl ⟨by rw [h1]; rfl, h2⟩
      · exact .inr ⟨p.2, v, x, by rw [h1]; rfl, h2, h3, h4⟩
section
variable {X : Cx}
theorem in_run (hu : X.A.units + 66 < cLine) {pins : List (Addr × Obj)} {s : Shared} {σ : L2.St} {H : Hp} {x y : V} {v u : Value} {F : Fz} {dx dy : PyData} {b : Bool} (I : Inv X pins σ H s) (rx : L2.RelV x v) (ry : L2.RelV y u)
    (hx : Rv X.k F H x dx) (hy : Rv X.k F H y dy) (eb : inB dx dy = some b) : (∀ Q : VK, Q (.bl b) H → wpAny (model X.prog X.w) X.A (compareOp .In v u) (EP X pins σ Q) X.xe s) ∧ ∀ Q : VK, Q (.bl (!b)) H → wpAny (model X.prog X.w) X.A (compareOp .NotIn v u) (EP X pins σ Q) X.xe s := by
  unfold inB at eb
  split at eb
  · split at eb
    · rename_i c
      cases eb
      obtain ⟨c1, c2, c3⟩ := memOk_iff c
      obtain ⟨as, r1⟩ := Dp.reads I dx x v (hx.dp c1) rx
      obtain ⟨bs, r2⟩ := Dp.reads I _ y u (hy.dp (by simpa [PyData.plain] using c2)) ry
      exact ⟨fun Q q => PySem.SeqAt.in_list_data r2 r1 c2 c1 (by omega) ⟨.bl _, H, I, rfl, q⟩, fun Q q => PySem.SeqAt.notIn_list_data r2 r1 c2 c1 (by omega) ⟨.bl _, H, I, rfl, q⟩⟩
    · cases eb
  · split at eb
    · rename_i c
      cases eb
      obtain ⟨c1, c2, c3⟩ := memOk_iff c
      obtain ⟨as, r1⟩ := Dp.reads I dx x v (hx.dp c1) rx
      obtain ⟨bs, r2⟩ := Dp.reads I _ y u (hy.dp (by simpa [PyData.plain] using c2)) ry
      exact ⟨fun Q q => PySem.SeqAt.in_tuple_data r2 r1 c2 c1 (by omega) ⟨.bl _, H, I, rfl, q⟩, fun Q q => PySem.SeqAt.notIn_tuple_data r2 r1 c2 c1 (by omega) ⟨.bl _, H, I, rfl, q⟩⟩
    · cases eb
  · split at eb
    · rename_i es' c
      cases eb
      obtain ⟨a, rfl, D⟩ := hy.dict
      cases ry
      obtain ⟨o, g, h⟩ := dget_of I D hx rx c
      have ho : o.isSome = (lookD es' dx).isSome := by
        rcases h with ⟨h1, h2⟩ | ⟨w, v', d, h1, _, h2, _⟩
        · rw [h1, h2]; rfl
        · rw [h1, h2]; rfl
      exact ⟨fun Q q => g.ii hu _ _ fun tk => ⟨.bl _, H, I.tok tk, rfl, by rw [ho]; exact q⟩, fun Q q => g.ni hu _ _ fun tk => ⟨.bl _, H, I.tok tk, rfl, by rw [ho]; exact q⟩⟩
    · cases eb
  · split at eb
    · rename_i x' y' c
      cases eb
      cases hx.str; cases hy.str
      have e1 : ∃ cc, x' = ⟨#[cc]⟩ := by
        obtain ⟨cps⟩ := x'
        obtain ⟨l⟩ := cps
        match l, c with
        | [cc], _ => exact ⟨cc, rfl⟩
      obtain ⟨cc, rfl⟩ := e1
      refine ⟨fun Q q => op_in_sign pins s σ H _ _ v u Q I rx ry ⟨cc, _, rfl, rfl, q⟩, fun Q q => op_notIn_sign pins s σ H _ _ v u Q I rx ry ⟨cc, _, rfl, rfl, q⟩⟩
    · cases eb
  · cases eb
theorem ok_in (hu : X.A.units + 66 < cLine) : OpR X (compareOp .In) (r2 X.k .in_) := by
  intro pins s σ H x y v u Q I rx ry h
  obtain ⟨F, dx, dy, d, t, hx, hy, ed, k⟩ := h
  have ed : inD dx dy = some d := ed
  obtain ⟨b, eb, rfl⟩ := Option.map_eq_some_iff.mp ed
  exact (in_run hu I rx ry hx hy eb).1 Q (k.same t (.bl _) rfl)
theorem ok_nin (hu : X.A.units + 66 < cLine) : OpR X (compareOp .NotIn) (r2 X.k .nin) := by
  intro pins s σ H x y v u Q I rx ry h
  obtain ⟨F, dx, dy, d, t, hx, hy, ed, k⟩ := h
  have ed : ninD dx dy = some d := ed
  obtain ⟨b, eb, rfl⟩ := Option.map_eq_some_iff.mp ed
  exact (in_run hu I rx ry hx hy eb).2 Q (k.same t (.bl _) rfl)
theorem isNon {K : Kx} {F : Fz} {H : Hp} {x : V} {d : PyData} (hx : Rv K F H x d) : decide (x = .non) = isNoneD d := by
  rcases hx with hx | ⟨a, rfl, hx⟩
  · cases hx <;> rfl
  · cases hx <;> rfl
theorem ok_is : OpR X (compareOp .Is) (r2 X.k .is_) := by
  intro pins s σ H x y v u Q I rx ry h
  obtain ⟨F, dx, dy, d, t, hx, hy, ed, k⟩ := h
  have ed : isD dx dy = some d := ed
  obtain ⟨b, eb, rfl⟩ := Option.map_eq_some_iff.mp ed
  unfold isB at eb
  split at eb
  · cases eb
    cases hy.non
    exact op_isN pins s σ H _ _ v u Q I rx ry ⟨rfl, by rw [isNon hx]; exact k.same t (.bl _) rfl⟩
  · cases eb
    cases hx.bl; cases hy.bl
    exact op_isBl pins s σ H _ _ v u Q I rx ry ⟨_, _, rfl, rfl, k.same t (.bl _) rfl⟩
  · cases eb
theorem ok_isn : OpR X (compareOp .IsNot) (r2 X.k .isn) := by
  intro pins s σ H x y v u Q I rx ry h
  obtain ⟨F, dx, dy, d, t, hx, hy, ed, k⟩ := h
  have ed : isnD dx dy = some d := ed
  obtain ⟨b, eb, rfl⟩ := Option.map_eq_some_iff.mp ed
  unfold isB at eb
  split at eb
  · cases eb
    cases hy.non
    exact op_notN pins s σ H _ _ v u Q I rx ry ⟨rfl, by rw [isNon hx]; exact k.same t (.bl _) rfl⟩
  · cases eb
    cases hx.bl; cases hy.bl
    exact op_notBl pins s σ H _ _ v u Q I rx ry ⟨_, _, rfl, rfl, k.same t (.bl _) rfl⟩
  · cases eb
end
end
end Z

/-! soundness: subscripts, slices, built-in calls -/
namespace Z
open PySem PySem.Spec PyProof.Rows L2
theorem ixOf_eq (n : Nat) (i : Int) : ixOf n i = L2.ixN n i := rfl
theorem slIx_eq (n d : Nat) (o : Option Int) : slIx n d o = HT.sIx n d o := by cases o <;> rfl
theorem cut_eq (xs : List V) (lo hi : Option Int) : cutV xs lo hi = cut xs lo hi := by
  unfold cutV cut
  rw [slIx_eq, slIx_eq]
section
variable {K : Kx} {F : Fz} {H : Hp}
theorem RpAll.cut {vs : List V} {ds : List PyData} (h : RpAll K F H vs ds) (lo hi : Option Int) : RpAll K F H (Z.cut vs lo hi) (Z.cut ds lo hi) := by
  unfold Z.cut
  rw [h.length]
  exact (h.drop _).take _
theorem RpAll.atI {vs : List V} {ds : List PyData} {i : Int} {d : PyData} (h : RpAll K F H vs ds) (e : atD ds i = some d) : ∃ v, L2.atI vs i = some v ∧ Rp K F H v d := by
  unfold atD at e
  obtain ⟨j, e1, e2⟩ := Option.bind_eq_some_iff.mp e
  obtain ⟨v, e3, r⟩ := h.get' e2
  refine ⟨v, ?_, r⟩
  unfold L2.atI
  rw [h.length, ← ixOf_eq, e1]
  exact e3
end
section
variable {X : Cx}
/-- o[i] by values, with dicts -/
theorem ok_ix (hu : X.A.units + 66 < cLine) : IxR X (r2 X.k .ix) := by
  intro value slice pins s σ H x y v u Q I rx ry h hs
  obtain ⟨F, dx, dy, d, t, hx, hy, ed, k⟩ := h
  have ed : ixD dx dy = some d := ed
  have hb := big_eq
  unfold ixD at ed
  split at ed
  · obtain ⟨a, xs, rfl, q1, t1⟩ := hx.lst
    cases hy.int
    obtain ⟨w, e, r⟩ := t1.atI ed
    exact ix_list value slice pins s σ H _ _ v u Q I rx ry ⟨a, xs, _, w, rfl, rfl, SqL.of q1, e, k.same t r rfl⟩ hs
  · obtain ⟨a, xs, rfl, q1, t1, w1⟩ := hx.tup
    cases hy.int
    obtain ⟨w, e, r⟩ := t1.atI ed
    exact ix_tup value slice pins s σ H _ _ v u Q I rx ry ⟨a, xs, _, w, rfl, rfl, q1.sq, e, k.same t r rfl⟩ hs
  · split at ed
    · rename_i hz
      cases hx.str
      cases hy.int
      unfold atD signs at ed
      obtain ⟨j, e1, e2⟩ := Option.bind_eq_some_iff.mp ed
      rw [List.getElem?_map] at e2
      obtain ⟨c, e3, rfl⟩ := Option.map_eq_some_iff.mp e2
      rw [List.length_map] at e1
      refine ix_str value slice pins s σ H _ _ v u Q I rx ry ⟨_, _, c, rfl, rfl, by rw [← hb]; exact hz, ?_, k.same t (.str _) rfl⟩ hs
      unfold L2.atI
      rw [← ixOf_eq, e1]
      exact e3
    · cases ed
  · split at ed
    · rename_i es' c
      obtain ⟨a, rfl, D⟩ := hx.dict
      cases rx
      obtain ⟨o, g, h⟩ := dget_of I D hy ry c
      rcases h with ⟨h1, h2⟩ | ⟨w, v', d', h1, h3, h2, h4⟩
      · rw [ed] at h2; cases h2
      · rw [ed] at h2
        cases h2
        have ty : s.TypeIs (.ref a) "dict" := by
          cases D with
          | dk q _ _ => exact (isD_at I (.inl ⟨_, q⟩)).1
          | dt q n e r _ => exact (td_at I.hok q n.2 e r).2.2.typeIs
        unfold subscriptTail
        refine wpAny_bind ?_
        rw [getitemInPython_of_ne ty.not_modules]
        refine wpAny_bind (wpAny_specialOf ty PySem.F.slot_dict_getitem.lookup ?_)
        have fin : wpAny (model X.prog X.w) X.A (subscripted slice false (.ref a) u) (fun r s₃ => wpAny (model X.prog X.w) X.A (letTemporaryGo value (.ref a) r >>= fun _ => pure r) (EP X pins σ Q) X.xe s₃) X.xe s := by
          rw [hs]
          exact wpAny_operating (g.gi hu w _ _ h1 fun tk => wpAny_bind (wpAny_letTemporaryGo (wpAny_pure ⟨v', H, I.tok tk, h3, k.same t h4 rfl⟩)))
        exact wpAny_pure (wpAny_bind fin)
    · cases ed
  · cases ed
/-! slices -/
def rS (K : Kx) : V → Option Int → Option Int → Hp → VK → Prop := fun x lo hi H Q => ∃ F dx d, (∀ a, F a → H a ≠ none) ∧ Rv K F H x dx ∧ cutD dx lo hi = some d ∧ Res K F H true d Q
theorem ok_sl : L2.SlR X (rS X.k) := by
  intro pins s σ H x v vl vu lo hi sl Q I rx hs pl pu h
  obtain ⟨F, dx, d, t, hx, ed, k⟩ := h
  have hb := big_eq
  unfold cutD at ed
  split at ed
  · cases ed
    obtain ⟨a, xs, rfl, q1, t1⟩ := hx.lst
    exact sl_list pins s σ H _ v vl vu lo hi sl Q I rx hs pl pu ⟨a, xs, rfl, SqL.of q1, fun p hp => by rw [cut_eq]; exact k.lst t (t1.cut lo hi) hp⟩
  · cases ed
    obtain ⟨a, xs, rfl, q1, t1, w1⟩ := hx.tup
    cases rx
    obtain ⟨its, r, ht, hz⟩ := I.tuple q1.sq
    have hlen : its.toArray.size = xs.length := by rw [List.size_toArray]; exact r.length.symm
    refine ⟨"tuple", _, PyProof.Rows.slot_tuple_getitem.lookup, ht.typeIs, ?_⟩
    by_cases hw : HT.sIx xs.length 0 lo = 0 ∧ HT.sIx xs.length xs.length hi = xs.length
    · refine L2.getItem_tuple_whole ht hs pl pu (by rw [hlen]; exact hw) ⟨.ref a, H, I, rfl, ?_⟩
      have e : ∀ {α : Type} (l : List α), l.length = xs.length → Z.cut l lo hi = l := by
        intro α l hl
        unfold Z.cut
        rw [slIx_eq, slIx_eq, hl, hw.1, hw.2, List.drop_zero, Nat.sub_zero, ← hl, List.take_length]
      rw [e _ t1.length.symm] at k
      exact k.same t w1 rfl
    · refine HT.getItem_tuple_cut ht hs pl pu (by rw [hlen]; exact hw) ?_ (by rw [hlen]; exact hz)
      rw [hlen]
      have rv : Vals (Z.cut xs lo hi) ((its.drop (HT.sIx xs.length 0 lo)).take (HT.sIx xs.length xs.length hi - HT.sIx xs.length 0 lo)) := by
        unfold Z.cut
        rw [slIx_eq, slIx_eq]
        exact (r.drop _).take _
      have hz2 : (Z.cut xs lo hi).length ≤ sizeLine := by
        rw [← cut_eq]
        exact Nat.le_trans (cutV_length xs lo hi) hz
      exact ⟨.ref _, _, laidT I rv hz2, rfl, k.tup t (t1.cut lo hi) (I.hok.fresh (Nat.le_refl _)) rfl⟩
  · split at ed
    · rename_i z hz
      cases ed
      cases hx.str
      refine sl_str pins s σ H _ v vl vu lo hi sl Q I rx hs pl pu ⟨_, rfl, by rw [← hb]; exact hz, ?_⟩
      have e : cutS z lo hi = ⟨(Z.cut z.cps.toList lo hi).toArray⟩ := by
        unfold cutS Z.cut
        rw [slIx_eq, slIx_eq]
        rfl
      rw [e]
      exact k.same t (.str _) rfl
    · cases ed
  · cases ed
/-! built-in calls of one argument -/
theorem ok_len : CallR X (.builtin "len") (rL1 X.k .len) := by
  intro pins s σ H xs us Q I rs h
  obtain ⟨x, rfl, F, dx, d, t, hx, ed, k⟩ := h
  have ed : lenD dx = some d := ed
  have hb := big_eq
  unfold lenD at ed
  split at ed
  · cases ed
    obtain ⟨a, xs, rfl, q1, t1⟩ := hx.lst
    exact call_len_seq pins s σ H _ us Q I rs ⟨a, xs, rfl, .inl (SqL.of q1), by rw [t1.length]; exact k.same t (.int _) rfl⟩
  · cases ed
    obtain ⟨a, xs, rfl, q1, t1, w1⟩ := hx.tup
    exact call_len_seq pins s σ H _ us Q I rs ⟨a, xs, rfl, .inr q1.sq, by rw [t1.length]; exact k.same t (.int _) rfl⟩
  · cases ed
    obtain ⟨a, rfl, D⟩ := hx.dict
    obtain ⟨u, rfl, r⟩ := vals1 rs
    cases r
    cases D with
    | @dk kvs q e r =>
      have hl := congrArg List.length e
      rw [List.length_map, List.length_map] at hl
      exact d_len I q fun t' s' I' => ⟨.int _, H, I', ⟨_, rfl⟩, by rw [hl]; exact k.same t (.int _) rfl⟩
    | @dt xs q n e r w =>
      obtain ⟨hz, hd, dd⟩ := td_at I.hok q n.2 e r
      have hl := congrArg List.length e
      rw [List.length_map, List.length_map] at hl
      have h63 := line63
      exact PySem.call_len_dictH hd dd (by omega) ⟨.int _, H, I.tok _, ⟨_, rfl⟩, by rw [hl]; exact k.same t (.int _) rfl⟩
  · split at ed
    · rename_i z hz
      cases ed
      cases hx.str
      exact call_len_str pins s σ H _ us Q I rs ⟨_, rfl, by rw [← hb]; exact hz, k.same t (.int _) rfl⟩
    · cases ed
  · cases ed
theorem ok_abs : CallR X (.builtin "abs") (rL1 X.k .abs) := by
  intro pins s σ H xs us Q I rs h
  obtain ⟨x, rfl, F, dx, d, t, hx, ed, k⟩ := h
  have ed : absD dx = some d := ed
  unfold absD at ed
  split at ed
  · cases ed
    cases hx.int
    refine call_abs pins s σ H _ us Q I rs ⟨_, rfl, ?_⟩
    have e : ∀ i : Int, (if i < 0 then -i else i) = (i.natAbs : Int) := fun i => by split <;> omega
    rw [e]
    exact k.same t (.int _) rfl
  · cases ed
theorem ok_int : CallR X (.type "int") (rL1 X.k .int) := by
  intro pins s σ H xs us Q I rs h
  obtain ⟨x, rfl, F, dx, d, t, hx, ed, k⟩ := h
  have ed : intD dx = some d := ed
  unfold intD at ed
  split at ed
  · cases ed
    cases hx.int
    exact call_int1 pins s σ H _ us Q I rs (.inl ⟨_, rfl, k.same t (.int _) rfl⟩)
  · cases ed
/-- sum of a tuple of ints -/
theorem sum_tupZ {prog : Program} {w : World} {A : Around} {E : Value → Shared → Prop} {s : Shared} {l : Addr} {its : List Value} {ns : List Int} {Q : Value → Shared → Prop} (hh : A.handled = none) (hl : s.heap.IsTuple l its.toArray) (hi : PyProof.Rows.IntsAre its ns)
    (h : ∀ h' tk t', (∀ b o, s.heap.get? b = some o → h'.get? b = some o) → Q (.int ns.sum t') { s with heap := h', toks := tk }) : wpAny (model prog w) A (call (.builtin "sum") [.ref l]) Q E s := by
  obtain ⟨xs, e⟩ := hi.allInts.items
  have hn : numsOf (intItems xs).toList = ns := by rw [← e]; exact hi.numsOf
  rw [nums_intItems] at hn
  rw [e] at hl
  have lt : l < s.heap.objs.size := by obtain ⟨_, g, _⟩ := id hl; exact Heap.lt_size g
  refine PySem.call_sum_walkG (wpAny_pyIter_tuple hl ⟨_, [_, l], [_], _, _, _, numAt xs, rfl, Walks.tuple (A := A.in1) hh _ l (Nat.ne_of_lt lt) (intItems xs), ⟨⟨_, Heap.get?_push_size _ rfl, rfl, rfl⟩, hl.push _⟩, fun b hb => ?_, fun _ _ => intItems_at, fun h' tk t' kp => ?_⟩)
  · show b < (s.heap.push _).objs.size
    rw [Heap.size_push]
    simp only [List.mem_cons, List.not_mem_nil, or_false] at hb
    rcases hb with rfl | rfl
    · exact Nat.lt_succ_self _
    · exact Nat.lt_succ_of_lt lt
  · have := h h' tk t' fun b o g => kp b o (fun m => by rw [List.mem_singleton.mp m] at g; exact Nat.lt_irrefl _ (Heap.lt_size g)) (Heap.get?_push_of_some _ g)
    rw [preSum_eq, List.take_of_length_le (by simp [intItems]), hn]
    exact this
theorem ok_sum (hc : X.calm = true) : CallR X (.builtin "sum") (rL1 X.k .sum) := by
  intro pins s σ H xs us Q I rs h
  obtain ⟨x, rfl, F, dx, d, t, hx, ed, k⟩ := h
  have ed : sumD dx = some d := ed
  unfold sumD at ed
  split at ed
  · obtain ⟨ns, e, rfl⟩ := Option.map_eq_some_iff.mp ed
    obtain ⟨a, xs, rfl, q1, t1⟩ := hx.lst
    have ex := ints_of t1 e
    subst ex
    exact cr_sum hc pins s σ H _ us Q I rs ⟨a, ns, rfl, SqL.of q1, k.same t (.int _) rfl⟩
  · obtain ⟨ns, e, rfl⟩ := Option.map_eq_some_iff.mp ed
    obtain ⟨a, xs, rfl, q1, t1, w1⟩ := hx.tup
    have ex := ints_of t1 e
    subst ex
    obtain ⟨u, rfl, ru⟩ := vals1 rs
    cases ru
    obtain ⟨its, rv, pt, _⟩ := I.tuple q1.sq
    exact sum_tupZ (I.ok.hd hc) pt rv.ints fun h' tk t' hk => ⟨.int _, H, I.kept hk, ⟨_, rfl⟩, k.same t (.int _) rfl⟩
  · cases ed
theorem ok_all (hc : X.calm = true) : CallR X (.builtin "all") (rL1 X.k .all) := by
  intro pins s σ H xs us Q I rs h
  obtain ⟨x, rfl, F, dx, d, t, hx, ed, k⟩ := h
  have ed : allD dx = some d := ed
  unfold allD at ed
  split at ed
  · obtain ⟨ns, e, rfl⟩ := Option.map_eq_some_iff.mp ed
    obtain ⟨a, xs, rfl, q1, t1⟩ := hx.lst
    have ex := bools_of t1 e
    subst ex
    exact cr_all hc pins s σ H _ us Q I rs ⟨a, ns, rfl, SqL.of q1, k.same t (.bl _) rfl⟩
  · cases ed
theorem ok_any (hc : X.calm = true) : CallR X (.builtin "any") (rL1 X.k .any) := by
  intro pins s σ H xs us Q I rs h
  obtain ⟨x, rfl, F, dx, d, t, hx, ed, k⟩ := h
  have ed : anyD dx = some d := ed
  unfold anyD at ed
  split at ed
  · obtain ⟨ns, e, rfl⟩ := Option.map_eq_some_iff.mp ed
    obtain ⟨a, xs, rfl, q1, t1⟩ := hx.lst
    have ex := bools_of t1 e
    subst ex
    exact cr_any hc pins s σ H _ us Q I rs ⟨a, ns, rfl, SqL.of q1, k.same t (.bl _) rfl⟩
  · cases ed
theorem seqD_cases {K : Kx} {F : Fz} {H : Hp} {x : V} {dx : PyData} {ds : List PyData} (hx : Rv K F H x dx) (e : seqD dx = some ds) :
    (dx = .list ds ∧ ∃ a xs, x = .ref a ∧ H a = some (.lst xs) ∧ RpAll K F H xs ds) ∨ (dx = .tuple ds ∧ ∃ a xs, x = .ref a ∧ TupAt H a xs ∧ RpAll K F H xs ds ∧ Rp K F H x dx) := by
  unfold seqD at e
  split at e
  · cases e
    exact .inl ⟨rfl, hx.lst⟩
  · cases e
    obtain ⟨a, xs, rfl, q, r, w⟩ := hx.tup
    exact .inr ⟨rfl, a, xs, rfl, q, r, w⟩
  · cases e
theorem ok_tuple : CallR X (.type "tuple") (rL1 X.k .tuple) := by
  intro pins s σ H xs us Q I rs h
  obtain ⟨x, rfl, F, dx, d, t, hx, ed, k⟩ := h
  have ed : tupleD dx = some d := ed
  unfold tupleD at ed
  obtain ⟨ds, e, rfl⟩ := Option.map_eq_some_iff.mp ed
  obtain ⟨u, rfl, r⟩ := vals1 rs
  rcases seqD_cases hx e with ⟨rfl, a, xs, rfl, q1, t1⟩ | ⟨rfl, a, xs, rfl, q1, t1, w1⟩
  · cases r
    obtain ⟨its, r', pl, hz⟩ := I.list (SqL.of q1)
    have hlen := r'.length
    refine call_tuple_list pl.isList (fun h' kp => ?_) (by simp only [List.size_toArray] <;> omega)
    have I1 : Inv X pins σ H { s with heap := h' } := I.kept (t' := s.toks) kp
    exact ⟨.ref h'.objs.size, _, laidT (s := { s with heap := h' }) (tk := s.toks) I1 r' hz, rfl, k.tup t t1 (I1.hok.fresh (Nat.le_refl _)) rfl⟩
  · cases r
    obtain ⟨its, r', pl, hz⟩ := I.tuple q1.sq
    exact call_tuple_same pl ⟨.ref a, H, I, rfl, k.same t w1 rfl⟩
theorem ok_list : CallR X (.type "list") (rL1 X.k .list) := by
  intro pins s σ H xs us Q I rs h
  obtain ⟨x, rfl, F, dx, d, t, hx, ed, k⟩ := h
  have ed : listD dx = some d := ed
  unfold listD at ed
  obtain ⟨ds, e, rfl⟩ := Option.map_eq_some_iff.mp ed
  rcases seqD_cases hx e with ⟨rfl, a, xs, rfl, q1, t1⟩ | ⟨rfl, a, xs, rfl, q1, t1, w1⟩
  · exact call_list_of pins s σ H _ us Q I rs ⟨a, xs, rfl, .inl (SqL.of q1), fun l hl => k.lst t t1 hl⟩
  · exact call_list_of pins s σ H _ us Q I rs ⟨a, xs, rfl, .inr q1.sq, fun l hl => k.lst t t1 hl⟩
/-! isinstance -/
def tyOfD : PyData → Value
  | .none => .type "NoneType"
  | .bool _ => .type "bool"
  | .int _ => .type "int"
  | .str _ => .type "str"
  | .list _ => .type "list"
  | .tuple _ => .type "tuple"
  | .dict _ => .type "dict"
theorem Rv.ty {K : Kx} {F : Fz} {H : Hp} {x : V} {d : PyData} (h : Rv K F H x d) (nd : isDictD d = false) : TyX K.K H x (tyOfD d) := by
  rcases h with h | ⟨a, rfl, h⟩
  · cases h with
    | non => exact .base .non
    | bl b => exact .base (.bl b)
    | int i => exact .base (.int i)
    | str x => exact .base (.str x)
    | lst f q r => exact .base (.lst q)
    | tup f q r => obtain ⟨o, e, _⟩ := q; exact .fTuple e
    | dk => cases nd
    | dt => cases nd
  · cases h with
    | lst q r => exact .base (.lst q)
    | dk => cases nd
    | dt => cases nd
/-- isinstance(x, T), by its two arguments -/
def rIs1 (K : Kx) (p : Pr) (T : String) : List V → Hp → VK → Prop := fun xs H Q => ∃ x, xs = [x, .ty T] ∧ r1 K p x H Q
theorem ok_isOne {p : Pr} {T : String} {f : PyData → Bool} (hp : ∀ d, Z.p1 p d = if isDictD d then none else some (.bool (f d))) (hk : ∀ K d, isDictD d = false → PySem.W.kitOne K (tyOfD d) (.type T) = some (f d)) (hf : p.fresh = false) : CallR X (.builtin "isinstance") (rIs1 X.k p T) := by
  intro pins s σ H xs us Q I rs h
  obtain ⟨x, rfl, F, dx, d, t, hx, ed, k⟩ := h
  rw [hp] at ed
  split at ed
  · cases ed
  · rename_i nd
    cases ed
    have nd : isDictD dx = false := by simpa using nd
    exact call_isi pins s σ H _ us Q I rs ⟨x, .ty T, _, .type T, f dx, rfl, .ty T, hx.ty nd, hk _ _ nd, k.same t (.bl _) (by rw [hf]; rfl)⟩
theorem ok_isInt : CallR X (.builtin "isinstance") (rIs1 X.k .isInt "int") := ok_isOne (f := isIntD) (fun _ => rfl) (fun K d nd => by cases d <;> first | rfl | cases nd) rfl
theorem ok_isStr : CallR X (.builtin "isinstance") (rIs1 X.k .isStr "str") := ok_isOne (f := isStrD) (fun _ => rfl) (fun K d nd => by cases d <;> first | rfl | cases nd) rfl
theorem ok_isBool : CallR X (.builtin "isinstance") (rIs1 X.k .isBool "bool") := ok_isOne (f := isBoolD) (fun _ => rfl) (fun K d nd => by cases d <;> first | rfl | cases nd) rfl
theorem ok_isList : CallR X (.builtin "isinstance") (rIs1 X.k .isList "list") := ok_isOne (f := isListD) (fun _ => rfl) (fun K d nd => by cases d <;> first | rfl | cases nd) rfl
theorem ok_isTuple : CallR X (.builtin "isinstance") (rIs1 X.k .isTuple "tuple") := ok_isOne (f := isTupleD) (fun _ => rfl) (fun K d nd => by cases d <;> first | rfl | cases nd) rfl
end
end Z

/-! soundness: least and greatest, sorting, dicts, methods -/
namespace Z
open PySem PySem.Spec PyProof.Rows L2
section
variable {prog : Program} {w : World} {A : Around} {E : Value → Shared → Prop} {s : Shared}
/-- min(a, b) over data -/
theorem min_two_data {a b : Value} {x y : PyData} {as : List Addr} {Q : Value → Shared → Prop} (hh : A.handled = none) (hr : ReadsAll s.heap [a, b] [x, y] as) (ha : PySem.W.AlikeAll [x, y]) (hu : A.units + 1 + PyData.depthAll [x, y] < cLine)
    (h : ∀ (i : Nat) v h' tk bs, ([a, b] : List Value)[i]? = some v → Reads h' v (PySem.W.minD x [y]) bs → (∀ b o, s.heap.get? b = some o → h'.get? b = some o) → Q v { s with heap := h', toks := tk }) :
    wpAny (model prog w) A (call (.builtin "min") [a, b]) Q E s := by
  have hname : (toString "min" ++ toString ".loop" : String) = "min.loop" := by decide
  refine call_function_tree F.kind_min F.plain_min F.entry_min (F.args_min2 _ _) ?_
  show wpAny _ A.in1 (Builtin.Builtins.bindParams "min" ["key", "default"] 0 ⟨[], []⟩ >>= _) _ _ s
  refine wpAny_bind (wpAny_of_eq (show Builtin.Builtins.bindParams "min" ["key", "default"] 0 ⟨[], []⟩ = pure [none, none] from rfl) ?_)
  show wpAny _ A.in1 (newTuple [a, b] >>= _) _ _ s
  refine wpAny_bind (wpAny_newObj_type ?_)
  have kp : ∀ b' o, s.heap.get? b' = some o → (s.heap.push { cls := .type "tuple", data := .seq #[a, b] }).get? b' = some o := fun b' o e => Heap.get?_push_of_some _ e
  have hT : (s.heap.push { cls := .type "tuple", data := .seq #[a, b] }).IsTuple s.heap.objs.size #[a, b] := ⟨_, Heap.get?_push_size _ rfl, rfl, 0, rfl⟩
  have hr' : ReadsAll (s.heap.push { cls := .type "tuple", data := .seq #[a, b] }) (#[a, b] : Array Value).toList [x, y] as := PyProof.Rows.ReadsAll.keeps kp hr
  refine wpAny_bind (PySem.W.iter_tupleW (A := A.in1) (s := { s with heap := s.heap.push { cls := .type "tuple", data := .seq #[a, b] } }) hh hT fun s₂ e W st hfp hw hk => ?_)
  refine wpAny_bind (wpAny_newObj_type ?_)
  have hSf := fun hm => Nat.lt_irrefl _ (hfp s₂.heap.objs.size hm)
  rw [hname]
  have cmp := PySem.W.cmpIn_lt (prog := prog) (w := w) (s := { s with heap := s.heap.push { cls := .type "tuple", data := .seq #[a, b] } }) (A := A.in1) hr' ha (by show A.units + 1 + _ < _; exact hu)
  refine wpAny_pure ⟨plainId_quiet F.plain_min_loop _, codeAny_min_loop_firstH W (s.heap.push { cls := .type "tuple", data := .seq #[a, b] }) hw _ cmp s₂.heap.objs.size hSf (fresh_in hk) _ (by simp) (fun b o e => Heap.get?_push_of_some _ (hk b o e)) (W.frame 0 s₂ _ s₂.toks st (Nat.le_refl _) fun b _ o e => Heap.get?_push_of_some _ e) (Heap.get?_push_size _ rfl) fun v s' hP hm => ?_⟩
  have m := Moved.drop_new (tk := s₂.toks) hm (Nat.le_refl _)
  obtain ⟨h', tk, rfl, hk'⟩ := PySem.W.moved_old e rfl m
  obtain ⟨bs, r, _, _, _⟩ := PySem.W.readsAll_atA hr' _ v hP
  have e2 := (PySem.W.argBest_fold PySem.W.dataLt PyData.none x [y] 1 (Nat.le_refl _)).2
  exact h _ v h' tk bs (by rw [← List.getElem?_toArray]; exact hP) (PySem.W.reads_keeps hk' (by unfold PySem.W.minD; rw [show [y].take 1 = [y] from rfl] at e2; rw [← e2]; exact r)) fun b o e => hk' b o (kp b o e)
/-- max(a, b) over data -/
theorem max_two_data {a b : Value} {x y : PyData} {as : List Addr} {Q : Value → Shared → Prop} (hh : A.handled = none) (hr : ReadsAll s.heap [a, b] [x, y] as) (ha : PySem.W.AlikeAll [x, y]) (hu : A.units + 1 + PyData.depthAll [x, y] < cLine)
    (h : ∀ (i : Nat) v h' tk bs, ([a, b] : List Value)[i]? = some v → Reads h' v (PySem.W.maxD x [y]) bs → (∀ b o, s.heap.get? b = some o → h'.get? b = some o) → Q v { s with heap := h', toks := tk }) :
    wpAny (model prog w) A (call (.builtin "max") [a, b]) Q E s := by
  have hname : (toString "max" ++ toString ".loop" : String) = "max.loop" := by decide
  refine call_function_tree F.kind_max F.plain_max F.entry_max (F.args_max2 _ _) ?_
  show wpAny _ A.in1 (Builtin.Builtins.bindParams "max" ["key", "default"] 0 ⟨[], []⟩ >>= _) _ _ s
  refine wpAny_bind (wpAny_of_eq (show Builtin.Builtins.bindParams "max" ["key", "default"] 0 ⟨[], []⟩ = pure [none, none] from rfl) ?_)
  show wpAny _ A.in1 (newTuple [a, b] >>= _) _ _ s
  refine wpAny_bind (wpAny_newObj_type ?_)
  have kp : ∀ b' o, s.heap.get? b' = some o → (s.heap.push { cls := .type "tuple", data := .seq #[a, b] }).get? b' = some o := fun b' o e => Heap.get?_push_of_some _ e
  have hT : (s.heap.push { cls := .type "tuple", data := .seq #[a, b] }).IsTuple s.heap.objs.size #[a, b] := ⟨_, Heap.get?_push_size _ rfl, rfl, 0, rfl⟩
  have hr' : ReadsAll (s.heap.push { cls := .type "tuple", data := .seq #[a, b] }) (#[a, b] : Array Value).toList [x, y] as := PyProof.Rows.ReadsAll.keeps kp hr
  refine wpAny_bind (PySem.W.iter_tupleW (A := A.in1) (s := { s with heap := s.heap.push { cls := .type "tuple", data := .seq #[a, b] } }) hh hT fun s₂ e W st hfp hw hk => ?_)
  refine wpAny_bind (wpAny_newObj_type ?_)
  have hSf := fun hm => Nat.lt_irrefl _ (hfp s₂.heap.objs.size hm)
  rw [hname]
  have cmp := PySem.W.cmpIn_gt (prog := prog) (w := w) (s := { s with heap := s.heap.push { cls := .type "tuple", data := .seq #[a, b] } }) (A := A.in1) hr' ha (by show A.units + 1 + _ < _; exact hu)
  refine wpAny_pure ⟨plainId_quiet F.plain_max_loop _, codeAny_max_loop_firstH W (s.heap.push { cls := .type "tuple", data := .seq #[a, b] }) hw _ cmp s₂.heap.objs.size hSf (fresh_in hk) _ (by simp) (fun b o e => Heap.get?_push_of_some _ (hk b o e)) (W.frame 0 s₂ _ s₂.toks st (Nat.le_refl _) fun b _ o e => Heap.get?_push_of_some _ e) (Heap.get?_push_size _ rfl) fun v s' hP hm => ?_⟩
  have m := Moved.drop_new (tk := s₂.toks) hm (Nat.le_refl _)
  obtain ⟨h', tk, rfl, hk'⟩ := PySem.W.moved_old e rfl m
  obtain ⟨bs, r, _, _, _⟩ := PySem.W.readsAll_atA hr' _ v hP
  have e2 := (PySem.W.argBest_fold (fun a b => PySem.W.dataLt b a) PyData.none x [y] 1 (Nat.le_refl _)).2
  exact h _ v h' tk bs (by rw [← List.getElem?_toArray]; exact hP) (PySem.W.reads_keeps hk' (by unfold PySem.W.maxD; rw [show [y].take 1 = [y] from rfl] at e2; rw [← e2]; exact r)) fun b o e => hk' b o (kp b o e)
end
section
variable {K : Kx} {F : Fz} {H : Hp}
theorem kindOk_iff {xs : List PyData} (h : kindOk xs = true) : PyData.plainAll xs = true ∧ PySem.W.AlikeAll xs ∧ PyData.depthAll xs ≤ 64 := by
  simp only [kindOk, sameKind, Bool.and_eq_true, decide_eq_true_eq, List.all_eq_true] at h
  refine ⟨h.1.1, ⟨fun x hx y hy => h.1.2.1 x hx y hy, fun x hx e => ?_⟩, h.2⟩
  have := h.1.2.2 x hx
  subst e
  exact Bool.noConfusion this
end
section
variable {X : Cx}
theorem Rv.rp {K : Kx} {F : Fz} {H : Hp} {v : V} {d : PyData} (h : Rv K F H v d) (m : isMut d = false) : Rp K F H v d := by
  rcases h with h | ⟨a, rfl, h⟩
  · exact h
  · cases h <;> cases m
theorem mut_false {d : PyData} {fr : Bool} (m : isMut d = false) : (fr && isMut d) = false := by rw [m, Bool.and_false]
theorem plain_mem : ∀ (l : List PyData) (x : PyData), PyData.plainAll l = true → x ∈ l → x.plain = true
  | [], _, _, hx => by cases hx
  | y :: r, x, h, hx => by
    simp only [PyData.plainAll, Bool.and_eq_true] at h
    rcases List.mem_cons.mp hx with rfl | hx
    · exact h.1
    · exact plain_mem r x h.2 hx
/-- an item that was chosen: it is the datum -/
theorem chosen {pins : List (Addr × Obj)} {σ : L2.St} {H : Hp} {s : Shared} {F : Fz} {vs : List V} {us : List Value} {ds : List PyData} {i : Nat} {u : Value} {h' : Heap} {d : PyData} {bs : List Addr} (I : Inv X pins σ H s) (r : RpAll X.k F H vs ds) (rv : Vals vs us)
    (pl : PyData.plainAll ds = true) (e : us[i]? = some u) (rd : Reads h' u d bs) (k : ∀ b o, s.heap.get? b = some o → h'.get? b = some o) : ∃ v, L2.RelV v u ∧ Rp X.k F H v d := by
  have hl := rv.length
  obtain ⟨hi, _⟩ := List.getElem?_eq_some_iff.mp e
  have ev : vs[i]? = some vs[i] := List.getElem?_eq_getElem (by omega)
  obtain ⟨u', e', rv'⟩ := rv.get ev
  rw [e] at e'
  cases e'
  obtain ⟨d', ed, rd'⟩ := r.get ev
  have pd : d'.plain = true := plain_mem ds d' pl (List.mem_of_getElem? ed)
  obtain ⟨as, ra⟩ := Dp.reads I d' _ u (rd'.dp pd) rv'
  have e1 := PySem.SeqAt.plain_unique d' d u as bs pd (PyProof.Rows.Reads.keeps k ra) rd
  subst e1
  exact ⟨_, rv', rd'⟩
theorem ok_min2 (hc : X.calm = true) (hu : X.A.units + 66 < cLine) : CallR X (.builtin "min") (rL2 X.k .min2) := by
  intro pins s σ H xs us Q I rs h
  obtain ⟨x, y, rfl, F, dx, dy, d, t, hx, hy, ed, k⟩ := h
  have ed : min2D dx dy = some d := ed
  unfold min2D at ed
  split at ed
  · rename_i c
    cases ed
    simp only [Bool.and_eq_true, Bool.not_eq_true'] at c
    obtain ⟨c, m1, m2⟩ := c
    obtain ⟨pl, al, dp⟩ := kindOk_iff c
    obtain ⟨u1, u2, rfl, r1, r2⟩ := vals2 rs
    have px : dx.plain = true ∧ dy.plain = true := by simpa [PyData.plainAll] using pl
    obtain ⟨as, q1⟩ := Dp.reads I dx x u1 (hx.dp px.1) r1
    obtain ⟨bs, q2⟩ := Dp.reads I dy y u2 (hy.dp px.2) r2
    refine min_two_data (I.ok.hd hc) (.cons q1 (.cons q2 .nil)) al (by omega) fun i v h' tk bs' ev rd kp => ?_
    have I' : Inv X pins σ H { s with heap := h', toks := tk } := I.kept kp
    obtain ⟨v', rv, rp⟩ := chosen I (.cons (hx.rp m1) (.cons (hy.rp m2) .nil)) rs pl ev rd kp
    exact ⟨v', H, I', rv, k.same t rp rfl⟩
  · cases ed
theorem ok_max2 (hc : X.calm = true) (hu : X.A.units + 66 < cLine) : CallR X (.builtin "max") (rL2 X.k .max2) := by
  intro pins s σ H xs us Q I rs h
  obtain ⟨x, y, rfl, F, dx, dy, d, t, hx, hy, ed, k⟩ := h
  have ed : max2D dx dy = some d := ed
  unfold max2D at ed
  split at ed
  · rename_i c
    cases ed
    simp only [Bool.and_eq_true, Bool.not_eq_true'] at c
    obtain ⟨c, m1, m2⟩ := c
    obtain ⟨pl, al, dp⟩ := kindOk_iff c
    obtain ⟨u1, u2, rfl, r1, r2⟩ := vals2 rs
    have px : dx.plain = true ∧ dy.plain = true := by simpa [PyData.plainAll] using pl
    obtain ⟨as, q1⟩ := Dp.reads I dx x u1 (hx.dp px.1) r1
    obtain ⟨bs, q2⟩ := Dp.reads I dy y u2 (hy.dp px.2) r2
    refine max_two_data (I.ok.hd hc) (.cons q1 (.cons q2 .nil)) al (by omega) fun i v h' tk bs' ev rd kp => ?_
    have I' : Inv X pins σ H { s with heap := h', toks := tk } := I.kept kp
    obtain ⟨v', rv, rp⟩ := chosen I (.cons (hx.rp m1) (.cons (hy.rp m2) .nil)) rs pl ev rd kp
    exact ⟨v', H, I', rv, k.same t rp rfl⟩
  · cases ed
theorem ok_min1 (hc : X.calm = true) (hu : X.A.units + 66 < cLine) : CallR X (.builtin "min") (rL1 X.k .min1) := by
  intro pins s σ H xs us Q I rs h
  obtain ⟨x, rfl, F, dx, d, t, hx, ed, k⟩ := h
  have ed : min1D dx = some d := ed
  unfold min1D at ed
  obtain ⟨ds, es, ed⟩ := Option.bind_eq_some_iff.mp ed
  split at ed
  · rename_i c
    obtain ⟨pl, al, dp⟩ := kindOk_iff c
    obtain ⟨u, rfl, ru⟩ := vals1 rs
    cases ds with
    | nil => cases ed
    | cons y ys =>
      cases ed
      rcases seqD_cases hx es with ⟨rfl, a, xs, rfl, q1, t1⟩ | ⟨rfl, a, xs, rfl, q1, t1, w1⟩
      · cases ru
        obtain ⟨its, rv, plL, hz⟩ := I.list (SqL.of q1)
        obtain ⟨as, ra⟩ := Dp.readsAll I (y :: ys) xs its (t1.dp pl) rv
        refine PySem.W.min_list_data (I.ok.hd hc) plL.isList (by simpa using ra) al (by omega) fun i v h' tk bs ev rd kp => ?_
        have I' : Inv X pins σ H { s with heap := h', toks := tk } := I.kept kp
        obtain ⟨v', rv', rp⟩ := chosen I t1 rv pl (by simpa using ev) rd kp
        exact ⟨v', H, I', rv', k.same t rp rfl⟩
      · cases ru
        obtain ⟨its, rv, plT, hz⟩ := I.tuple q1.sq
        obtain ⟨as, ra⟩ := Dp.readsAll I (y :: ys) xs its (t1.dp pl) rv
        refine PySem.W.min_tuple_data (I.ok.hd hc) (show s.heap.IsTuple a its.toArray from plT) (by simpa using ra) al (by omega) fun i v h' tk bs ev rd kp => ?_
        have I' : Inv X pins σ H { s with heap := h', toks := tk } := I.kept kp
        obtain ⟨v', rv', rp⟩ := chosen I t1 rv pl (by simpa using ev) rd kp
        exact ⟨v', H, I', rv', k.same t rp rfl⟩
  · cases ed
theorem ok_max1 (hc : X.calm = true) (hu : X.A.units + 66 < cLine) : CallR X (.builtin "max") (rL1 X.k .max1) := by
  intro pins s σ H xs us Q I rs h
  obtain ⟨x, rfl, F, dx, d, t, hx, ed, k⟩ := h
  have ed : max1D dx = some d := ed
  unfold max1D at ed
  obtain ⟨ds, es, ed⟩ := Option.bind_eq_some_iff.mp ed
  split at ed
  · rename_i c
    obtain ⟨pl, al, dp⟩ := kindOk_iff c
    obtain ⟨u, rfl, ru⟩ := vals1 rs
    cases ds with
    | nil => cases ed
    | cons y ys =>
      cases ed
      rcases seqD_cases hx es with ⟨rfl, a, xs, rfl, q1, t1⟩ | ⟨rfl, a, xs, rfl, q1, t1, w1⟩
      · cases ru
        obtain ⟨its, rv, plL, hz⟩ := I.list (SqL.of q1)
        obtain ⟨as, ra⟩ := Dp.readsAll I (y :: ys) xs its (t1.dp pl) rv
        refine PySem.W.max_list_data (I.ok.hd hc) plL.isList (by simpa using ra) al (by omega) fun i v h' tk bs ev rd kp => ?_
        have I' : Inv X pins σ H { s with heap := h', toks := tk } := I.kept kp
        obtain ⟨v', rv', rp⟩ := chosen I t1 rv pl (by simpa using ev) rd kp
        exact ⟨v', H, I', rv', k.same t rp rfl⟩
      · cases ru
        obtain ⟨its, rv, plT, hz⟩ := I.tuple q1.sq
        obtain ⟨as, ra⟩ := Dp.readsAll I (y :: ys) xs its (t1.dp pl) rv
        refine PySem.W.max_tuple_data (I.ok.hd hc) (show s.heap.IsTuple a its.toArray from plT) (by simpa using ra) al (by omega) fun i v h' tk bs ev rd kp => ?_
        have I' : Inv X pins σ H { s with heap := h', toks := tk } := I.kept kp
        obtain ⟨v', rv', rp⟩ := chosen I t1 rv pl (by simpa using ev) rd kp
        exact ⟨v', H, I', rv', k.same t rp rfl⟩
  · cases ed
/-! sorted -/
theorem each_of {R : Value → PyData → Prop} : ∀ {us : List Value} {ds : List PyData}, us.length = ds.length → (∀ (i : Nat) (u : Value) (d : PyData), us[i]? = some u → ds[i]? = some d → R u d) → PySem.W.EachIs R us ds
  | [], [], _, _ => .nil
  | [], _ :: _, h, _ => nomatch h
  | _ :: _, [], h, _ => nomatch h
  | u :: us, d :: ds, h, f => .cons (f 0 u d rfl rfl) (each_of (Nat.succ.inj h) fun i u' d' e1 e2 => f (i + 1) u' d' (by simpa using e1) (by simpa using e2))
theorem sortOk_iff {xs : List PyData} (h : sortOk xs = true) : PyData.plainAll xs = true ∧ PySem.W.AlikeAll xs ∧ PyData.depthAll xs ≤ 64 ∧ PySem.W.Sortable xs := by
  simp only [sortOk, Bool.and_eq_true, Bool.or_eq_true] at h
  obtain ⟨h1, h2⟩ := h
  obtain ⟨a, b, c⟩ := kindOk_iff h1
  refine ⟨a, b, c, ?_⟩
  rcases h2 with h2 | h2
  · refine .inl fun d hd => ?_
    have := List.all_eq_true.mp h2 d hd
    cases d with
    | tuple l =>
      cases l with
      | nil => cases this
      | cons x r => exact ⟨x, r, rfl⟩
    | _ => cases this
  · refine .inr fun d hd => ⟨b.2 d hd, fun l e => ?_⟩
    have := List.all_eq_true.mp h2 d hd
    subst e
    cases this
theorem depth_all : ∀ {xs : List PyData} {d : PyData}, d ∈ xs → d.depth ≤ PyData.depthAll xs
  | x :: xs, d, h => by
    rw [PyData.depthAll]
    rcases List.mem_cons.mp h with rfl | h
    · exact Nat.le_max_left _ _
    · exact Nat.le_trans (depth_all h) (Nat.le_max_right _ _)
/-- rearranged values stand for rearranged data -/
theorem RpAll.each {K : Kx} {F : Fz} {H : Hp} : ∀ {us : List Value} {ds : List PyData}, PySem.W.EachIs (fun u d => ∃ v, L2.RelV v u ∧ Rp K F H v d) us ds → ∃ vs, Vals vs us ∧ RpAll K F H vs ds
  | _, _, .nil => ⟨[], .nil, .nil⟩
  | _, _, .cons ⟨v, r, p⟩ t => by
    obtain ⟨vs, r', p'⟩ := RpAll.each t
    exact ⟨v :: vs, .cons r r', .cons p p'⟩
theorem ok_sorted_list (hu : X.A.units + 70 < cLine) : CallR X (.builtin "sorted") (fun vs H Q => ∃ F x ds, vs = [x] ∧ (∀ a, F a → H a ≠ none) ∧ Rv X.k F H x (.list ds) ∧ sortOk ds = true ∧ Res X.k F H true (.list (sortD ds)) Q) := by
  intro pins s σ H xs us Q I rs h
  obtain ⟨F, x, ds, rfl, t, hx, c, k⟩ := h
  obtain ⟨pl, al, dp, so⟩ := sortOk_iff c
  obtain ⟨u, rfl, ru⟩ := vals1 rs
  obtain ⟨a, xs, rfl, q1, t1⟩ := hx.lst
  cases ru
  obtain ⟨its, rv, plL, hz⟩ := I.list (SqL.of q1)
  have hl1 := rv.length
  have hl2 := t1.length
  have er : PySem.W.EachIs (fun u d => ∃ v, L2.RelV v u ∧ Rp X.k F H v d) its ds := each_of (by omega) fun i u d e1 e2 => by
    obtain ⟨v, e3, r⟩ := t1.get' e2
    obtain ⟨u', e4, r'⟩ := rv.get e3
    rw [e1] at e4
    cases e4
    exact ⟨v, r', r⟩
  have ed : PySem.W.EachIs (fun u d => ∃ as, Reads s.heap u (id d) as) its ds := each_of (by omega) fun i u d e1 e2 => by
    obtain ⟨v, e3, r⟩ := t1.get' e2
    obtain ⟨u', e4, r'⟩ := rv.get e3
    rw [e1] at e4
    cases e4
    exact Dp.reads I d v u (r.dp (plain_mem ds d pl (List.mem_of_getElem? e2))) r'
  have al' : PySem.W.AllAlike (ds.map id) := by rw [List.map_id]; exact al.1
  have so' : PySem.W.Sortable (ds.map id) := by rw [List.map_id]; exact so
  refine PySem.W.sorted_data (enc := id) plL.isList er ed al' so' (by omega) (fun b hb => by have := depth_all hb; show _ + 2 + b.depth < _; omega) fun out ho eo => ?_
  obtain ⟨vs', rv', rp'⟩ := RpAll.each eo
  have kp : ∀ b o, s.heap.get? b = some o → (PyProof.Rows.sortedAll s.heap its (List.toArray out)).get? b = some o := fun b o e => PyProof.Rows.sortedAll_old e
  obtain ⟨n, hn⟩ := PyProof.Rows.sortedAll_at s.heap its (List.toArray out)
  have hvl : vs'.length ≤ sizeLine := by rw [rv'.length, ho]; omega
  have I' : Inv X pins σ (upd H (s.heap.objs.size + 1) (.lst vs')) { s with heap := PyProof.Rows.sortedAll s.heap its (List.toArray out) } :=
    I.laid (t' := s.toks) kp (Nat.le_succ _) ⟨hvl, out, n, rv', hn⟩
  exact ⟨.ref _, _, I', rfl, k.lst t rp' (I.hok.fresh (Nat.le_succ _))⟩
end
end Z

/-! soundness: dicts made and changed -/
namespace Z
open PySem PySem.Spec PyProof.Rows L2
section
variable {K : Kx} {F : Fz} {H : Hp}
/-- entries with flat keys -/
def KD (K : Kx) (F : Fz) (H : Hp) (kvs : List (Key × V)) (es : List (PyData × PyData)) : Prop := kvs.map (fun p => keyV p.1) = es.map (·.1) ∧ RpAll K F H (kvs.map (·.2)) (es.map (·.2))
theorem KD.nil : KD K F H [] [] := ⟨rfl, .nil⟩
theorem KD.cons {k : Key} {v : V} {d : PyData} {kvs : List (Key × V)} {es : List (PyData × PyData)} (r : Rp K F H v d) (h : KD K F H kvs es) : KD K F H ((k, v) :: kvs) ((keyV k, d) :: es) := by
  refine ⟨?_, .cons r h.2⟩
  rw [List.map_cons, List.map_cons, h.1]
theorem KD.cases {P : List (Key × V) → List (PyData × PyData) → Prop} (n : P [] []) (c : ∀ k v d kvs es, Rp K F H v d → KD K F H kvs es → P ((k, v) :: kvs) ((keyV k, d) :: es)) : ∀ {kvs es}, KD K F H kvs es → P kvs es
  | [], [], _ => n
  | [], _ :: _, h => nomatch h.1
  | _ :: _, [], h => nomatch h.1
  | (k, v) :: kvs, (k', d) :: es, h => by
    obtain ⟨h1, h2⟩ := h
    rw [List.map_cons, List.map_cons] at h1 h2
    obtain ⟨e1, e2⟩ := List.cons.inj h1
    cases h2 with
    | cons r t =>
      have e1 : keyV k = k' := e1
      subst e1
      exact c k v d kvs es r ⟨e2, t⟩
theorem KD.app : ∀ {kvs ls : List (Key × V)} {es fs : List (PyData × PyData)}, KD K F H kvs es → KD K F H ls fs → KD K F H (kvs ++ ls) (es ++ fs) := fun {kvs ls es fs} h g =>
  ⟨by rw [List.map_append, List.map_append, h.1, g.1], by rw [List.map_append, List.map_append]; exact h.2.append g.2⟩
theorem KD.any (k : Key) : ∀ {kvs : List (Key × V)} {es : List (PyData × PyData)}, KD K F H kvs es → (kvs.any fun kv => decide (kv.1 = k)) = es.any fun kv => keyEq kv.1 (keyV k)
  | [], [], _ => rfl
  | [], _ :: _, h => nomatch h.1
  | _ :: _, [], h => nomatch h.1
  | (j, v) :: kvs, (j', d) :: es, h => by
    obtain ⟨h1, h2⟩ := h
    rw [List.map_cons, List.map_cons] at h1 h2
    obtain ⟨e1, e2⟩ := List.cons.inj h1
    cases h2 with
    | cons r t =>
      have e1 : keyV j = j' := e1
      subst e1
      rw [List.any_cons, List.any_cons, KD.any k ⟨e2, t⟩, keyEq_iff]
theorem KD.repl (k : Key) {v : V} {d : PyData} (r : Rp K F H v d) : ∀ {kvs : List (Key × V)} {es : List (PyData × PyData)}, KD K F H kvs es → KD K F H (kvs.map fun kv => if kv.1 = k then (kv.1, v) else kv) (es.map fun kv => if keyEq kv.1 (keyV k) = true then (kv.1, d) else kv)
  | [], [], _ => .nil
  | [], _ :: _, h => nomatch h.1
  | _ :: _, [], h => nomatch h.1
  | (j, w) :: kvs, (j', d') :: es, h => by
    obtain ⟨h1, h2⟩ := h
    rw [List.map_cons, List.map_cons] at h1 h2
    obtain ⟨e1, e2⟩ := List.cons.inj h1
    cases h2 with
    | cons r' t =>
      have e1 : keyV j = j' := e1
      subst e1
      have ih := KD.repl k r ⟨e2, t⟩
      rw [List.map_cons, List.map_cons]
      by_cases e : j = k
      · subst e
        have ek := keyEq_iff j j
        rw [decide_eq_true rfl] at ek
        rw [if_pos rfl, if_pos ek]
        exact .cons r ih
      · have ek := keyEq_iff j k
        rw [decide_eq_false e] at ek
        rw [if_neg e, if_neg (show ¬ keyEq (keyV j) (keyV k) = true by rw [ek]; exact Bool.false_ne_true)]
        exact .cons r' ih
theorem KD.put {k : Key} {v : V} {d : PyData} {kvs : List (Key × V)} {es : List (PyData × PyData)} (r : Rp K F H v d) (h : KD K F H kvs es) : KD K F H (putK kvs k v) (putD es (keyV k) d) := by
  unfold putK putD
  rw [KD.any k h]
  split
  · exact h.repl k r
  · exact h.app (.cons r .nil)
theorem KD.merge : ∀ {ls : List (Key × V)} {fs : List (PyData × PyData)} {kvs : List (Key × V)} {es : List (PyData × PyData)}, KD K F H ls fs → KD K F H kvs es → KD K F H (mergeK kvs ls) (mergeD es fs)
  | [], [], _, _, _, h => h
  | [], _ :: _, _, _, g, _ => nomatch g.1
  | _ :: _, [], _, _, g, _ => nomatch g.1
  | (j, w) :: ls, (j', d') :: fs, kvs, es, g, h => by
    obtain ⟨h1, h2⟩ := g
    rw [List.map_cons, List.map_cons] at h1 h2
    obtain ⟨e1, e2⟩ := List.cons.inj h1
    cases h2 with
    | cons r' t =>
      have e1 : keyV j = j' := e1
      subst e1
      exact KD.merge (ls := ls) (fs := fs) ⟨e2, t⟩ (h.put r')
theorem flat_key {d : PyData} (h : flatKey d = true) : ∃ k : Key, d = keyV k := by
  cases d with
  | int i => exact ⟨.inl i, rfl⟩
  | str i => exact ⟨.inr i, rfl⟩
  | _ => exact Bool.noConfusion h
theorem pair_tup {v : V} {d : PyData} {k x : PyData} (r : Rp K F H v d) (e : d = .tuple [k, x]) (f : flatKey k = true) : ∃ (a : Addr) (k' : Key) (w : V), v = .ref a ∧ k = keyV k' ∧ TupAt H a [kV k', w] ∧ Rp K F H w x := by
  subst e
  cases r with
  | tup fa q w =>
    cases w with
    | cons rk w =>
      cases w with
      | cons rv w =>
        cases w
        obtain ⟨k', rfl⟩ := flat_key f
        have ek := Rv.key (.inl rk)
        subst ek
        exact ⟨_, k', _, rfl, rfl, q, rv⟩
theorem pairsOf_cons {d : PyData} {ds : List PyData} {ps : List (PyData × PyData)} (e : pairsOf (d :: ds) = some ps) : ∃ k x ps', d = .tuple [k, x] ∧ pairsOf ds = some ps' ∧ ps = (k, x) :: ps' := by
  unfold pairsOf at e
  split at e
  · rename_i heq; cases heq
  · rename_i k x r heq
    obtain ⟨e1, e2⟩ := List.cons.inj heq
    subst e1 e2
    obtain ⟨ps', e3, rfl⟩ := Option.map_eq_some_iff.mp e
    exact ⟨k, x, ps', rfl, e3, rfl⟩
  · cases e
/-- a list of pairs -/
theorem pairs_rep : ∀ (ds : List PyData) (vs : List V) (ps : List (PyData × PyData)), RpAll K F H vs ds → pairsOf ds = some ps → (ps.all fun p => flatKey p.1) = true →
    ∃ (as : List Addr) (kvs : List (Key × V)), vs = as.map V.ref ∧ Paired (fun p kv => SqT K.K H p [kV kv.1, kv.2]) as kvs ∧ KD K F H kvs ps := by
  intro ds
  induction ds with
  | nil =>
    intro vs ps r e f
    cases r
    cases e
    exact ⟨[], [], rfl, .nil, .nil⟩
  | cons d ds ih =>
    intro vs ps r e f
    obtain ⟨k, x, ps', e1, e2, rfl⟩ := pairsOf_cons e
    cases r with
    | cons r t =>
      rw [List.all_cons, Bool.and_eq_true] at f
      obtain ⟨as, kvs, rfl, p1, p2⟩ := ih _ _ t e2 f.2
      obtain ⟨a, k', w, rfl, rfl, q, rw'⟩ := pair_tup r e1 f.1
      exact ⟨a :: as, (k', w) :: kvs, rfl, .cons q.sq p1, .cons rw' p2⟩
end
/-- a new dict -/
theorem Res.dk {K : Kx} {F : Fz} {H : Hp} {kvs : List (Key × V)} {es : List (PyData × PyData)} {Q : VK} (h : Res K F H true (.dict es) Q) (t : ∀ a, F a → H a ≠ none) (r : KD K F H kvs es) {p : Addr} (hp : H p = none) : Q (.ref p) (upd H p (.dK kvs)) := by
  have l : Lay F H F (upd H p (.dK kvs)) := lay_new t hp
  exact h _ F _ l ⟨p, rfl, notF_new t hp, .dk upd_same r.1 (r.2.gr (l.gr t)), hp⟩
section
variable {X : Cx}
/-- what the pairs are in the heap -/
theorem pairs_heap {pins : List (Addr × Obj)} {σ : L2.St} {H : Hp} {s : Shared} (I : Inv X pins σ H s) : ∀ {as : List Addr} {kvs : List (Key × V)}, Paired (fun p kv => SqT X.K H p [kV kv.1, kv.2]) as kvs →
    ∃ (uw : List (Value × Value)) (prs : List (Key × Value)), uw.length = as.length ∧ KV kvs prs ∧ (∀ (j : Nat) (k v : Value), uw[j]? = some (k, v) → ∃ p, as[j]? = some p ∧ s.heap.IsTuple p #[k, v]) ∧ (∀ (j : Nat) (k v : Value), uw[j]? = some (k, v) → ∃ key, prs[j]? = some (key, v) ∧ keyIs key k = true)
  | _, _, .nil => ⟨[], [], rfl, .nil, (fun j k v h => by simp at h), fun j k v h => by simp at h⟩
  | _, _, .cons (a := p) (b := kv) q t => by
    obtain ⟨uw, prs, h1, h2, h3, h4⟩ := pairs_heap I t
    obtain ⟨its, rv, pt, _⟩ := I.tuple q
    obtain ⟨u, w, rfl, ru, rw'⟩ := vals2 rv
    refine ⟨(u, w) :: uw, (kv.1, w) :: prs, by rw [List.length_cons, List.length_cons, h1], .cons ⟨rfl, rw'⟩ h2, fun j k v h => ?_, fun j k v h => ?_⟩
    · cases j with
      | zero => cases h; exact ⟨p, rfl, pt⟩
      | succ j => exact h3 j k v (by simpa using h)
    · cases j with
      | zero => cases h; exact ⟨kv.1, rfl, kV_is (P := X.prog) (w := X.w) ru⟩
      | succ j => exact h4 j k v (by simpa using h)
end
/-! storing -/
section
variable {K : Kx} {F : Fz} {H : Hp}
/-- entries with tuple keys -/
inductive TR (K : Kx) (F : Fz) (H : Hp) : TDs → List (PyData × PyData) → Prop where
  | nil : TR K F H [] []
  | cons {k : NK} {b : Addr} {u : Value} {v : V} {kd d : PyData} {xs : TDs} {es : List (PyData × PyData)} : nkOf kd = some k → Rp K F H (.ref b) kd → L2.RelV v u → Rp K F H v d → TR K F H xs es → TR K F H ((k, b, u) :: xs) ((kd, d) :: es)
theorem TR.of : ∀ {xs : TDs} {es : List (PyData × PyData)}, xs.map (fun x => some x.1) = es.map (fun e => nkOf e.1) → RpAll K F H (xs.map fun x => .ref x.2.1) (es.map (·.1)) → RpVs K F H (xs.map fun x => x.2.2) (es.map (·.2)) → TR K F H xs es
  | [], [], _, _, _ => .nil
  | [], _ :: _, h, _, _ => nomatch h
  | _ :: _, [], h, _, _ => nomatch h
  | (k, b, u) :: xs, (kd, d) :: es, h, r, t => by
    rw [List.map_cons, List.map_cons] at h r t
    obtain ⟨e1, e2⟩ := List.cons.inj h
    cases r with
    | cons r1 r2 =>
      cases t with
      | cons t0 t1 t2 => exact .cons e1.symm r1 t0 t1 (TR.of e2 r2 t2)
theorem TR.names : ∀ {xs : TDs} {es : List (PyData × PyData)}, TR K F H xs es → xs.map (fun x => some x.1) = es.map (fun e => nkOf e.1)
  | _, _, .nil => rfl
  | _, _, .cons h _ _ _ t => by rw [List.map_cons, List.map_cons, t.names, h]
theorem TR.keys : ∀ {xs : TDs} {es : List (PyData × PyData)}, TR K F H xs es → RpAll K F H (xs.map fun x => .ref x.2.1) (es.map (·.1))
  | _, _, .nil => .nil
  | _, _, .cons _ r _ _ t => .cons r t.keys
theorem TR.vals : ∀ {xs : TDs} {es : List (PyData × PyData)}, TR K F H xs es → RpVs K F H (xs.map fun x => x.2.2) (es.map (·.2))
  | _, _, .nil => .nil
  | _, _, .cons _ _ e r t => .cons e r t.vals
theorem TR.gr {F' : Fz} {H' : Hp} (g : Gr F H F' H') : ∀ {xs : TDs} {es : List (PyData × PyData)}, TR K F H xs es → TR K F' H' xs es
  | _, _, .nil => .nil
  | _, _, .cons h r e q t => .cons h (r.gr g) e (q.gr g) (t.gr g)
theorem TR.app : ∀ {xs ys : TDs} {es fs : List (PyData × PyData)}, TR K F H xs es → TR K F H ys fs → TR K F H (xs ++ ys) (es ++ fs)
  | _, _, _, _, .nil, q => q
  | _, _, _, _, .cons h r e q t, z => .cons h r e q (t.app z)
theorem TR.any {k : NK} {kd : PyData} (hk : nkOf kd = some k) : ∀ {xs : TDs} {es : List (PyData × PyData)}, TR K F H xs es → (atKey xs k).isSome = es.any fun kv => keyEq kv.1 kd
  | _, _, .nil => rfl
  | _, _, .cons (k := j) (b := b) (u := u) (xs := xs) h r e q t => by
    rw [List.any_cons, keyT_iff h hk, ← TR.any hk t]
    unfold atKey
    rw [List.find?_cons]
    by_cases e : j = k
    · rw [decide_eq_true e]; rfl
    · rw [decide_eq_false e]; rfl
theorem TR.repl {k : NK} {kd d : PyData} {u : Value} {v : V} (hk : nkOf kd = some k) (ru : L2.RelV v u) (rd : Rp K F H v d) : ∀ {xs : TDs} {es : List (PyData × PyData)}, TR K F H xs es → TR K F H (xs.map (putAt k u)) (es.map fun kv => if keyEq kv.1 kd = true then (kv.1, d) else kv)
  | _, _, .nil => .nil
  | _, _, .cons (k := j) h r e q t => by
    have ih := TR.repl hk ru rd t
    have ek := keyT_iff h hk
    rw [List.map_cons, List.map_cons]
    unfold putAt
    by_cases e' : j = k
    · rw [decide_eq_true e'] at ek
      rw [if_pos e', if_pos ek]
      exact .cons h r ru rd ih
    · rw [decide_eq_false e'] at ek
      rw [if_neg e', if_neg (by rw [ek]; exact Bool.false_ne_true)]
      exact .cons h r e q ih
theorem TR.put {k : NK} {b : Addr} {kd d : PyData} {u : Value} {v : V} (hk : nkOf kd = some k) (rk : Rp K F H (.ref b) kd) (ru : L2.RelV v u) (rd : Rp K F H v d) {xs : TDs} {es : List (PyData × PyData)} (h : TR K F H xs es) : TR K F H (storedH xs k b u) (putD es kd d) := by
  unfold storedH putD
  rw [h.any hk]
  split
  · exact h.repl hk ru rd
  · exact h.app (.cons hk rk ru rd .nil)
theorem TR.length {xs : TDs} {es : List (PyData × PyData)} (h : TR K F H xs es) : xs.length = es.length := by
  have := congrArg List.length h.names
  simpa using this
theorem putD_length (es : List (PyData × PyData)) (k d : PyData) : (putD es k d).length ≤ es.length + 1 := by
  unfold putD
  split
  · rw [List.length_map]; exact Nat.le_succ _
  · rw [List.length_append]; exact Nat.le_refl _
theorem putD_keys {es : List (PyData × PyData)} {k d : PyData} (h : ∀ p ∈ es, isKey p.1 = true) (hk : isKey k = true) : DKeys (putD es k d) := by
  unfold putD
  split
  · rename_i c
    refine ⟨fun e => ?_, fun p hp => ?_⟩
    · have e' : es = [] := by simpa using e
      rw [e'] at c
      cases c
    · obtain ⟨q, hq, rfl⟩ := List.mem_map.mp hp
      split
      · exact h q hq
      · exact h q hq
  · refine ⟨by simp, fun p hp => ?_⟩
    rcases List.mem_append.mp hp with hp | hp
    · exact h p hp
    · rw [List.mem_singleton.mp hp]; exact hk
end
section
variable {X : Cx}
theorem td_new {P : Program} {w : World} {K : PySem.W.Frag} {H : Hp} {h : Heap} {a : Addr} {xs : TDs} (hz : xs.length ≤ sizeLine) (hd : (a == sysModules) = false) (dd : h.DictOfH (nestedKind P w) a xs) : ObjOk P w H h a (TD ⟨K, P, w⟩ a xs) := by
  obtain ⟨o, es, ep, h1, h2, h3, h4, _, h5⟩ := dd
  exact ⟨⟨hz, hd, o, es, ep, h1, h2, h3, h4, h5⟩, ⟨o, h1⟩, fun h1' h2' ⟨z, y, o', es', ep', q1, q2⟩ k => ⟨z, y, o', es', ep', k o' q1, q2⟩⟩
/-- d[k] = v, d a name's own dict -/
theorem dset_run (hu : X.A.units + 66 < cLine) {pins : List (Addr × Obj)} {s : Shared} {σ : L2.St} {H : Hp} {F : Fz} {a : Addr} {es : List (PyData × PyData)} {y v : V} {u r : Value} {k d : PyData} {Q : Unit → Shared → Prop} {E : Value → Shared → Prop} (I : Inv X pins σ H s)
    (t : ∀ a, F a → H a ≠ none) (nF : ¬ F a) (o : Ob X.k F H a (.dict es)) (hy : Rp X.k F H y k) (ry : L2.RelV y u) (hv : Rp X.k F H v d) (rv : L2.RelV v r) (fit : keyFit es k = true) (hl : es.length < big)
    (h : ∀ ob s', Inv X pins σ (upd H a ob) s' → Ob X.k F (upd H a ob) a (.dict (putD es k d)) → Q () s') : wpAny (model X.prog X.w) X.A (setItem (.ref a) u r) Q E s := by
  have hb := big_eq
  have gr : ∀ ob, Gr F H F (upd H a ob) := fun ob => ⟨fun _ f => f, fun b f => .inl (upd_ne (fun e => nF (e ▸ f)))⟩
  have hk : isKey k = true := by unfold keyFit at fit; rw [Bool.and_eq_true] at fit; exact fit.1
  have hf : es.all (fun p => flatKey p.1 == flatKey k) = true := by unfold keyFit at fit; rw [Bool.and_eq_true] at fit; exact fit.2
  rcases isKey_cases hk with ⟨k', rfl⟩ | ⟨ds, k', rfl, ek, dk⟩
  · have ey := Rv.key (.inl hy)
    subst ey
    cases o with
    | @dk kvs _ q e w =>
      have hlen := congrArg List.length e
      rw [List.length_map, List.length_map] at hlen
      refine d_setItem (by omega) I (DPut.k q (by omega)) ry rv fun s' I' => h _ s' I' ?_
      have kd : KD X.k F H kvs es := ⟨e, w⟩
      have kd' := kd.put (k := k') hv
      exact .dk upd_same kd'.1 (kd'.2.gr (gr _))
    | @dt xs _ q n e w z =>
      exfalso
      refine dt_flat n.1 w ?_
      rw [List.all_eq_true] at hf ⊢
      intro p hp
      have := hf p hp
      cases k' with
      | inl i => cases hp1 : p.1 <;> simp_all [flatKey, keyV, isKey0]
      | inr i => cases hp1 : p.1 <;> simp_all [flatKey, keyV, isKey0]
  · obtain ⟨b, xs', rfl, qb, rb, wb⟩ := Rv.tup (.inl hy)
    cases (show u = Value.ref b from ry)
    have isb : (nestedKind X.prog X.w).is s.heap k' b := ⟨nested_is (K := X.k) I.hok k' (.ref b) wb rfl ek, dk⟩
    have run : ∀ (xs : TDs), xs.length = es.length → (∀ p ∈ es, isKey p.1 = true) → Mut (H a) → (a == sysModules) = false → s.heap.DictOfH (nestedKind X.prog X.w) a xs → TR X.k F H xs es → wpAny (model X.prog X.w) X.A (setItem (.ref a) (.ref b) r) Q E s := by
      intro xs hxl hks mu hd dd tr
      refine wpAny_setItem_heap (hsz := by omega) (by show X.A.units + 1 + 8 < cLine; omega) isb dd fun h' dd' hs => ?_
      have tr' := tr.put ek wb rv hv
      have hl' : (storedH xs k' b r).length ≤ sizeLine := by rw [tr'.length]; have := putD_length es (.tuple ds) d; omega
      have he : ∃ q, h'.get? a = some q := let ⟨q, _, _, hq, _⟩ := dd'; ⟨q, hq⟩
      have tg := tr'.gr (gr (TD X.k a (storedH xs k' b r)))
      exact h (TD X.k a (storedH xs k' b r)) _ (d_write I mu hs he (td_new (K := X.K) hl' hd dd')) (.dt upd_same (putD_keys hks hk) tg.names tg.keys tg.vals)
    cases o with
    | @dk kvs _ q e w =>
      cases kvs with
      | nil =>
        cases es with
        | nil =>
          obtain ⟨hd, dd⟩ := dk_nil I.hok (.inl q)
          exact run [] rfl (fun p hp => nomatch hp) (by rw [q]; exact True.intro) hd dd .nil
        | cons x z => cases e
      | cons p w =>
        exfalso
        cases es with
        | nil => cases e
        | cons x z =>
          rw [List.map_cons, List.map_cons] at e
          rw [List.all_cons, Bool.and_eq_true, ← (List.cons.inj e).1] at hf
          obtain ⟨p1, p2⟩ := p
          cases p1 <;> exact Bool.noConfusion hf.1
    | @dt xs _ q n e w z =>
      obtain ⟨_, hd, dd⟩ := td_at I.hok (.inl q) n.2 e w
      have hlen := congrArg List.length e
      rw [List.length_map, List.length_map] at hlen
      exact run xs hlen n.2 (by rw [q]; exact True.intro) hd dd (TR.of e w z)
end
/-! dict(..) with tuple keys -/
theorem TR.merge {K : Kx} {F : Fz} {H : Hp} : ∀ {ys : TDs} {fs : List (PyData × PyData)} {xs : TDs} {es : List (PyData × PyData)}, TR K F H ys fs → TR K F H xs es → TR K F H (storedAllH xs ys) (mergeD es fs)
  | _, _, _, _, .nil, h => h
  | _, _, _, _, .cons e r q w t, h => by
    have := TR.merge t (h.put e r q w)
    exact this
theorem mergeD_keys : ∀ {fs es : List (PyData × PyData)}, (∀ p ∈ es, isKey p.1 = true) → (∀ p ∈ fs, isKey p.1 = true) → (es ≠ [] ∨ fs ≠ []) → DKeys (mergeD es fs)
  | [], es, h, _, n => ⟨n.elim id fun z => absurd rfl z, h⟩
  | (k, v) :: fs, es, h, g, _ => by
    have d := putD_keys (d := v) h (g (k, v) List.mem_cons_self)
    exact mergeD_keys (fs := fs) d.2 (fun p hp => g p (List.mem_cons_of_mem _ hp)) (.inl d.1)
theorem pair_tupT {K : Kx} {F : Fz} {H : Hp} {v : V} {d k x : PyData} (r : Rp K F H v d) (e : d = .tuple [k, x]) (f : isKey k = true) (g : flatKey k = false) : ∃ (a b : Addr) (n : NK) (w : V), v = .ref a ∧ nkOf k = some n ∧ n.depth ≤ 8 ∧ TupAt H a [.ref b, w] ∧ Rp K F H (.ref b) k ∧ Rp K F H w x := by
  subst e
  cases r with
  | tup fa q w =>
    cases w with
    | cons rk w =>
      cases w with
      | cons rv w =>
        cases w
        rcases isKey_cases f with ⟨k', rfl⟩ | ⟨ds, k', rfl, ek, dk⟩
        · cases k' <;> cases g
        · cases rk with
          | tup fb qb wb => exact ⟨_, _, k', _, rfl, ek, dk, q, .tup fb qb wb, rv⟩
theorem pairs_repT {X : Cx} {F : Fz} {pins : List (Addr × Obj)} {σ : L2.St} {H : Hp} {s : Shared} (I : Inv X pins σ H s) : ∀ (ds : List PyData) (vs : List V) (ps : List (PyData × PyData)), RpAll X.k F H vs ds → pairsOf ds = some ps → (ps.all fun p => isKey p.1 && !flatKey p.1) = true →
    ∃ (as : List Addr) (ts : TDs), vs = as.map V.ref ∧ as.length = ts.length ∧ TR X.k F H ts ps ∧ (∀ x ∈ ts, x.1.depth ≤ 8 ∧ NestedIs s.heap x.1 (.ref x.2.1)) ∧ ∀ (j : Nat) (x : NK × Addr × Value), ts[j]? = some x → ∃ p, as[j]? = some p ∧ s.heap.IsTuple p #[.ref x.2.1, x.2.2] := by
  intro ds
  induction ds with
  | nil =>
    intro vs ps r e f
    cases r
    cases e
    exact ⟨[], [], rfl, rfl, .nil, (fun x hx => nomatch hx), fun j x h => by simp at h⟩
  | cons d ds ih =>
    intro vs ps r e f
    obtain ⟨k, x, ps', e1, e2, rfl⟩ := pairsOf_cons e
    cases r with
    | cons r t =>
      rw [List.all_cons, Bool.and_eq_true] at f
      obtain ⟨f1, f2⟩ := f
      rw [Bool.and_eq_true, Bool.not_eq_true'] at f1
      obtain ⟨as, ts, rfl, hl, tr, hk, hp⟩ := ih _ _ t e2 f2
      obtain ⟨a, b, n, w, rfl, en, dn, q, rb, rw'⟩ := pair_tupT r e1 f1.1 f1.2
      obtain ⟨its, rv, pt, _⟩ := I.tuple q.sq
      obtain ⟨u, z, rfl, ru, rz⟩ := vals2 rv
      cases (show u = Value.ref b from ru)
      refine ⟨a :: as, (n, b, z) :: ts, rfl, by rw [List.length_cons, List.length_cons, hl], .cons en rb rz rw' tr, fun y hy => ?_, fun j y h => ?_⟩
      · rcases List.mem_cons.mp hy with rfl | hy
        · exact ⟨dn, nested_is (K := X.k) I.hok n (.ref b) rb rfl en⟩
        · exact hk y hy
      · cases j with
        | zero => cases h; exact ⟨a, rfl, pt⟩
        | succ j => exact hp j y (by simpa using h)
section
variable {X : Cx}
theorem dict_tup (hu : X.A.units + 70 < cLine) (hc : X.calm = true) {pins : List (Addr × Obj)} {σ : L2.St} {H : Hp} {s : Shared} {F : Fz} {x : V} {us : List Value} {dx : PyData} {ds : List PyData} {ps : List (PyData × PyData)} {Q : VK} {Q' : Value → Shared → Prop} {E : Value → Shared → Prop} (I : Inv X pins σ H s) (rs : Vals [x] us) (hx : Rv X.k F H x dx)
    (es : seqD dx = some ds) (ep : pairsOf ds = some ps) (c1 : isListD dx = true) (c2 : (ps.all fun p => isKey p.1 && !flatKey p.1) = true) (ne : ps = [] → False) (k : Res X.k F H true (.dict (mergeD [] ps)) Q) (t : ∀ a, F a → H a ≠ none)
    (hQ : ∀ v H' u s', Inv X pins σ H' s' → L2.RelV v u → Q v H' → Q' u s') : wpAny (model X.prog X.w) X.A (call (.type "dict") us) Q' E s := by
  rcases seqD_cases hx es with ⟨rfl, a, xs, rfl, q1, t1⟩ | ⟨rfl, a, xs, rfl, q1, t1, w1⟩
  · obtain ⟨as, ts, rfl, hl, tr, hk, hp⟩ := pairs_repT I _ _ _ t1 ep c2
    obtain ⟨u, rfl, ru⟩ := vals1 rs
    cases ru
    obtain ⟨its, rv, pl, hz⟩ := I.list (SqL.of q1)
    have ei := refs_at rv
    subst ei
    rw [List.length_map] at hz
    obtain ⟨o, n, g1, g2, g3, g4⟩ := pl
    have P := PairArg.list (prog := X.prog) (w := X.w) a (as.map Value.ref).toArray (fun j => (as[j]?).getD 0) (ts.map fun x => (Value.ref x.2.1, x.2.2))
    refine PySem.call_dict_pairsH (knd := nestedKind X.prog X.w) (ps := ts) P (I.ok.hd hc) (by show X.A.units + 2 + 8 < cLine; omega) ⟨⟨o, n, g1, g2, g3, g4⟩, by simp [hl], fun j k' v' e => ?_⟩ ⟨by simp, fun i key v e => ?_⟩ (fun h' kp y hy => ⟨(hk y hy).2.at (fun b ob vs m e _ => kp b ob (Nat.ne_of_lt (Heap.lt_size e)) (by simp) e), (hk y hy).1⟩) (by rw [List.length_map, ← hl]; exact hz) fun h' tk hd' kp => ?_
    · rw [List.getElem?_map, Option.map_eq_some_iff] at e
      obtain ⟨y, e1, e2⟩ := e
      obtain ⟨p, e3, e4⟩ := hp j y e1
      cases e2
      exact ⟨by simp [e3], .inl (by show s.heap.IsTuple ((as[j]?).getD 0) _; rw [e3]; exact e4)⟩
    · have e : (ts.map fun x => (Value.ref x.2.1, x.2.2))[i]? = some (key, v) := e
      rw [List.getElem?_map, Option.map_eq_some_iff] at e
      obtain ⟨y, e1, e2⟩ := e
      cases e2
      exact ⟨y.1, y.2.1, e1, rfl⟩
    · have hm : (s.heap.objs.size == sysModules) = false := beq_eq_false_iff_ne.mpr (Nat.ne_of_gt I.big)
      have tr' : TR X.k F H (storedAllH [] ts) (mergeD [] ps) := TR.merge tr .nil
      have hlen : (storedAllH [] ts).length ≤ sizeLine := Nat.le_trans (storedAllH_length ts []) (by rw [List.length_nil, Nat.zero_add, ← hl]; exact hz)
      have I' : Inv X pins σ (upd H s.heap.objs.size (TD X.k s.heap.objs.size (storedAllH [] ts))) { s with heap := h', toks := tk } :=
        I.laid (t' := tk) (fun b o e => kp b o (by simp) e) (Nat.le_refl _) (td_new (K := X.K) hlen hm hd')
      have fr := I.hok.fresh (Nat.le_refl s.heap.objs.size)
      have l : Lay F H F (upd H s.heap.objs.size (TD X.k s.heap.objs.size (storedAllH [] ts))) := lay_new t fr
      have tg := tr'.gr (l.gr t)
      have ks := mergeD_keys (fs := ps) (es := []) (fun p hp => nomatch hp) (fun p hp => by have := List.all_eq_true.mp c2 p hp; rw [Bool.and_eq_true] at this; exact this.1) (.inr fun z => ne z)
      exact hQ (.ref s.heap.objs.size) _ _ _ I' rfl (k _ F _ l ⟨_, rfl, notF_new t fr, .dt upd_same ks tg.names tg.keys tg.vals, fr⟩)
  · cases c1
theorem ok_dict (hu : X.A.units + 70 < cLine) (hc : X.calm = true) : CallR X (.type "dict") (rL1 X.k .dict) := by
  intro pins s σ H xs us Q I rs h
  obtain ⟨x, rfl, F, dx, d, t, hx, ed, k⟩ := h
  have ed : dictD dx = some d := ed
  unfold dictD at ed
  obtain ⟨ds, es, ed⟩ := Option.bind_eq_some_iff.mp ed
  obtain ⟨ps, ep, ed⟩ := Option.bind_eq_some_iff.mp ed
  split at ed
  · rename_i c
    cases ed
    rcases seqD_cases hx es with ⟨rfl, a, xs, rfl, q1, t1⟩ | ⟨rfl, a, xs, rfl, q1, t1, w1⟩
    · obtain ⟨as, kvs, rfl, p1, p2⟩ := pairs_rep _ _ _ t1 ep c
      exact call_dictP hc pins s σ H _ us Q I rs ⟨a, as, kvs, rfl, SqL.of q1, p1, fun p hp => k.dk t (KD.merge p2 .nil) hp⟩
    · obtain ⟨as, kvs, rfl, p1, p2⟩ := pairs_rep _ _ _ t1 ep c
      obtain ⟨u, rfl, ru⟩ := vals1 rs
      cases ru
      obtain ⟨uw, prs, l1, rel, hp, hk⟩ := pairs_heap I p1
      obtain ⟨o, eo, od⟩ := q1
      obtain ⟨g1, hz, its, rv, o', g2, g3, n, g4⟩ := I.hok a _ eo
      rw [g1] at g2
      cases g2
      have ei := refs_at rv
      subst ei
      rw [List.length_map] at hz
      have P := PairArg.tuple (prog := X.prog) (w := X.w) a (as.map Value.ref).toArray (fun j => (as[j]?).getD 0) uw
      refine PySem.call_dict_pairs (knd := mixKind X.prog X.w) (kvs := prs) P (I.ok.hd hc) ⟨⟨o, n, g1, g3, od, g4⟩, by simp [l1], fun j k v e => ?_⟩ ⟨?_, fun i key v e => ?_⟩ (by rw [l1]; exact hz) fun h' tk hd' kp => ?_
      · obtain ⟨p, e1, e2⟩ := hp j k v e
        exact ⟨by simp [e1], .inl (by show s.heap.IsTuple ((as[j]?).getD 0) #[k, v]; rw [e1]; exact e2)⟩
      · rw [← rel.length, p1.length.symm, l1]
      · exact hk i key v e
      · have hm : (s.heap.objs.size == sysModules) = false := beq_eq_false_iff_ne.mpr (Nat.ne_of_gt I.big)
        have hlen : (mergeK [] kvs).length ≤ sizeLine := by
          refine Nat.le_trans (length_mergeK kvs []) ?_
          rw [List.length_nil, Nat.zero_add, ← p1.length]
          exact hz
        have I' : Inv X pins σ (upd H s.heap.objs.size (.dK (mergeK [] kvs))) { s with heap := h', toks := tk } :=
          I.laid (t' := tk) (fun b o e => kp b o (by simp) e) (Nat.le_refl _) ⟨hlen, hm, merged [] prs, KV.merge rel .nil, hd'⟩
        exact ⟨.ref _, _, I', rfl, k.dk t (KD.merge p2 .nil) (I.hok.fresh (Nat.le_refl _))⟩
  · split at ed
    · rename_i c
      cases ed
      rw [Bool.and_eq_true] at c
      exact dict_tup hu hc I rs hx es ep c.1 c.2 (fun z => by subst z; simp_all) k t (fun v H' u s' i r q => ⟨v, H', i, r, q⟩)
    · cases ed
end
end Z

/-! soundness: and, or, not, if-else, comparisons, displays, arguments -/
namespace Z
open PySem PySem.Spec PyProof.Rows L2
section
variable {Φ : Nat → Spc} {X : Cx} {a0 b0 c0 : Expr} {a b c : E} {pos : Pos}
theorem Sd.of (hn : ∀ i, a ≠ .v i) (h : PE X a0 (tE X.k (rd Φ a).e)) (t : PT X a0 (tT X.k (rd Φ a).t)) : Sd Φ X a0 a := ⟨h, o_of_e hn h, t⟩
/-- operators by value -/
theorem sd_op {op : Operator} {p : Pr} (ho : OpR X (binaryOp op) (r2 X.k p)) (ha : Sd Φ X a0 a) (hb : Sd Φ X b0 b) : Sd Φ X (.BinOp a0 op b0 pos) (.p2 p a b) :=
  Sd.plain (fun _ z => nomatch z) rd_p2 ((pe_op ho ha.op hb.op).imp fun _ _ _ q => rd2_op Φ q) fun _ => rfl
theorem sd_un {op : UnaryOp} {p : Pr} (ho : UnR X (unaryOp op) (r1 X.k p)) (ha : Sd Φ X a0 a) (he : ∀ whole, isTrue (.UnaryOp op a0 pos) X.env whole = (do let v ← whole; standAt (Expr.UnaryOp op a0 pos).pos; holding [v] (truthy v))) : Sd Φ X (.UnaryOp op a0 pos) (.p1 p a) :=
  Sd.plain (fun _ z => nomatch z) rd_p1 ((pe_un ho ha.op).imp fun _ _ _ q => rd1_op Φ q) he
def isCmp : Pr → Bool
  | .eq | .ne | .lt | .le | .gt | .ge | .in_ | .nin | .is_ | .isn => true
  | _ => false
theorem cmp_bool {p : Pr} (h : isCmp p = true) {x y d : PyData} (e : Z.p2 p x y = some d) : ∃ k, d = .bool k := by
  have mp : ∀ {o : Option Bool} {f : Bool → Bool}, (o.map fun b => PyData.bool (f b)) = some d → ∃ k, d = .bool k := fun {o f} z => by
    cases o with
    | none => cases z
    | some b => exact ⟨_, (Option.some.inj z).symm⟩
  have ip : ∀ {q : Bool} {k : Bool}, (if q = true then some (PyData.bool k) else none) = some d → ∃ k, d = .bool k := fun {q k} z => by
    split at z
    · exact ⟨_, (Option.some.inj z).symm⟩
    · cases z
  cases p with
  | eq => exact ip (show eqD x y = some d from e)
  | ne => exact ip (show neD x y = some d from e)
  | lt => exact ip (show ltD x y = some d from e)
  | le => exact ip (show leD' x y = some d from e)
  | gt => exact ip (show gtD x y = some d from e)
  | ge => exact ip (show geD x y = some d from e)
  | in_ => exact mp (f := id) (show (inB x y).map PyData.bool = some d from e)
  | nin => exact mp (show ninD x y = some d from e)
  | is_ => exact mp (f := id) (show (isB x y).map PyData.bool = some d from e)
  | isn => exact mp (show isnD x y = some d from e)
  | _ => cases h
theorem cmp_fresh {p : Pr} (h : isCmp p = true) : p.fresh = false := by cases p <;> first | rfl | cases h
theorem Vn.bl {K : Kx} {H : Hp} {F' : Fz} {H' : Hp} {fr : Bool} {v : V} {k : Bool} (h : Vn K H F' H' fr v (.bool k)) : v = .bl k := by
  unfold Vn at h
  rw [if_neg (by cases fr <;> simp [isMut])] at h
  cases h
  rfl
theorem sd_cmp {op : CmpOp} {p : Pr} (hp : isCmp p = true) (ho : OpR X (compareOp op) (r2 X.k p)) (ha : Sd Φ X a0 a) (hb : Sd Φ X b0 b) (hm : behindInMarks op b0 = false) : Sd Φ X (.Compare a0 [op] [b0] pos) (.p2 p a b) := by
  refine Sd.of (fun _ z => nomatch z) ((pe_cmpR ho ha.op hb.op hm).imp fun _ _ _ q => rd2_op Φ q) ((pt_cmpR ho ha.op hb.op hm).imp fun σ H Q' q => ?_)
  obtain ⟨F, ρ, Q, g, h, k⟩ := q
  rw [rd_p2, plainT_t] at h
  refine ⟨F, ρ, _, g, h, fun v o F1 H1 ρ1 g1 s1 ok1 h1 => ⟨F1, ρ1, _, g1, h1, fun w o2 F2 H2 ρ2 g2 s2 ok2 h2 => ?_⟩⟩
  obtain ⟨x, ex, h2⟩ := must_iff.mp h2
  obtain ⟨y, ey, h2⟩ := must_iff.mp h2
  obtain ⟨d, ed, h2⟩ := must_iff.mp h2
  obtain ⟨t, rfl⟩ := cmp_bool hp ed
  refine ⟨F2, x, y, _, g2.tr, (ok1.gr (s2.gr g1)).rv g2 ex, ok2.rv g2 ey, ed, fun v' F' H' l vn => ⟨t, vn.bl, ?_⟩⟩
  exact k t F' H' ρ2 (l.sg g2) ((s1.trans s2).trans l.stp) (must_get (Q := fun b => Q b ρ2) h2 rfl)
theorem chain_run {p q : Pr} {σ : L2.St} {H : Hp} {R : Bool → Hp → Prop} (hp : isCmp p = true) (hq : isCmp q = true) {F : Fz} {ρ : Env} {Q : Bool → Env → Prop} (g : Sg X.k F H σ ρ)
    (h : (opd a (rd Φ a).e ρ fun o ρ1 => opd b (rd Φ b).e ρ1 fun o2 ρ2 => must (res ρ2 o) fun x => must (res ρ2 o2) fun y => must (Z.p2 p x y) fun d =>
      mustB d fun t => if t = true then opd c (rd Φ c).e ρ2 fun o3 ρ3 => must (res ρ3 o2) fun y => must (res ρ3 o3) fun z => must (Z.p2 q y z) fun d2 => mustB d2 fun t2 => Q t2 ρ3 else Q false ρ2))
    (k : ∀ b F' H' ρ', Sg X.k F' H' σ ρ' → Stp F H σ ρ F' H' σ ρ' → Q b ρ' → R b H') :
    tChain (r2 X.k p) (r2 X.k q) (tO X.k a (rd Φ a).e) (tO X.k b (rd Φ b).e) (tO X.k c (rd Φ c).e) σ H fun x H' => ∃ k, x = .bl k ∧ R k H' := by
  refine ⟨F, ρ, _, g, h, fun v o F1 H1 ρ1 g1 s1 ok1 h1 => ⟨F1, ρ1, _, g1, h1, fun w o2 F2 H2 ρ2 g2 s2 ok2 h2 => ?_⟩⟩
  obtain ⟨x, ex, h2⟩ := must_iff.mp h2
  obtain ⟨y, ey, h2⟩ := must_iff.mp h2
  obtain ⟨d, ed, h2⟩ := must_iff.mp h2
  obtain ⟨t, rfl⟩ := cmp_bool hp ed
  refine ⟨F2, x, y, _, g2.tr, (ok1.gr (s2.gr g1)).rv g2 ex, ok2.rv g2 ey, ed, fun v' F' H' l vn => ⟨t, vn.bl, ?_⟩⟩
  have gl := l.sg g2
  have sl := (s1.trans s2).trans l.stp
  have h2 : (if t = true then _ else _) := h2
  cases t with
  | false => exact ⟨_, rfl, k false F' H' ρ2 gl sl h2⟩
  | true =>
    rw [if_pos rfl] at h2
    rw [if_pos rfl]
    refine ⟨F', ρ2, _, gl, h2, fun u o3 F3 H3 ρ3 g3 s3 ok3 h3 => ?_⟩
    obtain ⟨y2, ey2, h3⟩ := must_iff.mp h3
    obtain ⟨z, ez, h3⟩ := must_iff.mp h3
    obtain ⟨d2, ed2, h3⟩ := must_iff.mp h3
    obtain ⟨t2, rfl⟩ := cmp_bool hq ed2
    refine ⟨F3, y2, z, _, g3.tr, ((ok2.gr (l.gr g2.tr)).gr (s3.gr gl)).rv g3 ey2, ok3.rv g3 ez, ed2, fun v2 F4 H4 l2 vn2 => ⟨t2, vn2.bl, ?_⟩⟩
    exact k t2 F4 H4 ρ3 (l2.sg g3) ((sl.trans s3).trans l2.stp) h3
theorem sd_chain {op op' : CmpOp} {p q : Pr} (hp : isCmp p = true) (hq : isCmp q = true) (ho : OpR X (compareOp op) (r2 X.k p)) (ho' : OpR X (compareOp op') (r2 X.k q)) (ha : Sd Φ X a0 a) (hb : Sd Φ X b0 b) (hc : Sd Φ X c0 c)
    (hm : lastMarks [op, op'] [b0, c0] = false) : Sd Φ X (.Compare a0 [op, op'] [b0, c0] pos) (.chain p q a b c) := by
  have base := pe_chain (pos := pos) ho ho' ha.op hb.op hc.op hm
  have baseT := pt_chain (pos := pos) ho ho' ha.op hb.op hc.op hm
  refine Sd.of (fun _ z => nomatch z) ⟨fun pins s σ H Q' I h => ?_⟩ ⟨fun pins s σ H Q' I h => ?_⟩
  · obtain ⟨F, ρ, Q, g, h, k⟩ := h
    rw [rd_chain, plainT_e] at h
    refine thn (base.run pins s σ H _ I (chain_run (R := fun b H' => Q' (.bl b) H') hp hq g h fun b F' H' ρ' g' s' qq => k false (.bl b) (.bool b) F' H' ρ' g' s' (Vr.of (.bl b) rfl) qq)) ?_
    rintro v s' ⟨x, H', I', r', k', rfl, q'⟩
    exact ⟨_, H', I', r', q'⟩
  · obtain ⟨F, ρ, Q, g, h, k⟩ := h
    rw [rd_chain, plainT_t] at h
    exact baseT.run pins s σ H Q' I (chain_run (R := Q') hp hq g h fun b F' H' ρ' g' s' qq => k b F' H' ρ' g' s' (must_get (Q := fun b => Q b ρ') qq rfl))
/-! not -/
def tNotZ (ta : TE) : TE := fun σ H Q => ta σ H fun x H1 => ∃ k, TruZ X.k x H1 k ∧ Q (.bl (!k)) H1
theorem pe_notZ {ta : TE} (ha : PE X a0 ta) : PE X (.UnaryOp .Not a0 pos) (tNotZ (X := X) ta) := by
  refine ⟨fun pins s σ H Q I h => ?_⟩
  refine UnaryOp_ (thn (ha.run pins s σ H _ I h) fun v s1 ⟨x, H1, I1, r1, q1⟩ => ?_)
  obtain ⟨k, e, q1⟩ := q1
  exact not_of (thn (truz_ok pins s1 σ H1 x v (fun c H2 => Q (.bl (!c)) H2) I1 r1 ⟨k, e, q1⟩) fun c s2 ⟨H2, I2, q2⟩ => ⟨.bl (!c), H2, I2, rfl, q2⟩)
theorem sd_not (ha : Sd Φ X a0 a) : Sd Φ X (.UnaryOp .Not a0 pos) (.not_ a) := by
  refine Sd.of (fun _ z => nomatch z) ((pe_notZ ha.op).imp fun σ H Q' q => ?_) ((pt_not ha.ts).imp fun σ H Q' q => ?_)
  · obtain ⟨F, ρ, Q, g, h, k⟩ := q
    rw [rd_not] at h; dsimp only at h
    refine ⟨F, ρ, _, g, h, fun v o F1 H1 ρ1 g1 s1 ok1 h1 => ?_⟩
    obtain ⟨x, ex, h2⟩ := must_iff.mp h1
    obtain ⟨t, et, h2⟩ := must_iff.mp h2
    exact ⟨t, (ok1.rv g1 ex).tru et, k false _ _ F1 H1 ρ1 g1 s1 (Vr.of (.bl _) rfl) h2⟩
  · obtain ⟨F, ρ, Q, g, h, k⟩ := q
    rw [rd_not] at h; dsimp only at h
    exact ⟨F, ρ, _, g, h, fun t F1 H1 ρ1 g1 s1 h1 => k _ F1 H1 ρ1 g1 s1 h1⟩
/-! if-else -/
theorem pt_ifExp {ta tb tc : TT} (hc : PT X c0 tc) (ha : PT X a0 ta) (hb : PT X b0 tb) : PT X (.IfExp c0 a0 b0 pos) (fun σ H Q => tc σ H fun t H1 => if t = true then ta σ H1 Q else tb σ H1 Q) := by
  refine ⟨fun pins s σ H Q I h => ?_⟩
  refine isTrue_IfExp (thn (hc.run pins s σ H _ I h) fun d s1 ⟨H1, I1, q1⟩ => ?_)
  cases d with
  | true => exact ha.run pins s1 σ H1 Q I1 q1
  | false => exact hb.run pins s1 σ H1 Q I1 q1
theorem sd_ite (hc : Sd Φ X c0 c) (ha : Sd Φ X a0 a) (hb : Sd Φ X b0 b) : Sd Φ X (.IfExp c0 a0 b0 pos) (.ite c a b) := by
  refine Sd.of (fun _ z => nomatch z) ((pe_ifExp hc.ts ha.ex hb.ex).imp fun σ H Q' q => ?_) ((pt_ifExp hc.ts ha.ts hb.ts).imp fun σ H Q' q => ?_)
  · obtain ⟨F, ρ, Q, g, h, k⟩ := q
    rw [rd_ite] at h; dsimp only at h
    refine ⟨F, ρ, _, g, h, fun t F1 H1 ρ1 g1 s1 h1 => ?_⟩
    cases t with
    | true => exact ⟨F1, ρ1, Q, g1, h1, fun fr v d F' H' ρ' g' s' vr qq => k fr v d F' H' ρ' g' (s1.trans s') (vr.back s1.tr) qq⟩
    | false => exact ⟨F1, ρ1, Q, g1, h1, fun fr v d F' H' ρ' g' s' vr qq => k fr v d F' H' ρ' g' (s1.trans s') (vr.back s1.tr) qq⟩
  · obtain ⟨F, ρ, Q, g, h, k⟩ := q
    rw [rd_ite] at h; dsimp only at h
    refine ⟨F, ρ, _, g, h, fun t F1 H1 ρ1 g1 s1 h1 => ?_⟩
    cases t with
    | true => exact ⟨F1, ρ1, Q, g1, h1, fun t F' H' ρ' g' s' qq => k t F' H' ρ' g' (s1.trans s') qq⟩
    | false => exact ⟨F1, ρ1, Q, g1, h1, fun t F' H' ρ' g' s' qq => k t F' H' ρ' g' (s1.trans s') qq⟩
/-! and, or -/
def tOrZ (ta tb : TE) : TE := fun σ H Q => ta σ H fun x H1 => ∃ k, TruZ X.k x H1 k ∧ if k = true then Q x H1 else tb σ H1 Q
def tAndZ (ta tb : TE) : TE := fun σ H Q => ta σ H fun x H1 => ∃ k, TruZ X.k x H1 k ∧ if k = true then tb σ H1 Q else Q x H1
theorem pe_orZ {ta tb : TE} {rest : List Expr} (ha : PE X a0 ta) (hb : PE X (.BoolOp .Or (b0 :: rest) pos) tb) : PE X (.BoolOp .Or (a0 :: b0 :: rest) pos) (tOrZ (X := X) ta tb) := by
  refine ⟨fun pins s σ H Q I h => ?_⟩
  refine BoolOp_or (thn (ha.run pins s σ H _ I h) fun v s1 ⟨x, H1, I1, r1, q1⟩ => ?_)
  obtain ⟨k, e, q1⟩ := q1
  refine thn (truz_ok pins s1 σ H1 x v (fun c H2 => c = k ∧ H2 = H1) I1 r1 ⟨k, e, rfl, rfl⟩) fun c s2 hc => ?_
  obtain ⟨H2, I2, e1, e2⟩ := hc
  rw [e2] at I2
  rw [← e1] at q1
  cases c with
  | true => exact ⟨x, H1, I2, r1, q1⟩
  | false => exact hb.run pins s2 σ H1 Q I2 q1
theorem pe_andZ {ta tb : TE} {rest : List Expr} (ha : PE X a0 ta) (hb : PE X (.BoolOp .And (b0 :: rest) pos) tb) : PE X (.BoolOp .And (a0 :: b0 :: rest) pos) (tAndZ (X := X) ta tb) := by
  refine ⟨fun pins s σ H Q I h => ?_⟩
  refine BoolOp_and (thn (ha.run pins s σ H _ I h) fun v s1 ⟨x, H1, I1, r1, q1⟩ => ?_)
  obtain ⟨k, e, q1⟩ := q1
  refine thn (truz_ok pins s1 σ H1 x v (fun c H2 => c = k ∧ H2 = H1) I1 r1 ⟨k, e, rfl, rfl⟩) fun c s2 hc => ?_
  obtain ⟨H2, I2, e1, e2⟩ := hc
  rw [e2] at I2
  rw [← e1] at q1
  cases c with
  | true => exact hb.run pins s2 σ H1 Q I2 q1
  | false => exact ⟨x, H1, I2, r1, q1⟩
/-- the values of an and, or -/
structure SdB (Φ : Nat → Spc) (X : Cx) (op : BoolOp) (es : List Expr) (pos : Pos) (e : E) : Prop where
  ex : PE X (.BoolOp op es pos) (tE X.k (rd Φ e).e)
  pw : PW X (.BoolOp op es pos) (tT X.k (rd Φ e).t)
theorem sdb_and1 (ha : Sd Φ X a0 a) : SdB Φ X .And [a0] pos a := ⟨pe_one ha.ex, pw_and1 ha.ts⟩
theorem sdb_or1 (ha : Sd Φ X a0 a) : SdB Φ X .Or [a0] pos a := ⟨pe_one ha.ex, pw_or1 ha.ts⟩
theorem sdb_and {rest : List Expr} (ha : Sd Φ X a0 a) (hb : SdB Φ X .And (b0 :: rest) pos b) : SdB Φ X .And (a0 :: b0 :: rest) pos (.and_ a b) := by
  refine ⟨(pe_andZ ha.ex hb.ex).imp fun σ H Q' q => ?_, ⟨fun whole pins s σ H Q' I q => (pw_and ha.ts hb.pw).run whole pins s σ H Q' I ?_⟩⟩
  · obtain ⟨F, ρ, Q, g, h, k⟩ := q
    rw [rd_and] at h; dsimp only at h
    refine ⟨F, ρ, _, g, h, fun fr v d F1 H1 ρ1 g1 s1 vr h1 => ?_⟩
    obtain ⟨t, et, h1⟩ := must_iff.mp h1
    obtain ⟨F2, g2, s2, r, _⟩ := vr.freeze g1 s1
    refine ⟨t, Rv.tru (.inl r) et, ?_⟩
    cases t with
    | true =>
      refine ⟨F2, ρ1, _, g2, h1, fun fr' v' d' F' H' ρ' g' s' vr' qq => ?_⟩
      obtain ⟨F3, g3, s3, r3, _⟩ := vr'.freeze g' s'
      exact k false v' d' F3 H' ρ' g3 (s2.trans s3) (Vr.of r3 rfl) qq
    | false => exact k false v d F2 H1 ρ1 g2 s2 (Vr.of r rfl) h1
  · obtain ⟨F, ρ, Q, g, h, k⟩ := q
    rw [rd_and] at h; dsimp only at h
    refine ⟨F, ρ, _, g, h, fun t F1 H1 ρ1 g1 s1 h1 => ?_⟩
    cases t with
    | true => exact ⟨F1, ρ1, Q, g1, h1, fun t F' H' ρ' g' s' qq => k t F' H' ρ' g' (s1.trans s') qq⟩
    | false => exact k false F1 H1 ρ1 g1 s1 h1
theorem sdb_or {rest : List Expr} (ha : Sd Φ X a0 a) (hb : SdB Φ X .Or (b0 :: rest) pos b) : SdB Φ X .Or (a0 :: b0 :: rest) pos (.or_ a b) := by
  refine ⟨(pe_orZ ha.ex hb.ex).imp fun σ H Q' q => ?_, ⟨fun whole pins s σ H Q' I q => (pw_or ha.ts hb.pw).run whole pins s σ H Q' I ?_⟩⟩
  · obtain ⟨F, ρ, Q, g, h, k⟩ := q
    rw [rd_or] at h; dsimp only at h
    refine ⟨F, ρ, _, g, h, fun fr v d F1 H1 ρ1 g1 s1 vr h1 => ?_⟩
    obtain ⟨t, et, h1⟩ := must_iff.mp h1
    obtain ⟨F2, g2, s2, r, _⟩ := vr.freeze g1 s1
    refine ⟨t, Rv.tru (.inl r) et, ?_⟩
    cases t with
    | false =>
      refine ⟨F2, ρ1, _, g2, h1, fun fr' v' d' F' H' ρ' g' s' vr' qq => ?_⟩
      obtain ⟨F3, g3, s3, r3, _⟩ := vr'.freeze g' s'
      exact k false v' d' F3 H' ρ' g3 (s2.trans s3) (Vr.of r3 rfl) qq
    | true => exact k false v d F2 H1 ρ1 g2 s2 (Vr.of r rfl) h1
  · obtain ⟨F, ρ, Q, g, h, k⟩ := q
    rw [rd_or] at h; dsimp only at h
    refine ⟨F, ρ, _, g, h, fun t F1 H1 ρ1 g1 s1 h1 => ?_⟩
    cases t with
    | false => exact ⟨F1, ρ1, Q, g1, h1, fun t F' H' ρ' g' s' qq => k t F' H' ρ' g' (s1.trans s') qq⟩
    | true => exact k true F1 H1 ρ1 g1 s1 h1
theorem SdB.sd {op : BoolOp} {es : List Expr} (hn : ∀ i, a ≠ .v i) (h : SdB Φ X op es pos a) : Sd Φ X (.BoolOp op es pos) a := Sd.of hn h.ex h.pw.pt
/-! ### several expressions -/
def Es.len : Es → Nat
  | .nil => 0
  | .cons _ r => r.len + 1
def tEsL (K : Kx) (Φ : Nat → Spc) (r : Es) : TA := fun σ H Q' => ∃ (F : Fz) (ρ : Env) (Q : List PyData → Env → Prop), Sg K F H σ ρ ∧ rdEs Φ r ρ Q ∧
  ∀ vs ds F' H' ρ', Sg K F' H' σ ρ' → Stp F H σ ρ F' H' σ ρ' → RpAll K F' H' vs ds → vs.length = r.len → Q ds ρ' → Q' vs H'
def SdEs (Φ : Nat → Spc) (X : Cx) (es : List Expr) (r : Es) : Prop := PA X es (tEsL X.k Φ r)
theorem sds_nil : SdEs Φ X [] .nil := pa_nil.imp fun σ H Q' q => by
  obtain ⟨F, ρ, Q, g, h, k⟩ := q
  rw [rdEs_nil] at h
  exact k [] [] F H ρ g Stp.refl .nil rfl h
theorem sds_cons {es : List Expr} {r : Es} (ha : Sd Φ X a0 a) (hr : SdEs Φ X es r) (hs : starEach (a0 :: es) X.env = (false, eval a0 X.env) :: starEach es X.env) : SdEs Φ X (a0 :: es) (.cons a r) := by
  refine (pa_cons ha.ex hr hs).imp fun σ H Q' q => ?_
  obtain ⟨F, ρ, Q, g, h, k⟩ := q
  rw [rdEs_cons] at h
  refine ⟨F, ρ, _, g, h, fun fr v d F1 H1 ρ1 g1 s1 vr h1 => ?_⟩
  obtain ⟨F2, g2, s2, r2, _⟩ := vr.freeze g1 s1
  refine ⟨F2, ρ1, _, g2, h1, fun vs ds F3 H3 ρ3 g3 s3 rs hl h3 => ?_⟩
  exact k (v :: vs) (d :: ds) F3 H3 ρ3 g3 (s2.trans s3) (.cons (r2.gr (s3.gr g2)) rs) (by rw [List.length_cons, hl]; rfl) h3
/-! ### displays -/
theorem small_size {n : Nat} (h : n ≤ 1000) : n ≤ sizeLine := by rw [sizeLine_eq]; omega
theorem sd_tup {es : List Expr} {r : Es} {x1} (h : SdEs Φ X es r) (hl : r.len ≤ 1000) : Sd Φ X (.Tuple es x1 pos) (.tup r) := by
  refine Sd.plain (fun _ z => nomatch z) rd_tup ⟨fun pins s σ H Q' I q => ?_⟩ fun _ => rfl
  obtain ⟨F, ρ, Q, g, hq, k⟩ := q
  rw [rd_tup, plainT_e] at hq
  have run := h.run pos pins s σ H (fun vs H' => ∃ F' ds ρ', Sg X.k F' H' σ ρ' ∧ Stp F H σ ρ F' H' σ ρ' ∧ RpAll X.k F' H' vs ds ∧ vs.length = r.len ∧ Q false (.tuple ds) ρ') I ⟨F, ρ, _, g, hq, fun vs ds F' H' ρ' g' s' r' l' q' => ⟨F', ds, ρ', g', s', r', l', q'⟩⟩
  refine wpAny_Tuple_spliced (thn run fun us s1 ⟨xs, H1, I1, r1, F', ds, ρ', g', s', r', l', q'⟩ => ?_)
  have z : us.length ≤ sizeLine := by rw [← r1.length, l']; exact small_size hl
  refine ⟨z, ?_⟩
  have hf := I1.fresh
  have l : Lay F' H1 (frz1 F' s1.heap.objs.size) (upd H1 s1.heap.objs.size (.frz (tupObj us) (.tup xs))) := lay_frz g'.tr hf
  refine ⟨.ref s1.heap.objs.size, _, laidT (tk := s1.toks) I1 r1 (by rw [r1.length]; exact z), rfl, ?_⟩
  exact k false _ (.tuple ds) _ _ ρ' (l.sg g') (s'.trans l.stp) (Vr.of (.tup (.inr rfl) ⟨_, upd_same, rfl⟩ (r'.gr (l.gr g'.tr))) rfl) q'
theorem sd_lst {es : List Expr} {r : Es} (h : SdEs Φ X es r) (hl : r.len ≤ 1000) : Sd Φ X (.List es pos) (.lst r) := by
  refine Sd.plain (fun _ z => nomatch z) rd_lst ((pe_lst h).imp fun σ H Q' q => ?_) fun _ => rfl
  obtain ⟨F, ρ, Q, g, hq, k⟩ := q
  rw [rd_lst, plainT_e] at hq
  refine ⟨F, ρ, _, g, hq, fun vs ds F' H' ρ' g' s' r' l' q' => ⟨by rw [l']; exact small_size hl, fun p hp => ?_⟩⟩
  have l : Lay F' H' F' (upd H' p (.lst vs)) := lay_new g'.tr hp
  exact k true _ (.list ds) _ _ ρ' (l.sg g') (s'.trans l.stp) (Vn.vr (H := H') g' s'.tr ⟨p, rfl, notF_new g'.tr hp, .lst upd_same (r'.gr (l.gr g'.tr)), hp⟩) q'
end
end Z

/-! soundness: calls of built-ins, methods that read, isinstance, items and slices -/
namespace Z
open PySem PySem.Spec PyProof.Rows L2
/-! shapes of the text -/
def notStar : Expr → Bool
  | .Starred .. => false
  | _ => true
theorem star_cons {e : Expr} {es : List Expr} {env : PySem.Env} (h : notStar e = true) : starEach (e :: es) env = (false, eval e env) :: starEach es env := by cases e <;> first | rfl | cases h
theorem star_any {pos : Pos} {env : PySem.Env} : ∀ {es : List Expr}, es.all notStar = true → (backTo pos (starEach es env)).any (·.1) = false
  | [], _ => rfl
  | e :: r, h => by
    rw [List.all_cons, Bool.and_eq_true] at h
    rw [star_cons h.1]
    show (false || (backTo pos (starEach r env)).any (·.1)) = false
    rw [star_any h.2]; rfl
theorem star_all {pos : Pos} {env : PySem.Env} : ∀ {es : List Expr}, es.all notStar = true → (backTo pos (starEach es env)).all (fun x => !x.1) = true
  | [], _ => rfl
  | e :: r, h => by
    rw [List.all_cons, Bool.and_eq_true] at h
    rw [star_cons h.1]
    show (true && (backTo pos (starEach r env)).all (fun x => !x.1)) = true
    rw [star_all h.2]; rfl
def plainRecv : Expr → Bool
  | .Call _ (_ :: _) _ _ => true
  | .Call .. => false
  | _ => true
theorem base_plain {o : Expr} {m : Str} {env : PySem.Env} {w : Sem Value} (h : plainRecv o = true) : attributeBase o m env w = w := by
  cases o with
  | Call f as ks p =>
    cases as with
    | nil => cases h
    | cons a as => cases f <;> rfl
  | _ => rfl
def plainIx : Expr → Bool
  | .Slice .. => false
  | _ => true
theorem ix_plain {b : Expr} (h : plainIx b = true) : PlainIx b := fun o i => by cases b <;> first | rfl | cases h
def noMark : Expr → Bool
  | .Set .. => false
  | _ => true
theorem mark_plain {op : CmpOp} {b : Expr} (h : noMark b = true) : behindInMarks op b = false := by cases b <;> first | rfl | cases h
theorem mark_plain2 {op op' : CmpOp} {b c : Expr} (h : noMark c = true) : lastMarks [op, op'] [b, c] = false := by
  show behindInMarks op' c = false
  exact mark_plain h
section
variable {Φ : Nat → Spc} {X : Cx} {a0 b0 c0 : Expr} {a b c : E} {pos p1 p2 p3 : Pos} {x y : Str} {id : String} {p : Pr}
theorem pa1 {t : TE} (ha : PE X a0 t) (n : notStar a0 = true) : PA X [a0] (tCons t tNil) := pa_cons ha pa_nil (star_cons n)
theorem pa2 {t u : TE} (ha : PE X a0 t) (hb : PE X b0 u) (n : notStar a0 = true) (n2 : notStar b0 = true) : PA X [a0, b0] (tCons t (tCons u tNil)) := pa_cons ha (pa1 hb n2) (star_cons n)
theorem sd_b1 (hc : CallR X (.builtin id) (rL1 X.k p)) (hg : Gl X x) (hm : X.mg x = none) (hv : bootBuiltins x = some (.builtin id)) (hn : x ≠ "__name__") (hd : (x == ("__debug__" : Str)) = false) (ha : Sd Φ X a0 a) (n : notStar a0 = true) : Sd Φ X (.Call (.Name x p1) [a0] [] pos) (.p1 p a) :=
  Sd.plain (fun _ z => nomatch z) rd_p1 ((pe_callB hc hg hm hv (pa1 ha.op n) hn hd (star_cons n) rfl).imp fun _ _ _ q => rd1_call Φ q) fun _ => rfl
theorem sd_b2 (hc : CallR X (.builtin id) (rL2 X.k p)) (hg : Gl X x) (hm : X.mg x = none) (hv : bootBuiltins x = some (.builtin id)) (hn : x ≠ "__name__") (hd : (x == ("__debug__" : Str)) = false) (ha : Sd Φ X a0 a) (hb : Sd Φ X b0 b) (n : notStar a0 = true) (n2 : notStar b0 = true) :
    Sd Φ X (.Call (.Name x p1) [a0, b0] [] pos) (.p2 p a b) :=
  Sd.plain (fun _ z => nomatch z) rd_p2 ((pe_callB hc hg hm hv (pa2 ha.op hb.op n n2) hn hd (star_cons n) (star_any (by simp [n2]))).imp fun _ _ _ q => rd2_call Φ q) fun _ => rfl
theorem sd_t1 (hc : CallR X (.type id) (rL1 X.k p)) (hg : Gl X x) (hm : X.mg x = none) (hv : bootBuiltins x = some (.type id)) (hn : x ≠ "__name__") (hd : (x == ("__debug__" : Str)) = false) (ha : Sd Φ X a0 a) (n : notStar a0 = true) : Sd Φ X (.Call (.Name x p1) [a0] [] pos) (.p1 p a) :=
  Sd.plain (fun _ z => nomatch z) rd_p1 ((pe_callTy hc hg hm hv (pa1 ha.op n) hn hd (star_cons n) rfl).imp fun _ _ _ q => rd1_call Φ q) fun _ => rfl
/-- a name imported from math -/
theorem sd_g2 (hc : CallR X (.builtin id) (rL2 X.k p)) (hg : Gl X x) (hm : X.mg x = some (.builtin id)) (hd : (x == ("__debug__" : Str)) = false) (ha : Sd Φ X a0 a) (hb : Sd Φ X b0 b) (n : notStar a0 = true) (n2 : notStar b0 = true) :
    Sd Φ X (.Call (.Name x p1) [a0, b0] [] pos) (.p2 p a b) :=
  Sd.plain (fun _ z => nomatch z) rd_p2 ((pe_callBfun hc hg hm (pa2 ha.op hb.op n n2) hd (star_cons n) (star_any (by simp [n2]))).imp fun _ _ _ q => rd2_call Φ q) fun _ => rfl
/-! isinstance -/
theorem sd_isi {T : String} (hc : CallR X (.builtin "isinstance") (rIs1 X.k p T)) (hg : Gl X "isinstance") (hm : X.mg "isinstance" = none) (hgy : Gl X y) (hmy : X.mg y = none) (hvy : bootBuiltins y = some (.type T)) (hny : y ≠ "__name__") (hdy : (y == ("__debug__" : Str)) = false)
    (ha : Sd Φ X a0 a) (n : notStar a0 = true) : Sd Φ X (.Call (.Name "isinstance" p1) [a0, .Name y p2] [] pos) (.p1 p a) := by
  have hb : PE X (.Name y p2) (tC (.ty T)) := pe_bltn hgy hmy hvy rfl hny hdy
  refine Sd.plain (fun _ z => nomatch z) rd_p1 ((pe_callB (pos := pos) (p := p1) hc hg hm rfl (pa2 ha.op hb n rfl) (by decide) (by decide) (star_cons n) (star_any rfl)).imp fun σ H Q' q => ?_) fun _ => rfl
  obtain ⟨F, ρ, Q, g, h, k⟩ := q
  rw [rd_p1, plainT_e] at h
  refine ⟨F, ρ, _, g, h, fun v o F1 H1 ρ1 g1 s1 ok1 h1 => ?_⟩
  obtain ⟨x, ex, h2⟩ := must_iff.mp h1
  obtain ⟨d, ed, h2⟩ := must_iff.mp h2
  refine ⟨v, rfl, F1, x, d, g1.tr, ok1.rv g1 ex, ed, fun v' F' H' l vn => ?_⟩
  exact k p.fresh v' d F' H' ρ1 (l.sg g1) (s1.trans l.stp) (vn.vr g1 s1.tr) h2
theorem isi_seq {H : Hp} {K : Kx} {F : Fz} {v : V} {d : PyData} (hx : Rv K F H v d) (nd : isDictD d = false) : PySem.W.kitAny K.K (tyOfD d) [.type "list", .type "tuple"] = some (isSeqD d) := by
  cases d <;> first | rfl | cases nd
theorem sd_isiS {q1 q2 q3 : Pos} {x1} (hg : Gl X "isinstance") (hm : X.mg "isinstance" = none) (hgl : Gl X "list") (hml : X.mg "list" = none) (hgt : Gl X "tuple") (hmt : X.mg "tuple" = none)
    (ha : Sd Φ X a0 a) (n : notStar a0 = true) : Sd Φ X (.Call (.Name "isinstance" p1) [a0, .Tuple [.Name "list" q1, .Name "tuple" q2] x1 q3] [] pos) (.p1 .isSeq a) := by
  have hl : PE X (.Name "list" q1) (tC (.ty "list")) := pe_bltn hgl hml rfl rfl
  have ht : PE X (.Name "tuple" q2) (tC (.ty "tuple")) := pe_bltn hgt hmt rfl rfl
  have hb : PE X (.Tuple [.Name "list" q1, .Name "tuple" q2] x1 q3) (tTup (tCons (tC (.ty "list")) (tCons (tC (.ty "tuple")) tNil))) := pe_tup (pa2 hl ht rfl rfl)
  refine Sd.plain (fun _ z => nomatch z) rd_p1 ((pe_callB (pos := pos) (p := p1) call_isiT hg hm rfl (pa2 ha.op hb n rfl) (by decide) (by decide) (star_cons n) (star_any rfl)).imp fun σ H Q' q => ?_) fun _ => rfl
  obtain ⟨F, ρ, Q, g, h, k⟩ := q
  rw [rd_p1, plainT_e] at h
  refine ⟨F, ρ, _, g, h, fun v o F1 H1 ρ1 g1 s1 ok1 h1 => ?_⟩
  obtain ⟨x, ex, h2⟩ := must_iff.mp h1
  obtain ⟨d, ed, h2⟩ := must_iff.mp h2
  refine ⟨by show 2 ≤ _; rw [sizeLine_eq]; omega, fun pt hp => ?_⟩
  have l : Lay F1 H1 F1 (upd H1 pt (.tup [.ty "list", .ty "tuple"])) := lay_new g1.tr hp
  have rv := (ok1.gr (l.gr g1.tr)).rv (l.sg g1) ex
  have ed : (if isDictD x = true then none else some (PyData.bool (isSeqD x))) = some d := ed
  split at ed
  · cases ed
  · rename_i nd
    have nd : isDictD x = false := by simpa using nd
    cases ed
    refine ⟨v, pt, _, tyOfD x, [.type "list", .type "tuple"], isSeqD x, rfl, upd_same, .cons (.ty _) (.cons (.ty _) .nil), rv.ty nd, isi_seq rv nd, ?_⟩
    exact k false _ _ F1 _ ρ1 (l.sg g1) (s1.trans l.stp) (Vr.of (.bl _) rfl) h2
/-! items, slices -/
theorem sd_ix (hu : X.A.units + 66 < cLine) (ha : Sd Φ X a0 a) (hb : Sd Φ X b0 b) (n : plainIx b0 = true) : Sd Φ X (.Subscript a0 b0 pos) (.p2 .ix a b) :=
  Sd.plain (fun _ z => nomatch z) rd_p2 ((pe_ix (ok_ix hu) ha.op hb.op (ix_plain n)).imp fun _ _ _ q => rd2_op Φ q) fun _ => rfl
/-- run an expression: its value, shared -/
theorem Sd.exR (hb : Sd Φ X b0 b) {pins : List (Addr × Obj)} {s : Shared} {σ : L2.St} {H : Hp} {F : Fz} {ρ : Env} {Q : QE} (I : Inv X pins σ H s) (g : Sg X.k F H σ ρ) (h : (rd Φ b).e ρ Q) :
    wpAny (model X.prog X.w) X.A (eval b0 X.env) (fun u s' => ∃ v H' F' ρ' d fr, Inv X pins σ H' s' ∧ L2.RelV v u ∧ Sg X.k F' H' σ ρ' ∧ Stp F H σ ρ F' H' σ ρ' ∧ Rp X.k F' H' v d ∧ Q fr d ρ') X.xe s := by
  refine thn (hb.ex.run pins s σ H (fun v H' => ∃ F' ρ' d fr, Sg X.k F' H' σ ρ' ∧ Stp F H σ ρ F' H' σ ρ' ∧ Rp X.k F' H' v d ∧ Q fr d ρ') I ⟨F, ρ, Q, g, h, fun fr w d F2 H2 ρ2 g2 st2 vr h3 => ?_⟩) fun u s2 ⟨y, H2, I2, r2, F2, ρ2, d, fr, g2, st2, ry, h3⟩ => ⟨y, H2, F2, ρ2, d, fr, I2, r2, g2, st2, ry, h3⟩
  obtain ⟨F3, g3, st3, r3, _⟩ := vr.freeze g2 st2
  exact ⟨F3, ρ2, d, fr, g3, st3, r3, h3⟩
/-- run an operand -/
theorem Sd.opR (ha : Sd Φ X a0 a) {pins : List (Addr × Obj)} {s : Shared} {σ : L2.St} {H : Hp} {F : Fz} {ρ : Env} {Kp : Opd → Env → Prop} (I : Inv X pins σ H s) (g : Sg X.k F H σ ρ) (h : opd a (rd Φ a).e ρ Kp) :
    wpAny (model X.prog X.w) X.A (eval a0 X.env) (fun u s' => ∃ v H' F' ρ' o, Inv X pins σ H' s' ∧ L2.RelV v u ∧ Sg X.k F' H' σ ρ' ∧ Stp F H σ ρ F' H' σ ρ' ∧ OpdOk X.k F' H' σ v o ∧ Kp o ρ') X.xe s :=
  thn (ha.op.run pins s σ H (fun v H' => ∃ F' ρ' o, Sg X.k F' H' σ ρ' ∧ Stp F H σ ρ F' H' σ ρ' ∧ OpdOk X.k F' H' σ v o ∧ Kp o ρ') I ⟨F, ρ, Kp, g, h, fun v o F2 H2 ρ2 g2 st2 ok h3 => ⟨F2, ρ2, o, g2, st2, ok, h3⟩⟩) fun u s2 ⟨y, H2, I2, r2, F2, ρ2, o, g2, st2, ok, h3⟩ => ⟨y, H2, F2, ρ2, o, I2, r2, g2, st2, ok, h3⟩
/-! d.get -/
structure Mth (X : Cx) (a0 : Expr) (m : Str) (apos pos : Pos) : Prop where
  base : plainRecv a0 = true
  line : (apos.endLine == pos.line) = true
def tyName : PyData → String
  | .list _ => "list"
  | .tuple _ => "tuple"
  | .dict _ => "dict"
  | .str _ => "str"
  | _ => ""
theorem ty_of {pins : List (Addr × Obj)} {σ : L2.St} {H : Hp} {s : Shared} {F : Fz} {v : V} {u : Value} {es : List (PyData × PyData)} (I : Inv X pins σ H s) (r : L2.RelV v u) (h : Rv X.k F H v (.dict es)) :
    s.TypeIs u "dict" ∧ ∀ b, u = .ref b → ∃ ob, s.heap.get? b = some ob ∧ ob.dict = none := by
  obtain ⟨b, rfl, D⟩ := h.dict
  cases r
  cases D with
  | dk q e t =>
    obtain ⟨_, _, _, _, o, _, _, h1, h2, _⟩ := dk_rd I.hok q
    exact ⟨⟨o, h1, h2.1⟩, fun c e => by cases e; exact ⟨o, h1, h2.2.1⟩⟩
  | dt q n e t z =>
    obtain ⟨⟨_, _, o, _, _, h1, h2, _⟩, _⟩ := q.ok I.hok
    exact ⟨⟨o, h1, h2.1⟩, fun c e => by cases e; exact ⟨o, h1, h2.2.1⟩⟩
theorem sd_get1 (hu : X.A.units + 66 < cLine) (ha : Sd Φ X a0 a) (hb : Sd Φ X b0 b) (nb : notStar b0 = true) (m : Mth X a0 "get" p1 pos) : Sd Φ X (.Call (.Attribute a0 "get" p1) [b0] [] pos) (.m1 .get1 a b) := by
  refine Sd.plain (fun _ z => nomatch z) rd_m1 ⟨fun pins s σ H Q' I q => ?_⟩ fun _ => rfl
  obtain ⟨F, ρ, Q, g, h, k⟩ := q
  rw [rd_m1, plainT_e] at h
  have few : ((backTo pos (starEach [b0] X.env)).all (fun x => !x.1) && (backToKw pos (keywordEach [] X.env)).all (fun x => x.1.isSome)
      && decide ([b0].length + ([] : List Keyword).length + (if ([] : List Keyword).isEmpty then 0 else 1) < 30)) = true := by
    rw [star_all (by simp [nb])]; rfl
  refine wpAny_Call_method_late (base_plain m.base) few m.line rfl (thn (ha.opR I g h) fun v s1 ⟨x, H1, F1, ρ1, o, I1, r1, g1, st1, ok1, h1⟩ => ?_)
  obtain ⟨x1, ex1, hr, h2⟩ := must_iff.mp h1
  cases x1 with
  | dict es1 =>
    obtain ⟨t1, t2⟩ := ty_of I1 r1 (ok1.rv g1 ex1)
    refine ⟨"dict", "dict.get", PySem.F.plainAttrs_dict, PySem.F.slot_dict_get, PySem.F.type_dict_get, t1, t2, ?_⟩
    rw [star_cons nb]
    refine Calls.callWith_builtin rfl (Calls.evalArgs_plain (Calls.spliced_cons ?_))
    refine thn (hb.exR I1 g1 h2) fun u s2 ⟨y, H2, F2, ρ2, d, fr, I2, r2, g2, st2, ry, h3⟩ => Calls.spliced_nil ?_
    · obtain ⟨x2, ex2, hk, h3⟩ := must_iff.mp h3
      obtain ⟨z, ez, h3⟩ := must_iff.mp h3
      cases x2 with
      | dict es =>
        have ez : (if keyFit es d = true then some ((lookD es d).getD PyData.none) else none) = some z := ez
        split at ez
        · rename_i fit
          cases ez
          have rx : Rv X.k F2 H2 x (.dict es) := (ok1.gr (st2.gr g1)).rv g2 ex2
          obtain ⟨b', rfl, D⟩ := rx.dict
          cases r1
          obtain ⟨oo, G, hh⟩ := dget_of I2 D (.inl ry) r2 fit
          refine G.g1 hu _ _ fun tk => ?_
          rcases hh with ⟨e1, e2⟩ | ⟨w', v', d', e1, rw', e2, rp⟩
          · rw [e1]; rw [e2] at h3
            exact ⟨.non, H2, I2.tok tk, rfl, k false .non .none F2 H2 ρ2 g2 (st1.trans st2) (Vr.of .non rfl) h3⟩
          · rw [e1]; rw [e2] at h3
            exact ⟨v', H2, I2.tok tk, rw', k false v' d' F2 H2 ρ2 g2 (st1.trans st2) (Vr.of rp rfl) h3⟩
        · cases ez
      | _ => exact absurd hk (by simp [kindN])
  | _ => cases hr
theorem sd_get2 (hu : X.A.units + 66 < cLine) (ha : Sd Φ X a0 a) (hb : Sd Φ X b0 b) (hc : Sd Φ X c0 c) (nb : notStar b0 = true) (nc : notStar c0 = true) (m : Mth X a0 "get" p1 pos) : Sd Φ X (.Call (.Attribute a0 "get" p1) [b0, c0] [] pos) (.m2 .get2 a b c) := by
  refine Sd.plain (fun _ z => nomatch z) rd_m2 ⟨fun pins s σ H Q' I q => ?_⟩ fun _ => rfl
  obtain ⟨F, ρ, Q, g, h, k⟩ := q
  rw [rd_m2, plainT_e] at h
  have few : ((backTo pos (starEach [b0, c0] X.env)).all (fun x => !x.1) && (backToKw pos (keywordEach [] X.env)).all (fun x => x.1.isSome)
      && decide ([b0, c0].length + ([] : List Keyword).length + (if ([] : List Keyword).isEmpty then 0 else 1) < 30)) = true := by
    rw [star_all (by simp [nb, nc])]; rfl
  refine wpAny_Call_method_late (base_plain m.base) few m.line rfl (thn (ha.opR I g h) fun v s1 ⟨x, H1, F1, ρ1, o, I1, r1, g1, st1, ok1, h1⟩ => ?_)
  obtain ⟨x1, ex1, hr, h2⟩ := must_iff.mp h1
  cases x1 with
  | dict es1 =>
    obtain ⟨t1, t2⟩ := ty_of I1 r1 (ok1.rv g1 ex1)
    refine ⟨"dict", "dict.get", PySem.F.plainAttrs_dict, PySem.F.slot_dict_get, PySem.F.type_dict_get, t1, t2, ?_⟩
    rw [star_cons nb, star_cons nc]
    refine Calls.callWith_builtin rfl (Calls.evalArgs_plain (Calls.spliced_cons ?_))
    refine thn (hb.exR I1 g1 h2) fun u s2 ⟨y, H2, F2, ρ2, d, fr, I2, r2, g2, st2, ry, h3⟩ => Calls.spliced_cons ?_
    · refine thn (hc.exR I2 g2 h3) fun u3 s3 ⟨y3, H3, F3, ρ3, d3, fr3, I3, r3, g3, st3, ry3, h4⟩ => Calls.spliced_nil ?_
      obtain ⟨x2, ex2, hk, h3⟩ := must_iff.mp h4
      obtain ⟨z, ez, h3⟩ := must_iff.mp h3
      cases x2 with
      | dict es =>
        have ez : (if keyFit es d = true then some ((lookD es d).getD d3) else none) = some z := ez
        split at ez
        · rename_i fit
          cases ez
          have rx : Rv X.k F3 H3 x (.dict es) := (ok1.gr ((st2.gr g1).trans (st3.gr g2))).rv g3 ex2
          obtain ⟨b', rfl, D⟩ := rx.dict
          cases r1
          obtain ⟨oo, G, hh⟩ := dget_of I3 D (.inl (ry.gr (st3.gr g2))) r2 fit
          refine G.g2 hu _ _ _ fun tk => ?_
          rcases hh with ⟨e1, e2⟩ | ⟨w', v', d', e1, rw', e2, rp⟩
          · rw [e1]; rw [e2] at h3
            exact ⟨y3, H3, I3.tok tk, r3, k false y3 d3 F3 H3 ρ3 g3 ((st1.trans st2).trans st3) (Vr.of ry3 rfl) h3⟩
          · rw [e1]; rw [e2] at h3
            exact ⟨v', H3, I3.tok tk, rw', k false v' d' F3 H3 ρ3 g3 ((st1.trans st2).trans st3) (Vr.of rp rfl) h3⟩
        · cases ez
      | _ => exact absurd hk (by simp [kindN])
  | _ => cases hr
end
end Z

/-! soundness: slices, gcd; calls of the text's own defs -/
namespace Z
open PySem PySem.Spec PyProof.Rows L2 C8
section
variable {Φ : Nat → Spc} {X : Cx} {a0 b0 c0 : Expr} {a b c : E} {pos p1 p2 p3 : Pos} {x y : Str} {id : String} {p : Pr}
theorem Rp.int' {K : Kx} {F : Fz} {H : Hp} {v : V} {i : Int} (h : Rp K F H v (.int i)) : v = .int i := by cases h; rfl
theorem sl_low {x y d : PyData} (e : slLD x y = some d) : ∃ i, y = .int i ∧ cutD x (some i) none = some d := by
  unfold slLD at e
  split at e
  · exact ⟨_, rfl, e⟩
  · cases e
theorem sl_high {x y d : PyData} (e : slHD x y = some d) : ∃ i, y = .int i ∧ cutD x none (some i) = some d := by
  unfold slHD at e
  split at e
  · exact ⟨_, rfl, e⟩
  · cases e
theorem sl_both {x y z d : PyData} (e : slLHD x y z = some d) : ∃ i j, y = .int i ∧ z = .int j ∧ cutD x (some i) (some j) = some d := by
  unfold slLHD at e
  split at e
  · exact ⟨_, _, rfl, rfl, e⟩
  · cases e
theorem mustI_iff {x : PyData} {Q : Int → Prop} (h : mustI x Q) : ∃ n, x = .int n ∧ Q n := by
  cases x <;> first | exact ⟨_, rfl, h⟩ | exact h.elim
theorem sd_slL (ha : Sd Φ X a0 a) (hb : Sd Φ X b0 b) : Sd Φ X (.Subscript a0 (.Slice (some b0) none none p2) pos) (.p2 .slL a b) := by
  refine Sd.plain (fun _ z => nomatch z) rd_p2 ((pe_slice ok_sl ha.op (po_some hb.op) po_none).imp fun σ H Q' q => ?_) fun _ => rfl
  obtain ⟨F, ρ, Q, g, h, k⟩ := q
  rw [rd_p2, plainT_e] at h
  refine ⟨F, ρ, _, g, h, fun v o F1 H1 ρ1 g1 s1 ok1 h1 => ⟨F1, ρ1, _, g1, h1, fun w o2 F2 H2 ρ2 g2 s2 ok2 h2 => ?_⟩⟩
  obtain ⟨x, ex, h3⟩ := must_iff.mp h2
  obtain ⟨y, ey, h4⟩ := must_iff.mp h3
  obtain ⟨d, ed, h5⟩ := must_iff.mp h4
  obtain ⟨i, rfl, ed⟩ := sl_low ed
  refine ⟨i, (ok2.rv g2 ey).int, F2, x, d, g2.tr, (ok1.gr (s2.gr g1)).rv g2 ex, ed, fun v' F' H' l vn => ?_⟩
  exact k true v' d F' H' ρ2 (l.sg g2) ((s1.trans s2).trans l.stp) (vn.vr g2 (s1.trans s2).tr) h5
theorem sd_slH (ha : Sd Φ X a0 a) (hb : Sd Φ X b0 b) : Sd Φ X (.Subscript a0 (.Slice none (some b0) none p2) pos) (.p2 .slH a b) := by
  refine Sd.plain (fun _ z => nomatch z) rd_p2 ((pe_slice ok_sl ha.op po_none (po_some hb.op)).imp fun σ H Q' q => ?_) fun _ => rfl
  obtain ⟨F, ρ, Q, g, h, k⟩ := q
  rw [rd_p2, plainT_e] at h
  refine ⟨F, ρ, _, g, h, fun v o F1 H1 ρ1 g1 s1 ok1 h1 => ⟨F1, ρ1, _, g1, h1, fun w o2 F2 H2 ρ2 g2 s2 ok2 h2 => ?_⟩⟩
  obtain ⟨x, ex, h3⟩ := must_iff.mp h2
  obtain ⟨y, ey, h4⟩ := must_iff.mp h3
  obtain ⟨d, ed, h5⟩ := must_iff.mp h4
  obtain ⟨i, rfl, ed⟩ := sl_high ed
  refine ⟨i, (ok2.rv g2 ey).int, F2, x, d, g2.tr, (ok1.gr (s2.gr g1)).rv g2 ex, ed, fun v' F' H' l vn => ?_⟩
  exact k true v' d F' H' ρ2 (l.sg g2) ((s1.trans s2).trans l.stp) (vn.vr g2 (s1.trans s2).tr) h5
theorem sd_slLH (ha : Sd Φ X a0 a) (hb : Sd Φ X b0 b) (hc : Sd Φ X c0 c) : Sd Φ X (.Subscript a0 (.Slice (some b0) (some c0) none p2) pos) (.p3 .slLH a b c) := by
  refine Sd.plain (fun _ z => nomatch z) rd_p3 ((pe_slice ok_sl ha.op (po_some hb.op) (po_some hc.op)).imp fun σ H Q' q => ?_) fun _ => rfl
  obtain ⟨F, ρ, Q, g, h, k⟩ := q
  rw [rd_p3, plainT_e] at h
  refine ⟨F, ρ, _, g, h, fun v o F1 H1 ρ1 g1 s1 ok1 h1 => ⟨F1, ρ1, _, g1, h1, fun w o2 F2 H2 ρ2 g2 s2 ok2 h2 => ?_⟩⟩
  obtain ⟨y, ey, h3⟩ := must_iff.mp h2
  obtain ⟨i, rfl, h4⟩ := mustI_iff h3
  refine ⟨i, (ok2.rv g2 ey).int, F2, ρ2, _, g2, h4, fun u o3 F3 H3 ρ3 g3 s3 ok3 h5 => ?_⟩
  obtain ⟨x, ex, h6⟩ := must_iff.mp h5
  obtain ⟨z, ez, h7⟩ := must_iff.mp h6
  obtain ⟨d, ed, h8⟩ := must_iff.mp h7
  obtain ⟨i', j, e1, rfl, ed⟩ := sl_both ed
  cases e1
  refine ⟨j, (ok3.rv g3 ez).int, F3, x, d, g3.tr, (ok1.gr ((s2.gr g1).trans (s3.gr g2))).rv g3 ex, ed, fun v' F' H' l vn => ?_⟩
  exact k true v' d F' H' ρ3 (l.sg g3) (((s1.trans s2).trans s3).trans l.stp) (vn.vr g3 ((s1.trans s2).trans s3).tr) h8
theorem ok_gcd : CallR X (.builtin "math.gcd") (rL2 X.k .gcd) := by
  intro pins s σ H vs us Q I r h
  obtain ⟨x, y, rfl, F, dx, dy, d, t, hx, hy, ed, k⟩ := h
  have ed : gcdD dx dy = some d := ed
  unfold gcdD at ed
  split at ed
  · cases ed
    cases hx.int; cases hy.int
    exact cr_gcd pins s σ H _ us Q I r ⟨_, _, rfl, k.same t (.int _) rfl⟩
  · cases ed
/-! ### the text's own defs -/
/-- what a def promises -/
def spZ (K : Kx) (φ : Spc) (n : Nat) : Sp := fun vs H Q _ => vs.length = n ∧ ∃ F ds Kq, (∀ a, F a → H a ≠ none) ∧ RpAll K F H vs ds ∧ φ ds Kq ∧ ∀ fr d v F' H', Kq fr d → Lay F H F' H' → Vn K H F' H' fr v d → Q v H'
/-- .. whose first argument are the draws -/
structure LayD (a : Addr) (F : Fz) (H : Hp) (F' : Fz) (H' : Hp) : Prop where
  sub : ∀ x, F x → F' x
  new : ∀ x, F' x → F x ∨ H x = none
  keep : ∀ x, H x ≠ none → x ≠ a → H' x = H x ∨ (F' x ∧ Hq (H x) (H' x))
  tr : ∀ x, F' x → H' x ≠ none
def spD (K : Kx) (φ : Spc) (n : Nat) : Sp := fun vs H Q _ => vs.length = n + 1 ∧ ∃ F a ws ds d0 Kq, vs = .ref a :: ws ∧ (∀ a, F a → H a ≠ none) ∧ ¬ F a ∧ Ob K F H a d0 ∧ ValidD d0 ∧ RpAll K F H ws ds ∧ φ ds Kq ∧
  ∀ fr d v F' H' d1, Kq fr d → LayD a F H F' H' → Ob K F' H' a d1 → ValidD d1 → Vn K H F' H' fr v d → Q v H'
variable {es : List Expr} {r : Es} {i f n k j : Nat} {e : Expr}
theorem sd_call (c : Cal X.prog X.w X.K X.mg X.base k x (spZ X.k (Φ f) n) []) (hr : Room j X.A) (hk : k ≤ j) (hg : Gl X x) (hdb : (x == ("__debug__" : Str)) = false) (ha : SdEs Φ X (e :: es) r) (hn : r.len = n) (st : (e :: es).all notStar = true) :
    Sd Φ X (.Call (.Name x p1) (e :: es) [] pos) (.call f r) := by
  have st' := st
  rw [List.all_cons, Bool.and_eq_true] at st'
  refine Sd.plain (fun _ z => nomatch z) rd_call ((pe_c c hr hk hg ha hdb (star_cons st'.1) (star_any st'.2)).imp fun σ H Q' q => ?_) fun _ => rfl
  obtain ⟨F, ρ, Q, g, h, k⟩ := q
  rw [rd_call, plainT_e] at h
  refine ⟨F, ρ, _, g, h, fun vs ds F1 H1 ρ1 g1 s1 rs hl h1 => ⟨by rw [List.append_nil, hl]; exact hn, F1, ds, _, g1.tr, by rw [List.append_nil]; exact rs, h1, fun fr d v F' H' kq l vn => ?_⟩⟩
  exact k fr v d F' H' ρ1 (l.sg g1) (s1.trans l.stp) (vn.vr g1 s1.tr) kq
end
end Z

/-! soundness: targets, walked things, locks -/
namespace Z
open PySem PySem.Spec PyProof.Rows L2 C8
section
variable {K : Kx} {F F1 F2 F' F0 : Fz} {H H1 H2 H' H0 : Hp} {σ σ1 σ2 σ' σ0 : L2.St} {ρ ρ1 ρ2 ρ' ρ0 : Env}
theorem set_ne {α : Type} {l : List α} {i j : Nat} {x : α} (h : i ≠ j) : (l.set i x)[j]? = l[j]? := List.getElem?_set_ne h
/-- a value goes into a slot -/
theorem Sg.store (g : Sg K F H σ ρ) (s : Stp F0 H0 σ0 ρ0 F H σ ρ) {i : Nat} {fr : Bool} {v : V} {d : PyData} (h : Vr K H0 F H σ ρ fr v d) :
    Sg K F H (σ.set i (some v)) (ρ.set i (if (fr && isMut d) = true then .ow d else .sh d)) ∧ Stp F0 H0 σ0 ρ0 F H (σ.set i (some v)) (ρ.set i (if (fr && isMut d) = true then .ow d else .sh d)) := by
  have hl := g.len
  have newS : ∀ j s', (ρ.set i (if (fr && isMut d) = true then Sl.ow d else .sh d))[j]? = some s' → (j = i ∧ s' = (if (fr && isMut d) = true then Sl.ow d else .sh d) ∧ i < σ.length) ∨ (j ≠ i ∧ ρ[j]? = some s') := fun j s' e => by
    rcases get_set_cases e with ⟨rfl, q⟩ | q
    · refine .inl ⟨rfl, q, ?_⟩
      have := (List.getElem?_eq_some_iff.mp e).1
      rw [List.length_set] at this
      omega
    · exact .inr q
  unfold Vr at h
  by_cases c : (fr && isMut d) = true
  · rw [if_pos c] at h newS ⊢
    obtain ⟨a, rfl, n, o, z, w⟩ := h
    refine ⟨⟨by rw [List.length_set, List.length_set]; exact hl, fun j s' e => ?_, fun j k b s1 s2 e1 e2 o1 o2 v1 v2 => ?_, g.tr⟩, ⟨s.sub, s.new, s.keep, s.tr, fun b m => ?_, fun j s' e p => ?_⟩⟩
    · rcases newS j s' e with ⟨rfl, rfl, hi⟩ | ⟨ne, e⟩
      · rw [List.getElem?_set_self hi]
        exact ⟨a, rfl, n, o⟩
      · rw [set_ne (Ne.symm ne)]
        exact g.sl j s' e
    · rcases newS j s1 e1 with ⟨rfl, rfl, hi⟩ | ⟨ne1, e1'⟩
      · rcases newS k s2 e2 with ⟨rfl, rfl, hk⟩ | ⟨ne2, e2'⟩
        · rfl
        · exfalso
          rw [List.getElem?_set_self hi] at v1
          rw [set_ne (Ne.symm ne2)] at v2
          cases v1
          exact w ⟨k, s2, e2', o2, v2⟩
      · rcases newS k s2 e2 with ⟨rfl, rfl, hk⟩ | ⟨ne2, e2'⟩
        · exfalso
          rw [List.getElem?_set_self hk] at v2
          rw [set_ne (Ne.symm ne1)] at v1
          cases v2
          exact w ⟨j, s1, e1', o1, v1⟩
        · rw [set_ne (Ne.symm ne1)] at v1
          rw [set_ne (Ne.symm ne2)] at v2
          exact g.inj j k b s1 s2 e1' e2' o1 o2 v1 v2
    · obtain ⟨j, s', e, m', v'⟩ := m
      rcases newS j s' e with ⟨rfl, rfl, hi⟩ | ⟨ne, e⟩
      · rw [List.getElem?_set_self hi] at v'
        cases v'
        exact .inr z
      · rw [set_ne (Ne.symm ne)] at v'
        exact s.own b ⟨j, s', e, m', v'⟩
    · rcases newS j s' e with ⟨rfl, rfl, hi⟩ | ⟨ne, e⟩
      · cases p
      · rw [set_ne (Ne.symm ne)]
        exact s.lk j s' e p
  · rw [if_neg c] at h newS ⊢
    refine ⟨⟨by rw [List.length_set, List.length_set]; exact hl, fun j s' e => ?_, fun j k b s1 s2 e1 e2 o1 o2 v1 v2 => ?_, g.tr⟩, ⟨s.sub, s.new, s.keep, s.tr, fun b m => ?_, fun j s' e p => ?_⟩⟩
    · rcases newS j s' e with ⟨rfl, rfl, hi⟩ | ⟨ne, e⟩
      · rw [List.getElem?_set_self hi]
        exact ⟨v, rfl, h⟩
      · rw [set_ne (Ne.symm ne)]
        exact g.sl j s' e
    · rcases newS j s1 e1 with ⟨rfl, rfl, hi⟩ | ⟨ne1, e1'⟩
      · cases o1
      · rcases newS k s2 e2 with ⟨rfl, rfl, hk⟩ | ⟨ne2, e2'⟩
        · cases o2
        · rw [set_ne (Ne.symm ne1)] at v1
          rw [set_ne (Ne.symm ne2)] at v2
          exact g.inj j k b s1 s2 e1' e2' o1 o2 v1 v2
    · obtain ⟨j, s', e, m', v'⟩ := m
      rcases newS j s' e with ⟨rfl, rfl, hi⟩ | ⟨ne, e⟩
      · cases m'
      · rw [set_ne (Ne.symm ne)] at v'
        exact s.own b ⟨j, s', e, m', v'⟩
    · rcases newS j s' e with ⟨rfl, rfl, hi⟩ | ⟨ne, e⟩
      · cases p
      · rw [set_ne (Ne.symm ne)]
        exact s.lk j s' e p
/-- the names of a target -/
def Tg.vars : Tg → List Nat
  | .nm i => [i]
  | .nil => []
  | .cons t r => t.vars ++ r.vars
/-- only these slots changed -/
def Same (vs : List Nat) (σ σ' : L2.St) : Prop := σ'.length = σ.length ∧ ∀ j, j ∉ vs → σ'[j]? = σ[j]?
theorem Same.refl {vs : List Nat} : Same vs σ σ := ⟨rfl, fun _ _ => rfl⟩
theorem Same.trans {vs ws : List Nat} (a : Same vs σ σ1) (b : Same ws σ1 σ2) : Same (vs ++ ws) σ σ2 :=
  ⟨b.1.trans a.1, fun j h => (b.2 j fun q => h (List.mem_append_right _ q)).trans (a.2 j fun q => h (List.mem_append_left _ q))⟩
theorem Same.set {i : Nat} {x : Option V} : Same [i] σ (σ.set i x) := ⟨List.length_set .., fun j h => set_ne fun e => h (by rw [e]; exact List.mem_singleton.mpr rfl)⟩
theorem Same.mono {vs ws : List Nat} (a : Same vs σ σ1) (h : ∀ i ∈ vs, i ∈ ws) : Same ws σ σ1 := ⟨a.1, fun j q => a.2 j fun z => q (h j z)⟩
end
def Tg.isTup : Tg → Bool
  | .nm _ => false
  | _ => true
/-- a value for a target: as an expression hands it on; or a pair that was just made and goes to a tuple's targets -/
def VrG (K : Kx) (H0 : Hp) (F : Fz) (H : Hp) (σ : L2.St) (ρ : Env) (g : Tg) (fr : Bool) (v : V) (d : PyData) : Prop :=
  Vr K H0 F H σ ρ fr v d ∨ (g.isTup = true ∧ ∃ a xs ds, v = .ref a ∧ SqT K.K H a xs ∧ RpAll K F H xs ds ∧ d = .tuple ds)
def tG (K : Kx) (g : Tg) : TG := fun v σ H Q' => ∃ (F0 : Fz) (H0 : Hp) (ρ0 : Env) (σ0 : L2.St) (F : Fz) (ρ : Env) (fr : Bool) (d : PyData) (Q : Env → Prop), Sg K F H σ ρ ∧ Stp F0 H0 σ0 ρ0 F H σ ρ ∧ VrG K H0 F H σ ρ g fr v d ∧ asgT g fr d ρ Q ∧
  ∀ σ' ρ', Sg K F H σ' ρ' → Stp F0 H0 σ0 ρ0 F H σ' ρ' → Same g.vars σ σ' → Q ρ' → Q' σ' H
/-- several targets -/
def tGs (K : Kx) (g : Tg) : TGs := fun vs σ H Q' => ∃ (F0 : Fz) (H0 : Hp) (ρ0 : Env) (σ0 : L2.St) (F : Fz) (ρ : Env) (ds : List PyData) (Q : Env → Prop), Sg K F H σ ρ ∧ Stp F0 H0 σ0 ρ0 F H σ ρ ∧ RpAll K F H vs ds ∧ asgTs g ds ρ Q ∧
  ∀ σ' ρ', Sg K F H σ' ρ' → Stp F0 H0 σ0 ρ0 F H σ' ρ' → Same g.vars σ σ' → Q ρ' → Q' σ' H
theorem _root_.L2.PGs.imp' {X : Cx} {ts : List Expr} {t t' : TGs} (h : PGs X ts t) (w : ∀ vs σ H Q, t' vs σ H Q → t vs σ H Q) : PGs X ts t' := ⟨fun pins s σ H vs us Q I r q => h.run pins s σ H vs us Q I r (w vs σ H Q q)⟩
section
variable {X : Cx}
theorem pgT_nm {i : Nat} {x : Str} {pos : Pos} (hN : X.N.Nodup) (hi : X.N[i]? = some x) (hx : Loc X.env.scope x) (hf : X.fn x = true ∨ X.env.scope.names.lookup x = some .local) : PG X (.Name x pos) (tG X.k (.nm i)) := by
  refine (pg_name (pos := pos) hN hi hx hf).imp fun v σ H Q' q => ?_
  obtain ⟨F0, H0, ρ0, σ0, F, ρ, fr, d, Q, g, s, vr, h, k⟩ := q
  obtain ⟨g', s'⟩ := g.store (i := i) s (vr.resolve_right fun z => nomatch z.1)
  exact k _ _ g' s' Same.set (by rw [asgT] at h; exact h)
theorem pgT_nil : PGs X [] (tGs X.k .nil) := pgs_nil.imp' fun vs σ H Q' q => by
  obtain ⟨F0, H0, ρ0, σ0, F, ρ, ds, Q, g, s, rs, h, k⟩ := q
  rw [asgTs] at h
  obtain ⟨rfl, h⟩ := h
  cases rs
  exact ⟨rfl, k σ ρ g s Same.refl h⟩
def Tg.len : Tg → Nat
  | .cons _ r => r.len + 1
  | _ => 0
theorem pgT_cons {e : Expr} {es : List Expr} {t r : Tg} (h1 : PG X e (tG X.k t)) (h2 : PGs X es (tGs X.k r)) (hs : (assignEach (e :: es) X.env).map (·.2) = assign e X.env :: (assignEach es X.env).map (·.2)) : PGs X (e :: es) (tGs X.k (.cons t r)) :=
  (pgs_cons h1 h2 hs).imp' fun vs σ H Q' q => by
    obtain ⟨F0, H0, ρ0, σ0, F, ρ, ds, Q, g, s, rs, h, k⟩ := q
    cases ds with
    | nil => rw [asgTs] at h; exact h.elim
    | cons d ds' =>
      rw [asgTs] at h
      cases rs with
      | cons r1 rr =>
        refine ⟨_, _, rfl, F0, H0, ρ0, σ0, F, ρ, false, d, _, g, s, .inl (Vr.of r1 rfl), h, fun σ' ρ' g' s' sm h' => ?_⟩
        refine ⟨F0, H0, ρ0, σ0, F, ρ', ds', _, g', s', rr, h', fun σ2 ρ2 g2 s2 sm2 h2 => ?_⟩
        exact k σ2 ρ2 g2 s2 (sm.trans sm2) h2
theorem asn_cons {e : Expr} {es : List Expr} {env : PySem.Env} (h : notStar e = true) : assignEach (e :: es) env = (false, assign e env) :: assignEach es env := by cases e <;> first | rfl | cases h
theorem asn_len {env : PySem.Env} : ∀ {es : List Expr}, es.all notStar = true → (assignEach es env).length = es.length ∧ (assignEach es env).findIdx? (·.1) = none
  | [], _ => ⟨rfl, rfl⟩
  | e :: r, h => by
    rw [List.all_cons, Bool.and_eq_true] at h
    obtain ⟨h1, h2⟩ := asn_len (env := env) h.2
    rw [asn_cons h.1]
    refine ⟨by rw [List.length_cons, List.length_cons, h1], ?_⟩
    rw [List.findIdx?_cons, h2]; rfl
mutual
theorem asgT_ex : ∀ (t : Tg) (fr : Bool) (d : PyData) (ρ : Env) (Q : Env → Prop), asgT t fr d ρ Q → ∃ ρ', Q ρ'
  | .nm i, fr, d, ρ, Q, h => by rw [asgT] at h; exact ⟨_, h⟩
  | .nil, fr, d, ρ, Q, h => by
    cases d with
    | tuple ds =>
      cases ds with
      | nil => rw [asgT] at h; exact ⟨_, h⟩
      | cons d ds => simp [asgT] at h
    | _ => simp [asgT] at h
  | .cons t r, fr, d, ρ, Q, h => by
    cases d with
    | tuple ds =>
      rw [asgT] at h
      exact (asgTs_ex (.cons t r) ds ρ Q h).2
    | _ => simp [asgT] at h
theorem asgTs_ex : ∀ (t : Tg) (ds : List PyData) (ρ : Env) (Q : Env → Prop), asgTs t ds ρ Q → ds.length = t.len ∧ ∃ ρ', Q ρ'
  | .nil, ds, ρ, Q, h => by
    rw [asgTs] at h
    obtain ⟨rfl, h⟩ := h
    exact ⟨rfl, _, h⟩
  | .cons t r, [], ρ, Q, h => by simp [asgTs] at h
  | .cons t r, d :: ds, ρ, Q, h => by
    rw [asgTs] at h
    obtain ⟨ρ', h⟩ := asgT_ex t false d ρ _ h
    obtain ⟨h1, h2⟩ := asgTs_ex r ds ρ' Q h
    exact ⟨by rw [List.length_cons, h1]; rfl, h2⟩
  | .nm i, ds, ρ, Q, h => by simp [asgTs] at h
end
theorem pgT_tup {es : List Expr} {kk : Nat} {pos : Pos} {t r : Tg} (hc : X.calm = true) (h : PGs X es (tGs X.k (.cons t r))) (hn : es.length = (Tg.cons t r).len) (hst : es.all notStar = true) : PG X (.Tuple es kk pos) (tG X.k (.cons t r)) :=
  (pg_tup (k := kk) (pos := pos) hc h rfl (asn_len hst).2).imp fun v σ H Q' q => by
    obtain ⟨F0, H0, ρ0, σ0, F, ρ, fr, d, Q, g, s, vr, h, k⟩ := q
    cases d with
    | tuple ds =>
      rw [asgT] at h
      have go : ∀ {a xs}, SqT X.K H a xs → RpAll X.k F H xs ds → gTup X.K (assignEach es X.env).length (tGs X.k (.cons t r)) (.ref a) σ H Q' := fun {a xs} q rs => by
        refine ⟨_, _, rfl, q, ?_, F0, H0, ρ0, σ0, F, ρ, ds, Q, g, s, rs, h, k⟩
        rw [rs.length, (asgTs_ex _ _ _ _ h).1, (asn_len hst).1, hn]
      rcases vr with vr | ⟨_, a, xs, ds', rfl, q, rs, e⟩
      · have rp : Rp X.k F H v (.tuple ds) := by
          unfold Vr at vr
          rw [if_neg (by cases fr <;> simp [isMut])] at vr
          exact vr
        cases rp with
        | tup f q rs => exact go q.sq rs
      · cases e
        exact go q rs
    | _ => simp [asgT] at h
end
/-! ### locks -/
section
variable {K : Kx} {F F1 F2 F' F0 : Fz} {H H1 H2 H' H0 : Hp} {σ σ1 σ2 σ' σ0 : L2.St} {ρ ρ1 ρ2 ρ' ρ0 : Env}
theorem unlock_cons (ρ : Env) (i : Nat) : ∃ ρ', ∀ l, unlock ρ (i :: l) = unlock ρ' l := by
  cases e : ρ[i]? with
  | none => exact ⟨ρ, fun l => by rw [unlock, e]⟩
  | some s => cases s <;> exact ⟨_, fun l => by rw [unlock, e]⟩
theorem unlock_append (ρ : Env) : ∀ (a b : List Nat), unlock ρ (a ++ b) = unlock (unlock ρ a) b := by
  intro a
  induction a generalizing ρ with
  | nil => intro b; rfl
  | cons i r ih =>
    intro b
    obtain ⟨ρ', h⟩ := unlock_cons ρ i
    rw [List.cons_append, h, h, ih]
/-- from the locked state one may come back -/
def Back (K : Kx) (F0 : Fz) (H0 : Hp) (σ0 : L2.St) (ρ0 : Env) (ls : List Nat) (F : Fz) (H : Hp) (σ : L2.St) (ρ : Env) : Prop :=
  ∀ F2 H2 σ2 ρ2, Sg K F2 H2 σ2 ρ2 → Stp F H σ ρ F2 H2 σ2 ρ2 → Sg K F2 H2 σ2 (unlock ρ2 ls) ∧ Stp F0 H0 σ0 ρ0 F2 H2 σ2 (unlock ρ2 ls)
theorem Back.none (s : Stp F0 H0 σ0 ρ0 F H σ ρ) : Back K F0 H0 σ0 ρ0 [] F H σ ρ := fun F2 H2 σ2 ρ2 g2 s2 => ⟨g2, s.trans s2⟩
theorem Back.pre {ls : List Nat} (s : Stp F0 H0 σ0 ρ0 F H σ ρ) (b : Back K F H σ ρ ls F1 H1 σ1 ρ1) : Back K F0 H0 σ0 ρ0 ls F1 H1 σ1 ρ1 := fun F2 H2 σ2 ρ2 g2 s2 =>
  let ⟨h1, h2⟩ := b F2 H2 σ2 ρ2 g2 s2; ⟨h1, s.trans h2⟩
theorem Back.app {a b : List Nat} (x : Back K F0 H0 σ0 ρ0 a F H σ ρ) (y : Back K F H σ ρ b F1 H1 σ1 ρ1) : Back K F0 H0 σ0 ρ0 (b ++ a) F1 H1 σ1 ρ1 := fun F2 H2 σ2 ρ2 g2 s2 => by
  obtain ⟨g3, s3⟩ := y F2 H2 σ2 ρ2 g2 s2
  rw [unlock_append]
  exact x _ _ _ _ g3 s3
theorem Back.post {ls : List Nat} (b : Back K F0 H0 σ0 ρ0 ls F H σ ρ) (s : Stp F H σ ρ F1 H1 σ1 ρ1) : Back K F0 H0 σ0 ρ0 ls F1 H1 σ1 ρ1 := fun F2 H2 σ2 ρ2 g2 s2 => b F2 H2 σ2 ρ2 g2 (s.trans s2)
/-- an operand is locked -/
theorem lock_ok (g : Sg K F H σ ρ) {v : V} {o : Opd} (ok : OpdOk K F H σ v o) {d : PyData} (e : res ρ o = some d) : Sg K F H σ (lock ρ o).1 ∧ Back K F H σ ρ (lock ρ o).2 F H σ (lock ρ o).1 ∧ Rv K F H v d ∧ ∀ a, v = .ref a → H a ≠ none ∧ ¬ Mu σ (lock ρ o).1 a := by
  have rv := ok.rv g e
  have shr : ∀ {a : Addr}, Rp K F H (.ref a) d → H a ≠ none ∧ ∀ ρ', Sg K F H σ ρ' → ¬ Mu σ ρ' a := fun {a} r => by
    have f : F a := by cases r <;> assumption
    exact ⟨g.tr a f, fun ρ' g' m => g'.nF m.ow f⟩
  cases o with
  | val d' =>
    have e' : d' = d := Option.some.inj e
    subst e'
    refine ⟨g, Back.none .refl, rv, fun a ea => ?_⟩
    subst ea
    obtain ⟨h1, h2⟩ := shr ok
    exact ⟨h1, h2 _ g⟩
  | slot i =>
    have ok : σ[i]? = some (some v) := ok
    cases q : ρ[i]? with
    | none => rw [res, q] at e; cases e
    | some s =>
      rw [res, q] at e
      have e : s.dat = some d := e
      have r := g.sl i s q
      have nolk : (∀ d, s ≠ .ow d) → lock ρ (.slot i) = (ρ, []) := fun h => by
        rw [lock, q]
        cases s <;> first | rfl | exact absurd rfl (h _)
      cases s with
      | no => cases e
      | dr => cases e
      | dw d => cases e
      | sh d' =>
        rw [nolk (fun d h => nomatch h)]
        have e' : d' = d := Option.some.inj e
        subst e'
        refine ⟨g, Back.none .refl, rv, fun a ea => ?_⟩
        subst ea
        obtain ⟨v', e1, r⟩ := r
        rw [ok] at e1; cases e1
        obtain ⟨h1, h2⟩ := shr r
        exact ⟨h1, h2 _ g⟩
      | lk d' =>
        rw [nolk (fun d h => nomatch h)]
        refine ⟨g, Back.none .refl, rv, fun a ea => ?_⟩
        subst ea
        obtain ⟨a', e1, n, t, r⟩ := r
        rw [ok] at e1; cases e1
        refine ⟨t, fun m => ?_⟩
        obtain ⟨j, s', h1, h2, h3⟩ := m
        have := g.inj j i a s' _ h1 q (Sl.mut_own h2) rfl h3 ok
        subst this
        rw [q] at h1; cases h1; cases h2
      | ow d' =>
        have e' : d' = d := Option.some.inj e
        subst e'
        obtain ⟨a, e1, n, ob⟩ := r
        rw [ok] at e1; cases e1
        have el : lock ρ (.slot i) = (ρ.set i (.lk d'), [i]) := by rw [lock, q]
        rw [el]
        have mu : Mu σ ρ a := ⟨i, _, q, rfl, ok⟩
        have gL : Sg K F H σ (ρ.set i (.lk d')) := by
          refine ⟨by rw [List.length_set]; exact g.len, fun j s' e => ?_, fun j k b s1 s2 e1 e2 o1 o2 v1 v2 => ?_, g.tr⟩
          · rcases get_set_cases e with ⟨rfl, rfl⟩ | ⟨ne, e⟩
            · exact ⟨a, ok, n, ob.tr, ob.or⟩
            · exact g.sl j s' e
          · have z1 : ∃ s1', ρ[j]? = some s1' ∧ s1'.own = true := by
              rcases get_set_cases e1 with ⟨rfl, rfl⟩ | ⟨ne, e⟩
              · exact ⟨_, q, rfl⟩
              · exact ⟨_, e, o1⟩
            have z2 : ∃ s2', ρ[k]? = some s2' ∧ s2'.own = true := by
              rcases get_set_cases e2 with ⟨rfl, rfl⟩ | ⟨ne, e⟩
              · exact ⟨_, q, rfl⟩
              · exact ⟨_, e, o2⟩
            obtain ⟨t1, h1, h1'⟩ := z1
            obtain ⟨t2, h2, h2'⟩ := z2
            exact g.inj j k b t1 t2 h1 h2 h1' h2' v1 v2
        have muL : ∀ x, Mu σ (ρ.set i (.lk d')) x → Mu σ ρ x ∧ x ≠ a := fun x m => by
          obtain ⟨j, s', h1, h2, h3⟩ := m
          rcases get_set_cases h1 with ⟨rfl, rfl⟩ | ⟨ne, h1⟩
          · cases h2
          · refine ⟨⟨j, s', h1, h2, h3⟩, fun ex => ?_⟩
            subst ex
            exact ne (g.inj j i x s' _ h1 q (Sl.mut_own h2) rfl h3 ok)
        have nm : ¬ Mu σ (ρ.set i (.lk d')) a := fun m => (muL a m).2 rfl
        refine ⟨gL, fun F2 H2 σ2 ρ2 g2 s2 => ?_, rv, fun b eb => by cases eb; exact ⟨ob.tr, nm⟩⟩
        have base : Stp F H σ ρ F2 H2 σ2 ρ2 ∨ ρ2[i]? = some (.lk d') := by
          by_cases hk : ρ2[i]? = some (.lk d')
          · exact .inr hk
          · refine .inl ⟨s2.sub, fun x h => (s2.new x h).imp id (Or.imp id fun m => (muL x m).1), fun x t m => s2.keep x t fun m' => m (muL x m').1, s2.tr, fun x m => (s2.own x m).imp (fun m => (muL x m).1) id, fun j s' e p => ?_⟩
            obtain ⟨⟨s0, h1, k1⟩, h2⟩ := s2.lk j s' e p
            rcases get_set_cases h1 with ⟨rfl, rfl⟩ | ⟨ne, h1⟩
            · rw [k1.of_lk] at e
              exact absurd e hk
            · exact ⟨⟨s0, h1, k1⟩, h2⟩
        by_cases hk : ρ2[i]? = some (.lk d')
        · have eu : unlock ρ2 [i] = ρ2.set i (.ow d') := by rw [unlock, hk]; rfl
          rw [eu]
          obtain ⟨h1, h2⟩ := s2.lk i _ hk rfl
          rw [ok] at h2
          have r2 := g2.sl i _ hk
          obtain ⟨a', e1, n', t', _⟩ := r2
          rw [h2] at e1; cases e1
          have ea : H2 a = H a := keep_eq (s2.keep a ob.tr nm) n'
          have ob2 : Ob K F2 H2 a d' := ob.gr (s2.gr gL) ea
          refine ⟨⟨by rw [List.length_set]; exact g2.len, fun j s' e => ?_, fun j k b s1 s3 e1 e2 o1 o2 v1 v2 => ?_, g2.tr⟩, ⟨s2.sub, fun x h => (s2.new x h).imp id (Or.imp id fun m => (muL x m).1), fun x t m => s2.keep x t fun m' => m (muL x m').1, s2.tr, fun x m => ?_, fun j s' e p => ?_⟩⟩
          · rcases get_set_cases e with ⟨rfl, rfl⟩ | ⟨ne, e⟩
            · exact ⟨a, h2, n', ob2⟩
            · exact g2.sl j s' e
          · have z1 : ∃ s1', ρ2[j]? = some s1' ∧ s1'.own = true := by
              rcases get_set_cases e1 with ⟨rfl, rfl⟩ | ⟨ne, e⟩
              · exact ⟨_, hk, rfl⟩
              · exact ⟨_, e, o1⟩
            have z2 : ∃ s2', ρ2[k]? = some s2' ∧ s2'.own = true := by
              rcases get_set_cases e2 with ⟨rfl, rfl⟩ | ⟨ne, e⟩
              · exact ⟨_, hk, rfl⟩
              · exact ⟨_, e, o2⟩
            obtain ⟨t1, q1, q1'⟩ := z1
            obtain ⟨t2, q2, q2'⟩ := z2
            exact g2.inj j k b t1 t2 q1 q2 q1' q2' v1 v2
          · obtain ⟨j, s', q1, q2, q3⟩ := m
            rcases get_set_cases q1 with ⟨rfl, rfl⟩ | ⟨ne, q1⟩
            · rw [h2] at q3; cases q3
              exact .inl mu
            · exact (s2.own x ⟨j, s', q1, q2, q3⟩).imp (fun m => (muL x m).1) id
          · rcases get_set_cases e with ⟨rfl, rfl⟩ | ⟨ne, e⟩
            · cases p
            · obtain ⟨⟨s0, q1, k1⟩, q2⟩ := s2.lk j s' e p
              rcases get_set_cases q1 with ⟨rfl, _⟩ | ⟨ne', q1⟩
              · exact absurd rfl ne
              · exact ⟨⟨s0, q1, k1⟩, q2⟩
        · have eu : unlock ρ2 [i] = ρ2 := by
            unfold unlock
            split
            · rename_i d2 e2
              obtain ⟨⟨s0, h1, k1⟩, h2⟩ := s2.lk i _ e2 rfl
              rw [get_set_self q] at h1
              cases h1
              cases k1.of_lk
              exact absurd e2 hk
            · rfl
          rw [eu]
          exact ⟨g2, base.resolve_right hk⟩
end
end Z

/-! soundness: what is walked: lists, tuples, texts, ranges -/
namespace Z
open PySem PySem.Spec PyProof.Rows L2 C8
def I.tup : I → Bool
  | .enum _ => true
  | .zip _ _ => true
  | .zip3 _ _ _ => true
  | .items _ => true
  | _ => false
def YR (K : Kx) (F : Fz) (H : Hp) (tup : Bool) (v : V) (d : PyData) : Prop :=
  Rp K F H v d ∨ (tup = true ∧ ∃ a xs ds, v = .ref a ∧ SqT K.K H a xs ∧ RpAll K F H xs ds ∧ d = .tuple ds)
/-- an iterator hands out these data -/
structure ItG (K : Kx) (J : It) (tup : Bool) (F0 : Fz) (H0 : Hp) (σ0 : L2.St) (ρ0 : Env) (ds : List PyData) : Prop where
  go : ∀ i F H σ ρ, Sg K F H σ ρ → Stp F0 H0 σ0 ρ0 F H σ ρ → ∀ d, ds[i]? = some d → J.go i H ∧ ∀ x H', J.yld i H x H' → ∃ F', Lay F H F' H' ∧ YR K F' H' tup x d
  stop : ∀ i F H σ ρ, Sg K F H σ ρ → Stp F0 H0 σ0 ρ0 F H σ ρ → ds.length = i → J.stop i H
  len : ds.length ≤ sizeLine
def tI (K : Kx) (Φ : Nat → Spc) (it : I) : TI := fun σ H R => ∃ (F : Fz) (ρ : Env) (Q : List Nat → List PyData → Env → Prop), Sg K F H σ ρ ∧ rdI Φ it ρ Q ∧
  ∀ J ls ds F' H' ρ', Sg K F' H' σ ρ' → Back K F H σ ρ ls F' H' σ ρ' → ItG K J it.tup F' H' σ ρ' ds → Q ls ds ρ' → R J H'
def SdI (Φ : Nat → Spc) (X : Cx) (tg e0 : Expr) (it : I) : Prop := PI X tg e0 (tI X.k Φ it)
section
variable {K : Kx} {F F0 F' : Fz} {H H0 H' : Hp} {σ σ0 : L2.St} {ρ ρ0 : Env}
theorem hold_lst (g0 : Sg K F0 H0 σ0 ρ0) (s : Stp F0 H0 σ0 ρ0 F H σ ρ) {a : Addr} {xs : List V} {ds : List PyData} (h : H0 a = some (.lst xs)) (r : RpAll K F0 H0 xs ds) (m : ¬ Mu σ0 ρ0 a) : H a = some (.lst xs) ∧ RpAll K F H xs ds :=
  ⟨(keep_hq (s.keep a (by rw [h]; simp) m)).lst h, r.gr (s.gr g0)⟩
theorem hold_tup (g0 : Sg K F0 H0 σ0 ρ0) (s : Stp F0 H0 σ0 ρ0 F H σ ρ) {a : Addr} {xs : List V} {ds : List PyData} (h : TupAt H0 a xs) (r : RpAll K F0 H0 xs ds) (m : ¬ Mu σ0 ρ0 a) : TupAt H a xs ∧ RpAll K F H xs ds :=
  ⟨h.hq (keep_hq (s.keep a h.tr m)), r.gr (s.gr g0)⟩
theorem itg_list (g0 : Sg K F0 H0 σ0 ρ0) {a : Addr} {xs : List V} {ds : List PyData} (h : H0 a = some (.lst xs)) (r : RpAll K F0 H0 xs ds) (m : ¬ Mu σ0 ρ0 a) (hz : xs.length ≤ sizeLine) {tup : Bool} : ItG K (Itl K.K a) tup F0 H0 σ0 ρ0 ds where
  go := fun i F H σ ρ g s d hd => by
    obtain ⟨h1, r1⟩ := hold_lst g0 s h r m
    obtain ⟨v, hv, rv⟩ := r1.get' hd
    refine ⟨⟨xs, v, SqL.of h1, hv⟩, fun x H' ⟨e, y⟩ => ?_⟩
    subst e
    have := y xs (SqL.of h1)
    rw [hv] at this
    cases this
    exact ⟨F, Lay.refl g.tr, .inl rv⟩
  stop := fun i F H σ ρ g s hl => by
    obtain ⟨h1, r1⟩ := hold_lst g0 s h r m
    exact ⟨xs, SqL.of h1, by rw [r1.length]; omega⟩
  len := by rw [← r.length]; exact hz
theorem itg_tup (g0 : Sg K F0 H0 σ0 ρ0) {a : Addr} {xs : List V} {ds : List PyData} (h : TupAt H0 a xs) (r : RpAll K F0 H0 xs ds) (m : ¬ Mu σ0 ρ0 a) (hz : xs.length ≤ sizeLine) {tup : Bool} : ItG K (Itt K.K a) tup F0 H0 σ0 ρ0 ds where
  go := fun i F H σ ρ g s d hd => by
    obtain ⟨h1, r1⟩ := hold_tup g0 s h r m
    obtain ⟨v, hv, rv⟩ := r1.get' hd
    refine ⟨⟨xs, v, h1.sq, hv⟩, fun x H' ⟨e, y⟩ => ?_⟩
    subst e
    have := y xs h1.sq
    rw [hv] at this
    cases this
    exact ⟨F, Lay.refl g.tr, .inl rv⟩
  stop := fun i F H σ ρ g s hl => by
    obtain ⟨h1, r1⟩ := hold_tup g0 s h r m
    exact ⟨xs, h1.sq, by rw [r1.length]; omega⟩
  len := by rw [← r.length]; exact hz
theorem itg_str (x : Str) (hz : x.cps.size ≤ sizeLine) {tup : Bool} : ItG K (Its x) tup F0 H0 σ0 ρ0 (signs x) where
  go := fun i F H σ ρ g s d hd => by
    unfold signs at hd
    rw [List.getElem?_map] at hd
    obtain ⟨c, hc, rfl⟩ := Option.map_eq_some_iff.mp hd
    rw [Array.getElem?_toList] at hc
    refine ⟨(Array.getElem?_eq_some_iff.mp hc).1, fun v H' ⟨e, c', hc', ev⟩ => ?_⟩
    subst e ev
    rw [hc] at hc'
    cases hc'
    exact ⟨F, Lay.refl g.tr, .inl (.str _)⟩
  stop := fun i F H σ ρ g s hl => by
    unfold signs at hl
    rw [List.length_map, Array.length_toList] at hl
    exact Nat.le_of_eq hl
  len := by unfold signs; rw [List.length_map, Array.length_toList]; exact hz
theorem itg_rng (lo : Int) (n : Nat) (hz : n ≤ sizeLine) {tup : Bool} : ItG K (Itr lo n) tup F0 H0 σ0 ρ0 (ups lo n) where
  go := fun i F H σ ρ g s d hd => by
    unfold ups at hd
    rw [List.getElem?_map] at hd
    obtain ⟨c, hc, rfl⟩ := Option.map_eq_some_iff.mp hd
    obtain ⟨hc1, hc2⟩ := List.getElem?_eq_some_iff.mp hc
    rw [List.getElem_range] at hc2
    rw [List.length_range] at hc1
    subst hc2
    refine ⟨hc1, fun v H' ⟨e, ev⟩ => ?_⟩
    subst e ev
    exact ⟨F, Lay.refl g.tr, .inl (.int _)⟩
  stop := fun i F H σ ρ g s hl => by
    unfold ups at hl
    rw [List.length_map, List.length_range] at hl
    exact Nat.le_of_eq hl
  len := by unfold ups; rw [List.length_map, List.length_range]; exact hz
theorem itg_rngC (lo c : Int) (n : Nat) (hz : n ≤ sizeLine) {tup : Bool} : ItG K (Itc lo c n) tup F0 H0 σ0 ρ0 (steps lo c n) where
  go := fun i F H σ ρ g s d hd => by
    unfold steps at hd
    rw [List.getElem?_map] at hd
    obtain ⟨k, hc, rfl⟩ := Option.map_eq_some_iff.mp hd
    obtain ⟨hc1, hc2⟩ := List.getElem?_eq_some_iff.mp hc
    rw [List.getElem_range] at hc2
    rw [List.length_range] at hc1
    subst hc2
    refine ⟨hc1, fun v H' ⟨e, ev⟩ => ?_⟩
    subst e ev
    exact ⟨F, Lay.refl g.tr, .inl (.int _)⟩
  stop := fun i F H σ ρ g s hl => by
    unfold steps at hl
    rw [List.length_map, List.length_range] at hl
    exact Nat.le_of_eq hl
  len := by unfold steps; rw [List.length_map, List.length_range]; exact hz
end
/-- the keys of a dict that is frozen -/
def Itq (d : Addr) (o : Obj) (ks : List V) : It := ⟨fun i H => (∃ u, H d = some (.frz o u)) ∧ i < ks.length, fun i H x H' => H' = H ∧ ks[i]? = some x, fun i H => (∃ u, H d = some (.frz o u)) ∧ ks.length ≤ i⟩
theorem turn_q {P : Program} {w : World} {K : PySem.W.Frag} {tg : Expr} {d : Addr} {o : Obj} {es : Array DictEntry} {ep : Nat} {ks : List V} (it : Addr) (od : o.data = .dict es ep) (hz : es.size = ks.length) (hk : ∀ (i : Nat) (v : V), ks[i]? = some v → ∃ en, es[i]? = some en ∧ L2.RelV v en.key) :
    Turn P w K tg (Itq d o ks) [it] it (fun i h => h.IsKeyIter it d i ks.length ep) where
  mem := by simp
  obj := fun i h st b hb => by
    cases List.mem_singleton.mp hb
    obtain ⟨oi, e, _, dd⟩ := st
    exact ⟨oi, e, fun v z => by rw [dd] at z; cases z⟩
  keep := fun i h h' st k => st.at fun oi e => k it (by simp) oi e
  item := by
    intro X hP hw hK hc i pins s σ H E I hf st hg
    subst hP hw hK
    obtain ⟨⟨u, hd⟩, hi⟩ := hg
    obtain ⟨f0, f1, f2, f3, f4, f5⟩ := hf it (by simp)
    have hgd := (I.hok d _ hd).1
    have hkv : ks[i]? = some ks[i] := List.getElem?_eq_getElem hi
    obtain ⟨en, hen, rel⟩ := hk i _ hkv
    refine next_key_item st hgd od hz hen fun h' st' sb => ?_
    have I1 : Inv X pins σ H { s with heap := h' } := I.turned (t' := s.toks) (fun b ob hb e => (sb.2 b hb).trans e) f0 f1 f3 f4 f5
    obtain ⟨oi, e, c, dd⟩ := id st'
    exact ⟨en.key, rfl, go_of (s := { s with heap := h' }) e c dd (by decide) ⟨ks[i], H, I1, rel, ⟨rfl, hkv⟩, st', fun b hb => (hf b hb).1⟩⟩
  done := by
    intro X hP hw hK hc i pins s σ H E I hf st hg
    subst hP hw hK
    obtain ⟨⟨u, hd⟩, hi⟩ := hg
    obtain ⟨f0, f1, f2, f3, f4, f5⟩ := hf it (by simp)
    exact next_key_end (I.ok.hd hc) st (I.hok d _ hd).1 od hz hi fun h' eb => ⟨rfl, I.turned (t' := s.toks) (fun b ob hb e => eb b ob hb e) f0 f1 f3 f4 f5⟩
  self := fun A i s Q E st h => wpAny_pyIter_keyiter st h
theorem itg_q {K : Kx} {F0 : Fz} {H0 : Hp} {σ0 : L2.St} {ρ0 : Env} (g0 : Sg K F0 H0 σ0 ρ0) {a : Addr} {o : Obj} {u : HO} {ks : List V} {ds : List PyData} (f : F0 a) (h : H0 a = some (.frz o u)) (r : RpAll K F0 H0 ks ds) (hz : ks.length ≤ sizeLine) {tup : Bool} : ItG K (Itq a o ks) tup F0 H0 σ0 ρ0 ds where
  go := fun i F H σ ρ g s d hd => by
    have h1 := ((s.gr g0).eq a f).frz h
    obtain ⟨v, hv, rv⟩ := (r.gr (s.gr g0)).get' hd
    refine ⟨⟨⟨u, h1⟩, (List.getElem?_eq_some_iff.mp hv).1⟩, fun x H' ⟨e, y⟩ => ?_⟩
    subst e
    rw [hv] at y
    cases y
    exact ⟨F, Lay.refl g.tr, .inl rv⟩
  stop := fun i F H σ ρ g s hl => ⟨⟨u, ((s.gr g0).eq a f).frz h⟩, by rw [r.length]; omega⟩
  len := by rw [← r.length]; exact hz
theorem rp_kV {K : Kx} {F : Fz} {H : Hp} : ∀ ks : List Key, RpAll K F H (ks.map kV) (ks.map keyV)
  | [] => .nil
  | .inl i :: r => .cons (.int i) (rp_kV r)
  | .inr x :: r => .cons (.str x) (rp_kV r)
theorem lay_lock {F : Fz} {H : Hp} {a : Addr} {od : Obj} {u : HO} (t : ∀ a, F a → H a ≠ none) (f : F a) (h : H a = some u) (k : (∃ kvs, u = .dK kvs) ∨ ∃ φ, u = .ext φ) : Lay F H F (upd H a (.frz od u)) := by
  refine ⟨fun _ z => z, fun _ z => .inl z, fun b _ => ?_, fun b z => ?_⟩
  · by_cases e : b = a
    · subst e
      exact .inr ⟨f, .inr ⟨od, u, h, upd_same, k⟩⟩
    · exact .inl (upd_ne e)
  · by_cases e : b = a
    · subst e
      rw [upd_same]; simp
    · rw [upd_ne e]; exact t b z
def FrzD (X : Cx) (pins : List (Addr × Obj)) (σ : L2.St) (H : Hp) (s : Shared) (F : Fz) (v : V) (es : List (PyData × PyData)) : Prop :=
    ∃ (a : Addr) (o : Obj) (u : HO) (H2 : Hp) (ks : List V) (de : Array DictEntry) (ep : Nat), v = .ref a ∧ Inv X pins σ H2 s ∧ Lay F H F H2 ∧ F a ∧ H2 a = some (.frz o u) ∧ RpAll X.k F H2 ks (es.map (·.1)) ∧ ks.length ≤ sizeLine ∧
      (a == sysModules) = false ∧ s.heap.get? a = some o ∧ o.ExactDict ∧ o.data = .dict de ep ∧ de.size = ks.length ∧ ∀ (i : Nat) (v : V), ks[i]? = some v → ∃ en, de[i]? = some en ∧ L2.RelV v en.key
/-- a shared dict is frozen, so that its keys can be walked -/
theorem frz_dict {X : Cx} {pins : List (Addr × Obj)} {σ : L2.St} {H : Hp} {s : Shared} {F : Fz} {v : V} {es : List (PyData × PyData)} (I : Inv X pins σ H s) (t : ∀ a, F a → H a ≠ none) (r : Rp X.k F H v (.dict es)) : FrzD X pins σ H s F v es := by
  cases r with
  | @dk a kvs _ f rd e w =>
    have fin : ∀ (H2 : Hp) (o : Obj), Inv X pins σ H2 s → Lay F H F H2 → H2 a = some (.frz o (.dK kvs)) → FrzD X pins σ H s F (.ref a) es := fun H2 o I2 l h2 => by
      obtain ⟨hs, hgd, hx, de, ep, vs, hdt, hsz, kv, hm⟩ := I2.frzK h2
      have hz : kvs.length ≤ sizeLine := (I2.hok a _ h2).2.1
      obtain ⟨o', de', g1, g2, g3, _, pr, _⟩ := hm
      rw [hgd] at g1
      cases g1
      rw [hdt] at g3
      cases g3
      have ek : es.map (·.1) = (kvs.map (·.1)).map keyV := by rw [List.map_map]; exact e.symm
      exact ⟨a, o, .dK kvs, H2, (kvs.map (·.1)).map kV, de, ep, rfl, I2, l, f, h2, by rw [ek]; exact rp_kV _, by simpa using hz, hs, hgd, hx, hdt, by simpa using hsz, fun i v hv => by
        rw [List.getElem?_map, List.getElem?_map] at hv
        obtain ⟨k, hk, rfl⟩ := Option.map_eq_some_iff.mp hv
        obtain ⟨⟨k', v'⟩, hk', rfl⟩ := Option.map_eq_some_iff.mp hk
        obtain ⟨u, hu, _⟩ := kv_get kv hk'
        have hi : i < de.size := by rw [hsz]; exact (List.getElem?_eq_some_iff.mp hk').1
        have he : de.toList[i]? = some de[i] := by rw [Array.getElem?_toList]; exact Array.getElem?_eq_getElem hi
        have ki := (pr.get? he hu).1
        exact ⟨de[i], Array.getElem?_eq_getElem hi, relV_key ki⟩⟩
    rcases rd with h | ⟨o, h⟩
    · obtain ⟨o, I2⟩ := I.lock h True.intro
      exact fin _ o I2 (lay_lock t f h (.inl ⟨_, rfl⟩)) upd_same
    · exact fin H o I (Lay.refl t) h
  | @dt a xs _ f rd n e w z =>
    have fin : ∀ (H2 : Hp) (o : Obj), Inv X pins σ H2 s → Lay F H F H2 → H2 a = some (.frz o (TD X.k a xs)) → FrzD X pins σ H s F (.ref a) es := fun H2 o I2 l h2 => by
      obtain ⟨hgd, ⟨hz, hs, o', de, ep, g1, g2, g3, g4, _⟩, _⟩ := I2.hok a _ h2
      rw [hgd] at g1
      cases g1
      have hl := congrArg List.length g4
      rw [Array.length_toList, List.length_map] at hl
      exact ⟨a, o, TD X.k a xs, H2, xs.map fun x => .ref x.2.1, de, ep, rfl, I2, l, f, h2, w.gr (l.gr t), by simpa using hz, hs, hgd, g2, g3, by simpa using hl, fun i v hv => by
        rw [List.getElem?_map] at hv
        obtain ⟨x, hx, rfl⟩ := Option.map_eq_some_iff.mp hv
        have q := congrArg (fun l => l[i]?) g4
        simp only [List.getElem?_map, hx, Option.map_some] at q
        rw [Array.getElem?_toList] at q
        exact ⟨_, q, rfl⟩⟩
    rcases rd with h | ⟨o, h⟩
    · obtain ⟨o, I2⟩ := I.lock h True.intro
      exact fin _ o I2 (lay_lock t f h (.inr ⟨_, rfl⟩)) upd_same
    · exact fin H o I (Lay.refl t) h
section
variable {Φ : Nat → Spc} {X : Cx} {tg e0 a0 b0 c0 : Expr} {e a b c : E} {pos p : Pos}
/-- an iterator over one object, made -/
theorem sdI_val (he : Sd Φ X e0 e) : SdI Φ X tg e0 (.val e) := by
  refine ⟨fun pins s σ H R I h => ?_⟩
  obtain ⟨F, ρ, Q, g, h, k⟩ := h
  rw [rdI_val] at h
  refine thn (he.opR I g h) fun u s1 ⟨v, H1, F1, ρ1, o, I1, r1, g1, st1, ok1, h1⟩ => ?_
  obtain ⟨x, ex, h2⟩ := must_iff.mp h1
  obtain ⟨q, ed, h3⟩ := must_iff.mp h2
  by_cases hd : isDictD x = true
  · cases x with
    | dict es =>
      obtain ⟨ρ2, e2, rfl⟩ := Option.map_eq_some_iff.mp (show (shareE ρ1 o).map _ = some q from ed)
      obtain ⟨F2, g2, st2, rp⟩ : ∃ F2, Sg X.k F2 H1 σ ρ2 ∧ Stp F1 H1 σ ρ1 F2 H1 σ ρ2 ∧ Rp X.k F2 H1 v (.dict es) := by
        cases o with
        | val d =>
          cases e2
          cases (show d = .dict es from Option.some.inj ex)
          exact ⟨F1, g1, .refl, ok1⟩
        | slot i =>
          have ok1 : σ[i]? = some (some v) := ok1
          have ex : (ρ1[i]?).bind Sl.dat = some (.dict es) := ex
          have e2 : (match ρ1[i]? with | some (.ow d) => some (ρ1.set i (.sh d)) | some (.sh _) => some ρ1 | _ => none) = some ρ2 := e2
          cases q1 : ρ1[i]? with
          | none => rw [q1] at e2; cases e2
          | some sl =>
            rw [q1] at e2 ex
            have r := g1.sl i sl q1
            cases sl with
            | ow d =>
              cases e2
              cases (show d = .dict es from Option.some.inj ex)
              obtain ⟨a, e1, n, ob⟩ := r
              rw [ok1] at e1
              cases e1
              obtain ⟨g2, st2, rp⟩ := g1.share q1 ok1 ob.or ob.tr (.inl rfl)
              exact ⟨_, g2, st2, rp⟩
            | sh d =>
              cases e2
              cases (show d = .dict es from Option.some.inj ex)
              obtain ⟨v', e1, rp⟩ := r
              rw [ok1] at e1
              cases e1
              exact ⟨F1, g1, .refl, rp⟩
            | _ => cases e2
      obtain ⟨a, od, uo, H2, ks, de, ep, rfl, I2, l, f, h2, rk, hz, hs, hgd, hx, hdt, hsz, hk⟩ := frz_dict I1 g2.tr rp
      cases r1
      have g3 := l.sg g2
      refine iter_keys hs hgd hx hdt (pi_one (tk := s1.toks) I2 _ (turn_q _ hdt hsz hk) ⟨_, Heap.get?_push_size _ rfl, rfl, ?_⟩ (k _ [] (es.map (·.1)) F2 H2 ρ2 g3 (Back.none ((st1.trans st2).trans l.stp)) (itg_q g3 f h2 rk hz) h3))
      rw [hsz] <;> rfl
    | _ => cases hd
  obtain ⟨gL, bk, rv, nm⟩ := lock_ok g1 ok1 ex
  have ew : walkOf ρ1 o x = (itemsOf x).map fun ds => ((lock ρ1 o).2, ds, (lock ρ1 o).1) := by
    cases x with
    | dict es => exact absurd rfl hd
    | _ => rfl
  rw [ew] at ed
  obtain ⟨ds, ed', rfl⟩ := Option.map_eq_some_iff.mp ed
  clear ed ew
  have ed := ed'
  clear ed'
  have fin : ∀ {J : It}, ItG X.k J false F1 H1 σ (lock ρ1 o).1 ds → R J H1 := fun {J} ig => k J _ ds F1 H1 _ gL (bk.pre st1) ig h3
  cases x with
  | list xs =>
    cases ed
    obtain ⟨a, vs, rfl, q, t⟩ := rv.lst
    cases r1
    obtain ⟨its, rvs, p, hz⟩ := I1.list (SqL.of q)
    refine wpAny_pyIter_list p.isList ?_
    exact pi_one (tk := s1.toks) I1 _ (turn_list a _) ⟨_, Heap.get?_push_size _ rfl, rfl, rfl⟩ (fin (itg_list gL q t (nm a rfl).2 hz))
  | tuple xs =>
    cases ed
    obtain ⟨a, vs, rfl, q, t, _⟩ := rv.tup
    cases r1
    obtain ⟨its, rvs, p, hz⟩ := I1.tuple q.sq
    refine wpAny_pyIter_tuple (show s1.heap.IsTuple a its.toArray from p) ?_
    exact pi_one (tk := s1.toks) I1 _ (turn_tuple a _) ⟨_, Heap.get?_push_size _ rfl, rfl, rfl⟩ (fin (itg_tup gL q t (nm a rfl).2 hz))
  | str y =>
    have ed : (if y.cps.size ≤ big then some (signs y) else none) = some ds := ed
    split at ed
    case isFalse => cases ed
    rename_i hz
    rw [big_eq] at hz
    cases ed
    cases rv.str
    obtain ⟨t, rfl⟩ := r1
    cases ha : y.cps.all (· < 128)
    · exact wpAny_pyIter_wide ha (pi_one (tk := s1.toks) I1 _ (turn_str _ y t "str_iterator" (.inr rfl)) ⟨_, Heap.get?_push_size _ rfl, rfl, rfl⟩ (fin (itg_str y hz)))
    · exact wpAny_pyIter_ascii ha (pi_one (tk := s1.toks) I1 _ (turn_str _ y t "str_ascii_iterator" (.inl rfl)) ⟨_, Heap.get?_push_size _ rfl, rfl, rfl⟩ (fin (itg_str y hz)))
  | dict es => cases ed
  | none => cases ed
  | bool b => cases ed
  | int b => cases ed
theorem lim_eq : lim = 2 ^ 62 := by decide
theorem sdI_rng1 (hg : Gl X "range") (hm : X.mg "range" = none) (ha : Sd Φ X a0 a) (n : notStar a0 = true) : SdI Φ X tg (.Call (.Name "range" p) [a0] [] pos) (.rng1 a) := by
  refine (pi_range1 (p := p) (pos := pos) hg hm (pa1 ha.op n) (star_cons n)).imp fun σ H R q => ?_
  obtain ⟨F, ρ, Q, g, h, k⟩ := q
  rw [rdI_rng1] at h
  refine ⟨F, ρ, _, g, h, fun v o F1 H1 ρ1 g1 s1 ok1 h1 => ?_⟩
  obtain ⟨x, ex, h2⟩ := must_iff.mp h1
  obtain ⟨i, rfl, h3, h4, h5⟩ := mustI_iff h2
  rw [lim_eq] at h3
  cases (ok1.rv g1 ex).int
  exact ⟨i, rfl, h3, by omega, k _ _ _ F1 H1 ρ1 g1 (Back.none s1) (itg_rng 0 _ (by rw [sizeLine_eq]; omega)) h5⟩
theorem sdI_rng2 (hg : Gl X "range") (hm : X.mg "range" = none) (ha : Sd Φ X a0 a) (hb : Sd Φ X b0 b) (n : notStar a0 = true) (n2 : notStar b0 = true) : SdI Φ X tg (.Call (.Name "range" p) [a0, b0] [] pos) (.rng2 a b) := by
  refine (pi_range2 (p := p) (pos := pos) hg hm (pa2 ha.op hb.op n n2) (by rw [star_cons n, star_cons n2]; rfl) (star_cons n2)).imp fun σ H R q => ?_
  obtain ⟨F, ρ, Q, g, h, k⟩ := q
  rw [rdI_rng2] at h
  refine ⟨F, ρ, _, g, h, fun v o F1 H1 ρ1 g1 s1 ok1 h1 => ⟨F1, ρ1, _, g1, h1, fun w o2 F2 H2 ρ2 g2 s2 ok2 h2 => ?_⟩⟩
  obtain ⟨x, ex, h3⟩ := must_iff.mp h2
  obtain ⟨y, ey, h4⟩ := must_iff.mp h3
  obtain ⟨i, rfl, h5⟩ := mustI_iff h4
  obtain ⟨j, rfl, l1, l2, l3, l4, l5, h6⟩ := mustI_iff h5
  rw [lim_eq] at l1 l2 l3 l4
  cases ((ok1.gr (s2.gr g1)).rv g2 ex).int
  cases (ok2.rv g2 ey).int
  exact ⟨i, j, rfl, ⟨l1, l2, l3, l4⟩, k _ _ _ F2 H2 ρ2 g2 (Back.none (s1.trans s2)) (itg_rng i _ (by rw [sizeLine_eq]; omega)) h6⟩
theorem rng_size (i j c : Int) : Builtin.Range.rangeSize i j c = (rngLen i j c : Nat) := by
  unfold Builtin.Range.rangeSize rngLen
  by_cases h : 0 < c
  · rw [if_pos h, if_pos h]
    split
    · have : 0 ≤ (j - i - 1) / c := Int.ediv_nonneg (by omega) (by omega)
      omega
    · rfl
  · rw [if_neg h, if_neg h]
    by_cases h2 : j < i
    · rw [if_pos h2, if_pos h2]
      have : 0 ≤ (i - j - 1) / (-c) := Int.ediv_nonneg (by omega) (by omega)
      omega
    · rw [if_neg h2, if_neg h2]; rfl
theorem ediv_le_of {a c : Int} (h : 0 ≤ a) (hc : 0 < c) : a / c ≤ a := Int.ediv_le_self _ h
theorem rng_small {i j c : Int} (h1 : -1000000000 < i) (h2 : i < 1000000000) (h3 : -1000000000 < j) (h4 : j < 1000000000) (h5 : c ≠ 0) (h6 : c.natAbs < 1000000000) : Builtin.Range.small i j c = true := by
  have hs : -(2:Int)^63 ≤ Builtin.Range.rangeSize i j c ∧ Builtin.Range.rangeSize i j c < 2^63 := by
    unfold Builtin.Range.rangeSize
    split
    · split
      · have a1 : 0 ≤ (j - i - 1) / c := Int.ediv_nonneg (by omega) (by omega)
        have a2 := ediv_le_of (a := j - i - 1) (c := c) (by omega) (by omega)
        omega
      · omega
    · split
      · have a1 : 0 ≤ (i - j - 1) / (-c) := Int.ediv_nonneg (by omega) (by omega)
        have a2 := ediv_le_of (a := i - j - 1) (c := -c) (by omega) (by omega)
        omega
      · omega
  unfold Builtin.Range.small
  simp only [Builtin.Range.rangeFitsLong, Bool.and_eq_true, Bool.or_eq_true, decide_eq_true_eq, beq_iff_eq]
  refine ⟨⟨⟨⟨⟨by omega, by omega⟩, by omega, by omega⟩, by omega, by omega⟩, by omega, by omega⟩, .inr ?_⟩
  split <;> simp only [Bool.and_eq_true, decide_eq_true_eq] <;> omega
theorem sdI_rng3 (hg : Gl X "range") (hm : X.mg "range" = none) (ha : Sd Φ X a0 a) (hb : Sd Φ X b0 b) (hc : Sd Φ X c0 c) (n : notStar a0 = true) (n2 : notStar b0 = true) (n3 : notStar c0 = true) : SdI Φ X tg (.Call (.Name "range" p) [a0, b0, c0] [] pos) (.rng3 a b c) := by
  refine (pi_range3 (p := p) (pos := pos) hg hm (pa_cons ha.op (pa2 hb.op hc.op n2 n3) (star_cons n)) (star_cons n) (star_any (by simp [n2, n3]))).imp fun σ H R q => ?_
  obtain ⟨F, ρ, Q, g, h, k⟩ := q
  rw [rdI_rng3] at h
  refine ⟨F, ρ, _, g, h, fun v o F1 H1 ρ1 g1 s1 ok1 h1 => ⟨F1, ρ1, _, g1, h1, fun w o2 F2 H2 ρ2 g2 s2 ok2 h2 => ⟨F2, ρ2, _, g2, h2, fun u o3 F3 H3 ρ3 g3 s3 ok3 h3 => ?_⟩⟩⟩
  obtain ⟨x, ex, h3⟩ := must_iff.mp h3
  obtain ⟨y, ey, h4⟩ := must_iff.mp h3
  obtain ⟨z, ez, h5⟩ := must_iff.mp h4
  obtain ⟨i, rfl, h6⟩ := mustI_iff h5
  obtain ⟨j, rfl, h7⟩ := mustI_iff h6
  obtain ⟨c, rfl, l1, l2, l3, l4, l5, l6, l7, h8⟩ := mustI_iff h7
  cases ((ok1.gr ((s2.gr g1).trans (s3.gr g2))).rv g3 ex).int
  cases ((ok2.gr (s3.gr g2)).rv g3 ey).int
  cases (ok3.rv g3 ez).int
  have hs : Builtin.Range.small i j c = true := rng_small l1 l2 l3 l4 l5 l6
  have hn := rng_size i j c
  exact ⟨i, j, c, _, rfl, ⟨l5, by omega, hs, hn⟩, k _ _ _ F3 H3 ρ3 g3 (Back.none ((s1.trans s2).trans s3)) (itg_rngC i c _ (by rw [← big_eq]; exact l7)) h8⟩
end
end Z

/-! soundness: statements -/
namespace Z
open PySem PySem.Spec PyProof.Rows L2 C8
/-- a value handed back -/
def VrR (K : Kx) (H0 : Hp) (σ0 : L2.St) (ρ0 : Env) (F : Fz) (H : Hp) (σ : L2.St) (ρ : Env) (fr : Bool) (v : V) (d : PyData) : Prop :=
  if (fr && isMut d) = true then ∃ a, v = .ref a ∧ ¬ F a ∧ Ob K F H a d ∧ (H0 a = none ∨ Mu σ0 ρ0 a) ∧ ¬ Ow σ ρ a else Rp K F H v d
structure Dn (K : Kx) (F : Fz) (H : Hp) (σ : L2.St) (ρ : Env) (Kt : Kt) (D : Ends) : Prop where
  nx : ∀ σ' F' H' ρ', Sg K F' H' σ' ρ' → Stp F H σ ρ F' H' σ' ρ' → Kt.nx ρ' → D.nx σ' H'
  bk : ∀ σ' F' H' ρ', Sg K F' H' σ' ρ' → Stp F H σ ρ F' H' σ' ρ' → Kt.bk ρ' → D.bk σ' H'
  ct : ∀ σ' F' H' ρ', Sg K F' H' σ' ρ' → Stp F H σ ρ F' H' σ' ρ' → Kt.ct ρ' → D.ct σ' H'
  rt : ∀ fr v d σ' F' H' ρ', Sg K F' H' σ' ρ' → Stp F H σ ρ F' H' σ' ρ' → VrR K H σ ρ F' H' σ' ρ' fr v d → Kt.rt fr d ρ' → D.rt v H'
def tS (K : Kx) (r : Env → Kt → Prop) : TS := fun D σ H => ∃ (F : Fz) (ρ : Env) (Kt : Kt), Sg K F H σ ρ ∧ r ρ Kt ∧ Dn K F H σ ρ Kt D
section
variable {K : Kx} {F F1 F2 F' F0 : Fz} {H H1 H2 H' H0 : Hp} {σ σ1 σ2 σ' σ0 : L2.St} {ρ ρ1 ρ2 ρ' ρ0 : Env}
theorem none_back (t : ∀ a, H a ≠ none → H1 a ≠ none) {a : Addr} (h : H1 a = none) : H a = none := by
  cases q : H a with
  | none => rfl
  | some o => exact absurd h (t a (by rw [q]; simp))
theorem VrR.back {fr : Bool} {v : V} {d : PyData} (s : Stp F H σ ρ F1 H1 σ1 ρ1) (h : VrR K H1 σ1 ρ1 F2 H2 σ2 ρ2 fr v d) : VrR K H σ ρ F2 H2 σ2 ρ2 fr v d := by
  unfold VrR at h ⊢
  split
  · rename_i c
    rw [if_pos c] at h
    obtain ⟨a, e, n, o, z, w⟩ := h
    refine ⟨a, e, n, o, ?_, w⟩
    rcases z with z | z
    · exact .inl (none_back s.tr z)
    · exact (s.own a z).elim .inr .inl
  · rename_i c
    rw [if_neg c] at h
    exact h
theorem Vr.vrr {fr : Bool} {v : V} {d : PyData} (h : Vr K H0 F H σ ρ fr v d) : VrR K H0 σ0 ρ0 F H σ ρ fr v d := by
  unfold Vr at h
  unfold VrR
  split
  · rename_i c
    rw [if_pos c] at h
    obtain ⟨a, e, n, o, z, w⟩ := h
    exact ⟨a, e, n, o, .inl z, w⟩
  · rename_i c
    rw [if_neg c] at h
    exact h
theorem Dn.step {Kt : Kt} {D : Ends} (d : Dn K F H σ ρ Kt D) (s : Stp F H σ ρ F1 H1 σ1 ρ1) : Dn K F1 H1 σ1 ρ1 Kt D where
  nx := fun σ' F' H' ρ' g' s' k => d.nx σ' F' H' ρ' g' (s.trans s') k
  bk := fun σ' F' H' ρ' g' s' k => d.bk σ' F' H' ρ' g' (s.trans s') k
  ct := fun σ' F' H' ρ' g' s' k => d.ct σ' F' H' ρ' g' (s.trans s') k
  rt := fun fr v x σ' F' H' ρ' g' s' vr k => d.rt fr v x σ' F' H' ρ' g' (s.trans s') (vr.back s) k
/-- the object of a name changes -/
theorem Sg.updOw (g : Sg K F H σ ρ) {i : Nat} {d d' : PyData} {a : Addr} {ob : HO} (e : ρ[i]? = some (.ow d)) (ev : σ[i]? = some (some (.ref a))) (o : Ob K F (upd H a ob) a d') :
    Sg K F (upd H a ob) σ (ρ.set i (.ow d')) ∧ Stp F H σ ρ F (upd H a ob) σ (ρ.set i (.ow d')) := by
  have ow : Ow σ ρ a := ⟨i, _, e, rfl, ev⟩
  have nF : ¬ F a := g.nF ow
  have gr : Gr F H F (upd H a ob) := ⟨fun _ f => f, fun b f => .inl (upd_ne fun (q : b = a) => nF (q ▸ f))⟩
  refine ⟨⟨by rw [List.length_set]; exact g.len, fun j s' e' => ?_, fun j k b s1 s2 e1 e2 o1 o2 v1 v2 => ?_, fun b f => ?_⟩, ⟨fun _ f => f, fun _ f => .inl f, fun b h m => .inl (upd_ne fun q => m (q ▸ ⟨i, _, e, rfl, ev⟩)), fun b h => ?_, fun b m => ?_, fun j s' e' p => ?_⟩⟩
  · rcases get_set_cases e' with ⟨rfl, rfl⟩ | ⟨ne, e'⟩
    · exact ⟨a, ev, nF, o⟩
    · refine (g.sl j s' e').gr gr fun b ob' eb => ⟨g.nF ⟨j, s', e', ob', eb⟩, upd_ne fun q => ?_⟩
      subst q
      exact ne (g.inj j i b s' _ e' e ob' rfl eb ev)
  · have z1 : ∃ s1', ρ[j]? = some s1' ∧ s1'.own = true := by
      rcases get_set_cases e1 with ⟨rfl, rfl⟩ | ⟨ne, e'⟩
      · exact ⟨_, e, rfl⟩
      · exact ⟨_, e', o1⟩
    have z2 : ∃ s2', ρ[k]? = some s2' ∧ s2'.own = true := by
      rcases get_set_cases e2 with ⟨rfl, rfl⟩ | ⟨ne, e'⟩
      · exact ⟨_, e, rfl⟩
      · exact ⟨_, e', o2⟩
    obtain ⟨t1, q1, q1'⟩ := z1
    obtain ⟨t2, q2, q2'⟩ := z2
    exact g.inj j k b t1 t2 q1 q2 q1' q2' v1 v2
  · rw [upd_ne fun (q : b = a) => nF (q ▸ f)]; exact g.tr b f
  · by_cases q : b = a
    · subst q; rw [upd_same]; simp
    · rw [upd_ne q]; exact h
  · obtain ⟨j, s', q1, q2, q3⟩ := m
    rcases get_set_cases q1 with ⟨rfl, rfl⟩ | ⟨ne, q1⟩
    · exact .inl ⟨j, _, e, rfl, q3⟩
    · exact .inl ⟨j, s', q1, q2, q3⟩
  · rcases get_set_cases e' with ⟨rfl, rfl⟩ | ⟨ne, e'⟩
    · cases p
    · exact ⟨⟨_, e', .inl rfl⟩, rfl⟩
theorem Sg.updDw (g : Sg K F H σ ρ) {i : Nat} {d d' : PyData} {a : Addr} {ob : HO} (e : ρ[i]? = some (.dw d)) (ev : σ[i]? = some (some (.ref a))) (o : Ob K F (upd H a ob) a d') :
    Sg K F (upd H a ob) σ (ρ.set i (.dw d')) ∧ Stp F H σ ρ F (upd H a ob) σ (ρ.set i (.dw d')) := by
  have ow : Ow σ ρ a := ⟨i, _, e, rfl, ev⟩
  have nF : ¬ F a := g.nF ow
  have gr : Gr F H F (upd H a ob) := ⟨fun _ f => f, fun b f => .inl (upd_ne fun (q : b = a) => nF (q ▸ f))⟩
  refine ⟨⟨by rw [List.length_set]; exact g.len, fun j s' e' => ?_, fun j k b s1 s2 e1 e2 o1 o2 v1 v2 => ?_, fun b f => ?_⟩, ⟨fun _ f => f, fun _ f => .inl f, fun b h m => .inl (upd_ne fun q => m (q ▸ ⟨i, _, e, rfl, ev⟩)), fun b h => ?_, fun b m => ?_, fun j s' e' p => ?_⟩⟩
  · rcases get_set_cases e' with ⟨rfl, rfl⟩ | ⟨ne, e'⟩
    · exact ⟨a, ev, nF, o⟩
    · refine (g.sl j s' e').gr gr fun b ob' eb => ⟨g.nF ⟨j, s', e', ob', eb⟩, upd_ne fun q => ?_⟩
      subst q
      exact ne (g.inj j i b s' _ e' e ob' rfl eb ev)
  · have z1 : ∃ s1', ρ[j]? = some s1' ∧ s1'.own = true := by
      rcases get_set_cases e1 with ⟨rfl, rfl⟩ | ⟨ne, e'⟩
      · exact ⟨_, e, rfl⟩
      · exact ⟨_, e', o1⟩
    have z2 : ∃ s2', ρ[k]? = some s2' ∧ s2'.own = true := by
      rcases get_set_cases e2 with ⟨rfl, rfl⟩ | ⟨ne, e'⟩
      · exact ⟨_, e, rfl⟩
      · exact ⟨_, e', o2⟩
    obtain ⟨t1, q1, q1'⟩ := z1
    obtain ⟨t2, q2, q2'⟩ := z2
    exact g.inj j k b t1 t2 q1 q2 q1' q2' v1 v2
  · rw [upd_ne fun (q : b = a) => nF (q ▸ f)]; exact g.tr b f
  · by_cases q : b = a
    · subst q; rw [upd_same]; simp
    · rw [upd_ne q]; exact h
  · obtain ⟨j, s', q1, q2, q3⟩ := m
    rcases get_set_cases q1 with ⟨rfl, rfl⟩ | ⟨ne, q1⟩
    · exact .inl ⟨j, _, e, rfl, q3⟩
    · exact .inl ⟨j, s', q1, q2, q3⟩
  · rcases get_set_cases e' with ⟨rfl, rfl⟩ | ⟨ne, e'⟩
    · exact ⟨⟨_, e, .inr ⟨d, d', rfl, rfl⟩⟩, rfl⟩
    · exact ⟨⟨_, e', .inl rfl⟩, rfl⟩
theorem mustW_iff {i : Nat} {Q : List PyData → Prop} (h : mustW ρ i Q) : ∃ ds, ρ[i]? = some (.dw (.list ds)) ∧ Q ds := by
  unfold mustW at h
  split at h
  · exact ⟨_, by assumption, h⟩
  · exact h.elim
theorem mustL_iff {i : Nat} {Q : List PyData → Prop} (h : mustL ρ i Q) : ∃ ds, ρ[i]? = some (.ow (.list ds)) ∧ Q ds := by
  unfold mustL at h
  split at h
  · exact ⟨_, by assumption, h⟩
  · exact h.elim
theorem Sg.ow (g : Sg K F H σ ρ) {i : Nat} {d : PyData} (e : ρ[i]? = some (.ow d)) : ∃ a, σ[i]? = some (some (.ref a)) ∧ ¬ F a ∧ Ob K F H a d := g.sl i _ e
end
def SdS (Φ : Nat → Spc) (X : Cx) (st : Stmt) (s : S) : Prop := PS X st (tS X.k (rdS Φ s))
def SdSs (Φ : Nat → Spc) (X : Cx) (st : List Stmt) (b : Ss) : Prop := PSs X st (tS X.k (rdB Φ b))
section
variable {Φ : Nat → Spc} {X : Cx} {st : Stmt} {sts : List Stmt} {s : S} {r : Ss} {tg e0 a0 b0 c0 : Expr} {e a b c : E} {g : Tg} {pos p apos cpos : Pos}
theorem sds_nilB : SdSs Φ X [] .nil := pss_nil.imp fun D σ H q => by
  obtain ⟨F, ρ, Kt, g, h, d⟩ := q
  rw [rdB_nil] at h
  exact d.nx σ F H ρ g .refl h
theorem sds_consB (h1 : SdS Φ X st s) (h2 : SdSs Φ X sts r) : SdSs Φ X (st :: sts) (.cons s r) := (pss_cons h1 h2).imp fun D σ H q => by
  obtain ⟨F, ρ, Kt, g, h, d⟩ := q
  rw [rdB_cons] at h
  exact ⟨F, ρ, _, g, h, fun σ' F' H' ρ' g' s' k => ⟨F', ρ', Kt, g', k, d.step s'⟩, d.bk, d.ct, d.rt⟩
theorem sdS_pass : SdS Φ X (.Pass pos) .nop := ps_pass.imp fun D σ H q => by
  obtain ⟨F, ρ, Kt, g, h, d⟩ := q
  rw [rdS_nop] at h
  exact d.nx σ F H ρ g .refl h
theorem sdS_brk : SdS Φ X (.Break pos) .brk := ps_break.imp fun D σ H q => by
  obtain ⟨F, ρ, Kt, g, h, d⟩ := q
  rw [rdS_brk] at h
  exact d.bk σ F H ρ g .refl h
theorem sdS_cnt : SdS Φ X (.Continue pos) .cnt := ps_continue.imp fun D σ H q => by
  obtain ⟨F, ρ, Kt, g, h, d⟩ := q
  rw [rdS_cnt] at h
  exact d.ct σ F H ρ g .refl h
/-- not a comprehension -/
def noComp : Expr → Bool
  | .ListComp .. => false
  | .SetComp .. => false
  | .DictComp .. => false
  | _ => true
theorem noComp_none {line : Nat} {env : PySem.Env} (h : noComp e0 = true) : swapsWith e0 none line env = pure false := by cases e0 <;> first | rfl | cases h
theorem noComp_sole {line : Nat} {env : PySem.Env} {t : Expr} (h : noComp e0 = true) : swapsWithSole [t] e0 line env = pure false := by cases e0 <;> first | rfl | cases h
/-- not a tuple -/
def noTup : Expr → Bool
  | .Tuple .. => false
  | _ => true
theorem noTup_swap {env : PySem.Env} {t : Expr} (h : noTup e0 = true) : swappedStores [t] e0 env = pure none := by
  cases e0 <;> first
    | (cases t <;> rfl)
    | (cases h)
/-- a store in which nothing is exchanged -/
def noTp (t e0 : Expr) : Bool := noTup e0 || (match t with | .Tuple .. => false | .List .. => false | _ => true)
theorem noTp_swap {env : PySem.Env} {t : Expr} (h : noTp t e0 = true) : swappedStores [t] e0 env = pure none := by
  unfold noTp at h
  rcases (Bool.or_eq_true _ _).mp h with h | h
  · exact noTup_swap h
  · cases t <;> first | (cases e0 <;> rfl) | cases h
theorem sdS_ex (he : Sd Φ X e0 e) (n : noComp e0 = true) : SdS Φ X (.Expr e0 pos) (.ex e) := (ps_expr he.ex (noComp_none n)).imp fun D σ H q => by
  obtain ⟨F, ρ, Kt, g, h, d⟩ := q
  rw [rdS_ex] at h
  exact ⟨F, ρ, _, g, h, fun fr v x F' H' ρ' g' s' vr k => d.nx σ F' H' ρ' g' s' k⟩
theorem sdS_asg (he : Sd Φ X e0 e) (hg : PG X tg (tG X.k g)) (n : ∀ line, swapsWithSole [tg] e0 line X.env = pure false) (n2 : noTp tg e0 = true) (n3 : notStar tg = true) : SdS Φ X (.Assign [tg] e0 pos) (.asg g e) :=
  (ps_asg he.ex hg (n _) (noTp_swap n2) (by rw [asn_cons n3]; rfl)).imp fun D σ H q => by
    obtain ⟨F, ρ, Kt, g, h, d⟩ := q
    rw [rdS_asg] at h
    refine ⟨F, ρ, _, g, h, fun fr v x F' H' ρ' g' s' vr k => ?_⟩
    exact ⟨F, H, ρ, σ, F', ρ', fr, x, _, g', s', .inl vr, k, fun σ2 ρ2 g2 s2 _ k2 => d.nx σ2 F' H' ρ2 g2 s2 k2⟩
theorem sdS_if {r1 r2 : Ss} {s1 s2 : List Stmt} (hc : Sd Φ X c0 c) (h1 : SdSs Φ X s1 r1) (h2 : SdSs Φ X s2 r2) : SdS Φ X (.If c0 s1 s2 pos) (.ife c r1 r2) := (ps_if hc.ts h1 h2).imp fun D σ H q => by
  obtain ⟨F, ρ, Kt, g, h, d⟩ := q
  rw [rdS_ife] at h
  refine ⟨F, ρ, _, g, h, fun b F' H' ρ' g' s' k => ?_⟩
  cases b with
  | true => exact ⟨F', ρ', Kt, g', k, d.step s'⟩
  | false => exact ⟨F', ρ', Kt, g', k, d.step s'⟩
/-- a name's object handed back -/
theorem sdS_ret (he : Sd Φ X e0 e) : SdS Φ X (.Return (some e0) pos) (.ret e) := by
  by_cases hv : ∃ i, e = .v i
  · obtain ⟨i, rfl⟩ := hv
    refine (ps_ret he.op).imp fun D σ H q => ?_
    obtain ⟨F, ρ, Kt, g, h, d⟩ := q
    rw [rdS_ret] at h
    have h : must ρ[i]? fun s => match s with
      | .sh d => Kt.rt false d ρ
      | .ow d => Kt.rt true d (ρ.set i .no)
      | _ => False := h
    obtain ⟨sl, e1, h⟩ := must_iff.mp h
    have go : ∀ x, sl.dat = some x → (∀ v F' H', Sg X.k F' H' σ ρ → Stp F H σ ρ F' H' σ ρ → σ[i]? = some (some v) → D.rt v H') → tO X.k (.v i) (rd Φ (.v i)).e σ H D.rt := fun x hx k => by
      refine ⟨F, ρ, fun o ρ' => o = .slot i ∧ ρ' = ρ, g, ?_, fun v o F' H' ρ' g' s' ok kk => ?_⟩
      · show must (res ρ (.slot i)) _
        have : res ρ (.slot i) = some x := by rw [res, e1]; exact hx
        exact ⟨x, this, rfl, rfl⟩
      · obtain ⟨rfl, rfl⟩ := kk
        exact k v F' H' g' s' ok
    cases sl with
    | sh x =>
      refine go x rfl fun v F' H' g' s' ev => ?_
      obtain ⟨v', e2, rp⟩ := g'.sl i _ e1
      rw [ev] at e2; cases e2
      exact d.rt false v x σ F' H' ρ g' s' rp h
    | ow x =>
      refine go x rfl fun v F' H' g' s' ev => ?_
      obtain ⟨a, e2, nF, ob⟩ := g'.ow e1
      rw [ev] at e2; cases e2
      have mu : Mu σ ρ a := ⟨i, _, e1, rfl, ev⟩
      have im : isMut x = true := by cases ob <;> rfl
      have ow' : ∀ b, Ow σ (ρ.set i .no) b → Ow σ ρ b ∧ b ≠ a := fun b ⟨j, s', q1, q2, q3⟩ => by
        rcases get_set_cases q1 with ⟨rfl, rfl⟩ | ⟨ne, q1⟩
        · cases q2
        · refine ⟨⟨j, s', q1, q2, q3⟩, fun eb => ?_⟩
          subst eb
          exact ne (g'.inj j i b s' _ q1 e1 q2 rfl q3 ev)
      refine d.rt true (.ref a) x σ F' H' (ρ.set i .no) ⟨by rw [List.length_set]; exact g'.len, fun j s' q => ?_, fun j k b t1 t2 q1 q2 o1 o2 v1 v2 => ?_, g'.tr⟩ ⟨s'.sub, s'.new, s'.keep, s'.tr, fun b m => ?_, fun j s2 q p => ?_⟩ ?_ h
      · rcases get_set_cases q with ⟨rfl, rfl⟩ | ⟨ne, q⟩
        · trivial
        · exact g'.sl j s' q
      · rcases get_set_cases q1 with ⟨rfl, rfl⟩ | ⟨ne1, q1⟩
        · cases o1
        · rcases get_set_cases q2 with ⟨rfl, rfl⟩ | ⟨ne2, q2⟩
          · cases o2
          · exact g'.inj j k b t1 t2 q1 q2 o1 o2 v1 v2
      · obtain ⟨j, s2, q1, q2, q3⟩ := m
        rcases get_set_cases q1 with ⟨rfl, rfl⟩ | ⟨ne, q1⟩
        · cases q2
        · exact .inl ⟨j, s2, q1, q2, q3⟩
      · rcases get_set_cases q with ⟨rfl, rfl⟩ | ⟨ne, q⟩
        · cases p
        · exact ⟨⟨_, q, .inl rfl⟩, rfl⟩
      · unfold VrR
        rw [if_pos (by rw [im]; rfl)]
        exact ⟨a, rfl, nF, ob, .inr mu, fun o => (ow' a o).2 rfl⟩
    | no => exact h.elim
    | lk x => exact h.elim
    | dr => exact h.elim
    | dw x => exact h.elim
  · refine (ps_ret he.ex).imp fun D σ H q => ?_
    obtain ⟨F, ρ, Kt, g, h, d⟩ := q
    rw [rdS_ret] at h
    have h' : (rd Φ e).e ρ Kt.rt := by
      cases e <;> first | exact h | exact absurd ⟨_, rfl⟩ hv
    exact ⟨F, ρ, _, g, h', fun fr v x F' H' ρ' g' s' vr k => d.rt fr v x σ F' H' ρ' g' s' vr.vrr k⟩
end
end Z

/-! soundness: lists and dicts changed -/
namespace Z
open PySem PySem.Spec PyProof.Rows L2 C8
section
variable {Φ : Nat → Spc} {X : Cx} {st : Stmt} {sts : List Stmt} {s : S} {r : Ss} {tg e0 a0 b0 c0 : Expr} {e a b c : E} {g : Tg} {pos p q1 apos cpos : Pos} {i : Nat} {x : Str}
theorem few1 {pos : Pos} {env : PySem.Env} (n : notStar e0 = true) : ((backTo pos (starEach [e0] env)).all (fun x => !x.1) && (backToKw pos (keywordEach [] env)).all (fun x => x.1.isSome)
      && decide ([e0].length + ([] : List Keyword).length + (if ([] : List Keyword).isEmpty then 0 else 1) < 30)) = true := by
  rw [star_all (by simp [n])]; rfl
theorem len_eq {ds : List PyData} {xs : List V} {F : Fz} {H : Hp} (r : RpAll X.k F H xs ds) : xs.length = ds.length := r.length
theorem sdS_app (hN : X.N[i]? = some x) (hv : Vis X.env.scope x) (hd : (x == ("__debug__" : Str)) = false) (hcd : (x == ("__classdict__" : Str)) = false) (he : Sd Φ X e0 e) (n : notStar e0 = true) (hl : (apos.endLine == cpos.line) = true) :
    SdS Φ X (.Expr (.Call (.Attribute (.Name x q1) "append" apos) [e0] [] cpos) pos) (.app i e) :=
  (ps_expr (pe_bm PySem.F.plainAttrs_list PySem.F.slot_list_append PySem.F.type_list_append mt_append (pe_var hN hv hd hcd) (pa1 he.ex n) rfl (few1 n) hl (star_cons n) rfl) rfl).imp fun D σ H q => by
    obtain ⟨F, ρ, Kt, g, h, d⟩ := q
    rw [rdS_app] at h
    obtain ⟨ds0, e1, h⟩ := mustL_iff h
    obtain ⟨a, ea, nF, ob⟩ := g.ow e1
    cases ob with
    | @lst xs ds hq rq =>
      refine ⟨.ref a, ea, .inl ⟨rfl, xs, SqL.of hq⟩, F, ρ, _, g, h, fun fr v y F' H' ρ' g' s' vr k => ?_⟩
      obtain ⟨F2, g2, s2, rp, _⟩ := vr.freeze g' s'
      obtain ⟨ds1, e2, hlt, k⟩ := mustL_iff k
      obtain ⟨a', ea', nF', ob'⟩ := g2.ow e2
      rw [ea] at ea'; cases ea'
      cases ob' with
      | @lst xs1 _ hq1 rq1 =>
        refine ⟨a, xs1, v, rfl, rfl, hq1, by rw [rq1.length, ← big_eq]; exact hlt, ?_⟩
        have gr : Gr F2 H' F2 (upd H' a (.lst (xs1 ++ [v]))) := ⟨fun _ f => f, fun b f => .inl (upd_ne fun (q : b = a) => nF' (q ▸ f))⟩
        obtain ⟨g3, s3⟩ := g2.updOw (ob := .lst (xs1 ++ [v])) (d' := .list (ds1 ++ [y])) e2 ea (.lst upd_same ((rq1.append (.cons rp .nil)).gr gr))
        exact d.nx σ F2 _ _ g3 (s2.trans s3) k
theorem sdS_ext (hN : X.N[i]? = some x) (hv : Vis X.env.scope x) (hd : (x == ("__debug__" : Str)) = false) (hcd : (x == ("__classdict__" : Str)) = false) (he : Sd Φ X e0 e) (n : notStar e0 = true) (hl : (apos.endLine == cpos.line) = true) :
    SdS Φ X (.Expr (.Call (.Attribute (.Name x q1) "extend" apos) [e0] [] cpos) pos) (.ext i e) :=
  (ps_expr (pe_bm PySem.F.plainAttrs_list PySem.F.slot_list_extend PySem.F.type_list_extend mt_extend (pe_var hN hv hd hcd) (pa1 he.op n) rfl (few1 n) hl (star_cons n) rfl) rfl).imp fun D σ H q => by
    obtain ⟨F, ρ, Kt, g, h, d⟩ := q
    rw [rdS_ext] at h
    obtain ⟨ds0, e1, h⟩ := mustL_iff h
    obtain ⟨a, ea, nF, ob⟩ := g.ow e1
    cases ob with
    | @lst xs ds hq rq =>
      refine ⟨.ref a, ea, .inl ⟨rfl, xs, SqL.of hq⟩, F, ρ, _, g, h, fun v o F2 H' ρ' g2 s2 ok k => ?_⟩
      obtain ⟨z, ez, k⟩ := must_iff.mp k
      obtain ⟨zs, el, k⟩ := must_iff.mp k
      obtain ⟨ds1, e2, hlt, k1⟩ := mustL_iff k
      have rv := ok.rv g2 ez
      cases z with
      | list zs' =>
        cases el
        obtain ⟨b, ys, rfl, qb, rb⟩ := rv.lst
        obtain ⟨a', ea', nF', ob'⟩ := g2.ow e2
        rw [ea] at ea'; cases ea'
        cases ob' with
        | @lst xs1 _ hq1 rq1 =>
          refine ⟨a, b, xs1, ys, rfl, rfl, hq1, qb, by rw [rq1.length, rb.length, ← big_eq]; exact hlt, ?_⟩
          have gr : Gr F2 H' F2 (upd H' a (.lst (xs1 ++ ys))) := ⟨fun _ f => f, fun b f => .inl (upd_ne fun (q : b = a) => nF' (q ▸ f))⟩
          obtain ⟨g3, s3⟩ := g2.updOw (ob := .lst (xs1 ++ ys)) (d' := .list (ds1 ++ zs)) e2 ea (.lst upd_same ((rq1.append rb).gr gr))
          exact d.nx σ F2 _ _ g3 (s2.trans s3) k1
      | _ => cases el
/-! x[k] = e -/
def tSetZ (K : Kx) : TSet := fun o k v H Q => ∃ F a d0 kd vd s', o = .ref a ∧ (∀ x, F x → H x ≠ none) ∧ ¬ F a ∧ Ob K F H a d0 ∧ Rp K F H k kd ∧ Rp K F H v vd ∧ setD (.ow d0) kd vd = some (.ow s') ∧ ∀ ob, Ob K F (upd H a ob) a s' → Q (upd H a ob)
theorem set_ok (hu : X.A.units + 66 < cLine) : PSet X (tSetZ X.k) := by
  intro pins s σ H o k v ov iv u Q I ro ri rv h
  obtain ⟨F, a, d0, kd, vd, s', rfl, t, nF, ob, rk, rvd, es, q⟩ := h
  cases ro
  have gr : ∀ ob, Gr F H F (upd H a ob) := fun ob => ⟨fun _ f => f, fun b f => .inl (upd_ne fun (z : b = a) => nF (z ▸ f))⟩
  cases d0 with
  | list ds =>
    cases kd with
    | int n =>
      cases rk
      cases ob with
      | @lst xs _ hq rq =>
        obtain ⟨j, ej, e2⟩ := Option.map_eq_some_iff.mp (show (ixOf ds.length n).map _ = _ from es)
        cases e2
        exact set_list pins s σ H (.ref a) (.int n) v (.ref a) iv u Q I rfl ri rv ⟨a, xs, n, j, rfl, rfl, hq, by rw [rq.length, ← ixOf_eq]; exact ej, q _ (.lst upd_same ((rq.set j rvd).gr (gr _)))⟩
    | _ => cases es
  | dict esd =>
    have es : (if (keyFit esd kd && decide (esd.length < big)) = true then some (Sl.ow (.dict (putD esd kd vd))) else none) = some (.ow s') := by cases kd <;> exact es
    split at es
    · rename_i c
      rw [Bool.and_eq_true, decide_eq_true_eq] at c
      cases es
      exact dset_run hu I t nF ob rk ri rvd rv c.1 c.2 fun ob' s2 I2 o2 => ⟨_, I2, q ob' o2⟩
    · cases es
  | _ => cases es
theorem sdS_setix (hu : X.A.units + 66 < cLine) (hN : X.N[i]? = some x) (hv : Vis X.env.scope x) (hd : (x == ("__debug__" : Str)) = false) (hcd : (x == ("__classdict__" : Str)) = false) (hk : Sd Φ X b0 b) (he : Sd Φ X e0 e) (n : noComp e0 = true) (n3 : plainIx b0 = true) :
    SdS Φ X (.Assign [.Subscript (.Name x q1) b0 p] e0 pos) (.setix i b e) :=
  (ps_asg he.ex (pg_sub (pos := p) (pe_var (pos := q1) hN hv hd hcd) hk.ex (set_ok hu) (by cases b0 <;> first | (intro _; rfl) | cases n3)) (noComp_sole n) (noTp_swap (by unfold noTp; simp)) rfl).imp fun D σ H q => by
    obtain ⟨F, ρ, Kt, g, h, d⟩ := q
    rw [rdS_setix] at h
    refine ⟨F, ρ, _, g, h, fun fr v vd F' H' ρ' g' s' vr k => ?_⟩
    obtain ⟨F2, g2, s2, rp, _⟩ := vr.freeze g' s'
    obtain ⟨d0, e0', k⟩ := must_iff.mp k
    obtain ⟨w, ew⟩ := slot_some g2 e0'
    refine ⟨w, ew, F2, ρ', _, g2, k, fun fr' kv kd F3 H3 ρ3 g3 s3 vr' k3 => ?_⟩
    obtain ⟨F4, g4, s4, rk, g34⟩ := vr'.freeze g3 s3
    obtain ⟨sl, e3, k3⟩ := must_iff.mp k3
    obtain ⟨sl', e4, k3⟩ := must_iff.mp k3
    have hsl : ∃ d1 d2, sl = .ow d1 ∧ sl' = .ow d2 := by
      cases sl with
      | ow d1 =>
        refine ⟨d1, ?_⟩
        cases d1 with
        | list ds =>
          cases kd with
          | int n =>
            obtain ⟨j, _, rfl⟩ := Option.map_eq_some_iff.mp (show (ixOf ds.length n).map _ = _ from e4)
            exact ⟨_, rfl, rfl⟩
          | _ => cases e4
        | dict es =>
          have e4' : (if (keyFit es kd && decide (es.length < big)) = true then some (Sl.ow (.dict (putD es kd vd))) else none) = some sl' := by cases kd <;> exact e4
          split at e4'
          · cases e4'; exact ⟨_, rfl, rfl⟩
          · cases e4'
        | _ => cases e4
      | _ => cases e4
    obtain ⟨d1, d2, rfl, rfl⟩ := hsl
    obtain ⟨a, ea, nF, ob⟩ := g4.ow e3
    rw [ew] at ea; cases ea
    refine ⟨F4, a, d1, kd, vd, d2, rfl, g4.tr, nF, ob, rk, rp.gr (s4.gr g2), e4, fun ob' o' => ?_⟩
    obtain ⟨g5, s5⟩ := g4.updOw e3 ew o'
    exact d.nx σ F4 _ _ g5 ((s2.trans s4).trans s5) k3
end
end Z

/-! soundness: loops, comprehensions -/
namespace Z
open PySem PySem.Spec PyProof.Rows L2 C8
section
variable {K : Kx} {F F1 F2 F' F0 : Fz} {H H1 H2 H' H0 : Hp} {σ σ1 σ2 σ' σ0 : L2.St} {ρ ρ1 ρ2 ρ' ρ0 : Env}
theorem mu_unlock {a : Addr} : ∀ (ls : List Nat) (ρ : Env), Mu σ ρ a → Mu σ (unlock ρ ls) a
  | [], _, h => h
  | i :: r, ρ, h => by
    rw [unlock]
    split
    · rename_i d e
      refine mu_unlock r _ ?_
      obtain ⟨j, s, h1, h2, h3⟩ := h
      by_cases c : i = j
      · subst c; rw [e] at h1; cases h1; cases h2
      · exact ⟨j, s, by rw [List.getElem?_set_ne c]; exact h1, h2, h3⟩
    · exact mu_unlock r ρ h
theorem ow_unlock {a : Addr} : ∀ (ls : List Nat) (ρ : Env), Ow σ (unlock ρ ls) a → Ow σ ρ a
  | [], _, h => h
  | i :: r, ρ, h => by
    rw [unlock] at h
    split at h
    · rename_i d e
      obtain ⟨j, s, h1, h2, h3⟩ := ow_unlock r _ h
      rcases get_set_cases h1 with ⟨rfl, rfl⟩ | ⟨ne, h1⟩
      · exact ⟨j, _, e, rfl, h3⟩
      · exact ⟨j, s, h1, h2, h3⟩
    · exact ow_unlock r ρ h
theorem back_own {ls : List Nat} (b : Back K F0 H0 σ0 ρ0 ls F H σ ρ) (g : Sg K F H σ ρ) {a : Addr} (h : H a = none ∨ Mu σ ρ a) : H0 a = none ∨ Mu σ0 ρ0 a := by
  obtain ⟨_, s⟩ := b F H σ ρ g .refl
  rcases h with h | h
  · exact .inl (none_back s.tr h)
  · exact (s.own a (mu_unlock ls ρ h)).elim .inr .inl
theorem VrR.unlock {ls : List Nat} (b : Back K F0 H0 σ0 ρ0 ls F H σ ρ) (g : Sg K F H σ ρ) {fr : Bool} {v : V} {d : PyData} (h : VrR K H σ ρ F2 H2 σ2 ρ2 fr v d) : VrR K H0 σ0 ρ0 F2 H2 σ2 (Z.unlock ρ2 ls) fr v d := by
  unfold VrR at h ⊢
  split
  · rename_i c
    rw [if_pos c] at h
    obtain ⟨a, e, n, o, z, w⟩ := h
    exact ⟨a, e, n, o, back_own b g z, fun q => w (ow_unlock ls ρ2 q)⟩
  · rename_i c
    rw [if_neg c] at h
    exact h
end
section
variable {Φ : Nat → Spc} {X : Cx} {tg it0 c0 e0 : Expr} {g : Tg} {it : I} {c e : E} {pos : Pos} {body : List Stmt} {b : Ss}
/-- for -/
theorem sdS_for (hp : PassesOwn (model X.prog X.w) X.A X.env X.xe) (hc : X.calm = true) (hi : SdI Φ X tg it0 it) (hg : PG X tg (tG X.k g)) (ht : it.tup = true → g.isTup = true) (hb : SdSs Φ X body b) (hs : ∀ x, foldedSetIterable it0 X.env x = pure x) :
    SdS Φ X (.For tg it0 body [] pos) (.for_ g it b) := (ps_for hp hc hi hg hb hs).imp fun D σ H q => by
  obtain ⟨F, ρ, Kt, gg, h, d⟩ := q
  rw [rdS_for] at h
  refine ⟨F, ρ, _, gg, h, fun J ls ds F1 H1 ρ1 g1 bk ig hw => ?_⟩
  let K1 : Z.Kt := { nx := fun ρ' => Kt.nx (unlock ρ' ls), rt := fun fr d ρ' => Kt.rt fr d (unlock ρ' ls), bk := fun ρ' => Kt.nx (unlock ρ' ls) }
  refine ⟨fun i m σ' H' => m = ds.length - i ∧ i ≤ ds.length ∧ ∃ F' ρ', Sg X.k F' H' σ' ρ' ∧ Stp F1 H1 σ ρ1 F' H' σ' ρ' ∧ forW g (rdB Φ b) K1 (ds.drop i) ρ', ⟨ds.length, by simp, Nat.zero_le _, F1, ρ1, g1, .refl, hw⟩, ?_⟩
  rintro i m σ2 H2 ⟨rfl, hle, F2, ρ2, g2, s2, w2⟩
  by_cases hlt : i < ds.length
  · have hd : ds[i]? = some ds[i] := List.getElem?_eq_getElem hlt
    rw [List.drop_eq_getElem_cons hlt, forW] at w2
    obtain ⟨go, yl⟩ := ig.go i F2 H2 σ2 ρ2 g2 s2 _ hd
    refine .inr ⟨go, fun σ' H' => ∃ F' ρ', Sg X.k F' H' σ' ρ' ∧ Stp F1 H1 σ ρ1 F' H' σ' ρ' ∧ forW g (rdB Φ b) K1 (ds.drop (i + 1)) ρ', fun σ' H' n => ⟨ds.length - (i + 1), by omega, rfl, hlt, n⟩, fun x H3 y => ?_⟩
    obtain ⟨F3, l3, yr⟩ := yl x H3 y
    have g3 := l3.sg g2
    have s3 : Stp F1 H1 σ ρ1 F3 H3 σ2 ρ2 := s2.trans l3.stp
    refine ⟨F1, H1, ρ1, σ, F3, ρ2, false, _, _, g3, s3, ?_, w2, fun σ4 ρ4 g4 s4 _ w4 => ⟨F3, ρ4, _, g4, w4, ?_⟩⟩
    · exact yr.imp (fun r => Vr.of r rfl) fun z => ⟨ht z.1, z.2⟩
    · refine ⟨fun σ5 F5 H5 ρ5 g5 s5 w5 => ⟨F5, ρ5, g5, s4.trans s5, w5⟩, fun σ5 F5 H5 ρ5 g5 s5 w5 => ?_, fun σ5 F5 H5 ρ5 g5 s5 w5 => ⟨F5, ρ5, g5, s4.trans s5, w5⟩, fun fr v x σ5 F5 H5 ρ5 g5 s5 vr w5 => ?_⟩
      · obtain ⟨g6, s6⟩ := bk F5 H5 σ5 ρ5 g5 (s4.trans s5)
        exact d.nx σ5 F5 H5 _ g6 s6 w5
      · obtain ⟨g6, s6⟩ := bk F5 H5 σ5 ρ5 g5 (s4.trans s5)
        exact d.rt fr v x σ5 F5 H5 _ g6 s6 ((vr.back s4).unlock bk g1) w5
  · have e : i = ds.length := by omega
    subst e
    rw [List.drop_length, forW] at w2
    obtain ⟨g6, s6⟩ := bk F2 H2 σ2 ρ2 g2 s2
    exact .inl ⟨ig.stop _ F2 H2 σ2 ρ2 g2 s2 rfl, d.nx σ2 F2 H2 _ g6 s6 w2⟩
/-- while -/
theorem sdS_wh (hp : PassesOwn (model X.prog X.w) X.A X.env X.xe) (hc : Sd Φ X c0 c) (hb : SdSs Φ X body b) : SdS Φ X (.While c0 body [] pos) (.wh c b) := (ps_while hp hc.ts hb).imp fun D σ H q => by
  obtain ⟨F, ρ, Kt, gg, h, d⟩ := q
  rw [rdS_wh] at h
  obtain ⟨W, ⟨m0, w0⟩, turn⟩ := h
  refine ⟨fun m σ' H' => ∃ F' ρ', Sg X.k F' H' σ' ρ' ∧ Stp F H σ ρ F' H' σ' ρ' ∧ W m ρ', ⟨m0, F, ρ, gg, .refl, w0⟩, ?_⟩
  rintro m σ2 H2 ⟨F2, ρ2, g2, s2, w2⟩
  refine ⟨F2, ρ2, _, g2, turn m ρ2 w2, fun t F3 H3 ρ3 g3 s3 w3 => ?_⟩
  cases t with
  | false => exact d.nx σ2 F3 H3 ρ3 g3 (s2.trans s3) w3
  | true =>
    rw [if_pos rfl] at w3
    rw [if_pos rfl]
    refine ⟨fun σ' H' => ∃ m', m' < m ∧ ∃ F' ρ', Sg X.k F' H' σ' ρ' ∧ Stp F H σ ρ F' H' σ' ρ' ∧ W m' ρ', fun σ' H' z => z, F3, ρ3, _, g3, w3, ?_⟩
    have s23 := s2.trans s3
    exact ⟨fun σ5 F5 H5 ρ5 g5 s5 ⟨m', hm, w5⟩ => ⟨m', hm, F5, ρ5, g5, s23.trans s5, w5⟩, fun σ5 F5 H5 ρ5 g5 s5 w5 => d.nx σ5 F5 H5 ρ5 g5 (s23.trans s5) w5, fun σ5 F5 H5 ρ5 g5 s5 ⟨m', hm, w5⟩ => ⟨m', hm, F5, ρ5, g5, s23.trans s5, w5⟩,
      fun fr v x σ5 F5 H5 ρ5 g5 s5 vr w5 => d.rt fr v x σ5 F5 H5 ρ5 g5 (s23.trans s5) (vr.back s23) w5⟩
end
/-! ### blocks of their own -/
section
variable {K : Kx} {F F1 F2 F' F0 : Fz} {H H1 H2 H' H0 : Hp} {σ σ1 σ2 σ' σ0 : L2.St} {ρ ρ1 ρ2 ρ' ρ0 : Env}
theorem wipeE_length (ρ : Env) : ∀ vs : List Nat, (wipeE ρ vs).length = ρ.length
  | [] => rfl
  | v :: vs => by rw [wipeE, List.length_set, wipeE_length ρ vs]
theorem wipeE_get {vs : List Nat} {j : Nat} {s : Sl} (h : (wipeE ρ vs)[j]? = some s) : (j ∈ vs ∧ s = .no) ∨ (j ∉ vs ∧ ρ[j]? = some s) := by
  induction vs generalizing s with
  | nil => exact .inr ⟨by simp, h⟩
  | cons v vs ih =>
    rw [wipeE] at h
    rcases get_set_cases h with ⟨rfl, rfl⟩ | ⟨ne, h⟩
    · exact .inl ⟨List.mem_cons_self, rfl⟩
    · rcases ih h with ⟨h1, h2⟩ | ⟨h1, h2⟩
      · exact .inl ⟨List.mem_cons_of_mem _ h1, h2⟩
      · exact .inr ⟨by simp [ne, h1], h2⟩
theorem wipe_not {vs : List Nat} {j : Nat} (h : j ∉ vs) : (wipe σ vs)[j]? = σ[j]? := wipe_out h
theorem wipe_in {vs : List Nat} {j : Nat} {v : V} (h : j ∈ vs) : (wipe σ vs)[j]? ≠ some (some v) := fun e => (wipe_some e).2 h
theorem Sg.wipe (g : Sg K F H σ ρ) (vs : List Nat) : Sg K F H (L2.wipe σ vs) (wipeE ρ vs) ∧ Stp F H σ ρ F H (L2.wipe σ vs) (wipeE ρ vs) := by
  have own : ∀ {j : Nat} {s : Sl}, (wipeE ρ vs)[j]? = some s → s ≠ .no → ρ[j]? = some s ∧ (L2.wipe σ vs)[j]? = σ[j]? := fun {j s} e n => by
    rcases wipeE_get e with ⟨_, rfl⟩ | ⟨h1, h2⟩
    · exact absurd rfl n
    · exact ⟨h2, wipe_not h1⟩
  refine ⟨⟨by rw [wipeE_length, wipe_length]; exact g.len, fun j s e => ?_, fun j k b s1 s2 e1 e2 o1 o2 v1 v2 => ?_, g.tr⟩, ⟨fun _ f => f, fun _ f => .inl f, fun _ _ _ => .inl rfl, fun _ h => h, fun b m => ?_, fun j s e p => ?_⟩⟩
  · rcases wipeE_get e with ⟨_, rfl⟩ | ⟨h1, h2⟩
    · trivial
    · rw [wipe_not h1]; exact g.sl j s h2
  · obtain ⟨e1, x1⟩ := own e1 (by rintro rfl; cases o1)
    obtain ⟨e2, x2⟩ := own e2 (by rintro rfl; cases o2)
    rw [x1] at v1
    rw [x2] at v2
    exact g.inj j k b s1 s2 e1 e2 o1 o2 v1 v2
  · obtain ⟨j, s, h1, h2, h3⟩ := m
    obtain ⟨e1, x1⟩ := own h1 (by rintro rfl; cases h2)
    rw [x1] at h3
    exact .inl ⟨j, s, e1, h2, h3⟩
  · obtain ⟨e1, x1⟩ := own e (by rintro rfl; cases p)
    exact ⟨⟨_, e1, .inl rfl⟩, x1⟩
theorem restE_get {vs : List Nat} {j : Nat} {s : Sl} (h : (restE ρ0 ρ vs)[j]? = some s) : (j ∈ vs ∧ ((∃ d, s = .sh d ∧ ρ0[j]? = some (.sh d)) ∨ s = .no)) ∨ (j ∉ vs ∧ ρ[j]? = some s) := by
  induction vs generalizing s with
  | nil => exact .inr ⟨by simp, h⟩
  | cons v vs ih =>
    rw [restE] at h
    rcases get_set_cases h with ⟨rfl, rfl⟩ | ⟨ne, h⟩
    · refine .inl ⟨List.mem_cons_self, ?_⟩
      split
      · rename_i d e
        exact .inl ⟨d, rfl, e⟩
      · exact .inr rfl
    · rcases ih h with ⟨h1, h2⟩ | ⟨h1, h2⟩
      · exact .inl ⟨List.mem_cons_of_mem _ h1, h2⟩
      · exact .inr ⟨by simp [ne, h1], h2⟩
theorem restE_length : ∀ vs : List Nat, (restE ρ0 ρ vs).length = ρ.length
  | [] => rfl
  | v :: vs => by rw [restE, List.length_set, restE_length vs]
theorem wipe_none {vs : List Nat} {j : Nat} (h : j ∈ vs) (hl : j < σ.length) : (L2.wipe σ vs)[j]? = some none := by
  cases e : (L2.wipe σ vs)[j]? with
  | none =>
    have := List.getElem?_eq_none_iff.mp e
    rw [wipe_length] at this
    omega
  | some o =>
    cases o with
    | none => rfl
    | some v => exact absurd e (wipe_in h)
theorem wipe_same {vs : List Nat} (s : Same vs (L2.wipe σ vs) σ1) : L2.wipe σ1 vs = L2.wipe σ vs := by
  have hl : σ1.length = σ.length := by rw [s.1, wipe_length]
  refine List.ext_getElem? fun j => ?_
  by_cases c : j ∈ vs
  · by_cases h : j < σ.length
    · rw [wipe_none c h, wipe_none c (by omega)]
    · rw [List.getElem?_eq_none (by rw [wipe_length]; omega), List.getElem?_eq_none (by rw [wipe_length]; omega)]
  · rw [wipe_not c, s.2 j c]
/-- behind the block the names are as they were -/
theorem Sg.rest {vs : List Nat} (g1 : Sg K F1 H1 σ ρ1) (g : Sg K F H (L2.wipe σ vs) ρ) (s : Stp F1 H1 σ ρ1 F H (L2.wipe σ vs) ρ) :
    Sg K F H σ (restE ρ1 ρ vs) ∧ Stp F1 H1 σ ρ1 F H σ (restE ρ1 ρ vs) ∧ ∀ a, Ow σ (restE ρ1 ρ vs) a → Ow (L2.wipe σ vs) ρ a := by
  have own : ∀ {j : Nat} {s' : Sl}, (restE ρ1 ρ vs)[j]? = some s' → (s'.own = true ∨ s'.pin = true) → ρ[j]? = some s' ∧ (L2.wipe σ vs)[j]? = σ[j]? := fun {j s'} e n => by
    rcases restE_get e with ⟨_, ⟨d, rfl, _⟩ | rfl⟩ | ⟨h1, h2⟩
    · rcases n with n | n <;> cases n
    · rcases n with n | n <;> cases n
    · exact ⟨h2, wipe_not h1⟩
  refine ⟨⟨by rw [restE_length, g.len, wipe_length], fun j s' e => ?_, fun j k b s1 s2 e1 e2 o1 o2 v1 v2 => ?_, g.tr⟩, ⟨s.sub, s.new, s.keep, s.tr, fun b m => ?_, fun j s' e p => ?_⟩, fun a o => ?_⟩
  · rcases restE_get e with ⟨_, ⟨d, rfl, e0⟩ | rfl⟩ | ⟨h1, h2⟩
    · obtain ⟨v, ev, rp⟩ := g1.sl j _ e0
      exact ⟨v, ev, rp.gr (s.gr g1)⟩
    · trivial
    · rw [← wipe_not (σ := σ) h1]; exact g.sl j s' h2
  · obtain ⟨e1, x1⟩ := own e1 (.inl o1)
    obtain ⟨e2, x2⟩ := own e2 (.inl o2)
    exact g.inj j k b s1 s2 e1 e2 o1 o2 (x1.trans v1) (x2.trans v2)
  · obtain ⟨j, s', h1, h2, h3⟩ := m
    obtain ⟨e1, x1⟩ := own h1 (.inl (Sl.mut_own h2))
    exact s.own b ⟨j, s', e1, h2, x1.trans h3⟩
  · obtain ⟨e1, x1⟩ := own e (.inr p)
    obtain ⟨h1, h2⟩ := s.lk j s' e1 p
    exact ⟨h1, by rw [← h2, x1]⟩
  · obtain ⟨j, s', h1, h2, h3⟩ := o
    obtain ⟨e1, x1⟩ := own h1 (.inl h2)
    exact ⟨j, s', e1, h2, x1.trans h3⟩
/-- an object that is nobody's yet stays -/
theorem Stp.mine (s : Stp F H σ ρ F' H' σ' ρ') {D : Addr} (t : H D ≠ none) (nF : ¬ F D) (nO : ¬ Ow σ ρ D) : H' D = H D ∧ ¬ F' D ∧ ¬ Ow σ' ρ' D := by
  have nM : ¬ Mu σ ρ D := fun m => nO m.ow
  have nF' : ¬ F' D := fun f => by
    rcases s.new D f with f | f | f
    · exact nF f
    · exact t f
    · exact nM f
  refine ⟨keep_eq (s.keep D t nM) nF', nF', fun ⟨j, sl, h1, h2, h3⟩ => ?_⟩
  by_cases m : sl.mut = true
  · rcases s.own D ⟨j, sl, h1, m, h3⟩ with q | q
    · exact nM q
    · exact t q
  · have p : sl.pin = true := by cases sl <;> simp_all [Sl.own, Sl.mut, Sl.pin]
    obtain ⟨⟨s0, q1, k1⟩, q2⟩ := s.lk j sl h1 p
    exact nO ⟨j, s0, q1, k1.own h2, q2 ▸ h3⟩
theorem Sg.updMine (g : Sg K F H σ ρ) {D : Addr} {o : HO} (nF : ¬ F D) (nO : ¬ Ow σ ρ D) : Sg K F (upd H D o) σ ρ ∧ Gr F H F (upd H D o) := by
  have gr : Gr F H F (upd H D o) := ⟨fun _ f => f, fun b f => .inl (upd_ne fun (q : b = D) => nF (q ▸ f))⟩
  refine ⟨⟨g.len, fun j s e => (g.sl j s e).gr gr fun b ob eb => ⟨g.nF ⟨j, s, e, ob, eb⟩, upd_ne fun q => nO ⟨j, s, e, ob, q ▸ eb⟩⟩, g.inj, fun b f => ?_⟩, gr⟩
  rw [upd_ne fun (q : b = D) => nF (q ▸ f)]; exact g.tr b f
theorem Stp.updMine (s : Stp F1 H1 σ1 ρ1 F H σ ρ) {D : Addr} {o : HO} (e : H1 D = none) (nF : ¬ F D) : Stp F1 H1 σ1 ρ1 F (upd H D o) σ ρ := by
  have ne : ∀ {a}, H1 a ≠ none → a ≠ D := fun {a} h q => h (q ▸ e)
  refine ⟨s.sub, s.new, fun a h m => ?_, fun a h => ?_, s.own, s.lk⟩
  · rw [upd_ne (ne h)]; exact s.keep a h m
  · rw [upd_ne (ne h)]; exact s.tr a h
end
section
variable {Φ : Nat → Spc} {X : Cx} {tg it0 e0 : Expr} {g : Tg} {it : I} {e : E} {pos : Pos}
/-- tests -/
def SdIfs (Φ : Nat → Spc) (X : Cx) (ifs : List Expr) (r : Es) : Prop := PTs X ifs (tT X.k (rdIfs Φ r))
theorem PTs.imp' {X : Cx} {e : List Expr} {t t' : TT} (h : PTs X e t) (w : ∀ σ H Q, t' σ H Q → t σ H Q) : PTs X e t' := ⟨fun pins s σ H Q I q => h.run pins s σ H Q I (w σ H Q q)⟩
theorem sdi_nil : SdIfs Φ X [] .nil := PTs.imp' pts_nil fun σ H Q' q => by
  obtain ⟨F, ρ, Q, g, h, k⟩ := q
  rw [rdIfs_nil] at h
  exact k true F H ρ g .refl h
theorem sdi_one {c0 : Expr} {c : E} (h : Sd Φ X c0 c) : SdIfs Φ X [c0] (.cons c .nil) := PTs.imp' (pts_one h.ts) fun σ H Q' q => by
  obtain ⟨F, ρ, Q, g, h, k⟩ := q
  rw [rdIfs_cons] at h
  refine ⟨F, ρ, _, g, h, fun b F' H' ρ' g' s' w => ?_⟩
  cases b with
  | true => exact k true F' H' ρ' g' s' w
  | false => exact k false F' H' ρ' g' s' w
theorem lc_imp {ifs : Es} {vs : List Nat} (hv : ∀ i ∈ g.vars, i ∈ vs) (ht : it.tup = true → g.isTup = true) {σ : L2.St} {H : Hp} {Q' : VK} (h : tE X.k (rd Φ (.lc g it ifs vs e)).e σ H Q') :
    tLc (tI X.k Φ it) (tG X.k g) (tT X.k (rdIfs Φ ifs)) (tE X.k (rd Φ e).e) vs σ H Q' := by
  obtain ⟨F, ρ, Q, gg, h, k⟩ := h
  rw [rd_lc, plainT_e] at h
  refine ⟨F, ρ, _, gg, h, fun J ls ds F1 H1 ρ1 g1 bk ig hw D hD => ?_⟩
  obtain ⟨gw, sw⟩ := g1.wipe vs
  have nF1 : ¬ F1 D := fun f => g1.tr D f hD
  have nO1 : ¬ Ow (L2.wipe σ vs) (wipeE ρ1 vs) D := fun o => gw.ntr o hD
  obtain ⟨_, s0⟩ := bk F1 H1 σ ρ1 g1 .refl
  have hD0 : H D = none := none_back s0.tr hD
  let Kc : List PyData → Env → Prop := fun acc ρ2 => Q true (.list acc) (unlock (restE ρ1 ρ2 vs) ls)
  let te : Env → (PyData → Env → Prop) → Prop := fun ρ' K => (rd Φ e).e ρ' fun _ d ρ'' => K d ρ''
  refine ⟨fun i m H' => m = ds.length - i ∧ i ≤ ds.length ∧ ∃ F' ρ' xs acc, Sg X.k F' H' (L2.wipe σ vs) ρ' ∧ Stp F1 H1 σ ρ1 F' H' (L2.wipe σ vs) ρ' ∧ ¬ F' D ∧ ¬ Ow (L2.wipe σ vs) ρ' D ∧ H' D = some (.lst xs) ∧ RpAll X.k F' H' xs acc ∧ xs.length ≤ i ∧ compW g (rdIfs Φ ifs) te vs (ds.drop i) acc ρ' Kc,
    ⟨ds.length, by simp, Nat.zero_le _, F1, wipeE ρ1 vs, [], [], (gw.updMine nF1 nO1).1, sw.updMine hD nF1, nF1, nO1, upd_same, .nil, Nat.le_refl _, hw⟩, ?_⟩
  rintro i m H2 ⟨rfl, hle, F2, ρ2, xs, acc, g2, s2, nF, nO, eD, rs, hl, w2⟩
  have hDn : H2 D ≠ none := by rw [eD]; simp
  by_cases hlt : i < ds.length
  · have hd : ds[i]? = some ds[i] := List.getElem?_eq_getElem hlt
    rw [List.drop_eq_getElem_cons hlt, compW] at w2
    obtain ⟨go, yl⟩ := ig.go i F2 H2 _ ρ2 g2 s2 _ hd
    refine .inr ⟨go, fun H' => ∃ F' ρ' xs acc, Sg X.k F' H' (L2.wipe σ vs) ρ' ∧ Stp F1 H1 σ ρ1 F' H' (L2.wipe σ vs) ρ' ∧ ¬ F' D ∧ ¬ Ow (L2.wipe σ vs) ρ' D ∧ H' D = some (.lst xs) ∧ RpAll X.k F' H' xs acc ∧ xs.length ≤ i + 1 ∧ compW g (rdIfs Φ ifs) te vs (ds.drop (i + 1)) acc ρ' Kc,
      fun H' n => ⟨ds.length - (i + 1), by omega, rfl, hlt, n⟩, fun x H3 y => ?_⟩
    obtain ⟨F3, l3, yr⟩ := yl x H3 y
    have g3 := l3.sg g2
    have s3 : Stp F2 H2 (L2.wipe σ vs) ρ2 F3 H3 (L2.wipe σ vs) ρ2 := l3.stp
    refine ⟨F2, H2, ρ2, L2.wipe σ vs, F3, ρ2, false, _, _, g3, s3, yr.imp (fun r => Vr.of r rfl) (fun z => ⟨ht z.1, z.2⟩), w2, fun σ4 ρ4 g4 s4 sm w4 => ?_⟩
    have ew : L2.wipe σ4 vs = L2.wipe σ vs := wipe_same (sm.mono hv)
    have fin : ∀ {F5 : Fz} {H5 : Hp} {ρ5 : Env} {xs5 : List V} {acc5 : List PyData}, Sg X.k F5 H5 σ4 ρ5 → Stp F1 H1 σ ρ1 F5 H5 σ4 ρ5 → ¬ F5 D → ¬ Ow σ4 ρ5 D → H5 D = some (.lst xs5) → RpAll X.k F5 H5 xs5 acc5 → xs5.length ≤ i + 1 → compW g (rdIfs Φ ifs) te vs (ds.drop (i + 1)) acc5 (wipeE ρ5 vs) Kc →
        ∃ F' ρ' xs acc, Sg X.k F' H5 (L2.wipe σ vs) ρ' ∧ Stp F1 H1 σ ρ1 F' H5 (L2.wipe σ vs) ρ' ∧ ¬ F' D ∧ ¬ Ow (L2.wipe σ vs) ρ' D ∧ H5 D = some (.lst xs) ∧ RpAll X.k F' H5 xs acc ∧ xs.length ≤ i + 1 ∧ compW g (rdIfs Φ ifs) te vs (ds.drop (i + 1)) acc ρ' Kc := fun {F5 H5 ρ5 xs5 acc5} g5 s5 nF5 nO5 e5 r5 l5 w5 => by
      obtain ⟨g6, s6⟩ := g5.wipe vs
      rw [ew] at g6 s6
      have m6 := s6.mine (by rw [e5]; simp) nF5 nO5
      exact ⟨F5, wipeE ρ5 vs, xs5, acc5, g6, s5.trans s6, nF5, m6.2.2, e5, r5, l5, w5⟩
    refine ⟨ew, F3, ρ4, _, g4, w4, fun t F5 H5 ρ5 g5 s5 w5 => ?_⟩
    have s45 := s4.trans s5
    obtain ⟨e5, nF5, nO5⟩ := s45.mine hDn nF nO
    have r5 : RpAll X.k F5 H5 xs acc := rs.gr (s45.gr g2)
    cases t with
    | false => exact fin g5 (s2.trans s45) nF5 nO5 (e5.trans eD) r5 (by omega) w5
    | true =>
      rw [if_pos rfl] at w5
      show (if true = true then _ else _)
      rw [if_pos rfl]
      refine ⟨F5, ρ5, _, g5, w5, fun fr v d F6 H6 ρ6 g6 s6 vr w6 => ?_⟩
      obtain ⟨F7, g7, s7, rp, _⟩ := vr.freeze g6 s6
      have s47 := s45.trans s7
      obtain ⟨e7, nF7, nO7⟩ := s47.mine hDn nF nO
      have r7 : RpAll X.k F7 H6 xs acc := rs.gr (s47.gr g2)
      refine ⟨xs, e7.trans eD, by have := ig.len; omega, ?_⟩
      obtain ⟨g8, gr8⟩ := g7.updMine (o := .lst (xs ++ [v])) nF7 nO7
      exact fin g8 ((s2.trans s47).updMine hD nF7) nF7 nO7 upd_same ((r7.append (.cons rp .nil)).gr gr8) (by rw [List.length_append, List.length_singleton]; omega) w6
  · have e : i = ds.length := by omega
    subst e
    rw [List.drop_length, compW] at w2
    obtain ⟨g3, s3, o3⟩ := g1.rest g2 s2
    obtain ⟨g4, s4⟩ := bk F2 H2 σ _ g3 s3
    refine .inl ⟨ig.stop _ F2 H2 _ ρ2 g2 s2 rfl, k true _ _ F2 H2 _ g4 s4 ?_ w2⟩
    exact ⟨D, rfl, nF, .lst eD rs, hD0, fun o => nO (o3 D (ow_unlock ls _ o))⟩
end
end Z

/-! soundness: comprehensions in place; dict comprehensions; pop, remove -/
namespace Z
open PySem PySem.Spec PyProof.Rows L2 C8
section
variable {Φ : Nat → Spc} {X : Cx} {tg it0 e0 a0 b0 : Expr} {g : Tg} {it : I} {e a b : E} {pos py spos : Pos} {scope : Scope} {own : List (Str × Nat)} {ifs0 : List Expr} {ifs : Es}
/-- what a block's parts must be -/
structure Blk (Φ : Nat → Spc) (X : Cx) (scope : Scope) (P : Cx → Prop) : Prop where
  all : ∀ (s : Shared) (H : Hp) (C : Addr) (cl : List (Str × Addr)) (fp : List Addr), P (X.blk s H scope (compEnvC scope cl C X.env) fp)
theorem sd_lc (hc : X.calm = true) (hN : X.N.Nodup) (hi : SdI Φ X tg it0 it) (ok : BlkOk X.N X.env.scope scope own) (hg : Blk Φ X scope fun Y => PG Y tg (tG X.k g)) (ht : Blk Φ X scope fun Y => SdIfs Φ Y ifs0 ifs) (he : Blk Φ X scope fun Y => Sd Φ Y e0 e)
    (hv : ∀ i ∈ g.vars, i ∈ own.map (·.2)) (htu : it.tup = true → g.isTup = true) (hs : ∀ x, foldedSetIterable it0 X.env x = pure x) : Sd Φ X (.ListComp e0 [⟨tg, it0, ifs0, 0⟩] scope pos) (.lc g it ifs (own.map (·.2)) e) :=
  Sd.plain (fun _ z => nomatch z) rd_lc ((pe_lc (tt := tT X.k (rdIfs Φ ifs)) (ifs := ifs0) hc hN hi ok hg.all (fun s H C cl fp => ht.all s H C cl fp) (fun s H C cl fp => (he.all s H C cl fp).ex) hs).imp fun σ H Q' q => lc_imp hv htu q) fun _ => rfl
theorem sdS_setLc {i : Nat} {y : Str} (hc : X.calm = true) (hN : X.N.Nodup) (hy : X.N[i]? = some y) (hyl : X.env.scope.names.lookup y = some .local) (hk : X.env.scope.kind = .function) (hl : (py.line == pos.line) = true) (ha : (scope.names.any fun (n, k) => n == y && (k == .local || k == .cell)) = false)
    (hi : SdI Φ X tg it0 it) (ok : BlkOk X.N X.env.scope scope own) (hg : Blk Φ X scope fun Y => PG Y tg (tG X.k g)) (ht : Blk Φ X scope fun Y => SdIfs Φ Y ifs0 ifs) (he : Blk Φ X scope fun Y => Sd Φ Y e0 e)
    (hv : ∀ i ∈ g.vars, i ∈ own.map (·.2)) (htu : it.tup = true → g.isTup = true) (hs : ∀ x, foldedSetIterable it0 X.env x = pure x) : SdS Φ X (.Assign [.Name y py] (.ListComp e0 [⟨tg, it0, ifs0, 0⟩] scope pos) spos) (.asg (.nm i) (.lc g it ifs (own.map (·.2)) e)) :=
  (ps_setLc (te := tE X.k (rd Φ e).e) (tt := tT X.k (rdIfs Φ ifs)) (ifs := ifs0) hc hN hy hyl (sw_true hk hyl hl ha) hi ok hg.all (fun s H C cl fp => ht.all s H C cl fp) (fun s H C cl fp => (he.all s H C cl fp).ex) hs).imp fun D σ H q => by
    obtain ⟨F, ρ, Kt, gg, h, d⟩ := q
    rw [rdS_asg] at h
    refine lc_imp (Q' := fun x H1 => gName i x σ H1 D.nx) hv htu ⟨F, ρ, _, gg, h, fun fr v x F' H' ρ' g' s' vr k => ?_⟩
    rw [asgT] at k
    obtain ⟨g2, s2⟩ := g'.store (i := i) s' vr
    exact d.nx _ F' H' _ g2 s2 k
/-! pop, remove -/
theorem sd_pop {i : Nat} {x : Str} {q1 apos : Pos} (hN : X.N[i]? = some x) (hv : Vis X.env.scope x) (hd : (x == ("__debug__" : Str)) = false) (hcd : (x == ("__classdict__" : Str)) = false) (hl : (apos.endLine == pos.line) = true) :
    Sd Φ X (.Call (.Attribute (.Name x q1) "pop" apos) [] [] pos) (.pop i) :=
  Sd.plain (fun _ z => nomatch z) rd_pop ((pe_bm0 PySem.F.plainAttrs_list PySem.F.slot_list_pop PySem.F.type_list_pop mt_pop (pe_var hN hv hd hcd) rfl hl).imp fun σ H Q' q => by
    obtain ⟨F, ρ, Q, g, h, k⟩ := q
    rw [rd_pop, plainT_e] at h
    obtain ⟨ds, e1, h⟩ := mustL_iff h
    obtain ⟨d, ed, h⟩ := must_iff.mp h
    obtain ⟨a, ea, nF, ob⟩ := g.ow e1
    cases ob with
    | @lst xs _ hq rq =>
      rw [← rq.length] at ed
      obtain ⟨v, hv, rv⟩ := rq.get' ed
      refine ⟨.ref a, ea, .inl ⟨rfl, xs, SqL.of hq⟩, a, xs, v, rfl, rfl, hq, hv, ?_⟩
      have gr : Gr F H F (upd H a (.lst xs.dropLast)) := ⟨fun _ f => f, fun b f => .inl (upd_ne fun (q : b = a) => nF (q ▸ f))⟩
      obtain ⟨g3, s3⟩ := g.updOw (ob := .lst xs.dropLast) (d' := .list ds.dropLast) e1 ea (.lst upd_same (rq.dropLast.gr gr))
      exact k false v d F _ _ g3 s3 (Vr.of (rv.gr gr) rfl) h) fun _ => rfl
end
section
variable {Φ : Nat → Spc} {X : Cx} {tg it0 e0 a0 b0 : Expr} {g : Tg} {it : I} {e a b : E} {pos py spos : Pos} {scope : Scope} {own : List (Str × Nat)} {ifs0 : List Expr} {ifs : Es}
theorem putK_D {K : Kx} {F : Fz} {H : Hp} {kvs : List (Key × V)} {es : List (PyData × PyData)} {v : V} {d : PyData} (k : Key) (h : KD K F H kvs es) (r : Rp K F H v d) : KD K F H (putK kvs k v) (putD es (keyV k) d) := h.put r
theorem isKey0_key {d : PyData} (h : isKey0 d = true) : ∃ k : Key, d = keyV k := by
  cases d with
  | int i => exact ⟨.inl i, rfl⟩
  | str x => exact ⟨.inr x, rfl⟩
  | _ => cases h
theorem dc_imp {vs : List Nat} (hv : ∀ i ∈ g.vars, i ∈ vs) (ht : it.tup = true → g.isTup = true) {σ : L2.St} {H : Hp} {Q' : VK} (h : tE X.k (rd Φ (.dc g it ifs vs a b)).e σ H Q') :
    tDc (tI X.k Φ it) (tG X.k g) (tT X.k (rdIfs Φ ifs)) (tE X.k (rd Φ a).e) (tE X.k (rd Φ b).e) vs σ H Q' := by
  obtain ⟨F, ρ, Q, gg, h, k⟩ := h
  rw [rd_dc, plainT_e] at h
  refine ⟨F, ρ, _, gg, h, fun J ls ds F1 H1 ρ1 g1 bk ig hw D hD => ?_⟩
  obtain ⟨gw, sw⟩ := g1.wipe vs
  have nF1 : ¬ F1 D := fun f => g1.tr D f hD
  have nO1 : ¬ Ow (L2.wipe σ vs) (wipeE ρ1 vs) D := fun o => gw.ntr o hD
  obtain ⟨_, s0⟩ := bk F1 H1 σ ρ1 g1 .refl
  have hD0 : H D = none := none_back s0.tr hD
  let Kc : List (PyData × PyData) → Env → Prop := fun acc ρ2 => Q true (.dict acc) (unlock (restE ρ1 ρ2 vs) ls)
  let te : Env → (PyData → PyData → Env → Prop) → Prop := fun ρ' K => (rd Φ a).e ρ' fun _ x ρ'' => (rd Φ b).e ρ'' fun _ y ρ3 => K x y ρ3
  refine ⟨fun i m H' => m = ds.length - i ∧ i ≤ ds.length ∧ ∃ F' ρ' xs acc, Sg X.k F' H' (L2.wipe σ vs) ρ' ∧ Stp F1 H1 σ ρ1 F' H' (L2.wipe σ vs) ρ' ∧ ¬ F' D ∧ ¬ Ow (L2.wipe σ vs) ρ' D ∧ H' D = some (.dK xs) ∧ KD X.k F' H' xs acc ∧ xs.length ≤ i ∧ dcompW g (rdIfs Φ ifs) te vs (ds.drop i) acc ρ' Kc,
    ⟨ds.length, by simp, Nat.zero_le _, F1, wipeE ρ1 vs, [], [], (gw.updMine nF1 nO1).1, sw.updMine hD nF1, nF1, nO1, upd_same, .nil, Nat.le_refl _, hw⟩, ?_⟩
  rintro i m H2 ⟨rfl, hle, F2, ρ2, xs, acc, g2, s2, nF, nO, eD, rs, hl, w2⟩
  have hDn : H2 D ≠ none := by rw [eD]; simp
  by_cases hlt : i < ds.length
  · have hd : ds[i]? = some ds[i] := List.getElem?_eq_getElem hlt
    rw [List.drop_eq_getElem_cons hlt, dcompW] at w2
    obtain ⟨go, yl⟩ := ig.go i F2 H2 _ ρ2 g2 s2 _ hd
    refine .inr ⟨go, fun H' => ∃ F' ρ' xs acc, Sg X.k F' H' (L2.wipe σ vs) ρ' ∧ Stp F1 H1 σ ρ1 F' H' (L2.wipe σ vs) ρ' ∧ ¬ F' D ∧ ¬ Ow (L2.wipe σ vs) ρ' D ∧ H' D = some (.dK xs) ∧ KD X.k F' H' xs acc ∧ xs.length ≤ i + 1 ∧ dcompW g (rdIfs Φ ifs) te vs (ds.drop (i + 1)) acc ρ' Kc,
      fun H' n => ⟨ds.length - (i + 1), by omega, rfl, hlt, n⟩, fun x H3 y => ?_⟩
    obtain ⟨F3, l3, yr⟩ := yl x H3 y
    have g3 := l3.sg g2
    have s3 : Stp F2 H2 (L2.wipe σ vs) ρ2 F3 H3 (L2.wipe σ vs) ρ2 := l3.stp
    refine ⟨F2, H2, ρ2, L2.wipe σ vs, F3, ρ2, false, _, _, g3, s3, yr.imp (fun r => Vr.of r rfl) (fun z => ⟨ht z.1, z.2⟩), w2, fun σ4 ρ4 g4 s4 sm w4 => ?_⟩
    have ew : L2.wipe σ4 vs = L2.wipe σ vs := wipe_same (sm.mono hv)
    have fin : ∀ {F5 : Fz} {H5 : Hp} {ρ5 : Env} {xs5 : List (Key × V)} {acc5 : List (PyData × PyData)}, Sg X.k F5 H5 σ4 ρ5 → Stp F1 H1 σ ρ1 F5 H5 σ4 ρ5 → ¬ F5 D → ¬ Ow σ4 ρ5 D → H5 D = some (.dK xs5) → KD X.k F5 H5 xs5 acc5 → xs5.length ≤ i + 1 → dcompW g (rdIfs Φ ifs) te vs (ds.drop (i + 1)) acc5 (wipeE ρ5 vs) Kc →
        ∃ F' ρ' xs acc, Sg X.k F' H5 (L2.wipe σ vs) ρ' ∧ Stp F1 H1 σ ρ1 F' H5 (L2.wipe σ vs) ρ' ∧ ¬ F' D ∧ ¬ Ow (L2.wipe σ vs) ρ' D ∧ H5 D = some (.dK xs) ∧ KD X.k F' H5 xs acc ∧ xs.length ≤ i + 1 ∧ dcompW g (rdIfs Φ ifs) te vs (ds.drop (i + 1)) acc ρ' Kc := fun {F5 H5 ρ5 xs5 acc5} g5 s5 nF5 nO5 e5 r5 l5 w5 => by
      obtain ⟨g6, s6⟩ := g5.wipe vs
      rw [ew] at g6 s6
      have m6 := s6.mine (by rw [e5]; simp) nF5 nO5
      exact ⟨F5, wipeE ρ5 vs, xs5, acc5, g6, s5.trans s6, nF5, m6.2.2, e5, r5, l5, w5⟩
    refine ⟨ew, F3, ρ4, _, g4, w4, fun t F5 H5 ρ5 g5 s5 w5 => ?_⟩
    have s45 := s4.trans s5
    obtain ⟨e5, nF5, nO5⟩ := s45.mine hDn nF nO
    have kgr : ∀ {F' : Fz} {H' : Hp}, Gr F2 H2 F' H' → KD X.k F' H' xs acc := fun g => ⟨rs.1, rs.2.gr g⟩
    cases t with
    | false => exact fin g5 (s2.trans s45) nF5 nO5 (e5.trans eD) (kgr (s45.gr g2)) (by omega) w5
    | true =>
      rw [if_pos rfl] at w5
      show (if true = true then _ else _)
      rw [if_pos rfl]
      refine ⟨F5, ρ5, _, g5, w5, fun fr v d F6 H6 ρ6 g6 s6 vr w6 => ?_⟩
      obtain ⟨F7, g7, s7, rp, _⟩ := vr.freeze g6 s6
      refine ⟨F7, ρ6, _, g7, w6, fun fr2 v2 d2 F8 H8 ρ8 g8 s8 vr2 w8 => ?_⟩
      obtain ⟨F9, g9, s9, rp2, _⟩ := vr2.freeze g8 s8
      obtain ⟨hk, w8⟩ := w8
      obtain ⟨kk, rfl⟩ := isKey0_key hk
      have ek := Rv.key (.inl rp)
      have s49 := (s45.trans s7).trans s9
      obtain ⟨e9, nF9, nO9⟩ := s49.mine hDn nF nO
      refine ⟨xs, kk, ek, e9.trans eD, by have := ig.len; omega, ?_⟩
      obtain ⟨g10, gr10⟩ := g9.updMine (o := .dK (putK xs kk v2)) nF9 nO9
      have kd := putK_D kk (kgr (s49.gr g2)) rp2
      exact fin g10 ((s2.trans s49).updMine hD nF9) nF9 nO9 upd_same ⟨kd.1, kd.2.gr gr10⟩ (by have := length_putK xs kk v2; omega) w8
  · have e : i = ds.length := by omega
    subst e
    rw [List.drop_length, dcompW] at w2
    obtain ⟨g3, s3, o3⟩ := g1.rest g2 s2
    obtain ⟨g4, s4⟩ := bk F2 H2 σ _ g3 s3
    refine .inl ⟨ig.stop _ F2 H2 _ ρ2 g2 s2 rfl, k true _ _ F2 H2 _ g4 s4 ?_ w2⟩
    exact ⟨D, rfl, nF, .dk eD rs.1 rs.2, hD0, fun o => nO (o3 D (ow_unlock ls _ o))⟩
theorem sd_dc (hc : X.calm = true) (hN : X.N.Nodup) (hi : SdI Φ X tg it0 it) (ok : BlkOk X.N X.env.scope scope own) (hg : Blk Φ X scope fun Y => PG Y tg (tG X.k g)) (ht : Blk Φ X scope fun Y => SdIfs Φ Y ifs0 ifs) (ha : Blk Φ X scope fun Y => Sd Φ Y a0 a) (hb : Blk Φ X scope fun Y => Sd Φ Y b0 b)
    (hv : ∀ i ∈ g.vars, i ∈ own.map (·.2)) (htu : it.tup = true → g.isTup = true) (hs : ∀ x, foldedSetIterable it0 X.env x = pure x) : Sd Φ X (.DictComp a0 b0 [⟨tg, it0, ifs0, 0⟩] scope pos) (.dc g it ifs (own.map (·.2)) a b) :=
  Sd.plain (fun _ z => nomatch z) rd_dc ((pe_dc (tt := tT X.k (rdIfs Φ ifs)) (ifs := ifs0) hc hN hi ok hg.all (fun s H C cl fp => ht.all s H C cl fp) (fun s H C cl fp => (ha.all s H C cl fp).ex) (fun s H C cl fp => (hb.all s H C cl fp).ex) hs).imp fun σ H Q' q => dc_imp hv htu q) fun _ => rfl
theorem sw_trueD {a0 b0 : Expr} {gs : List Comprehension} {scope : Scope} {pos py : Pos} {y : Str} {l : Nat} {env : PySem.Env} (hk : env.scope.kind = .function) (hy : env.scope.names.lookup y = some .local) (hl : (py.line == pos.line) = true)
    (ha : (scope.names.any fun (n, k) => n == y && (k == .local || k == .cell)) = false) : swapsWith (.DictComp a0 b0 gs scope pos) (some (.Name y py)) l env = pure true :=
  (sw_true (elt := a0) (gs := gs) (l := l) hk hy hl ha : swapsWith (.ListComp a0 gs scope pos) (some (.Name y py)) l env = pure true)
theorem ps_setDc {i : Nat} {y : Str} {wi : TI} {gg : TG} {tt : TT} {tk tv : TE} (hc : X.calm = true) (hN : X.N.Nodup) (hy : X.N[i]? = some y) (hyl : X.env.scope.names.lookup y = some .local)
    (hsw : swapsWith (.DictComp a0 b0 [⟨tg, it0, ifs0, 0⟩] scope pos) (some (.Name y py)) spos.line X.env = pure true) (hi : PI X tg it0 wi) (ok : BlkOk X.N X.env.scope scope own)
    (hg : ∀ (s : Shared) (H : Hp) (C : Addr) (cl : List (Str × Addr)) (fp : List Addr), PG (X.blk s H scope (compEnvC scope cl C X.env) fp) tg gg) (ht : ∀ (s : Shared) (H : Hp) (C : Addr) (cl : List (Str × Addr)) (fp : List Addr), PTs (X.blk s H scope (compEnvC scope cl C X.env) fp) ifs0 tt)
    (hk : ∀ (s : Shared) (H : Hp) (C : Addr) (cl : List (Str × Addr)) (fp : List Addr), PE (X.blk s H scope (compEnvC scope cl C X.env) fp) a0 tk)
    (he : ∀ (s : Shared) (H : Hp) (C : Addr) (cl : List (Str × Addr)) (fp : List Addr), PE (X.blk s H scope (compEnvC scope cl C X.env) fp) b0 tv) (hs : ∀ x, foldedSetIterable it0 X.env x = pure x) :
    PS X (.Assign [.Name y py] (.DictComp a0 b0 [⟨tg, it0, ifs0, 0⟩] scope pos) spos) (tAsg (tDc wi gg tt tk tv (own.map (·.2))) (gName i)) := by
  refine ⟨fun pins s σ H D I h => ?_⟩
  rw [exec_Assign_Name_used _ _ _ _ hsw]
  refine wpAny_bind (wpAny_standAt (wpAny_bind ?_))
  show wpAny _ X.A (do let _ ← comprehension (.DictComp a0 b0 [⟨tg, it0, ifs0, 0⟩] scope pos) scope X.env (firstIterPos [⟨tg, it0, ifs0, 0⟩] pos) newDict false (eval it0 X.env) (some (assign (.Name y py) X.env))) _ _ s
  have h : tDc wi gg tt tk tv (own.map (·.2)) σ H (fun x H1 => gName i x σ H1 D.nx) := h
  refine wpAny_bind (thn (dc_core (Qf := fun _ s' => SP X pins D .next s') hc hN I hi ok hg ht hk he hs h fun L C s' m H' I' q hn f => ?_) fun _ s' hq => wpAny_pure (wpAny_pure hq))
  show wpAny _ _ (assign (.Name y py) X.env (.ref L)) _ _ _
  refine wpAny_assign_Name (store_ok2 (v := V.ref L) I' hN hy (.inl hyl) rfl (fun s2 I2 ⟨a, sb, ha⟩ => ?_) (.inr hyl))
  obtain ⟨f0, f1, f2, f3, f4, f5⟩ := f
  have haC : C ≠ a := by
    rcases ha with z | z
    · rw [z]; exact f1
    · exact fun e => f4 y a z e.symm
  refine ⟨m, hn.sameBut sb haC, fun h3 sb3 => ?_⟩
  exact ⟨_, H', I2.turned (t' := s2.toks) (fun b o hb e => (sb3.2 b hb).trans e) f0 f1 f3 f4 f5, q⟩
theorem sdS_setDc {i : Nat} {y : Str} (hc : X.calm = true) (hN : X.N.Nodup) (hy : X.N[i]? = some y) (hyl : X.env.scope.names.lookup y = some .local) (hk : X.env.scope.kind = .function) (hl : (py.line == pos.line) = true) (hsc : (scope.names.any fun (n, k) => n == y && (k == .local || k == .cell)) = false)
    (hi : SdI Φ X tg it0 it) (ok : BlkOk X.N X.env.scope scope own) (hg : Blk Φ X scope fun Y => PG Y tg (tG X.k g)) (ht : Blk Φ X scope fun Y => SdIfs Φ Y ifs0 ifs) (ha : Blk Φ X scope fun Y => Sd Φ Y a0 a) (hb : Blk Φ X scope fun Y => Sd Φ Y b0 b)
    (hv : ∀ i ∈ g.vars, i ∈ own.map (·.2)) (htu : it.tup = true → g.isTup = true) (hs : ∀ x, foldedSetIterable it0 X.env x = pure x) : SdS Φ X (.Assign [.Name y py] (.DictComp a0 b0 [⟨tg, it0, ifs0, 0⟩] scope pos) spos) (.asg (.nm i) (.dc g it ifs (own.map (·.2)) a b)) :=
  (ps_setDc (tk := tE X.k (rd Φ a).e) (tv := tE X.k (rd Φ b).e) (tt := tT X.k (rdIfs Φ ifs)) hc hN hy hyl (sw_trueD hk hyl hl hsc) hi ok hg.all (fun s H C cl fp => ht.all s H C cl fp) (fun s H C cl fp => (ha.all s H C cl fp).ex) (fun s H C cl fp => (hb.all s H C cl fp).ex) hs).imp fun D σ H q => by
    obtain ⟨F, ρ, Kt, gg, h, d⟩ := q
    rw [rdS_asg] at h
    refine dc_imp (Q' := fun x H1 => gName i x σ H1 D.nx) hv htu ⟨F, ρ, _, gg, h, fun fr v x F' H' ρ' g' s' vr k => ?_⟩
    rw [asgT] at k
    obtain ⟨g2, s2⟩ := g'.store (i := i) s' vr
    exact d.nx _ F' H' _ g2 s2 k
end
end Z

/-! soundness: several names at once -/
namespace Z
open PySem PySem.Spec PyProof.Rows L2 C8
section
variable {K : Kx} {F F1 F2 F' F0 : Fz} {H H1 H2 H' H0 : Hp} {σ σ1 σ2 σ' σ0 : L2.St} {ρ ρ1 ρ2 ρ' ρ0 : Env}
theorem Vr.mv {fr : Bool} {v : V} {d : PyData} (h : Vr K H0 F H σ ρ fr v d) (g : Sg K F H σ ρ) (s : Stp F H σ ρ F' H' σ ρ') : Vr K H0 F' H' σ ρ' fr v d := by
  unfold Vr at h ⊢
  split
  · rename_i c
    rw [if_pos c] at h
    obtain ⟨a, e, n, o, z, w⟩ := h
    obtain ⟨m1, m2, m3⟩ := s.mine o.tr n w
    exact ⟨a, e, m2, o.gr (s.gr g) m1, z, m3⟩
  · rename_i c
    rw [if_neg c] at h
    exact h.gr (s.gr g)
def VsR (K : Kx) (H0 : Hp) (F : Fz) (H : Hp) (σ : L2.St) (ρ : Env) : List V → List (Bool × PyData) → Prop
  | [], [] => True
  | v :: vs, (fr, d) :: ds => Vr K H0 F H σ ρ fr v d ∧ ((fr && isMut d) = true → v ∉ vs) ∧ VsR K H0 F H σ ρ vs ds
  | _, _ => False
theorem VsR.back {Ha Hb : Hp} (t : ∀ a, Ha a ≠ none → Hb a ≠ none) : ∀ {vs : List V} {ds : List (Bool × PyData)}, VsR K Hb F H σ ρ vs ds → VsR K Ha F H σ ρ vs ds
  | [], [], _ => trivial
  | v :: vs, (fr, d) :: ds, h => ⟨h.1.back t, h.2.1, VsR.back t h.2.2⟩
  | [], _ :: _, h => h.elim
  | _ :: _, [], h => h.elim
theorem VsR.length : ∀ {vs : List V} {ds : List (Bool × PyData)}, VsR K H0 F H σ ρ vs ds → vs.length = ds.length
  | [], [], _ => rfl
  | v :: vs, (fr, d) :: ds, h => by rw [List.length_cons, List.length_cons, VsR.length h.2.2]
  | [], _ :: _, h => h.elim
  | _ :: _, [], h => h.elim
theorem VsR.not_mem {a : Addr} (nF : ¬ F a) (t : H0 a ≠ none) : ∀ {vs : List V} {ds : List (Bool × PyData)}, VsR K H0 F H σ ρ vs ds → V.ref a ∉ vs
  | [], [], _ => by simp
  | v :: vs, (fr, d) :: ds, h => by
    obtain ⟨h1, _, h2⟩ := h
    refine fun m => ?_
    rcases List.mem_cons.mp m with e | m
    · subst e
      unfold Vr at h1
      split at h1
      · obtain ⟨b, e, n, o, z, w⟩ := h1
        cases e
        exact t z
      · have : F a := by cases h1 <;> assumption
        exact nF this
    · exact VsR.not_mem nF t h2 m
  | [], _ :: _, h => h.elim
  | _ :: _, [], h => h.elim
def setAllV (σ : L2.St) : List Nat → List V → L2.St
  | i :: is, v :: vs => setAllV (σ.set i (some v)) is vs
  | _, _ => σ
theorem Sg.storeAll : ∀ (is : List Nat) {vs : List V} {ds : List (Bool × PyData)} {σ : L2.St} {ρ : Env}, Sg K F H σ ρ → Stp F0 H0 σ0 ρ0 F H σ ρ → VsR K H0 F H σ ρ vs ds →
    Sg K F H (setAllV σ is vs) (setAll ρ is ds) ∧ Stp F0 H0 σ0 ρ0 F H (setAllV σ is vs) (setAll ρ is ds)
  | [], vs, ds, σ, ρ, g, s, h => by rw [setAllV, setAll] <;> first | exact ⟨g, s⟩ | simp
  | i :: is, [], [], σ, ρ, g, s, h => by rw [setAllV, setAll] <;> first | exact ⟨g, s⟩ | simp
  | i :: is, [], _ :: _, σ, ρ, g, s, h => h.elim
  | i :: is, _ :: _, [], σ, ρ, g, s, h => h.elim
  | i :: is, v :: vs, (fr, d) :: ds, σ, ρ, g, s, h => by
    obtain ⟨h1, h2, h3⟩ := h
    obtain ⟨g', s'⟩ := g.store (i := i) s h1
    rw [setAllV, setAll]
    refine Sg.storeAll is g' s' ?_
    have key : ∀ {ws : List V} {es : List (Bool × PyData)}, ((fr && isMut d) = true → v ∉ ws) → VsR K H0 F H σ ρ ws es → VsR K H0 F H (σ.set i (some v)) (ρ.set i (if (fr && isMut d) = true then .ow d else .sh d)) ws es := by
      intro ws
      induction ws with
      | nil =>
        intro es _ q
        cases es with
        | nil => trivial
        | cons _ _ => exact q.elim
      | cons w ws ih =>
        intro es nm q
        cases es with
        | nil => exact q.elim
        | cons fe es =>
          obtain ⟨fr', d'⟩ := fe
          obtain ⟨q1, q2, q3⟩ := q
          refine ⟨?_, q2, ih (fun c m => nm c (List.mem_cons_of_mem _ m)) q3⟩
          unfold Vr at q1 ⊢
          split
          · rename_i c
            rw [if_pos c] at q1
            obtain ⟨a, e, n, o, z, nw⟩ := q1
            refine ⟨a, e, n, o, z, fun ⟨j, sl, k1, k2, k3⟩ => ?_⟩
            rcases get_set_cases k1 with ⟨rfl, rfl⟩ | ⟨ne, k1'⟩
            · by_cases c2 : (fr && isMut d) = true
              · have hj : j < σ.length := by
                  have := (List.getElem?_eq_some_iff.mp k1).1
                  rw [List.length_set] at this
                  rw [← g.len]; exact this
                rw [List.getElem?_set_self hj] at k3
                cases k3
                exact nm c2 (by rw [e]; exact List.mem_cons_self)
              · rw [if_neg c2] at k2; cases k2
            · rw [List.getElem?_set_ne (Ne.symm ne)] at k3
              exact nw ⟨j, sl, k1', k2, k3⟩
          · rename_i c
            rw [if_neg c] at q1
            exact q1
    exact key h2 h3
end
def tFs (K : Kx) (Φ : Nat → Spc) (r : Es) : TA := fun σ H Q' => ∃ (F : Fz) (ρ : Env) (Q : List (Bool × PyData) → Env → Prop), Sg K F H σ ρ ∧ rdFs Φ r ρ Q ∧
  ∀ vs ds F' H' ρ', Sg K F' H' σ ρ' → Stp F H σ ρ F' H' σ ρ' → VsR K H F' H' σ ρ' vs ds → vs.length = r.len → Q ds ρ' → Q' vs H'
def SdFs (Φ : Nat → Spc) (X : Cx) (es : List Expr) (r : Es) : Prop := PA X es (tFs X.k Φ r)
section
variable {Φ : Nat → Spc} {X : Cx} {a0 : Expr} {a : E} {es : List Expr} {r : Es} {pos pt pt2 : Pos}
theorem sdf_nil : SdFs Φ X [] .nil := pa_nil.imp fun σ H Q' q => by
  obtain ⟨F, ρ, Q, g, h, k⟩ := q
  rw [rdFs_nil] at h
  exact k [] [] F H ρ g Stp.refl trivial rfl h
theorem sdf_cons (ha : Sd Φ X a0 a) (hr : SdFs Φ X es r) (n : notStar a0 = true) : SdFs Φ X (a0 :: es) (.cons a r) := by
  refine (pa_cons ha.ex hr (star_cons n)).imp fun σ H Q' q => ?_
  obtain ⟨F, ρ, Q, g, h, k⟩ := q
  rw [rdFs_cons] at h
  refine ⟨F, ρ, _, g, h, fun fr v d F1 H1 ρ1 g1 s1 vr h1 => ?_⟩
  refine ⟨F1, ρ1, _, g1, h1, fun vs ds F2 H2 ρ2 g2 s2 rs hl h2 => ?_⟩
  refine k (v :: vs) ((fr, d) :: ds) F2 H2 ρ2 g2 (s1.trans s2) ⟨vr.mv g1 s2, fun c => ?_, rs.back s1.tr⟩ (by rw [List.length_cons, hl]; rfl) h2
  have vr' := vr
  unfold Vr at vr'
  rw [if_pos c] at vr'
  obtain ⟨b, e, n, o, z, w⟩ := vr'
  rw [e]
  exact rs.not_mem (s2.mine o.tr n w).2.1 o.tr
/-! the targets -/
def tNames (is : List Nat) : TGs := fun vs σ H Q => vs.length = is.length ∧ Q (setAllV σ is vs) H
theorem pgs_names (hN : X.N.Nodup) : ∀ (ts : List Expr) (is : List Nat), (∀ (k : Nat) (t : Expr), ts[k]? = some t → ∃ x p i, t = .Name x p ∧ is[k]? = some i ∧ X.N[i]? = some x ∧ Loc X.env.scope x ∧ (X.fn x = true ∨ X.env.scope.names.lookup x = some .local)) → ts.length = is.length → PGs X ts (tNames is)
  | [], [], _, _ => pgs_nil.imp' fun vs σ H Q q => by
    obtain ⟨h1, h2⟩ := q
    cases vs with
    | nil => exact ⟨rfl, h2⟩
    | cons v vs => cases h1
  | t :: ts, i :: is, h, hl => by
    obtain ⟨x, p, i', rfl, e, h1, h2, h3⟩ := h 0 t rfl
    cases e
    refine (pgs_cons (pg_name (pos := p) hN h1 h2 h3) (pgs_names hN ts is (fun k t' e => h (k + 1) t' e) (by simpa using hl)) rfl).imp' fun vs σ H Q q => ?_
    obtain ⟨q1, q2⟩ := q
    cases vs with
    | nil => cases q1
    | cons v vs =>
      refine ⟨v, vs, rfl, by simpa using q1, ?_⟩
      rw [setAllV] at q2
      exact q2
  | [], _ :: _, _, hl => by cases hl
  | _ :: _, [], _, hl => by cases hl
def swapNames (sc : Scope) (ts : List Expr) : List Str :=
  ts.filterMap fun
    | .Name id pos => if (sc.names.lookup id == some .local && pos.line == (ts.head?.map (·.pos.line)).getD 0) = true then some id else none
    | _ => none
theorem swap_eq {env : PySem.Env} {ts vs : List Expr} {k k2 pt pt2} : swappedStores [.Tuple ts k pt] (.Tuple vs k2 pt2) env =
   (if (!(ts.length == 2 || ts.length == 3) || vs.length != ts.length || env.blockKind != .function) = true then pure none
    else if (vs.any fun | .Starred .. => true | _ => false) = true then pure none
    else if ((swapNames env.scope ts).length != ts.length || (swapNames env.scope ts).eraseDups.length != (swapNames env.scope ts).length) = true then pure none
    else if vs.all (foldedForSure 8) = true then pure none
    else if vs.all (constantsAlone 8) = true then unsupported "assign.tuple-of-constant-expressions:order-of-the-stores" else pure (some (swapNames env.scope ts))) := by
  unfold swappedStores swapNames
  rfl
def swapAns (sc : Scope) (ts vs : List Expr) : Option (Option (List Str)) :=
  if (!(ts.length == 2 || ts.length == 3) || vs.length != ts.length || ScopeKind.function != .function) = true then some none
  else if (vs.any fun | .Starred .. => true | _ => false) = true then some none
  else if ((swapNames sc ts).length != ts.length || (swapNames sc ts).eraseDups.length != (swapNames sc ts).length) = true then some none
  else if vs.all (foldedForSure 8) = true then some none
  else if vs.all (constantsAlone 8) = true then none else some (some (swapNames sc ts))
theorem swap_ok {env : PySem.Env} {ts vs : List Expr} {k k2} {r : Option (List Str)} (hk : env.scope.kind = .function) (h : swapAns env.scope ts vs = some r) : swappedStores [.Tuple ts k pt] (.Tuple vs k2 pt2) env = pure r := by
  have hb : env.blockKind = .function := by unfold Env.blockKind; rw [hk]; rfl
  rw [swap_eq, hb]
  unfold swapAns at h
  split at h
  · rename_i c; rw [if_pos c]; cases h; rfl
  rename_i c1; rw [if_neg c1]
  split at h
  · rename_i c; rw [if_pos c]; cases h; rfl
  rename_i c2; rw [if_neg c2]
  split at h
  · rename_i c; rw [if_pos c]; cases h; rfl
  rename_i c3; rw [if_neg c3]
  split at h
  · rename_i c; rw [if_pos c]; cases h; rfl
  rename_i c4; rw [if_neg c4]
  split at h
  · cases h
  rename_i c5; rw [if_neg c5]
  cases h; rfl
theorem sdS_par0 {ts : List Expr} {is : List Nat} {k k2} (hc : X.calm = true) (hN : X.N.Nodup) (ht : ∀ (k : Nat) (t : Expr), ts[k]? = some t → ∃ x p i, t = .Name x p ∧ is[k]? = some i ∧ X.N[i]? = some x ∧ Loc X.env.scope x ∧ (X.fn x = true ∨ X.env.scope.names.lookup x = some .local)) (hl : ts.length = is.length) (hst : ts.all notStar = true)
    (he : SdFs Φ X es r) (hz : r.len ≤ 1000) (hw : swappedStores [.Tuple ts k pt] (.Tuple es k2 pt2) X.env = pure none) : SdS Φ X (.Assign [.Tuple ts k pt] (.Tuple es k2 pt2) pos) (.par is r) :=
  (ps_asg (pe_tup he) (pg_tup hc (pgs_names hN ts is ht hl) rfl (asn_len hst).2) rfl hw rfl).imp fun D σ H q => by
    obtain ⟨F, ρ, Kt, g, h, d⟩ := q
    rw [rdS_par] at h
    refine ⟨F, ρ, _, g, h, fun vs ds F' H' ρ' g' s' vr hl' k' => ⟨by rw [hl']; exact small_size hz, fun p hp => ?_⟩⟩
    obtain ⟨e1, k'⟩ := k'
    have l : Lay F' H' F' (upd H' p (.tup vs)) := lay_new g'.tr hp
    refine ⟨p, vs, rfl, SqT.of upd_same, by rw [(asn_len hst).1, hl, vr.length, e1], by rw [vr.length, e1], ?_⟩
    have vr' : VsR X.k H F' (upd H' p (.tup vs)) σ ρ' vs ds := by
      have key : ∀ {ws : List V} {es : List (Bool × PyData)}, VsR X.k H F' H' σ ρ' ws es → VsR X.k H F' (upd H' p (.tup vs)) σ ρ' ws es := by
        intro ws
        induction ws with
        | nil =>
          intro es q
          cases es with
          | nil => trivial
          | cons _ _ => exact q.elim
        | cons w ws ih =>
          intro es q
          cases es with
          | nil => exact q.elim
          | cons fe es => exact ⟨q.1.mv g' l.stp, q.2.1, ih q.2.2⟩
      exact key vr
    obtain ⟨g2, s2⟩ := (l.sg g').storeAll is (s'.trans l.stp) vr'
    exact d.nx _ F' _ _ g2 s2 k'
theorem sdS_par2 {i j : Nat} {x y : Str} {px py : Pos} {e1 e2 : Expr} {k k2} (hc : X.calm = true) (hN : X.N.Nodup) (hi : X.N[i]? = some x) (hj : X.N[j]? = some y) (hij : i ≠ j) (hx : X.env.scope.names.lookup x = some .local) (hy : X.env.scope.names.lookup y = some .local)
    (he : SdFs Φ X [e1, e2] r) (hw : swappedStores [.Tuple [.Name x px, .Name y py] k pt] (.Tuple [e1, e2] k2 pt2) X.env = pure (some [x, y])) : SdS Φ X (.Assign [.Tuple [.Name x px, .Name y py] k pt] (.Tuple [e1, e2] k2 pt2) pos) (.par [i, j] r) :=
  (ps_par hc hN hi hj hij hx hy he hw rfl).imp fun D σ H q => by
    obtain ⟨F, ρ, Kt, g, h, d⟩ := q
    rw [rdS_par] at h
    refine ⟨F, ρ, _, g, h, fun vs ds F' H' ρ' g' s' vr hl' k' => ?_⟩
    obtain ⟨e1, k'⟩ := k'
    have hl := vr.length
    rw [e1] at hl
    obtain ⟨v, w, rfl⟩ : ∃ v w, vs = [v, w] := by
      match vs, hl with
      | [v, w], _ => exact ⟨v, w, rfl⟩
    obtain ⟨g2, s2⟩ := g'.storeAll [i, j] s' vr
    exact ⟨v, w, rfl, d.nx _ F' _ _ g2 s2 k'⟩
theorem sdS_par3 {i j l : Nat} {x y z : Str} {px py pz : Pos} {e1 e2 e3 : Expr} {k k2} (hc : X.calm = true) (hN : X.N.Nodup) (hi : X.N[i]? = some x) (hj : X.N[j]? = some y) (hll : X.N[l]? = some z) (hij : i ≠ j) (hil : i ≠ l) (hjl : j ≠ l) (hx : X.env.scope.names.lookup x = some .local) (hy : X.env.scope.names.lookup y = some .local) (hz : X.env.scope.names.lookup z = some .local)
    (he : SdFs Φ X [e1, e2, e3] r) (hw : swappedStores [.Tuple [.Name x px, .Name y py, .Name z pz] k pt] (.Tuple [e1, e2, e3] k2 pt2) X.env = pure (some [x, y, z])) : SdS Φ X (.Assign [.Tuple [.Name x px, .Name y py, .Name z pz] k pt] (.Tuple [e1, e2, e3] k2 pt2) pos) (.par [i, j, l] r) :=
  (ps_par3 hc hN hi hj hll hij hil hjl hx hy hz he hw rfl).imp fun D σ H q => by
    obtain ⟨F, ρ, Kt, g, h, d⟩ := q
    rw [rdS_par] at h
    refine ⟨F, ρ, _, g, h, fun vs ds F' H' ρ' g' s' vr hl' k' => ?_⟩
    obtain ⟨e1, k'⟩ := k'
    have hl := vr.length
    rw [e1] at hl
    obtain ⟨v, w, u, rfl⟩ : ∃ v w u, vs = [v, w, u] := by
      match vs, hl with
      | [v, w, u], _ => exact ⟨v, w, u, rfl⟩
    obtain ⟨g2, s2⟩ := g'.storeAll [i, j, l] s' vr
    exact ⟨v, w, u, rfl, d.nx _ F' _ _ g2 s2 k'⟩
end
end Z

/-! soundness: enumerate, zip -/
namespace PySem
open Sem (wp)
set_option maxHeartbeats 1000000 in
theorem meets_enumerate_newZ {v : Value} {o : Obj} {H : Heap → Prop} (B : Begins v o H) :
    Meets (Builtin.«enumerate.__new__» ⟨[.type "enumerate", v], []⟩) (fun _ R s => H s.heap ∧
      R (.ok (.ret (.ref (s.heap.push o).objs.size))) { s with heap := (s.heap.push o).push { cls := .type "enumerate", data := .fields #[.none, .bool false, .ref s.heap.objs.size, rawInt 0, .none, .none] } }) :=
  .of_wp fun prog w A R s h => by
    obtain ⟨hp, g, d, tk, os⟩ := s; obtain ⟨h1, h⟩ := h
    have hsub := sub_enumerate
    have q1 : ∀ {A' : Around} {E : Value → Shared → Prop} {Q : Value → Shared → Prop}, Q (.ref hp.objs.size) ⟨hp.push o, g, d, tk, os⟩ → wpAny (model prog w) A' (pyIter v) Q E ⟨hp, g, d, tk, os⟩ :=
      fun q => B.iter prog w _ _ ⟨hp, g, d, tk, os⟩ _ h1 q
    wp_walk using q1
    refine wpAny_stack_any fun st => wpAny_pure ?_
    split
    · rename_i c _ _ _ _ _
      cases (c == Value.type "enumerate")
      · wp_walk using q1
        exact ⟨_, rfl, h⟩
      · wp_walk using q1
        exact ⟨_, rfl, h⟩
    · wp_walk using q1
      exact ⟨_, rfl, h⟩
section
variable {prog : Program} {w : World} {A : Around} {E : Value → Shared → Prop} {s : Shared}
/-- enumerate(v): its two new cells -/
theorem enum_beginsZ {v : Value} {o : Obj} {H : Heap → Prop} {Q : Value → Shared → Prop} (B : Begins v o H) (h1 : H s.heap)
    (h : ∀ h', IsEnum h' (s.heap.objs.size + 1) s.heap.objs.size 0 .none → h'.get? s.heap.objs.size = some o → h'.objs.size = s.heap.objs.size + 2 →
      (∀ b o, s.heap.get? b = some o → h'.get? b = some o) → Q (.ref (s.heap.objs.size + 1)) { s with heap := h' }) :
    wpAny (model prog w) A (call (.type "enumerate") [v]) Q E s := by
  refine callType_new F.called_enumerate (by decide) (F.typeCall_enumerate_1 _) (F.newCall_enumerate_1 _) (fun obj => F.args_object_init_2 obj _) F.entry_enumerate_new
    (meets_enumerate_newZ B) ⟨h1, ?_⟩
  have hz : (s.heap.push o).objs.size = s.heap.objs.size + 1 := Heap.size_push ..
  show _ ∧ _
  rw [hz]
  have he : IsEnum ((s.heap.push o).push { cls := .type "enumerate", data := .fields #[.none, .bool false, .ref s.heap.objs.size, rawInt 0, .none, .none] }) (s.heap.objs.size + 1) s.heap.objs.size 0 .none := by
    have := Heap.get?_push_size (s.heap.push o) (o := { cls := .type "enumerate", data := .fields #[.none, .bool false, .ref s.heap.objs.size, rawInt 0, .none, .none] }) rfl
    rw [hz] at this; exact this
  refine ⟨⟨_, he, rfl⟩, h _ he (Heap.get?_push_of_some _ (Heap.get?_push_size _ B.free)) (by rw [Heap.size_push, hz]) fun b o x => Heap.get?_push_of_some _ (Heap.get?_push_of_some _ x)⟩
end
end PySem
namespace Z
open PySem PySem.Spec PyProof.Rows L2 C8
/-! a list or a tuple -/
def seqV (k : Bool) (K : PySem.W.Frag) (H : Hp) (a : Addr) (xs : List V) : Prop := if k = true then SqL K H a xs else SqT K H a xs
def seqIt (k : Bool) (h : Heap) (it a : Addr) (i : Nat) : Prop := if k = true then h.IsListIter it a i else h.IsTupleIter it a i
def seqIs (k : Bool) (h : Heap) (a : Addr) (items : Array Value) : Prop := if k = true then h.IsList a items else h.IsTuple a items
def seqO (k : Bool) (a : Addr) : Obj := if k = true then { cls := .type "list_iterator", data := .fields #[.ref a, .int 0 0] } else { cls := .type "tuple_iterator", data := .fields #[.ref a, .int 0 0] }
theorem seq_dr {prog : Program} {w : World} {A : Around} (hh : A.handled = none) (k : Bool) (it l : Addr) (hne : l ≠ it) (items : Array Value) : Draws prog w A it [it, l] items.size (fun i v => items[i]? = some v) (fun i h => seqIt k h it l i ∧ seqIs k h l items) := by
  cases k with
  | true => exact Draws.list hh it l hne items
  | false => exact Draws.tuple hh it l hne items
theorem seq_bg (k : Bool) (l : Addr) (items : Array Value) : Begins (.ref l) (seqO k l) fun h => seqIs k h l items := by
  cases k with
  | true => exact begins_list l items
  | false => exact begins_tuple l items
theorem seq_it0 {k : Bool} {h : Heap} {it l : Addr} (e : h.get? it = some (seqO k l)) : seqIt k h it l 0 := by
  cases k with
  | true => exact ⟨_, e, rfl, rfl⟩
  | false => exact ⟨_, e, rfl, rfl⟩
theorem seqIt.at {k : Bool} {h h' : Heap} {it l : Addr} {i : Nat} (x : seqIt k h it l i) (e : ∀ o, h.get? it = some o → h'.get? it = some o) : seqIt k h' it l i := by
  cases k with
  | true => exact Heap.IsListIter.at x e
  | false => exact Heap.IsTupleIter.at x e
theorem seqIt.obj {k : Bool} {h : Heap} {it l : Addr} {i : Nat} (x : seqIt k h it l i) : ∃ o, h.get? it = some o ∧ ∀ v, o.data ≠ .cell v := by
  cases k with
  | true => obtain ⟨o, e, _, d⟩ := (x : h.IsListIter it l i); exact ⟨o, e, fun v q => by rw [d] at q; cases q⟩
  | false => obtain ⟨o, e, _, d⟩ := (x : h.IsTupleIter it l i); exact ⟨o, e, fun v q => by rw [d] at q; cases q⟩
theorem seqV.is {X : Cx} {pins : List (Addr × Obj)} {σ : L2.St} {H : Hp} {s : Shared} {k : Bool} {a : Addr} {xs : List V} (I : Inv X pins σ H s) (h : seqV k X.K H a xs) : ∃ its : List Value, Vals xs its ∧ seqIs k s.heap a its.toArray ∧ a < s.heap.objs.size := by
  cases k with
  | true =>
    obtain ⟨its, rv, p, _⟩ := I.list h
    exact ⟨its, rv, p.isList, p.lt⟩
  | false =>
    obtain ⟨its, rv, p, _⟩ := I.tuple h
    obtain ⟨o, ho, _⟩ := id p
    exact ⟨its, rv, p, Heap.lt_size ho⟩
theorem seqV.inj {X : Cx} {pins : List (Addr × Obj)} {σ : L2.St} {H : Hp} {s : Shared} {k : Bool} {a : Addr} {xs ys : List V} (I : Inv X pins σ H s) (h : seqV k X.K H a xs) (h' : seqV k X.K H a ys) : xs = ys := by
  cases k with
  | true => exact I.list_inj h h'
  | false => exact I.tuple_inj h h'
/-! rows that are handed out as new tuples -/
def ItP (P : Hp → List (List V) → Prop) : It :=
  ⟨fun i H => ∃ rows xs, P H rows ∧ rows[i]? = some xs, fun i H v H' => ∃ T xs, v = .ref T ∧ H T = none ∧ H' = upd H T (.tup xs) ∧ ∀ rows, P H rows → rows[i]? = some xs, fun i H => ∃ rows, P H rows ∧ rows.length = i⟩
theorem turn_rows {Pg : Program} {w : World} {K : PySem.W.Frag} {elts : List Expr} {kk : Nat} {tpos : Pos} {P : Hp → List (List V) → Prop} {I : Addr} {fp wr : List Addr} {tn : Nat → Heap → Prop} (mem : I ∈ fp)
    (obj : ∀ i h, tn i h → ∀ b ∈ fp, ∃ o, h.get? b = some o ∧ ∀ v, o.data ≠ .cell v) (keep : ∀ i h h', tn i h → (∀ b ∈ fp, ∀ o, h.get? b = some o → h'.get? b = some o) → tn i h') (hwr : ∀ b ∈ wr, b ∈ fp)
    (self : ∀ (A : Around) (i : Nat) (s : Shared) (Q : Value → Shared → Prop) (E : Value → Shared → Prop), tn i s.heap → Q (.ref I) s → wpAny (model Pg w) A (pyIter (.ref I)) Q E s)
    (W : ∀ (X : Cx), X.prog = Pg → X.w = w → X.K = K → X.calm = true → ∀ (i : Nat) (pins : List (Addr × Obj)) (s : Shared) (σ : L2.St) (H : Hp) (rows : List (List V)), Inv X pins σ H s → tn i s.heap → P H rows → i ≤ rows.length →
      ∃ (fp' : List Addr) (Pt : Nat → Array Value → Prop) (St : Nat → Heap → Prop) (Mid : Nat → Addr → Heap → Prop), WalksT Pg w X.A I fp' wr rows.length Pt St Mid ∧ St i s.heap ∧ (∀ h', St (i + 1) h' → tn (i + 1) h') ∧ (∀ vals xs, rows[i]? = some xs → Pt i vals → Vals xs vals.toList ∧ xs.length ≤ 3) ∧ ∀ rows', P H rows' → rows' = rows) :
    Turn Pg w K (.Tuple elts kk tpos) (ItP P) fp I tn where
  mem := mem
  obj := obj
  keep := keep
  item := by
    intro X hP hw hK hc i pins s σ H E In hf st hg
    obtain ⟨rows, xs, hp, hx⟩ := hg
    obtain ⟨fp', Pt, St, Mid, Wt, st0, nx, vl, un⟩ := W X hP hw hK hc i pins s σ H rows In st hp (Nat.le_of_lt (List.getElem?_eq_some_iff.mp hx).1)
    refine Wt.item i s _ _ (List.getElem?_eq_some_iff.mp hx).1 st0 fun T vals h' tk pt hT isT mid kp => ?_
    refine ⟨_, rfl, Wt.go elts kk tpos i T _ _ _ mid fun h'' st' kp2 => ?_⟩
    have hTw : T ∉ wr := Wt.apart i T h' mid
    obtain ⟨o, ho, hrest⟩ := isT
    have isT2 : h''.IsTuple T vals := ⟨o, kp2 T o hTw ho, hrest⟩
    obtain ⟨rv, hz⟩ := vl vals xs hx pt
    have new : ObjOk X.prog X.w (upd H T (.tup xs)) h'' T (.tup xs) := ⟨by rw [sizeLine_eq]; omega, vals.toList, rv, by show IsTup h'' T vals.toList.toArray; rw [Array.toArray_toList]; exact isT2⟩
    have I1 : Inv X pins σ (upd H T (.tup xs)) { s with heap := h'', toks := tk } := In.turnedNew (ch := fp) (fun b ob hb q => kp2 b ob (fun z => hb (hwr b z)) (kp b ob (fun z => hb (hwr b z)) q)) hf hT new
    refine ⟨.ref T, _, I1, rfl, ⟨T, xs, rfl, In.hok.fresh hT, rfl, fun rows' hr => by rw [un rows' hr]; exact hx⟩, nx h'' st', fun b hb => ?_⟩
    obtain ⟨ob, eb, _⟩ := obj i _ st b hb
    rw [upd_ne (Nat.ne_of_lt (Nat.lt_of_lt_of_le (Heap.lt_size eb) hT))]
    exact (hf b hb).1
  done := by
    intro X hP hw hK hc i pins s σ H E In hf st hg
    obtain ⟨rows, hp, rfl⟩ := hg
    obtain ⟨fp', Pt, St, Mid, Wt, st0, nx, vl, un⟩ := W X hP hw hK hc rows.length pins s σ H rows In st hp (Nat.le_refl _)
    exact Wt.done s _ _ st0 fun h' tk kp => ⟨rfl, In.turnedL (ch := fp) (fun b ob hb q => kp b ob (fun z => hb (hwr b z)) q) hf⟩
  self := self
/-! enumerate -/
def enumV (xs : List V) : List (List V) := xs.zipIdx.map fun p => [.int (p.2 : Nat), p.1]
def PEn (k : Bool) (K : PySem.W.Frag) (a : Addr) : Hp → List (List V) → Prop := fun H rows => ∃ xs, seqV k K H a xs ∧ rows = enumV xs
theorem turn_enumZ {Pg : Program} {w : World} {K : PySem.W.Frag} {elts : List Expr} {kk : Nat} {tpos : Pos} (k : Bool) (a e it : Addr) :
    Turn Pg w K (.Tuple elts kk tpos) (ItP (PEn k K a)) [e, it] e (fun i h => (∃ old, IsEnum h e it ((0 : Int) + (i : Int)) old) ∧ seqIt k h it a i ∧ e ≠ it ∧ e ≠ a ∧ a ≠ it) := by
  refine turn_rows (wr := [e, it]) (by simp) (fun i h st b hb => ?_) (fun i h h' st kp => ?_) (fun b hb => hb) (fun A i s Q E st h => let ⟨⟨_, he⟩, _⟩ := st; wpAny_pyIter_enum he h) ?_
  · obtain ⟨⟨old, he⟩, hs, _⟩ := st
    have e' : b = e ∨ b = it := by simpa using hb
    rcases e' with z | z
    · rw [z]; exact ⟨_, he, fun v q => nomatch q⟩
    · rw [z]; exact hs.obj
  · obtain ⟨⟨old, he⟩, hs, n⟩ := st
    exact ⟨⟨old, kp e (by simp) _ he⟩, hs.at fun o q => kp it (by simp) o q, n⟩
  · intro X hP hw hK hc i pins s σ H rows In st hp hi
    subst hP hw hK
    obtain ⟨he, hs, n1, n2, n3⟩ := st
    obtain ⟨xs, hq, rfl⟩ := hp
    obtain ⟨its, rv, isq, _⟩ := hq.is In
    have D := seq_dr (prog := X.prog) (w := X.w) (A := X.A.in1) (show X.A.in1.handled = none from In.ok.hd hc) k it a n3 its.toArray
    have Wt := WalksT.enumFrom 0 D e n1 (by simp [n1, n2]) (by simp)
    have hl : (enumV xs).length = its.toArray.size := by unfold enumV; rw [List.length_map, List.length_zipIdx, rv.length, List.size_toArray]
    rw [← hl] at Wt
    refine ⟨_, _, _, _, Wt, ⟨he, hs, isq⟩, fun h' st' => ⟨st'.1, st'.2.1, n1, n2, n3⟩, fun vals zs hz pt => ?_, fun rows' hr => ?_⟩
    · obtain ⟨t, x, hx, rfl⟩ := pt
      unfold enumV at hz
      rw [List.getElem?_map, List.getElem?_zipIdx] at hz
      obtain ⟨p, hp, rfl⟩ := Option.map_eq_some_iff.mp hz
      obtain ⟨y, hy, rfl⟩ := Option.map_eq_some_iff.mp hp
      obtain ⟨u, hu, ru⟩ := rv.get hy
      have hx' : its[i]? = some x := by simpa using hx
      rw [hx'] at hu
      cases hu
      exact ⟨.cons ⟨t, by simp⟩ (.cons ru .nil), by simp⟩
    · obtain ⟨ys, hq', rfl⟩ := hr
      rw [hq'.inj In hq]
/-! zip -/
def zipV (xs ys : List V) : List (List V) := (xs.zip ys).map fun p => [p.1, p.2]
def PZp (k j : Bool) (K : PySem.W.Frag) (a b : Addr) : Hp → List (List V) → Prop := fun H rows => ∃ xs ys, seqV k K H a xs ∧ seqV j K H b ys ∧ rows = zipV xs ys
theorem turn_zipZ {Pg : Program} {w : World} {K : PySem.W.Frag} {elts : List Expr} {kk : Nat} {tpos : Pos} (k j : Bool) {a b z TI TO i1 i2 : Addr} (S : ZipSep2 z TI TO i1 i2 [i1, a] [i2, b]) (na : a ≠ i1) (nb : b ≠ i2) :
    Turn Pg w K (.Tuple elts kk tpos) (ItP (PZp k j K a b)) [z, TI, TO, i1, i2] z (fun i h => IsZip h z TI TO .none ∧ IsTupOf2 h TI (.ref i1) (.ref i2) ∧ (∃ a1 a2, IsTupOf2 h TO a1 a2) ∧ seqIt k h i1 a i ∧ seqIt j h i2 b i) := by
  refine turn_rows (wr := [z, TO, i1, i2]) (by simp) (fun i h st c hc => ?_) (fun i h h' st kp => ?_) (fun b hb => by simp at hb ⊢; rcases hb with rfl | rfl | rfl | rfl <;> simp) (fun A i s Q E st h => wpAny_pyIter_zip st.1 h) ?_
  · obtain ⟨hz, hTI, ⟨x, y, hTO⟩, h1, h2⟩ := st
    have e' : c = z ∨ c = TI ∨ c = TO ∨ c = i1 ∨ c = i2 := by simpa using hc
    rcases e' with q | q | q | q | q
    · rw [q]; exact ⟨_, hz, fun v q => nomatch q⟩
    · rw [q]; exact ⟨_, hTI, fun v q => nomatch q⟩
    · rw [q]; exact ⟨_, hTO, fun v q => nomatch q⟩
    · rw [q]; exact h1.obj
    · rw [q]; exact h2.obj
  · obtain ⟨hz, hTI, ⟨x, y, hTO⟩, h1, h2⟩ := st
    exact ⟨kp z (by simp) _ hz, kp TI (by simp) _ hTI, ⟨x, y, kp TO (by simp) _ hTO⟩, h1.at fun o q => kp i1 (by simp) o q, h2.at fun o q => kp i2 (by simp) o q⟩
  · intro X hP hw hK hc i pins s σ H rows In st hp hi
    subst hP hw hK
    obtain ⟨hz, hTI, hTO, h1, h2⟩ := st
    obtain ⟨xs, ys, hq, hq2, rfl⟩ := hp
    obtain ⟨its, rv, isq, _⟩ := hq.is In
    obtain ⟨its2, rv2, isq2, _⟩ := hq2.is In
    have D1 := seq_dr (prog := X.prog) (w := X.w) (A := X.A.in1) (show X.A.in1.handled = none from In.ok.hd hc) k i1 a na its.toArray
    have D2 := seq_dr (prog := X.prog) (w := X.w) (A := X.A.in1) (show X.A.in1.handled = none from In.ok.hd hc) j i2 b nb its2.toArray
    have Wt := WalksT.zipD2 S D1 D2
    have hl : (zipV xs ys).length = min its.toArray.size its2.toArray.size := by unfold zipV; rw [List.length_map, List.length_zip, rv.length, rv2.length, List.size_toArray, List.size_toArray]
    rw [← hl] at Wt
    refine ⟨_, _, _, _, Wt, ⟨hz, hTI, hTO, ⟨h1, isq⟩, h2, isq2⟩, fun h' st' => ⟨st'.1, st'.2.1, st'.2.2.1, st'.2.2.2.1.1, st'.2.2.2.2.1⟩, fun vals zs hz pt => ?_, fun rows' hr => ?_⟩
    · obtain ⟨x, y, hx, hy, rfl⟩ := pt
      unfold zipV at hz
      rw [List.getElem?_map] at hz
      obtain ⟨p, hp, rfl⟩ := Option.map_eq_some_iff.mp hz
      obtain ⟨p1, p2⟩ := p
      obtain ⟨q1, q2⟩ := List.getElem?_zip_eq_some.mp hp
      obtain ⟨u, hu, ru⟩ := rv.get q1
      obtain ⟨u2, hu2, ru2⟩ := rv2.get q2
      have hx' : its[i]? = some x := by simpa using hx
      have hy' : its2[i]? = some y := by simpa using hy
      rw [hx'] at hu; cases hu
      rw [hy'] at hu2; cases hu2
      exact ⟨.cons ru (.cons ru2 .nil), by simp⟩
    · obtain ⟨xs', ys', hq', hq2', rfl⟩ := hr
      rw [hq'.inj In hq, hq2'.inj In hq2]
/-! what they hand out -/
section
variable {K : Kx} {F F0 : Fz} {H H0 : Hp} {σ σ0 : L2.St} {ρ ρ0 : Env}
/-- a list or tuple that stays while it is walked -/
structure Std (K : Kx) (F0 : Fz) (H0 : Hp) (σ0 : L2.St) (ρ0 : Env) (k : Bool) (a : Addr) (xs : List V) (ds : List PyData) : Prop where
  st : ∀ F H σ ρ, Stp F0 H0 σ0 ρ0 F H σ ρ → seqV k K.K H a xs ∧ RpAll K F H xs ds
theorem std_of (g0 : Sg K F0 H0 σ0 ρ0) {v : V} {d : PyData} {ds : List PyData} (rv : Rv K F0 H0 v d) (nm : ∀ a, v = .ref a → H0 a ≠ none ∧ ¬ Mu σ0 ρ0 a) (e : seqD d = some ds) : ∃ k a xs, v = .ref a ∧ Std K F0 H0 σ0 ρ0 k a xs ds := by
  cases d with
  | list l =>
    cases e
    obtain ⟨a, vs, rfl, q, t⟩ := rv.lst
    exact ⟨true, a, vs, rfl, ⟨fun F H σ ρ s => let ⟨h1, h2⟩ := hold_lst g0 s q t (nm a rfl).2; ⟨SqL.of h1, h2⟩⟩⟩
  | tuple l =>
    cases e
    obtain ⟨a, vs, rfl, q, t, _⟩ := rv.tup
    exact ⟨false, a, vs, rfl, ⟨fun F H σ ρ s => let ⟨h1, h2⟩ := hold_tup g0 s q t (nm a rfl).2; ⟨h1.sq, h2⟩⟩⟩
  | _ => cases e
theorem itg_rows {P : Hp → List (List V) → Prop} {rows : List (List V)} {ds : List (List PyData)} (hl : rows.length = ds.length) (hz : ds.length ≤ sizeLine) (h : ∀ F H σ ρ, Sg K F H σ ρ → Stp F0 H0 σ0 ρ0 F H σ ρ → P H rows ∧ ∀ (i : Nat) (xs : List V) (es : List PyData), rows[i]? = some xs → ds[i]? = some es → RpAll K F H xs es) :
    ItG K (ItP P) true F0 H0 σ0 ρ0 (ds.map .tuple) where
  go := fun i F H σ ρ g s d hd => by
    obtain ⟨hp, hr⟩ := h F H σ ρ g s
    rw [List.getElem?_map] at hd
    obtain ⟨es, he, rfl⟩ := Option.map_eq_some_iff.mp hd
    have hi : i < rows.length := by rw [hl]; exact (List.getElem?_eq_some_iff.mp he).1
    have hx : rows[i]? = some rows[i] := List.getElem?_eq_getElem hi
    refine ⟨⟨rows, _, hp, hx⟩, fun x H' ⟨T, xs, ev, hT, eH, un⟩ => ?_⟩
    subst ev eH
    have := un rows hp
    rw [hx] at this
    cases this
    have l := lay_new (o := .tup rows[i]) g.tr hT
    exact ⟨F, l, .inr ⟨rfl, T, _, es, rfl, SqT.of upd_same, (hr i _ _ hx he).gr (l.gr g.tr), rfl⟩⟩
  stop := fun i F H σ ρ g s hi => by
    obtain ⟨hp, _⟩ := h F H σ ρ g s
    rw [List.length_map] at hi
    exact ⟨rows, hp, by rw [hl, hi]⟩
  len := by rw [List.length_map]; exact hz
end
section
variable {Φ : Nat → Spc} {X : Cx} {e0 a0 b0 : Expr} {e a b : E} {pos p tpos : Pos} {elts : List Expr} {kk : Nat}
theorem enumD_eq (ds : List PyData) : enumD ds = (ds.zipIdx.map fun p => [PyData.int (p.2 : Nat), p.1]).map .tuple := by
  unfold enumD; rw [List.map_map]; rfl
theorem sdI_enum (hg : Gl X "enumerate") (hm : X.mg "enumerate" = none) (he : Sd Φ X e0 e) (n : notStar e0 = true) : SdI Φ X (.Tuple elts kk tpos) (.Call (.Name "enumerate" p) [e0] [] pos) (.enum e) := by
  refine ⟨fun pins s σ H R I h => ?_⟩
  obtain ⟨F, ρ, Q, g, h, k⟩ := h
  rw [rdI_enum] at h
  have run := (pa1 he.op n).run pos pins s σ H (fun vs H1 => ∃ v o F1 ρ1, vs = [v] ∧ Sg X.k F1 H1 σ ρ1 ∧ Stp F H σ ρ F1 H1 σ ρ1 ∧ OpdOk X.k F1 H1 σ v o ∧ must (res ρ1 o) fun x => must (seqD x) fun ds => Q (lock ρ1 o).2 (enumD ds) (lock ρ1 o).1) I
    ⟨F, ρ, _, g, h, fun v o F1 H1 ρ1 g1 s1 ok1 h1 => ⟨v, o, F1, ρ1, rfl, g1, s1, ok1, h1⟩⟩
  refine Call_ (ld_blt I hg hm boot_enumerate (PyProof.Rows.callWith_type1 (thn run fun us s1 ⟨vs, H1, I1, r1, v, o, F1, ρ1, ev, g1, st1, ok1, h1⟩ => ?_) (star_cons n) rfl))
  subst ev
  obtain ⟨x, ex, h2⟩ := must_iff.mp h1
  obtain ⟨ds, ed, h3⟩ := must_iff.mp h2
  obtain ⟨gL, bk, rv, nm⟩ := lock_ok g1 ok1 ex
  obtain ⟨kd, a, xs, rfl, sd⟩ := std_of gL rv nm ed
  obtain ⟨hq, rs⟩ := sd.st _ _ _ _ .refl
  cases r1 with
  | cons r rr =>
    cases rr
    cases r
    obtain ⟨its, rvs, isq, hlt⟩ := hq.is I1
    refine enum_beginsZ (seq_bg kd a its.toArray) isq fun h' he hit hsz hk => wpAny_pyIter_enum he ?_
    have I2 : Inv X pins σ H1 { s1 with heap := h' } := I1.kept (t' := s1.toks) hk
    refine ⟨s1.heap.objs.size + 1, [s1.heap.objs.size + 1, s1.heap.objs.size], _, _, H1, rfl, I2, turn_enumZ kd a (s1.heap.objs.size + 1) s1.heap.objs.size, ⟨⟨.none, by simpa using he⟩, seq_it0 hit, Nat.succ_ne_self _, Nat.ne_of_gt (Nat.lt_succ_of_lt hlt), Nat.ne_of_lt hlt⟩, fun b hb => ?_, ?_⟩
    · have e' : b = s1.heap.objs.size + 1 ∨ b = s1.heap.objs.size := by simpa using hb
      have hle : s1.heap.objs.size ≤ b := by
        rcases e' with z | z
        · rw [z]; exact Nat.le_add_right _ _
        · rw [z]; exact Nat.le_refl _
      exact I1.fpOk hle (I1.hok.fresh hle)
    · have hz : xs.length ≤ sizeLine := by
        cases kd with
        | true => obtain ⟨_, _, _, z⟩ := I1.list hq; exact z
        | false => obtain ⟨_, _, _, z⟩ := I1.tuple hq; exact z
      refine k _ _ _ F1 H1 _ gL (bk.pre st1) ?_ h3
      rw [enumD_eq]
      refine itg_rows (rows := enumV xs) (by unfold enumV; rw [List.length_map, List.length_map, List.length_zipIdx, List.length_zipIdx, rs.length]) (by rw [List.length_map, List.length_zipIdx, ← rs.length]; exact hz) fun F H σ ρ g s => ?_
      obtain ⟨hq', rs'⟩ := sd.st F H σ ρ s
      refine ⟨⟨xs, hq', rfl⟩, fun i zs es h1 h2 => ?_⟩
      unfold enumV at h1
      rw [List.getElem?_map, List.getElem?_zipIdx] at h1 h2
      obtain ⟨p, hp, rfl⟩ := Option.map_eq_some_iff.mp h1
      obtain ⟨y, hy, rfl⟩ := Option.map_eq_some_iff.mp hp
      obtain ⟨p2, hp2, rfl⟩ := Option.map_eq_some_iff.mp h2
      obtain ⟨d, hd, rfl⟩ := Option.map_eq_some_iff.mp hp2
      obtain ⟨d', hd', rd⟩ := rs'.get hy
      rw [hd] at hd'; cases hd'
      exact .cons (.int _) (.cons rd .nil)
theorem lock_cases (ρ : Env) (o : Opd) : lock ρ o = (ρ, []) ∨ ∃ i d, o = .slot i ∧ ρ[i]? = some (.ow d) ∧ lock ρ o = (ρ.set i (.lk d), [i]) := by
  cases o with
  | val d => exact .inl rfl
  | slot i =>
    cases q : ρ[i]? with
    | none => exact .inl (by rw [lock, q])
    | some s =>
      cases s with
      | ow d => exact .inr ⟨i, d, rfl, q, by rw [lock, q]⟩
      | _ => exact .inl (by rw [lock, q])
theorem res_lock {ρ : Env} {o o2 : Opd} : res (lock ρ o).1 o2 = res ρ o2 := by
  rcases lock_cases ρ o with e | ⟨i, d, rfl, q, e⟩
  · rw [e]
  · rw [e]
    cases o2 with
    | val d => rfl
    | slot j =>
      by_cases c : i = j
      · subst c
        show ((ρ.set i (.lk d))[i]?).bind Sl.dat = (ρ[i]?).bind Sl.dat
        rw [get_set_self q, q]; rfl
      · show ((ρ.set i (.lk d))[j]?).bind Sl.dat = (ρ[j]?).bind Sl.dat
        rw [List.getElem?_set_ne c]
theorem mu_lock {σ : L2.St} {ρ : Env} {o : Opd} {a : Addr} (h : Mu σ (lock ρ o).1 a) : Mu σ ρ a := by
  rcases lock_cases ρ o with e | ⟨i, d, rfl, q, e⟩
  · rw [e] at h; exact h
  · rw [e] at h
    obtain ⟨j, s, h1, h2, h3⟩ := h
    rcases get_set_cases h1 with ⟨rfl, rfl⟩ | ⟨ne, h1⟩
    · cases h2
    · exact ⟨j, s, h1, h2, h3⟩
theorem zipD_eq (xs ys : List PyData) : zipD xs ys = ((xs.zip ys).map fun p => [p.1, p.2]).map .tuple := by
  unfold zipD; rw [List.map_map]; rfl
theorem sdI_zip (hg : Gl X "zip") (hm : X.mg "zip" = none) (ha : Sd Φ X a0 a) (hb : Sd Φ X b0 b) (n : notStar a0 = true) (n2 : notStar b0 = true) : SdI Φ X (.Tuple elts kk tpos) (.Call (.Name "zip" p) [a0, b0] [] pos) (.zip a b) := by
  refine ⟨fun pins s σ H R I h => ?_⟩
  obtain ⟨F, ρ, Q, g, h, k⟩ := h
  rw [rdI_zip] at h
  have run := (pa2 ha.op hb.op n n2).run pos pins s σ H (fun vs H2 => ∃ v w o o2 F2 ρ2, vs = [v, w] ∧ Sg X.k F2 H2 σ ρ2 ∧ Stp F H σ ρ F2 H2 σ ρ2 ∧ OpdOk X.k F2 H2 σ v o ∧ OpdOk X.k F2 H2 σ w o2 ∧ must (res ρ2 o) fun x => must (res ρ2 o2) fun y => must (seqD x) fun xs => must (seqD y) fun ys =>
      Q ((lock (lock ρ2 o).1 o2).2 ++ (lock ρ2 o).2) (zipD xs ys) (lock (lock ρ2 o).1 o2).1) I
    ⟨F, ρ, _, g, h, fun v o F1 H1 ρ1 g1 s1 ok1 h1 => ⟨F1, ρ1, _, g1, h1, fun w o2 F2 H2 ρ2 g2 s2 ok2 h2 => ⟨v, w, o, o2, F2, ρ2, rfl, g2, s1.trans s2, ok1.gr (s2.gr g1), ok2, h2⟩⟩⟩
  refine Call_ (ld_blt I hg hm PyProof.Rows.boot_zip (PyProof.Rows.callWith_type1 (thn run fun us s1 ⟨vs, H1, I1, r1, v, w, o, o2, F1, ρ1, ev, g1, st1, ok1, ok2, h1⟩ => ?_) (star_cons n) (star_any (by simp [n2]))))
  subst ev
  obtain ⟨x, ex, h2⟩ := must_iff.mp h1
  obtain ⟨y, ey, h2⟩ := must_iff.mp h2
  obtain ⟨ds, ed, h3⟩ := must_iff.mp h2
  obtain ⟨es, ee, h3⟩ := must_iff.mp h3
  obtain ⟨gL, bk, rv, nm⟩ := lock_ok g1 ok1 ex
  have ey' : res (lock ρ1 o).1 o2 = some y := by rw [res_lock]; exact ey
  obtain ⟨gL2, bk2, rv2, nm2⟩ := lock_ok gL ok2 ey'
  have nm' : ∀ a, v = .ref a → H1 a ≠ none ∧ ¬ Mu σ (lock (lock ρ1 o).1 o2).1 a := fun a ea => by
    obtain ⟨q1, q2⟩ := nm a ea
    exact ⟨q1, fun m => q2 (mu_lock m)⟩
  obtain ⟨kd, a, xs, rfl, sd⟩ := std_of gL2 rv nm' ed
  obtain ⟨kd2, b, ys, rfl, sd2⟩ := std_of gL2 rv2 nm2 ee
  obtain ⟨hq, rs⟩ := sd.st _ _ _ _ .refl
  obtain ⟨hq2, rs2⟩ := sd2.st _ _ _ _ .refl
  cases r1 with
  | cons r rr =>
    cases rr with
    | cons r' rr =>
    cases rr
    cases r
    cases r'
    obtain ⟨its, rvs, isq, hlt⟩ := hq.is I1
    obtain ⟨its2, rvs2, isq2, hlt2⟩ := hq2.is I1
    refine zip_begins2 (seq_bg kd a its.toArray) (seq_bg kd2 b its2.toArray) isq isq2 fun h' hz hTI hTO h1' h2' hsz hk => wpAny_pyIter_zip hz ?_
    have I2 : Inv X pins σ H1 { s1 with heap := h' } := I1.kept (t' := s1.toks) hk
    refine ⟨s1.heap.objs.size + 4, [s1.heap.objs.size + 4, s1.heap.objs.size + 2, s1.heap.objs.size + 3, s1.heap.objs.size, s1.heap.objs.size + 1], _, _, H1, rfl, I2,
      turn_zipZ kd kd2 (PySem.zip_sep2 (fp1 := [a]) (fp2 := [b]) (by simpa using hlt) (by simpa using hlt2)) (Nat.ne_of_lt hlt) (Nat.ne_of_lt (Nat.lt_succ_of_lt hlt2)), ⟨hz, hTI, ⟨_, _, hTO⟩, seq_it0 h1', seq_it0 h2'⟩, fun c hcm => ?_, ?_⟩
    · have e' : c = s1.heap.objs.size + 4 ∨ c = s1.heap.objs.size + 2 ∨ c = s1.heap.objs.size + 3 ∨ c = s1.heap.objs.size ∨ c = s1.heap.objs.size + 1 := by simpa using hcm
      have hle : s1.heap.objs.size ≤ c := by
        rcases e' with z | z | z | z | z
        · rw [z]; exact Nat.le_add_right _ _
        · rw [z]; exact Nat.le_add_right _ _
        · rw [z]; exact Nat.le_add_right _ _
        · rw [z]; exact Nat.le_refl _
        · rw [z]; exact Nat.le_add_right _ _
      exact I1.fpOk hle (I1.hok.fresh hle)
    · have hz : xs.length ≤ sizeLine := by
        cases kd with
        | true => obtain ⟨_, _, _, z⟩ := I1.list hq; exact z
        | false => obtain ⟨_, _, _, z⟩ := I1.tuple hq; exact z
      refine k _ _ _ F1 H1 _ gL2 ((bk.app bk2).pre st1) ?_ h3
      rw [zipD_eq]
      refine itg_rows (rows := zipV xs ys) (by unfold zipV; rw [List.length_map, List.length_map, List.length_zip, List.length_zip, rs.length, rs2.length]) (by rw [List.length_map, List.length_zip, ← rs.length]; omega) fun F H σ ρ g s => ?_
      obtain ⟨hq', rs'⟩ := sd.st F H σ ρ s
      obtain ⟨hq2', rs2'⟩ := sd2.st F H σ ρ s
      refine ⟨⟨xs, ys, hq', hq2', rfl⟩, fun i zs es h1 h2 => ?_⟩
      unfold zipV at h1
      rw [List.getElem?_map] at h1 h2
      obtain ⟨⟨p1, p2⟩, hp, rfl⟩ := Option.map_eq_some_iff.mp h1
      obtain ⟨⟨d1, d2⟩, hd, rfl⟩ := Option.map_eq_some_iff.mp h2
      obtain ⟨q1, q2⟩ := List.getElem?_zip_eq_some.mp hp
      obtain ⟨q3, q4⟩ := List.getElem?_zip_eq_some.mp hd
      obtain ⟨d', hd', rd⟩ := rs'.get q1
      obtain ⟨d2', hd2', rd2⟩ := rs2'.get q2
      rw [q3] at hd'; cases hd'
      rw [q4] at hd2'; cases hd2'
      exact .cons rd (.cons rd2 .nil)
end
end Z

/-! soundness: draws -/
namespace Z
open PySem PySem.Spec PyProof.Rows L2 C8
/-- what _law_next promises -/
def spN (K : Kx) : Sp := fun vs H Q _ => ∃ F a d0 n, vs = [.ref a, .int n] ∧ (∀ a, F a → H a ≠ none) ∧ ¬ F a ∧ Ob K F H a d0 ∧ ValidD d0 ∧ 1 ≤ n ∧ n < 1073741824 ∧
  ∀ r F' H' d1, 0 ≤ r → r < n → LayD a F H F' H' → Ob K F' H' a d1 → ValidD d1 → Q (.int r) H'
section
variable {K : Kx} {F F1 F2 F' F0 : Fz} {H H1 H2 H' H0 : Hp} {σ σ1 σ2 σ' σ0 : L2.St} {ρ ρ1 ρ2 ρ' ρ0 : Env}
theorem isDr_iff {i : Nat} (h : isDr ρ i) : ρ[i]? = some .dr := by
  unfold isDr at h
  split at h
  · assumption
  · exact h.elim
theorem LayD.gr {a : Addr} (l : LayD a F H F' H') (t : ∀ a, F a → H a ≠ none) (nF : ¬ F a) : Gr F H F' H' :=
  ⟨l.sub, fun b f => keep_hq (l.keep b (t b f) fun e => nF (e ▸ f))⟩
/-- the draws moved on -/
theorem LayD.sg {a : Addr} {i : Nat} {d1 : PyData} (l : LayD a F H F' H') (g : Sg K F H σ ρ) (e : ρ[i]? = some .dr) (ev : σ[i]? = some (some (.ref a))) (nF' : ¬ F' a) (o : Ob K F' H' a d1) (v : ValidD d1) : Sg K F' H' σ ρ ∧ Stp F H σ ρ F' H' σ ρ := by
  have ow : Ow σ ρ a := ⟨i, .dr, e, rfl, ev⟩
  have gr := l.gr g.tr (g.nF ow)
  refine ⟨⟨g.len, fun j s q => ?_, g.inj, l.tr⟩, ⟨l.sub, fun b h => (l.new b h).imp id .inl, fun b h m => l.keep b h fun eb => m ⟨i, .dr, e, rfl, eb ▸ ev⟩, fun b h => ?_, fun b m => .inl m, fun j s q _ => ⟨⟨_, q, .inl rfl⟩, rfl⟩⟩⟩
  · by_cases c : j = i
    · subst c
      rw [e] at q; cases q
      exact ⟨a, d1, ev, nF', o, v⟩
    · refine (g.sl j s q).gr gr fun b ob eb => ?_
      have owb : Ow σ ρ b := ⟨j, s, q, ob, eb⟩
      have nb : b ≠ a := fun z => c (g.inj j i b s .dr q e ob rfl eb (z ▸ ev))
      have nf : ¬ F' b := fun f => by
        rcases l.new b f with f | f
        · exact g.nF owb f
        · exact g.ntr owb f
      exact ⟨nf, keep_eq (l.keep b (g.ntr owb) nb) nf⟩
  · by_cases c : b = a
    · subst c; exact o.tr
    · exact (keep_hq (l.keep b h c)).tr h
theorem LayD.nF {a : Addr} (l : LayD a F H F' H') (nF : ¬ F a) (t : H a ≠ none) : ¬ F' a := fun f => (l.new a f).elim nF t
end
section
variable {Φ : Nat → Spc} {X : Cx} {a0 : Expr} {a : E} {pos p1 p2 : Pos} {x : Str} {i k j f n : Nat} {es : List Expr} {r : Es}
theorem sd_nxt (c : Cal X.prog X.w X.K X.mg X.base k "_law_next" (spN X.k) []) (hr : Room j X.A) (hk : k ≤ j) (hg : Gl X "_law_next") (hN : X.N[i]? = some x) (hv : Vis X.env.scope x) (hd : (x == ("__debug__" : Str)) = false) (hcd : (x == ("__classdict__" : Str)) = false) (ha : Sd Φ X a0 a) (n : notStar a0 = true) :
    Sd Φ X (.Call (.Name "_law_next" p1) [.Name x p2, a0] [] pos) (.nxt i a) := by
  refine Sd.plain (fun _ z => nomatch z) rd_nxt ((pe_c c hr hk hg (pa_cons (pe_var (pos := p2) hN hv hd hcd) (pa1 ha.op n)) rfl rfl (star_any (by simp [n]))).imp fun σ H Q' q => ?_) fun _ => rfl
  obtain ⟨F, ρ, Q, g, h, k⟩ := q
  rw [rd_nxt, plainT_e] at h
  obtain ⟨h0, h⟩ := h
  have e0 := isDr_iff h0
  obtain ⟨b, d0, eb, nF, ob, vd⟩ := g.sl i _ e0
  refine ⟨.ref b, eb, F, ρ, _, g, h, fun v o F1 H1 ρ1 g1 s1 ok1 h1 => ?_⟩
  obtain ⟨y, ey, h2⟩ := must_iff.mp h1
  obtain ⟨m, rfl, h3, l1, l2, h4⟩ := mustI_iff h2
  cases (ok1.rv g1 ey).int
  have e1 := isDr_iff h3
  obtain ⟨b', d1, eb', nF1, ob1, vd1⟩ := g1.sl i _ e1
  rw [eb] at eb'; cases eb'
  refine ⟨F1, b, d1, m, rfl, g1.tr, nF1, ob1, vd1, l1, l2, fun r F' H' d2 r1 r2 l o2 v2 => ?_⟩
  obtain ⟨g2, s2⟩ := l.sg g1 e1 eb (l.nF nF1 ob1.tr) o2 v2
  exact k false (.int r) (.int r) F' H' ρ1 g2 (s1.trans s2) (Vr.of (.int r) rfl) (h4 r r1 r2)
theorem sd_calld {y : Str} (c : Cal X.prog X.w X.K X.mg X.base k y (spD X.k (Φ f) n) []) (hr : Room j X.A) (hk : k ≤ j) (hg : Gl X y) (hdb : (y == ("__debug__" : Str)) = false) (hN : X.N[i]? = some x) (hv : Vis X.env.scope x) (hd : (x == ("__debug__" : Str)) = false) (hcd : (x == ("__classdict__" : Str)) = false)
    (ha : SdEs Φ X es r) (hn : r.len = n) (st : es.all notStar = true) : Sd Φ X (.Call (.Name y p1) (.Name x p2 :: es) [] pos) (.calld f i r) := by
  refine Sd.plain (fun _ z => nomatch z) rd_calld ((pe_c c hr hk hg (pa_cons (pe_var (pos := p2) hN hv hd hcd) ha rfl) hdb rfl (star_any st)).imp fun σ H Q' q => ?_) fun _ => rfl
  obtain ⟨F, ρ, Q, g, h, k⟩ := q
  rw [rd_calld, plainT_e] at h
  obtain ⟨h0, h⟩ := h
  have e0 := isDr_iff h0
  obtain ⟨b, d0, eb, nF, ob, vd⟩ := g.sl i _ e0
  refine ⟨.ref b, eb, F, ρ, _, g, h, fun vs ds F1 H1 ρ1 g1 s1 rs hl h1 => ?_⟩
  obtain ⟨h3, h4⟩ := h1
  have e1 := isDr_iff h3
  obtain ⟨b', d1, eb', nF1, ob1, vd1⟩ := g1.sl i _ e1
  rw [eb] at eb'; cases eb'
  rw [List.append_nil]
  refine ⟨by rw [List.length_cons, hl, hn], F1, b, vs, ds, d1, _, rfl, g1.tr, nF1, ob1, vd1, rs, h4, fun fr d v F' H' d2 kq l o2 v2 vn => ?_⟩
  obtain ⟨g2, s2⟩ := l.sg g1 e1 eb (l.nF nF1 ob1.tr) o2 v2
  exact k fr v d F' H' ρ1 g2 (s1.trans s2) (vn.vr g1 s1.tr) kq
/-! a list that a def was handed to write on -/
theorem sd_dix (hN : X.N[i]? = some x) (hv : Vis X.env.scope x) (hd : (x == ("__debug__" : Str)) = false) (hcd : (x == ("__classdict__" : Str)) = false) (ha : Sd Φ X a0 a) (n : plainIx a0 = true) : Sd Φ X (.Subscript (.Name x p1) a0 pos) (.dix i a) := by
  refine Sd.plain (fun _ z => nomatch z) rd_dix ((pe_ix ix_list (pe_var hN hv hd hcd) ha.op (ix_plain n)).imp fun σ H Q' q => ?_) fun _ => rfl
  obtain ⟨F, ρ, Q, g, h, k⟩ := q
  rw [rd_dix, plainT_e] at h
  obtain ⟨ds, e0, h⟩ := mustW_iff h
  obtain ⟨b, eb, nF, ob⟩ := g.sl i _ e0
  refine ⟨.ref b, eb, F, ρ, _, g, h, fun v o F1 H1 ρ1 g1 s1 ok1 h1 => ?_⟩
  obtain ⟨y, ey, h2⟩ := must_iff.mp h1
  obtain ⟨m, rfl, h3⟩ := mustI_iff h2
  cases (ok1.rv g1 ey).int
  obtain ⟨ds1, e1, h3⟩ := mustW_iff h3
  obtain ⟨d, ed, h4⟩ := must_iff.mp h3
  obtain ⟨b', eb', nF1, ob1⟩ := g1.sl i _ e1
  rw [eb] at eb'; cases eb'
  cases ob1 with
  | @lst xs _ hq rq =>
    obtain ⟨w, hw, rw'⟩ := rq.atI ed
    exact ⟨b, xs, m, w, rfl, rfl, SqL.of hq, hw, k false w d F1 H1 ρ1 g1 s1 (Vr.of rw' rfl) h4⟩
theorem sdS_setdw {e0 b0 : Expr} {e b : E} {q1 p : Pos} (hN : X.N[i]? = some x) (hv : Vis X.env.scope x) (hd : (x == ("__debug__" : Str)) = false) (hcd : (x == ("__classdict__" : Str)) = false) (hk : Sd Φ X b0 b) (he : Sd Φ X e0 e) (n : noComp e0 = true) (n3 : plainIx b0 = true) :
    SdS Φ X (.Assign [.Subscript (.Name x q1) b0 p] e0 pos) (.setdw i b e) :=
  (ps_asg he.ex (pg_sub (pos := p) (pe_var (pos := q1) hN hv hd hcd) hk.ex set_list (by cases b0 <;> first | (intro _; rfl) | cases n3)) (noComp_sole n) (noTp_swap (by unfold noTp; simp)) rfl).imp fun D σ H q => by
    obtain ⟨F, ρ, Kt, g, h, d⟩ := q
    rw [rdS_setdw] at h
    refine ⟨F, ρ, _, g, h, fun fr v vd F' H' ρ' g' s' vr k => ?_⟩
    obtain ⟨F2, g2, s2, rp, _⟩ := vr.freeze g' s'
    obtain ⟨ds0, e0', k⟩ := mustW_iff k
    obtain ⟨w, ew, nF0, ob0⟩ := g2.sl i _ e0'
    refine ⟨.ref w, ew, F2, ρ', _, g2, k, fun fr' kv kd F3 H3 ρ3 g3 s3 vr' k3 => ?_⟩
    obtain ⟨F4, g4, s4, rk, g34⟩ := vr'.freeze g3 s3
    obtain ⟨m, rfl, k3⟩ := mustI_iff k3
    cases rk
    obtain ⟨ds1, e3, k3⟩ := mustW_iff k3
    obtain ⟨j, ej, k3⟩ := must_iff.mp k3
    obtain ⟨w', ew', nF, ob⟩ := g4.sl i _ e3
    rw [ew] at ew'; cases ew'
    cases ob with
    | @lst xs _ hq rq =>
      refine ⟨w, xs, m, j, rfl, rfl, hq, by rw [rq.length, ← ixOf_eq]; exact ej, ?_⟩
      have gr : Gr F4 H3 F4 (upd H3 w (.lst (xs.set j v))) := ⟨fun _ f => f, fun b f => .inl (upd_ne fun (q : b = w) => nF (q ▸ f))⟩
      obtain ⟨g5, s5⟩ := g4.updDw (ob := .lst (xs.set j v)) (d' := .list (ds1.set j vd)) e3 ew (.lst upd_same ((rq.set j (rp.gr (s4.gr g2))).gr gr))
      exact d.nx σ F4 _ _ g5 ((s2.trans s4).trans s5) k3
end
/-! dict displays -/
def trsOf (K : Kx) (Φ : Nat → Spc) : Es → List (L2.TE × L2.TE)
  | .cons a (.cons b r) => (tE K (rd Φ a).e, tE K (rd Φ b).e) :: trsOf K Φ r
  | _ => []
inductive RpP (K : Kx) (F : Fz) (H : Hp) : List (V × V) → List (PyData × PyData) → Prop where
  | nil : RpP K F H [] []
  | cons {x y : V} {ps : List (V × V)} {d e : PyData} {ds : List (PyData × PyData)} : Rp K F H x d → Rp K F H y e → RpP K F H ps ds → RpP K F H ((x, y) :: ps) ((d, e) :: ds)
theorem RpP.length {K : Kx} {F : Fz} {H : Hp} : ∀ {ps : List (V × V)} {ds : List (PyData × PyData)}, RpP K F H ps ds → ps.length = ds.length
  | _, _, .nil => rfl
  | _, _, .cons _ _ t => by rw [List.length_cons, List.length_cons, t.length]
theorem RpP.keys {K : Kx} {F : Fz} {H : Hp} : ∀ {ps : List (V × V)} {ds : List (PyData × PyData)}, RpP K F H ps ds → (ds.all fun q => flatKey q.1) = true → ∃ kvs : List (Key × V), ps = kvs.map (fun kv => (kV kv.1, kv.2)) ∧ KD K F H kvs ds
  | _, _, .nil, _ => ⟨[], rfl, .nil⟩
  | _, _, .cons (x := x) (y := y) r1 r2 t, h => by
    rw [List.all_cons, Bool.and_eq_true] at h
    obtain ⟨kvs, e, kd⟩ := RpP.keys t h.2
    cases r1 with
    | int i => exact ⟨(.inl i, y) :: kvs, by rw [e]; rfl, .cons (k := .inl i) r2 kd⟩
    | str z => exact ⟨(.inr z, y) :: kvs, by rw [e]; rfl, .cons (k := .inr z) r2 kd⟩
    | _ => exact Bool.noConfusion h.1
theorem pairs_run (Φ : Nat → Spc) {K : Kx} {σ : L2.St} : ∀ (r : Es) {F : Fz} {H : Hp} {ρ : Env} {Q : List (PyData × PyData) → Env → Prop} {R : List (V × V) → Hp → Prop}, Sg K F H σ ρ → rdPs Φ r ρ Q →
    (∀ ps ds F' H' ρ', Sg K F' H' σ ρ' → Stp F H σ ρ F' H' σ ρ' → RpP K F' H' ps ds → Q ds ρ' → R ps H') → tPairs (trsOf K Φ r) σ H R
  | .nil, F, H, ρ, Q, R, g, h, k => by
    rw [rdPs_nil] at h
    exact k [] [] F H ρ g .refl .nil h
  | .cons a .nil, F, H, ρ, Q, R, g, h, k => h.elim
  | .cons a (.cons b r), F, H, ρ, Q, R, g, h, k => by
    rw [rdPs_cons] at h
    refine ⟨F, ρ, _, g, h, fun fr v d F1 H1 ρ1 g1 s1 vr h1 => ?_⟩
    obtain ⟨F2, g2, s2, rp, _⟩ := vr.freeze g1 s1
    refine ⟨F2, ρ1, _, g2, h1, fun fr' w e F3 H3 ρ3 g3 s3 vr' h3 => ?_⟩
    obtain ⟨F4, g4, s4, rp2, _⟩ := vr'.freeze g3 s3
    refine pairs_run Φ r g4 h3 fun ps ds F5 H5 ρ5 g5 s5 rs q => ?_
    exact k _ _ F5 H5 ρ5 g5 ((s2.trans s4).trans s5) (.cons (rp.gr ((s4.gr g2).trans (s5.gr g4))) (rp2.gr (s5.gr g4)) rs) q
section
variable {Φ : Nat → Spc} {X : Cx} {pos : Pos} {es : Es} {keys : List (Option Expr)} {values : List Expr}
theorem sd_dct0 : Sd Φ X (.Dict [] [] pos) (.dct .nil) :=
  Sd.plain (fun _ z => nomatch z) rd_dct (pe_dnewK.imp fun σ H Q' q => by
    obtain ⟨F, ρ, Q, g, h, k⟩ := q
    rw [rd_dct, plainT_e, rdPs_nil] at h
    obtain ⟨_, _, h⟩ := h
    intro p hp
    have l : Lay F H F (upd H p (.dK [])) := lay_new g.tr hp
    exact k true _ (.dict []) F _ ρ (l.sg g) l.stp (Vn.vr (H := H) g (fun _ h => h) ⟨p, rfl, notF_new g.tr hp, .dk upd_same rfl .nil, hp⟩) h) fun _ => rfl
theorem sd_dct (h : PPs X pos keys values (trsOf X.k Φ es)) (hall : keys.all (·.isSome) = true) (hl : keys.length = values.length) (h0 : keys ≠ []) (h15 : keys.length ≤ 15) : Sd Φ X (.Dict keys values pos) (.dct es) :=
  Sd.plain (fun _ z => nomatch z) rd_dct ((pe_disp h hall hl h0 h15).imp fun σ H Q' q => by
    obtain ⟨F, ρ, Q, g, hq, k⟩ := q
    rw [rd_dct, plainT_e] at hq
    intro p hp
    have l : Lay F H F (upd H p (.dK [])) := lay_new g.tr hp
    have g1 := l.sg g
    have nF : ¬ F p := notF_new g.tr hp
    have nO : ¬ Ow σ ρ p := fun o => g.ntr o hp
    refine pairs_run Φ es g1 hq fun ps ds F' H' ρ' g' s' rs kq => ?_
    obtain ⟨e1, nF', nO'⟩ := s'.mine (by rw [upd_same]; simp) nF nO
    rw [upd_same] at e1
    obtain ⟨f1, f2, kq⟩ := kq
    obtain ⟨kvs, ep, kd⟩ := rs.keys f1
    have hlen : kvs.length ≤ 15 := by
      have := rs.length
      rw [ep, List.length_map] at this
      omega
    refine ⟨e1, kvs, ep, hlen, ?_⟩
    obtain ⟨g3, gr3⟩ := g'.updMine (o := .dK (mergeK [] kvs)) nF' nO'
    have kd2 := kd.merge (kvs := []) (es := []) .nil
    have s3 : Stp F H σ ρ F' (upd H' p (.dK (mergeK [] kvs))) σ ρ' := (l.stp.trans s').updMine hp nF'
    exact k true _ (.dict (mergeD [] ds)) F' _ ρ' g3 s3 ⟨p, rfl, nF', .dk upd_same kd2.1 (kd2.2.gr gr3), hp, nO'⟩ kq) fun _ => rfl
theorem ok_lcm : L2.CallR X (.builtin "math.lcm") (rL2 X.k .lcm) := by
  intro pins s σ H vs us Q I r h
  obtain ⟨x, y, rfl, F, dx, dy, d, t, hx, hy, ed, k⟩ := h
  have ed : lcmD dx dy = some d := ed
  unfold lcmD at ed
  split at ed
  · rename_i i j _
    split at ed
    · rename_i c
      cases ed
      cases hx.int; cases hy.int
      obtain ⟨t1, t2, rfl⟩ := Vals.int2 r
      have e1 : (Nat.lcm 1 i.natAbs).lcm j.natAbs = Int.lcm i j := by rw [Nat.lcm_one_left]; rfl
      have hle : Int.lcm i j < 2 ^ 128 := by
        have h1 : Int.lcm i j ≤ i.natAbs * j.natAbs := by
          by_cases z : i.natAbs * j.natAbs = 0
          · rcases Nat.mul_eq_zero.mp z with q | q
            · show Nat.lcm i.natAbs j.natAbs ≤ _
              rw [q]; simp
            · show Nat.lcm i.natAbs j.natAbs ≤ _
              rw [q]; simp
          · exact Nat.le_of_dvd (Nat.pos_of_ne_zero z) (Nat.lcm_dvd (Nat.dvd_mul_right _ _) (Nat.dvd_mul_left _ _))
        have h2 : i.natAbs * j.natAbs < 2 ^ 64 * 2 ^ 64 := Nat.mul_lt_mul'' (by omega) (by omega)
        have h3 : (2 : Nat) ^ 64 * 2 ^ 64 = 2 ^ 128 := by decide
        omega
      refine PySem.W.mg_lcm (by omega) (by omega) ?_ ?_
      · rw [e1]
        have := PySem.W.mg_log (n := Int.lcm i j) (k := 127) hle
        show (((Int.lcm i j : Nat) : Int)).natAbs.log2 < bitsLine
        rw [Int.natAbs_natCast]
        refine Nat.lt_of_le_of_lt this ?_
        decide
      · rw [e1]
        exact ⟨.int _, H, I.tok _, ⟨_, rfl⟩, k.same t (.int _) rfl⟩
    · cases ed
  · cases ed
end
end Z
/-! sorted of a tuple -/
namespace Z
open PySem PySem.Spec PySem.Calls PyProof.Rows L2
section
variable {prog : Program} {w : World} {A : Around} {E : Value → Shared → Prop} {s : Shared}
theorem collect_tupleZ {l : Addr} {vs : List Value} {Q : List Value → Shared → Prop} (hl : s.heap.IsTuple l vs.toArray)
    (h : Q vs { s with heap := (s.heap.push (seqObj "list" #[] 0)).update s.heap.objs.size (Obj.mapSeq (· ++ vs.toArray)) }) (hsz : vs.length ≤ sizeLine) :
    wpAny (model prog w) A (collect (.ref l)) Q E s := by
  obtain ⟨o, ho, hc, n, hd⟩ := id hl
  unfold collect
  refine wpAny_bind (wpAny_runValue (codeAny_builtin entry_proto_collect' ?_))
  show wpAny _ _ (do again (.builtin "list.__iadd__" ⟨[← newList [], .ref l], []⟩)) _ _ s
  refine wpAny_bind (wpAny_newList (wpAny_pure ⟨Code.quiet_builtin _ (by decide +kernel), codeAny_builtin entry_list_iadd' ?_⟩))
  show wpAny _ _ (Builtin.List.listExtendWith (.ref s.heap.objs.size) (.ref l) (.ref s.heap.objs.size)) _ _ { s with heap := s.heap.push (seqObj "list" #[] 0) }
  unfold Builtin.List.listExtendWith
  have ho' : (s.heap.push (seqObj "list" #[] 0)).get? l = some o := Heap.get?_push_of_some _ ho
  refine wpAny_bind (wpAny_typeOf (T := "tuple") ⟨o, ho', hc⟩ ?_)
  have ht : (Value.type "tuple" == Value.type "tuple") = true := by rfl
  rw [if_pos (by rw [ht]; simp)]
  refine wpAny_bind (listItems_at ho' hd ?_)
  refine wpAny_bind (listItems_at (xs := #[]) (n := 0) (Heap.get?_push_size _ rfl) rfl ?_)
  rw [if_neg (by simp)]
  refine wpAny_bind (listUpdate_at (xs := #[]) (n := 0) (Heap.get?_push_size _ rfl) rfl ?_ (Nat.zero_le _) (by show (#[] ++ vs.toArray).size ≤ sizeLine + 1; simp only [Array.size_append, List.size_toArray, List.length_nil]; omega))
  refine wpAny_pure ?_
  show wpAny (model prog w) A (do
      let o ← load s.heap.objs.size
      match o.data with
      | .seq xs _ => pure xs.toList
      | _ => unsupported "internal:collect") Q E { s with heap := (s.heap.push (seqObj "list" #[] 0)).update s.heap.objs.size (Obj.mapSeq (· ++ vs.toArray)) }
  refine wpAny_bind (wpAny_load (get?_update_seq (Heap.get?_push_size _ rfl) _) ?_)
  show wpAny _ _ (pure ((#[] : Array Value) ++ vs.toArray).toList) Q E _
  rw [show ((#[] : Array Value) ++ vs.toArray).toList = vs by simp]
  exact wpAny_pure h
open PySem.W in
theorem sorted_of_sortT {l : Addr} {vs : List Value} {Q : Value → Shared → Prop} (hl : s.heap.IsTuple l vs.toArray) (hL : vs.length ≤ sizeLine)
    (body : ∀ E' : Value → Shared → Prop, wpAny (model prog w) A.in1.in1 (Builtin.«list.sort» ⟨[.ref (s.heap.objs.size + 1)], []⟩) (fun f s' => f = .done (.ret .none) ∧ Q (.ref (s.heap.objs.size + 1)) s') E' { s with heap := copyHeap s.heap vs }) :
    wpAny (model prog w) A (call (.builtin "sorted") [.ref l]) Q E s := by
  refine call_function_entry_kw kind_sorted plain_sorted entry_sorted (args_sorted1 _) ?_
  unfold Builtin.«sorted»
  refine wpAny_bind (m := checkCount "sorted" 1 1 _) (wpAny_pure ?_)
  refine wpAny_bind (collect_tupleZ hl ?_ hL)
  refine wpAny_bind (wpAny_newList ?_ hL)
  have hsz : ((s.heap.push (seqObj "list" #[] 0)).update s.heap.objs.size (Obj.mapSeq (· ++ vs.toArray))).objs.size = s.heap.objs.size + 1 := by
    rw [Heap.size_update, size_push']
  show wpAny _ _ _ _ _ { s with heap := copyHeap s.heap vs }
  rw [hsz]
  refine wpAny_bind (wpAny_holding (wpAny_call_entry_kw slot_list_sort ⟨_, copyHeap_at s.heap vs, rfl⟩ entry_list_sort ?body (args_list_sort _)))
  case body =>
    show wpAny (model prog w) A.in1.in1 (Builtin.«list.sort» ⟨[.ref (s.heap.objs.size + 1)], []⟩) _ _ _
    refine wpAny_mono (body _) (fun f s' hf => ?_) fun _ _ e => e
    obtain ⟨rfl, hq⟩ := hf
    exact ⟨_, rfl, wpAny_pure ⟨_, rfl, hq⟩⟩
open PySem.W in
theorem sorted_dataT {β : Type} {vs : List Value} {bs : List β} {enc : β → PyData} {R : Value → β → Prop} {l : Addr} {Q : Value → Shared → Prop} (hl : s.heap.IsTuple l vs.toArray) (e : EachIs R vs bs) (er : EachIs (fun v b => ∃ as, Reads s.heap v (enc b) as) vs bs) (hal : AllAlike (bs.map enc)) (hk : Sortable (bs.map enc)) (hL : bs.length ≤ sizeLine)
    (hu : ∀ b, b ∈ bs → A.units + 2 + (enc b).depth < cLine) (h : ∀ out, out.length = bs.length → EachIs R out (bs.mergeSort (dataLe false enc)) → Q (.ref (s.heap.objs.size + 1)) { s with heap := sortedAll s.heap vs (List.toArray out) }) :
    wpAny (model prog w) A (call (.builtin "sorted") [.ref l]) Q E s := by
  have er' : EachIs (fun v b => ∃ as, Reads (sortingHeap (copyHeap s.heap vs) (s.heap.objs.size + 1) vs) v (enc b) as) vs bs := er.mono fun _ _ ⟨as, r⟩ => ⟨as, PyProof.Rows.Reads.keeps (fun _ _ => sorting_copy_old) r⟩
  have hL' : vs.length ≤ sizeLine := by rw [e.length]; exact hL
  exact sorted_of_sortT hl hL' fun _ => list_sort_vals (s := { s with heap := copyHeap s.heap vs }) (copyHeap_at s.heap vs) (SortsAt.data (s := { s with heap := sortingHeap (copyHeap s.heap vs) (s.heap.objs.size + 1) vs }) (each_map (R := fun v d => ∃ as, Reads (sortingHeap (copyHeap s.heap vs) (s.heap.objs.size + 1) vs) v d as) enc er') hal hk (bound_map hu)) hL'
    ⟨rfl, (h _ (by rw [sortVals_length false rfl]; exact e.length) (sortVals_data false e er' hal))⟩
end
section
variable {X : Cx}
theorem ok_sorted_tuple (hu : X.A.units + 70 < cLine) : CallR X (.builtin "sorted") (fun vs H Q => ∃ F x ds, vs = [x] ∧ (∀ a, F a → H a ≠ none) ∧ Rv X.k F H x (.tuple ds) ∧ sortOk ds = true ∧ Res X.k F H true (.list (sortD ds)) Q) := by
  intro pins s σ H xs us Q I rs h
  obtain ⟨F, x, ds, rfl, t, hx, c, k⟩ := h
  obtain ⟨pl, al, dp, so⟩ := sortOk_iff c
  obtain ⟨u, rfl, ru⟩ := vals1 rs
  obtain ⟨a, xs, rfl, q1, t1, w1⟩ := hx.tup
  cases ru
  obtain ⟨its, rv, plL, hz⟩ := I.tuple q1.sq
  have hl1 := rv.length
  have hl2 := t1.length
  have er : PySem.W.EachIs (fun u d => ∃ v, L2.RelV v u ∧ Rp X.k F H v d) its ds := each_of (by omega) fun i u d e1 e2 => by
    obtain ⟨v, e3, r⟩ := t1.get' e2
    obtain ⟨u', e4, r'⟩ := rv.get e3
    rw [e1] at e4
    cases e4
    exact ⟨v, r', r⟩
  have ed : PySem.W.EachIs (fun u d => ∃ as, Reads s.heap u (id d) as) its ds := each_of (by omega) fun i u d e1 e2 => by
    obtain ⟨v, e3, r⟩ := t1.get' e2
    obtain ⟨u', e4, r'⟩ := rv.get e3
    rw [e1] at e4
    cases e4
    exact Dp.reads I d v u (r.dp (plain_mem ds d pl (List.mem_of_getElem? e2))) r'
  have al' : PySem.W.AllAlike (ds.map id) := by rw [List.map_id]; exact al.1
  have so' : PySem.W.Sortable (ds.map id) := by rw [List.map_id]; exact so
  refine sorted_dataT (enc := id) plL er ed al' so' (by omega) (fun b hb => by have := depth_all hb; show _ + 2 + b.depth < _; omega) fun out ho eo => ?_
  obtain ⟨vs', rv', rp'⟩ := RpAll.each eo
  have kp : ∀ b o, s.heap.get? b = some o → (PyProof.Rows.sortedAll s.heap its (List.toArray out)).get? b = some o := fun b o e => PyProof.Rows.sortedAll_old e
  obtain ⟨n, hn⟩ := PyProof.Rows.sortedAll_at s.heap its (List.toArray out)
  have hvl : vs'.length ≤ sizeLine := by rw [rv'.length, ho]; omega
  have I' : Inv X pins σ (upd H (s.heap.objs.size + 1) (.lst vs')) { s with heap := PyProof.Rows.sortedAll s.heap its (List.toArray out) } :=
    I.laid (t' := s.toks) kp (Nat.le_succ _) ⟨hvl, out, n, rv', hn⟩
  exact ⟨.ref _, _, I', rfl, k.lst t rp' (I.hok.fresh (Nat.le_succ _))⟩
end
end Z
/-! list(range(..)) -/
namespace Z
open PySem PySem.Spec PyProof.Rows L2
section
variable {Φ : Nat → Spc} {X : Cx} {a0 b0 : Expr} {a b : E} {pos pos2 p p2 : Pos}
theorem rp_ups {K : Kx} {F : Fz} {H : Hp} (i : Int) (n : Nat) : RpAll K F H ((List.range n).map fun k : Nat => V.int (i + (k : Nat))) (ups i n) := by
  have := RpAll.ints (K := K) (F := F) (H := H) ((List.range n).map fun k : Nat => i + (k : Nat))
  rw [List.map_map, List.map_map] at this
  exact this
theorem sd_rngL2 (hc : X.calm = true) (hl : Gl X "list") (ml : X.mg "list" = none) (hg : Gl X "range") (hm : X.mg "range" = none) (ha : Sd Φ X a0 a) (hb : Sd Φ X b0 b) (n : notStar a0 = true) (n2 : notStar b0 = true) :
    Sd Φ X (.Call (.Name "list" p2) [.Call (.Name "range" p) [a0, b0] [] pos] [] pos2) (.rngL (.rng2 a b)) := by
  refine Sd.plain (fun _ z => nomatch z) rd_rngL ((pe_listRg hc hl ml (prg_2 hg hm ha.op hb.op (star_cons n) (star_cons n2) (star_any (by simp [n2])))).imp fun σ H Q' q => ?_) fun _ => rfl
  obtain ⟨F, ρ, Q, g, h, k⟩ := q
  rw [rd_rngL, plainT_e, rdI_rng2] at h
  refine ⟨F, ρ, _, g, h, fun v o F1 H1 ρ1 g1 s1 ok1 h1 => ⟨F1, ρ1, _, g1, h1, fun w o2 F2 H2 ρ2 g2 s2 ok2 h2 => ?_⟩⟩
  obtain ⟨x, ex, h3⟩ := must_iff.mp h2
  obtain ⟨y, ey, h4⟩ := must_iff.mp h3
  obtain ⟨i, rfl, h5⟩ := mustI_iff h4
  obtain ⟨j, rfl, l1, l2, l3, l4, l5, h6⟩ := mustI_iff h5
  rw [lim_eq] at l1 l2 l3 l4
  obtain ⟨_, h7, h8⟩ := h6
  cases ((ok1.gr (s2.gr g1)).rv g2 ex).int
  cases (ok2.rv g2 ey).int
  refine ⟨i, j, rfl, rfl, ⟨l1, l2, l3, l4, by omega⟩, fun q hq => ?_⟩
  have kk : Res X.k F2 H2 true (.list (ups i (j - i).toNat)) Q' := fun v' F' H' l vn => k true v' _ F' H' ρ2 (l.sg g2) ((s1.trans s2).trans l.stp) (vn.vr g2 (s1.trans s2).tr) h8
  exact kk.lst g2.tr (rp_ups i _) hq
theorem sd_rngL1 (hc : X.calm = true) (hl : Gl X "list") (ml : X.mg "list" = none) (hg : Gl X "range") (hm : X.mg "range" = none) (ha : Sd Φ X a0 a) (n : notStar a0 = true) :
    Sd Φ X (.Call (.Name "list" p2) [.Call (.Name "range" p) [a0] [] pos] [] pos2) (.rngL (.rng1 a)) := by
  refine Sd.plain (fun _ z => nomatch z) rd_rngL ((pe_listRg hc hl ml (prg_1 hg hm ha.op (star_cons n))).imp fun σ H Q' q => ?_) fun _ => rfl
  obtain ⟨F, ρ, Q, g, h, k⟩ := q
  rw [rd_rngL, plainT_e, rdI_rng1] at h
  refine ⟨F, ρ, _, g, h, fun v o F1 H1 ρ1 g1 s1 ok1 h1 => ?_⟩
  obtain ⟨x, ex, h2⟩ := must_iff.mp h1
  obtain ⟨i, rfl, h3, h4, h5⟩ := mustI_iff h2
  rw [lim_eq] at h3
  obtain ⟨_, h7, h8⟩ := h5
  cases (ok1.rv g1 ex).int
  refine ⟨i, rfl, ⟨by omega, by omega, by omega, by omega, by omega⟩, fun q hq => ?_⟩
  have kk : Res X.k F1 H1 true (.list (ups 0 i.toNat)) Q' := fun v' F' H' l vn => k true v' _ F' H' ρ1 (l.sg g1) (s1.trans l.stp) (vn.vr g1 s1.tr) h8
  have := kk.lst g1.tr (rp_ups 0 _) hq
  rw [show rgV 0 i = (List.range i.toNat).map fun k : Nat => V.int (0 + (k : Nat)) by unfold rgV; simp]
  exact this
end
end Z

/-! sets of ints and texts: made of a list, told in order, counted -/
namespace Z
open PySem PySem.Spec PyProof.Rows L2
abbrev set0 (w : World) : Obj := { cls := .type "set", dict := none, data := .set #[] 0 (.fresh 0 0 (!w.params.followText "set-order")) }
def keyM (e : Int × Value) : Key := match e.2 with
  | .int k _ => .inl k
  | .str x _ => .inr x
  | _ => .inl 0
def GoodM (w : World) (e : Int × Value) : Prop := ∃ k : Key, keyIs k e.2 = true ∧ e.1 = keyH w k
theorem keyM_of {e : Int × Value} {k : Key} (h : keyIs k e.2 = true) : keyM e = k := by
  obtain ⟨n, v⟩ := e
  rcases keyIs_shape h with ⟨i, t, rfl, e⟩ | ⟨x, t, rfl, e⟩
  · have e : v = Value.int i t := e
    subst e; rfl
  · have e : v = Value.str x t := e
    subst e; rfl
theorem scan_of {v : Value} {k : Key} (h : keyIs k v = true) : v.scannable = true := by
  rcases keyIs_shape h with ⟨i, t, rfl, rfl⟩ | ⟨x, t, rfl, rfl⟩ <;> rfl
section
variable {P : Program} {w : World}
theorem keyIs_iff {e : Int × Value} (g : GoodM w e) (k : Key) : (mixKind P w).is k e.2 = true ↔ keyM e = k := by
  obtain ⟨k0, h0, _⟩ := g
  refine ⟨fun h => keyM_of h, fun h => ?_⟩
  rw [keyM_of h0] at h
  subst h
  exact h0
theorem goodM_elems {l : List (Int × Value)} (g : ∀ e ∈ l, GoodM w e) : ElemsOf (mixKind P w) l := fun e he => by
  obtain ⟨k, h1, h2⟩ := g e he
  exact ⟨⟨k, h1, h2⟩, scan_of h1⟩
/-- the set at a holds the keys of L; it can be walked -/
def SetM (w : World) (h : Heap) (a : Addr) (L : List Key) : Prop :=
  ∃ o es ep t, h.get? a = some o ∧ o.ExactSet ∧ o.data = .set es ep t ∧ (∀ e ∈ es.toList, GoodM w e) ∧ (es.toList.map keyM).Nodup ∧ (∀ k, k ∈ L ↔ k ∈ es.toList.map keyM) ∧
    es.size ≤ L.length ∧ es.size < scanBound ∧ t.fits es.size = true ∧ Ris t.place.toList ∧ (w.params.followText "set-order" = true ∨ t.led = true)
theorem SetM.at {h h' : Heap} {a : Addr} {L : List Key} (R : SetM w h a L) (k : ∀ o, h.get? a = some o → h'.get? a = some o) : SetM w h' a L :=
  let ⟨o, es, ep, t, ho, r⟩ := R; ⟨o, es, ep, t, k o ho, r⟩
theorem setM_fresh {h : Heap} {a : Addr} (ho : h.get? a = some (set0 w)) : SetM w h a [] :=
  ⟨_, #[], 0, _, ho, ⟨rfl, rfl, rfl⟩, rfl, (fun e he => by simp at he), (by simp), (fun k => by simp), Nat.le_refl _, (by decide), (by rfl), List.Pairwise.nil, by
    show _ ∨ (!w.params.followText "set-order") = true
    cases w.params.followText "set-order"
    · exact .inr rfl
    · exact .inl rfl⟩
end
section
variable {P : Program} {w : World} {A : Around} {E : Value → Shared → Prop} {s : Shared} {a : Addr} {L : List Key}
/-- behind a key that is laid -/
theorem setM_tail {g : Bool → Sem Unit} (hg : ∀ (b : Bool) (s₁ : Shared) (Q' : Unit → Shared → Prop), Q' () s₁ → wpAny (model P w) A (g b) Q' E s₁) {o : Obj} {es es1 : Array (Int × Value)} {ep : Nat} {t t2 : SetTable} {L' : List Key}
    (ho : s.heap.get? a = some o) (ex : o.ExactSet) (od : o.data = .set es ep t) (g1 : ∀ e ∈ es1.toList, GoodM w e) (nd : (es1.toList.map keyM).Nodup) (mm : ∀ k, k ∈ L' ↔ k ∈ es1.toList.map keyM) (sl : es1.size ≤ L'.length) (sb : es1.size < scanBound)
    (ff : t2.fits es1.size = true) (ri : Ris t2.place.toList) (le : w.params.followText "set-order" = true ∨ t2.led = true) {wd : Bool} {R : Option Bool → Shared → Prop} (hR : ∀ h', Heap.SameBut a s.heap h' → SetM w h' a L' → R (some true) { s with heap := h' }) :
    wpAny (model P w) A (do
        storeSet a es1 t2
        if (!wd && t2.tooFull) = true then do
            g (relayAll t2 es1 (SetTable.grown es1.size)).2.2
            storeSet a (relayAll t2 es1 (SetTable.grown es1.size)).1 (relayAll t2 es1 (SetTable.grown es1.size)).2.1
            pure (some true)
          else pure (some true)) R E s := by
  refine wpAny_bind (wpAny_storeSet_of ho od ?_ (fits_of_scanBound sb))
  have o1 := store_at (es' := es1) (t' := t2) ho od
  have u1 := Heap.SameBut.update s.heap a (Obj.putSet es1 t2)
  split
  · have q1 := relayAll_perm t2 es1 (SetTable.grown es1.size)
    have q2 := relayAll_fits t2 es1 (SetTable.grown es1.size)
    have q3 := relayAll_ris t2 es1 (SetTable.grown es1.size)
    have q4 := relayAll_led t2 es1 (SetTable.grown es1.size)
    generalize relayAll t2 es1 (SetTable.grown es1.size) = Y at q1 q2 q3 q4 ⊢
    obtain ⟨es2, t3, gv⟩ := Y
    dsimp only at q1 q2 q3 q4 ⊢
    have ez : es2.size = es1.size := by rw [← Array.length_toList, q1.length_eq, Array.length_toList]
    refine wpAny_bind (hg _ _ _ ?_)
    refine wpAny_bind (wpAny_storeSet_of o1 rfl ?_ (fits_of_scanBound (by omega)))
    have o2 := store_at (es' := es2) (t' := t3) o1 rfl
    refine wpAny_pure (hR _ (u1.trans (Heap.SameBut.update _ a _)) ⟨_, es2, _, t3, o2, ex, rfl, fun e he => g1 e (q1.mem_iff.mp he), (q1.map keyM).nodup_iff.mpr nd, fun k => (mm k).trans (q1.map keyM).mem_iff.symm, by omega, by omega, q2, q3, le.imp id fun z => by rw [q4]; exact z⟩)
  · exact wpAny_pure (hR _ u1 ⟨_, es1, _, t2, o1, ex, rfl, g1, nd, mm, sl, sb, ff, ri, le⟩)
/-- one key more -/
theorem setM_add {k : Key} {x : Value} {Q : Bool → Shared → Prop} (hx : keyIs k x = true) (R : SetM w s.heap a L) (room : L.length + 1 < scanBound)
    (hQ : ∀ b h', Heap.SameBut a s.heap h' → SetM w h' a (L ++ [k]) → Q b { s with heap := h' }) : wpAny (model P w) A (setAddHashed a x ((mixKind P w).hash k)) Q E s := by
  obtain ⟨o, es, ep, t, ho, ex, od, g, nd, mm, sl, sb, ff, ri, le⟩ := R
  have el : ElemsOf (mixKind P w) es.toList := goodM_elems g
  have sc := scan_of hx
  have hit : ∀ q : Key, q ∈ es.toList.map keyM ↔ ∃ e ∈ es.toList, (mixKind P w).is q e.2 = true := fun q => by
    rw [List.mem_map]
    exact ⟨fun ⟨e, he, z⟩ => ⟨e, he, (keyIs_iff (g e he) q).2 z⟩, fun ⟨e, he, z⟩ => ⟨e, he, (keyIs_iff (g e he) q).1 z⟩⟩
  unfold setAddHashed setAddHashedIn
  refine wpAny_holding (wpAny_bind (wpAny_setState_of ho od ff ?_))
  dsimp only
  rw [byScan_of sc sb el]
  simp only [↓reduceIte]
  unfold setAddByScan
  refine wpAny_bind ?_
  refine wpAny_bind (wpAny_rule ?_)
  refine wpAny_bind (wpAny_setScan_of (knd := mixKind P w) hx ho od ff el ?_)
  cases fi : List.findIdx? (fun e => (mixKind P w).is k e.2) es.toList with
  | some j =>
    dsimp only
    obtain ⟨hj, pj, _⟩ := List.findIdx?_eq_some_iff_getElem.mp fi
    have hk : k ∈ es.toList.map keyM := (hit k).2 ⟨_, List.getElem_mem hj, pj⟩
    refine wpAny_pure (wpAny_pure (hQ _ s.heap (Heap.SameBut.refl a s.heap) ⟨o, es, ep, t, ho, ex, od, g, nd, fun q => ?_, by rw [List.length_append]; omega, sb, ff, ri, le⟩))
    rw [List.mem_append, List.mem_singleton, mm q]
    exact ⟨fun z => z.elim id fun e => e ▸ hk, .inl⟩
  | none =>
    dsimp only
    have nk : k ∉ es.toList.map keyM := fun z => by
      obtain ⟨e, he, q⟩ := (hit k).1 z
      have := List.findIdx?_eq_none_iff.mp fi e he
      rw [q] at this
      cases this
    have gw : ∀ (b : Bool) {s₁ : Shared} {Q' : Unit → Shared → Prop}, Q' () s₁ → wpAny (model P w) A (match b with | true => rule "set.scan.the-table-gave-way" | false => pure ()) Q' E s₁ :=
      fun b _ _ q => by cases b <;> first | exact wpAny_pure q | exact wpAny_rule q
    have n1 := layNew_perm t es ((mixKind P w).hash k) x
    have n2 := layNew_fits t es ((mixKind P w).hash k) x
    have n3 := layNew_ris t es ((mixKind P w).hash k) x ri
    have n4 := layNew_led t es ((mixKind P w).hash k) x
    generalize layNew t es ((mixKind P w).hash k) x = Y at n1 n2 n3 n4 ⊢
    obtain ⟨es1, t1, wd, gv⟩ := Y
    dsimp only at n1 n2 n3 n4 ⊢
    rw [Array.toList_push] at n1
    have pc : es1.toList.Perm (((mixKind P w).hash k, x) :: es.toList) := n1.trans (List.perm_append_singleton _ _)
    have ek : keyM ((mixKind P w).hash k, x) = k := keyM_of hx
    have pk : (es1.toList.map keyM).Perm (k :: es.toList.map keyM) := by
      have := pc.map keyM
      rw [List.map_cons, ek] at this
      exact this
    have g1 : ∀ e ∈ es1.toList, GoodM w e := fun e he => by
      rcases List.mem_cons.mp (pc.mem_iff.mp he) with z | z
      · rw [z]; exact ⟨k, hx, rfl⟩
      · exact g e z
    have d1 : (es1.toList.map keyM).Nodup := pk.nodup_iff.mpr (List.nodup_cons.mpr ⟨nk, nd⟩)
    have m1 : ∀ q, q ∈ L ++ [k] ↔ q ∈ es1.toList.map keyM := fun q => by
      rw [List.mem_append, List.mem_singleton, mm q, pk.mem_iff, List.mem_cons]
      exact Or.comm
    have ez : es1.size = es.size + 1 := by rw [← Array.length_toList, pc.length_eq, List.length_cons, Array.length_toList]
    have sl1 : es1.size ≤ (L ++ [k]).length := by rw [List.length_append]; simp; omega
    have le1 : w.params.followText "set-order" = true ∨ t1.led = true := le.imp id fun z => by rw [n4]; exact z
    refine wpAny_bind (gw _ ?_)
    split
    · refine wpAny_bind ?_
      rw [hashByValue_scannable 8 sc]
      refine wpAny_pure (setM_tail (L' := L ++ [k]) ?_ ho ex od g1 d1 m1 sl1 (by omega) ?_ ?_ ?_ ?_)
      · intro b s₁ Q' q; cases b <;> first | exact wpAny_pure q | exact wpAny_rule q
      · first | (split <;> first | exact n2 | exact SetTable.fits_plain_off n2) | exact n2
      · first | (split <;> exact n3) | exact n3
      · first | (split <;> exact le1) | exact le1
      · intro h' sm r; dsimp only; exact wpAny_pure (hQ _ h' sm r)
    · refine wpAny_bind (wpAny_pure ?_)
      simp only [↓reduceIte]
      refine setM_tail (L' := L ++ [k]) ?_ ho ex od g1 d1 m1 sl1 (by omega) n2 n3 le1 ?_
      · intro b s₁ Q' q; cases b <;> first | exact wpAny_pure q | exact wpAny_rule q
      · intro h' sm r; dsimp only; exact wpAny_pure (hQ _ h' sm r)
end
/-- the loop that takes the things in -/
theorem set_takes {P : Program} {w : World} {A : Around} {I : Addr} {fp wr : List Addr} {G : Array GenState → Array GenState → Prop} {n : Nat} {Pv : Nat → Value → Prop} {St : Nat → Shared → Prop} {R : Result → Shared → Prop}
    (W : WalksS P w A.in1 I fp wr G n Pv St) (S : Addr) (nf : S ∉ fp) (ks : List Key) (hn : n = ks.length) (hb : ks.length + 1 < scanBound) (hv : ∀ i v, Pv i v → ∃ k, ks[i]? = some k ∧ keyIs k v = true) :
    ∀ (m i : Nat) (s : Shared), n - i = m → i ≤ n → St i s → SetM w s.heap S (ks.take i) → (∀ s', Moved (S :: wr) G s s' → SetM w s'.heap S ks → R (.ok (.ret .none)) s') → codeAny (model P w) A (.builtin "set.update.loop" ⟨[.ref S, .ref I], []⟩) R s := by
  have nw : S ∉ wr := fun h => nf (W.sub _ h)
  have up : ∀ b ∈ wr, b ∈ S :: wr := fun b hb => List.mem_cons_of_mem _ hb
  intro m
  induction m with
  | zero =>
    intro i s e hi st hS hR
    have hin : i = n := by omega
    subst hin
    refine codeAny_builtin F.entry_set_update_loop ?_
    rw [Around.under_plainId F.plain_set_update_loop _]
    show wpAny _ A.in1 (pyNext (.ref I) >>= _) _ _ s
    refine wpAny_bind (W.done s _ _ st fun s' mv => ?_)
    rw [List.take_of_length_le (by omega)] at hS
    exact wpAny_pure (hR s' (mv.mono up) (hS.at fun o e => mv.heap S o nw e))
  | succ m ih =>
    intro i s e hi st hS hR
    have lt : i < n := by omega
    refine codeAny_builtin F.entry_set_update_loop ?_
    rw [Around.under_plainId F.plain_set_update_loop _]
    show wpAny _ A.in1 (pyNext (.ref I) >>= _) _ _ s
    refine wpAny_bind (W.item i s _ _ lt st fun v s' pv st' mv => ?_)
    obtain ⟨k, hk, kv⟩ := hv i v pv
    have S1 := hS.at fun o e => mv.heap S o nw e
    show wpAny _ A.in1 (holding [v] (setAdd S v) >>= _) _ _ s'
    refine wpAny_bind (wpAny_holding ?_)
    unfold setAdd
    refine wpAny_holding ?_
    refine wpAny_bind ((mixKind P w).pyHash (k := k) kv ?_)
    refine setM_add (s := { s' with toks := s'.toks + 1 }) kv S1 (by rw [List.length_take]; omega) fun b h' sm S2 => ?_
    have S3 : SetM w h' S (ks.take (i + 1)) := by rw [List.take_add_one, hk]; exact S2
    refine wpAny_pure ⟨plainId_quiet F.plain_set_update_loop _, ih (i + 1) _ (by omega) lt (W.frame _ s' _ _ st' ?_ fun c hc o e => ?_) S3 fun s'' mv2 S4 => ?_⟩
    · first | exact Nat.le_succ _ | exact Nat.le_add_right _ _
    · rw [sm.2 c (fun h : c = S => nf (by rw [← h]; exact hc))]; exact e
    · refine hR s'' (Moved.trans W.gtrans ((mv.mono up).then_heap ?_ fun c o hc e => ?_) mv2) S4
      · first | exact Nat.le_succ _ | exact Nat.le_add_right _ _
      · rw [sm.2 c (fun h : c = S => hc (by rw [h]; exact List.mem_cons_self))]; exact e
end Z
namespace Z
open PySem PySem.Spec PyProof.Rows L2
section
variable {P : Program} {w : World} {A : Around} {E : Value → Shared → Prop} {s : Shared}
set_option maxHeartbeats 6400000 in
/-- set(l), l a list of ints or texts -/
theorem call_setZ {l : Addr} {items : Array Value} (ks : List Key) {Q : Value → Shared → Prop} (hh : A.handled = none) (hl : s.heap.IsList l items) (hz : items.size = ks.length) (hv : ∀ (i : Nat) (v : Value), items[i]? = some v → ∃ k, ks[i]? = some k ∧ keyIs k v = true) (hb : ks.length + 1 < scanBound)
    (h : ∀ (h' : Heap) (tk : Nat), SetM w h' s.heap.objs.size ks → (∀ b o, s.heap.get? b = some o → h'.get? b = some o) → Q (.ref s.heap.objs.size) { s with heap := h', toks := tk }) :
    wpAny (model P w) A (call (.type "set") [.ref l]) Q E s := by
  obtain ⟨c, tl, mro⟩ := F.called_set.mro
  have made := F.called_set.made
  have sub := F.called_set.sub
  refine wpAny_call (codeAny_of_tree ?_)
  show wpAny _ _ (callAny (.type "set") _) _ _ _
  refine wpAny_pure ⟨Code.quiet_builtin _ (by decide +kernel), codeAny_builtin F.entry_type_call ?_⟩
  rw [Around.under_plain (weight_type_call_type "set" [.ref l] []) rfl]
  have c1 := F.called_set.notType
  have c2 := F.called_set.canCreate
  have c3 := F.typeCall_set_1 (.ref l)
  repeat (any_goals (first | assumption | wp_step))
  refine codeAny_mono (code_set_led1 (.ref l) (E := E) (Q₁ := fun ob s₁ => ob = .ref s.heap.objs.size ∧ s₁ = { s with heap := s.heap.push (set0 w) }) ⟨rfl, rfl⟩) fun r s₁ hr => ?_
  cases r with
  | error e => exact hr
  | ok fl =>
    cases fl with
    | ret ob =>
      obtain ⟨rfl, rfl⟩ := hr
      have S0 : (s.heap.push (set0 w)).get? s.heap.objs.size = some (set0 w) := Heap.get?_push_size _ rfl
      have T0 : Shared.TypeIs { s with heap := s.heap.push (set0 w) } (.ref s.heap.objs.size) "set" := ⟨_, S0, rfl⟩
      have li := F.called_set.init.lookup
      have bi := F.called_set.init.bind (.ref s.heap.objs.size)
      repeat (any_goals (first | assumption | wp_step))
      refine codeAny_mono (codeAny_call_builtin (R := wants (fun r s₂ => r = .none ∧ ∃ h' tk, s₂ = { s with heap := h', toks := tk } ∧ SetM w h' s.heap.objs.size ks ∧ (∀ b o, s.heap.get? b = some o → h'.get? b = some o)) E) F.called_set.init.plain F.entry_set_init (check_set_init_1 T0 ?_)) fun r₂ s₂ hr₂ => ?_
      · obtain ⟨ol, gl, cl, nl, dl⟩ := hl
        obtain ⟨oc, od, oa, os⟩ := ol
        simp only at cl dl
        subst cl; subst dl
        have gl' : (s.heap.push (set0 w)).get? l = some { cls := .type "list", dict := od, data := .seq items nl, slots := os } := Heap.get?_push_of_some _ gl
        have s1 := F.sub_list_set
        have s2 := F.sub_list_frozenset
        have ne : (Value.type "list" == Value.type "dict") = false := by decide
        have l1 : (s.heap.push (set0 w)).IsList l items := ⟨_, gl', rfl, nl, rfl⟩
        unfold Builtin.«set.__init__» noKeywords Builtin.Frozenset.updateFrom
        generalize hPI : pyIter = PI
        wp_walk
        subst hPI
        refine wpAny_pyIter_list l1 ?_
        refine wpAny_bind (wpAny_runValue ?_)
        have lt : l < s.heap.objs.size := Heap.lt_size gl
        have h3 : A.in1.in1.in1.handled = none := by simp [hh]
        have nI : l ≠ (s.heap.push (set0 w)).objs.size := by
          rw [Heap.size_push]; exact Nat.ne_of_lt (Nat.lt_succ_of_lt lt)
        have nS : s.heap.objs.size ∉ [(s.heap.push (set0 w)).objs.size, l] := by
          rw [Heap.size_push]
          simp only [List.mem_cons, List.not_mem_nil, or_false, not_or]
          exact ⟨Nat.ne_of_lt (Nat.lt_succ_self _), Nat.ne_of_gt lt⟩
        refine set_takes ((Walks.list h3 _ l nI items).toS) s.heap.objs.size nS ks hz hb hv (items.size - 0) 0 _ (by omega) (Nat.zero_le _) ⟨⟨_, Heap.get?_push_size _ rfl, rfl, rfl⟩, (l1.push _)⟩ (setM_fresh (Heap.get?_push_of_some _ S0)) fun s' mv S1 => ?_
        obtain ⟨h', g2, d', tk', os'⟩ := s'
        have eg : g2 = s.gens := mv.gens
        have ed : d' = s.drawn := mv.drawn
        have eo : os' = s.os := mv.os
        subst eg; subst ed; subst eo
        show wpAny _ _ _ _ _ _
        refine wpAny_pure ?_
        show wpAny _ _ (ret Value.none) _ _ _
        refine wpAny_pure ⟨rfl, h', tk', rfl, S1, fun b o e => ?_⟩
        have b0 : b < s.heap.objs.size := Heap.lt_size e
        refine mv.heap b o ?_ (Heap.get?_push_of_some _ (Heap.get?_push_of_some _ e))
        rw [Heap.size_push]
        simp only [List.mem_cons, List.not_mem_nil, or_false, not_or]
        exact ⟨Nat.ne_of_lt b0, Nat.ne_of_lt (Nat.lt_succ_of_lt b0)⟩
      · cases r₂ with
        | error e => exact hr₂
        | ok fl₂ =>
          cases fl₂ with
          | ret r =>
            obtain ⟨rfl, h', tk, rfl, S1, kp⟩ := hr₂
            repeat (any_goals (first | assumption | wp_step))
            exact h _ _ S1 kp
          | _ => exact hr₂.elim
    | _ => exact hr.elim
/-- the datum of an int or a text -/
def dOf : Value → PyData
  | .int k _ => .int k
  | .str x _ => .str x
  | _ => .none
theorem dOf_key {k : Key} {v : Value} (h : keyIs k v = true) : dOf v = keyV k := by
  rcases keyIs_shape h with ⟨i, t, rfl, rfl⟩ | ⟨x, t, rfl, rfl⟩ <;> rfl
theorem keyV_inj {a b : Key} (h : keyV a = keyV b) : a = b := by
  cases a <;> cases b <;> cases h <;> rfl
theorem reads_key {h : Heap} {k : Key} {v : Value} (e : keyIs k v = true) : Reads h v (keyV k) [] := by
  rcases keyIs_shape e with ⟨i, t, rfl, rfl⟩ | ⟨x, t, rfl, rfl⟩
  · exact .int i t
  · exact .str x t
/-- sorted(s) of such a set -/
theorem sorted_setZ {a : Addr} {ks : List Key} {Q : Value → Shared → Prop} (R : SetM w s.heap a ks) (hh : A.handled = none) {ds : List PyData} (al : W.AllAlike ds) (so : W.Sortable ds) (hd : ds.Nodup) (hk : ∀ k, k ∈ ks ↔ keyV k ∈ ds) (hds : ∀ d ∈ ds, ∃ k, d = keyV k) (hu : A.units + 12 < cLine) (hl : ds.length ≤ sizeLine)
    (h : ∀ s' p (out : Array Value) (c : Nat) (es : List PyData), (∀ b o, s.heap.get? b = some o → s'.heap.get? b = some o) → s'.gens = s.gens → s'.os = s.os → s.heap.objs.size ≤ p →
      s'.heap.get? p = some (seqObj "list" out c) → es.Perm ds → W.EachIs (fun u d => ∃ k, d = keyV k ∧ keyIs k u = true) out.toList (es.mergeSort (W.dataLe false id)) → Q (.ref p) s') :
    wpAny (model P w) A (call (.builtin "sorted") [.ref a]) Q E s := by
  obtain ⟨o, es, ep, t, ho, ex, od, g, nd, mm, sl, sb, ff, ri, le⟩ := R
  refine Calls.call_function_entry kind_sorted plain_sorted entry_sorted (args_sorted1 _) ?_
  unfold Builtin.«sorted»
  refine wpAny_bind (m := checkCount "sorted" 1 1 _) (wpAny_pure ?_)
  refine wpAny_bind (collect_set (A := A.in1) hh ⟨o, ho, ex.1, od⟩ ff sb ri le fun s1 vs k1 z1 g1 o1 pm => ?_)
  have vk : ∀ v ∈ vs, ∃ k : Key, keyIs k v = true := fun v hv => by
    obtain ⟨e, he, q⟩ := List.mem_map.mp (pm.mem_iff.mp hv)
    obtain ⟨k, h1, _⟩ := g e he
    exact ⟨k, by rw [← q]; exact h1⟩
  have dk : (es.toList.map (·.2)).map dOf = (es.toList.map keyM).map keyV := by
    rw [List.map_map, List.map_map]
    refine List.map_congr_left fun e he => ?_
    obtain ⟨k, h1, _⟩ := g e he
    show dOf e.2 = keyV (keyM e)
    rw [dOf_key h1, keyM_of h1]
  have pd : (vs.map dOf).Perm ds := by
    refine (pm.map dOf).trans ?_
    rw [dk]
    have n2 : ((es.toList.map keyM).map keyV).Nodup := List.pairwise_map.mpr (nd.imp fun z q => z (keyV_inj q))
    refine (List.perm_ext_iff_of_nodup n2 hd).2 fun d => ?_
    rw [List.mem_map]
    constructor
    · rintro ⟨k, hk1, rfl⟩
      exact (hk k).1 ((mm k).2 hk1)
    · intro q
      obtain ⟨k, rfl⟩ := hds d q
      exact ⟨k, (mm k).1 ((hk k).2 q), rfl⟩
  have vl : vs.length ≤ sizeLine := by
    have := pd.length_eq
    rw [List.length_map] at this
    omega
  have al' : W.AllAlike (vs.map dOf) := fun x hx y hy => al x (pd.mem_iff.mp hx) y (pd.mem_iff.mp hy)
  have so' : W.Sortable (vs.map dOf) := by
    rcases so with q | q
    · exact .inl fun x hx => q x (pd.mem_iff.mp hx)
    · exact .inr fun x hx => q x (pd.mem_iff.mp hx)
  have dv : ∀ (i : Nat) (u : Value) (d : PyData), vs[i]? = some u → (vs.map dOf)[i]? = some d → ∃ k, d = keyV k ∧ keyIs k u = true := fun i u d e1 e2 => by
    rw [List.getElem?_map, e1] at e2
    obtain ⟨k, hk1⟩ := vk u (List.mem_of_getElem? e1)
    have e2 : dOf u = d := Option.some.inj e2
    exact ⟨k, by rw [← e2, dOf_key hk1], hk1⟩
  refine wpAny_bind (wpAny_newList ?_ vl)
  have oL : (s1.heap.push (seqObj "list" vs.toArray 0)).get? s1.heap.objs.size = some (seqObj "list" vs.toArray 0) := Heap.get?_push_size _ rfl
  have er : ∀ hp : Heap, W.EachIs (fun v d => ∃ as, Reads hp v d as) vs (vs.map dOf) := fun hp => each_of (by simp) fun i u d e1 e2 => by
    obtain ⟨k, rfl, hk1⟩ := dv i u d e1 e2
    exact ⟨_, reads_key hk1⟩
  refine wpAny_bind (wpAny_holding (wpAny_call_entry_kw slot_list_sort ⟨_, oL, rfl⟩ entry_list_sort ?body (args_list_sort _)))
  case body =>
    refine wpAny_mono (W.list_sort_vals (P := fun f s' => f = .done (.ret .none) ∧ Q (.ref s1.heap.objs.size) s') (s := { s1 with heap := s1.heap.push (seqObj "list" vs.toArray 0) }) oL (W.SortsAt.data (er _) al' so' (fun d hd' => ?_)) vl ⟨rfl, ?_⟩) (fun f s' hf => ?_) fun _ _ e => e
    · obtain ⟨k, rfl⟩ := hds d (pd.mem_iff.mp hd')
      have : (keyV k).depth ≤ 1 := by cases k <;> simp [keyV, PyData.depth]
      show A.units + 2 + (keyV k).depth < cLine
      omega
    · obtain ⟨c, hc⟩ := sortedHeap_at (vs := vs) (out := (W.sortVals (W.dataKind (W.sortingHeap (s1.heap.push (seqObj "list" vs.toArray 0)) s1.heap.objs.size vs) (vs.map dOf)) false vs vs).toArray) oL
      have eo := W.sortVals_data (R := fun u d => ∃ k, d = keyV k ∧ keyIs k u = true) (enc := id) (bs := vs.map dOf) (h' := W.sortingHeap (s1.heap.push (seqObj "list" vs.toArray 0)) s1.heap.objs.size vs) false (each_of (by simp) dv) (er _) (by rw [List.map_id]; exact al')
      rw [List.map_id] at eo
      refine h _ s1.heap.objs.size _ c (vs.map dOf) (fun b u e => ?_) g1 o1 z1 hc pd eo
      have q := k1 b u e
      have lt := Heap.lt_size q
      show (sortedHeap (s1.heap.push (seqObj "list" vs.toArray 0)) s1.heap.objs.size vs _).get? b = some u
      rw [sortedHeap_old (Nat.ne_of_lt lt) (by rw [size_push']; exact Nat.lt_succ_of_lt lt)]
      exact Heap.get?_push_of_some _ q
    · obtain ⟨rfl, q⟩ := hf
      exact ⟨_, rfl, wpAny_pure ⟨_, rfl, q⟩⟩
end
end Z

/-! sorted(set(..)), len(set(..)) read -/
namespace Z
open PySem PySem.Spec PyProof.Rows L2
theorem leD_tot : PySem.W.TotalLe leD := by
  show PySem.W.TotalLe (PySem.W.sortLe _ false fun b => _)
  exact PySem.W.sortLe_total _ _ _
theorem leD_lt (x y : PyData) : leD x y = !PySem.W.dataLt y x := rfl
theorem key0_shape {d : PyData} (h : isKey0 d = true) : ∃ k : Key, d = keyV k := by
  cases d with
  | int i => exact ⟨.inl i, rfl⟩
  | str i => exact ⟨.inr i, rfl⟩
  | _ => cases h
theorem leD_anti {a b : Key} (al : W.alike (keyV a) (keyV b) = true) (h1 : leD (keyV a) (keyV b) = true) (h2 : leD (keyV b) (keyV a) = true) : keyV a = keyV b := by
  rw [leD_lt] at h1 h2
  simp only [Bool.not_eq_true'] at h1 h2
  cases a with
  | inl i =>
    cases b with
    | inl j =>
      have e1 : W.dataLt (PyData.int j) (PyData.int i) = false := h1
      have e2 : W.dataLt (PyData.int i) (PyData.int j) = false := h2
      rw [W.dataLt_int] at e1 e2
      have e1 := of_decide_eq_false e1
      have e2 := of_decide_eq_false e2
      show PyData.int i = PyData.int j
      congr 1
      omega
    | inr y => simp [W.alike, keyV] at al
  | inr x =>
    cases b with
    | inl j => simp [W.alike, keyV] at al
    | inr y =>
      have e1 : W.dataLt (PyData.str y) (PyData.str x) = false := h1
      have e2 : W.dataLt (PyData.str x) (PyData.str y) = false := h2
      rw [W.dataLt_str] at e1 e2
      have e1 := of_decide_eq_false e1
      have e2 := of_decide_eq_false e2
      show PyData.str x = PyData.str y
      congr 1
      refine PySem.W.str_of_cps ?_
      exact congrArg Array.toList (Array.le_antisymm (by simpa using e1) (by simpa using e2))
theorem sort_perm_keys {es ds : List PyData} (p : es.Perm ds) (hk : ∀ d ∈ ds, isKey0 d = true) (al : W.AllAlike ds) : es.mergeSort leD = ds.mergeSort leD := by
  have pw : ∀ xs : List PyData, (xs.mergeSort leD).Pairwise fun a b => leD a b = true := fun xs => List.pairwise_mergeSort (fun a b c => leD_tot.trans a b c) (fun a b => by simpa using leD_tot.total a b) xs
  refine List.Perm.eq_of_pairwise (le := fun a b => leD a b = true) (fun a b ha hb h1 h2 => ?_) (pw es) (pw ds) ((List.mergeSort_perm es leD).trans (p.trans (List.mergeSort_perm ds leD).symm))
  have ha := p.mem_iff.mp ((List.mergeSort_perm es leD).mem_iff.mp ha)
  have hb := (List.mergeSort_perm ds leD).mem_iff.mp hb
  obtain ⟨k, rfl⟩ := key0_shape (hk a ha)
  obtain ⟨l, rfl⟩ := key0_shape (hk b hb)
  exact leD_anti (al _ ha _ hb) h1 h2
theorem dedup_mem : ∀ {ds : List PyData} (hk : ∀ d ∈ ds, isKey0 d = true) (d : PyData), d ∈ dedup ds ↔ d ∈ ds
  | [], _, d => by simp [dedup]
  | x :: ds, hk, d => by
    rw [dedup, List.mem_cons, List.mem_cons, List.mem_filter, dedup_mem (fun y hy => hk y (List.mem_cons_of_mem _ hy)) d]
    constructor
    · rintro (h | h)
      · exact .inl h
      · exact .inr h.1
    · rintro (h | h)
      · exact .inl h
      · by_cases e : d = x
        · exact .inl e
        · refine .inr ⟨h, ?_⟩
          obtain ⟨k, rfl⟩ := key0_shape (hk d (List.mem_cons_of_mem _ h))
          obtain ⟨l, rfl⟩ := key0_shape (hk x List.mem_cons_self)
          have q := keyEq_iff k l
          have ne : k ≠ l := fun z => e (by rw [z])
          rw [decide_eq_false ne] at q
          have q : PyData.eqv (keyV k) (keyV l) = false := q
          rw [q]; rfl
theorem dedup_nodup : ∀ {ds : List PyData} (hk : ∀ d ∈ ds, isKey0 d = true), (dedup ds).Nodup
  | [], _ => List.nodup_nil
  | x :: ds, hk => by
    rw [dedup]
    refine List.nodup_cons.mpr ⟨fun h => ?_, (dedup_nodup fun y hy => hk y (List.mem_cons_of_mem _ hy)).filter _⟩
    have q := (List.mem_filter.mp h).2
    obtain ⟨l, rfl⟩ := key0_shape (hk x List.mem_cons_self)
    have e := keyEq_iff l l
    rw [decide_eq_true rfl] at e
    have e : PyData.eqv (keyV l) (keyV l) = true := e
    rw [e] at q
    cases q
theorem keys_of {K : Kx} {F : Fz} {H : Hp} : ∀ {vs : List V} {ds : List PyData}, RpAll K F H vs ds → (ds.all isKey0) = true → ∃ ks : List Key, ds = ks.map keyV ∧ vs = ks.map kV
  | _, _, .nil, _ => ⟨[], rfl, rfl⟩
  | _, _, .cons r t, h => by
    rw [List.all_cons, Bool.and_eq_true] at h
    obtain ⟨ks, e1, e2⟩ := keys_of t h.2
    obtain ⟨k, rfl⟩ := key0_shape h.1
    exact ⟨k :: ks, by rw [e1]; rfl, by rw [e2, Rv.key (.inl r)]; rfl⟩
theorem rel_keys {K : Kx} {F : Fz} {H : Hp} : ∀ {us : List Value} {ds : List PyData}, W.EachIs (fun u d => ∃ k, d = keyV k ∧ keyIs k u = true) us ds → ∃ vs, Vals vs us ∧ RpAll K F H vs ds
  | _, _, .nil => ⟨[], .nil, .nil⟩
  | _, _, .cons r t => by
    obtain ⟨vs, h1, h2⟩ := rel_keys t
    obtain ⟨k, rfl, hk⟩ := r
    refine ⟨kV k :: vs, .cons (relV_key hk) h1, .cons ?_ h2⟩
    cases k with
    | inl i => exact .int i
    | inr x => exact .str x
section
variable {Φ : Nat → Spc} {X : Cx} {a : Expr} {a0 : E} {ta : TE} {p p2 q pos : Pos}
theorem set_made (hc : X.calm = true) {pins : List (Addr × Obj)} {σ : L2.St} {H : Hp} {s : Shared} {l : Addr} {ks : List Key} {Q : Value → Shared → Prop} (I : Inv X pins σ H s) (hq : H l = some (.lst (ks.map kV))) (hz : ks.length ≤ 4000)
    (h : ∀ (h' : Heap) (tk : Nat), SetM X.w h' s.heap.objs.size ks → Inv X pins σ H { s with heap := h', toks := tk } → Q (.ref s.heap.objs.size) { s with heap := h', toks := tk }) : wpAny (model X.prog X.w) X.A (call (.type "set") [.ref l]) Q X.xe s := by
  obtain ⟨its, rv, pl, _⟩ := I.list (SqL.of hq)
  have hl := rv.length
  rw [List.length_map] at hl
  refine call_setZ ks (I.ok.hd hc) pl.isList (by rw [List.size_toArray]; exact hl.symm) (fun i v hv => ?_) (by unfold scanBound; omega) fun h' tk S kp => h h' tk S (I.kept kp)
  have hv : its[i]? = some v := by rw [← List.getElem?_toArray]; exact hv
  have hi : i < ks.length := by rw [hl]; exact (List.getElem?_eq_some_iff.mp hv).1
  have e1 : (ks.map kV)[i]? = some (kV ks[i]) := by rw [List.getElem?_map, List.getElem?_eq_getElem hi]; rfl
  obtain ⟨v', e2, r⟩ := rv.get e1
  rw [hv] at e2
  cases e2
  exact ⟨_, List.getElem?_eq_getElem hi, kV_is (P := X.prog) (w := X.w) r⟩
theorem setD_cases {dx : PyData} {xs : List PyData} (h : setItems dx = some xs) : dx = .list xs ∧ sortOk xs = true ∧ (xs.all isKey0) = true ∧ xs.length ≤ 4000 := by
  unfold setItems at h
  split at h
  · split at h
    · rename_i c
      cases h
      simp only [Bool.and_eq_true, decide_eq_true_eq] at c
      exact ⟨rfl, c.1.1, c.1.2, c.2⟩
    · cases h
  · cases h
theorem pe_sortedSet (hu : X.A.units + 70 < cLine) (hc : X.calm = true) (hg : Gl X "sorted") (hm : X.mg "sorted" = none) (hg2 : Gl X "set") (hm2 : X.mg "set" = none) (ha : PE X a ta) (na : starEach [a] X.env = (false, eval a X.env) :: starEach [] X.env) :
    PE X (.Call (.Name "sorted" p) [.Call (.Name "set" p2) [a] [] q] [] pos) (tUn (r1 X.k .sortedSet) ta) := by
  refine ⟨fun pins s σ H Q I h => ?_⟩
  refine Call_ (ld_blt I hg hm PyProof.Rows.boot_sorted ?_)
  refine PyProof.Rows.callWith_builtin1 (PyProof.Rows.args_cons ?_ rfl) rfl rfl
  refine Call_ (ld_blt I hg2 hm2 PyProof.Rows.boot_set ?_)
  refine PyProof.Rows.callWith_type1 (PyProof.Rows.args_cons (thn (ha.run pins s σ H _ I h) fun v s1 ⟨x, H1, I1, rr, q1⟩ => PyProof.Rows.args_nil ?_) na) na rfl
  obtain ⟨F, dx, d, t, hx, ed, k⟩ := q1
  obtain ⟨xs, es, ed⟩ := Option.bind_eq_some_iff.mp (show (setItems dx).bind _ = some d from ed)
  cases ed
  obtain ⟨rfl, so, k0, hz⟩ := setD_cases es
  obtain ⟨l, vs, rfl, hq, r⟩ := hx.lst
  cases rr
  obtain ⟨ks, rfl, rfl⟩ := keys_of r k0
  rw [List.length_map] at hz
  obtain ⟨pl, al, dp, sr⟩ := sortOk_iff so
  have hk0 : ∀ d ∈ ks.map keyV, isKey0 d = true := fun d hd => List.all_eq_true.mp k0 d hd
  have dm := dedup_mem hk0
  have dn := dedup_nodup hk0
  refine set_made hc I1 hq hz fun h' tk S I2 => PyProof.Rows.args_nil ?_
  have al2 : W.AllAlike (dedup (ks.map keyV)) := fun x hx y hy => al.1 x ((dm x).1 hx) y ((dm y).1 hy)
  refine sorted_setZ (s := { s1 with heap := h', toks := tk }) S (I2.ok.hd hc) (ds := dedup (ks.map keyV)) al2 ?_ dn (fun k => ?_) (fun d hd => key0_shape (hk0 d ((dm d).1 hd))) (by omega) ?_ fun s' p out c es2 kp eg eo hp hget pm eo2 => ?_
  · rcases sr with z | z
    · exact .inl fun x hx => z x ((dm x).1 hx)
    · exact .inr fun x hx => z x ((dm x).1 hx)
  · rw [dm, List.mem_map]
    exact ⟨fun z => ⟨k, z, rfl⟩, fun ⟨k', z, e⟩ => keyV_inj e ▸ z⟩
  · have hle : (dedup (ks.map keyV)).length ≤ ks.length := by
      have : ∀ ds : List PyData, (dedup ds).length ≤ ds.length := by
        intro ds
        induction ds with
        | nil => simp [dedup]
        | cons x ds ih =>
          rw [dedup, List.length_cons, List.length_cons]
          exact Nat.succ_le_succ (Nat.le_trans (List.length_filter_le _ _) ih)
      have := this (ks.map keyV)
      rw [List.length_map] at this
      exact this
    rw [← big_eq]
    have : (4000 : Nat) ≤ big := by decide
    omega
  · have es3 : es2.mergeSort (W.dataLe false id) = sortD (dedup (ks.map keyV)) := sort_perm_keys pm (fun d hd => hk0 d ((dm d).1 hd)) al2
    rw [es3] at eo2
    obtain ⟨vs', rv', rp'⟩ := rel_keys (K := X.k) (F := F) (H := H1) eo2
    have hvl : vs'.length ≤ sizeLine := by
      have e1 := rp'.length
      have e2 : (sortD (dedup (ks.map keyV))).length = (dedup (ks.map keyV)).length := (List.mergeSort_perm _ _).length_eq
      have : ∀ ds : List PyData, (dedup ds).length ≤ ds.length := by
        intro ds
        induction ds with
        | nil => simp [dedup]
        | cons x ds ih =>
          rw [dedup, List.length_cons, List.length_cons]
          exact Nat.succ_le_succ (Nat.le_trans (List.length_filter_le _ _) ih)
      have e3 := this (ks.map keyV)
      rw [List.length_map] at e3
      rw [← big_eq]
      have : (4000 : Nat) ≤ big := by decide
      omega
    have J := L2.Inv.call (g' := s'.gens) (t' := s'.toks) (d' := s'.drawn) (h' := s'.heap) (H' := upd H1 p (.lst vs')) (ch := []) I2 (L2.Un.laid kp hp (I2.hok.fresh hp)) (I2.hok.laid kp hp ⟨hvl, out.toList, c, rv', hget⟩) (by rw [eg]; exact I2.bare) (fun _ z => nomatch z)
    have e : s' = { s1 with heap := s'.heap, gens := s'.gens, drawn := s'.drawn, toks := s'.toks } := by
      cases s'
      cases eo
      rfl
    rw [e]
    exact ⟨.ref p, _, J, rfl, k.lst t rp' (I2.hok.fresh hp)⟩
theorem pe_lenSet (hc : X.calm = true) (hg : Gl X "len") (hm : X.mg "len" = none) (hg2 : Gl X "set") (hm2 : X.mg "set" = none) (ha : PE X a ta) (na : starEach [a] X.env = (false, eval a X.env) :: starEach [] X.env) :
    PE X (.Call (.Name "len" p) [.Call (.Name "set" p2) [a] [] q] [] pos) (tUn (r1 X.k .lenSet) ta) := by
  refine ⟨fun pins s σ H Q I h => ?_⟩
  refine Call_ (ld_blt I hg hm PySem.boot_len ?_)
  refine PyProof.Rows.callWith_builtin1 (PyProof.Rows.args_cons ?_ rfl) rfl rfl
  refine Call_ (ld_blt I hg2 hm2 PyProof.Rows.boot_set ?_)
  refine PyProof.Rows.callWith_type1 (PyProof.Rows.args_cons (thn (ha.run pins s σ H _ I h) fun v s1 ⟨x, H1, I1, rr, q1⟩ => PyProof.Rows.args_nil ?_) na) na rfl
  obtain ⟨F, dx, d, t, hx, ed, k⟩ := q1
  obtain ⟨xs, es, ed⟩ := Option.bind_eq_some_iff.mp (show (setItems dx).bind _ = some d from ed)
  cases ed
  obtain ⟨rfl, so, k0, hz⟩ := setD_cases es
  obtain ⟨l, vs, rfl, hq, r⟩ := hx.lst
  cases rr
  obtain ⟨ks, rfl, rfl⟩ := keys_of r k0
  rw [List.length_map] at hz
  have hk0 : ∀ d ∈ ks.map keyV, isKey0 d = true := fun d hd => List.all_eq_true.mp k0 d hd
  have dm := dedup_mem hk0
  have dn := dedup_nodup hk0
  refine set_made hc I1 hq hz fun h' tk S I2 => PyProof.Rows.args_nil ?_
  obtain ⟨o, es', ep, tb, ho, ex, od, g, nd, mm, sl, sb, ff, ri, le⟩ := S
  have n2 : ((es'.toList.map keyM).map keyV).Nodup := List.pairwise_map.mpr (nd.imp fun z q => z (keyV_inj q))
  have pd : ((es'.toList.map keyM).map keyV).Perm (dedup (ks.map keyV)) := by
    refine (List.perm_ext_iff_of_nodup n2 dn).2 fun d => ?_
    rw [dm, List.mem_map, List.mem_map]
    exact ⟨fun ⟨k, h1, h2⟩ => ⟨k, (mm k).2 h1, h2⟩, fun ⟨k, h1, h2⟩ => ⟨k, (mm k).1 h1, h2⟩⟩
  have hn : es'.size = (dedup (ks.map keyV)).length := by
    have := pd.length_eq
    rw [List.length_map, List.length_map, Array.length_toList] at this
    exact this
  have sb' : es'.size < 4096 := sb
  refine call_len_set ho ex od ff (by omega) ⟨.int (dedup (ks.map keyV)).length, H1, I2.tok _, ⟨_, by rw [hn]⟩, k.same t (.int _) rfl⟩
theorem sd_sortedSet (hu : X.A.units + 70 < cLine) (hc : X.calm = true) (hg : Gl X "sorted") (hm : X.mg "sorted" = none) (hg2 : Gl X "set") (hm2 : X.mg "set" = none) (ha : Sd Φ X a a0) (n : notStar a = true) :
    Sd Φ X (.Call (.Name "sorted" p) [.Call (.Name "set" p2) [a] [] q] [] pos) (.p1 .sortedSet a0) :=
  Sd.plain (fun _ z => nomatch z) rd_p1 ((pe_sortedSet hu hc hg hm hg2 hm2 ha.op (star_cons n)).imp fun _ _ _ q => rd1_op Φ q) fun _ => rfl
theorem sd_lenSet (hc : X.calm = true) (hg : Gl X "len") (hm : X.mg "len" = none) (hg2 : Gl X "set") (hm2 : X.mg "set" = none) (ha : Sd Φ X a a0) (n : notStar a = true) :
    Sd Φ X (.Call (.Name "len" p) [.Call (.Name "set" p2) [a] [] q] [] pos) (.p1 .lenSet a0) :=
  Sd.plain (fun _ z => nomatch z) rd_p1 ((pe_lenSet hc hg hm hg2 hm2 ha.op (star_cons n)).imp fun _ _ _ q => rd1_op Φ q) fun _ => rfl
end
end Z

/-! sorted(d) of a dict whose keys are ints or texts -/
namespace Z
open PySem PySem.Spec PySem.Calls PyProof.Rows L2
section
variable {P : Program} {w : World} {A : Around} {E : Value → Shared → Prop} {s : Shared}
theorem sorted_dictZ {a : Addr} {vs0 : List (Key × Value)} {ep : Nat} {Q : Value → Shared → Prop} (dd : s.heap.DictAt (mixKind P w) a vs0 ep) (lo : (a == sysModules) = false) (hh : A.handled = none) {ds : List PyData} (hds : ds = vs0.map fun p => keyV p.1)
    (al : W.AllAlike ds) (so : W.Sortable ds) (hu : A.units + 12 < cLine) (hl : ds.length ≤ sizeLine)
    (h : ∀ s' p (out : Array Value) (c : Nat), (∀ b o, s.heap.get? b = some o → s'.heap.get? b = some o) → s'.gens = s.gens → s'.os = s.os → s.heap.get? p = none → (∃ h2 : Heap, (∀ b o, s.heap.get? b = some o → h2.get? b = some o) ∧ h2.objs.size ≤ p) →
      s'.heap.get? p = some (seqObj "list" out c) → W.EachIs (fun u d => ∃ k, d = keyV k ∧ keyIs k u = true) out.toList (ds.mergeSort (W.dataLe false id)) → Q (.ref p) s') :
    wpAny (model P w) A (call (.builtin "sorted") [.ref a]) Q E s := by
  have hl0 : vs0.length ≤ sizeLine := by rw [hds, List.length_map] at hl; exact hl
  refine Calls.call_function_entry kind_sorted plain_sorted entry_sorted (args_sorted1 _) ?_
  unfold Builtin.«sorted»
  refine wpAny_bind (m := checkCount "sorted" 1 1 _) (wpAny_pure ?_)
  refine wpAny_bind (PySem.W.kdu_collect (A := A.in1) (PySem.W.kdl_dict lo) hh dd hl0 fun h' tk acc kp it => ?_)
  obtain ⟨itl, itv⟩ := it
  have vl' : acc.toList.length = vs0.length := by rw [Array.length_toList]; exact itl
  have kl : s.heap.get? h'.objs.size = none := by
    cases e : s.heap.get? h'.objs.size with
    | none => rfl
    | some o => exact absurd (Heap.lt_size (kp _ o e)) (Nat.lt_irrefl _)
  have dv : ∀ (i : Nat) (u : Value) (d : PyData), acc.toList[i]? = some u → ds[i]? = some d → ∃ k, d = keyV k ∧ keyIs k u = true := fun i u d e1 e2 => by
    rw [Array.getElem?_toList] at e1
    obtain ⟨k, x, e3, e4⟩ := itv i u e1
    rw [hds, List.getElem?_map, e3] at e2
    exact ⟨k, (Option.some.inj e2).symm, e4⟩
  have ll : acc.toList.length = ds.length := by rw [vl', hds, List.length_map]
  generalize acc.toList = vs at *
  have vl : vs.length ≤ sizeLine := by omega
  refine wpAny_bind (wpAny_newList ?_ vl)
  have oL : (h'.push (seqObj "list" vs.toArray 0)).get? h'.objs.size = some (seqObj "list" vs.toArray 0) := Heap.get?_push_size _ rfl
  have er : ∀ hp : Heap, W.EachIs (fun v d => ∃ as, Reads hp v d as) vs ds := fun hp => each_of ll fun i u d e1 e2 => by
    obtain ⟨k, rfl, hk1⟩ := dv i u d e1 e2
    exact ⟨_, reads_key hk1⟩
  refine wpAny_bind (wpAny_holding (wpAny_call_entry_kw slot_list_sort ⟨_, oL, rfl⟩ entry_list_sort ?body (args_list_sort _)))
  case body =>
    refine wpAny_mono (W.list_sort_vals (P := fun f s' => f = .done (.ret .none) ∧ Q (.ref h'.objs.size) s') (s := { s with heap := h'.push (seqObj "list" vs.toArray 0), toks := tk }) oL (W.SortsAt.data (er _) al so (fun d hd' => ?_)) vl ⟨rfl, ?_⟩) (fun f s' hf => ?_) fun _ _ e => e
    · rw [hds] at hd'
      obtain ⟨p, _, rfl⟩ := List.mem_map.1 hd'
      have : (keyV p.1).depth ≤ 1 := by cases p.1 <;> simp [keyV, PyData.depth]
      show A.units + 2 + (keyV p.1).depth < cLine
      omega
    · obtain ⟨c, hc⟩ := sortedHeap_at (vs := vs) (out := (W.sortVals (W.dataKind (W.sortingHeap (h'.push (seqObj "list" vs.toArray 0)) h'.objs.size vs) ds) false vs vs).toArray) oL
      have eo := W.sortVals_data (R := fun u d => ∃ k, d = keyV k ∧ keyIs k u = true) (enc := id) (bs := ds) (h' := W.sortingHeap (h'.push (seqObj "list" vs.toArray 0)) h'.objs.size vs) false (each_of ll dv) (er _) (by rw [List.map_id]; exact al)
      rw [List.map_id] at eo
      refine h _ h'.objs.size _ c (fun b u e => ?_) rfl rfl kl ⟨h', kp, Nat.le_refl _⟩ hc eo
      have q := kp b u e
      have lt := Heap.lt_size q
      show (sortedHeap (h'.push (seqObj "list" vs.toArray 0)) h'.objs.size vs _).get? b = some u
      rw [sortedHeap_old (Nat.ne_of_lt lt) (by rw [size_push']; exact Nat.lt_succ_of_lt lt)]
      exact Heap.get?_push_of_some _ q
    · obtain ⟨rfl, q⟩ := hf
      exact ⟨_, rfl, wpAny_pure ⟨_, rfl, q⟩⟩
end
section
variable {X : Cx}
theorem ok_sorted_dict (hu : X.A.units + 70 < cLine) (hc : X.calm = true) : CallR X (.builtin "sorted") (fun vs H Q => ∃ F x es, vs = [x] ∧ (∀ a, F a → H a ≠ none) ∧ Rv X.k F H x (.dict es) ∧ (sortOk (es.map (·.1)) && (es.map (·.1)).all isKey0) = true ∧ Res X.k F H true (.list (sortD (es.map (·.1)))) Q) := by
  intro pins s σ H xs us Q I rs h
  obtain ⟨F, x, es, rfl, t, hx, c, k⟩ := h
  rw [Bool.and_eq_true] at c
  obtain ⟨so, k0⟩ := c
  obtain ⟨pl, al, dp, sr⟩ := sortOk_iff so
  obtain ⟨u, rfl, ru⟩ := vals1 rs
  obtain ⟨a, rfl, D⟩ := hx.dict
  cases ru
  cases D with
  | @dt xs q n e r w =>
    exfalso
    cases es with
    | nil => exact n.1 rfl
    | cons p es =>
      cases xs with
      | nil => cases e
      | cons x xs =>
        have h1 : isKey0 p.1 = true := List.all_eq_true.mp k0 p.1 (by simp)
        cases r with
        | cons r _ =>
          obtain ⟨k, hk⟩ := key0_shape h1
          have r : Rp X.k F H (.ref x.2.1) p.1 := r
          rw [hk] at r
          cases k <;> cases r
  | @dk kvs q e r =>
    obtain ⟨z, hd, vs, rel, dd⟩ := dk_rd I.hok q
    obtain ⟨ep, da⟩ : ∃ ep, s.heap.DictAt (mixKind X.prog X.w) a vs ep := let ⟨o, es, ep, r⟩ := dd; ⟨ep, o, es, r⟩
    have eds : es.map (·.1) = vs.map fun p => keyV p.1 := by
      rw [← e]
      clear dd da e r q I
      induction rel with
      | nil => rfl
      | cons r t ih =>
        rw [List.map_cons, List.map_cons, ih (by simp at z; omega), r.1]
    have hl : (es.map (·.1)).length ≤ sizeLine := by
      rw [eds, List.length_map, ← rel.length]
      exact z
    have so' : W.Sortable (es.map (·.1)) := sr
    refine sorted_dictZ da hd (I.ok.hd hc) eds al.1 so' (by omega) hl fun s' p out c kp eg eo hp hp2 hget eo2 => ?_
    obtain ⟨vs', rv', rp'⟩ := rel_keys (K := X.k) (F := F) (H := H) eo2
    obtain ⟨h2, k2, l2⟩ := hp2
    have hn : H p = none := (I.hok.kept k2).fresh l2
    have hvl : vs'.length ≤ sizeLine := by
      have e1 := rp'.length
      have e2 : ((es.map (·.1)).mergeSort (W.dataLe false id)).length = (es.map (·.1)).length := (List.mergeSort_perm _ _).length_eq
      omega
    have J := L2.Inv.call (g' := s'.gens) (t' := s'.toks) (d' := s'.drawn) (h' := s'.heap) (H' := upd H p (.lst vs')) (ch := []) I (L2.Un.laidN kp hp hn) (I.hok.laidN kp hn ⟨hvl, out.toList, c, rv', hget⟩) (by rw [eg]; exact I.bare) (fun _ z => nomatch z)
    have e : s' = { s with heap := s'.heap, gens := s'.gens, drawn := s'.drawn, toks := s'.toks } := by
      cases s'
      cases eo
      rfl
    rw [e]
    exact ⟨.ref p, _, J, rfl, k.lst t rp' hn⟩
end
end Z

/-! sorted(d) of a dict whose keys are tuples -/
namespace Z
open PySem PySem.Spec PySem.Calls PyProof.Rows L2
section
variable {P : Program} {w : World} {A : Around} {E : Value → Shared → Prop} {s : Shared}
theorem keyLt_general (x y : Value) : keyLt' general' x y = oneLt' false x y := rfl
theorem sortsAt_one {vs : List Value} {ds : List PyData} (e : W.EachIs (fun v d => ∃ as, Reads s.heap v d as) vs ds) (hal : W.AllAlike ds) (hn : ∀ d, d ∈ ds → d ≠ .none) (h1 : vs.length ≤ 1) (hu : ∀ d, d ∈ ds → A.units + d.depth < cLine) : W.SortsAt P w A s (W.dataKind s.heap ds) vs := by
  refine ⟨fun v hv => ?_, general', fun E x y a b Q ha hb hq => ?_, fun h2 => by omega⟩
  · obtain ⟨d, hd, as, r⟩ := e.left v hv
    exact ⟨_, W.dataKind_some hal hd r⟩
  · obtain ⟨d, as, hd, ra, rfl⟩ := W.dataKind_inv ha
    obtain ⟨d', as', hd', rb, rfl⟩ := W.dataKind_inv hb
    rw [keyLt_general]
    exact W.oneLt_alike (fun z => nomatch z) ra rb (hal d hd d' hd') (hn d hd) (Nat.lt_of_le_of_lt (Nat.add_le_add_left (Nat.min_le_left _ _) _) (hu d hd)) hq
theorem kdl_raw {d : Addr} {es : Array DictEntry} {ep : Nat} (lo : (d == sysModules) = false) : W.KdlSrc P w "dict" d d es.size (fun i v => ∃ hi : i < es.size, v = es[i].key) (fun h => h.DictRaw d es ep) where
  type := fun _ hm => hm.typeIs
  there := fun _ hm => let ⟨_, ho, _⟩ := hm; ⟨Heap.lt_size ho, Heap.lt_size ho⟩
  keep := fun _ _ hm hk => hm.at fun o e => hk d (.inl rfl) o e
  notList := by decide
  notTuple := by decide
  hint := fun _ _ _ _ hm hq => W.kdl_hint_dict hm.typeIs hq
  iter := fun _ s hh hm => ⟨_, _, (fun _ _ hq => wpAny_pyIter_dict_raw lo hm hq), Walks.rawKeys hh _ d (let ⟨_, ho, _⟩ := hm; Nat.ne_of_lt (Heap.lt_size ho)) es ep, ⟨⟨_, Heap.get?_push_size _ rfl, rfl, rfl⟩, hm.at fun o e => Heap.get?_push_of_some _ e⟩⟩
theorem sorted_rawZ {a : Addr} {es : Array DictEntry} {ep : Nat} {R : Value → PyData → Prop} {Q : Value → Shared → Prop} (dd : s.heap.DictRaw a es ep) (lo : (a == sysModules) = false) (hh : A.handled = none) {ds : List PyData} (hds : es.size = ds.length)
    (hR : ∀ i (hi : i < es.size) d, ds[i]? = some d → R es[i].key d ∧ ∃ as, Reads s.heap es[i].key d as)
    (al : W.AllAlike ds) (so : W.Sortable ds ∨ (ds.length ≤ 1 ∧ ∀ d, d ∈ ds → d ≠ .none)) (hu : ∀ d, d ∈ ds → A.units + 2 + d.depth < cLine) (hl : ds.length ≤ sizeLine)
    (h : ∀ s' p (out : Array Value) (c : Nat), (∀ b o, s.heap.get? b = some o → s'.heap.get? b = some o) → s'.gens = s.gens → s'.os = s.os → s.heap.get? p = none → (∃ h2 : Heap, (∀ b o, s.heap.get? b = some o → h2.get? b = some o) ∧ h2.objs.size ≤ p) →
      s'.heap.get? p = some (seqObj "list" out c) → W.EachIs R out.toList (ds.mergeSort (W.dataLe false id)) → Q (.ref p) s') :
    wpAny (model P w) A (call (.builtin "sorted") [.ref a]) Q E s := by
  refine Calls.call_function_entry kind_sorted plain_sorted entry_sorted (args_sorted1 _) ?_
  unfold Builtin.«sorted»
  refine wpAny_bind (m := checkCount "sorted" 1 1 _) (wpAny_pure ?_)
  refine wpAny_bind (PySem.W.kdu_collect (A := A.in1) (kdl_raw lo) hh dd (by omega) fun h' tk acc kp it => ?_)
  obtain ⟨itl, itv⟩ := it
  have vl' : acc.toList.length = es.size := by rw [Array.length_toList]; exact itl
  have kl : s.heap.get? h'.objs.size = none := by
    cases e : s.heap.get? h'.objs.size with
    | none => rfl
    | some o => exact absurd (Heap.lt_size (kp _ o e)) (Nat.lt_irrefl _)
  have dv : ∀ (i : Nat) (u : Value) (d : PyData), acc.toList[i]? = some u → ds[i]? = some d → R u d ∧ ∃ as, Reads s.heap u d as := fun i u d e1 e2 => by
    rw [Array.getElem?_toList] at e1
    obtain ⟨hi, rfl⟩ := itv i u e1
    exact hR i hi d e2
  have ll : acc.toList.length = ds.length := by rw [vl', hds]
  generalize acc.toList = vs at *
  have vl : vs.length ≤ sizeLine := by omega
  refine wpAny_bind (wpAny_newList ?_ vl)
  have oL : (h'.push (seqObj "list" vs.toArray 0)).get? h'.objs.size = some (seqObj "list" vs.toArray 0) := Heap.get?_push_size _ rfl
  have kS : ∀ b o, s.heap.get? b = some o → (W.sortingHeap (h'.push (seqObj "list" vs.toArray 0)) h'.objs.size vs).get? b = some o := fun b o e =>
    W.sortingHeap_old (Nat.ne_of_lt (Heap.lt_size (kp b o e))) (Heap.get?_push_of_some _ (kp b o e))
  have er : W.EachIs (fun v d => ∃ as, Reads (W.sortingHeap (h'.push (seqObj "list" vs.toArray 0)) h'.objs.size vs) v d as) vs ds := each_of ll fun i u d e1 e2 =>
    let ⟨as, r⟩ := (dv i u d e1 e2).2; ⟨as, PyProof.Rows.Reads.keeps kS r⟩
  have hu' : ∀ d, d ∈ ds → A.in1.in1.units + d.depth < cLine := fun d hd => hu d hd
  refine wpAny_bind (wpAny_holding (wpAny_call_entry_kw slot_list_sort ⟨_, oL, rfl⟩ entry_list_sort ?body (args_list_sort _)))
  case body =>
    have SA : W.SortsAt P w A.in1.in1 { s with heap := W.sortingHeap (h'.push (seqObj "list" vs.toArray 0)) h'.objs.size vs, toks := tk } (W.dataKind (W.sortingHeap (h'.push (seqObj "list" vs.toArray 0)) h'.objs.size vs) ds) vs := by
      rcases so with so | ⟨so1, so2⟩
      · exact W.SortsAt.data er al so hu'
      · exact sortsAt_one er al so2 (by omega) hu'
    refine wpAny_mono (W.list_sort_vals (P := fun f s' => f = .done (.ret .none) ∧ Q (.ref h'.objs.size) s') (s := { s with heap := h'.push (seqObj "list" vs.toArray 0), toks := tk }) oL SA vl ⟨rfl, ?_⟩) (fun f s' hf => ?_) fun _ _ e => e
    · obtain ⟨c, hc⟩ := sortedHeap_at (vs := vs) (out := (W.sortVals (W.dataKind (W.sortingHeap (h'.push (seqObj "list" vs.toArray 0)) h'.objs.size vs) ds) false vs vs).toArray) oL
      have eo := W.sortVals_data (R := R) (enc := id) (bs := ds) (h' := W.sortingHeap (h'.push (seqObj "list" vs.toArray 0)) h'.objs.size vs) false (each_of ll fun i u d e1 e2 => (dv i u d e1 e2).1) er (by rw [List.map_id]; exact al)
      rw [List.map_id] at eo
      refine h _ h'.objs.size _ c (fun b u e => ?_) rfl rfl kl ⟨h', kp, Nat.le_refl _⟩ hc eo
      have q := kp b u e
      have lt := Heap.lt_size q
      show (sortedHeap (h'.push (seqObj "list" vs.toArray 0)) h'.objs.size vs _).get? b = some u
      rw [sortedHeap_old (Nat.ne_of_lt lt) (by rw [size_push']; exact Nat.lt_succ_of_lt lt)]
      exact Heap.get?_push_of_some _ q
    · obtain ⟨rfl, q⟩ := hf
      exact ⟨_, rfl, wpAny_pure ⟨_, rfl, q⟩⟩
end
section
variable {X : Cx}
theorem kindOk_sr {xs : List PyData} (h : kindOk xs = true) (ht : xs.all isTupD = true) : (xs.all isTupNe = true ∨ xs.length ≤ 1) → (W.Sortable xs ∨ (xs.length ≤ 1 ∧ ∀ d, d ∈ xs → d ≠ .none)) := by
  rintro (h2 | h2)
  · refine .inl (.inl fun d hd => ?_)
    have := List.all_eq_true.mp h2 d hd
    cases d with
    | tuple l =>
      cases l with
      | nil => cases this
      | cons x r => exact ⟨x, r, rfl⟩
    | _ => cases this
  · refine .inr ⟨h2, fun d hd e => ?_⟩
    have := List.all_eq_true.mp ht d hd
    subst e
    cases this
theorem ok_sorted_dictT (hu : X.A.units + 70 < cLine) (hc : X.calm = true) : CallR X (.builtin "sorted") (fun vs H Q => ∃ F x es, vs = [x] ∧ (∀ a, F a → H a ≠ none) ∧ Rv X.k F H x (.dict es) ∧ es ≠ [] ∧ kindOk (es.map (·.1)) = true ∧ ((es.map (·.1)).all isTupD) = true ∧ ((es.map (·.1)).all isTupNe = true ∨ (es.map (·.1)).length ≤ 1) ∧ Res X.k F H true (.list (sortD (es.map (·.1)))) Q) := by
  intro pins s σ H xs us Q I rs h
  obtain ⟨F, x, es, rfl, t, hx, ne, c, c2, c3, k⟩ := h
  obtain ⟨pl, al, dp⟩ := kindOk_iff c
  have so := kindOk_sr c c2 c3
  obtain ⟨u, rfl, ru⟩ := vals1 rs
  obtain ⟨a, rfl, D⟩ := hx.dict
  cases ru
  cases D with
  | @dk kvs q e r =>
    exfalso
    cases es with
    | nil => exact ne rfl
    | cons p es =>
      cases kvs with
      | nil => cases e
      | cons y ys =>
        rw [List.map_cons, List.map_cons] at e
        have h1 : isTupD p.1 = true := List.all_eq_true.mp c2 p.1 (by simp)
        rw [← (List.cons.inj e).1] at h1
        obtain ⟨k1, v1⟩ := y
        cases k1 <;> cases h1
  | @dt xs q n e r w =>
    obtain ⟨hz, hd, dd⟩ := td_at I.hok q n.2 e r
    obtain ⟨es', ep, raw, hs, hx⟩ := dd.raw
    have hl1 : xs.length = es.length := by have := congrArg List.length e; simpa using this
    have hR : ∀ i (hi : i < es'.size) d, (es.map (·.1))[i]? = some d → (∃ v, L2.RelV v es'[i].key ∧ Rp X.k F H v d) ∧ ∃ as, Reads s.heap es'[i].key d as := fun i hi d hd => by
      obtain ⟨y, hy, ek, _⟩ := hx i hi
      obtain ⟨v, hv, rv⟩ := r.get' hd
      rw [List.getElem?_map, hy] at hv
      cases hv
      have rel : L2.RelV (.ref y.2.1) es'[i].key := by rw [ek]; rfl
      exact ⟨⟨_, rel, rv⟩, Dp.reads I d _ _ (rv.dp (plain_mem _ d pl (List.mem_of_getElem? hd))) rel⟩
    refine sorted_rawZ (R := fun u d => ∃ v, L2.RelV v u ∧ Rp X.k F H v d) raw hd (I.ok.hd hc) (by rw [List.length_map]; omega) hR al.1 so (fun b hb => by have := depth_all hb; show _ + 2 + b.depth < _; omega) (by rw [List.length_map]; omega) fun s' p out c kp eg eo hp hp2 hget eo2 => ?_
    obtain ⟨vs', rv', rp'⟩ := RpAll.each eo2
    obtain ⟨h2, k2, l2⟩ := hp2
    have hn : H p = none := (I.hok.kept k2).fresh l2
    have hvl : vs'.length ≤ sizeLine := by
      have e1 := rp'.length
      have e2 : ((es.map (·.1)).mergeSort (W.dataLe false id)).length = (es.map (·.1)).length := (List.mergeSort_perm _ _).length_eq
      rw [List.length_map] at e2
      omega
    have J := L2.Inv.call (g' := s'.gens) (t' := s'.toks) (d' := s'.drawn) (h' := s'.heap) (H' := upd H p (.lst vs')) (ch := []) I (L2.Un.laidN kp hp hn) (I.hok.laidN kp hn ⟨hvl, out.toList, c, rv', hget⟩) (by rw [eg]; exact I.bare) (fun _ z => nomatch z)
    have e : s' = { s with heap := s'.heap, gens := s'.gens, drawn := s'.drawn, toks := s'.toks } := by
      cases s'
      cases eo
      rfl
    rw [e]
    exact ⟨.ref p, _, J, rfl, k.lst t rp' hn⟩
end
end Z

/-! xs.index(x), xs.count(x) of a list or a tuple -/
namespace Z
open PySem PySem.Spec PySem.Calls PyProof.Rows L2
theorem idx_true {xs : List PyData} {d : PyData} {j : Nat} (h : SeqAt.dataPlace xs d = some j) : true ∈ xs.map (fun y => PyData.eqv y d) ∧ (xs.map fun y => PyData.eqv y d).idxOf true = j := by
  unfold SeqAt.dataPlace at h
  obtain ⟨h1, h2, h3⟩ := List.findIdx?_eq_some_iff_getElem.1 h
  refine ⟨List.mem_map.2 ⟨_, List.getElem_mem h1, h2⟩, ?_⟩
  have e : (xs.map fun y => PyData.eqv y d).idxOf true = xs.findIdx fun y => PyData.eqv y d := by
    unfold List.idxOf
    rw [List.findIdx_map]
    congr 1
    funext y
    simp
  rw [e]
  exact (List.findIdx?_eq_some_iff_findIdx_eq.1 h).2
section
variable {X : Cx} {pins : List (Addr × Obj)} {σ : L2.St} {H : Hp} {s : Shared} {F : Fz} {v : V} {u : Value} {ds : List PyData} {d : PyData} {w : Value} {as bs : List Addr}
theorem ty_list (I : Inv X pins σ H s) (r : L2.RelV v u) (h : Rv X.k F H v (.list ds)) : s.TypeIs u "list" ∧ ∀ b, u = .ref b → ∃ ob, s.heap.get? b = some ob ∧ ob.dict = none := by
  obtain ⟨a, xs, rfl, q, t⟩ := h.lst
  cases r
  obtain ⟨its, rvs, p, hz⟩ := I.list (SqL.of q)
  obtain ⟨o, n, h1, h2, h3, h4⟩ := p
  exact ⟨⟨o, h1, h2⟩, fun c e => by cases e; exact ⟨o, h1, h3⟩⟩
theorem ty_tup (I : Inv X pins σ H s) (r : L2.RelV v u) (h : Rv X.k F H v (.tuple ds)) : s.TypeIs u "tuple" ∧ ∀ b, u = .ref b → ∃ ob, s.heap.get? b = some ob ∧ ob.dict = none := by
  obtain ⟨a, xs, rfl, q, t, _⟩ := h.tup
  cases r
  obtain ⟨its, rvs, p, hz⟩ := I.tuple q.sq
  obtain ⟨o, h1, h2, h3⟩ := p
  obtain ⟨ob, e1, e2⟩ := q
  obtain ⟨e3, _⟩ := I.hok _ _ e1
  exact ⟨⟨o, h1, h2⟩, fun c e => by cases e; exact ⟨ob, e3, e2⟩⟩
theorem items_eq {A : Around} {vs : Array Value} {xs : List PyData} (rs : ReadsAll s.heap vs.toList xs as) (rx : Reads s.heap w d bs) (hxs : PyData.plainAll xs = true) (hd : d.plain = true) (hu : A.units + 1 + min (PyData.depthAll xs) d.depth < cLine) :
    SeqAt.ItemsEq A.in1 s vs.toList (xs.map fun y => PyData.eqv y d) w true := by
  have hl := SeqAt.len_at rs
  refine ⟨by rw [List.length_map, ← hl]; rfl, fun j h1 h2 => ?_⟩
  have hj : j < vs.size := by simpa using h1
  obtain ⟨h3, e⟩ := SeqAt.readOf_at rs hxs j hj
  have := SeqAt.items_plain rs rx hxs hd hu vs[j] (Array.getElem_mem hj)
  rw [e] at this
  have e2 : decide ((xs.map fun y => PyData.eqv y d)[j] = true) = PyData.eqv xs[j] d := by simp
  rw [e2]
  simpa using this
end
section
variable {Φ : Nat → Spc} {X : Cx} {a0 b0 : Expr} {a b : E} {pos p1 : Pos}
/-- what list.count, tuple.count, list.index, tuple.index tell -/
theorem meth_run {pins : List (Addr × Obj)} {σ : L2.St} {H : Hp} {s : Shared} {F : Fz} {x y : V} {v u : Value} {dx dy z : PyData} {Q : Value → Shared → Prop} (hu : X.A.units + 70 < cLine) (I : Inv X pins σ H s) (rx : L2.RelV x v) (ry : L2.RelV y u)
    (hx : Rv X.k F H x dx) (hy : Rv X.k F H y dy) :
    (∀ ys n, dx = .list ys → countD dx dy = some z → z = .int n → Q (.int n s.toks) { s with toks := s.toks + 1 } → wpAny (model X.prog X.w) X.A (call (.builtin "list.count") [v, u]) Q X.xe s) ∧
    (∀ ys n, dx = .tuple ys → countD dx dy = some z → z = .int n → Q (.int n s.toks) { s with toks := s.toks + 1 } → wpAny (model X.prog X.w) X.A (call (.builtin "tuple.count") [v, u]) Q X.xe s) ∧
    (∀ ys n, dx = .list ys → indexD dx dy = some z → z = .int n → Q (.int n s.toks) { s with toks := s.toks + 1 } → wpAny (model X.prog X.w) X.A (call (.builtin "list.index") [v, u]) Q X.xe s) ∧
    (∀ ys n, dx = .tuple ys → indexD dx dy = some z → z = .int n → Q (.int n s.toks) { s with toks := s.toks + 1 } → wpAny (model X.prog X.w) X.A (call (.builtin "tuple.index") [v, u]) Q X.xe s) := by
  refine ⟨fun ys n e c ez q => ?_, fun ys n e c ez q => ?_, fun ys n e c ez q => ?_, fun ys n e c ez q => ?_⟩
  · subst e
    subst ez
    have c : (if memOk dy ys = true then some (PyData.int ((ys.countP fun y => PyData.eqv y dy : Nat) : Int)) else none) = some (.int n) := c
    split at c
    · rename_i c'
      cases c
      obtain ⟨c1, c2, c3⟩ := memOk_iff c'
      obtain ⟨as, r1⟩ := Dp.reads I dy y u (hy.dp c1) ry
      obtain ⟨bs, r2⟩ := Dp.reads I _ x v (hx.dp (by simpa [PyData.plain] using c2)) rx
      cases r2 with
      | list h1 h2 h3 h4 => exact SeqAt.count_list_data ⟨_, h1, h2, _, h3⟩ h4 r1 c2 c1 (by omega) q
    · cases c
  · subst e
    subst ez
    have c : (if memOk dy ys = true then some (PyData.int ((ys.countP fun y => PyData.eqv y dy : Nat) : Int)) else none) = some (.int n) := c
    split at c
    · rename_i c'
      cases c
      obtain ⟨c1, c2, c3⟩ := memOk_iff c'
      obtain ⟨as, r1⟩ := Dp.reads I dy y u (hy.dp c1) ry
      obtain ⟨bs, r2⟩ := Dp.reads I _ x v (hx.dp (by simpa [PyData.plain] using c2)) rx
      cases r2 with
      | tuple h1 h2 h3 h4 => exact SeqAt.count_tuple_data ⟨_, h1, h2, _, h3⟩ h4 r1 c2 c1 (by omega) q
    · cases c
  · subst e
    subst ez
    have c : (if memOk dy ys = true then (SeqAt.dataPlace ys dy).map fun j => PyData.int (j : Nat) else none) = some (.int n) := c
    split at c
    · rename_i c'
      obtain ⟨j, hj, e⟩ := Option.map_eq_some_iff.1 c
      cases e
      obtain ⟨c1, c2, c3⟩ := memOk_iff c'
      obtain ⟨as, r1⟩ := Dp.reads I dy y u (hy.dp c1) ry
      obtain ⟨bs, r2⟩ := Dp.reads I _ x v (hx.dp (by simpa [PyData.plain] using c2)) rx
      obtain ⟨i1, i2⟩ := idx_true hj
      obtain ⟨a', xs', rfl, q', t'⟩ := hx.lst
      cases rx
      obtain ⟨its, rvs, pp, hz⟩ := I.list (SqL.of q')
      have hz2 : (ys.map fun y => PyData.eqv y dy).length ≤ sizeLine := by rw [List.length_map, ← t'.length]; exact hz
      cases r2 with
      | list h1 h2 h3 h4 =>
        refine SeqAt.call_list_index (ks := ys.map fun y => PyData.eqv y dy) (k := true) ⟨_, h1, h2, _, by simpa using h3⟩ (items_eq h4 r1 c2 c1 (by omega)) hz2 i1 ?_
        rw [i2]
        exact q
    · cases c
  · subst e
    subst ez
    have c : (if memOk dy ys = true then (SeqAt.dataPlace ys dy).map fun j => PyData.int (j : Nat) else none) = some (.int n) := c
    split at c
    · rename_i c'
      obtain ⟨j, hj, e⟩ := Option.map_eq_some_iff.1 c
      cases e
      obtain ⟨c1, c2, c3⟩ := memOk_iff c'
      obtain ⟨as, r1⟩ := Dp.reads I dy y u (hy.dp c1) ry
      obtain ⟨bs, r2⟩ := Dp.reads I _ x v (hx.dp (by simpa [PyData.plain] using c2)) rx
      obtain ⟨i1, i2⟩ := idx_true hj
      cases r2 with
      | tuple h1 h2 h3 h4 =>
        refine SeqAt.call_tuple_index (ks := ys.map fun y => PyData.eqv y dy) (k := true) ⟨_, h1, h2, _, by simpa using h3⟩ (items_eq h4 r1 c2 c1 (by omega)) i1 ?_
        rw [i2]
        exact q
    · cases c
theorem count_int {x y z : PyData} (h : countD x y = some z) : ∃ n, z = .int n := by
  unfold countD at h
  obtain ⟨ys, _, h⟩ := Option.bind_eq_some_iff.1 h
  split at h
  · cases h; exact ⟨_, rfl⟩
  · cases h
theorem index_int {x y z : PyData} (h : indexD x y = some z) : ∃ n, z = .int n := by
  unfold indexD at h
  obtain ⟨ys, _, h⟩ := Option.bind_eq_some_iff.1 h
  split at h
  · obtain ⟨j, _, e⟩ := Option.map_eq_some_iff.1 h
    exact ⟨_, e.symm⟩
  · cases h
theorem sd_count (hu : X.A.units + 70 < cLine) (ha : Sd Φ X a0 a) (hb : Sd Φ X b0 b) (nb : notStar b0 = true) (m : Mth X a0 "count" p1 pos) : Sd Φ X (.Call (.Attribute a0 "count" p1) [b0] [] pos) (.m1 .count a b) := by
  refine Sd.plain (fun _ z => nomatch z) rd_m1 ⟨fun pins s σ H Q' I q => ?_⟩ fun _ => rfl
  obtain ⟨F, ρ, Q, g, h, k⟩ := q
  rw [rd_m1, plainT_e] at h
  have few : ((backTo pos (starEach [b0] X.env)).all (fun x => !x.1) && (backToKw pos (keywordEach [] X.env)).all (fun x => x.1.isSome)
      && decide ([b0].length + ([] : List Keyword).length + (if ([] : List Keyword).isEmpty then 0 else 1) < 30)) = true := by
    rw [star_all (by simp [nb])]; rfl
  refine wpAny_Call_method_late (base_plain m.base) few m.line rfl (thn (ha.opR I g h) fun v s1 ⟨x, H1, F1, ρ1, o, I1, r1, g1, st1, ok1, h1⟩ => ?_)
  obtain ⟨x1, ex1, hr, h2⟩ := must_iff.mp h1
  cases x1 with
  | list es1 =>
    obtain ⟨t1, t2⟩ := ty_list I1 r1 (ok1.rv g1 ex1)
    refine ⟨"list", "list.count", PySem.F.plainAttrs_list, PySem.F.slot_list_count, PySem.F.type_list_count, t1, t2, ?_⟩
    rw [star_cons nb]
    refine Calls.callWith_builtin rfl (Calls.evalArgs_plain (Calls.spliced_cons ?_))
    refine thn (hb.exR I1 g1 h2) fun u s2 ⟨y, H2, F2, ρ2, d, fr, I2, r2, g2, st2, ry, h3⟩ => Calls.spliced_nil ?_
    obtain ⟨x2, ex2, hk, h3⟩ := must_iff.mp h3
    obtain ⟨z, ez, h3⟩ := must_iff.mp h3
    cases x2 with
    | list es =>
      have ez : countD (.list es) d = some z := ez
      obtain ⟨n, rfl⟩ := count_int ez
      have rx : Rv X.k F2 H2 x (.list es) := (ok1.gr (st2.gr g1)).rv g2 ex2
      exact (meth_run hu I2 r1 r2 rx (.inl ry)).1 es n rfl ez rfl ⟨.int n, H2, I2.tok _, ⟨_, rfl⟩, k false (.int n) (.int n) F2 H2 ρ2 g2 (st1.trans st2) (Vr.of (.int n) rfl) h3⟩
    | _ => exact absurd hk (by simp [kindN])
  | tuple es1 =>
    obtain ⟨t1, t2⟩ := ty_tup I1 r1 (ok1.rv g1 ex1)
    refine ⟨"tuple", "tuple.count", PySem.F.plainAttrs_tuple, PySem.F.slot_tuple_count, PySem.F.type_tuple_count, t1, t2, ?_⟩
    rw [star_cons nb]
    refine Calls.callWith_builtin rfl (Calls.evalArgs_plain (Calls.spliced_cons ?_))
    refine thn (hb.exR I1 g1 h2) fun u s2 ⟨y, H2, F2, ρ2, d, fr, I2, r2, g2, st2, ry, h3⟩ => Calls.spliced_nil ?_
    obtain ⟨x2, ex2, hk, h3⟩ := must_iff.mp h3
    obtain ⟨z, ez, h3⟩ := must_iff.mp h3
    cases x2 with
    | tuple es =>
      have ez : countD (.tuple es) d = some z := ez
      obtain ⟨n, rfl⟩ := count_int ez
      have rx : Rv X.k F2 H2 x (.tuple es) := (ok1.gr (st2.gr g1)).rv g2 ex2
      exact (meth_run hu I2 r1 r2 rx (.inl ry)).2.1 es n rfl ez rfl ⟨.int n, H2, I2.tok _, ⟨_, rfl⟩, k false (.int n) (.int n) F2 H2 ρ2 g2 (st1.trans st2) (Vr.of (.int n) rfl) h3⟩
    | _ => exact absurd hk (by simp [kindN])
  | _ => cases hr
theorem sd_index (hu : X.A.units + 70 < cLine) (ha : Sd Φ X a0 a) (hb : Sd Φ X b0 b) (nb : notStar b0 = true) (m : Mth X a0 "index" p1 pos) : Sd Φ X (.Call (.Attribute a0 "index" p1) [b0] [] pos) (.m1 .index a b) := by
  refine Sd.plain (fun _ z => nomatch z) rd_m1 ⟨fun pins s σ H Q' I q => ?_⟩ fun _ => rfl
  obtain ⟨F, ρ, Q, g, h, k⟩ := q
  rw [rd_m1, plainT_e] at h
  have few : ((backTo pos (starEach [b0] X.env)).all (fun x => !x.1) && (backToKw pos (keywordEach [] X.env)).all (fun x => x.1.isSome)
      && decide ([b0].length + ([] : List Keyword).length + (if ([] : List Keyword).isEmpty then 0 else 1) < 30)) = true := by
    rw [star_all (by simp [nb])]; rfl
  refine wpAny_Call_method_late (base_plain m.base) few m.line rfl (thn (ha.opR I g h) fun v s1 ⟨x, H1, F1, ρ1, o, I1, r1, g1, st1, ok1, h1⟩ => ?_)
  obtain ⟨x1, ex1, hr, h2⟩ := must_iff.mp h1
  cases x1 with
  | list es1 =>
    obtain ⟨t1, t2⟩ := ty_list I1 r1 (ok1.rv g1 ex1)
    refine ⟨"list", "list.index", PySem.F.plainAttrs_list, PySem.F.slot_list_index, PySem.F.type_list_index, t1, t2, ?_⟩
    rw [star_cons nb]
    refine Calls.callWith_builtin rfl (Calls.evalArgs_plain (Calls.spliced_cons ?_))
    refine thn (hb.exR I1 g1 h2) fun u s2 ⟨y, H2, F2, ρ2, d, fr, I2, r2, g2, st2, ry, h3⟩ => Calls.spliced_nil ?_
    obtain ⟨x2, ex2, hk, h3⟩ := must_iff.mp h3
    obtain ⟨z, ez, h3⟩ := must_iff.mp h3
    cases x2 with
    | list es =>
      have ez : indexD (.list es) d = some z := ez
      obtain ⟨n, rfl⟩ := index_int ez
      have rx : Rv X.k F2 H2 x (.list es) := (ok1.gr (st2.gr g1)).rv g2 ex2
      exact (meth_run hu I2 r1 r2 rx (.inl ry)).2.2.1 es n rfl ez rfl ⟨.int n, H2, I2.tok _, ⟨_, rfl⟩, k false (.int n) (.int n) F2 H2 ρ2 g2 (st1.trans st2) (Vr.of (.int n) rfl) h3⟩
    | _ => exact absurd hk (by simp [kindN])
  | tuple es1 =>
    obtain ⟨t1, t2⟩ := ty_tup I1 r1 (ok1.rv g1 ex1)
    refine ⟨"tuple", "tuple.index", PySem.F.plainAttrs_tuple, PySem.F.slot_tuple_index, PySem.F.type_tuple_index, t1, t2, ?_⟩
    rw [star_cons nb]
    refine Calls.callWith_builtin rfl (Calls.evalArgs_plain (Calls.spliced_cons ?_))
    refine thn (hb.exR I1 g1 h2) fun u s2 ⟨y, H2, F2, ρ2, d, fr, I2, r2, g2, st2, ry, h3⟩ => Calls.spliced_nil ?_
    obtain ⟨x2, ex2, hk, h3⟩ := must_iff.mp h3
    obtain ⟨z, ez, h3⟩ := must_iff.mp h3
    cases x2 with
    | tuple es =>
      have ez : indexD (.tuple es) d = some z := ez
      obtain ⟨n, rfl⟩ := index_int ez
      have rx : Rv X.k F2 H2 x (.tuple es) := (ok1.gr (st2.gr g1)).rv g2 ex2
      exact (meth_run hu I2 r1 r2 rx (.inl ry)).2.2.2 es n rfl ez rfl ⟨.int n, H2, I2.tok _, ⟨_, rfl⟩, k false (.int n) (.int n) F2 H2 ρ2 g2 (st1.trans st2) (Vr.of (.int n) rfl) h3⟩
    | _ => exact absurd hk (by simp [kindN])
  | _ => cases hr
end
/-- a method of one argument by its name -/
def mName (p : Pr) (m : Str) : Bool := (decide (p = .get1) && decide (m = "get")) || (decide (p = .count) && decide (m = "count")) || (decide (p = .index) && decide (m = "index"))
theorem mName_iff {p : Pr} {m : Str} (h : mName p m = true) : (p = .get1 ∧ m = "get") ∨ (p = .count ∧ m = "count") ∨ (p = .index ∧ m = "index") := by
  simp only [mName, Bool.or_eq_true, Bool.and_eq_true, decide_eq_true_eq] at h
  rcases h with (h | h) | h
  · exact .inl h
  · exact .inr (.inl h)
  · exact .inr (.inr h)
end Z

/-! for x in reversed(a list or a tuple) -/
namespace Z
open PySem PySem.Spec PyProof.Rows L2
section
variable {K : Kx} {F F0 F' : Fz} {H H0 H' : Hp} {σ σ0 : L2.St} {ρ ρ0 : Env}
theorem rev_at {ds : List PyData} {i : Nat} {d : PyData} (h : ds.reverse[i]? = some d) : i < ds.length ∧ ds[ds.length - 1 - i]? = some d := by
  have hi : i < ds.length := by
    obtain ⟨h1, _⟩ := List.getElem?_eq_some_iff.1 h
    simpa using h1
  rw [List.getElem?_reverse hi] at h
  exact ⟨hi, h⟩
theorem itg_rlist (g0 : Sg K F0 H0 σ0 ρ0) {a : Addr} {xs : List V} {ds : List PyData} (h : H0 a = some (.lst xs)) (r : RpAll K F0 H0 xs ds) (m : ¬ Mu σ0 ρ0 a) (hz : xs.length ≤ sizeLine) {tup : Bool} : ItG K (Itv K.K a xs.length) tup F0 H0 σ0 ρ0 ds.reverse where
  go := fun i F H σ ρ g s d hd => by
    obtain ⟨h1, r1⟩ := hold_lst g0 s h r m
    obtain ⟨hi, hd⟩ := rev_at hd
    rw [← r1.length] at hi hd
    obtain ⟨v, hv, rv⟩ := r1.get' hd
    refine ⟨⟨hi, xs, v, SqL.of h1, hv⟩, fun x H' ⟨e, y⟩ => ?_⟩
    subst e
    have := y xs (SqL.of h1)
    rw [hv] at this
    cases this
    exact ⟨F, Lay.refl g.tr, .inl rv⟩
  stop := fun i F H σ ρ g s hl => by
    rw [List.length_reverse, ← r.length] at hl
    show xs.length ≤ i
    omega
  len := by rw [List.length_reverse, ← r.length]; exact hz
theorem itg_rtup (g0 : Sg K F0 H0 σ0 ρ0) {a : Addr} {xs : List V} {ds : List PyData} (h : TupAt H0 a xs) (r : RpAll K F0 H0 xs ds) (m : ¬ Mu σ0 ρ0 a) (hz : xs.length ≤ sizeLine) {tup : Bool} : ItG K (RT.ItvT K.K a xs.length) tup F0 H0 σ0 ρ0 ds.reverse where
  go := fun i F H σ ρ g s d hd => by
    obtain ⟨h1, r1⟩ := hold_tup g0 s h r m
    obtain ⟨hi, hd⟩ := rev_at hd
    rw [← r1.length] at hi hd
    obtain ⟨v, hv, rv⟩ := r1.get' hd
    refine ⟨⟨hi, xs, v, h1.sq, hv⟩, fun x H' ⟨e, y⟩ => ?_⟩
    subst e
    have := y xs h1.sq
    rw [hv] at this
    cases this
    exact ⟨F, Lay.refl g.tr, .inl rv⟩
  stop := fun i F H σ ρ g s hl => by
    rw [List.length_reverse, ← r.length] at hl
    show xs.length ≤ i
    omega
  len := by rw [List.length_reverse, ← r.length]; exact hz
end
section
variable {Φ : Nat → Spc} {X : Cx} {tg e0 : Expr} {e : E} {pos p : Pos}
theorem sdI_rev (hg : Gl X "reversed") (hm : X.mg "reversed" = none) (he : Sd Φ X e0 e) (n : notStar e0 = true) : SdI Φ X tg (.Call (.Name "reversed" p) [e0] [] pos) (.rev e) := by
  refine ⟨fun pins s σ H R I h => ?_⟩
  obtain ⟨F, ρ, Q, g, h, k⟩ := h
  rw [rdI_rev] at h
  have run := (pa1 he.op n).run pos pins s σ H (fun vs H1 => ∃ v o F1 ρ1, vs = [v] ∧ Sg X.k F1 H1 σ ρ1 ∧ Stp F H σ ρ F1 H1 σ ρ1 ∧ OpdOk X.k F1 H1 σ v o ∧ must (res ρ1 o) fun x => must (seqD x) fun ds => Q (lock ρ1 o).2 ds.reverse (lock ρ1 o).1) I
    ⟨F, ρ, _, g, h, fun v o F1 H1 ρ1 g1 s1 ok1 h1 => ⟨v, o, F1, ρ1, rfl, g1, s1, ok1, h1⟩⟩
  refine Call_ (ld_blt I hg hm PyProof.Rows.boot_reversed (PyProof.Rows.callWith_type1 (thn run fun us s1 ⟨vs, H1, I1, r1, v, o, F1, ρ1, ev, g1, st1, ok1, h1⟩ => ?_) (star_cons n) rfl))
  subst ev
  obtain ⟨x, ex, h2⟩ := must_iff.mp h1
  obtain ⟨ds, ed, h3⟩ := must_iff.mp h2
  obtain ⟨gL, bk, rv, nm⟩ := lock_ok g1 ok1 ex
  cases x with
  | list xs0 =>
    cases ed
    obtain ⟨a, xs, rfl, q, t⟩ := rv.lst
    cases r1 with
    | cons r rr =>
      cases rr
      cases r
      obtain ⟨its, rvs, p', hz⟩ := I1.list (SqL.of q)
      have hl := rvs.length
      have e1 : ((its.toArray.size : Nat) : Int) - 1 = (xs.length : Int) - 1 - ((0 : Nat) : Int) := by simp only [List.size_toArray]; omega
      refine call_reversed_list p'.isList (wpAny_pyIter_revIter (l := a) (i := ((its.toArray.size : Nat) : Int) - 1) ⟨_, Heap.get?_push_size _ rfl, rfl, rfl⟩ ?_)
      refine pi_one (tk := s1.toks) I1 _ (turn_rev a _ xs.length) ⟨Nat.zero_le _, ?_⟩ (k _ _ _ F1 H1 _ gL (bk.pre st1) (itg_rlist gL q t (nm a rfl).2 hz) h3)
      rw [← e1]
      exact ⟨_, Heap.get?_push_size _ rfl, rfl, rfl⟩
  | tuple xs0 =>
    cases ed
    obtain ⟨a, xs, rfl, q, t, _⟩ := rv.tup
    cases r1 with
    | cons r rr =>
      cases rr
      cases r
      obtain ⟨its, rvs, p', hz⟩ := I1.tuple q.sq
      have hl := rvs.length
      have hn := line63
      have e1 : ((its.toArray.size : Nat) : Int) - 1 = (xs.length : Int) - 1 - ((0 : Nat) : Int) := by simp only [List.size_toArray]; omega
      refine RT.call_reversed_tup p' (fun A E Q k => len_tuple p' (by simp only [List.size_toArray] <;> omega) k) (RT.iter_rt (t := a) (i := ((its.toArray.size : Nat) : Int) - 1) ⟨_, Heap.get?_push_size _ rfl, rfl, rfl⟩ ?_)
      refine pi_one (tk := s1.toks + 1 + 1) I1 _ (RT.turn_rt a _ xs.length) ⟨Nat.zero_le _, ?_⟩ (k _ _ _ F1 H1 _ gL (bk.pre st1) (itg_rtup gL q t (nm a rfl).2 hz) h3)
      rw [← e1]
      exact ⟨_, Heap.get?_push_size _ rfl, rfl, rfl⟩
  | str y => cases ed
  | dict es => cases ed
  | none => cases ed
  | bool b => cases ed
  | int b => cases ed
end
end Z

/-! for k, v in d.items() -/
namespace Z
open PySem PySem.Spec PyProof.Rows L2 C8
theorem rpvs_vs {K : Kx} {F : Fz} {H : Hp} : ∀ {us : List Value} {ds : List PyData}, RpVs K F H us ds → ∃ vs, Vals vs us ∧ RpAll K F H vs ds
  | _, _, .nil => ⟨[], .nil, .nil⟩
  | _, _, .cons r p t => let ⟨vs, a, b⟩ := rpvs_vs t; ⟨_ :: vs, .cons r a, .cons p b⟩
structure FrzI (X : Cx) (pins : List (Addr × Obj)) (σ : L2.St) (H : Hp) (s : Shared) (F : Fz) (v : V) (es : List (PyData × PyData)) (a : Addr) (o : Obj) (H2 : Hp) (rows : List (List V)) (de : Array DictEntry) (ep : Nat) : Prop where
  ev : v = .ref a
  I : Inv X pins σ H2 s
  l : Lay F H F H2
  f : F a
  fz : ∃ u, H2 a = some (.frz o u)
  len : rows.length = es.length
  rp : ∀ (i : Nat) (xs : List V) (p : PyData × PyData), rows[i]? = some xs → es[i]? = some p → RpAll X.k F H2 xs [p.1, p.2]
  z : rows.length ≤ sizeLine
  hs : (a == sysModules) = false
  hgd : s.heap.get? a = some o
  hx : o.ExactDict
  hdt : o.data = .dict de ep
  hsz : de.size = rows.length
  hk : ∀ (i : Nat) (xs : List V), rows[i]? = some xs → ∃ en, de[i]? = some en ∧ Vals xs [en.key, en.val] ∧ xs.length ≤ 3
theorem frz_items {X : Cx} {pins : List (Addr × Obj)} {σ : L2.St} {H : Hp} {s : Shared} {F : Fz} {v : V} {es : List (PyData × PyData)} (I : Inv X pins σ H s) (t : ∀ a, F a → H a ≠ none) (r : Rp X.k F H v (.dict es)) :
    ∃ a o H2 rows de ep, FrzI X pins σ H s F v es a o H2 rows de ep := by
  cases r with
  | @dk a kvs _ f rd e w =>
    have fin : ∀ (H2 : Hp) (o : Obj), Inv X pins σ H2 s → Lay F H F H2 → H2 a = some (.frz o (.dK kvs)) → ∃ a' o H2 rows de ep, FrzI X pins σ H s F (.ref a) es a' o H2 rows de ep := fun H2 o I2 l h2 => by
      obtain ⟨hs, hgd, hx, de, ep, vs, hdt, hsz, kv, hm⟩ := I2.frzK h2
      have hz : kvs.length ≤ sizeLine := (I2.hok a _ h2).2.1
      obtain ⟨o', de', g1, g2, g3, _, pr, _⟩ := hm
      rw [hgd] at g1
      cases g1
      rw [hdt] at g3
      cases g3
      have ek : es.map (·.1) = (kvs.map (·.1)).map keyV := by rw [List.map_map]; exact e.symm
      have el : kvs.length = es.length := by have := congrArg List.length ek; simpa using this.symm
      have w2 := w.gr (l.gr t)
      have kr : RpAll X.k F H2 ((kvs.map (·.1)).map kV) (es.map (·.1)) := by rw [ek]; exact rp_kV _
      refine ⟨a, o, H2, kvs.map fun p => [kV p.1, p.2], de, ep, rfl, I2, l, f, ⟨_, h2⟩, by rw [List.length_map]; exact el, fun i xs p h1 hp => ?_, by rw [List.length_map]; exact hz, hs, hgd, hx, hdt, by rw [List.length_map]; exact hsz, fun i xs h1 => ?_⟩
      · rw [List.getElem?_map] at h1
        obtain ⟨q, hq, rfl⟩ := Option.map_eq_some_iff.mp h1
        obtain ⟨d1, hd1, r1⟩ := kr.get (i := i) (v := kV q.1) (by rw [List.getElem?_map, List.getElem?_map, hq]; rfl)
        obtain ⟨d2, hd2, r2⟩ := w2.get (i := i) (v := q.2) (by rw [List.getElem?_map, hq]; rfl)
        rw [List.getElem?_map, hp] at hd1 hd2
        cases hd1
        cases hd2
        exact .cons r1 (.cons r2 .nil)
      · rw [List.getElem?_map] at h1
        obtain ⟨⟨k', v'⟩, hk', rfl⟩ := Option.map_eq_some_iff.mp h1
        obtain ⟨u, hu, ru⟩ := kv_get kv hk'
        have hi : i < de.size := by rw [hsz]; exact (List.getElem?_eq_some_iff.mp hk').1
        have he : de.toList[i]? = some de[i] := by rw [Array.getElem?_toList]; exact Array.getElem?_eq_getElem hi
        obtain ⟨ki, vi⟩ := pr.get? he hu
        refine ⟨de[i], Array.getElem?_eq_getElem hi, .cons (relV_key ki) (.cons ?_ .nil), by simp⟩
        rw [vi]
        exact ru
    rcases rd with h | ⟨o, h⟩
    · obtain ⟨o, I2⟩ := I.lock h True.intro
      exact fin _ o I2 (lay_lock t f h (.inl ⟨_, rfl⟩)) upd_same
    · exact fin H o I (Lay.refl t) h
  | @dt a xs _ f rd n e w z =>
    have fin : ∀ (H2 : Hp) (o : Obj), Inv X pins σ H2 s → Lay F H F H2 → H2 a = some (.frz o (TD X.k a xs)) → ∃ a' o H2 rows de ep, FrzI X pins σ H s F (.ref a) es a' o H2 rows de ep := fun H2 o I2 l h2 => by
      obtain ⟨hgd, ⟨hz, hs, o', de, ep, g1, g2, g3, g4, _⟩, _⟩ := I2.hok a _ h2
      rw [hgd] at g1
      cases g1
      have hl := congrArg List.length g4
      rw [Array.length_toList, List.length_map] at hl
      obtain ⟨vs, rv, rp⟩ := rpvs_vs z
      have lv : vs.length = xs.length := by have := rv.length; simpa using this
      have el : xs.length = es.length := by have := congrArg List.length e; simpa using this
      have w2 := w.gr (l.gr t)
      have rp2 := rp.gr (l.gr t)
      have hrl : ((xs.zip vs).map fun q => [V.ref q.1.2.1, q.2]).length = xs.length := by rw [List.length_map, List.length_zip, lv, Nat.min_self]
      refine ⟨a, o, H2, (xs.zip vs).map fun q => [.ref q.1.2.1, q.2], de, ep, rfl, I2, l, f, ⟨_, h2⟩, by rw [hrl]; exact el, fun i ys p h1 hp => ?_, by rw [hrl]; exact hz, hs, hgd, g2, g3, by rw [hrl]; exact hl, fun i ys h1 => ?_⟩
      · rw [List.getElem?_map] at h1
        obtain ⟨⟨q1, q2⟩, hq, rfl⟩ := Option.map_eq_some_iff.mp h1
        obtain ⟨e1, e2⟩ := List.getElem?_zip_eq_some.mp hq
        obtain ⟨d1, hd1, r1⟩ := w2.get (i := i) (v := .ref q1.2.1) (by rw [List.getElem?_map, e1]; rfl)
        obtain ⟨d2, hd2, r2⟩ := rp2.get (i := i) (v := q2) e2
        rw [List.getElem?_map, hp] at hd1 hd2
        cases hd1
        cases hd2
        exact .cons r1 (.cons r2 .nil)
      · rw [List.getElem?_map] at h1
        obtain ⟨⟨q1, q2⟩, hq, rfl⟩ := Option.map_eq_some_iff.mp h1
        obtain ⟨e1, e2⟩ := List.getElem?_zip_eq_some.mp hq
        have q := congrArg (fun l => l[i]?) g4
        simp only [List.getElem?_map, e1, Option.map_some] at q
        rw [Array.getElem?_toList] at q
        obtain ⟨u, hu, ru⟩ := rv.get e2
        rw [List.getElem?_map, e1] at hu
        cases hu
        exact ⟨_, q, .cons rfl (.cons ru .nil), by simp⟩
    rcases rd with h | ⟨o, h⟩
    · obtain ⟨o, I2⟩ := I.lock h True.intro
      exact fin _ o I2 (lay_lock t f h (.inr ⟨_, rfl⟩)) upd_same
    · exact fin H o I (Lay.refl t) h
/-- the dict stands frozen, its entries are these -/
def PFz (a : Addr) (o : Obj) (rows0 : List (List V)) : Hp → List (List V) → Prop := fun H rows => (∃ u, H a = some (.frz o u)) ∧ rows = rows0
theorem turn_itemsZ {Pg : Program} {w : World} {K : PySem.W.Frag} {elts : List Expr} {kk : Nat} {tpos : Pos} {a : Addr} {o : Obj} {rows : List (List V)} {de : Array DictEntry} {ep : Nat} (it : Addr) (hx : o.ExactDict) (hdt : o.data = .dict de ep) (hsz : de.size = rows.length)
    (hk : ∀ (i : Nat) (xs : List V), rows[i]? = some xs → ∃ en, de[i]? = some en ∧ Vals xs [en.key, en.val] ∧ xs.length ≤ 3) :
    Turn Pg w K (.Tuple elts kk tpos) (ItP (PFz a o rows)) [it] it (fun i h => (∃ ok ov, IsItemIter h it a i de.size ep ok ov) ∧ a ≠ it) := by
  refine turn_rows (wr := [it]) (by simp) (fun i h st b hb => ?_) (fun i h h' st kp => ?_) (fun b hb => hb) (fun A i s Q E st h => let ⟨⟨_, _, he⟩, _⟩ := st; PySem.W.kcp_self he h) ?_
  · obtain ⟨⟨ok, ov, he⟩, _⟩ := st
    have e' : b = it := by simpa using hb
    rw [e']
    exact ⟨_, he, fun v q => nomatch q⟩
  · obtain ⟨⟨ok, ov, he⟩, n⟩ := st
    exact ⟨⟨ok, ov, kp it (by simp) _ he⟩, n⟩
  · intro X hP hw hK hc i pins s σ H rows' In st hp hi
    subst hP hw hK
    obtain ⟨⟨u, hu⟩, rfl⟩ := hp
    obtain ⟨he, ne⟩ := st
    have hgd : s.heap.get? a = some o := (In.hok a _ hu).1
    have raw : s.heap.DictRaw a de ep := ⟨o, hgd, hx, hdt⟩
    have Wt := WalksT.rawItems (prog := X.prog) (w := X.w) (A := X.A) (In.ok.hd hc) it a ne de ep
    rw [← hsz]
    refine ⟨_, _, _, _, Wt, ⟨he, raw⟩, fun h' st' => ⟨st'.1, ne⟩, fun vals zs hz pt => ?_, fun rows'' hr => hr.2⟩
    obtain ⟨hi', rfl⟩ := pt
    obtain ⟨en, e1, e2, e3⟩ := hk i zs hz
    rw [Array.getElem?_eq_getElem hi'] at e1
    cases e1
    exact ⟨e2, e3⟩
section
variable {Φ : Nat → Spc} {X : Cx} {e0 : Expr} {e : E} {pos p1 tpos : Pos} {elts : List Expr} {kk : Nat}
theorem sdI_items (he : Sd Φ X e0 e) (m : Mth X e0 "items" p1 pos) : SdI Φ X (.Tuple elts kk tpos) (.Call (.Attribute e0 "items" p1) [] [] pos) (.items e) := by
  refine ⟨fun pins s σ H R I h => ?_⟩
  obtain ⟨F, ρ, Q, g, h, k⟩ := h
  rw [rdI_items] at h
  refine wpAny_Call_method (T := "dict") (id := "dict.items") (base_plain m.base) rfl m.line PySem.F.plainAttrs_dict PySem.F.slot_dict_items PySem.F.type_dict_items (thn (he.opR I g h) fun u s1 ⟨v, H1, F1, ρ1, o, I1, r1, g1, st1, ok1, h1⟩ => ?_)
  obtain ⟨x, ex, h2⟩ := must_iff.mp h1
  obtain ⟨es, ed, h2⟩ := must_iff.mp h2
  obtain ⟨ρ2, e2, h3⟩ := must_iff.mp h2
  cases x with
  | dict es0 =>
    cases ed
    obtain ⟨F2, g2, st2, rp⟩ : ∃ F2, Sg X.k F2 H1 σ ρ2 ∧ Stp F1 H1 σ ρ1 F2 H1 σ ρ2 ∧ Rp X.k F2 H1 v (.dict es) := by
      cases o with
      | val d =>
        cases e2
        cases (show d = .dict es from Option.some.inj ex)
        exact ⟨F1, g1, .refl, ok1⟩
      | slot i =>
        have ok1 : σ[i]? = some (some v) := ok1
        have ex : (ρ1[i]?).bind Sl.dat = some (.dict es) := ex
        have e2 : (match ρ1[i]? with | some (.ow d) => some (ρ1.set i (.sh d)) | some (.sh _) => some ρ1 | _ => none) = some ρ2 := e2
        cases q1 : ρ1[i]? with
        | none => rw [q1] at e2; cases e2
        | some sl =>
          rw [q1] at e2 ex
          have r := g1.sl i sl q1
          cases sl with
          | ow d =>
            cases e2
            cases (show d = .dict es from Option.some.inj ex)
            obtain ⟨a, e1, n, ob⟩ := r
            rw [ok1] at e1
            cases e1
            obtain ⟨g2, st2, rp⟩ := g1.share q1 ok1 ob.or ob.tr (.inl rfl)
            exact ⟨_, g2, st2, rp⟩
          | sh d =>
            cases e2
            cases (show d = .dict es from Option.some.inj ex)
            obtain ⟨v', e1, rp⟩ := r
            rw [ok1] at e1
            cases e1
            exact ⟨F1, g1, .refl, rp⟩
          | _ => cases e2
    obtain ⟨a, od, H2, rows, de, ep, Z⟩ := frz_items I1 g2.tr rp
    obtain ⟨rfl, I2, l, f, fz, len, rpx, z, hs, hgd, hx, hdt, hsz, hk⟩ := Z
    cases r1
    have g3 := l.sg g2
    have raw : s1.heap.DictRaw a de ep := ⟨od, hgd, hx, hdt⟩
    refine ⟨raw.typeIs, fun b hb => by cases hb; exact ⟨od, hgd, hx.2.1⟩, ?_⟩
    have I3 : Inv X pins σ H2 { s1 with heap := s1.heap.push { cls := .type "dict_items", data := .fields #[.ref a] } } := I2.kept (t' := s1.toks) fun b ob q => Heap.get?_push_of_some _ q
    have alt : a < s1.heap.objs.size := Heap.lt_size hgd
    have hsz1 : (s1.heap.push { cls := .type "dict_items", data := .fields #[.ref a] }).objs.size = s1.heap.objs.size + 1 := Heap.size_push ..
    have raw2 : (s1.heap.push { cls := .type "dict_items", data := .fields #[.ref a] }).DictRaw a de ep := raw.at fun o q => Heap.get?_push_of_some _ q
    have fin : wpAny (model X.prog X.w) X.A (pyIter (.ref s1.heap.objs.size)) (PIE X pins σ (.Tuple elts kk tpos) R) X.xe { s1 with heap := s1.heap.push { cls := .type "dict_items", data := .fields #[.ref a] } } := by
      refine wpAny_pyIter_items_raw (d := a) ⟨_, Heap.get?_push_size _ rfl, rfl, rfl⟩ raw2 (pi_one (tk := s1.toks) I3 _ (turn_itemsZ _ hx hdt hsz hk) ⟨⟨.none, .none, Heap.get?_push_size _ rfl⟩, ?_⟩ (k _ [] (es.map fun p => .tuple [p.1, p.2]) F2 H2 ρ2 g3 (Back.none ((st1.trans st2).trans l.stp)) ?_ h3))
      · show a ≠ (s1.heap.push _).objs.size
        rw [hsz1]
        exact Nat.ne_of_lt (Nat.lt_succ_of_lt alt)
      · have e1 : es.map (fun p => PyData.tuple [p.1, p.2]) = (es.map fun p => [p.1, p.2]).map .tuple := by rw [List.map_map]; rfl
        rw [e1]
        refine itg_rows (rows := rows) (by rw [List.length_map]; exact len) (by rw [List.length_map, ← len]; exact z) fun F H σ ρ g s => ?_
        obtain ⟨u, hu⟩ := fz
        refine ⟨⟨⟨u, ((s.gr g3).eq a f).frz hu⟩, rfl⟩, fun i zs es' h1 h2 => ?_⟩
        rw [List.getElem?_map] at h2
        obtain ⟨p, hp, rfl⟩ := Option.map_eq_some_iff.mp h2
        exact (rpx i zs p h1 hp).gr (s.gr g3)
    show wpAny _ _ (callWith pos (.builtin "dict.items") [.ref a] [] []) _ X.xe s1
    exact method_meetsIn PySem.F.slot_dict_items PySem.F.entry_dict_items rfl (PySem.evalArgs_none ⟨rfl, raw.typeIs, PySem.F.args_dict_items_1 _, _, meets_dict_items_raw a hs, ⟨⟨de, ep, raw⟩, fin⟩⟩)
  | _ => cases ed
end
end Z

/-! the check of a text against its tree -/
namespace Z
open PySem PySem.Spec PyProof.Rows L2
open C8 (Cal pe_c)
/-- names of a def; built-ins that are not hidden; names from math; the text's own defs, told before -/
structure Cc where
  N : List Str
  B : List Str
  M : List (Str × String)
  Fs : List (Str × Nat × Bool)
  nx : Bool
  G : List (Str × PyData) := []
/-- constants of the module -/
def scV : PyData → Option V
  | .int i => some (.int i)
  | .str i => some (.str i)
  | .bool i => some (.bl i)
  | .none => some .non
  | _ => none
/-- what is known where the text runs -/
structure Xo (Φ : Nat → Spc) (c : Cc) (sc : Scope) (fc : Str → Bool) (X : Cx) : Prop where
  hN : X.N = c.N
  nd : c.N.Nodup
  hsc : X.env.scope = sc
  kind : sc.kind = .function
  fn : ∀ x, fc x = true → X.fn x = true
  calm : X.calm = true
  xe : X.xe = fun _ _ => False
  blt : ∀ x ∈ c.B, X.mg x = none
  mth : ∀ p ∈ c.M, X.mg p.1 = some (.builtin p.2)
  glo : ∀ p ∈ c.G, ∃ u v, scV p.2 = some v ∧ X.mg p.1 = some u ∧ L2.RelV v u
  room : ∃ k, Room k X.A ∧ (∀ i p, c.Fs[i]? = some p → Cal X.prog X.w X.K X.mg X.base k p.1 (if p.2.2 = true then spD X.k (Φ i) p.2.1 else spZ X.k (Φ i) p.2.1) []) ∧ (c.nx = true → Cal X.prog X.w X.K X.mg X.base k "_law_next" (spN X.k) [])
def visC (sc : Scope) (x : Str) : Bool :=
  (match sc.names.lookup x with | some .local => true | some .cell => true | some .free => true | _ => false) && !(x == "__debug__") && !(x == "__classdict__")
def nameC (c : Cc) (sc : Scope) (i : Nat) (x : Str) : Bool := decide (c.N[i]? = some x) && visC sc x
def glC (sc : Scope) (x : Str) : Bool := decide (sc.names.lookup x = some .globalImplicit) && !(x == "__debug__")
def bltC (c : Cc) (sc : Scope) (x : Str) : Bool := glC sc x && decide (x ∈ c.B)
/-- a name that may be stored -/
def locC (c : Cc) (sc : Scope) (fc : Str → Bool) (i : Nat) (x : Str) : Bool :=
  decide (c.N[i]? = some x) && (decide (sc.names.lookup x = some .local) || (decide (sc.names.lookup x = some .cell) && fc x))
section
variable {Φ : Nat → Spc} {c : Cc} {sc : Scope} {fc : Str → Bool} {X : Cx} {x y : Str} {i : Nat}
theorem visC_ok (o : Xo Φ c sc fc X) (h : visC sc x = true) : Vis X.env.scope x ∧ (x == ("__debug__" : Str)) = false ∧ (x == ("__classdict__" : Str)) = false := by
  unfold visC at h
  simp only [Bool.and_eq_true, Bool.not_eq_true'] at h
  obtain ⟨⟨h1, h2⟩, h3⟩ := h
  refine ⟨?_, h2, h3⟩
  rw [o.hsc]
  unfold Vis
  cases q : sc.names.lookup x with
  | none => rw [q] at h1; cases h1
  | some k =>
    rw [q] at h1
    cases k <;> simp_all
theorem nameC_ok (o : Xo Φ c sc fc X) (h : nameC c sc i x = true) : X.N[i]? = some x ∧ Vis X.env.scope x ∧ (x == ("__debug__" : Str)) = false ∧ (x == ("__classdict__" : Str)) = false := by
  unfold nameC at h
  rw [Bool.and_eq_true, decide_eq_true_eq] at h
  exact ⟨by rw [o.hN]; exact h.1, visC_ok o h.2⟩
theorem glC_ok (o : Xo Φ c sc fc X) (h : glC sc x = true) : Gl X x ∧ (x == ("__debug__" : Str)) = false := by
  unfold glC at h
  simp only [Bool.and_eq_true, Bool.not_eq_true', decide_eq_true_eq] at h
  exact ⟨by unfold Gl Env.kindOf; rw [o.hsc]; exact h.1, h.2⟩
theorem bltC_ok (o : Xo Φ c sc fc X) (h : bltC c sc x = true) : Gl X x ∧ X.mg x = none ∧ (x == ("__debug__" : Str)) = false := by
  unfold bltC at h
  rw [Bool.and_eq_true, decide_eq_true_eq] at h
  obtain ⟨h1, h2⟩ := glC_ok o h.1
  exact ⟨h1, o.blt x h.2, h2⟩
theorem locC_ok (o : Xo Φ c sc fc X) (h : locC c sc fc i x = true) : X.N[i]? = some x ∧ Loc X.env.scope x ∧ (X.fn x = true ∨ X.env.scope.names.lookup x = some .local) := by
  unfold locC at h
  simp only [Bool.and_eq_true, Bool.or_eq_true, decide_eq_true_eq] at h
  obtain ⟨h1, h2⟩ := h
  refine ⟨by rw [o.hN]; exact h1, ?_⟩
  rw [o.hsc]
  rcases h2 with h2 | ⟨h2, h3⟩
  · exact ⟨.inl h2, .inr h2⟩
  · exact ⟨.inr h2, .inl (o.fn x h3)⟩
theorem Xo.units (o : Xo Φ c sc fc X) : X.A.units + 70 < cLine := by
  obtain ⟨k, r, _⟩ := o.room
  have := r.un
  omega
end
/-! operators -/
def binPr : Operator → Option Pr
  | .Add => some .add | .Sub => some .sub | .Mult => some .mul | .FloorDiv => some .fdiv | .Mod => some .mod | .Pow => some .pow | _ => none
def cmpPr : CmpOp → Option Pr
  | .Eq => some .eq | .NotEq => some .ne | .Lt => some .lt | .LtE => some .le | .Gt => some .gt | .GtE => some .ge | .In => some .in_ | .NotIn => some .nin | .Is => some .is_ | .IsNot => some .isn
theorem binPr_ok {X : Cx} {op : Operator} {p : Pr} (h : binPr op = some p) : OpR X (binaryOp op) (r2 X.k p) := by
  cases op <;> cases h
  · exact ok_add
  · exact ok_sub
  · exact ok_mul
  · exact ok_mod
  · exact ok_pow
  · exact ok_fdiv
theorem cmpPr_ok {X : Cx} {op : CmpOp} {p : Pr} (hu : X.A.units + 70 < cLine) (h : cmpPr op = some p) : isCmp p = true ∧ OpR X (compareOp op) (r2 X.k p) := by
  cases op <;> cases h <;> refine ⟨rfl, ?_⟩
  · exact ok_eq (by omega)
  · exact ok_ne (by omega)
  · exact ok_lt (by omega)
  · exact ok_le (by omega)
  · exact ok_gt (by omega)
  · exact ok_ge (by omega)
  · exact ok_is
  · exact ok_isn
  · exact ok_in (by omega)
  · exact ok_nin (by omega)
theorem ok_sorted {X : Cx} (hu : X.A.units + 70 < cLine) (hc : X.calm = true) : CallR X (.builtin "sorted") (rL1 X.k .sorted) := by
  intro pins s σ H xs us Q I rs h
  obtain ⟨x, rfl, F, dx, d, t, hx, ed, k⟩ := h
  cases dx with
  | list ds =>
    have ed : (if sortOk ds = true then some (PyData.list (sortD ds)) else none) = some d := ed
    split at ed
    · rename_i cc
      cases ed
      exact ok_sorted_list hu pins s σ H [x] us Q I rs ⟨F, x, ds, rfl, t, hx, cc, k⟩
    · cases ed
  | tuple ds =>
    have ed : (if sortOk ds = true then some (PyData.list (sortD ds)) else none) = some d := ed
    split at ed
    · rename_i cc
      cases ed
      exact ok_sorted_tuple hu pins s σ H [x] us Q I rs ⟨F, x, ds, rfl, t, hx, cc, k⟩
    · cases ed
  | dict es =>
    have ed : (if (sortOk (es.map (·.1)) && (es.map (·.1)).all isKey0) = true then some (PyData.list (sortD (es.map (·.1)))) else if sortTOk (es.map (·.1)) = true then some (PyData.list (sortD (es.map (·.1)))) else none) = some d := ed
    by_cases cc : (sortOk (es.map (·.1)) && (es.map (·.1)).all isKey0) = true
    · rw [if_pos cc] at ed
      cases ed
      exact ok_sorted_dict hu hc pins s σ H [x] us Q I rs ⟨F, x, es, rfl, t, hx, cc, k⟩
    · rw [if_neg cc] at ed
      by_cases c2 : sortTOk (es.map (·.1)) = true
      · rw [if_pos c2] at ed
        cases ed
        unfold sortTOk at c2
        simp only [Bool.and_eq_true, Bool.or_eq_true, decide_eq_true_eq] at c2
        have ne : es ≠ [] := fun e => cc (by rw [e]; rfl)
        exact ok_sorted_dictT hu hc pins s σ H [x] us Q I rs ⟨F, x, es, rfl, t, hx, ne, c2.1.1, c2.1.2, c2.2, k⟩
      · rw [if_neg c2] at ed
        cases ed
  | _ => cases ed
/-- calls of built-ins with one argument -/
def tab1 : List (Str × Pr) := [("len", .len), ("abs", .abs), ("min", .min1), ("max", .max1), ("sum", .sum), ("all", .all), ("any", .any), ("sorted", .sorted)]
def tabT : List (Str × Pr) := [("int", .int), ("tuple", .tuple), ("list", .list), ("dict", .dict)]
def tab2 : List (Str × Pr) := [("min", .min2), ("max", .max2)]
def tabI : List (Str × Pr) := [("int", .isInt), ("str", .isStr), ("bool", .isBool), ("list", .isList), ("tuple", .isTuple)]
theorem tab1_ok {X : Cx} (hu : X.A.units + 70 < cLine) (hc : X.calm = true) : ∀ q ∈ tab1, ∃ id, CallR X (.builtin id) (rL1 X.k q.2) ∧ bootBuiltins q.1 = some (.builtin id) ∧ q.1 ≠ "__name__" := by
  intro q hq
  simp only [tab1, List.mem_cons, List.not_mem_nil, or_false] at hq
  rcases hq with rfl | rfl | rfl | rfl | rfl | rfl | rfl | rfl
  · exact ⟨_, ok_len, rfl, by decide⟩
  · exact ⟨_, ok_abs, rfl, by decide⟩
  · exact ⟨_, ok_min1 hc (by omega), rfl, by decide⟩
  · exact ⟨_, ok_max1 hc (by omega), rfl, by decide⟩
  · exact ⟨_, ok_sum hc, rfl, by decide⟩
  · exact ⟨_, ok_all hc, rfl, by decide⟩
  · exact ⟨_, ok_any hc, rfl, by decide⟩
  · exact ⟨_, ok_sorted hu hc, rfl, by decide⟩
theorem tabT_ok {X : Cx} (hu : X.A.units + 70 < cLine) (hc : X.calm = true) : ∀ q ∈ tabT, ∃ id, CallR X (.type id) (rL1 X.k q.2) ∧ bootBuiltins q.1 = some (.type id) ∧ q.1 ≠ "__name__" := by
  intro q hq
  simp only [tabT, List.mem_cons, List.not_mem_nil, or_false] at hq
  rcases hq with rfl | rfl | rfl | rfl
  · exact ⟨_, ok_int, rfl, by decide⟩
  · exact ⟨_, ok_tuple, rfl, by decide⟩
  · exact ⟨_, ok_list, rfl, by decide⟩
  · exact ⟨_, ok_dict hu hc, rfl, by decide⟩
theorem tab2_ok {X : Cx} (hu : X.A.units + 70 < cLine) (hc : X.calm = true) : ∀ q ∈ tab2, ∃ id, CallR X (.builtin id) (rL2 X.k q.2) ∧ bootBuiltins q.1 = some (.builtin id) ∧ q.1 ≠ "__name__" := by
  intro q hq
  simp only [tab2, List.mem_cons, List.not_mem_nil, or_false] at hq
  rcases hq with rfl | rfl
  · exact ⟨_, ok_min2 hc (by omega), rfl, by decide⟩
  · exact ⟨_, ok_max2 hc (by omega), rfl, by decide⟩
theorem tabI_ok {X : Cx} : ∀ q ∈ tabI, ∃ T, CallR X (.builtin "isinstance") (rIs1 X.k q.2 T) ∧ bootBuiltins q.1 = some (.type T) ∧ q.1 ≠ "__name__" := by
  intro q hq
  simp only [tabI, List.mem_cons, List.not_mem_nil, or_false] at hq
  rcases hq with rfl | rfl | rfl | rfl | rfl
  · exact ⟨_, ok_isInt, rfl, by decide⟩
  · exact ⟨_, ok_isStr, rfl, by decide⟩
  · exact ⟨_, ok_isBool, rfl, by decide⟩
  · exact ⟨_, ok_isList, rfl, by decide⟩
  · exact ⟨_, ok_isTuple, rfl, by decide⟩
/-- sorted(set(a)), len(set(a)) -/
def shapeS (c : Cc) (sc : Scope) (p : Pr) (f : Str) : Expr → Option Expr
  | .Call (.Name g _) [a] [] _ => if (bltC c sc f && bltC c sc g && notStar a && decide (g = "set") && ((decide (f = "sorted") && decide (p = .sortedSet)) || (decide (f = "len") && decide (p = .lenSet)))) = true then some a else none
  | _ => none
def shape1 (c : Cc) (sc : Scope) (p : Pr) : Expr → Option Expr
  | .UnaryOp .USub a _ => if decide (p = .neg) = true then some a else none
  | .Call (.Name f _) [a] [] _ => if (bltC c sc f && notStar a && (decide ((f, p) ∈ tab1) || decide ((f, p) ∈ tabT))) = true then some a else shapeS c sc p f a
  | .Call (.Name f _) [a, .Name y _] [] _ => if (decide (f = "isinstance") && bltC c sc f && bltC c sc y && notStar a && decide ((y, p) ∈ tabI)) = true then some a else none
  | .Call (.Name f _) [a, .Tuple [.Name l _, .Name t _] _ _] [] _ => if (decide (f = "isinstance") && decide (l = "list") && decide (t = "tuple") && bltC c sc f && bltC c sc l && bltC c sc t && notStar a && decide (p = .isSeq)) = true then some a else none
  | _ => none
def shape2 (c : Cc) (sc : Scope) (p : Pr) : Expr → Option (Expr × Expr)
  | .BinOp a op b _ => if decide (binPr op = some p) = true then some (a, b) else none
  | .Compare a [op] [b] _ => if (decide (cmpPr op = some p) && noMark b) = true then some (a, b) else none
  | .Subscript a (.Slice (some b) none none _) _ => if decide (p = .slL) = true then some (a, b) else none
  | .Subscript a (.Slice none (some b) none _) _ => if decide (p = .slH) = true then some (a, b) else none
  | .Subscript a b _ => if (decide (p = .ix) && plainIx b) = true then some (a, b) else none
  | .Call (.Name f _) [a, b] [] _ =>
    if (bltC c sc f && notStar a && notStar b && decide ((f, p) ∈ tab2)) = true then some (a, b)
    else if (glC sc f && notStar a && notStar b && decide ((f, "math.gcd") ∈ c.M) && decide (p = .gcd)) = true then some (a, b)
    else if (glC sc f && notStar a && notStar b && decide ((f, "math.lcm") ∈ c.M) && decide (p = .lcm)) = true then some (a, b) else none
  | _ => none
section
variable {Φ : Nat → Spc} {c : Cc} {sc : Scope} {fc : Str → Bool} {X : Cx} {e0 a0 b0 c0 : Expr} {a b : E} {p : Pr}
theorem shape1_ok (o : Xo Φ c sc fc X) (h : shape1 c sc p e0 = some a0) (ha : Sd Φ X a0 a) : Sd Φ X e0 (.p1 p a) := by
  unfold shape1 at h
  split at h
  · split at h
    · rename_i q
      cases h
      have q := of_decide_eq_true q
      subst q
      exact sd_un ok_neg ha fun _ => rfl
    · cases h
  · split at h
    · rename_i q
      cases h
      simp only [Bool.and_eq_true, Bool.or_eq_true, decide_eq_true_eq] at q
      obtain ⟨⟨q1, q2⟩, q3⟩ := q
      obtain ⟨g1, g2, g3⟩ := bltC_ok o q1
      rcases q3 with q3 | q3
      · obtain ⟨id, r1, r2, r3⟩ := tab1_ok o.units o.calm _ q3
        exact sd_b1 r1 g1 g2 r2 r3 g3 ha q2
      · obtain ⟨id, r1, r2, r3⟩ := tabT_ok o.units o.calm _ q3
        exact sd_t1 r1 g1 g2 r2 r3 g3 ha q2
    · unfold shapeS at h
      split at h
      · split at h
        · rename_i q
          cases h
          simp only [Bool.and_eq_true, Bool.or_eq_true, decide_eq_true_eq] at q
          obtain ⟨⟨⟨⟨q1, q2⟩, q3⟩, rfl⟩, q4⟩ := q
          obtain ⟨g1, g2, _⟩ := bltC_ok o q1
          obtain ⟨k1, k2, _⟩ := bltC_ok o q2
          rcases q4 with ⟨rfl, rfl⟩ | ⟨rfl, rfl⟩
          · exact sd_sortedSet o.units o.calm g1 g2 k1 k2 ha q3
          · exact sd_lenSet o.calm g1 g2 k1 k2 ha q3
        · cases h
      · cases h
  · split at h
    · rename_i q
      cases h
      simp only [Bool.and_eq_true, decide_eq_true_eq] at q
      obtain ⟨⟨⟨⟨rfl, q1⟩, q2⟩, q3⟩, q4⟩ := q
      obtain ⟨g1, g2, g3⟩ := bltC_ok o q1
      obtain ⟨k1, k2, k3⟩ := bltC_ok o q2
      obtain ⟨id, r1, r2, r3⟩ := tabI_ok _ q4
      exact sd_isi r1 g1 g2 k1 k2 r2 r3 k3 ha q3
    · cases h
  · split at h
    · rename_i q
      cases h
      simp only [Bool.and_eq_true, decide_eq_true_eq] at q
      obtain ⟨⟨⟨⟨⟨⟨⟨rfl, rfl⟩, rfl⟩, q1⟩, q2⟩, q3⟩, q4⟩, rfl⟩ := q
      obtain ⟨g1, g2, _⟩ := bltC_ok o q1
      obtain ⟨k1, k2, _⟩ := bltC_ok o q2
      obtain ⟨l1, l2, _⟩ := bltC_ok o q3
      exact sd_isiS g1 g2 k1 k2 l1 l2 ha q4
    · cases h
  · cases h
theorem shape2_ok (o : Xo Φ c sc fc X) (h : shape2 c sc p e0 = some (a0, b0)) (ha : Sd Φ X a0 a) (hb : Sd Φ X b0 b) : Sd Φ X e0 (.p2 p a b) := by
  have hu := o.units
  unfold shape2 at h
  split at h
  · split at h
    · rename_i q
      cases h
      exact sd_op (binPr_ok (of_decide_eq_true q)) ha hb
    · cases h
  · split at h
    · rename_i q
      cases h
      rw [Bool.and_eq_true, decide_eq_true_eq] at q
      obtain ⟨h1, h2⟩ := cmpPr_ok hu q.1
      exact sd_cmp h1 h2 ha hb (mark_plain q.2)
    · cases h
  · split at h
    · rename_i q
      cases h
      have q := of_decide_eq_true q
      subst q
      exact sd_slL ha hb
    · cases h
  · split at h
    · rename_i q
      cases h
      have q := of_decide_eq_true q
      subst q
      exact sd_slH ha hb
    · cases h
  · split at h
    · rename_i q
      cases h
      rw [Bool.and_eq_true, decide_eq_true_eq] at q
      obtain ⟨rfl, q2⟩ := q
      exact sd_ix (by omega) ha hb q2
    · cases h
  · split at h
    · rename_i q
      cases h
      simp only [Bool.and_eq_true, decide_eq_true_eq] at q
      obtain ⟨⟨⟨q1, q2⟩, q3⟩, q4⟩ := q
      obtain ⟨g1, g2, g3⟩ := bltC_ok o q1
      obtain ⟨id, r1, r2, r3⟩ := tab2_ok hu o.calm _ q4
      exact sd_b2 r1 g1 g2 r2 r3 g3 ha hb q2 q3
    · split at h
      · rename_i q
        cases h
        simp only [Bool.and_eq_true, decide_eq_true_eq] at q
        obtain ⟨⟨⟨⟨q1, q2⟩, q3⟩, q4⟩, rfl⟩ := q
        obtain ⟨g1, g2⟩ := glC_ok o q1
        exact sd_g2 ok_gcd g1 (o.mth _ q4) g2 ha hb q2 q3
      · split at h
        · rename_i q
          cases h
          simp only [Bool.and_eq_true, decide_eq_true_eq] at q
          obtain ⟨⟨⟨⟨q1, q2⟩, q3⟩, q4⟩, rfl⟩ := q
          obtain ⟨g1, g2⟩ := glC_ok o q1
          exact sd_g2 ok_lcm g1 (o.mth _ q4) g2 ha hb q2 q3
        · cases h
  · cases h
end
end Z

/-! the check of expressions -/
namespace Z
open PySem PySem.Spec PyProof.Rows L2
open C8 (Cal pe_c)
def kC : PyData → Expr → Bool
  | .int i, .Constant (.int j) _ _ => decide (i = j)
  | .str x, .Constant (.str y) _ _ => decide (x = y)
  | .bool x, .Constant (.bool y) _ _ => decide (x = y)
  | .none, .Constant .none _ _ => true
  | _, _ => false
theorem kC_ok {Φ : Nat → Spc} {X : Cx} {d : PyData} {e0 : Expr} (h : kC d e0 = true) : Sd Φ X e0 (.k d) := by
  unfold kC at h
  split at h
  · cases of_decide_eq_true h; exact sd_k pe_int (fun _ _ => .int _) fun _ => rfl
  · cases of_decide_eq_true h; exact sd_k pe_str (fun _ _ => .str _) fun _ => rfl
  · cases of_decide_eq_true h; exact sd_k pe_bl (fun _ _ => .bl _) fun _ => rfl
  · exact sd_k pe_non (fun _ _ => .non) fun _ => rfl
  · cases h
/-- a constant of the module -/
def gC (c : Cc) (sc : Scope) (d : PyData) : Expr → Bool
  | .Name x _ => glC sc x && (c.G.any fun p => decide (p.1 = x) && match p.2, d with
    | .int i, .int j => decide (i = j)
    | .str i, .str j => decide (i = j)
    | .bool i, .bool j => decide (i = j)
    | .none, .none => true
    | _, _ => false)
  | _ => false
theorem gC_ok {Φ : Nat → Spc} {c : Cc} {sc : Scope} {fc : Str → Bool} {X : Cx} (o : Xo Φ c sc fc X) {d : PyData} {e0 : Expr} (h : gC c sc d e0 = true) : Sd Φ X e0 (.k d) := by
  unfold gC at h
  split at h
  · rw [Bool.and_eq_true, List.any_eq_true] at h
    obtain ⟨h1, p, hp, h2⟩ := h
    rw [Bool.and_eq_true, decide_eq_true_eq] at h2
    obtain ⟨rfl, h2⟩ := h2
    obtain ⟨g1, g2⟩ := glC_ok o h1
    obtain ⟨u, v, e1, e2, r⟩ := o.glo p hp
    have ed : p.2 = d := by
      split at h2
      · rename_i q1; rw [q1, of_decide_eq_true h2]
      · rename_i q1; rw [q1, of_decide_eq_true h2]
      · rename_i q1; rw [q1, of_decide_eq_true h2]
      · rename_i q1; exact q1
      · cases h2
    rw [ed] at e1
    refine sd_k (pe_glob g1 e2 r g2) (fun F H => ?_) fun _ => rfl
    cases d <;> cases e1
    · exact .non
    · exact .bl _
    · exact .int _
    · exact .str _
  · cases h
/-- targets -/
def chkG (c : Cc) (sc : Scope) (fc : Str → Bool) : Tg → Expr → Bool
  | .nm i, .Name x _ => locC c sc fc i x
  | .cons t r, .Tuple es _ _ => chkGs c sc fc (.cons t r) es
  | _, _ => false
where chkGs (c : Cc) (sc : Scope) (fc : Str → Bool) : Tg → List Expr → Bool
  | .nil, [] => true
  | .cons t r, e :: es => chkG c sc fc t e && notStar e && chkGs c sc fc r es
  | _, _ => false
/-- the names that a block holds -/
def ownOf (c : Cc) (vs : List Nat) : List (Str × Nat) := vs.map fun i => (c.N.getD i Str.empty, i)
theorem ownOf_snd (c : Cc) (vs : List Nat) : (ownOf c vs).map (·.2) = vs := by
  unfold ownOf; rw [List.map_map]; exact List.map_id' vs
def rngOnly : I → Bool
  | .rng1 _ => true
  | .rng2 _ _ => true
  | _ => false
def fcB (scope : Scope) : Str → Bool := fun x => scope.names.lookup x == some .cell
def noSet : Expr → Bool
  | .Set .. => false
  | _ => true
theorem noSet_ok {e : Expr} {env : PySem.Env} (h : noSet e = true) : ∀ x, foldedSetIterable e env x = pure x := fun x => by cases e <;> first | rfl | cases h
def subV (a b : List Nat) : Bool := a.all fun i => decide (i ∈ b)
theorem subV_ok {a b : List Nat} (h : subV a b = true) : ∀ i ∈ a, i ∈ b := fun i hi => by
  unfold subV at h
  exact of_decide_eq_true (List.all_eq_true.mp h i hi)
def blkK (c : Cc) (sc scope : Scope) (vs : List Nat) (g : Tg) (tup : Bool) (it0 : Expr) : Bool :=
  blkC c.N sc scope (ownOf c vs) && subV g.vars vs && (!tup || g.isTup) && noSet it0
mutual
def chkE (c : Cc) (sc : Scope) (fc : Str → Bool) : E → Expr → Bool
  | .k d, e0 => kC d e0 || gC c sc d e0
  | .v i, e0 => match e0 with
    | .Name x _ => nameC c sc i x
    | _ => false
  | .p1 p a, e0 => match shape1 c sc p e0 with
    | some a0 => chkE c sc fc a a0
    | none => false
  | .p2 p a b, e0 => match shape2 c sc p e0 with
    | some q => chkE c sc fc a q.1 && chkE c sc fc b q.2
    | none => false
  | .p3 p a b d, e0 => match e0 with
    | .Subscript a0 (.Slice (some b0) (some d0) none _) _ => decide (p = .slLH) && chkE c sc fc a a0 && chkE c sc fc b b0 && chkE c sc fc d d0
    | _ => false
  | .m1 p a b, e0 => match e0 with
    | .Call (.Attribute a0 m ap) [b0] [] pos => mName p m && plainRecv a0 && (ap.endLine == pos.line) && notStar b0 && chkE c sc fc a a0 && chkE c sc fc b b0
    | _ => false
  | .m2 p a b d, e0 => match e0 with
    | .Call (.Attribute a0 m ap) [b0, d0] [] pos => decide (p = .get2) && decide (m = "get") && plainRecv a0 && (ap.endLine == pos.line) && notStar b0 && notStar d0 && chkE c sc fc a a0 && chkE c sc fc b b0 && chkE c sc fc d d0
    | _ => false
  | .chain p q a b d, e0 => match e0 with
    | .Compare a0 [op, op'] [b0, d0] _ => decide (cmpPr op = some p) && decide (cmpPr op' = some q) && noMark d0 && chkE c sc fc a a0 && chkE c sc fc b b0 && chkE c sc fc d d0
    | _ => false
  | .and_ a b, e0 => match e0 with
    | .BoolOp .And [a0, b0] _ => chkE c sc fc a a0 && chkE c sc fc b b0
    | .BoolOp .And (a0 :: b0 :: b1 :: r) pos => chkE c sc fc a a0 && chkE c sc fc b (.BoolOp .And (b0 :: b1 :: r) pos)
    | _ => false
  | .or_ a b, e0 => match e0 with
    | .BoolOp .Or [a0, b0] _ => chkE c sc fc a a0 && chkE c sc fc b b0
    | .BoolOp .Or (a0 :: b0 :: b1 :: r) pos => chkE c sc fc a a0 && chkE c sc fc b (.BoolOp .Or (b0 :: b1 :: r) pos)
    | _ => false
  | .not_ a, e0 => match e0 with
    | .UnaryOp .Not a0 _ => chkE c sc fc a a0
    | _ => false
  | .ite d a b, e0 => match e0 with
    | .IfExp d0 a0 b0 _ => chkE c sc fc d d0 && chkE c sc fc a a0 && chkE c sc fc b b0
    | _ => false
  | .tup es, e0 => match e0 with
    | .Tuple xs _ _ => chkEs c sc fc es xs && decide (es.len ≤ 1000)
    | _ => false
  | .lst es, e0 => match e0 with
    | .List xs _ => chkEs c sc fc es xs && decide (es.len ≤ 1000)
    | _ => false
  | .dct es, e0 => match e0 with
    | .Dict keys values _ => (match es with | .nil => keys.isEmpty && values.isEmpty | _ => chkPs c sc fc es keys values && keys.all (·.isSome) && decide (keys.length = values.length) && !keys.isEmpty && decide (keys.length ≤ 15))
    | _ => false
  | .call f es, e0 => match e0 with
    | .Call (.Name x _) (y :: ys) [] _ => decide (c.Fs[f]? = some (x, es.len, false)) && glC sc x && (y :: ys).all notStar && chkEs c sc fc es (y :: ys)
    | _ => false
  | .calld f i es, e0 => match e0 with
    | .Call (.Name x _) (.Name d _ :: ys) [] _ => decide (c.Fs[f]? = some (x, es.len, true)) && glC sc x && nameC c sc i d && ys.all notStar && chkEs c sc fc es ys
    | _ => false
  | .nxt i a, e0 => match e0 with
    | .Call (.Name x _) [.Name d _, a0] [] _ => c.nx && decide (x = "_law_next") && glC sc x && nameC c sc i d && notStar a0 && chkE c sc fc a a0
    | _ => false
  | .lc g it ifs vs e, e0 => match e0 with
    | .ListComp x0 [⟨tg, it0, ifs0, as⟩] scope _ => decide (as = 0) && blkK c sc scope vs g it.tup it0 && chkG c (relS scope sc) (fcB scope) g tg && chkI c sc fc it tg it0 && chkIfs c (relS scope sc) (fcB scope) ifs ifs0 && chkE c (relS scope sc) (fcB scope) e x0
    | _ => false
  | .dc g it ifs vs a b, e0 => match e0 with
    | .DictComp a0 b0 [⟨tg, it0, ifs0, as⟩] scope _ => decide (as = 0) && blkK c sc scope vs g it.tup it0 && chkG c (relS scope sc) (fcB scope) g tg && chkI c sc fc it tg it0 && chkIfs c (relS scope sc) (fcB scope) ifs ifs0 && chkE c (relS scope sc) (fcB scope) a a0 && chkE c (relS scope sc) (fcB scope) b b0
    | _ => false
  | .rngL it, e0 => match e0 with
    | .Call (.Name l _) [e1] [] _ => rngOnly it && decide (l = "list") && bltC c sc l && chkI c sc fc it e1 e1
    | _ => false
  | .rngT it, e0 => false
  | .dix i a, e0 => match e0 with
    | .Subscript (.Name x _) a0 _ => nameC c sc i x && plainIx a0 && chkE c sc fc a a0
    | _ => false
  | .pop i, e0 => match e0 with
    | .Call (.Attribute (.Name x _) m ap) [] [] pos => decide (m = "pop") && nameC c sc i x && (ap.endLine == pos.line)
    | _ => false
  | .popAt i a, e0 => false
def chkEs (c : Cc) (sc : Scope) (fc : Str → Bool) : Es → List Expr → Bool
  | .nil, es => es.isEmpty
  | .cons e r, es => match es with
    | e0 :: es => chkE c sc fc e e0 && notStar e0 && chkEs c sc fc r es
    | [] => false
def chkPs (c : Cc) (sc : Scope) (fc : Str → Bool) : Es → List (Option Expr) → List Expr → Bool
  | .nil, ks, vs => ks.isEmpty && vs.isEmpty
  | .cons a r, ks, vs => match r, ks, vs with
    | .cons b r, some k :: ks, v :: vs => chkE c sc fc a k && chkE c sc fc b v && chkPs c sc fc r ks vs
    | _, _, _ => false
def chkIfs (c : Cc) (sc : Scope) (fc : Str → Bool) : Es → List Expr → Bool
  | .nil, es => es.isEmpty
  | .cons e r, es => match r, es with
    | .nil, [e0] => chkE c sc fc e e0
    | _, _ => false
def chkI (c : Cc) (sc : Scope) (fc : Str → Bool) : I → Expr → Expr → Bool
  | .val e, tg, e0 => chkE c sc fc e e0
  | .rng1 a, tg, e0 => match e0 with
    | .Call (.Name f _) [a0] [] _ => decide (f = "range") && bltC c sc f && notStar a0 && chkE c sc fc a a0
    | _ => false
  | .rng2 a b, tg, e0 => match e0 with
    | .Call (.Name f _) [a0, b0] [] _ => decide (f = "range") && bltC c sc f && notStar a0 && notStar b0 && chkE c sc fc a a0 && chkE c sc fc b b0
    | _ => false
  | .rng3 a b d, tg, e0 => match e0 with
    | .Call (.Name f _) [a0, b0, d0] [] _ => decide (f = "range") && bltC c sc f && notStar a0 && notStar b0 && notStar d0 && chkE c sc fc a a0 && chkE c sc fc b b0 && chkE c sc fc d d0
    | _ => false
  | .enum e, tg, e0 => match tg, e0 with
    | .Tuple _ _ _, .Call (.Name f _) [a0] [] _ => decide (f = "enumerate") && bltC c sc f && notStar a0 && chkE c sc fc e a0
    | _, _ => false
  | .zip a b, tg, e0 => match tg, e0 with
    | .Tuple _ _ _, .Call (.Name f _) [a0, b0] [] _ => decide (f = "zip") && bltC c sc f && notStar a0 && notStar b0 && chkE c sc fc a a0 && chkE c sc fc b b0
    | _, _ => false
  | .zip3 _ _ _, _, _ => false
  | .items e, tg, e0 => match tg, e0 with
    | .Tuple _ _ _, .Call (.Attribute a0 m ap) [] [] pos => decide (m = "items") && plainRecv a0 && (ap.endLine == pos.line) && chkE c sc fc e a0
    | _, _ => false
  | .rev e, tg, e0 => match e0 with
    | .Call (.Name f _) [a0] [] _ => decide (f = "reversed") && bltC c sc f && notStar a0 && chkE c sc fc e a0
    | _ => false
  | .perm _, _, _ => false
end
theorem _root_.L2.PT.pw {X : Cx} {op : BoolOp} {es : List Expr} {pos : Pos} {t : TT} (h : PT X (.BoolOp op es pos) t) : PW X (.BoolOp op es pos) t :=
  ⟨fun whole pins s σ H Q I q => h.run pins s σ H Q I q⟩
section
variable {Φ : Nat → Spc} {c : Cc}
theorem blkK_ok {sc scope : Scope} {vs : List Nat} {g : Tg} {tup : Bool} {it0 : Expr} (h : blkK c sc scope vs g tup it0 = true) : BlkOk c.N sc scope (ownOf c vs) ∧ (∀ i ∈ g.vars, i ∈ vs) ∧ (tup = true → g.isTup = true) ∧ noSet it0 = true := by
  unfold blkK at h
  simp only [Bool.and_eq_true] at h
  obtain ⟨⟨⟨h1, h2⟩, h3⟩, h4⟩ := h
  refine ⟨blkOk_by h1, subV_ok h2, fun t => ?_, h4⟩
  subst t
  simpa using h3
/-- what is known stands in a block -/
theorem Xo.blk {sc scope : Scope} {fc : Str → Bool} {X : Cx} {own : List (Str × Nat)} (o : Xo Φ c sc fc X) (ok : BlkOk c.N sc scope own) (s : Shared) (H : Hp) (C : Addr) (cl : List (Str × Addr)) (fp : List Addr) :
    Xo Φ c (relS scope sc) (fcB scope) (X.blk s H scope (compEnvC scope cl C X.env) fp) where
  hN := o.hN
  nd := o.nd
  hsc := by rw [← o.hsc]; rfl
  kind := ok.kind
  fn := fun x h => h
  calm := o.calm
  xe := rfl
  blt := o.blt
  mth := o.mth
  glo := o.glo
  room := o.room
mutual
theorem chkG_ok {sc : Scope} {fc : Str → Bool} {X : Cx} (o : Xo Φ c sc fc X) : ∀ (g : Tg) (e0 : Expr), chkG c sc fc g e0 = true → PG X e0 (tG X.k g)
  | .nm i, e0, h => by
    cases e0 with
    | Name x pos =>
      rw [chkG] at h
      obtain ⟨h1, h2, h3⟩ := locC_ok o h
      exact pgT_nm (by rw [o.hN]; exact o.nd) h1 h2 h3
    | _ => simp [chkG] at h
  | .nil, e0, h => by simp [chkG] at h
  | .cons t r, e0, h => by
    cases e0 with
    | Tuple es k pos =>
      rw [chkG] at h
      obtain ⟨h1, h2, h3⟩ := chkGs_ok o (.cons t r) es h
      exact pgT_tup o.calm h1 h2 h3
    | _ => simp [chkG] at h
theorem chkGs_ok {sc : Scope} {fc : Str → Bool} {X : Cx} (o : Xo Φ c sc fc X) : ∀ (g : Tg) (es : List Expr), chkG.chkGs c sc fc g es = true → PGs X es (tGs X.k g) ∧ es.length = g.len ∧ es.all notStar = true
  | .nil, es, h => by
    cases es with
    | nil => exact ⟨pgT_nil, rfl, rfl⟩
    | cons _ _ => simp [chkG.chkGs] at h
  | .cons t r, es, h => by
    cases es with
    | nil => simp [chkG.chkGs] at h
    | cons e es' =>
      rw [chkG.chkGs] at h
      simp only [Bool.and_eq_true] at h
      obtain ⟨⟨h1, h2⟩, h3⟩ := h
      obtain ⟨g1, g2, g3⟩ := chkGs_ok o r _ h3
      refine ⟨pgT_cons (chkG_ok o t _ h1) g1 ?_, by rw [List.length_cons, g2]; rfl, by rw [List.all_cons, h2, g3]; rfl⟩
      rw [asn_cons h2]; rfl
  | .nm i, es, h => by cases es <;> simp [chkG.chkGs] at h
end
theorem calAt {sc : Scope} {fc : Str → Bool} {X : Cx} (o : Xo Φ c sc fc X) {f n : Nat} {x : Str} {dr : Bool} (h : c.Fs[f]? = some (x, n, dr)) : ∃ k, Room k X.A ∧ Cal X.prog X.w X.K X.mg X.base k x (if dr = true then spD X.k (Φ f) n else spZ X.k (Φ f) n) [] := by
  obtain ⟨k, r, F, _⟩ := o.room
  exact ⟨k, r, F f _ h⟩
mutual
theorem chkE_ok {sc : Scope} {fc : Str → Bool} {X : Cx} (o : Xo Φ c sc fc X) : ∀ (e : E) (e0 : Expr), chkE c sc fc e e0 = true → Sd Φ X e0 e
  | .k d, e0, h => by
    unfold chkE at h
    rw [Bool.or_eq_true] at h
    exact h.elim kC_ok (gC_ok o)
  | .v i, e0, h => by
    unfold chkE at h
    split at h
    · obtain ⟨h1, h2, h3, h4⟩ := nameC_ok o h
      exact sd_var h1 h2 h3 h4
    · cases h
  | .p1 p a, e0, h => by
    unfold chkE at h
    split at h
    · rename_i a0 q
      exact shape1_ok o q (chkE_ok o a _ h)
    · cases h
  | .p2 p a b, e0, h => by
    unfold chkE at h
    split at h
    · rename_i q e
      rw [Bool.and_eq_true] at h
      exact shape2_ok o e (chkE_ok o a _ h.1) (chkE_ok o b _ h.2)
    · cases h
  | .p3 p a b d, e0, h => by
    unfold chkE at h
    split at h
    · simp only [Bool.and_eq_true, decide_eq_true_eq] at h
      obtain ⟨⟨⟨rfl, h1⟩, h2⟩, h3⟩ := h
      exact sd_slLH (chkE_ok o a _ h1) (chkE_ok o b _ h2) (chkE_ok o d _ h3)
    · cases h
  | .m1 p a b, e0, h => by
    unfold chkE at h
    split at h
    · simp only [Bool.and_eq_true, decide_eq_true_eq] at h
      obtain ⟨⟨⟨⟨⟨h0, h1⟩, h2⟩, h3⟩, h4⟩, h5⟩ := h
      have hu := o.units
      rcases mName_iff h0 with ⟨rfl, rfl⟩ | ⟨rfl, rfl⟩ | ⟨rfl, rfl⟩
      · exact sd_get1 (by omega) (chkE_ok o a _ h4) (chkE_ok o b _ h5) h3 ⟨h1, h2⟩
      · exact sd_count (by omega) (chkE_ok o a _ h4) (chkE_ok o b _ h5) h3 ⟨h1, h2⟩
      · exact sd_index (by omega) (chkE_ok o a _ h4) (chkE_ok o b _ h5) h3 ⟨h1, h2⟩
    · cases h
  | .m2 p a b d, e0, h => by
    unfold chkE at h
    split at h
    · simp only [Bool.and_eq_true, decide_eq_true_eq] at h
      obtain ⟨⟨⟨⟨⟨⟨⟨⟨rfl, rfl⟩, h1⟩, h2⟩, h3⟩, h4⟩, h5⟩, h6⟩, h7⟩ := h
      have hu := o.units
      exact sd_get2 (by omega) (chkE_ok o a _ h5) (chkE_ok o b _ h6) (chkE_ok o d _ h7) h3 h4 ⟨h1, h2⟩
    · cases h
  | .chain p q a b d, e0, h => by
    unfold chkE at h
    split at h
    · simp only [Bool.and_eq_true, decide_eq_true_eq] at h
      obtain ⟨⟨⟨⟨⟨h1, h2⟩, h3⟩, h4⟩, h5⟩, h6⟩ := h
      obtain ⟨k1, k2⟩ := cmpPr_ok o.units h1
      obtain ⟨k3, k4⟩ := cmpPr_ok o.units h2
      exact sd_chain k1 k3 k2 k4 (chkE_ok o a _ h4) (chkE_ok o b _ h5) (chkE_ok o d _ h6) (mark_plain2 h3)
    · cases h
  | .and_ a b, e0, h => by
    unfold chkE at h
    split at h
    · rw [Bool.and_eq_true] at h
      exact (sdb_and (chkE_ok o a _ h.1) (sdb_and1 (chkE_ok o b _ h.2))).sd fun _ z => nomatch z
    · rw [Bool.and_eq_true] at h
      have hb := chkE_ok o b _ h.2
      exact (sdb_and (chkE_ok o a _ h.1) ⟨hb.ex, hb.ts.pw⟩).sd fun _ z => nomatch z
    · cases h
  | .or_ a b, e0, h => by
    unfold chkE at h
    split at h
    · rw [Bool.and_eq_true] at h
      exact (sdb_or (chkE_ok o a _ h.1) (sdb_or1 (chkE_ok o b _ h.2))).sd fun _ z => nomatch z
    · rw [Bool.and_eq_true] at h
      have hb := chkE_ok o b _ h.2
      exact (sdb_or (chkE_ok o a _ h.1) ⟨hb.ex, hb.ts.pw⟩).sd fun _ z => nomatch z
    · cases h
  | .not_ a, e0, h => by
    unfold chkE at h
    split at h
    · exact sd_not (chkE_ok o a _ h)
    · cases h
  | .ite d a b, e0, h => by
    unfold chkE at h
    split at h
    · simp only [Bool.and_eq_true] at h
      exact sd_ite (chkE_ok o d _ h.1.1) (chkE_ok o a _ h.1.2) (chkE_ok o b _ h.2)
    · cases h
  | .tup es, e0, h => by
    unfold chkE at h
    split at h
    · rw [Bool.and_eq_true, decide_eq_true_eq] at h
      exact sd_tup (chkEs_ok o es _ h.1).1 h.2
    · cases h
  | .lst es, e0, h => by
    unfold chkE at h
    split at h
    · rw [Bool.and_eq_true, decide_eq_true_eq] at h
      exact sd_lst (chkEs_ok o es _ h.1).1 h.2
    · cases h
  | .dct es, e0, h => by
    unfold chkE at h
    split at h
    · split at h
      · simp only [Bool.and_eq_true, List.isEmpty_iff] at h
        obtain ⟨rfl, rfl⟩ := h
        exact sd_dct0
      · simp only [Bool.and_eq_true, decide_eq_true_eq] at h
        obtain ⟨⟨⟨⟨h1, h2⟩, h3⟩, h4⟩, h5⟩ := h
        exact sd_dct (chkPs_ok o es _ _ h1) h2 h3 (by intro e; rw [e] at h4; cases h4) h5
    · cases h
  | .call f es, e0, h => by
    unfold chkE at h
    split at h
    · simp only [Bool.and_eq_true, decide_eq_true_eq] at h
      obtain ⟨⟨⟨h1, h2⟩, h3⟩, h4⟩ := h
      obtain ⟨k, r, C⟩ := calAt o h1
      rw [if_neg Bool.false_ne_true] at C
      obtain ⟨g1, g2⟩ := glC_ok o h2
      exact sd_call C r (Nat.le_refl _) g1 g2 (chkEs_ok o es _ h4).1 rfl h3
    · cases h
  | .calld f i es, e0, h => by
    unfold chkE at h
    split at h
    · simp only [Bool.and_eq_true, decide_eq_true_eq] at h
      obtain ⟨⟨⟨⟨h1, h2⟩, h3⟩, h4⟩, h5⟩ := h
      obtain ⟨k, r, C⟩ := calAt o h1
      rw [if_pos rfl] at C
      obtain ⟨g1, g2⟩ := glC_ok o h2
      obtain ⟨n1, n2, n3, n4⟩ := nameC_ok o h3
      exact sd_calld C r (Nat.le_refl _) g1 g2 n1 n2 n3 n4 (chkEs_ok o es _ h5).1 rfl h4
    · cases h
  | .nxt i a, e0, h => by
    unfold chkE at h
    split at h
    · simp only [Bool.and_eq_true, decide_eq_true_eq] at h
      obtain ⟨⟨⟨⟨⟨h0, rfl⟩, h2⟩, h3⟩, h4⟩, h5⟩ := h
      obtain ⟨k, r, _, C⟩ := o.room
      obtain ⟨g1, g2⟩ := glC_ok o h2
      obtain ⟨n1, n2, n3, n4⟩ := nameC_ok o h3
      exact sd_nxt (C h0) r (Nat.le_refl _) g1 n1 n2 n3 n4 (chkE_ok o a _ h5) h4
    · cases h
  | .lc g it ifs vs e, e0, h => by
    unfold chkE at h
    split at h
    · simp only [Bool.and_eq_true, decide_eq_true_eq] at h
      obtain ⟨⟨⟨⟨⟨rfl, h1⟩, h2⟩, h3⟩, h4⟩, h5⟩ := h
      obtain ⟨b1, b2, b3, b4⟩ := blkK_ok h1
      rename_i pos
      have := sd_lc (pos := pos) (own := ownOf c vs) (g := g) (ifs := ifs) (e := e) o.calm (by rw [o.hN]; exact o.nd) (chkI_ok o it _ _ h3) (by rw [o.hN, o.hsc]; exact b1) ⟨fun s H C cl fp => chkG_ok (o.blk b1 s H C cl fp) g _ h2⟩
        ⟨fun s H C cl fp => chkIfs_ok (o.blk b1 s H C cl fp) ifs _ h4⟩ ⟨fun s H C cl fp => chkE_ok (o.blk b1 s H C cl fp) e _ h5⟩ (by rw [ownOf_snd]; exact b2) b3 (noSet_ok b4)
      rw [ownOf_snd] at this
      exact this
    · cases h
  | .dc g it ifs vs a b, e0, h => by
    unfold chkE at h
    split at h
    · simp only [Bool.and_eq_true, decide_eq_true_eq] at h
      obtain ⟨⟨⟨⟨⟨⟨rfl, h1⟩, h2⟩, h3⟩, h4⟩, h5⟩, h6⟩ := h
      obtain ⟨b1, b2, b3, b4⟩ := blkK_ok h1
      rename_i pos
      have := sd_dc (pos := pos) (own := ownOf c vs) (g := g) (ifs := ifs) (a := a) (b := b) o.calm (by rw [o.hN]; exact o.nd) (chkI_ok o it _ _ h3) (by rw [o.hN, o.hsc]; exact b1) ⟨fun s H C cl fp => chkG_ok (o.blk b1 s H C cl fp) g _ h2⟩
        ⟨fun s H C cl fp => chkIfs_ok (o.blk b1 s H C cl fp) ifs _ h4⟩ ⟨fun s H C cl fp => chkE_ok (o.blk b1 s H C cl fp) a _ h5⟩ ⟨fun s H C cl fp => chkE_ok (o.blk b1 s H C cl fp) b _ h6⟩ (by rw [ownOf_snd]; exact b2) b3 (noSet_ok b4)
      rw [ownOf_snd] at this
      exact this
    · cases h
  | .rngL (.rng1 a), e0, h => by
    unfold chkE at h
    split at h
    · simp only [Bool.and_eq_true, decide_eq_true_eq] at h
      obtain ⟨⟨⟨_, rfl⟩, h1⟩, h2⟩ := h
      unfold chkI at h2
      split at h2
      · simp only [Bool.and_eq_true, decide_eq_true_eq] at h2
        obtain ⟨⟨⟨rfl, h3⟩, h4⟩, h5⟩ := h2
        obtain ⟨g1, g2, _⟩ := bltC_ok o h1
        obtain ⟨g3, g4, _⟩ := bltC_ok o h3
        exact sd_rngL1 o.calm g1 g2 g3 g4 (chkE_ok o a _ h5) h4
      · cases h2
    · cases h
  | .rngL (.rng2 a b), e0, h => by
    unfold chkE at h
    split at h
    · simp only [Bool.and_eq_true, decide_eq_true_eq] at h
      obtain ⟨⟨⟨_, rfl⟩, h1⟩, h2⟩ := h
      unfold chkI at h2
      split at h2
      · simp only [Bool.and_eq_true, decide_eq_true_eq] at h2
        obtain ⟨⟨⟨⟨⟨rfl, h3⟩, h4⟩, h5⟩, h6⟩, h7⟩ := h2
        obtain ⟨g1, g2, _⟩ := bltC_ok o h1
        obtain ⟨g3, g4, _⟩ := bltC_ok o h3
        exact sd_rngL2 o.calm g1 g2 g3 g4 (chkE_ok o a _ h6) (chkE_ok o b _ h7) h4 h5
      · cases h2
    · cases h
  | .rngL (.val _), e0, h | .rngL (.rng3 _ _ _), e0, h | .rngL (.enum _), e0, h | .rngL (.zip _ _), e0, h | .rngL (.zip3 _ _ _), e0, h | .rngL (.items _), e0, h | .rngL (.rev _), e0, h | .rngL (.perm _), e0, h => by
    unfold chkE at h
    split at h
    · simp [rngOnly] at h
    · cases h
  | .rngT it, e0, h => by cases h
  | .dix i a, e0, h => by
    unfold chkE at h
    split at h
    · simp only [Bool.and_eq_true] at h
      obtain ⟨n1, n2, n3, n4⟩ := nameC_ok o h.1.1
      exact sd_dix n1 n2 n3 n4 (chkE_ok o a _ h.2) h.1.2
    · cases h
  | .pop i, e0, h => by
    unfold chkE at h
    split at h
    · simp only [Bool.and_eq_true, decide_eq_true_eq] at h
      obtain ⟨⟨rfl, h1⟩, h2⟩ := h
      obtain ⟨n1, n2, n3, n4⟩ := nameC_ok o h1
      exact sd_pop n1 n2 n3 n4 h2
    · cases h
  | .popAt i a, e0, h => by cases h
theorem chkEs_ok {sc : Scope} {fc : Str → Bool} {X : Cx} (o : Xo Φ c sc fc X) : ∀ (r : Es) (es : List Expr), chkEs c sc fc r es = true → SdEs Φ X es r ∧ SdFs Φ X es r
  | .nil, es, h => by
    cases es with
    | nil => exact ⟨sds_nil, sdf_nil⟩
    | cons _ _ => cases h
  | .cons e r, es, h => by
    cases es with
    | nil => cases h
    | cons e0 es =>
      unfold chkEs at h
      simp only [Bool.and_eq_true] at h
      obtain ⟨⟨h1, h2⟩, h3⟩ := h
      obtain ⟨k1, k2⟩ := chkEs_ok o r es h3
      have he := chkE_ok o e _ h1
      exact ⟨sds_cons he k1 (star_cons h2), sdf_cons he k2 h2⟩
theorem chkPs_ok {sc : Scope} {fc : Str → Bool} {X : Cx} (o : Xo Φ c sc fc X) {pos : Pos} : ∀ (r : Es) (ks : List (Option Expr)) (vs : List Expr), chkPs c sc fc r ks vs = true → PPs X pos ks vs (trsOf X.k Φ r)
  | .nil, ks, vs, h => by
    simp only [chkPs, Bool.and_eq_true, List.isEmpty_iff] at h
    obtain ⟨rfl, rfl⟩ := h
    exact pps_nil
  | .cons a .nil, ks, vs, h => by simp [chkPs] at h
  | .cons a (.cons b r), ks, vs, h => by
    match ks, vs, h with
    | some k :: ks, v :: vs, h =>
      simp only [chkPs, Bool.and_eq_true] at h
      exact pps_cons (chkE_ok o a _ h.1.1).ex (chkE_ok o b _ h.1.2).ex (chkPs_ok o r ks vs h.2)
    | [], vs, h => simp [chkPs] at h
    | none :: ks, vs, h => simp [chkPs] at h
    | some k :: ks, [], h => simp [chkPs] at h
theorem chkIfs_ok {sc : Scope} {fc : Str → Bool} {X : Cx} (o : Xo Φ c sc fc X) : ∀ (r : Es) (es : List Expr), chkIfs c sc fc r es = true → SdIfs Φ X es r
  | .nil, es, h => by
    cases es with
    | nil => exact sdi_nil
    | cons _ _ => cases h
  | .cons e r, es, h => by
    unfold chkIfs at h
    split at h
    · exact sdi_one (chkE_ok o e _ h)
    · cases h
theorem chkI_ok {sc : Scope} {fc : Str → Bool} {X : Cx} (o : Xo Φ c sc fc X) : ∀ (it : I) (tg e0 : Expr), chkI c sc fc it tg e0 = true → SdI Φ X tg e0 it
  | .val e, tg, e0, h => by
    unfold chkI at h
    exact sdI_val (chkE_ok o e _ h)
  | .rng1 a, tg, e0, h => by
    unfold chkI at h
    split at h
    · simp only [Bool.and_eq_true, decide_eq_true_eq] at h
      obtain ⟨⟨⟨rfl, h1⟩, h2⟩, h3⟩ := h
      obtain ⟨g1, g2, _⟩ := bltC_ok o h1
      exact sdI_rng1 g1 g2 (chkE_ok o a _ h3) h2
    · cases h
  | .rng2 a b, tg, e0, h => by
    unfold chkI at h
    split at h
    · simp only [Bool.and_eq_true, decide_eq_true_eq] at h
      obtain ⟨⟨⟨⟨⟨rfl, h1⟩, h2⟩, h3⟩, h4⟩, h5⟩ := h
      obtain ⟨g1, g2, _⟩ := bltC_ok o h1
      exact sdI_rng2 g1 g2 (chkE_ok o a _ h4) (chkE_ok o b _ h5) h2 h3
    · cases h
  | .rng3 a b d, tg, e0, h => by
    unfold chkI at h
    split at h
    · simp only [Bool.and_eq_true, decide_eq_true_eq] at h
      obtain ⟨⟨⟨⟨⟨⟨⟨rfl, h1⟩, h2⟩, h3⟩, h4⟩, h5⟩, h6⟩, h7⟩ := h
      obtain ⟨g1, g2, _⟩ := bltC_ok o h1
      exact sdI_rng3 g1 g2 (chkE_ok o a _ h5) (chkE_ok o b _ h6) (chkE_ok o d _ h7) h2 h3 h4
    · cases h
  | .enum e, tg, e0, h => by
    unfold chkI at h
    split at h
    · simp only [Bool.and_eq_true, decide_eq_true_eq] at h
      obtain ⟨⟨⟨rfl, h1⟩, h2⟩, h3⟩ := h
      obtain ⟨g1, g2, _⟩ := bltC_ok o h1
      exact sdI_enum g1 g2 (chkE_ok o e _ h3) h2
    · cases h
  | .zip a b, tg, e0, h => by
    unfold chkI at h
    split at h
    · simp only [Bool.and_eq_true, decide_eq_true_eq] at h
      obtain ⟨⟨⟨⟨⟨rfl, h1⟩, h2⟩, h3⟩, h4⟩, h5⟩ := h
      obtain ⟨g1, g2, _⟩ := bltC_ok o h1
      exact sdI_zip g1 g2 (chkE_ok o a _ h4) (chkE_ok o b _ h5) h2 h3
    · cases h
  | .zip3 _ _ _, tg, e0, h => by cases h
  | .items e, tg, e0, h => by
    unfold chkI at h
    split at h
    · simp only [Bool.and_eq_true, decide_eq_true_eq] at h
      obtain ⟨⟨⟨rfl, h1⟩, h2⟩, h3⟩ := h
      exact sdI_items (chkE_ok o e _ h3) ⟨h1, h2⟩
    · cases h
  | .rev e, tg, e0, h => by
    unfold chkI at h
    split at h
    · simp only [Bool.and_eq_true, decide_eq_true_eq] at h
      obtain ⟨⟨⟨rfl, h1⟩, h2⟩, h3⟩ := h
      obtain ⟨g1, g2, _⟩ := bltC_ok o h1
      exact sdI_rev g1 g2 (chkE_ok o e _ h3) h2
    · cases h
  | .perm _, tg, e0, h => by cases h
end
end
end Z

/-! the check of statements; defs -/
namespace Z
open PySem PySem.Spec PyProof.Rows L2
open C8 (Cal pe_c cal0 Def fnBody fnScope CX0)
def lcClash (scope : Scope) (y : Str) : Bool := scope.names.any fun (n, k) => n == y && (k == .local || k == .cell)
/-- a comprehension stored in a name: how -/
def setK (c : Cc) (sc : Scope) (i : Nat) (y : Str) (py pos : Pos) (scope : Scope) : Bool := decide (c.N[i]? = some y) && decide (sc.names.lookup y = some .local) && (py.line == pos.line) && !lcClash scope y
def namesC (c : Cc) (sc : Scope) (fc : Str → Bool) : List Nat → List Expr → Bool
  | [], [] => true
  | i :: is, .Name x _ :: ts => locC c sc fc i x && namesC c sc fc is ts
  | _, _ => false
/-- a name that is no plain local: nothing is exchanged -/
def noSwap (sc : Scope) : Expr → Bool
  | .Name y _ => !decide (sc.names.lookup y = some .local)
  | _ => false
theorem noSwap_sole {e0 tg : Expr} {line : Nat} {env : PySem.Env} (h : noSwap env.scope tg = true) : swapsWithSole [tg] e0 line env = pure false := by
  cases tg with
  | Name y py =>
    have hk : (env.kindOf y == some .local) = false := by
      unfold noSwap at h
      rw [Bool.not_eq_true', decide_eq_false_iff_not] at h
      exact beq_eq_false_iff_ne.mpr h
    show swapsWith e0 (some (.Name y py)) line env = pure false
    cases e0 <;> first
      | rfl
      | (unfold swapsWith; simp [hk])
  | _ => cases h
def asgK (c : Cc) (sc : Scope) (fc : Str → Bool) (g : Tg) (e : E) (tg e0 : Expr) : Bool :=
  match g, e, tg, e0 with
  | .nm i, .lc g' it ifs vs e', .Name y py, .ListComp x0 [⟨tg', it0, ifs0, as⟩] scope pos =>
    setK c sc i y py pos scope && decide (as = 0) && blkK c sc scope vs g' it.tup it0 && chkG c (relS scope sc) (fcB scope) g' tg' && chkI c sc fc it tg' it0 && chkIfs c (relS scope sc) (fcB scope) ifs ifs0 && chkE c (relS scope sc) (fcB scope) e' x0
  | .nm i, .dc g' it ifs vs a b, .Name y py, .DictComp a0 b0 [⟨tg', it0, ifs0, as⟩] scope pos =>
    setK c sc i y py pos scope && decide (as = 0) && blkK c sc scope vs g' it.tup it0 && chkG c (relS scope sc) (fcB scope) g' tg' && chkI c sc fc it tg' it0 && chkIfs c (relS scope sc) (fcB scope) ifs ifs0 && chkE c (relS scope sc) (fcB scope) a a0 && chkE c (relS scope sc) (fcB scope) b b0
  | _, _, _, _ => false
def swK (sc : Scope) (ts es : List Expr) : Bool :=
  match swapAns sc ts es with
  | some none => true
  | some (some _) =>
    match ts, es with
    | [.Name x _, .Name y _], [_, _] => decide (swapAns sc ts es = some (some [x, y])) && decide (sc.names.lookup x = some .local) && decide (sc.names.lookup y = some .local)
    | [.Name x _, .Name y _, .Name z _], [_, _, _] => decide (swapAns sc ts es = some (some [x, y, z])) && decide (sc.names.lookup x = some .local) && decide (sc.names.lookup y = some .local) && decide (sc.names.lookup z = some .local)
    | _, _ => false
  | none => false
mutual
def chkS (c : Cc) (sc : Scope) (fc : Str → Bool) : S → Stmt → Bool
  | .asg g e, st => match st with
    | .Assign [tg] e0 _ => if ((noComp e0 || noSwap sc tg) && noTp tg e0) = true then notStar tg && chkG c sc fc g tg && chkE c sc fc e e0 else asgK c sc fc g e tg e0
    | _ => false
  | .par is r, st => match st with
    | .Assign [.Tuple ts _ _] (.Tuple es _ _) _ => chkEs c sc fc r es && namesC c sc fc is ts && decide is.Nodup && decide (r.len ≤ 1000) && swK sc ts es
    | _ => false
  | .setix i ix e, st => match st with
    | .Assign [.Subscript (.Name x _) b0 _] e0 _ => nameC c sc i x && noComp e0 && plainIx b0 && chkE c sc fc ix b0 && chkE c sc fc e e0
    | _ => false
  | .setdw i ix e, st => match st with
    | .Assign [.Subscript (.Name x _) b0 _] e0 _ => nameC c sc i x && noComp e0 && plainIx b0 && chkE c sc fc ix b0 && chkE c sc fc e e0
    | _ => false
  | .app i e, st => match st with
    | .Expr (.Call (.Attribute (.Name x _) m ap) [e0] [] cp) _ => decide (m = "append") && nameC c sc i x && notStar e0 && (ap.endLine == cp.line) && chkE c sc fc e e0
    | _ => false
  | .ext i e, st => match st with
    | .Expr (.Call (.Attribute (.Name x _) m ap) [e0] [] cp) _ => decide (m = "extend") && nameC c sc i x && notStar e0 && (ap.endLine == cp.line) && chkE c sc fc e e0
    | _ => false
  | .rem i e, st => false
  | .upd i e, st => false
  | .ex e, st => match st with
    | .Expr e0 _ => noComp e0 && chkE c sc fc e e0
    | _ => false
  | .ife d a b, st => match st with
    | .If d0 a0 b0 _ => chkE c sc fc d d0 && chkB c sc fc a a0 && chkB c sc fc b b0
    | _ => false
  | .for_ g it b, st => match st with
    | .For tg it0 b0 [] _ => chkG c sc fc g tg && chkI c sc fc it tg it0 && (!it.tup || g.isTup) && noSet it0 && chkB c sc fc b b0
    | _ => false
  | .wh d b, st => match st with
    | .While d0 b0 [] _ => chkE c sc fc d d0 && chkB c sc fc b b0
    | _ => false
  | .ret e, st => match st with
    | .Return (some e0) _ => chkE c sc fc e e0
    | _ => false
  | .brk, st => match st with
    | .Break _ => true
    | _ => false
  | .cnt, st => match st with
    | .Continue _ => true
    | _ => false
  | .nop, st => match st with
    | .Pass _ => true
    | _ => false
def chkB (c : Cc) (sc : Scope) (fc : Str → Bool) : Ss → List Stmt → Bool
  | .nil, sts => sts.isEmpty
  | .cons s r, sts => match sts with
    | st :: sts => chkS c sc fc s st && chkB c sc fc r sts
    | [] => false
end
section
variable {Φ : Nat → Spc} {c : Cc}
theorem namesC_ok {sc : Scope} {fc : Str → Bool} {X : Cx} (o : Xo Φ c sc fc X) : ∀ (is : List Nat) (ts : List Expr), namesC c sc fc is ts = true →
    (∀ (k : Nat) (t : Expr), ts[k]? = some t → ∃ x p i, t = .Name x p ∧ is[k]? = some i ∧ X.N[i]? = some x ∧ Loc X.env.scope x ∧ (X.fn x = true ∨ X.env.scope.names.lookup x = some .local)) ∧ ts.length = is.length ∧ ts.all notStar = true
  | [], [], _ => ⟨fun k t e => by simp at e, rfl, rfl⟩
  | i :: is, t :: ts, h => by
    cases t with
    | Name x p =>
      rw [namesC, Bool.and_eq_true] at h
      obtain ⟨h1, h2, h3⟩ := locC_ok o h.1
      obtain ⟨k1, k2, k3⟩ := namesC_ok o is ts h.2
      refine ⟨fun k t e => ?_, by rw [List.length_cons, List.length_cons, k2], by rw [List.all_cons, k3]; rfl⟩
      cases k with
      | zero => simp at e; subst e; exact ⟨x, p, i, rfl, rfl, h1, h2, h3⟩
      | succ k => exact k1 k t (by simpa using e)
    | _ => simp [namesC] at h
  | [], _ :: _, h => by simp [namesC] at h
  | _ :: _, [], h => by simp [namesC] at h
theorem owns {X : Cx} (h : X.xe = fun _ _ => False) : PassesOwn (model X.prog X.w) X.A X.env X.xe := by rw [h]; exact PassesOwn.never
theorem setK_ok {sc : Scope} {fc : Str → Bool} {X : Cx} (o : Xo Φ c sc fc X) {i : Nat} {y : Str} {py pos : Pos} {scope : Scope} (h : setK c sc i y py pos scope = true) :
    X.N[i]? = some y ∧ X.env.scope.names.lookup y = some .local ∧ (py.line == pos.line) = true ∧ (scope.names.any fun (n, k) => n == y && (k == .local || k == .cell)) = false := by
  unfold setK at h
  simp only [Bool.and_eq_true, decide_eq_true_eq, Bool.not_eq_true'] at h
  obtain ⟨⟨⟨h1, h2⟩, h3⟩, h4⟩ := h
  exact ⟨by rw [o.hN]; exact h1, by rw [o.hsc]; exact h2, h3, h4⟩
mutual
theorem chkS_ok {sc : Scope} {fc : Str → Bool} {X : Cx} (o : Xo Φ c sc fc X) : ∀ (s : S) (st : Stmt), chkS c sc fc s st = true → SdS Φ X st s
  | .asg g e, st, h => by
    unfold chkS at h
    split at h
    · split at h
      · rename_i q
        rw [Bool.and_eq_true, Bool.or_eq_true] at q
        simp only [Bool.and_eq_true] at h
        refine sdS_asg (chkE_ok o e _ h.2) (chkG_ok o g _ h.1.2) (fun line => ?_) q.2 h.1.1
        rcases q.1 with q1 | q1
        · exact noComp_sole q1
        · exact noSwap_sole (by rw [o.hsc]; exact q1)
      · unfold asgK at h
        split at h
        · simp only [Bool.and_eq_true, decide_eq_true_eq] at h
          obtain ⟨⟨⟨⟨⟨⟨h0, rfl⟩, h1⟩, h2⟩, h3⟩, h4⟩, h5⟩ := h
          obtain ⟨b1, b2, b3, b4⟩ := blkK_ok h1
          obtain ⟨k1, k2, k3, k4⟩ := setK_ok o h0
          rename_i vs _ _ _ _ _ _ _ _ _ _
          have := fun spos => sdS_setLc (spos := spos) (Φ := Φ) o.calm (by rw [o.hN]; exact o.nd) k1 k2 (by rw [o.hsc]; exact o.kind) k3 k4 (chkI_ok o _ _ _ h3) (own := ownOf c vs) (by rw [o.hN, o.hsc]; exact b1) ⟨fun s H C cl fp => chkG_ok (o.blk b1 s H C cl fp) _ _ h2⟩
            ⟨fun s H C cl fp => chkIfs_ok (o.blk b1 s H C cl fp) _ _ h4⟩ ⟨fun s H C cl fp => chkE_ok (o.blk b1 s H C cl fp) _ _ h5⟩ (by rw [ownOf_snd]; exact b2) b3 (noSet_ok b4)
          rw [ownOf_snd] at this
          exact this _
        · simp only [Bool.and_eq_true, decide_eq_true_eq] at h
          obtain ⟨⟨⟨⟨⟨⟨⟨h0, rfl⟩, h1⟩, h2⟩, h3⟩, h4⟩, h5⟩, h6⟩ := h
          obtain ⟨b1, b2, b3, b4⟩ := blkK_ok h1
          obtain ⟨k1, k2, k3, k4⟩ := setK_ok o h0
          rename_i vs _ _ _ _ _ _ _ _ _ _ _ _
          have := fun spos => sdS_setDc (spos := spos) (Φ := Φ) o.calm (by rw [o.hN]; exact o.nd) k1 k2 (by rw [o.hsc]; exact o.kind) k3 k4 (chkI_ok o _ _ _ h3) (own := ownOf c vs) (by rw [o.hN, o.hsc]; exact b1) ⟨fun s H C cl fp => chkG_ok (o.blk b1 s H C cl fp) _ _ h2⟩
            ⟨fun s H C cl fp => chkIfs_ok (o.blk b1 s H C cl fp) _ _ h4⟩ ⟨fun s H C cl fp => chkE_ok (o.blk b1 s H C cl fp) _ _ h5⟩ ⟨fun s H C cl fp => chkE_ok (o.blk b1 s H C cl fp) _ _ h6⟩ (by rw [ownOf_snd]; exact b2) b3 (noSet_ok b4)
          rw [ownOf_snd] at this
          exact this _
        · cases h
    · cases h
  | .par is r, st, h => by
    unfold chkS at h
    split at h
    · rename_i ts k pt es k2 pt2 pos
      simp only [Bool.and_eq_true, decide_eq_true_eq] at h
      obtain ⟨⟨⟨⟨h1, h2⟩, h3⟩, h4⟩, h5⟩ := h
      obtain ⟨_, hf⟩ := chkEs_ok o r _ h1
      obtain ⟨n1, n2, n3⟩ := namesC_ok o is ts h2
      have hk : X.env.scope.kind = .function := by rw [o.hsc]; exact o.kind
      have hN : X.N.Nodup := by rw [o.hN]; exact o.nd
      unfold swK at h5
      split at h5
      · rename_i q
        exact sdS_par0 o.calm hN n1 n2 n3 hf h4 (swap_ok hk (by rw [o.hsc]; exact q))
      · split at h5
        · simp only [Bool.and_eq_true, decide_eq_true_eq] at h5
          obtain ⟨⟨q1, q2⟩, q3⟩ := h5
          obtain ⟨x1, p1, i1, e1, f1, a1, _, _⟩ := n1 0 _ rfl
          obtain ⟨x2, p2, i2, e2, f2, a2, _, _⟩ := n1 1 _ rfl
          cases e1; cases e2
          match is, n2, f1, f2, h3 with
          | [a, b], _, f1, f2, h3 =>
            cases f1; cases f2
            exact sdS_par2 o.calm hN a1 a2 (by simpa using h3) (by rw [o.hsc]; exact q2) (by rw [o.hsc]; exact q3) hf (swap_ok hk (by rw [o.hsc]; exact q1))
        · simp only [Bool.and_eq_true, decide_eq_true_eq] at h5
          obtain ⟨⟨⟨q1, q2⟩, q3⟩, q4⟩ := h5
          obtain ⟨x1, p1, i1, e1, f1, a1, _, _⟩ := n1 0 _ rfl
          obtain ⟨x2, p2, i2, e2, f2, a2, _, _⟩ := n1 1 _ rfl
          obtain ⟨x3, p3, i3, e3, f3, a3, _, _⟩ := n1 2 _ rfl
          cases e1; cases e2; cases e3
          match is, n2, f1, f2, f3, h3 with
          | [a, b, d], _, f1, f2, f3, h3 =>
            cases f1; cases f2; cases f3
            simp at h3
            exact sdS_par3 o.calm hN a1 a2 a3 h3.1.1 h3.1.2 h3.2 (by rw [o.hsc]; exact q2) (by rw [o.hsc]; exact q3) (by rw [o.hsc]; exact q4) hf (swap_ok hk (by rw [o.hsc]; exact q1))
        · cases h5
      · cases h5
    · cases h
  | .setix i ix e, st, h => by
    unfold chkS at h
    split at h
    · simp only [Bool.and_eq_true] at h
      obtain ⟨⟨⟨⟨h1, h2⟩, h4⟩, h5⟩, h6⟩ := h
      obtain ⟨n1, n2, n3, n4⟩ := nameC_ok o h1
      have hu := o.units
      exact sdS_setix (by omega) n1 n2 n3 n4 (chkE_ok o ix _ h5) (chkE_ok o e _ h6) h2 h4
    · cases h
  | .setdw i ix e, st, h => by
    unfold chkS at h
    split at h
    · simp only [Bool.and_eq_true] at h
      obtain ⟨⟨⟨⟨h1, h2⟩, h4⟩, h5⟩, h6⟩ := h
      obtain ⟨n1, n2, n3, n4⟩ := nameC_ok o h1
      exact sdS_setdw n1 n2 n3 n4 (chkE_ok o ix _ h5) (chkE_ok o e _ h6) h2 h4
    · cases h
  | .app i e, st, h => by
    unfold chkS at h
    split at h
    · simp only [Bool.and_eq_true, decide_eq_true_eq] at h
      obtain ⟨⟨⟨⟨rfl, h1⟩, h2⟩, h3⟩, h4⟩ := h
      obtain ⟨n1, n2, n3, n4⟩ := nameC_ok o h1
      exact sdS_app n1 n2 n3 n4 (chkE_ok o e _ h4) h2 h3
    · cases h
  | .ext i e, st, h => by
    unfold chkS at h
    split at h
    · simp only [Bool.and_eq_true, decide_eq_true_eq] at h
      obtain ⟨⟨⟨⟨rfl, h1⟩, h2⟩, h3⟩, h4⟩ := h
      obtain ⟨n1, n2, n3, n4⟩ := nameC_ok o h1
      exact sdS_ext n1 n2 n3 n4 (chkE_ok o e _ h4) h2 h3
    · cases h
  | .rem i e, st, h => by cases h
  | .upd i e, st, h => by cases h
  | .ex e, st, h => by
    unfold chkS at h
    split at h
    · rw [Bool.and_eq_true] at h
      exact sdS_ex (chkE_ok o e _ h.2) h.1
    · cases h
  | .ife d a b, st, h => by
    unfold chkS at h
    split at h
    · simp only [Bool.and_eq_true] at h
      exact sdS_if (chkE_ok o d _ h.1.1) (chkB_ok o a _ h.1.2) (chkB_ok o b _ h.2)
    · cases h
  | .for_ g it b, st, h => by
    unfold chkS at h
    split at h
    · simp only [Bool.and_eq_true] at h
      obtain ⟨⟨⟨⟨h1, h2⟩, h3⟩, h4⟩, h5⟩ := h
      exact sdS_for (owns o.xe) o.calm (chkI_ok o it _ _ h2) (chkG_ok o g _ h1) (fun t => by rw [t] at h3; simpa using h3) (chkB_ok o b _ h5) (noSet_ok h4)
    · cases h
  | .wh d b, st, h => by
    unfold chkS at h
    split at h
    · rw [Bool.and_eq_true] at h
      exact sdS_wh (owns o.xe) (chkE_ok o d _ h.1) (chkB_ok o b _ h.2)
    · cases h
  | .ret e, st, h => by
    unfold chkS at h
    split at h
    · exact sdS_ret (chkE_ok o e _ h)
    · cases h
  | .brk, st, h => by
    unfold chkS at h
    split at h
    · exact sdS_brk
    · cases h
  | .cnt, st, h => by
    unfold chkS at h
    split at h
    · exact sdS_cnt
    · cases h
  | .nop, st, h => by
    unfold chkS at h
    split at h
    · exact sdS_pass
    · cases h
theorem chkB_ok {sc : Scope} {fc : Str → Bool} {X : Cx} (o : Xo Φ c sc fc X) : ∀ (b : Ss) (sts : List Stmt), chkB c sc fc b sts = true → SdSs Φ X sts b
  | .nil, sts, h => by
    cases sts with
    | nil => exact sds_nilB
    | cons _ _ => cases h
  | .cons s r, sts, h => by
    cases sts with
    | nil => cases h
    | cons st sts =>
      unfold chkB at h
      rw [Bool.and_eq_true] at h
      exact sds_consB (chkS_ok o s _ h.1) (chkB_ok o r _ h.2)
end
end
end Z

/-! defs keep their promises -/
namespace Z
open PySem PySem.Spec PyProof.Rows
open L2 (V Hp VK XK Sp Cx HO Vals SqL upd upd_same upd_ne FnOk FnScope Room cxOf Inv HOk)
open C8 (Cal cal0 Def fnBody fnScope fnArgs CX0)
def startS (N : List Str) (ss : Env) : Env := ss ++ List.replicate (N.length - ss.length) .no
section
variable {K : Kx} {F F' : Fz} {H H' : Hp}
theorem start_get {N : List Str} {vs : List V} {i : Nat} (h : i < vs.length) : (L2.start N vs)[i]? = some vs[i]? := by
  unfold L2.start
  rw [List.getElem?_append_left (by rw [List.length_map]; exact h), List.getElem?_map, List.getElem?_eq_getElem h]
  rfl
theorem Sg.startS {N : List Str} {vs : List V} {ss : Env} (t : ∀ a, F a → H a ≠ none) (hl : vs.length = ss.length) (hN : ss.length ≤ N.length) (h : ∀ (i : Nat) (s : Sl) (v : V), ss[i]? = some s → vs[i]? = some v → SlR K F H (some (some v)) s) (own : ∀ (i : Nat) (s : Sl), ss[i]? = some s → s.own = true → i = 0) :
    Sg K F H (L2.start N vs) (Z.startS N ss) := by
  have get : ∀ {i : Nat} {s : Sl}, (Z.startS N ss)[i]? = some s → s = .no ∨ ∃ v, ss[i]? = some s ∧ vs[i]? = some v ∧ (L2.start N vs)[i]? = some (some v) := fun {i s} e => by
    unfold Z.startS at e
    by_cases c : i < ss.length
    · rw [List.getElem?_append_left c] at e
      have cv : i < vs.length := by omega
      refine .inr ⟨vs[i], e, List.getElem?_eq_getElem cv, ?_⟩
      rw [start_get cv, List.getElem?_eq_getElem cv]
    · rw [List.getElem?_append_right (by omega)] at e
      have := List.mem_of_getElem? e
      exact .inl (List.eq_of_mem_replicate this)
  refine ⟨?_, fun i s e => ?_, fun i j a s s' e1 e2 o1 o2 v1 v2 => ?_, t⟩
  · unfold Z.startS L2.start
    simp
    omega
  · rcases get e with rfl | ⟨v, h1, h2, h3⟩
    · trivial
    · rw [h3]; exact h i s v h1 h2
  · rcases get e1 with rfl | ⟨v, h1, h2, h3⟩
    · cases o1
    · rcases get e2 with rfl | ⟨w, k1, k2, k3⟩
      · cases o2
      · rw [own i s h1 o1, own j s' k1 o2]
theorem mu_start {N : List Str} {vs : List V} {ss : Env} (sh : ∀ s ∈ ss, s.mut = false) {a : Addr} : ¬ Mu (L2.start N vs) (Z.startS N ss) a := fun ⟨i, s, h1, h2, _⟩ => by
  unfold Z.startS at h1
  rcases List.mem_append.mp (List.mem_of_getElem? h1) with q | q
  · rw [sh s q] at h2; cases h2
  · rw [List.eq_of_mem_replicate q] at h2; cases h2
end
/-- what is known of the module -/
structure Md (Φ : Nat → Spc) (c : Cc) (P : Program) (w : World) (K : PySem.W.Frag) (mg : Str → Option Value) (base : Heap) (k : Nat) : Prop where
  blt : ∀ x ∈ c.B, mg x = none
  mth : ∀ p ∈ c.M, mg p.1 = some (.builtin p.2)
  glo : ∀ p ∈ c.G, ∃ u v, scV p.2 = some v ∧ mg p.1 = some u ∧ L2.RelV v u
  cal : ∀ i p, c.Fs[i]? = some p → Cal P w K mg base k p.1 (if p.2.2 = true then spD ⟨K, P, w⟩ (Φ i) p.2.1 else spZ ⟨K, P, w⟩ (Φ i) p.2.1) []
  nxt : c.nx = true → Cal P w K mg base k "_law_next" (spN ⟨K, P, w⟩) []
section
variable {Φ : Nat → Spc} {c : Cc} {P : Program} {w : World} {K : PySem.W.Frag} {mg : Str → Option Value} {base : Heap} {k : Nat} {x : Str} {st : Stmt} {f : Addr} {fd : FuncData} {ps : List Str} {b : Ss}
theorem Md.xo (m : Md Φ c P w K mg base k) (S : FnScope c.N ps (fnScope st)) (cdv : Value) (A : Around) (outer : List PySem.Env) (s : Shared) (H : Hp) (E : XK) (hr : Room k (A.deeper (envOfC x (fnScope st) s.heap.objs.size f cdv))) :
    Xo Φ c (fnScope st) (fun _ => true) (cxOf CX0 P w K mg base c.N x (fnScope st) f cdv A outer s H E).nox where
  hN := rfl
  nd := S.nd
  hsc := rfl
  kind := S.kind
  fn := fun _ _ => rfl
  calm := rfl
  xe := rfl
  blt := m.blt
  mth := m.mth
  glo := m.glo
  room := ⟨k, hr, m.cal, m.nxt⟩
def ktF (Kq : Bool → PyData → Prop) : Kt := { nx := fun _ => Kq false .none, rt := fun fr d _ => Kq fr d }
/-- a def by its tree -/
theorem fn_ok (m : Md Φ c P w K mg base k) (D : Def K mg x st f fd) (bd : L2.Binds K fd ps []) (S : FnScope c.N ps (fnScope st)) (hb : chkB c (fnScope st) (fun _ => true) b (fnBody st) = true) {φ : Spc}
    (hφ : ∀ ds Kq, ds.length = ps.length → φ ds Kq → rdB Φ b (startS c.N (ds.map .sh)) (ktF Kq)) : Cal P w K mg base (k + 1) x (spZ ⟨K, P, w⟩ φ ps.length) [] := by
  refine cal0 D bd .nil S (fun vs H Q E h => h.1) fun cdv A outer s H vs Q E hr hsp => ?_
  have o := m.xo S cdv A outer s H E hr
  refine ⟨_, chkB_ok o b _ hb, ?_⟩
  obtain ⟨hl, F, ds, Kq, t, rs, hk, q⟩ := hsp
  have hN : ps.length ≤ c.N.length := by
    have := congrArg List.length S.pre
    rw [List.length_take] at this
    omega
  have hd := rs.length
  refine ⟨F, startS c.N (ds.map .sh), ktF Kq, ?_, hφ ds Kq (by omega) hk, ?_⟩
  · refine Sg.startS t (by rw [List.length_map]; exact hd) (by rw [List.length_map]; omega) (fun i s v h1 h2 => ?_) (fun i s h1 h2 => ?_)
    · rw [List.getElem?_map] at h1
      obtain ⟨d, hd, rfl⟩ := Option.map_eq_some_iff.mp h1
      obtain ⟨d', hd', r⟩ := rs.get h2
      rw [hd] at hd'; cases hd'
      exact ⟨v, rfl, r⟩
    · rw [List.getElem?_map] at h1
      obtain ⟨d, hd, rfl⟩ := Option.map_eq_some_iff.mp h1
      cases h2
  · have nm : ∀ {a}, ¬ Mu (L2.start c.N vs) (startS c.N (ds.map .sh)) a := mu_start fun s hs => by
      obtain ⟨d, _, rfl⟩ := List.mem_map.mp hs; rfl
    have lay : ∀ {σ' F' H' ρ'}, Sg ⟨K, P, w⟩ F' H' σ' ρ' → Stp F H (L2.start c.N vs) (startS c.N (ds.map .sh)) F' H' σ' ρ' → Lay F H F' H' := fun g s => ⟨s.sub, fun a h => (s.new a h).imp id fun z => z.elim id fun m => (nm m).elim, fun a h => s.keep a h nm, g.tr⟩
    refine ⟨fun σ' F' H' ρ' g s' kq => q false .none .non F' H' kq (lay g s') (Vn.rp .non rfl), fun _ _ _ _ _ _ z => z.elim, fun _ _ _ _ _ _ z => z.elim, fun fr v d σ' F' H' ρ' g s' vr kq => q fr d v F' H' kq (lay g s') ?_⟩
    unfold VrR at vr
    unfold Vn
    split
    · rename_i cc
      rw [if_pos cc] at vr
      obtain ⟨a, e, n, ob, z, _⟩ := vr
      exact ⟨a, e, n, ob, z.resolve_right nm⟩
    · rename_i cc
      rw [if_neg cc] at vr
      exact vr
def ktD (Kq : Bool → PyData → Prop) : Kt := { nx := fun ρ => isDr ρ 0 ∧ Kq false .none, rt := fun fr d ρ => isDr ρ 0 ∧ Kq fr d }
/-- behind a def that draws -/
theorem dr_end {K : Kx} {F F' : Fz} {H H' : Hp} {N : List Str} {a : Addr} {vs : List V} {ds : List PyData} {s0 s1 : Sl} (hm : s0.own = true) {σ' : L2.St} {ρ' : Env} (hs1 : s1.pin = true ∧ s1.own = true) (g : Sg K F' H' σ' ρ') (s : Stp F H (L2.start N (.ref a :: vs)) (startS N (s0 :: ds.map .sh)) F' H' σ' ρ') (e : ρ'[0]? = some s1) :
    LayD a F H F' H' ∧ σ'[0]? = some (some (.ref a)) ∧ ∀ {b}, Mu (L2.start N (.ref a :: vs)) (startS N (s0 :: ds.map .sh)) b → b = a := by
  have mu : ∀ {b}, Mu (L2.start N (.ref a :: vs)) (startS N (s0 :: ds.map .sh)) b → b = a := fun {b} ⟨i, s', h1, h2, h3⟩ => by
    cases i with
    | zero =>
      rw [start_get (by simp)] at h3
      simp at h3
      exact h3.symm
    | succ i =>
      exfalso
      unfold startS at h1
      rw [List.cons_append, List.getElem?_cons_succ] at h1
      rcases List.mem_append.mp (List.mem_of_getElem? h1) with q | q
      · obtain ⟨d, _, rfl⟩ := List.mem_map.mp q; cases h2
      · rw [List.eq_of_mem_replicate q] at h2; cases h2
  obtain ⟨_, e2⟩ := s.lk 0 s1 e hs1.1
  have es : σ'[0]? = some (some (.ref a)) := by rw [e2, start_get (by simp)]; rfl
  have nF : ¬ F' a := g.nF ⟨0, s1, e, hs1.2, es⟩
  refine ⟨⟨s.sub, fun x h => ?_, fun x h ne => s.keep x h fun m => ne (mu m), g.tr⟩, es, mu⟩
  rcases s.new x h with q | q | q
  · exact .inl q
  · exact .inr q
  · exact absurd h (mu q ▸ nF)
theorem sg_startH {K : Kx} {F : Fz} {H : Hp} {N : List Str} {a : Addr} {vs : List V} {ds : List PyData} {s0 : Sl} (t : ∀ a, F a → H a ≠ none) (rs : RpAll K F H vs ds) (hN : ds.length + 1 ≤ N.length) (h0 : SlR K F H (some (some (.ref a))) s0) : Sg K F H (L2.start N (.ref a :: vs)) (Z.startS N (s0 :: ds.map .sh)) := by
  refine Sg.startS t (by rw [List.length_cons, List.length_cons, List.length_map, rs.length]) (by rw [List.length_cons, List.length_map]; exact hN) (fun i s v h1 h2 => ?_) (fun i s h1 h2 => ?_)
  · cases i with
    | zero => cases h1; cases h2; exact h0
    | succ i =>
      rw [List.getElem?_cons_succ, List.getElem?_map] at h1
      rw [List.getElem?_cons_succ] at h2
      obtain ⟨d, hd, rfl⟩ := Option.map_eq_some_iff.mp h1
      obtain ⟨d', hd', r⟩ := rs.get h2
      rw [hd] at hd'; cases hd'
      exact ⟨v, rfl, r⟩
  · cases i with
    | zero => rfl
    | succ i =>
      rw [List.getElem?_cons_succ, List.getElem?_map] at h1
      obtain ⟨d, hd, rfl⟩ := Option.map_eq_some_iff.mp h1
      cases h2
/-- a def that draws, by its tree -/
theorem fn_okD (m : Md Φ c P w K mg base k) (D : Def K mg x st f fd) {p0 : Str} (bd : L2.Binds K fd (p0 :: ps) []) (S : FnScope c.N (p0 :: ps) (fnScope st)) (hb : chkB c (fnScope st) (fun _ => true) b (fnBody st) = true) {φ : Spc}
    (hφ : ∀ ds Kq, ds.length = ps.length → φ ds Kq → rdB Φ b (startS c.N (.dr :: ds.map .sh)) (ktD Kq)) : Cal P w K mg base (k + 1) x (spD ⟨K, P, w⟩ φ ps.length) [] := by
  refine cal0 D bd .nil S (fun vs H Q E h => h.1) fun cdv A outer s H vs Q E hr hsp => ?_
  have o := m.xo S cdv A outer s H E hr
  refine ⟨_, chkB_ok o b _ hb, ?_⟩
  obtain ⟨hl, F, a, ws, ds, d0, Kq, rfl, t, nF, ob, vd, rs, hk, q⟩ := hsp
  have hN : ps.length + 1 ≤ c.N.length := by
    have := congrArg List.length S.pre
    rw [List.length_take, List.length_cons] at this
    omega
  have hd := rs.length
  rw [List.length_cons] at hl
  refine ⟨F, startS c.N (.dr :: ds.map .sh), ktD Kq, sg_startH t rs (by omega) ⟨a, d0, rfl, nF, ob, vd⟩, hφ ds Kq (by omega) hk, ?_⟩
  refine ⟨fun σ' F' H' ρ' g s' kq => ?_, fun _ _ _ _ _ _ z => z.elim, fun _ _ _ _ _ _ z => z.elim, fun fr v d σ' F' H' ρ' g s' vr kq => ?_⟩
  · obtain ⟨e, kq⟩ := kq
    have e := isDr_iff e
    obtain ⟨l, es, _⟩ := dr_end rfl ⟨rfl, rfl⟩ g s' e
    obtain ⟨a', d1, ea, nF', ob', vd'⟩ := g.sl 0 _ e
    rw [es] at ea; cases ea
    exact q false .none .non F' H' d1 kq l ob' vd' (Vn.rp .non rfl)
  · obtain ⟨e, kq⟩ := kq
    have e := isDr_iff e
    obtain ⟨l, es, mu⟩ := dr_end rfl ⟨rfl, rfl⟩ g s' e
    obtain ⟨a', d1, ea, nF', ob', vd'⟩ := g.sl 0 _ e
    rw [es] at ea; cases ea
    refine q fr d v F' H' d1 kq l ob' vd' ?_
    unfold VrR at vr
    unfold Vn
    split
    · rename_i cc
      rw [if_pos cc] at vr
      obtain ⟨b', eb, n, obb, z, nw⟩ := vr
      refine ⟨b', eb, n, obb, z.resolve_right fun mm => nw ?_⟩
      rw [mu mm]
      exact ⟨0, .dr, e, rfl, es⟩
    · rename_i cc
      rw [if_neg cc] at vr
      exact vr
/-- _law_next by its tree -/
theorem next_ok (m : Md Φ c P w K mg base k) (D : Def K mg "_law_next" st f fd) (bd : L2.Binds K fd ["draw", "many"] []) (S : FnScope c.N ["draw", "many"] (fnScope st)) (hb : chkB c (fnScope st) (fun _ => true) b (fnBody st) = true)
    (hφ : ∀ d0 n, ValidD d0 → 1 ≤ n → n < 1073741824 → rdB Φ b (startS c.N [.dw d0, .sh (.int n)]) { nx := fun _ => False, rt := fun _ d ρ => ∃ d1 r, ρ[0]? = some (.dw d1) ∧ ValidD d1 ∧ d = .int r ∧ 0 ≤ r ∧ r < n }) : Cal P w K mg base (k + 1) "_law_next" (spN ⟨K, P, w⟩) [] := by
  refine cal0 D bd .nil S (fun vs H Q E h => by obtain ⟨F, a, d0, n, rfl, _⟩ := h; rfl) fun cdv A outer s H vs Q E hr hsp => ?_
  have o := m.xo S cdv A outer s H E hr
  refine ⟨_, chkB_ok o b _ hb, ?_⟩
  obtain ⟨F, a, d0, n, rfl, t, nF, ob, vd, h1, h2, q⟩ := hsp
  have hN : 2 ≤ c.N.length := by
    have := congrArg List.length S.pre
    rw [List.length_take] at this
    simp at this
    omega
  refine ⟨F, startS c.N (.dw d0 :: [PyData.int n].map .sh), _, sg_startH t (.cons (.int n) .nil) (by simpa using hN) ⟨a, rfl, nF, ob⟩, hφ d0 n vd h1 h2, ?_⟩
  refine ⟨fun σ' F' H' ρ' g s' kq => kq.elim, fun _ _ _ _ _ _ z => z.elim, fun _ _ _ _ _ _ z => z.elim, fun fr v d σ' F' H' ρ' g s' vr kq => ?_⟩
  obtain ⟨d1, r, e, vd1, rfl, r1, r2⟩ := kq
  obtain ⟨l, es, mu⟩ := dr_end rfl ⟨rfl, rfl⟩ g s' e
  obtain ⟨a', ea, nF', ob'⟩ := g.sl 0 _ e
  rw [es] at ea; cases ea
  have ev : v = .int r := by
    unfold VrR at vr
    rw [if_neg (by cases fr <;> simp [isMut])] at vr
    cases vr; rfl
  rw [ev]
  exact q r F' H' d1 r1 r2 l ob' vd1
end
end Z

/-! reading by simp -/
namespace Z
open PySem
section
variable {Φ : Nat → Spc} {r : RE} {ρ : Env} {K : Opd → Env → Prop} {a b c : E} {p q : Pr} {i j : Nat} {es : Es} {d : PyData} {g : Tg} {it : I}
@[simp] theorem opd_v : opd (.v i) r ρ K = must (res ρ (.slot i)) fun _ => K (.slot i) ρ := rfl
@[simp] theorem opd_k : opd (.k d) r ρ K = r ρ fun _ d ρ' => K (.val d) ρ' := rfl
@[simp] theorem opd_p1 : opd (.p1 p a) r ρ K = r ρ fun _ d ρ' => K (.val d) ρ' := rfl
@[simp] theorem opd_p2 : opd (.p2 p a b) r ρ K = r ρ fun _ d ρ' => K (.val d) ρ' := rfl
@[simp] theorem opd_p3 : opd (.p3 p a b c) r ρ K = r ρ fun _ d ρ' => K (.val d) ρ' := rfl
@[simp] theorem opd_m1 : opd (.m1 p a b) r ρ K = r ρ fun _ d ρ' => K (.val d) ρ' := rfl
@[simp] theorem opd_m2 : opd (.m2 p a b c) r ρ K = r ρ fun _ d ρ' => K (.val d) ρ' := rfl
@[simp] theorem opd_chain : opd (.chain p q a b c) r ρ K = r ρ fun _ d ρ' => K (.val d) ρ' := rfl
@[simp] theorem opd_and : opd (.and_ a b) r ρ K = r ρ fun _ d ρ' => K (.val d) ρ' := rfl
@[simp] theorem opd_or : opd (.or_ a b) r ρ K = r ρ fun _ d ρ' => K (.val d) ρ' := rfl
@[simp] theorem opd_not : opd (.not_ a) r ρ K = r ρ fun _ d ρ' => K (.val d) ρ' := rfl
@[simp] theorem opd_ite : opd (.ite a b c) r ρ K = r ρ fun _ d ρ' => K (.val d) ρ' := rfl
@[simp] theorem opd_tup : opd (.tup es) r ρ K = r ρ fun _ d ρ' => K (.val d) ρ' := rfl
@[simp] theorem opd_lst : opd (.lst es) r ρ K = r ρ fun _ d ρ' => K (.val d) ρ' := rfl
@[simp] theorem opd_dct : opd (.dct es) r ρ K = r ρ fun _ d ρ' => K (.val d) ρ' := rfl
@[simp] theorem opd_call : opd (.call i es) r ρ K = r ρ fun _ d ρ' => K (.val d) ρ' := rfl
@[simp] theorem opd_calld : opd (.calld i j es) r ρ K = r ρ fun _ d ρ' => K (.val d) ρ' := rfl
@[simp] theorem opd_nxt : opd (.nxt i a) r ρ K = r ρ fun _ d ρ' => K (.val d) ρ' := rfl
@[simp] theorem opd_lc {ifs vs} : opd (.lc g it ifs vs a) r ρ K = r ρ fun _ d ρ' => K (.val d) ρ' := rfl
@[simp] theorem opd_dc {ifs vs} : opd (.dc g it ifs vs a b) r ρ K = r ρ fun _ d ρ' => K (.val d) ρ' := rfl
@[simp] theorem opd_rngL : opd (.rngL it) r ρ K = r ρ fun _ d ρ' => K (.val d) ρ' := rfl
@[simp] theorem opd_rngT : opd (.rngT it) r ρ K = r ρ fun _ d ρ' => K (.val d) ρ' := rfl
@[simp] theorem opd_pop : opd (.pop i) r ρ K = r ρ fun _ d ρ' => K (.val d) ρ' := rfl
@[simp] theorem opd_popAt : opd (.popAt i a) r ρ K = r ρ fun _ d ρ' => K (.val d) ρ' := rfl
@[simp] theorem opd_dix : opd (.dix i a) r ρ K = r ρ fun _ d ρ' => K (.val d) ρ' := rfl
@[simp] theorem res_val : res ρ (.val d) = some d := rfl
@[simp] theorem res_slot : res ρ (.slot i) = (ρ[i]?).bind Sl.dat := rfl
@[simp] theorem dat_sh : Sl.dat (.sh d) = some d := rfl
@[simp] theorem dat_ow : Sl.dat (.ow d) = some d := rfl
@[simp] theorem dat_lk : Sl.dat (.lk d) = some d := rfl
@[simp] theorem walk_l {o : Opd} {l : List PyData} : walkOf ρ o (.list l) = some ((lock ρ o).2, l, (lock ρ o).1) := rfl
@[simp] theorem walk_t {o : Opd} {l : List PyData} : walkOf ρ o (.tuple l) = some ((lock ρ o).2, l, (lock ρ o).1) := rfl
@[simp] theorem walk_s {o : Opd} {s : Str} : walkOf ρ o (.str s) = (itemsOf (.str s)).map fun ds => ((lock ρ o).2, ds, (lock ρ o).1) := rfl
@[simp] theorem walk_d {o : Opd} {l : List (PyData × PyData)} : walkOf ρ o (.dict l) = (shareE ρ o).map fun ρ' => ([], l.map (·.1), ρ') := rfl
@[simp] theorem share_v : shareE ρ (.val d) = some ρ := rfl
@[simp] theorem share_s : shareE ρ (.slot i) = match ρ[i]? with | some (.ow d) => some (ρ.set i (.sh d)) | some (.sh _) => some ρ | _ => none := rfl
@[simp] theorem must_s {α : Type} (x : α) (Q : α → Prop) : must (some x) Q = Q x := propext ⟨fun ⟨_, e, h⟩ => by cases e; exact h, fun h => ⟨x, rfl, h⟩⟩
@[simp] theorem must_n {α : Type} (Q : α → Prop) : must none Q = False := propext ⟨fun ⟨_, e, _⟩ => (nomatch e), False.elim⟩
@[simp] theorem mustI_i {n : Int} {Q : Int → Prop} : mustI (.int n) Q = Q n := rfl
@[simp] theorem mustB_b {n : Bool} {Q : Bool → Prop} : mustB (.bool n) Q = Q n := rfl
@[simp] theorem asg_nm {fr : Bool} {Q : Env → Prop} : asgT (.nm i) fr d ρ Q = Q (ρ.set i (if (fr && isMut d) = true then .ow d else .sh d)) := by rw [asgT]
@[simp] theorem asg_cons {fr : Bool} {t s : Tg} {ds : List PyData} {Q : Env → Prop} : asgT (.cons t s) fr (.tuple ds) ρ Q = asgTs (.cons t s) ds ρ Q := by rw [asgT]
@[simp] theorem asgs_cons {t s : Tg} {ds : List PyData} {Q : Env → Prop} : asgTs (.cons t s) (d :: ds) ρ Q = asgT t false d ρ fun ρ' => asgTs s ds ρ' Q := by rw [asgTs]
@[simp] theorem asgs_nil {Q : Env → Prop} : asgTs .nil [] ρ Q = Q ρ := by rw [asgTs]; simp
/-! data -/
@[simp] theorem p2_add : Z.p2 .add = addD := rfl
@[simp] theorem p2_sub : Z.p2 .sub = subD := rfl
@[simp] theorem p2_mul : Z.p2 .mul = mulD := rfl
@[simp] theorem p2_fdiv : Z.p2 .fdiv = fdivD := rfl
@[simp] theorem p2_mod : Z.p2 .mod = modD := rfl
@[simp] theorem p2_pow : Z.p2 .pow = powD := rfl
@[simp] theorem p2_eq : Z.p2 .eq = eqD := rfl
@[simp] theorem p2_ne : Z.p2 .ne = neD := rfl
@[simp] theorem p2_lt : Z.p2 .lt = ltD := rfl
@[simp] theorem p2_le : Z.p2 .le = leD' := rfl
@[simp] theorem p2_gt : Z.p2 .gt = gtD := rfl
@[simp] theorem p2_ge : Z.p2 .ge = geD := rfl
@[simp] theorem p2_in : Z.p2 .in_ = inD := rfl
@[simp] theorem p2_nin : Z.p2 .nin = ninD := rfl
@[simp] theorem p2_is : Z.p2 .is_ = isD := rfl
@[simp] theorem p2_isn : Z.p2 .isn = isnD := rfl
@[simp] theorem p2_ix : Z.p2 .ix = ixD := rfl
@[simp] theorem p2_slL : Z.p2 .slL = slLD := rfl
@[simp] theorem p2_slH : Z.p2 .slH = slHD := rfl
@[simp] theorem p2_min2 : Z.p2 .min2 = min2D := rfl
@[simp] theorem p2_max2 : Z.p2 .max2 = max2D := rfl
@[simp] theorem p2_get1 : Z.p2 .get1 = get1D := rfl
@[simp] theorem p2_index : Z.p2 .index = indexD := rfl
@[simp] theorem p2_count : Z.p2 .count = countD := rfl
@[simp] theorem p2_gcd : Z.p2 .gcd = gcdD := rfl
@[simp] theorem p3_slLH : Z.p3 .slLH = slLHD := rfl
@[simp] theorem p3_get2 : Z.p3 .get2 = get2D := rfl
@[simp] theorem p1_neg : Z.p1 .neg = negD := rfl
@[simp] theorem p1_len : Z.p1 .len = lenD := rfl
@[simp] theorem p1_abs : Z.p1 .abs = absD := rfl
@[simp] theorem p1_int : Z.p1 .int = intD := rfl
@[simp] theorem p1_min1 : Z.p1 .min1 = min1D := rfl
@[simp] theorem p1_max1 : Z.p1 .max1 = max1D := rfl
@[simp] theorem p1_sum : Z.p1 .sum = sumD := rfl
@[simp] theorem p1_all : Z.p1 .all = allD := rfl
@[simp] theorem p1_any : Z.p1 .any = anyD := rfl
@[simp] theorem p1_sorted : Z.p1 .sorted = sortedD := rfl
@[simp] theorem p1_tuple : Z.p1 .tuple = tupleD := rfl
@[simp] theorem p1_list : Z.p1 .list = listD := rfl
@[simp] theorem p1_dict : Z.p1 .dict = dictD := rfl
@[simp] theorem p1_isInt : Z.p1 .isInt = kindT isIntD := rfl
@[simp] theorem p1_isStr : Z.p1 .isStr = kindT isStrD := rfl
@[simp] theorem p1_isBool : Z.p1 .isBool = kindT isBoolD := rfl
@[simp] theorem p1_isList : Z.p1 .isList = kindT isListD := rfl
@[simp] theorem p1_isTuple : Z.p1 .isTuple = kindT isTupleD := rfl
@[simp] theorem p1_isSeq : Z.p1 .isSeq = kindT isSeqD := rfl
variable {m n : Int}
@[simp] theorem add_ii : addD (.int m) (.int n) = some (.int (m + n)) := rfl
@[simp] theorem sub_ii : subD (.int m) (.int n) = some (.int (m - n)) := rfl
@[simp] theorem int_i : intD (.int m) = some (.int m) := rfl
@[simp] theorem abs_i : absD (.int m) = some (.int m.natAbs) := rfl
@[simp] theorem neg_i : negD (.int m) = some (.int (-m)) := rfl
@[simp] theorem len_l {l : List PyData} : lenD (.list l) = some (.int l.length) := rfl
@[simp] theorem len_t {l : List PyData} : lenD (.tuple l) = some (.int l.length) := rfl
@[simp] theorem len_d {l : List (PyData × PyData)} : lenD (.dict l) = some (.int l.length) := rfl
theorem mul_ii (h : (-(2 ^ 64) < m ∧ m < 2 ^ 64) ∨ (-(2 ^ 64) < n ∧ n < 2 ^ 64)) : mulD (.int m) (.int n) = some (.int (m * n)) := if_pos h
theorem fdiv_ii (h : 0 < n ∧ n < 1073741824) : fdivD (.int m) (.int n) = some (.int (m / n)) := if_pos h
theorem mod_ii (h : 0 < n) : modD (.int m) (.int n) = some (.int (m % n)) := if_pos h
theorem cmp_ii : cmpOk (.int m) (.int n) = true := rfl
@[simp] theorem lt_ii : ltD (.int m) (.int n) = some (.bool (decide (m < n))) := by unfold ltD; rw [if_pos cmp_ii, PySem.W.dataLt_int]
@[simp] theorem le_ii : leD' (.int m) (.int n) = some (.bool (!decide (n < m))) := by unfold leD'; rw [if_pos cmp_ii, PySem.W.dataLt_int]
@[simp] theorem gt_ii : gtD (.int m) (.int n) = some (.bool (decide (n < m))) := by unfold gtD; rw [if_pos cmp_ii, PySem.W.dataLt_int]
@[simp] theorem ge_ii : geD (.int m) (.int n) = some (.bool (!decide (m < n))) := by unfold geD; rw [if_pos cmp_ii, PySem.W.dataLt_int]
@[simp] theorem eq_ii : eqD (.int m) (.int n) = some (.bool (decide (m = n))) := by
  unfold eqD
  rw [if_pos (by rfl)]
  congr 2
@[simp] theorem ne_ii : neD (.int m) (.int n) = some (.bool (!decide (m = n))) := by
  unfold neD
  rw [if_pos (by rfl)]
  congr 2
@[simp] theorem tru_b {b : Bool} : tru (.bool b) = some b := rfl
@[simp] theorem tru_i : tru (.int m) = some (m != 0) := rfl
@[simp] theorem tru_n : tru .none = some false := rfl
@[simp] theorem tru_l {l : List PyData} : tru (.list l) = some (!l.isEmpty) := rfl
@[simp] theorem tru_t {l : List PyData} : tru (.tuple l) = some (!l.isEmpty) := rfl
@[simp] theorem ix_l {l : List PyData} : ixD (.list l) (.int m) = atD l m := rfl
@[simp] theorem ix_t {l : List PyData} : ixD (.tuple l) (.int m) = atD l m := rfl
@[simp] theorem isMut_l {l : List PyData} : isMut (.list l) = true := rfl
@[simp] theorem isMut_d {l : List (PyData × PyData)} : isMut (.dict l) = true := rfl
@[simp] theorem isMut_t {l : List PyData} : isMut (.tuple l) = false := rfl
@[simp] theorem isMut_i : isMut (.int m) = false := rfl
@[simp] theorem isMut_b {b : Bool} : isMut (.bool b) = false := rfl
@[simp] theorem isMut_s {b : Str} : isMut (.str b) = false := rfl
@[simp] theorem isMut_n : isMut .none = false := rfl
theorem at_nat {l : List PyData} {k : Nat} {x : PyData} (h : l[k]? = some x) : atD l (k : Int) = some x := by
  obtain ⟨h1, h2⟩ := List.getElem?_eq_some_iff.mp h
  unfold atD ixOf
  rw [if_pos (by omega), if_pos (by omega)]
  simpa using h
theorem at_lt {l : List PyData} (h0 : 0 ≤ m) (h1 : m < l.length) : ∃ x, l[m.toNat]? = some x ∧ atD l m = some x := by
  have h : m.toNat < l.length := by omega
  refine ⟨l[m.toNat], List.getElem?_eq_getElem h, ?_⟩
  have := at_nat (l := l) (k := m.toNat) (List.getElem?_eq_getElem h)
  rw [Int.toNat_of_nonneg h0] at this
  exact this
end
def nextB : Ss := (.cons (.ife (.p2 .gt (.dix 0 (.k (.int 2))) (.k (.int 0)))
    (.cons (.asg (.nm 2) (.p2 .mod (.p1 .int (.dix 0 (.k (.int 2)))) (.v 1))) (.cons (.setdw 0 (.k (.int 2)) (.p2 .fdiv (.dix 0 (.k (.int 2))) (.v 1))) (.cons (.ret (.v 2)) .nil)))
    .nil) (.cons (.ife (.p2 .lt (.dix 0 (.k (.int 1))) (.p1 .len (.dix 0 (.k (.int 0)))))
    (.cons (.asg (.nm 3) (.p1 .abs (.p2 .ix (.dix 0 (.k (.int 0))) (.dix 0 (.k (.int 1)))))) (.cons (.setdw 0 (.k (.int 1)) (.p2 .add (.dix 0 (.k (.int 1))) (.k (.int 1)))) (.cons (.ife (.p2 .ge (.v 3) (.p2 .pow (.k (.int 10)) (.k (.int 18))))
    (.cons (.setdw 0 (.k (.int 2)) (.p2 .fdiv (.v 3) (.v 1))) (.cons (.ret (.p2 .mod (.p1 .int (.v 3)) (.v 1))) .nil))
    .nil) (.cons (.setdw 0 (.k (.int 3)) (.p2 .mod (.p1 .int (.p2 .add (.p2 .add (.p2 .mul (.dix 0 (.k (.int 3))) (.k (.int 48271))) (.v 3)) (.k (.int 11)))) (.k (.int 2147483647)))) .nil))))
    (.cons (.setdw 0 (.k (.int 3)) (.p2 .mod (.p1 .int (.p2 .add (.p2 .mul (.dix 0 (.k (.int 3))) (.k (.int 48271))) (.k (.int 12345)))) (.k (.int 2147483647)))) .nil)) (.cons (.ret (.p2 .mod (.p2 .fdiv (.p1 .int (.p2 .mod (.p2 .mul (.dix 0 (.k (.int 3))) (.k (.int 69621))) (.k (.int 2147483629)))) (.k (.int 7))) (.v 1))) .nil)))
section
variable {Φ : Nat → Spc}
theorem mustW_d {ρ : Env} {l : List PyData} {Q : List PyData → Prop} {i : Nat} (h : ρ[i]? = some (.dw (.list l))) : mustW ρ i Q = Q l := by unfold mustW; rw [h]
theorem next_read {N : List Str} (hN : N.length = 4) (d0 : PyData) (n : Int) (v : ValidD d0) (h1 : 1 ≤ n) (h2 : n < 1073741824) : rdB Φ nextB (startS N [.dw d0, .sh (.int n)]) { nx := fun _ => False, rt := fun _ d ρ => ∃ d1 r, ρ[0]? = some (.dw d1) ∧ ValidD d1 ∧ d = .int r ∧ 0 ≤ r ∧ r < n } := by
  obtain ⟨ns, i, b, c, rfl, l1, l2, l3, l4, l5⟩ := v
  have e : startS N [.dw (drawD ns i b c), .sh (.int n)] = [.dw (.list [.list (ns.map .int), .int i, .int b, .int c]), .sh (.int n), .no, .no] := by
    unfold startS; rw [hN]; rfl
  rw [e]
  unfold nextB
  have pw : powD (.int 10) (.int 18) = some (.int 1000000000000000000) := rfl
  have vd : ∀ i' b' c' : Int, 0 ≤ i' → 0 ≤ b' → 0 ≤ c' → c' < 2147483647 → ValidD (.list [.list (ns.map .int), .int i', .int b', .int c']) := fun i' b' c' a1 a2 a3 a4 => ⟨ns, i', b', c', rfl, l1, a1, a2, a3, a4⟩
  have fin : ∀ k : Int, ∃ r : Int, k % n = r ∧ 0 ≤ r ∧ r < n := fun k => ⟨_, rfl, Int.emod_nonneg _ (by omega), Int.emod_lt_of_pos _ (by omega)⟩
  simp [mustW, atD, ixOf, Pr.fresh, rdRet, pw]
  have nd : ∀ k : Int, 0 ≤ k → 0 ≤ k / n := fun k hk => Int.ediv_nonneg hk (by omega)
  by_cases hb : 0 < b
  · rw [if_pos hb, mod_ii (by omega), fdiv_ii (by omega)]
    simp only [must_s]
    exact ⟨vd _ _ _ l2 (nd b l3) l4 l5, _, rfl, Int.emod_nonneg _ (by omega), Int.emod_lt_of_pos _ (by omega)⟩
  · rw [if_neg hb]
    have mm : ∀ k : Int, 0 ≤ k % 2147483647 ∧ k % 2147483647 < 2147483647 := fun k => ⟨Int.emod_nonneg _ (by omega), Int.emod_lt_of_pos _ (by omega)⟩
    by_cases hi : i < ns.length
    · rw [if_pos hi, if_pos l2, if_pos hi]
      have hl : i.toNat < ns.length := by omega
      rw [show (some i.toNat).bind (fun j => Option.map PyData.int ns[j]?) = some (PyData.int ns[i.toNat]) by simp [hl]]
      rw [must_s, abs_i, must_s, ge_ii, must_s, tru_b, must_s]
      generalize hbb : (!decide ((ns[i.toNat].natAbs : Int) < 1000000000000000000)) = bb
      clear hbb
      cases bb
      case true =>
        rw [if_pos rfl, fdiv_ii (by omega), must_s, int_i, must_s, mod_ii (by omega), must_s]
        exact ⟨vd _ _ _ (by omega) (nd _ (by omega)) l4 l5, _, rfl, Int.emod_nonneg _ (by omega), Int.emod_lt_of_pos _ (by omega)⟩
      case false =>
        rw [if_neg Bool.false_ne_true, mul_ii (by omega)]
        simp only [must_s, add_ii, int_i]
        rw [mod_ii (by omega), must_s]
        have z := mm (c * 48271 + ns[i.toNat].natAbs + 11)
        rw [mul_ii (by omega), must_s, mod_ii (by omega), must_s, int_i, must_s, fdiv_ii (by omega), must_s, mod_ii (by omega), must_s]
        exact ⟨vd _ _ _ (by omega) l3 z.1 z.2, _, rfl, Int.emod_nonneg _ (by omega), Int.emod_lt_of_pos _ (by omega)⟩
    · rw [if_neg hi, mul_ii (by omega)]
      simp only [must_s, add_ii, int_i]
      rw [mod_ii (by omega), must_s]
      have z := mm (c * 48271 + 12345)
      rw [mul_ii (by omega), must_s, mod_ii (by omega), must_s, int_i, must_s, fdiv_ii (by omega), must_s, mod_ii (by omega), must_s]
      exact ⟨vd _ _ _ l2 l3 z.1 z.2, _, rfl, Int.emod_nonneg _ (by omega), Int.emod_lt_of_pos _ (by omega)⟩
end
end Z

/-! _law_same, _law_draw, the law -/
namespace Z
open PySem PySem.Spec PyProof.Rows
open L2 (V Hp VK XK Sp Cx HO Vals SqL upd upd_same upd_ne FnOk FnScope Room cxOf Inv HOk)
open C8 (Cal cal0 Def fnBody fnScope fnArgs CX0)
theorem cal_mono {P : Program} {w : World} {K : PySem.W.Frag} {mg : Str → Option Value} {base : Heap} {j k : Nat} {x : Str} {sp : Sp} (h : Cal P w K mg base j x sp []) (l : j ≤ k) : Cal P w K mg base k x sp [] :=
  let ⟨f, fd, ps, ds, F, a, b, c, d⟩ := h.ex; ⟨f, fd, ps, ds, F.mono l, a, b, c, d⟩
theorem cal_imp {P : Program} {w : World} {K : PySem.W.Frag} {mg : Str → Option Value} {base : Heap} {k : Nat} {x : Str} {sp sp' : Sp} (h : Cal P w K mg base k x sp []) (l : ∀ vs H Q E, sp' vs H Q E → sp vs H Q E) : Cal P w K mg base k x sp' [] :=
  let ⟨f, fd, ps, ds, F, a, b, c, d⟩ := h.ex; ⟨f, fd, ps, ds, F.imp l, a, b, c, d⟩
theorem cal_none {P : Program} {w : World} {K : PySem.W.Frag} {mg : Str → Option Value} {base : Heap} {k : Nat} {x : Str} {st : Stmt} {f : Addr} {fd : FuncData} {ps : List Str} (D : Def K mg x st f fd) (bd : L2.Binds K fd ps []) : Cal P w K mg base k x (spZ ⟨K, P, w⟩ (fun _ _ => False) ps.length) [] :=
  ⟨f, fd, ps, [], ⟨fun vs H Q E h => h.1, fun A outer s H args us vs Q E _ _ _ _ h => let ⟨_, _, _, _, _, _, z, _⟩ := h; z.elim⟩, D.mgf, D.kp, bd, .nil⟩
/-! the same datum -/
mutual
def eqP : PyData → PyData → Bool
  | .none, .none => true
  | .bool a, .bool b => decide (a = b)
  | .int a, .int b => decide (a = b)
  | .str a, .str b => decide (a = b)
  | .list a, .list b => eqPs a b
  | .tuple a, .tuple b => eqPs a b
  | _, _ => false
def eqPs : List PyData → List PyData → Bool
  | [], [] => true
  | a :: as, b :: bs => eqP a b && eqPs as bs
  | _, _ => false
end
mutual
theorem eqP_iff : ∀ (a b : PyData), a.plain = true → b.plain = true → (eqP a b = true ↔ a = b)
  | .none, b, _, _ => by cases b <;> simp [eqP]
  | .bool a, b, _, _ => by cases b <;> simp [eqP]
  | .int a, b, _, _ => by cases b <;> simp [eqP]
  | .str a, b, _, _ => by cases b <;> simp [eqP]
  | .list a, b, ha, hb => by
    cases b with
    | list b =>
      rw [eqP, eqPs_iff a b (by simpa [PyData.plain] using ha) (by simpa [PyData.plain] using hb)]
      simp
    | _ => simp [eqP]
  | .tuple a, b, ha, hb => by
    cases b with
    | tuple b =>
      rw [eqP, eqPs_iff a b (by simpa [PyData.plain] using ha) (by simpa [PyData.plain] using hb)]
      simp
    | _ => simp [eqP]
  | .dict a, b, ha, _ => by simp [PyData.plain] at ha
theorem eqPs_iff : ∀ (a b : List PyData), PyData.plainAll a = true → PyData.plainAll b = true → (eqPs a b = true ↔ a = b)
  | [], [], _, _ => by simp [eqPs]
  | [], b :: bs, _, _ => by simp [eqPs]
  | a :: as, [], _, _ => by simp [eqPs]
  | a :: as, b :: bs, ha, hb => by
    simp only [PyData.plainAll, Bool.and_eq_true] at ha hb
    rw [eqPs, Bool.and_eq_true, eqP_iff a b ha.1 hb.1, eqPs_iff as bs ha.2 hb.2]
    simp
end
theorem eqPs_length : ∀ (a b : List PyData), eqPs a b = true → a.length = b.length
  | [], [], _ => rfl
  | [], _ :: _, h => by simp [eqPs] at h
  | _ :: _, [], h => by simp [eqPs] at h
  | a :: as, b :: bs, h => by
    rw [eqPs, Bool.and_eq_true] at h
    rw [List.length_cons, List.length_cons, eqPs_length as bs h.2]
/-! lists that are not too long -/
mutual
def smallD : PyData → Bool
  | .list a => decide (a.length ≤ big) && smallDs a
  | .tuple a => decide (a.length ≤ big) && smallDs a
  | _ => true
def smallDs : List PyData → Bool
  | [] => true
  | a :: as => smallD a && smallDs as
end
theorem smallDs_mem : ∀ {as : List PyData} {a : PyData}, smallDs as = true → a ∈ as → smallD a = true
  | b :: bs, a, h, m => by
    rw [smallDs, Bool.and_eq_true] at h
    rcases List.mem_cons.mp m with rfl | m
    · exact h.1
    · exact smallDs_mem h.2 m
theorem depth_mem : ∀ {as : List PyData} {a : PyData}, a ∈ as → a.depth ≤ PyData.depthAll as := fun {as a} h => depth_all h
/-- _law_same on data whose second is not deeper than m -/
def sameS (m : Nat) : Spc := fun ds K => ∃ a d, ds = [a, d] ∧ a.plain = true ∧ d.plain = true ∧ d.depth ≤ m ∧ smallD d = true ∧ K false (.bool (eqP a d))
def sameF : Nat → Spc
  | 0 => fun _ _ => False
  | m + 1 => sameS m
def sameB : Ss := (.cons (.ife (.p1 .isSeq (.v 1))
    (.cons (.ife (.or_ (.p2 .ne (.p1 .isList (.v 1)) (.p1 .isList (.v 0))) (.p2 .ne (.p1 .isTuple (.v 1)) (.p1 .isTuple (.v 0))))
    (.cons (.ret (.k (.bool false))) .nil)
    .nil) (.cons (.ife (.p2 .ne (.p1 .len (.v 0)) (.p1 .len (.v 1)))
    (.cons (.ret (.k (.bool false))) .nil)
    .nil) (.cons (.ret (.p1 .all (.lc (.nm 2) (.rng1 (.p1 .len (.v 1))) .nil [2] (.call 0 (.cons (.p2 .ix (.v 0) (.v 2)) (.cons (.p2 .ix (.v 1) (.v 2)) .nil)))))) .nil)))
    .nil) (.cons (.ife (.p2 .is_ (.v 1) (.k .none))
    (.cons (.ret (.p2 .is_ (.v 0) (.k .none))) .nil)
    .nil) (.cons (.ife (.p2 .ne (.p1 .isBool (.v 1)) (.p1 .isBool (.v 0)))
    (.cons (.ret (.k (.bool false))) .nil)
    .nil) (.cons (.ife (.p1 .isStr (.v 1))
    (.cons (.ret (.and_ (.p1 .isStr (.v 0)) (.p2 .eq (.v 0) (.v 1)))) .nil)
    .nil) (.cons (.ret (.and_ (.p1 .isInt (.v 0)) (.p2 .eq (.v 0) (.v 1)))) .nil)))))
theorem kind_plain {f : PyData → Bool} {d : PyData} (h : d.plain = true) : kindT f d = some (.bool (f d)) := by
  cases d <;> first | rfl | (simp [PyData.plain] at h)
@[simp] theorem ne_bb {a b : Bool} : neD (.bool a) (.bool b) = some (.bool (!decide (a = b))) := by cases a <;> cases b <;> rfl
@[simp] theorem eq_bb {a b : Bool} : eqD (.bool a) (.bool b) = some (.bool (decide (a = b))) := by cases a <;> cases b <;> rfl
@[simp] theorem eq_ss {a b : Str} : eqD (.str a) (.str b) = some (.bool (decide (a = b))) := by
  unfold eqD
  rw [if_pos (by rfl)]
  congr 2
@[simp] theorem is_none {d : PyData} : isD d .none = some (.bool (isNoneD d)) := by cases d <;> rfl
/-- a comprehension whose turns leave the names as they are -/
theorem compW_map {g : Tg} {tt : Env → (Bool → Env → Prop) → Prop} {te : Env → (PyData → Env → Prop) → Prop} {vs : List Nat} (p : PyData → Bool) (f : PyData → PyData) (ρ : Env) (Q : List PyData → Env → Prop) : ∀ (ds acc : List PyData),
    (∀ d ∈ ds, ∀ R : Bool → PyData → Env → Prop, (if p d = true then R true (f d) ρ else R false .none ρ) → asgT g false d ρ fun ρ1 => tt ρ1 fun b ρ2 => if b = true then te ρ2 fun x ρ3 => R true x (wipeE ρ3 vs) else R false .none (wipeE ρ2 vs)) →
    Q (acc ++ (ds.filter p).map f) ρ → compW g tt te vs ds acc ρ Q
  | [], acc, h, q => by
    rw [compW]
    simpa using q
  | d :: ds, acc, h, q => by
    rw [compW]
    refine h d List.mem_cons_self (fun b x ρ' => if b = true then compW g tt te vs ds (acc ++ [x]) ρ' Q else compW g tt te vs ds acc ρ' Q) ?_
    have ih := fun acc' => compW_map p f ρ Q ds acc' fun d' hd => h d' (List.mem_cons_of_mem _ hd)
    by_cases c : p d = true
    · rw [if_pos c, if_pos rfl]
      refine ih _ ?_
      rw [List.filter_cons_of_pos c, List.map_cons] at q
      simpa using q
    · rw [if_neg c, if_neg Bool.false_ne_true]
      refine ih _ ?_
      rw [List.filter_cons_of_neg c] at q
      exact q
theorem compW_all {g : Tg} {tt : Env → (Bool → Env → Prop) → Prop} {te : Env → (PyData → Env → Prop) → Prop} {vs : List Nat} (f : PyData → PyData) (ρ : Env) (Q : List PyData → Env → Prop) (ds : List PyData)
    (h : ∀ d ∈ ds, ∀ R : Bool → PyData → Env → Prop, R true (f d) ρ → asgT g false d ρ fun ρ1 => tt ρ1 fun b ρ2 => if b = true then te ρ2 fun x ρ3 => R true x (wipeE ρ3 vs) else R false .none (wipeE ρ2 vs))
    (q : Q (ds.map f) ρ) : compW g tt te vs ds [] ρ Q :=
  compW_map (fun _ => true) f ρ Q ds [] (fun d hd R r => h d hd R (by simpa using r)) (by rw [List.filter_eq_self.mpr (fun _ _ => rfl)]; simpa using q)
theorem boolsOf_map {α : Type} (f : α → Bool) : ∀ l : List α, boolsOf (l.map fun x => PyData.bool (f x)) = some (l.map f)
  | [] => rfl
  | x :: r => by rw [List.map_cons, boolsOf, boolsOf_map f r]; rfl
theorem allD_map {α : Type} (f : α → Bool) (l : List α) : allD (.list (l.map fun x => PyData.bool (f x))) = some (.bool (l.all f)) := by
  show (boolsOf _).map _ = _
  rw [boolsOf_map]
  simp [List.all_map]
theorem eqPs_range : ∀ (as ds : List PyData), as.length = ds.length → ((List.range ds.length).all fun i => eqP (as.getD i .none) (ds.getD i .none)) = eqPs as ds
  | [], [], _ => rfl
  | a :: as, d :: ds, h => by
    rw [List.length_cons, List.range_succ_eq_map, List.all_cons, List.all_map]
    have := eqPs_range as ds (by simpa using h)
    rw [eqPs, ← this]
    rfl
  | [], _ :: _, h => by cases h
  | _ :: _, [], h => by cases h
theorem same_seq (m : Nat) (as ds : List PyData) (s0 s1 : PyData) (h0 : s0 = .list as ∨ s0 = .tuple as) (h1 : s1 = .list ds ∨ s1 = .tuple ds) (hl : as.length = ds.length) (ha : PyData.plainAll as = true) (hd : PyData.plainAll ds = true) (hm : PyData.depthAll ds + 1 ≤ m) (hs : smallDs ds = true) (hz : ds.length ≤ big) (K : PyData → Prop) (k : K (.bool (eqPs as ds))) :
    compW (Tg.nm 2) (fun ρ Q => Q true ρ)
      (fun ρ' K => must (ρ'[0]?.bind Sl.dat) fun x => must (ρ'[2]?.bind Sl.dat) fun x => must (ρ'[0]?.bind Sl.dat) fun x => must (ρ'[2]?.bind Sl.dat) fun y => must (ixD x y) fun d =>
        must (ρ'[1]?.bind Sl.dat) fun x => must (ρ'[2]?.bind Sl.dat) fun x => must (ρ'[1]?.bind Sl.dat) fun x => must (ρ'[2]?.bind Sl.dat) fun y => must (ixD x y) fun d_4 => sameF m [d, d_4] fun fr d => K d ρ')
      [2] (ups 0 ds.length) [] [Sl.sh s0, Sl.sh s1, Sl.no] fun acc ρ2 => must (allD (.list acc)) fun d => K d := by
  refine compW_all (fun d => match d with | .int i => .bool (eqP (as.getD i.toNat .none) (ds.getD i.toNat .none)) | _ => .none) _ _ _ (fun d hdm R r => ?_) ?_
  · unfold ups at hdm
    obtain ⟨i, hi, rfl⟩ := List.mem_map.mp hdm
    have hi' : i < ds.length := List.mem_range.mp hi
    have ga : as[i]? = some as[i] := List.getElem?_eq_getElem (by omega)
    have gd : ds[i]? = some ds[i] := List.getElem?_eq_getElem hi'
    have xa : ixD s0 (.int (0 + (i : Int))) = some as[i] := by
      rw [Int.zero_add]
      rcases h0 with rfl | rfl
      · exact at_nat ga
      · exact at_nat ga
    have xd : ixD s1 (.int (0 + (i : Int))) = some ds[i] := by
      rw [Int.zero_add]
      rcases h1 with rfl | rfl
      · exact at_nat gd
      · exact at_nat gd
    have ea : as.getD i .none = as[i] := by rw [List.getD_eq_getElem?_getD, ga]; rfl
    have ed : ds.getD i .none = ds[i] := by rw [List.getD_eq_getElem?_getD, gd]; rfl
    simp only [Int.zero_add, Int.toNat_natCast, ea, ed] at r
    simp [xa, xd] at xa xd ⊢
    simp [xa, xd]
    cases m with
    | zero => omega
    | succ m =>
      refine ⟨_, _, rfl, plain_mem as _ ha (List.getElem_mem _), plain_mem ds _ hd (List.getElem_mem _), ?_, smallDs_mem hs (List.getElem_mem _), ?_⟩
      · have := depth_mem (List.getElem_mem hi')
        omega
      · simpa [wipeE] using r
  · have e : (ups 0 ds.length).map (fun d => match d with | .int i => PyData.bool (eqP (as.getD i.toNat .none) (ds.getD i.toNat .none)) | _ => .none) = (List.range ds.length).map fun i => PyData.bool (eqP (as.getD i .none) (ds.getD i .none)) := by
      unfold ups
      rw [List.map_map]
      refine List.map_congr_left fun i _ => ?_
      simp
    rw [e, allD_map, eqPs_range as ds hl]
    exact ⟨_, rfl, k⟩
theorem same_read {N : List Str} (hN : N.length = 3) (m : Nat) (a d : PyData) (ha : a.plain = true) (hd : d.plain = true) (hm : d.depth ≤ m) (hs : smallD d = true) (K : Bool → PyData → Prop) (k : K false (.bool (eqP a d))) : rdB (fun _ => sameF m) sameB (startS N [.sh a, .sh d]) (ktF K) := by
  have e : startS N [.sh a, .sh d] = [.sh a, .sh d, .no] := by unfold startS; rw [hN]; rfl
  rw [e]
  unfold sameB
  simp [kind_plain ha, kind_plain hd, Pr.fresh, rdRet, ktF, rdVar]
  have bg : big = 16777216 := rfl
  have lm : (-lim : Int) ≤ 0 := by decide
  cases d with
  | list ds =>
    have hs' : ds.length ≤ big ∧ smallDs ds = true := by simpa [smallD] using hs
    simp only [isSeqD, isListD, isTupleD, if_true]
    cases a with
    | list as =>
      simp only [isListD, isTupleD, if_true, len_l, must_s, ne_ii, tru_b]
      by_cases hl : as.length = ds.length
      · rw [if_neg (by simp [hl])]
        simp only [mustI_i, Int.toNat_natCast]
        refine ⟨by omega, by omega, ?_⟩
        exact same_seq m as ds _ _ (.inl rfl) (.inl rfl) hl (by simpa [PyData.plain] using ha) (by simpa [PyData.plain] using hd) (by simpa [PyData.depth, Nat.add_comm] using hm) hs'.2 hs'.1 (K false) k
      · rw [if_pos (by simp; omega)]
        have : eqP (.list as) (.list ds) = false := by
          rw [eqP]
          cases q : eqPs as ds with
          | false => rfl
          | true => exact absurd (eqPs_length _ _ q) hl
        rw [this] at k
        exact k
    | _ => simpa [isListD, isTupleD, eqP] using k
  | tuple ds =>
    have hs' : ds.length ≤ big ∧ smallDs ds = true := by simpa [smallD] using hs
    simp only [isSeqD, isListD, isTupleD, if_true]
    cases a with
    | tuple as =>
      simp only [isListD, isTupleD, if_true, len_t, must_s, ne_ii, tru_b]
      by_cases hl : as.length = ds.length
      · rw [if_neg (by simp [hl])]
        simp only [mustI_i, Int.toNat_natCast]
        refine ⟨by omega, by omega, ?_⟩
        exact same_seq m as ds _ _ (.inr rfl) (.inr rfl) hl (by simpa [PyData.plain] using ha) (by simpa [PyData.plain] using hd) (by simpa [PyData.depth, Nat.add_comm] using hm) hs'.2 hs'.1 (K false) k
      · rw [if_pos (by simp; omega)]
        have : eqP (.tuple as) (.tuple ds) = false := by
          rw [eqP]
          cases q : eqPs as ds with
          | false => rfl
          | true => exact absurd (eqPs_length _ _ q) hl
        rw [this] at k
        exact k
    | _ => simpa [isListD, isTupleD, eqP] using k
  | none => cases a <;> simpa [isSeqD, isNoneD, eqP] using k
  | bool b => 
    cases a <;> simp [isSeqD, isNoneD, isBoolD, isStrD, isIntD, eqP] at k ⊢ <;> exact k
  | int b => cases a <;> simp [isSeqD, isNoneD, isBoolD, isStrD, isIntD, eqP] at k ⊢ <;> exact k
  | str b => cases a <;> simp [isSeqD, isNoneD, isBoolD, isStrD, isIntD, eqP] at k ⊢ <;> exact k
  | dict b => simp [PyData.plain] at hd
end Z

/-! _law_same, _law_draw, the law keep their promises -/
namespace Z
open PySem PySem.Spec PyProof.Rows
open L2 (V Hp VK XK Sp Cx HO Vals SqL SqT upd upd_same upd_ne FnOk FnScope Room cxOf Inv HOk)
open C8 (Cal cal0 fn0 Def Fun fnBody fnScope fnArgs CX0)
def cSameN (y : Str) : Cc := { N := ["actual", y, "k"], B := ["isinstance", "list", "tuple", "bool", "str", "int", "len", "all", "range"], M := [], Fs := [("_law_same", 2, false)], nx := false }
section
variable {P : Program} {w : World} {K : PySem.W.Frag} {mg : Str → Option Value} {base : Heap} {st : Stmt} {f : Addr} {fd : FuncData}
theorem same_ok {y : Str} (D : Def K mg "_law_same" st f fd) (bd : L2.Binds K fd ["actual", y] []) (S : FnScope (cSameN y).N ["actual", y] (fnScope st)) (hB : ∀ x ∈ (cSameN y).B, mg x = none) (hb : chkB (cSameN y) (fnScope st) (fun _ => true) sameB (fnBody st) = true) :
    ∀ m, Cal P w K mg base m "_law_same" (spZ ⟨K, P, w⟩ (sameF m) 2) []
  | 0 => cal_none D bd
  | m + 1 => by
    have ih := same_ok D bd S hB hb m
    have md : Md (fun _ => sameF m) (cSameN y) P w K mg base m := ⟨hB, (fun p hp => by cases hp), (fun p hp => by cases hp), (fun i p e => by
      match i, e with
      | 0, e => cases e; exact ih), (fun h => by cases h)⟩
    refine fn_ok md D bd S hb (φ := sameF (m + 1)) fun ds Kq hl h => ?_
    obtain ⟨a, d, rfl, h1, h2, h3, h4, h5⟩ := h
    exact same_read rfl m a d h1 h2 h3 h4 Kq h5
/-- _law_draw -/
def spL (K : PySem.W.Frag) : Sp := fun vs H Q _ => ∃ (a : Addr) (ns : List Int), vs = [.ref a] ∧ SqL K H a (ns.map V.int) ∧ ∀ p c, H c = none → H p = none → p ≠ c → Q (.ref p) (upd (upd H c (.lst (ns.map V.int))) p (.lst [.ref c, .int 0, .int 0, .int 17]))
theorem draw_ok {k : Nat} {p1 p2 p3 p4 p5 p6 p7 p8 : Pos} {j1 j2 j3} (D : Def K mg "_law_draw" st f fd) (bd : L2.Binds K fd ["script"] []) (S : FnScope ["script"] ["script"] (fnScope st)) (hm : mg "list" = none)
    (hbody : fnBody st = [.Return (some (.List [.Call (.Name "list" p1) [.Name "script" p2] [] p3, .Constant (.int 0) j1 p4, .Constant (.int 0) j2 p5, .Constant (.int 17) j3 p6] p7)) p8])
    (hg : (fnScope st).names.lookup ("list" : Str) = some NameKind.globalImplicit) (hv : visC (fnScope st) "script" = true) : Cal P w K mg base (k + 1) "_law_draw" (spL K) [] := by
  refine cal0 D bd .nil S (fun vs H Q E h => by obtain ⟨a, ns, rfl, _⟩ := h; rfl) fun cdv A outer s H vs Q E hr hsp => ?_
  rw [hbody]
  have vis : L2.Vis (fnScope st) "script" := by
    unfold visC at hv
    simp only [Bool.and_eq_true] at hv
    obtain ⟨⟨h1, _⟩, _⟩ := hv
    unfold L2.Vis
    cases q : (fnScope st).names.lookup ("script" : Str) with
    | none => rw [q] at h1; cases h1
    | some k => rw [q] at h1; cases k <;> simp_all
  refine ⟨_, L2.pss_one (L2.ps_ret (L2.pe_lst (L2.pa_cons (L2.pe_callTy L2.call_list_of hg hm rfl (L2.pa_cons (L2.pe_var (i := 0) rfl vis) L2.pa_nil)) (L2.pa_cons L2.pe_int (L2.pa_cons L2.pe_int (L2.pa_cons L2.pe_int L2.pa_nil)))))), ?_⟩
  obtain ⟨a, ns, rfl, hS, q⟩ := hsp
  refine ⟨.ref a, rfl, a, _, rfl, .inl hS, fun c hc => ⟨by show 4 ≤ sizeLine; rw [sizeLine_eq]; omega, fun p hp => ?_⟩⟩
  have ne : p ≠ c := fun e => by rw [e, upd_same] at hp; cases hp
  rw [upd_ne ne] at hp
  exact q p c hc hp ne
/-- the law -/
def spLaw (K : PySem.W.Frag) : Sp := fun vs H Q _ => ∃ (a : Addr) (ns : List Int), vs = [.ref a] ∧ SqL K H a (ns.map V.int) ∧ ns.length ≤ 63 ∧ ∀ H', Q (.bl true) H'
def lawE (N : List Str) : Env := (List.replicate N.length Sl.no).set 1 .dr
theorem law_ok {Φ : Nat → Spc} {c : Cc} {k : Nat} {b : Ss} {rest : List Stmt} {p1 p2 p3 p4 pos : Pos} (m : Md Φ c P w K mg base k) (dr : Cal P w K mg base k "_law_draw" (spL K) []) (F : Fun K "law" "law" st f fd) (S : FnScope c.N ["script"] (fnScope st))
    (hbody : fnBody st = .Assign [.Name "draw" p1] (.Call (.Name "_law_draw" p2) [.Name "script" p3] [] p4) pos :: rest) (hl : locC c (fnScope st) (fun _ => true) 1 "draw" = true) (hn : nameC c (fnScope st) 0 "script" = true) (hg : glC (fnScope st) "_law_draw" = true)
    (hb : chkB c (fnScope st) (fun _ => true) b rest = true) (hread : rdB Φ b (lawE c.N) { nx := fun _ => False, rt := fun _ d _ => d = .bool true }) : FnOk P w K mg base CX0 (k + 1) f fd ["script"] (spLaw K) := by
  refine fn0 F S (fun vs H Q E h => by obtain ⟨a, ns, rfl, _⟩ := h; rfl) fun cdv A outer s H vs Q E hr hsp => ?_
  have o := m.xo S cdv A outer s H E hr
  rw [hbody]
  obtain ⟨l1, l2, l3⟩ := locC_ok o hl
  obtain ⟨n1, n2, n3, n4⟩ := nameC_ok o hn
  obtain ⟨g1, g2⟩ := glC_ok o hg
  refine ⟨_, L2.pss_cons (L2.ps_set (pos' := p1) S.nd l1 l2 (C8.pe_c dr hr (Nat.le_refl _) g1 (L2.pa_cons (L2.pe_var (pos := p3) n1 n2 n3 n4) L2.pa_nil) g2) rfl l3) (chkB_ok o b _ hb), ?_⟩
  obtain ⟨a, ns, rfl, hS, hz, q⟩ := hsp
  have hN : 2 ≤ c.N.length := by
    have h : c.N[1]? = some ("draw" : Str) := l1
    have := (List.getElem?_eq_some_iff.mp h).1
    omega
  have e0 : (L2.start c.N [V.ref a])[0]? = some (some (.ref a)) := by rw [start_get (by simp)]; rfl
  refine ⟨.ref a, e0, a, ns, rfl, hS, fun p cc hc hp ne => ?_⟩
  refine ⟨fun x => x = cc, lawE c.N, _, ?_, hread, fun _ _ _ _ _ _ z => z.elim, fun _ _ _ _ _ _ z => z.elim, fun _ _ _ _ _ _ z => z.elim, fun fr v d σ' F' H' ρ' g s' vr kq => ?_⟩
  · have sl : ∀ {i : Nat} {s : Sl}, (lawE c.N)[i]? = some s → s = .no ∨ (i = 1 ∧ s = .dr) := fun {i s} e => by
      rcases get_set_cases e with ⟨rfl, rfl⟩ | ⟨_, e⟩
      · exact .inr ⟨rfl, rfl⟩
      · exact .inl (List.eq_of_mem_replicate (List.mem_of_getElem? e))
    have hc2 : (upd (upd H cc (.lst (ns.map V.int))) p (.lst [.ref cc, .int 0, .int 0, .int 17])) cc = some (.lst (ns.map V.int)) := by rw [upd_ne (Ne.symm ne), upd_same]
    have hl2 : (L2.start c.N [V.ref a]).length = c.N.length := by unfold L2.start; simp; omega
    refine ⟨by unfold lawE; rw [List.length_set, List.length_set, List.length_replicate, hl2], fun i s e => ?_, fun i j x s s' e1 e2 o1 o2 v1 v2 => ?_, fun x f => ?_⟩
    · rcases sl e with rfl | ⟨rfl, rfl⟩
      · trivial
      · refine ⟨p, drawD ns 0 0 17, ?_, ne, ?_, ns, 0, 0, 17, rfl, hz, by omega, by omega, by omega, by omega⟩
        · rw [List.getElem?_set_self (by rw [hl2]; omega)]
        · exact .lst upd_same (.cons (.lst rfl hc2 (RpAll.ints ns)) (.cons (.int 0) (.cons (.int 0) (.cons (.int 17) .nil))))
    · rcases sl e1 with rfl | ⟨rfl, rfl⟩
      · cases o1
      · rcases sl e2 with rfl | ⟨rfl, rfl⟩
        · cases o2
        · rfl
    · have f : x = cc := f
      subst f
      rw [hc2]; simp
  · have kq : d = .bool true := kq
    subst kq
    have ev : v = .bl true := by
      unfold VrR at vr
      rw [if_neg (by cases fr <;> simp [isMut])] at vr
      cases vr; rfl
    rw [ev]
    exact q H'
end
/-! the module's facts -/
theorem def_mk {K : PySem.W.Frag} {mg : Str → Option Value} {h : Heap} {x : Str} {st : Stmt} {f : Addr} {oc : Value} {od an : Option Addr} {osl : Array (Option Value)} {kV doc pm cdv ct : Value} (X : K.In h) (G : h.Ns mainGlobals mg)
    (a : PySem.W.nsIn K mainGlobals x = some (some (.ref f))) (l : K.lookup f = some ⟨oc, od, .func (PySem.W.fnOf x x (fnArgs st) (fnBody st) (fnScope st) .none kV doc pm an cdv ct), osl⟩) (c : PySem.W.codeIn K cdv x = true) (k : PySem.W.keepIn K (.ref f) = true) :
    Def K mg x st f (PySem.W.fnOf x x (fnArgs st) (fnBody st) (fnScope st) .none kV doc pm an cdv ct) :=
  ⟨⟨oc, od, .none, kV, doc, pm, an, cdv, ct, osl, rfl, l, c⟩, PySem.W.mg_of X G a, k⟩
end Z

/-! the text's defs, one behind the other -/
namespace Z
open PySem PySem.Spec PyProof.Rows
open L2 (V Hp VK XK Sp Cx HO FnOk FnScope Room)
open C8 (Cal Def Fun fnBody fnScope fnArgs CX0)
def Cals (Φ : Nat → Spc) (fs : List (Str × Nat × Bool)) (P : Program) (w : World) (K : PySem.W.Frag) (mg : Str → Option Value) (base : Heap) (k n : Nat) : Prop :=
  ∀ i p, (fs.take n)[i]? = some p → Cal P w K mg base k p.1 (if p.2.2 = true then spD ⟨K, P, w⟩ (Φ i) p.2.1 else spZ ⟨K, P, w⟩ (Φ i) p.2.1) []
section
variable {Φ : Nat → Spc} {fs : List (Str × Nat × Bool)} {P : Program} {w : World} {K : PySem.W.Frag} {mg : Str → Option Value} {base : Heap} {k n : Nat}
theorem Cals.zero : Cals Φ fs P w K mg base k 0 := fun i p e => by simp at e
theorem Cals.step {x : Str} {m : Nat} {dr : Bool} (h : Cals Φ fs P w K mg base k n) (e : fs[n]? = some (x, m, dr)) (c : Cal P w K mg base (k + 1) x (if dr = true then spD ⟨K, P, w⟩ (Φ n) m else spZ ⟨K, P, w⟩ (Φ n) m) []) : Cals Φ fs P w K mg base (k + 1) (n + 1) := fun i p q => by
  by_cases hi : i < n
  · refine cal_mono (h i p ?_) (Nat.le_succ k)
    rw [List.getElem?_take_of_lt hi]
    rw [List.getElem?_take_of_lt (by omega)] at q
    exact q
  · have hl := (List.getElem?_eq_some_iff.mp q).1
    rw [List.length_take] at hl
    have ei : i = n := by omega
    subst ei
    rw [List.getElem?_take_of_lt (by omega), e] at q
    cases q
    exact c
/-- what the written part says of a def -/
structure Fx (K : PySem.W.Frag) (mg : Str → Option Value) (x : Str) (st : Stmt) : Prop where
  ex : ∃ f kV dc pm an cd ct, Def K mg x st f (PySem.W.fnOf x x (fnArgs st) (fnBody st) (fnScope st) .none kV dc pm an cd ct)
theorem fx_mk {h : Heap} {x : Str} {st : Stmt} {f : Addr} {oc : Value} {od an : Option Addr} {osl : Array (Option Value)} {kV dc pm cd ct : Value} (X : K.In h) (G : h.Ns mainGlobals mg)
    (a : PySem.W.nsIn K mainGlobals x = some (some (.ref f))) (l : K.lookup f = some ⟨oc, od, .func (PySem.W.fnOf x x (fnArgs st) (fnBody st) (fnScope st) .none kV dc pm an cd ct), osl⟩) (c : PySem.W.codeIn K cd x = true) (k : PySem.W.keepIn K (.ref f) = true) : Fx K mg x st :=
  ⟨f, kV, dc, pm, an, cd, ct, def_mk X G a l c k⟩
end
end Z

/-! loops read -/
namespace Z
open PySem
theorem forW_inv {g : Tg} {rb : Env → Kt → Prop} {K : Kt} (I : List PyData → Env → Prop)
    (step : ∀ d ds ρ (N : Env → Prop), I (d :: ds) ρ → (∀ ρ2, I ds ρ2 → N ρ2) → asgT g false d ρ fun ρ1 => rb ρ1 { nx := N, rt := K.rt, bk := K.bk, ct := N }) (fin : ∀ ρ, I [] ρ → K.nx ρ) : ∀ ds ρ, I ds ρ → forW g rb K ds ρ
  | [], ρ, h => by rw [forW]; exact fin ρ h
  | d :: ds, ρ, h => by
    rw [forW]
    exact step d ds ρ _ h fun ρ2 h2 => forW_inv I step fin ds ρ2 h2
def optI : Option Int → PyData
  | none => .none
  | some i => .int i
@[simp] theorem ups_len (lo : Int) (n : Nat) : (ups lo n).length = n := by simp [ups]
theorem ups_cons (lo : Int) (n : Nat) : ups lo (n + 1) = .int lo :: ups (lo + 1) n := by
  unfold ups
  rw [List.range_succ_eq_map, List.map_cons, List.map_map]
  congr 1
  · simp
  · refine List.map_congr_left fun i _ => ?_
    simp only [Function.comp]
    congr 1
    push_cast
    omega
/-- the first of lo, lo + 1, .. (n of them) -/
def firstI (P : Int → Bool) : Int → Nat → Option Int
  | _, 0 => none
  | lo, n + 1 => if P lo = true then some lo else firstI P (lo + 1) n
section
variable {Φ : Nat → Spc} {ρ : Env} {Q : QE} {i : Nat} {d : PyData} {a b c : E} {p q : Pr} {es : Es} {g : Tg} {it : I}
theorem rdVar_sh (h : ρ[i]? = some (.sh d)) : rdVar i ρ Q = Q false d ρ := by unfold rdVar; rw [h]
theorem rdVar_ow (h : ρ[i]? = some (.ow d)) : rdVar i ρ Q = Q false d (ρ.set i (.sh d)) := by unfold rdVar; rw [h]
theorem ret_sh (h : ρ[i]? = some (.sh d)) : rdRet Φ (.v i) ρ Q = Q false d ρ := by
  show (must ρ[i]? fun s => match s with | .sh d => Q false d ρ | .ow d => Q true d (ρ.set i .no) | _ => False) = _
  rw [h, must_s]
theorem ret_ow (h : ρ[i]? = some (.ow d)) : rdRet Φ (.v i) ρ Q = Q true d (ρ.set i .no) := by
  show (must ρ[i]? fun s => match s with | .sh d => Q false d ρ | .ow d => Q true d (ρ.set i .no) | _ => False) = _
  rw [h, must_s]
@[simp] theorem ret_k : rdRet Φ (.k d) ρ Q = Q false d ρ := rfl
@[simp] theorem ret_p1 : rdRet Φ (.p1 p a) ρ Q = (rd Φ (.p1 p a)).e ρ Q := rfl
@[simp] theorem ret_p2 : rdRet Φ (.p2 p a b) ρ Q = (rd Φ (.p2 p a b)).e ρ Q := rfl
@[simp] theorem ret_p3 : rdRet Φ (.p3 p a b c) ρ Q = (rd Φ (.p3 p a b c)).e ρ Q := rfl
@[simp] theorem ret_m1 : rdRet Φ (.m1 p a b) ρ Q = (rd Φ (.m1 p a b)).e ρ Q := rfl
@[simp] theorem ret_m2 : rdRet Φ (.m2 p a b c) ρ Q = (rd Φ (.m2 p a b c)).e ρ Q := rfl
@[simp] theorem ret_chain : rdRet Φ (.chain p q a b c) ρ Q = (rd Φ (.chain p q a b c)).e ρ Q := rfl
@[simp] theorem ret_and : rdRet Φ (.and_ a b) ρ Q = (rd Φ (.and_ a b)).e ρ Q := rfl
@[simp] theorem ret_or : rdRet Φ (.or_ a b) ρ Q = (rd Φ (.or_ a b)).e ρ Q := rfl
@[simp] theorem ret_not : rdRet Φ (.not_ a) ρ Q = (rd Φ (.not_ a)).e ρ Q := rfl
@[simp] theorem ret_ite : rdRet Φ (.ite a b c) ρ Q = (rd Φ (.ite a b c)).e ρ Q := rfl
@[simp] theorem ret_tup : rdRet Φ (.tup es) ρ Q = (rd Φ (.tup es)).e ρ Q := rfl
@[simp] theorem ret_lst : rdRet Φ (.lst es) ρ Q = (rd Φ (.lst es)).e ρ Q := rfl
@[simp] theorem ret_dct : rdRet Φ (.dct es) ρ Q = (rd Φ (.dct es)).e ρ Q := rfl
@[simp] theorem ret_call : rdRet Φ (.call i es) ρ Q = (rd Φ (.call i es)).e ρ Q := rfl
@[simp] theorem ret_calld {j : Nat} : rdRet Φ (.calld j i es) ρ Q = (rd Φ (.calld j i es)).e ρ Q := rfl
@[simp] theorem ret_nxt : rdRet Φ (.nxt i a) ρ Q = (rd Φ (.nxt i a)).e ρ Q := rfl
@[simp] theorem ret_lc {ifs vs} : rdRet Φ (.lc g it ifs vs a) ρ Q = (rd Φ (.lc g it ifs vs a)).e ρ Q := rfl
@[simp] theorem ret_dc {ifs vs} : rdRet Φ (.dc g it ifs vs a b) ρ Q = (rd Φ (.dc g it ifs vs a b)).e ρ Q := rfl
end
theorem plain_ints : ∀ ns : List Int, PyData.plainAll (ns.map .int) = true
  | [] => rfl
  | n :: r => by rw [List.map_cons, PyData.plainAll, plain_ints r]; rfl
theorem depth_ints : ∀ ns : List Int, PyData.depthAll (ns.map .int) ≤ 1
  | [] => by simp [PyData.depthAll]
  | n :: r => by
    have := depth_ints r
    simp only [List.map_cons, PyData.depthAll, PyData.depth]
    omega
theorem kind_ints (ns : List Int) : kindOk (ns.map .int) = true := by
  unfold kindOk
  rw [plain_ints, Bool.true_and, Bool.and_eq_true, decide_eq_true_eq]
  refine ⟨?_, Nat.le_trans (depth_ints ns) (by decide)⟩
  unfold sameKind
  rw [Bool.and_eq_true, List.all_eq_true, List.all_eq_true]
  refine ⟨fun x hx => ?_, fun x hx => ?_⟩
  · obtain ⟨i, _, rfl⟩ := List.mem_map.mp hx
    rw [List.all_eq_true]
    intro y hy
    obtain ⟨j, _, rfl⟩ := List.mem_map.mp hy
    rfl
  · obtain ⟨i, _, rfl⟩ := List.mem_map.mp hx
    rfl
def maxL : List Int → Int
  | [] => 0
  | n :: r => r.foldl max n
def minL : List Int → Int
  | [] => 0
  | n :: r => r.foldl min n
theorem max1_ints {ns : List Int} (h : ns ≠ []) : max1D (.list (ns.map .int)) = some (.int (maxL ns)) := by
  cases ns with
  | nil => exact absurd rfl h
  | cons n r =>
    show (if kindOk ((n :: r).map .int) then maxOf ((n :: r).map .int) else none) = _
    rw [kind_ints, if_pos rfl]
    show some (PySem.W.maxD (.int n) (r.map .int)) = _
    rw [PySem.W.maxD_ints]; rfl
theorem max1_intsT {ns : List Int} (h : ns ≠ []) : max1D (.tuple (ns.map .int)) = some (.int (maxL ns)) := max1_ints h
theorem min1_ints {ns : List Int} (h : ns ≠ []) : min1D (.list (ns.map .int)) = some (.int (minL ns)) := by
  cases ns with
  | nil => exact absurd rfl h
  | cons n r =>
    show (if kindOk ((n :: r).map .int) then minOf ((n :: r).map .int) else none) = _
    rw [kind_ints, if_pos rfl]
    show some (PySem.W.minD (.int n) (r.map .int)) = _
    rw [PySem.W.minD_ints]; rfl
theorem foldl_max_mem : ∀ (r : List Int) (n : Int), r.foldl max n ∈ n :: r
  | [], n => List.mem_cons_self
  | x :: r, n => by
    have := foldl_max_mem r (max n x)
    rw [List.foldl_cons]
    rcases List.mem_cons.mp this with e | m
    · rw [e]
      rcases Int.le_total n x with h | h
      · rw [Int.max_eq_right h]; simp
      · rw [Int.max_eq_left h]; simp
    · simp [m]
theorem foldl_max_le : ∀ (r : List Int) (n : Int), (n ≤ r.foldl max n) ∧ ∀ x ∈ r, x ≤ r.foldl max n
  | [], n => ⟨Int.le_refl _, by simp⟩
  | x :: r, n => by
    obtain ⟨h1, h2⟩ := foldl_max_le r (max n x)
    rw [List.foldl_cons]
    refine ⟨Int.le_trans (Int.le_max_left _ _) h1, fun y hy => ?_⟩
    rcases List.mem_cons.mp hy with rfl | hy
    · exact Int.le_trans (Int.le_max_right _ _) h1
    · exact h2 y hy
theorem maxL_mem {ns : List Int} (h : ns ≠ []) : maxL ns ∈ ns := by
  cases ns with
  | nil => exact absurd rfl h
  | cons n r => exact foldl_max_mem r n
theorem le_maxL {ns : List Int} {x : Int} (h : x ∈ ns) : x ≤ maxL ns := by
  cases ns with
  | nil => cases h
  | cons n r =>
    obtain ⟨h1, h2⟩ := foldl_max_le r n
    rcases List.mem_cons.mp h with rfl | h
    · exact h1
    · exact h2 x h
theorem zipIdx_range {α : Type} (n : Nat) (F : Nat → α) : ((List.range n).map F).zipIdx = (List.range n).map fun i => (F i, i) := by
  refine List.ext_getElem (by simp) fun i h1 h2 => ?_
  simp
theorem enumD_range (n : Nat) (F : Nat → PyData) : enumD ((List.range n).map F) = (List.range n).map fun (i : Nat) => .tuple [.int (i : Nat), F i] := by
  unfold enumD
  rw [zipIdx_range, List.map_map]
  rfl
/-- the first of lo, lo + c, .. (n of them) -/
def firstS (P : Int → Bool) (c : Int) : Int → Nat → Option Int
  | _, 0 => none
  | lo, n + 1 => if P lo = true then some lo else firstS P c (lo + c) n
theorem steps_cons (lo c : Int) (n : Nat) : steps lo c (n + 1) = .int lo :: steps (lo + c) c n := by
  unfold steps
  rw [List.range_succ_eq_map, List.map_cons, List.map_map]
  congr 1
  · simp
  · refine List.map_congr_left fun i _ => ?_
    simp only [Function.comp]
    congr 1
    push_cast
    rw [Int.add_mul]
    omega
theorem at_range {n : Nat} (F : Nat → PyData) {i : Int} (h0 : 0 ≤ i) (h1 : i < n) : atD ((List.range n).map F) i = some (F i.toNat) := by
  obtain ⟨x, hx, hx2⟩ := at_lt (l := (List.range n).map F) (m := i) h0 (by simpa using h1)
  rw [hx2]
  rw [List.getElem?_map, List.getElem?_range (by omega)] at hx
  exact hx.symm
theorem eqv_ints : ∀ (a b : List Int), PyData.eqvAll (a.map .int) (b.map .int) = decide (a = b)
  | [], [] => rfl
  | [], b :: bs => by rw [List.map_cons, List.map_nil]; rfl
  | a :: as, [] => by rw [List.map_cons, List.map_nil]; rfl
  | a :: as, b :: bs => by
    rw [List.map_cons, List.map_cons]
    show (PyData.eqv (.int a) (.int b) && PyData.eqvAll (as.map .int) (bs.map .int)) = _
    rw [eqv_ints as bs]
    have : PyData.eqv (.int a) (.int b) = decide (a = b) := by
      have := @eq_ii a b
      unfold eqD at this
      rw [if_pos (by rfl)] at this
      simpa using this
    rw [this]
    by_cases h1 : a = b <;> by_cases h2 : as = bs <;> simp [h1, h2]
theorem eq_listI (a b : List Int) : eqD (.list (a.map .int)) (.list (b.map .int)) = some (.bool (decide (a = b))) := by
  unfold eqD
  have ok : eqOk (.list (a.map .int)) (.list (b.map .int)) = true := by
    unfold eqOk
    have h1 := plain_ints a
    have h2 := plain_ints b
    have h3 := depth_ints a
    have h4 : (PyData.list (a.map .int)).depth ≤ 64 := by
      simp only [PyData.depth]
      omega
    rw [Bool.and_eq_true, Bool.and_eq_true, decide_eq_true_eq]
    exact ⟨⟨by rw [PyData.plain]; exact h1, by rw [PyData.plain]; exact h2⟩, Nat.le_trans (Nat.min_le_left _ _) h4⟩
  rw [if_pos ok]
  congr 2
  exact eqv_ints a b
end Z

namespace Z
open PySem
theorem keyEq_ii {a b : Int} : keyEq (.int a) (.int b) = decide (a = b) := by
  unfold keyEq; simp only [PyData.eqv]
  by_cases e : a = b
  · subst e; simp
  · rw [decide_eq_false e]; exact beq_eq_false_iff_ne.2 e
theorem keyEq_tt {a b c d : Int} : keyEq (.tuple [.int a, .int b]) (.tuple [.int c, .int d]) = (decide (a = c) && decide (b = d)) := by
  have e1 := @keyEq_ii a c
  have e2 := @keyEq_ii b d
  unfold keyEq at e1 e2 ⊢
  simp only [PyData.eqv, PyData.eqvAll] at e1 e2 ⊢
  rw [e1, e2]
  simp
theorem putD_fresh {es : List (PyData × PyData)} {k v : PyData} (h : ∀ q ∈ es, keyEq q.1 k = false) : putD es k v = es ++ [(k, v)] := by
  unfold putD
  rw [if_neg]
  intro e
  obtain ⟨q, hq, hk⟩ := List.any_eq_true.1 e
  rw [h q hq] at hk
  exact Bool.noConfusion hk
theorem lookD_map {α : Type} {kf vf : α → PyData} {x : α} (rf : keyEq (kf x) (kf x) = true) :
    ∀ {xs : List α}, x ∈ xs → (∀ y ∈ xs, keyEq (kf y) (kf x) = true → vf y = vf x) → lookD (xs.map fun y => (kf y, vf y)) (kf x) = some (vf x)
  | [], hx, _ => nomatch hx
  | y :: xs, hx, inj => by
      unfold lookD
      rw [List.map_cons, List.find?_cons]
      cases e : keyEq (kf y) (kf x) with
      | true => simp [inj y (List.mem_cons_self ..) e]
      | false =>
          have hx' : x ∈ xs := by
            cases hx with
            | head => rw [rf] at e; exact Bool.noConfusion e
            | tail _ h => exact h
          exact lookD_map rf hx' fun z hz => inj z (List.mem_cons_of_mem _ hz)
/-- a dict of integer keys -/
def intDt (f : Int → Int) (xs : List Int) : List (PyData × PyData) := xs.map fun y => (PyData.int y, PyData.int (f y))
/-- a dict of pairs of integers -/
def pairD (f : Int → Int → Int) (xs : List (Int × Int)) : List (PyData × PyData) := xs.map fun y => (PyData.tuple [.int y.1, .int y.2], PyData.int (f y.1 y.2))
theorem lookD_intDt {f : Int → Int} {xs : List Int} {x : Int} (h : x ∈ xs) : lookD (intDt f xs) (.int x) = some (.int (f x)) :=
  lookD_map (kf := PyData.int) (vf := fun y => .int (f y)) (by rw [keyEq_ii]; simp) h fun y _ e => by rw [keyEq_ii] at e; rw [of_decide_eq_true e]
theorem lookD_pairD {f : Int → Int → Int} {xs : List (Int × Int)} {x y : Int} (h : (x, y) ∈ xs) : lookD (pairD f xs) (.tuple [.int x, .int y]) = some (.int (f x y)) :=
  lookD_map (kf := fun q : Int × Int => PyData.tuple [.int q.1, .int q.2]) (vf := fun q => .int (f q.1 q.2)) (x := (x, y)) (by rw [keyEq_tt]; simp) h fun q _ e => by
    rw [keyEq_tt] at e
    simp at e
    rw [e.1, e.2]
theorem putD_intDt {f : Int → Int} {xs : List Int} {x : Int} (h : x ∉ xs) : putD (intDt f xs) (.int x) (.int (f x)) = intDt f (xs ++ [x]) := by
  rw [putD_fresh]
  · simp [intDt]
  · intro q hq
    obtain ⟨y, hy, rfl⟩ := List.mem_map.1 hq
    rw [keyEq_ii]
    exact decide_eq_false fun e => h (e ▸ hy)
theorem putD_pairD {f : Int → Int → Int} {xs : List (Int × Int)} {x y : Int} (h : (x, y) ∉ xs) : putD (pairD f xs) (.tuple [.int x, .int y]) (.int (f x y)) = pairD f (xs ++ [(x, y)]) := by
  rw [putD_fresh]
  · simp [pairD]
  · intro q hq
    obtain ⟨z, hz, rfl⟩ := List.mem_map.1 hq
    rw [keyEq_tt]
    cases e : (decide (z.1 = x) && decide (z.2 = y)) with
    | false => rfl
    | true =>
        simp at e
        exact absurd (show (x, y) ∈ xs from by rw [← e.1, ← e.2]; exact hz) h
theorem intDt_length {f : Int → Int} {xs : List Int} : (intDt f xs).length = xs.length := by simp [intDt]
theorem pairD_length {f : Int → Int → Int} {xs : List (Int × Int)} : (pairD f xs).length = xs.length := by simp [pairD]
end Z

namespace Z
open PySem
theorem firstI_none {P : Int → Bool} : ∀ {n : Nat} {lo : Int}, (∀ i : Nat, i < n → P (lo + i) = false) → firstI P lo n = none
  | 0, _, _ => rfl
  | n + 1, lo, h => by
      rw [firstI]
      have h0 := h 0 (by omega)
      simp at h0
      rw [if_neg (by rw [h0]; simp)]
      exact firstI_none fun i hi => by
        have := h (i + 1) (by omega)
        rw [show lo + 1 + (i : Int) = lo + ((i + 1 : Nat) : Int) by omega]; exact this
theorem firstI_isNone {P : Int → Bool} : ∀ {n : Nat} {lo : Int}, firstI P lo n = none → ∀ i : Nat, i < n → P (lo + i) = false
  | 0, _, _, i, hi => by omega
  | n + 1, lo, h, i, hi => by
      rw [firstI] at h
      by_cases c : P lo = true
      · rw [if_pos c] at h; cases h
      · rw [if_neg c] at h
        cases i with
        | zero => simpa using c
        | succ i =>
            have := firstI_isNone h i (by omega)
            rw [show lo + ((i + 1 : Nat) : Int) = lo + 1 + (i : Int) by omega]; exact this
theorem firstI_add {P : Int → Bool} (k : Nat) : ∀ {n : Nat} {lo : Int}, firstI P lo (n + k) = (firstI P lo n).or (firstI P (lo + n) k)
  | 0, lo => by simp [firstI]
  | n + 1, lo => by
      rw [show n + 1 + k = (n + k) + 1 by omega, firstI, firstI]
      by_cases c : P lo = true
      · rw [if_pos c, if_pos c]; rfl
      · rw [if_neg c, if_neg c, firstI_add k, show lo + ((n + 1 : Nat) : Int) = lo + 1 + (n : Int) by omega]
theorem period_mul {P : Int → Bool} {N : Nat} {lo : Int} (h : ∀ t, lo ≤ t → P (t + N) = P t) : ∀ (k : Nat) (t : Int), lo ≤ t → P (t + (k * N : Nat)) = P t
  | 0, t, _ => by simp
  | k + 1, t, ht => by
      rw [show ((k + 1) * N : Nat) = k * N + N from Nat.succ_mul k N]
      rw [show t + ((k * N + N : Nat) : Int) = (t + (k * N : Nat)) + N by omega, h _ (by omega)]
      exact period_mul h k t ht
theorem firstI_period {P : Int → Bool} {N M : Nat} {lo : Int} (h : ∀ t, lo ≤ t → P (t + N) = P t) (h1 : 1 ≤ N) (hm : N ≤ M) : firstI P lo M = firstI P lo N := by
  obtain ⟨k, rfl⟩ := Nat.exists_eq_add_of_le hm
  rw [firstI_add]
  cases e : firstI P lo N with
  | some x => rfl
  | none =>
      have hz := firstI_isNone e
      rw [firstI_none (n := k)]
      · rfl
      · intro i hi
        have q := period_mul h ((N + i) / N) (lo + ((N + i) % N : Nat)) (by omega)
        have dm : (N + i) / N * N + (N + i) % N = N + i := by rw [Nat.mul_comm]; exact Nat.div_add_mod _ _
        have ml : (N + i) % N < N := Nat.mod_lt _ (by omega)
        rw [hz _ ml] at q
        rw [show lo + (N : Int) + i = lo + (((N + i) % N : Nat) : Int) + (((N + i) / N * N : Nat) : Int) by omega]
        exact q
/-- the integers from lo on -/
def upI (lo : Int) (n : Nat) : List Int := (List.range n).map fun (i : Nat) => lo + i
theorem upI_succ (lo : Int) (n : Nat) : upI lo (n + 1) = lo :: upI (lo + 1) n := by
  unfold upI
  rw [List.range_succ_eq_map, List.map_cons, List.map_map]
  congr 1
  · simp
  · apply List.map_congr_left; intro i _; simp; omega
theorem ups_upI (lo : Int) (n : Nat) : ups lo n = (upI lo n).map PyData.int := by
  unfold ups upI; rw [List.map_map]; rfl
theorem firstI_filter {P : Int → Bool} : ∀ {n : Nat} {lo : Int}, ((upI lo n).filter P).head? = firstI P lo n
  | 0, _ => rfl
  | n + 1, lo => by
      rw [upI_succ, List.filter_cons, firstI]
      by_cases c : P lo = true
      · rw [if_pos c, if_pos c]; rfl
      · rw [if_neg c, if_neg c]; exact firstI_filter
theorem firstS_step {P : Int → Bool} {c : Int} : ∀ {n : Nat} {lo : Int} {i : Nat}, i < n → P (lo + i * c) = true → (∀ j : Nat, j < i → P (lo + j * c) = false) → firstS P c lo n = some (lo + i * c)
  | 0, _, i, hi, _, _ => by omega
  | n + 1, lo, 0, _, h, _ => by
      rw [firstS]
      simp at h
      rw [if_pos h]; simp
  | n + 1, lo, i + 1, hi, h, hn => by
      rw [firstS]
      have h0 := hn 0 (by omega)
      simp at h0
      rw [if_neg (by rw [h0]; simp)]
      have sh : ∀ j : Nat, lo + c + (j : Int) * c = lo + ((j + 1 : Nat) : Int) * c := fun j => by
        rw [Int.natCast_succ, Int.add_mul]; omega
      rw [← sh]
      refine firstS_step (by omega) (by rw [sh]; exact h) fun j hj => ?_
      rw [sh]; exact hn (j + 1) (by omega)
end Z

namespace Z
open PySem
/-- a comprehension by an invariant on the rest and the gathered -/
theorem compW_inv {g : Tg} {tt : Env → (Bool → Env → Prop) → Prop} {te : Env → (PyData → Env → Prop) → Prop} {vs : List Nat} (Iv : List PyData → List PyData → Prop) {ρ : Env} {Q : List PyData → Env → Prop}
    (step : ∀ d ds acc (R : Bool → PyData → Env → Prop), Iv (d :: ds) acc → (∀ x, Iv ds (acc ++ [x]) → R true x ρ) → (Iv ds acc → R false .none ρ) →
      asgT g false d ρ fun ρ1 => tt ρ1 fun b ρ2 => if b = true then te ρ2 fun x ρ3 => R true x (wipeE ρ3 vs) else R false .none (wipeE ρ2 vs))
    (fin : ∀ acc, Iv [] acc → Q acc ρ) : ∀ (ds acc : List PyData), Iv ds acc → compW g tt te vs ds acc ρ Q
  | [], acc, h => by rw [compW]; exact fin acc h
  | d :: ds, acc, h => by
      rw [compW]
      exact step d ds acc (fun b x ρ' => if b = true then compW g tt te vs ds (acc ++ [x]) ρ' Q else compW g tt te vs ds acc ρ' Q) h
        (fun x hx => by rw [if_pos rfl]; exact compW_inv Iv step fin ds _ hx)
        (fun hx => by rw [if_neg Bool.false_ne_true]; exact compW_inv Iv step fin ds _ hx)
end Z

namespace Z
open PySem
theorem keyFit_intDt {f : Int → Int} {xs : List Int} {x : Int} : keyFit (intDt f xs) (.int x) = true := by
  unfold keyFit
  rw [Bool.and_eq_true, List.all_eq_true]
  refine ⟨rfl, fun q hq => ?_⟩
  obtain ⟨y, _, rfl⟩ := List.mem_map.1 hq
  rfl
theorem keyFit_pairD {f : Int → Int → Int} {xs : List (Int × Int)} {x y : Int} : keyFit (pairD f xs) (.tuple [.int x, .int y]) = true := by
  unfold keyFit
  rw [Bool.and_eq_true, List.all_eq_true]
  refine ⟨by simp [isKey, nkOf]; rfl, fun q hq => ?_⟩
  obtain ⟨y, _, rfl⟩ := List.mem_map.1 hq
  rfl
end Z

namespace Z
open PySem
/-- a comprehension over mapped things, whose turns leave the names as they are -/
theorem compW_on' {α : Type} {g : Tg} {tt : Env → (Bool → Env → Prop) → Prop} {te : Env → (PyData → Env → Prop) → Prop} {vs : List Nat} (e : α → PyData) (p : α → Bool) (f : α → PyData) (ρ : Env) (Q : List PyData → Env → Prop) : ∀ (xs : List α) (acc : List PyData),
    (∀ x ∈ xs, ∀ R : Bool → PyData → Env → Prop, (if p x = true then R true (f x) ρ else R false .none ρ) → asgT g false (e x) ρ fun ρ1 => tt ρ1 fun b ρ2 => if b = true then te ρ2 fun y ρ3 => R true y (wipeE ρ3 vs) else R false .none (wipeE ρ2 vs)) →
    Q (acc ++ (xs.filter p).map f) ρ → compW g tt te vs (xs.map e) acc ρ Q
  | [], acc, h, q => by simpa [compW] using q
  | x :: xs, acc, h, q => by
    rw [List.map_cons, compW]
    have := h x (.head _) (fun b y ρ' => if b = true then compW g tt te vs (xs.map e) (acc ++ [y]) ρ' Q else compW g tt te vs (xs.map e) acc ρ' Q) ?_
    · simpa using this
    · by_cases c : p x = true
      · rw [if_pos c, if_pos rfl]
        exact compW_on' e p f ρ Q xs _ (fun y hy => h y (.tail _ hy)) (by simpa [List.filter_cons, c] using q)
      · rw [if_neg c, if_neg (by decide)]
        exact compW_on' e p f ρ Q xs _ (fun y hy => h y (.tail _ hy)) (by simpa [List.filter_cons, c] using q)
theorem compW_on {α : Type} {g : Tg} {tt : Env → (Bool → Env → Prop) → Prop} {te : Env → (PyData → Env → Prop) → Prop} {vs : List Nat} (e : α → PyData) (p : α → Bool) (f : α → PyData) {ρ : Env} {Q : List PyData → Env → Prop} {xs : List α}
    (h : ∀ x ∈ xs, ∀ R : Bool → PyData → Env → Prop, (if p x = true then R true (f x) ρ else R false .none ρ) → asgT g false (e x) ρ fun ρ1 => tt ρ1 fun b ρ2 => if b = true then te ρ2 fun y ρ3 => R true y (wipeE ρ3 vs) else R false .none (wipeE ρ2 vs))
    (q : Q ((xs.filter p).map f) ρ) : compW g tt te vs (xs.map e) [] ρ Q := compW_on' e p f ρ Q xs [] h (by simpa using q)
theorem compW_onA {α : Type} {g : Tg} {tt : Env → (Bool → Env → Prop) → Prop} {te : Env → (PyData → Env → Prop) → Prop} {vs : List Nat} (e : α → PyData) (f : α → PyData) {ρ : Env} {Q : List PyData → Env → Prop} {xs : List α}
    (h : ∀ x ∈ xs, ∀ R : Bool → PyData → Env → Prop, R true (f x) ρ → asgT g false (e x) ρ fun ρ1 => tt ρ1 fun b ρ2 => if b = true then te ρ2 fun y ρ3 => R true y (wipeE ρ3 vs) else R false .none (wipeE ρ2 vs))
    (q : Q (xs.map f) ρ) : compW g tt te vs (xs.map e) [] ρ Q :=
  compW_on e (fun _ => true) f (fun x hx R r => h x hx R (by simpa using r)) (by rw [List.filter_eq_self.mpr (fun _ _ => rfl)]; exact q)
theorem compW_ups {g : Tg} {tt : Env → (Bool → Env → Prop) → Prop} {te : Env → (PyData → Env → Prop) → Prop} {vs : List Nat} (p : Int → Bool) (f : Int → PyData) {ρ : Env} {Q : List PyData → Env → Prop} {lo : Int} {n : Nat}
    (h : ∀ t : Int, lo ≤ t → t < lo + n → ∀ R : Bool → PyData → Env → Prop, (if p t = true then R true (f t) ρ else R false .none ρ) → asgT g false (.int t) ρ fun ρ1 => tt ρ1 fun b ρ2 => if b = true then te ρ2 fun y ρ3 => R true y (wipeE ρ3 vs) else R false .none (wipeE ρ2 vs))
    (q : Q (((upI lo n).filter p).map f) ρ) : compW g tt te vs (ups lo n) [] ρ Q := by
  rw [ups_upI]
  refine compW_on PyData.int p f (fun t ht => ?_) q
  obtain ⟨i, hi, rfl⟩ := List.mem_map.1 ht
  have := List.mem_range.1 hi
  exact h _ (by omega) (by omega)
theorem compW_upsA {g : Tg} {tt : Env → (Bool → Env → Prop) → Prop} {te : Env → (PyData → Env → Prop) → Prop} {vs : List Nat} (f : Int → PyData) {ρ : Env} {Q : List PyData → Env → Prop} {lo : Int} {n : Nat}
    (h : ∀ t : Int, lo ≤ t → t < lo + n → ∀ R : Bool → PyData → Env → Prop, R true (f t) ρ → asgT g false (.int t) ρ fun ρ1 => tt ρ1 fun b ρ2 => if b = true then te ρ2 fun y ρ3 => R true y (wipeE ρ3 vs) else R false .none (wipeE ρ2 vs))
    (q : Q ((upI lo n).map f) ρ) : compW g tt te vs (ups lo n) [] ρ Q :=
  compW_ups (fun _ => true) f (fun t h0 h1 R r => h t h0 h1 R (by simpa using r)) (by rw [List.filter_eq_self.mpr (fun _ _ => rfl)]; exact q)
/-- a loop over mapped things, by an invariant on the rest and the names -/
theorem forW_list {α : Type} {g : Tg} {rb : Env → Kt → Prop} {K : Kt} (e : α → PyData) (I : List α → Env → Prop)
    (step : ∀ x xs ρ (N : Env → Prop), I (x :: xs) ρ → (∀ ρ', I xs ρ' → N ρ') → asgT g false (e x) ρ fun ρ1 => rb ρ1 { nx := N, rt := K.rt, bk := K.bk, ct := N })
    (fin : ∀ ρ, I [] ρ → K.nx ρ) : ∀ (xs : List α) (ρ : Env), I xs ρ → forW g rb K (xs.map e) ρ
  | [], ρ, h => by rw [List.map_nil, forW]; exact fin ρ h
  | x :: xs, ρ, h => by rw [List.map_cons, forW]; exact step x xs ρ _ h fun ρ' h' => forW_list e I step fin xs ρ' h'
/-- a loop over range(lo, lo + n), by an invariant on the number of turns -/
theorem forW_ups {g : Tg} {rb : Env → Kt → Prop} {K : Kt} {lo : Int} {n : Nat} (I : Nat → Env → Prop)
    (step : ∀ (i : Nat) ρ (N : Env → Prop), i < n → I i ρ → (∀ ρ', I (i + 1) ρ' → N ρ') → asgT g false (.int (lo + i)) ρ fun ρ1 => rb ρ1 { nx := N, rt := K.rt, bk := K.bk, ct := N })
    (fin : ∀ ρ, I n ρ → K.nx ρ) {ρ : Env} (h : I 0 ρ) : forW g rb K (ups lo n) ρ := by
  refine forW_list (fun i : Nat => PyData.int (lo + i)) (fun r ρ => ∃ i, i ≤ n ∧ r = (List.range' i (n - i)) ∧ I i ρ) ?_ ?_ (List.range n) ρ ⟨0, by omega, by simp [List.range_eq_range'], h⟩
  · rintro x xs ρ N ⟨i, hi, e, h⟩ hN
    obtain ⟨m, hm⟩ : ∃ m, n - i = m + 1 := by
      cases e' : n - i with
      | zero => rw [e'] at e; cases e
      | succ m => exact ⟨m, rfl⟩
    rw [hm, List.range'_succ] at e
    obtain ⟨e1, e2⟩ := List.cons.inj e
    rw [e1]
    refine step i ρ N (by omega) h fun ρ' h' => hN ρ' ⟨i + 1, by omega, ?_, h'⟩
    rw [e2, show n - (i + 1) = m by omega]
  · rintro ρ ⟨i, hi, e, h⟩
    have : n - i = 0 := by have := congrArg List.length e; simpa using this.symm
    rw [show i = n by omega] at h
    exact fin ρ h
theorem forW_ups0 {g : Tg} {rb : Env → Kt → Prop} {K : Kt} {n : Nat} (I : Nat → Env → Prop)
    (step : ∀ (i : Nat) ρ (N : Env → Prop), i < n → I i ρ → (∀ ρ', I (i + 1) ρ' → N ρ') → asgT g false (.int i) ρ fun ρ1 => rb ρ1 { nx := N, rt := K.rt, bk := K.bk, ct := N })
    (fin : ∀ ρ, I n ρ → K.nx ρ) {ρ : Env} (h : I 0 ρ) : forW g rb K (ups 0 n) ρ :=
  forW_ups I (fun i ρ N hi h hN => by rw [Int.zero_add]; exact step i ρ N hi h hN) fin h
/-- a loop that turns a state -/
theorem forW_fold {α σ : Type} {g : Tg} {rb : Env → Kt → Prop} {K : Kt} (e : α → PyData) (env : σ → Env) (f : σ → α → σ) (J : σ → Prop) (xs : List α) (s : σ) (ρ : Env) (hρ : ρ = env s) (hJ : J s) (keep : ∀ s x, x ∈ xs → J s → J (f s x))
    (step : ∀ s x (N : Env → Prop), x ∈ xs → J s → N (env (f s x)) → asgT g false (e x) (env s) fun ρ1 => rb ρ1 { nx := N, rt := K.rt, bk := K.bk, ct := N })
    (fin : J (xs.foldl f s) → K.nx (env (xs.foldl f s))) : forW g rb K (xs.map e) ρ := by
  refine forW_list e (fun r ρ => (∀ x ∈ r, x ∈ xs) ∧ ∃ s', J s' ∧ ρ = env s' ∧ r.foldl f s' = xs.foldl f s) ?_ ?_ xs ρ ⟨fun _ h => h, s, hJ, hρ, rfl⟩
  · rintro x r ρ N ⟨hr, s', j, rfl, q⟩ hN
    exact step s' x N (hr x (.head _)) j (hN _ ⟨fun y hy => hr y (.tail _ hy), f s' x, keep s' x (hr x (.head _)) j, rfl, q⟩)
  · rintro ρ ⟨_, s', j, rfl, q⟩
    simp only [List.foldl_nil] at q
    subst q
    exact fin j
/-! the same datum, on both sides -/
def okM (m : Nat) (d : PyData) : Prop := d.plain = true ∧ d.depth ≤ m ∧ smallD d = true
theorem okM.mono {m n : Nat} {d : PyData} (h : okM m d) (l : m ≤ n) : okM n d := ⟨h.1, Nat.le_trans h.2.1 l, h.2.2⟩
theorem okM_i {n : Int} : okM 0 (.int n) := ⟨rfl, by simp [PyData.depth], rfl⟩
theorem okM_n : okM 0 .none := ⟨rfl, by simp [PyData.depth], rfl⟩
theorem okM_b {b : Bool} : okM 0 (.bool b) := ⟨rfl, by simp [PyData.depth], rfl⟩
theorem okM_all {m : Nat} : ∀ {ds : List PyData}, (∀ d ∈ ds, okM m d) → PyData.plainAll ds = true ∧ PyData.depthAll ds ≤ m ∧ smallDs ds = true
  | [], _ => ⟨rfl, by simp [PyData.depthAll], rfl⟩
  | d :: ds, h => by
    obtain ⟨a, b, c⟩ := okM_all (fun x hx => h x (.tail _ hx))
    obtain ⟨a', b', c'⟩ := h d (.head _)
    simp only [PyData.plainAll, PyData.depthAll, smallDs, a, a', c, c', Bool.and_true]
    exact ⟨trivial, by omega, trivial⟩
theorem okM_t {m : Nat} {ds : List PyData} (h : ∀ d ∈ ds, okM m d) (l : ds.length ≤ big) : okM (m + 1) (.tuple ds) := by
  obtain ⟨a, b, c⟩ := okM_all h
  refine ⟨by simp only [PyData.plain, a], by simp only [PyData.depth]; omega, by simp [smallD, c, l]⟩
theorem okM_l {m : Nat} {ds : List PyData} (h : ∀ d ∈ ds, okM m d) (l : ds.length ≤ big) : okM (m + 1) (.list ds) := by
  obtain ⟨a, b, c⟩ := okM_all h
  refine ⟨by simp only [PyData.plain, a], by simp only [PyData.depth]; omega, by simp [smallD, c, l]⟩
theorem okM_o {o : Option Int} : okM 0 (optI o) := by cases o; exact okM_n; exact okM_i
theorem okM_ints {ns : List Int} (l : ns.length ≤ big) : okM 1 (.tuple (ns.map .int)) :=
  okM_t (fun d hd => by obtain ⟨n, _, rfl⟩ := List.mem_map.1 hd; exact okM_i) (by simpa using l)
theorem okM_intsL {ns : List Int} (l : ns.length ≤ big) : okM 1 (.list (ns.map .int)) :=
  okM_l (fun d hd => by obtain ⟨n, _, rfl⟩ := List.mem_map.1 hd; exact okM_i) (by simpa using l)
theorem same_self {m k : Nat} {d : PyData} {K : Bool → PyData → Prop} (h : okM k d) (l : k ≤ m) (q : K false (.bool true)) : sameS m [d, d] K :=
  ⟨d, d, rfl, h.1, h.1, Nat.le_trans h.2.1 l, h.2.2, by rwa [(eqP_iff d d h.1 h.1).2 rfl]⟩
theorem upI_length {lo : Int} {n : Nat} : (upI lo n).length = n := by simp [upI]
theorem mem_upI {x lo : Int} {n : Nat} : x ∈ upI lo n ↔ lo ≤ x ∧ x < lo + n := by
  unfold upI
  rw [List.mem_map]
  constructor
  · rintro ⟨i, hi, rfl⟩
    have := List.mem_range.1 hi
    omega
  · intro h
    exact ⟨(x - lo).toNat, List.mem_range.2 (by omega), by omega⟩
/-- x[0] if x else None, for x the found numbers -/
theorem at_filter0 {P : Int → Bool} {lo : Int} {n : Nat} {t : Int} (h : firstI P lo n = some t) : atD (((upI lo n).filter P).map PyData.int) 0 = some (.int t) := by
  rw [← firstI_filter] at h
  cases e : (upI lo n).filter P with
  | nil => rw [e] at h; cases h
  | cons a r => rw [e] at h; cases h; exact at_nat (k := 0) (by rfl)
theorem filter_none {P : Int → Bool} {lo : Int} {n : Nat} (h : firstI P lo n = none) : (upI lo n).filter P = [] := by
  rw [← firstI_filter] at h
  cases e : (upI lo n).filter P with
  | nil => rfl
  | cons a r => rw [e] at h; cases h
end Z

namespace Z
open PySem
/-- a search loop over mapped things -/
theorem forW_find {α : Type} {g : Tg} {rb : Env → Kt → Prop} {K : Kt} (e : α → PyData) (P : α → Bool) (I : Env → Prop) (R : α → Prop) (xs : List α)
    (step : ∀ x ρ (N : Env → Prop), x ∈ xs → I ρ → (P x = true → R x) → (P x = false → ∀ ρ', I ρ' → N ρ') → asgT g false (e x) ρ fun ρ1 => rb ρ1 { nx := N, rt := K.rt, bk := K.bk, ct := N })
    (hR : ∀ x, xs.find? P = some x → R x) (fin : xs.find? P = none → ∀ ρ, I ρ → K.nx ρ) {ρ : Env} (h : I ρ) : forW g rb K (xs.map e) ρ := by
  refine forW_list e (fun r ρ => (∀ x ∈ r, x ∈ xs) ∧ I ρ ∧ r.find? P = xs.find? P) ?_ ?_ xs ρ ⟨fun _ h => h, h, rfl⟩
  · rintro x r ρ N ⟨hr, hi, q⟩ hN
    refine step x ρ N (hr x (.head _)) hi (fun c => hR x ?_) fun c ρ' hi' => hN ρ' ⟨fun y hy => hr y (.tail _ hy), hi', ?_⟩
    · rw [← q, List.find?_cons, c]
    · rw [← q, List.find?_cons, c]
  · rintro ρ ⟨_, hi, q⟩
    exact fin q.symm ρ hi
theorem firstI_find {P : Int → Bool} : ∀ {n : Nat} {lo : Int}, firstI P lo n = (upI lo n).find? P
  | 0, _ => rfl
  | n + 1, lo => by
    rw [upI_succ, List.find?_cons, firstI, firstI_find]
    cases P lo <;> rfl
def stpI (lo c : Int) (n : Nat) : List Int := (List.range n).map fun (i : Nat) => lo + i * c
theorem steps_stpI (lo c : Int) (n : Nat) : steps lo c n = (stpI lo c n).map PyData.int := by
  unfold steps stpI; rw [List.map_map]; rfl
theorem stpI_succ (lo c : Int) (n : Nat) : stpI lo c (n + 1) = lo :: stpI (lo + c) c n := by
  unfold stpI
  rw [List.range_succ_eq_map, List.map_cons, List.map_map]
  congr 1
  · simp
  · refine List.map_congr_left fun i _ => ?_
    simp only [Function.comp, Nat.succ_eq_add_one]
    push_cast
    rw [Int.add_mul]
    omega
theorem at_map {α : Type} {l : List α} {f : α → PyData} {x : α} {i : Int} (h0 : 0 ≤ i) (h : l[i.toNat]? = some x) : atD (l.map f) i = some (f x) := by
  have : ((i.toNat : Nat) : Int) = i := by omega
  rw [← this]
  exact at_nat (by rw [List.getElem?_map, h]; rfl)
/-- the first of a block of p moments that is r by p -/
theorem block {Q : Int → Bool} {p r lo : Int} (hp : 0 < p) (r0 : 0 ≤ r) (r1 : r < p) : firstI (fun t => decide (t % p = r) && Q t) lo p.toNat = if Q (lo + (r - lo) % p) = true then some (lo + (r - lo) % p) else none := by
  have m0 : 0 ≤ (r - lo) % p := Int.emod_nonneg _ (by omega)
  have m1 : (r - lo) % p < p := Int.emod_lt_of_pos _ hp
  have key : ∀ i : Int, 0 ≤ i → i < p → ((lo + i) % p = r ↔ i = (r - lo) % p) := fun i i0 i1 => by
    constructor
    · intro h
      have e : (r - lo) % p = (lo + i - lo) % p := by rw [← h, Int.emod_sub_emod]
      rw [e, show lo + i - lo = i by omega, Int.emod_eq_of_lt i0 i1]
    · intro h
      rw [h, Int.add_emod_emod, show lo + (r - lo) = r by omega, Int.emod_eq_of_lt r0 r1]
  by_cases c : Q (lo + (r - lo) % p) = true
  · rw [if_pos c, firstI_find]
    refine List.find?_eq_some_iff_append.mpr ⟨by simp [c, (key _ m0 m1).mpr rfl], upI lo ((r - lo) % p).toNat, upI (lo + (r - lo) % p + 1) (p.toNat - ((r - lo) % p).toNat - 1), ?_, ?_⟩
    · rw [← upI_succ]
      unfold upI
      have e : p.toNat = ((r - lo) % p).toNat + (p.toNat - ((r - lo) % p).toNat - 1 + 1) := by omega
      rw [e, List.range_add, List.map_append, List.map_map]
      congr 1
      have e2 : ((r - lo) % p).toNat + (p.toNat - ((r - lo) % p).toNat - 1 + 1) - ((r - lo) % p).toNat - 1 + 1 = p.toNat - ((r - lo) % p).toNat - 1 + 1 := by omega
      rw [e2]
      refine List.map_congr_left fun i _ => ?_
      simp only [Function.comp]
      push_cast
      omega
    · intro x hx
      have hx := mem_upI.1 hx
      have := key (x - lo) (by omega) (by omega)
      rw [show lo + (x - lo) = x by omega] at this
      have : ¬ x % p = r := fun h => by have := this.1 h; omega
      simp [this]
  · rw [if_neg c]
    refine firstI_none fun i hi => ?_
    by_cases h : (lo + (i : Int)) % p = r
    · have := (key i (by omega) (by omega)).1 h
      rw [← this] at c
      simp [c]
    · simp [h]
/-- steps of p instead of single moments -/
theorem firstI_steps {Q : Int → Bool} {p r : Int} (hp : 0 < p) (r0 : 0 ≤ r) (r1 : r < p) : ∀ (n : Nat) (lo : Int), firstI (fun t => decide (t % p = r) && Q t) lo (p.toNat * n) = (stpI (lo + (r - lo) % p) p n).find? Q
  | 0, lo => rfl
  | n + 1, lo => by
    rw [Nat.mul_succ, Nat.add_comm, firstI_add, block hp r0 r1, stpI_succ, List.find?_cons, firstI_steps hp r0 r1 n]
    have e : lo + (r - lo) % p + p = lo + ((p.toNat : Nat) : Int) + (r - (lo + ((p.toNat : Nat) : Int))) % p := by
      rw [show ((p.toNat : Nat) : Int) = p by omega, show r - (lo + p) = (r - lo) - p by omega, Int.sub_emod_right]
      omega
    rw [e]
    cases Q (lo + (r - lo) % p) <;> rfl
end Z

namespace Z
open PySem
@[simp] theorem isn_none {d : PyData} : isnD d .none = some (.bool (!isNoneD d)) := by cases d <;> rfl
@[simp] theorem isNone_o {o : Option Int} : isNoneD (optI o) = o.isNone := by cases o <;> rfl
@[simp] theorem isNone_i {n : Int} : isNoneD (.int n) = false := rfl
@[simp] theorem isNone_n : isNoneD .none = true := rfl
@[simp] theorem isNone_t {l : List PyData} : isNoneD (.tuple l) = false := rfl
@[simp] theorem isNone_l {l : List PyData} : isNoneD (.list l) = false := rfl
/-- data of one kind -/
structure Kind {α : Type} (f : α → PyData) : Prop where
  a : ∀ x y, PySem.W.alike (f x) (f y) = true
  p : ∀ x, (f x).plain = true
  d : ∀ x, (f x).depth ≤ 64
  n : ∀ x, f x ≠ .none
theorem plainAll_map {α : Type} {f : α → PyData} (h : ∀ x, (f x).plain = true) : ∀ xs : List α, PyData.plainAll (xs.map f) = true
  | [] => rfl
  | x :: xs => by rw [List.map_cons, PyData.plainAll, plainAll_map h xs, h x]; rfl
theorem depthAll_map {α : Type} {f : α → PyData} {m : Nat} (h : ∀ x, (f x).depth ≤ m) : ∀ xs : List α, PyData.depthAll (xs.map f) ≤ m
  | [] => by simp [PyData.depthAll]
  | x :: xs => by
    have := depthAll_map h xs
    have := h x
    simp only [List.map_cons, PyData.depthAll]
    omega
theorem Kind.ok {α : Type} {f : α → PyData} (h : Kind f) (xs : List α) : kindOk (xs.map f) = true := by
  unfold kindOk
  rw [plainAll_map h.p, Bool.true_and, Bool.and_eq_true, decide_eq_true_eq]
  refine ⟨?_, depthAll_map h.d xs⟩
  unfold sameKind
  rw [Bool.and_eq_true, List.all_eq_true, List.all_eq_true]
  refine ⟨fun x hx => ?_, fun x hx => ?_⟩
  · obtain ⟨i, _, rfl⟩ := List.mem_map.mp hx
    rw [List.all_eq_true]
    intro y hy
    obtain ⟨j, _, rfl⟩ := List.mem_map.mp hy
    exact h.a i j
  · obtain ⟨i, _, rfl⟩ := List.mem_map.mp hx
    have := h.n i
    revert this
    cases f i <;> simp
def minB {α : Type} (lt : α → α → Bool) (x : α) (xs : List α) : α := xs.foldl (fun a y => if lt y a = true then y else a) x
def maxB {α : Type} (lt : α → α → Bool) (x : α) (xs : List α) : α := xs.foldl (fun a y => if lt a y = true then y else a) x
theorem minD_map {α : Type} {f : α → PyData} {lt : α → α → Bool} (h : ∀ x y, PySem.W.dataLt (f x) (f y) = lt x y) : ∀ (xs : List α) (x : α), PySem.W.minD (f x) (xs.map f) = f (minB lt x xs)
  | [], x => rfl
  | y :: xs, x => by
    unfold PySem.W.minD minB
    rw [List.map_cons, List.foldl_cons, List.foldl_cons, h y x]
    cases c : lt y x with
    | true => exact minD_map h xs y
    | false => exact minD_map h xs x
theorem maxD_map {α : Type} {f : α → PyData} {lt : α → α → Bool} (h : ∀ x y, PySem.W.dataLt (f x) (f y) = lt x y) : ∀ (xs : List α) (x : α), PySem.W.maxD (f x) (xs.map f) = f (maxB lt x xs)
  | [], x => rfl
  | y :: xs, x => by
    unfold PySem.W.maxD maxB
    rw [List.map_cons, List.foldl_cons, List.foldl_cons, h x y]
    cases c : lt x y with
    | true => exact maxD_map h xs y
    | false => exact maxD_map h xs x
theorem min1_map {α : Type} {f : α → PyData} {lt : α → α → Bool} (k : Kind f) (h : ∀ x y, PySem.W.dataLt (f x) (f y) = lt x y) (x : α) (xs : List α) : min1D (.list (f x :: xs.map f)) = some (f (minB lt x xs)) := by
  show (if kindOk ((x :: xs).map f) then minOf ((x :: xs).map f) else none) = _
  rw [k.ok, if_pos rfl]
  show some (PySem.W.minD (f x) (xs.map f)) = _
  rw [minD_map h]
theorem max1_map {α : Type} {f : α → PyData} {lt : α → α → Bool} (k : Kind f) (h : ∀ x y, PySem.W.dataLt (f x) (f y) = lt x y) (x : α) (xs : List α) : max1D (.list (f x :: xs.map f)) = some (f (maxB lt x xs)) := by
  show (if kindOk ((x :: xs).map f) then maxOf ((x :: xs).map f) else none) = _
  rw [k.ok, if_pos rfl]
  show some (PySem.W.maxD (f x) (xs.map f)) = _
  rw [maxD_map h]
/-- pairs of numbers -/
def iiD (q : Int × Int) : PyData := .tuple [.int q.1, .int q.2]
def iiLt (p q : Int × Int) : Bool := decide (p.1 < q.1 ∨ (p.1 = q.1 ∧ p.2 < q.2))
theorem ii_lt (p q : Int × Int) : PySem.W.dataLt (iiD p) (iiD q) = iiLt p q := PySem.W.dataLt_ii ..
theorem ii_kind : Kind iiD where
  a x y := by simp [iiD, PySem.W.alike, PySem.W.alikeAll]
  p x := rfl
  d x := by simp [iiD, PyData.depth, PyData.depthAll]
  n x := by simp [iiD]
/-- the last -/
theorem at_last {l : List PyData} {x : PyData} (h : l.getLast? = some x) : atD l (-1) = some x := by
  have hl : l ≠ [] := by rintro rfl; cases h
  have : 0 < l.length := List.length_pos_iff.2 hl
  unfold atD ixOf
  rw [if_neg (by omega), if_pos (by omega)]
  show l[((-1 : Int) + l.length).toNat]? = some x
  rw [← h, List.getLast?_eq_getElem?]
  congr 1
  omega
theorem atD_last {α : Type} {l : List α} {f : α → PyData} {x : α} (h : l.getLast? = some x) : atD (l.map f) (-1) = some (f x) := at_last (by rw [List.getLast?_map, h]; rfl)
theorem firstI_at {P : Int → Bool} : ∀ {n : Nat} {lo : Int} {i : Nat}, i < n → P (lo + i) = true → (∀ j : Nat, j < i → P (lo + j) = false) → firstI P lo n = some (lo + i)
  | 0, _, _, hi, _, _ => by omega
  | n + 1, lo, 0, hi, h, _ => by
    rw [firstI]
    simp at h
    simp [h]
  | n + 1, lo, i + 1, hi, h, hb => by
    have h0 := hb 0 (by omega)
    simp at h0
    rw [firstI, if_neg (by simp [h0])]
    have e : lo + 1 + (i : Int) = lo + ((i + 1 : Nat) : Int) := by push_cast; omega
    rw [firstI_at (lo := lo + 1) (i := i) (by omega) (by rw [e]; exact h) (fun j hj => ?_), e]
    have := hb (j + 1) (by omega)
    rw [show lo + 1 + (j : Int) = lo + ((j + 1 : Nat) : Int) by push_cast; omega]
    exact this
theorem firstI_before {P : Int → Bool} {n : Nat} {lo t : Int} (h : firstI P lo n = some t) : lo ≤ t ∧ t < lo + n ∧ P t = true ∧ ∀ x, lo ≤ x → x < t → P x = false := by
  rw [firstI_find] at h
  have h1 := mem_upI.1 (List.mem_of_find?_eq_some h)
  refine ⟨h1.1, h1.2, List.find?_some h, fun x x0 x1 => ?_⟩
  obtain ⟨_, as, bs, e, hb⟩ := List.find?_eq_some_iff_append.mp h
  have hx : x ∈ upI lo n := mem_upI.2 ⟨x0, by omega⟩
  rw [e, List.mem_append] at hx
  rcases hx with hx | hx
  · simpa using hb x hx
  · have hs : (upI lo n).Pairwise (· < ·) := by
      unfold upI
      rw [List.pairwise_map]
      exact List.pairwise_lt_range.imp fun h => by omega
    rw [e] at hs
    have hs := (List.pairwise_append.1 hs).2.1
    rcases List.mem_cons.1 hx with rfl | hx
    · omega
    · have := (List.pairwise_cons.1 hs).1 x hx
      omega
theorem upI_snoc (lo : Int) (n : Nat) : upI lo (n + 1) = upI lo n ++ [lo + n] := by simp [upI, List.range_succ]
theorem minB_mem {α : Type} {lt : α → α → Bool} : ∀ (xs : List α) (x : α), minB lt x xs ∈ x :: xs
  | [], x => by simp [minB]
  | y :: xs, x => by
    unfold minB
    rw [List.foldl_cons]
    cases c : lt y x with
    | true =>
      have := minB_mem (lt := lt) xs y
      unfold minB at this
      simp at this ⊢
      rcases this with h | h <;> simp [h]
    | false =>
      have := minB_mem (lt := lt) xs x
      unfold minB at this
      simp at this ⊢
      rcases this with h | h <;> simp [h]
theorem minB_snoc {α : Type} {lt : α → α → Bool} (xs : List α) (x y : α) : minB lt x (xs ++ [y]) = if lt y (minB lt x xs) = true then y else minB lt x xs := by
  unfold minB; rw [List.foldl_append]; rfl
end Z

namespace Z
open PySem
/-- things as data, told apart by == -/
structure Enc {α : Type} [DecidableEq α] (f : α → PyData) : Prop where
  e : ∀ a b, PyData.eqv (f a) (f b) = decide (a = b)
  p : ∀ a, (f a).plain = true
  d : ∀ a, (f a).depth ≤ 32
section
variable {α β γ : Type} [DecidableEq α] [DecidableEq β] [DecidableEq γ] {f : α → PyData} {g : β → PyData} {h : γ → PyData}
theorem encI : Enc PyData.int where
  e a b := by simp only [PyData.eqv]; by_cases c : a = b <;> simp [c]
  p a := rfl
  d a := by simp [PyData.depth]
theorem encS : Enc PyData.str where
  e a b := by simp only [PyData.eqv]; by_cases c : a = b <;> simp [c]
  p a := rfl
  d a := by simp [PyData.depth]
theorem enc2 (hf : Enc f) (hg : Enc g) (df : ∀ a, (f a).depth ≤ 30) (dg : ∀ a, (g a).depth ≤ 30) : Enc fun q : α × β => PyData.tuple [f q.1, g q.2] where
  e a b := by
    obtain ⟨a1, a2⟩ := a
    obtain ⟨b1, b2⟩ := b
    simp only [PyData.eqv, PyData.eqvAll, hf.e, hg.e]
    by_cases c : a1 = b1 <;> by_cases d : a2 = b2 <;> simp [c, d]
  p a := by simp only [PyData.plain, PyData.plainAll, hf.p, hg.p]; rfl
  d a := by
    have := df a.1
    have := dg a.2
    simp only [PyData.depth, PyData.depthAll]
    omega
theorem enc3 (hf : Enc f) (hg : Enc g) (hh : Enc h) (df : ∀ a, (f a).depth ≤ 30) (dg : ∀ a, (g a).depth ≤ 30) (dh : ∀ a, (h a).depth ≤ 30) : Enc fun q : α × β × γ => PyData.tuple [f q.1, g q.2.1, h q.2.2] where
  e a b := by
    obtain ⟨a1, a2, a3⟩ := a
    obtain ⟨b1, b2, b3⟩ := b
    simp only [PyData.eqv, PyData.eqvAll, hf.e, hg.e, hh.e]
    by_cases c : a1 = b1 <;> by_cases d : a2 = b2 <;> by_cases e : a3 = b3 <;> simp [c, d, e]
  p a := by simp only [PyData.plain, PyData.plainAll, hf.p, hg.p, hh.p]; rfl
  d a := by
    have := df a.1
    have := dg a.2.1
    have := dh a.2.2
    simp only [PyData.depth, PyData.depthAll]
    omega
theorem eqvAll_map (hf : Enc f) : ∀ xs ys : List α, PyData.eqvAll (xs.map f) (ys.map f) = decide (xs = ys)
  | [], [] => by simp [PyData.eqvAll]
  | [], y :: ys => by simp [PyData.eqvAll]
  | x :: xs, [] => by simp [PyData.eqvAll]
  | x :: xs, y :: ys => by
    rw [List.map_cons, List.map_cons, PyData.eqvAll, hf.e, eqvAll_map hf xs ys]
    by_cases c : x = y <;> simp [c]
theorem encT (hf : Enc f) (df : ∀ a, (f a).depth ≤ 30) : Enc fun xs : List α => PyData.tuple (xs.map f) where
  e a b := by simp only [PyData.eqv, eqvAll_map hf]
  p a := by simp only [PyData.plain, plainAll_map hf.p]
  d a := by
    have := depthAll_map df a
    simp only [PyData.depth]
    omega
theorem encL (hf : Enc f) (df : ∀ a, (f a).depth ≤ 30) : Enc fun xs : List α => PyData.list (xs.map f) where
  e a b := by simp only [PyData.eqv, eqvAll_map hf]
  p a := by simp only [PyData.plain, plainAll_map hf.p]
  d a := by
    have := depthAll_map df a
    simp only [PyData.depth]
    omega
theorem Enc.eq (hf : Enc f) (a b : α) [Decidable (a = b)] : eqD (f a) (f b) = some (.bool (decide (a = b))) := by
  unfold eqD eqOk
  have := hf.d a
  rw [hf.p, hf.p, if_pos (by simp; omega), hf.e]
  congr
theorem Enc.ne (hf : Enc f) (a b : α) [Decidable (a = b)] : neD (f a) (f b) = some (.bool (!decide (a = b))) := by
  unfold neD eqOk
  have := hf.d a
  rw [hf.p, hf.p, if_pos (by simp; omega), hf.e]
  congr
theorem memD_map (hf : Enc f) (x : α) (xs : List α) [Decidable (x ∈ xs)] : memD (f x) (xs.map f) = decide (x ∈ xs) := by
  refine Eq.trans (b := @decide (x ∈ xs) (List.instDecidableMemOfLawfulBEq x xs)) ?_ (by congr)
  unfold memD
  rw [List.any_map]
  induction xs with
  | nil => simp
  | cons y ys ih =>
    rw [List.any_cons, ih]
    simp only [Function.comp, hf.e]
    by_cases c : y = x
    · simp [c]
    · have : ¬ x = y := fun e => c e.symm
      simp [c, this]
theorem memOk_map (hf : Enc f) (x : α) (xs : List α) : memOk (f x) (xs.map f) = true := by
  unfold memOk
  have := hf.d x
  rw [hf.p, plainAll_map hf.p]
  simp
  omega
theorem Enc.inL (hf : Enc f) (x : α) (xs : List α) [Decidable (x ∈ xs)] : inD (f x) (.list (xs.map f)) = some (.bool (decide (x ∈ xs))) := by
  unfold inD inB
  cases e : f x <;> simp only <;> rw [← e, if_pos (memOk_map hf x xs), memD_map hf] <;> rfl
theorem Enc.inT (hf : Enc f) (x : α) (xs : List α) [Decidable (x ∈ xs)] : inD (f x) (.tuple (xs.map f)) = some (.bool (decide (x ∈ xs))) := by
  unfold inD inB
  cases e : f x <;> simp only <;> rw [← e, if_pos (memOk_map hf x xs), memD_map hf] <;> rfl
theorem Enc.ninL (hf : Enc f) (x : α) (xs : List α) [Decidable (x ∈ xs)] : ninD (f x) (.list (xs.map f)) = some (.bool (!decide (x ∈ xs))) := by
  unfold ninD inB
  cases e : f x <;> simp only <;> rw [← e, if_pos (memOk_map hf x xs), memD_map hf] <;> rfl
theorem Enc.ninT (hf : Enc f) (x : α) (xs : List α) [Decidable (x ∈ xs)] : ninD (f x) (.tuple (xs.map f)) = some (.bool (!decide (x ∈ xs))) := by
  unfold ninD inB
  cases e : f x <;> simp only <;> rw [← e, if_pos (memOk_map hf x xs), memD_map hf] <;> rfl
end
section
variable {α β : Type} [DecidableEq α] {f : α → PyData}
/-! dicts -/
structure KeyE (f : α → PyData) : Prop extends Enc f where
  k : ∀ a, isKey (f a) = true
  fl : ∀ a b, flatKey (f a) = flatKey (f b)
theorem keyI : KeyE PyData.int where
  toEnc := encI
  k _ := rfl
  fl _ _ := rfl
theorem keyS : KeyE PyData.str where
  toEnc := encS
  k _ := rfl
  fl _ _ := rfl
variable {v : β → PyData}
def dicD (f : α → PyData) (v : β → PyData) (ps : List (α × β)) : List (PyData × PyData) := ps.map fun q => (f q.1, v q.2)
def getA : List (α × β) → α → Option β
  | [], _ => none
  | q :: r, k => if q.1 = k then some q.2 else getA r k
def setA : List (α × β) → α → β → List (α × β)
  | [], k, x => [(k, x)]
  | q :: r, k, x => if q.1 = k then (q.1, x) :: r else q :: setA r k x
theorem getA_setA (k : α) (x : β) (k' : α) : ∀ ps : List (α × β), getA (setA ps k x) k' = if k = k' then some x else getA ps k'
  | [] => by simp [setA, getA]
  | q :: r => by
    unfold setA
    by_cases c : q.1 = k
    · subst c
      by_cases d : q.1 = k' <;> simp [getA, d]
    · rw [if_neg c]
      unfold getA
      rw [getA_setA k x k' r]
      by_cases d : q.1 = k'
      · have : ¬ k = k' := fun e => c (d.trans e.symm)
        simp [d, this]
      · simp [d]
theorem setA_length (k : α) (x : β) : ∀ ps : List (α × β), (setA ps k x).length ≤ ps.length + 1
  | [] => by simp [setA]
  | q :: r => by
    unfold setA
    have := setA_length k x r
    split <;> simp <;> omega
theorem setA_keys (k : α) (x : β) : ∀ (ps : List (α × β)) (q : α × β), q ∈ setA ps k x → q = (k, x) ∨ q ∈ ps
  | [], q, h => by simp [setA] at h; exact .inl h
  | p :: r, q, h => by
    unfold setA at h
    split at h
    · rename_i c
      rcases List.mem_cons.1 h with h | h
      · left; rw [h, c]
      · exact .inr (.tail _ h)
    · rcases List.mem_cons.1 h with h | h
      · right; rw [h]; exact .head _
      · rcases setA_keys k x r q h with h | h
        · exact .inl h
        · exact .inr (.tail _ h)
/-- keys are there once -/
def Uniq (ps : List (α × β)) : Prop := (ps.map (·.1)).Nodup
theorem uniq_set (k : α) (x : β) : ∀ (ps : List (α × β)), Uniq ps → Uniq (setA ps k x)
  | [], _ => by simp [setA, Uniq]
  | q :: r, h => by
    unfold setA
    split
    · exact h
    · rename_i c
      unfold Uniq at h ⊢
      simp only [List.map_cons, List.nodup_cons] at h ⊢
      refine ⟨fun hm => ?_, uniq_set k x r h.2⟩
      obtain ⟨p, hp, e⟩ := List.mem_map.1 hm
      rcases setA_keys k x r p hp with rfl | hp
      · exact c e.symm
      · exact h.1 (List.mem_map.2 ⟨p, hp, e⟩)
theorem keyFit_dic (hf : KeyE f) (k : α) (ps : List (α × β)) : keyFit (dicD f v ps) (f k) = true := by
  unfold keyFit
  rw [hf.k, Bool.true_and, List.all_eq_true]
  intro q hq
  obtain ⟨p, _, rfl⟩ := List.mem_map.1 hq
  rw [hf.fl p.1 k]
  exact beq_self_eq_true _
theorem lookD_dic (hf : Enc f) (k : α) : ∀ ps : List (α × β), lookD (dicD f v ps) (f k) = (getA ps k).map v
  | [] => rfl
  | q :: r => by
    have ih := lookD_dic hf k r
    unfold lookD dicD at ih ⊢
    rw [List.map_cons, List.find?_cons, getA]
    unfold keyEq at ih ⊢
    rw [hf.e]
    by_cases c : q.1 = k
    · simp [c]
    · simp only [c, decide_false, if_false]
      exact ih
theorem put_map (hf : Enc f) (k : α) (x : β) : ∀ ps : List (α × β), (ps.any fun q => decide (q.1 = k)) = true → Uniq ps → (ps.map fun q => if q.1 = k then (f q.1, v x) else (f q.1, v q.2)) = dicD f v (setA ps k x)
  | [], h, _ => by simp at h
  | q :: r, h, u => by
    unfold setA
    have u' : Uniq r := by unfold Uniq at u ⊢; simp at u; exact u.2
    have u0 : ∀ p ∈ r, p.1 ≠ q.1 := fun p hp e => by
      unfold Uniq at u
      simp only [List.map_cons, List.nodup_cons] at u
      exact u.1 (List.mem_map.2 ⟨p, hp, e⟩)
    by_cases c : q.1 = k
    · subst c
      rw [if_pos rfl]
      simp only [List.map_cons, if_true, dicD]
      congr 1
      refine List.map_congr_left fun p hp => ?_
      rw [if_neg (u0 p hp)]
    · rw [if_neg c]
      simp only [List.map_cons, c, if_false]
      rw [List.any_cons] at h
      simp [c] at h
      have := put_map hf k x r (by simpa using h) u'
      rw [this]
      rfl
theorem setA_new (k : α) (x : β) : ∀ ps : List (α × β), (ps.any fun q => decide (q.1 = k)) = false → setA ps k x = ps ++ [(k, x)]
  | [], _ => rfl
  | q :: r, h => by
    rw [List.any_cons, Bool.or_eq_false_iff] at h
    unfold setA
    rw [if_neg (by simpa using h.1), setA_new k x r h.2]
    rfl
theorem putD_dic (hf : Enc f) (k : α) (x : β) (ps : List (α × β)) (u : Uniq ps) : putD (dicD f v ps) (f k) (v x) = dicD f v (setA ps k x) := by
  unfold putD
  have e : ((dicD f v ps).any fun kv => keyEq kv.1 (f k)) = ps.any fun q => decide (q.1 = k) := by
    unfold dicD keyEq
    rw [List.any_map]
    congr 1
    funext q
    exact hf.e q.1 k
  rw [e]
  cases c : ps.any fun q => decide (q.1 = k) with
  | true =>
    rw [if_pos rfl, ← put_map hf k x ps c u]
    unfold dicD keyEq
    rw [List.map_map]
    refine List.map_congr_left fun q _ => ?_
    simp only [Function.comp, hf.e]
    by_cases d : q.1 = k <;> simp [d]
  | false =>
    rw [if_neg (by simp), setA_new k x ps c]
    simp [dicD]
theorem ix_dic (hf : KeyE f) (k : α) (ps : List (α × β)) : ixD (.dict (dicD f v ps)) (f k) = (getA ps k).map v := by
  unfold ixD
  cases e : f k <;> simp only <;> rw [← e, keyFit_dic hf, if_pos rfl, lookD_dic hf.toEnc]
theorem in_dic (hf : KeyE f) (k : α) (ps : List (α × β)) : inD (f k) (.dict (dicD f v ps)) = some (.bool (getA ps k).isSome) := by
  unfold inD inB
  cases e : f k <;> simp only <;> rw [← e, keyFit_dic hf, if_pos rfl, lookD_dic hf.toEnc] <;> cases getA ps k <;> rfl
theorem nin_dic (hf : KeyE f) (k : α) (ps : List (α × β)) : ninD (f k) (.dict (dicD f v ps)) = some (.bool (!(getA ps k).isSome)) := by
  unfold ninD inB
  cases e : f k <;> simp only <;> rw [← e, keyFit_dic hf, if_pos rfl, lookD_dic hf.toEnc] <;> cases getA ps k <;> rfl
theorem set_dic (hf : KeyE f) (k : α) (x : β) (ps : List (α × β)) (u : Uniq ps) (l : ps.length < big) : setD (.ow (.dict (dicD f v ps))) (f k) (v x) = some (.ow (.dict (dicD f v (setA ps k x)))) := by
  have l' : (dicD f v ps).length < big := by simpa [dicD] using l
  unfold setD
  simp only [keyFit_dic hf, l', decide_true, Bool.and_self, if_true, putD_dic hf.toEnc k x ps u]
end
theorem max2_ii (a b : Int) : max2D (.int a) (.int b) = some (.int (max a b)) := by
  unfold max2D
  have := kind_ints [a, b]
  simp only [List.map_cons, List.map_nil] at this
  rw [this]
  exact congrArg some (PySem.W.maxD_ints a [b])
theorem min2_ii (a b : Int) : min2D (.int a) (.int b) = some (.int (min a b)) := by
  unfold min2D
  have := kind_ints [a, b]
  simp only [List.map_cons, List.map_nil] at this
  rw [this]
  exact congrArg some (PySem.W.minD_ints a [b])
/-- a while loop, by an invariant and a number that gets less -/
theorem whW_inv {rc : Env → (Bool → Env → Prop) → Prop} {rb : Env → Kt → Prop} {K : Kt} {ρ : Env} (I : Nat → Env → Prop) (m : Nat) (h : I m ρ)
    (step : ∀ m ρ (N : Env → Prop), I m ρ → (∀ m' ρ', m' < m → I m' ρ' → N ρ') → rc ρ fun b ρ1 => if b = true then rb ρ1 { nx := N, rt := K.rt, bk := K.nx, ct := N } else K.nx ρ1) : whW rc rb ρ K :=
  ⟨I, ⟨m, h⟩, fun m ρ h => step m ρ _ h fun m' _ l h' => ⟨m', l, h'⟩⟩
/-! sorting -/
theorem sort_map {α : Type} (f : α → PyData) (xs : List α) : sortD (xs.map f) = (xs.mergeSort fun a b => leD (f a) (f b)).map f := by
  unfold sortD
  rw [List.map_mergeSort (r := fun a b => leD (f a) (f b)) (s := leD)]
  intros; rfl
theorem leD_total : PySem.W.TotalLe leD := by
  show PySem.W.TotalLe (PySem.W.sortLe _ false fun b => _)
  exact PySem.W.sortLe_total _ _ _
theorem sort_pw {α : Type} (f : α → PyData) (xs : List α) : (xs.mergeSort fun a b => leD (f a) (f b)).Pairwise fun a b => leD (f a) (f b) = true :=
  List.pairwise_mergeSort (fun a b c => leD_total.trans (f a) (f b) (f c)) (fun a b => by simpa using leD_total.total (f a) (f b)) xs
end Z

namespace Z
open PySem
/-! which things are whole numbers, numbers in bounds, names -/
def isI : PyData → Bool
  | .int _ => true
  | _ => false
def numF (d : PyData) (lo : Int) (hi : Option Int) : Bool := match d with
  | .int n => decide (lo ≤ n) && (match hi with | some h => decide (n ≤ h) | none => true)
  | _ => false
def abc : Str := "abcdefghijklmnopqrstuvwxyz"
def strF (s : Str) : Bool := decide (1 ≤ s.cps.size) && decide (s.cps.size ≤ 8) && s.cps.toList.all fun c => decide (c ∈ abc.cps.toList)
def nameF : PyData → Bool
  | .str s => strF s
  | _ => false
def smallS : PyData → Bool
  | .str s => decide (s.cps.size ≤ big)
  | _ => true
def intS : Spc := fun ds K => ∃ d, ds = [d] ∧ d.plain = true ∧ K false (.bool (isI d))
def numS : Spc := fun ds K => ∃ d lo hi, ds = [d, .int lo, optI hi] ∧ d.plain = true ∧ K false (.bool (numF d lo hi))
def nameS : Spc := fun ds K => ∃ d, ds = [d] ∧ d.plain = true ∧ smallS d = true ∧ K false (.bool (nameF d))
def integerB : Ss := .cons (.ret (.and_ (.p1 .isInt (.v 0)) (.not_ (.p1 .isBool (.v 0))))) .nil
def numberB (i : Nat) : Ss := .cons (.ret (.and_ (.call i (.cons (.v 0) .nil)) (.and_ (.p2 .ge (.v 0) (.v 1)) (.or_ (.p2 .is_ (.v 2) (.k .none)) (.p2 .le (.v 0) (.v 2)))))) .nil
def nameB : Ss := .cons (.ife (.or_ (.not_ (.p1 .isStr (.v 0))) (.not_ (.chain .le .le (.k (.int 1)) (.p1 .len (.v 0)) (.k (.int 8)))))
    (.cons (.ret (.k (.bool false))) .nil)
    .nil) (.cons (.ret (.p1 .all (.lc (.nm 1) (.val (.v 0)) .nil [1] (.p2 .in_ (.v 1) (.k (.str "abcdefghijklmnopqrstuvwxyz")))))) .nil)
theorem read_integer {Φ : Nat → Spc} {N : List Str} (hN : N.length = 1) (ds : List PyData) (Kq : Bool → PyData → Prop) (h : intS ds Kq) : rdB Φ integerB (startS N (ds.map .sh)) (ktF Kq) := by
  obtain ⟨d, rfl, hp, kk⟩ := h
  have e : startS N ([d].map .sh) = [.sh d] := by unfold startS; rw [hN]; rfl
  rw [e]
  unfold integerB
  simp [ktF, kind_plain hp]
  cases d <;> simpa [isIntD, isBoolD, isI] using kk
theorem read_number {Φ : Nat → Spc} {N : List Str} {i : Nat} (hN : N.length = 3) (hi : Φ i = intS) (ds : List PyData) (Kq : Bool → PyData → Prop) (h : numS ds Kq) : rdB Φ (numberB i) (startS N (ds.map .sh)) (ktF Kq) := by
  obtain ⟨d, lo, o, rfl, hp, kk⟩ := h
  have e : startS N ([d, .int lo, optI o].map .sh) = [.sh d, .sh (.int lo), .sh (optI o)] := by unfold startS; rw [hN]; rfl
  rw [e]
  unfold numberB
  simp [ktF, hi, rdVar_sh]
  refine ⟨d, rfl, hp, ?_⟩
  cases d with
  | int n =>
    simp [isI]
    by_cases c : n < lo
    · have : ¬ lo ≤ n := by omega
      simpa [numF, c, this] using kk
    · have c' : lo ≤ n := by omega
      cases o with
      | none => simpa [numF, c, c', optI] using kk
      | some m => 
        simp [optI]
        rw [if_pos c']
        simp [numF, c'] at kk
        have e : (!decide (m < n)) = decide (n ≤ m) := by
          by_cases c2 : m < n
          · have : ¬ n ≤ m := by omega
            simp [c2, this]
          · have : n ≤ m := by omega
            simp [c2, this]
        rw [e]
        exact kk
  | _ => simpa [isI, numF] using kk
theorem read_name {Φ : Nat → Spc} {N : List Str} (hN : N.length = 2) (ds : List PyData) (Kq : Bool → PyData → Prop) (h : nameS ds Kq) : rdB Φ nameB (startS N (ds.map .sh)) (ktF Kq) := by
  obtain ⟨d, rfl, hp, hs, kk⟩ := h
  have e : startS N ([d].map .sh) = [.sh d, .no] := by unfold startS; rw [hN]; rfl
  rw [e]
  unfold nameB
  simp [ktF, kind_plain hp]
  cases d with
  | str s =>
    simp [smallS] at hs
    simp [isStrD, lenD, hs]
    by_cases c1 : (1 : Int) ≤ s.cps.size
    · rw [if_pos c1]
      by_cases c2 : (s.cps.size : Int) ≤ 8
      · rw [if_pos c2]
        have h1 : 1 ≤ s.cps.size := by omega
        have h2 : s.cps.size ≤ 8 := by omega
        simp [itemsOf, hs, lock, wipeE]
        refine compW_onA sgn (fun c => .bool (decide (c ∈ abc.cps.toList))) (fun c hc R r => ?_) ?_
        · have : inD (sgn c) (.str (Str.ofString "abcdefghijklmnopqrstuvwxyz")) = some (.bool (decide (c ∈ abc.cps.toList))) := rfl
          simpa [wipeE, this, show isMut (sgn c) = false from rfl] using r
        · simp only [nameF, strF, h1, h2, decide_true, Bool.true_and] at kk
          simp only [allD_map, Z.must_s]
          exact kk
      · rw [if_neg c2]
        have : ¬ s.cps.size ≤ 8 := by omega
        simpa [nameF, strF, this] using kk
    · rw [if_neg c1]
      have : ¬ 1 ≤ s.cps.size := by omega
      simpa [nameF, strF, this] using kk
  | _ => simpa [isStrD, nameF] using kk
end Z

namespace Z
open PySem
section
variable {α κ β : Type} [DecidableEq κ] {kf : κ → PyData} {vf : β → PyData}
def foldA (k : α → κ) (v : α → β) (xs : List α) : List (κ × β) := xs.foldl (fun ps x => setA ps (k x) (v x)) []
theorem uniq_fold (k : α → κ) (v : α → β) : ∀ (xs : List α) (ps : List (κ × β)), Uniq ps → Uniq (xs.foldl (fun ps x => setA ps (k x) (v x)) ps)
  | [], _, h => h
  | x :: xs, ps, h => uniq_fold k v xs _ (uniq_set _ _ _ h)
theorem dcompW_on' {g : Tg} {tt : Env → (Bool → Env → Prop) → Prop} {te : Env → (PyData → PyData → Env → Prop) → Prop} {vs : List Nat} (hf : Enc kf) (h0 : ∀ k, isKey0 (kf k) = true) (e : α → PyData) (k : α → κ) (v : α → β) (ρ : Env) (Q : List (PyData × PyData) → Env → Prop) : ∀ (xs : List α) (acc : List (κ × β)), Uniq acc →
    (∀ x ∈ xs, ∀ R : Bool → PyData → PyData → Env → Prop, R true (kf (k x)) (vf (v x)) ρ → asgT g false (e x) ρ fun ρ1 => tt ρ1 fun b ρ2 => if b = true then te ρ2 fun y z ρ3 => R true y z (wipeE ρ3 vs) else R false .none .none (wipeE ρ2 vs)) →
    Q (dicD kf vf (xs.foldl (fun ps x => setA ps (k x) (v x)) acc)) ρ → dcompW g tt te vs (xs.map e) (dicD kf vf acc) ρ Q
  | [], acc, _, h, q => by simpa [dcompW] using q
  | x :: xs, acc, u, h, q => by
    rw [List.map_cons, dcompW]
    have := h x (.head _) (fun b y z ρ' => if b = true then isKey0 y = true ∧ dcompW g tt te vs (xs.map e) (putD (dicD kf vf acc) y z) ρ' Q else dcompW g tt te vs (xs.map e) (dicD kf vf acc) ρ' Q) ?_
    · simpa using this
    · rw [if_pos rfl, putD_dic hf _ _ _ u]
      exact ⟨h0 _, dcompW_on' hf h0 e k v ρ Q xs _ (uniq_set _ _ _ u) (fun y hy => h y (.tail _ hy)) q⟩
/-- a dict comprehension over mapped things -/
theorem dcompW_on {g : Tg} {tt : Env → (Bool → Env → Prop) → Prop} {te : Env → (PyData → PyData → Env → Prop) → Prop} {vs : List Nat} (hf : Enc kf) (h0 : ∀ k, isKey0 (kf k) = true) (e : α → PyData) (k : α → κ) (v : α → β) {ρ : Env} {Q : List (PyData × PyData) → Env → Prop} {xs : List α}
    (h : ∀ x ∈ xs, ∀ R : Bool → PyData → PyData → Env → Prop, R true (kf (k x)) (vf (v x)) ρ → asgT g false (e x) ρ fun ρ1 => tt ρ1 fun b ρ2 => if b = true then te ρ2 fun y z ρ3 => R true y z (wipeE ρ3 vs) else R false .none .none (wipeE ρ2 vs))
    (q : Q (dicD kf vf (foldA k v xs)) ρ) : dcompW g tt te vs (xs.map e) [] ρ Q := dcompW_on' hf h0 e k v ρ Q xs [] (by simp [Uniq]) h q
theorem merge_on (hf : Enc kf) (k : α → κ) (v : α → β) : ∀ (xs : List α) (acc : List (κ × β)), Uniq acc → mergeD (dicD kf vf acc) (xs.map fun x => (kf (k x), vf (v x))) = dicD kf vf (xs.foldl (fun ps x => setA ps (k x) (v x)) acc)
  | [], acc, _ => by simp [mergeD]
  | x :: xs, acc, u => by
    rw [List.map_cons, mergeD, putD_dic hf _ _ _ u]
    exact merge_on hf k v xs _ (uniq_set _ _ _ u)
theorem pairsOf_map (k : α → κ) (v : α → β) : ∀ xs : List α, pairsOf (xs.map fun x => PyData.tuple [kf (k x), vf (v x)]) = some (xs.map fun x => (kf (k x), vf (v x)))
  | [] => rfl
  | x :: xs => by rw [List.map_cons, pairsOf, pairsOf_map k v xs]; rfl
/-- dict([(k, v), ..]) -/
theorem dict_on (hf : Enc kf) (hk : ∀ k, flatKey (kf k) = true) (k : α → κ) (v : α → β) (xs : List α) : dictD (.list (xs.map fun x => .tuple [kf (k x), vf (v x)])) = some (.dict (dicD kf vf (foldA k v xs))) := by
  show (pairsOf (xs.map fun x => PyData.tuple [kf (k x), vf (v x)])).bind _ = _
  rw [pairsOf_map]
  show (if _ then _ else _) = _
  rw [if_pos (by rw [List.all_eq_true]; intro p hp; obtain ⟨x, _, rfl⟩ := List.mem_map.1 hp; exact hk _)]
  have := merge_on (vf := vf) hf k v xs [] (by simp [Uniq])
  exact congrArg (fun z => some (PyData.dict z)) this
theorem getA_fold_keeps (k : α → κ) (v : α → β) {q : κ} : ∀ (xs : List α) (ps : List (κ × β)), (getA ps q).isSome = true → (getA (xs.foldl (fun ps x => setA ps (k x) (v x)) ps) q).isSome = true
  | [], _, h => h
  | x :: xs, ps, h => getA_fold_keeps k v xs _ (by rw [getA_setA]; split; rfl; exact h)
theorem getA_fold (k : α → κ) (v : α → β) : ∀ (xs : List α) (ps : List (κ × β)) (x : α), x ∈ xs → (getA (xs.foldl (fun ps x => setA ps (k x) (v x)) ps) (k x)).isSome = true
  | y :: xs, ps, x, h => by
    rcases List.mem_cons.1 h with rfl | h
    · exact getA_fold_keeps k v xs _ (by rw [getA_setA, if_pos rfl]; rfl)
    · exact getA_fold k v xs _ x h
end
@[simp] theorem lt_ss {a b : Str} : ltD (.str a) (.str b) = some (.bool (decide (a.cps.toList < b.cps.toList))) := by
  unfold ltD
  rw [if_pos (by rfl), PySem.W.dataLt_str]
theorem cut_hi {α : Type} (xs : List α) {r : Int} (h : 0 ≤ r) : cut xs none (some r) = xs.take r.toNat := by
  unfold cut slIx
  simp
  rw [if_neg (by omega)]
  simp
theorem cut_lo1 {α : Type} (xs : List α) : cut xs (some 1) none = xs.tail := by
  unfold cut slIx
  cases xs with
  | nil => rfl
  | cons a r =>
    simp
theorem zipD_map {α β : Type} (f : α → PyData) (g : β → PyData) (xs : List α) (ys : List β) : zipD (xs.map f) (ys.map g) = (xs.zip ys).map fun q => PyData.tuple [f q.1, g q.2] := by
  unfold zipD
  rw [List.zip_map, List.map_map]
  rfl
theorem intsOf_map : ∀ ns : List Int, intsOf (ns.map .int) = some ns
  | [] => rfl
  | n :: r => by rw [List.map_cons, intsOf, intsOf_map r]; rfl
theorem sum_ints (ns : List Int) : sumD (.list (ns.map .int)) = some (.int ns.sum) := by
  show (intsOf (ns.map .int)).map _ = _
  rw [intsOf_map]; rfl
end Z

namespace Z
open PySem
/-- things as data that can be ordered -/
structure OrdE {α : Type} [DecidableEq α] (f : α → PyData) (lt : α → α → Bool) : Prop extends Enc f where
  al : ∀ a b, PySem.W.alike (f a) (f b) = true
  l : ∀ a b, PySem.W.dataLt (f a) (f b) = lt a b
  n : ∀ a, f a ≠ .none
  tri : ∀ a b, lt a b = false → lt b a = false → a = b
section
variable {α β γ δ : Type} [DecidableEq α] [DecidableEq β] [DecidableEq γ] [DecidableEq δ] {f : α → PyData} {g : β → PyData} {h : γ → PyData} {k : δ → PyData} {lf : α → α → Bool} {lg : β → β → Bool} {lh : γ → γ → Bool} {lk : δ → δ → Bool}
def ltI (a b : Int) : Bool := decide (a < b)
def ltS (a b : Str) : Bool := decide (a.cps.toList < b.cps.toList)
theorem ordI : OrdE PyData.int ltI where
  toEnc := encI
  al _ _ := by simp [PySem.W.alike]
  l a b := PySem.W.dataLt_int a b
  n _ := by simp
  tri a b h1 h2 := by simp [ltI] at h1 h2; omega
theorem str_ext {x y : Str} (h : x.cps.toList = y.cps.toList) : x = y := PySem.W.str_of_cps h
theorem ordS : OrdE PyData.str ltS where
  toEnc := encS
  al _ _ := by simp [PySem.W.alike]
  l a b := PySem.W.dataLt_str a b
  n _ := by simp
  tri a b h1 h2 := by
    simp [ltS] at h1 h2
    refine str_ext ?_
    exact congrArg Array.toList (Array.le_antisymm h2 h1)
def lt2 (lf : α → α → Bool) (lg : β → β → Bool) (a b : α × β) : Bool := if a.1 = b.1 then lg a.2 b.2 else lf a.1 b.1
theorem lex_nil : PyProof.Rows.lexLt PyProof.Rows.itemOrd (PySem.W.keyToksAll []) (PySem.W.keyToksAll []) = false := PyProof.Rows.lex_irrefl _
theorem OrdE.irr (o : OrdE f lf) (a : α) : lf a a = false := by
  have := PyProof.Rows.lex_irrefl (O := PyProof.Rows.itemOrd) (PySem.W.keyToks (f a))
  rw [← o.l a a]
  exact this
theorem ord2 (hf : OrdE f lf) (hg : OrdE g lg) (df : ∀ a, (f a).depth ≤ 30) (dg : ∀ a, (g a).depth ≤ 30) : OrdE (fun q : α × β => PyData.tuple [f q.1, g q.2]) (lt2 lf lg) where
  toEnc := enc2 hf.toEnc hg.toEnc df dg
  al a b := by simp [PySem.W.alike, PySem.W.alikeAll, hf.al, hg.al]
  l a b := by
    rw [PySem.W.dataLt_pair (hf.al _ _) (hg.al _ _), hf.e, hg.e, hf.l, hg.l]
    unfold lt2
    by_cases c : a.1 = b.1
    · simp only [c, decide_true, if_true]
      by_cases d : a.2 = b.2
      · simp only [d, decide_true, if_true]
        exact (hg.irr _).symm
      · simp [d]
    · simp [c]
  n _ := by simp
  tri a b h1 h2 := by
    obtain ⟨a1, a2⟩ := a
    obtain ⟨b1, b2⟩ := b
    unfold lt2 at h1 h2
    simp only at h1 h2
    by_cases c : a1 = b1
    · subst c
      simp at h1 h2
      rw [hg.tri _ _ h1 h2]
    · have c' : ¬ b1 = a1 := fun e => c e.symm
      rw [if_neg c] at h1
      rw [if_neg c'] at h2
      exact absurd (hf.tri _ _ h1 h2) c
def lt3 (lf : α → α → Bool) (lg : β → β → Bool) (lh : γ → γ → Bool) (a b : α × β × γ) : Bool := if a.1 = b.1 then (if a.2.1 = b.2.1 then lh a.2.2 b.2.2 else lg a.2.1 b.2.1) else lf a.1 b.1
theorem ord3 (hf : OrdE f lf) (hg : OrdE g lg) (hh : OrdE h lh) (df : ∀ a, (f a).depth ≤ 30) (dg : ∀ a, (g a).depth ≤ 30) (dh : ∀ a, (h a).depth ≤ 30) : OrdE (fun q : α × β × γ => PyData.tuple [f q.1, g q.2.1, h q.2.2]) (lt3 lf lg lh) where
  toEnc := enc3 hf.toEnc hg.toEnc hh.toEnc df dg dh
  al a b := by simp [PySem.W.alike, PySem.W.alikeAll, hf.al, hg.al, hh.al]
  l a b := by
    rw [PySem.W.dataLt_tuple, PySem.W.dataLt_cons (hf.al _ _), PySem.W.dataLt_cons (hg.al _ _), PySem.W.dataLt_cons (hh.al _ _), hf.e, hg.e, hh.e, hf.l, hg.l, hh.l, lex_nil]
    unfold lt3
    by_cases c : a.1 = b.1
    · simp only [c, decide_true, if_true]
      by_cases d : a.2.1 = b.2.1
      · simp only [d, decide_true, if_true]
        by_cases e : a.2.2 = b.2.2
        · simp only [e, decide_true, if_true]
          exact (hh.irr _).symm
        · simp [e]
      · simp [d]
    · simp [c]
  n _ := by simp
  tri a b h1 h2 := by
    obtain ⟨a1, a2, a3⟩ := a
    obtain ⟨b1, b2, b3⟩ := b
    unfold lt3 at h1 h2
    simp only at h1 h2
    by_cases c : a1 = b1
    · subst c
      simp only [if_true] at h1 h2
      by_cases d : a2 = b2
      · subst d
        simp only [if_true] at h1 h2
        rw [hh.tri _ _ h1 h2]
      · have d' : ¬ b2 = a2 := fun e => d e.symm
        rw [if_neg d] at h1
        rw [if_neg d'] at h2
        exact absurd (hg.tri _ _ h1 h2) d
    · have c' : ¬ b1 = a1 := fun e => c e.symm
      rw [if_neg c] at h1
      rw [if_neg c'] at h2
      exact absurd (hf.tri _ _ h1 h2) c
def ltT (lf : α → α → Bool) : List α → List α → Bool
  | [], [] => false
  | [], _ :: _ => true
  | _ :: _, [] => false
  | a :: as, b :: bs => if a = b then ltT lf as bs else lf a b
theorem lexT (hf : OrdE f lf) : ∀ as bs : List α, PyProof.Rows.lexLt PyProof.Rows.itemOrd (PySem.W.keyToksAll (as.map f)) (PySem.W.keyToksAll (bs.map f)) = ltT lf as bs
  | [], [] => lex_nil
  | [], b :: bs => by
    rw [List.map_nil, List.map_cons, PySem.W.toks_all_cons]
    simp only [PySem.W.keyToksAll]
    rw [PyProof.Rows.lex_diff (O := PyProof.Rows.itemOrd) (by simp)]
    rfl
  | a :: as, [] => by
    rw [List.map_nil, List.map_cons, PySem.W.toks_all_cons]
    simp only [PySem.W.keyToksAll]
    rw [PyProof.Rows.lex_diff (O := PyProof.Rows.itemOrd) (by simp)]
    rfl
  | a :: as, b :: bs => by
    rw [List.map_cons, List.map_cons, PySem.W.dataLt_cons (hf.al _ _), hf.e, hf.l, lexT hf as bs, ltT]
    by_cases c : a = b <;> simp [c]
theorem ltT_tri (hf : OrdE f lf) : ∀ as bs : List α, ltT lf as bs = false → ltT lf bs as = false → as = bs
  | [], [], _, _ => rfl
  | [], _ :: _, h, _ => by simp [ltT] at h
  | _ :: _, [], _, h => by simp [ltT] at h
  | a :: as, b :: bs, h1, h2 => by
    unfold ltT at h1 h2
    by_cases c : a = b
    · subst c
      simp only [if_true] at h1 h2
      rw [ltT_tri hf as bs h1 h2]
    · have c' : ¬ b = a := fun e => c e.symm
      rw [if_neg c] at h1
      rw [if_neg c'] at h2
      exact absurd (hf.tri _ _ h1 h2) c
theorem alike_all (hf : OrdE f lf) : ∀ as bs : List α, PySem.W.alikeAll (as.map f) (bs.map f) = true
  | [], [] => by simp [PySem.W.alikeAll]
  | [], _ :: _ => by simp [PySem.W.alikeAll]
  | _ :: _, [] => by simp [PySem.W.alikeAll]
  | a :: as, b :: bs => by simp [PySem.W.alikeAll, hf.al, alike_all hf as bs]
theorem ordT (hf : OrdE f lf) (df : ∀ a, (f a).depth ≤ 30) : OrdE (fun xs : List α => PyData.tuple (xs.map f)) (ltT lf) where
  toEnc := encT hf.toEnc df
  al a b := by simp only [PySem.W.alike]; exact alike_all hf a b
  l a b := by rw [PySem.W.dataLt_tuple, lexT hf]
  n _ := by simp
  tri a b := ltT_tri hf a b
theorem OrdE.kind (o : OrdE f lf) : Kind f where
  a := o.al
  p := o.p
  d x := Nat.le_trans (o.d x) (by decide)
  n := o.n
/-- the order as less or the same -/
def leB (lf : α → α → Bool) (a b : α) : Bool := !lf b a
theorem OrdE.le (o : OrdE f lf) (a b : α) : leD (f a) (f b) = leB lf a b := by
  have : leD (f a) (f b) = !PySem.W.dataLt (f b) (f a) := rfl
  rw [this, o.l]
  rfl
theorem OrdE.trans (o : OrdE f lf) {a b c : α} (h1 : leB lf a b = true) (h2 : leB lf b c = true) : leB lf a c = true := by
  rw [← o.le] at h1 h2 ⊢
  exact leD_total.trans _ _ _ h1 h2
theorem OrdE.total (o : OrdE f lf) (a b : α) : leB lf a b = true ∨ leB lf b a = true := by
  rw [← o.le, ← o.le]
  exact leD_total.total _ _
theorem OrdE.anti (o : OrdE f lf) {a b : α} (h1 : leB lf a b = true) (h2 : leB lf b a = true) : a = b := o.tri a b (by simpa [leB] using h2) (by simpa [leB] using h1)
def sortB (lf : α → α → Bool) (xs : List α) : List α := xs.mergeSort (leB lf)
theorem OrdE.sort (o : OrdE f lf) (xs : List α) : sortD (xs.map f) = (sortB lf xs).map f := by
  rw [sort_map]
  unfold sortB
  congr 2
  funext a b
  exact o.le a b
theorem OrdE.pw (o : OrdE f lf) (xs : List α) : (sortB lf xs).Pairwise fun a b => leB lf a b = true :=
  List.pairwise_mergeSort (le := leB lf) (fun a b c => o.trans) (fun a b => by rw [Bool.or_eq_true]; exact o.total a b) xs
theorem sort_perm (lf : α → α → Bool) (xs : List α) : (sortB lf xs).Perm xs := List.mergeSort_perm _ _
theorem OrdE.lt (o : OrdE f lf) (a b : α) : ltD (f a) (f b) = some (.bool (lf a b)) := by
  unfold ltD cmpOk
  have hd := o.d a
  have hn := o.n a
  have hd' : decide ((f a).depth ≤ 64) = true := by simp; omega
  have hm : (match f a with | .none => false | _ => true) = true := by
    revert hn
    cases f a <;> simp
  rw [o.p, o.p, o.al, o.l, hd', if_pos]
  first | exact hm | (simp only [Bool.and_self, Bool.true_and]; exact hm)
/-- the least of a list -/
theorem minB_le (o : OrdE f lf) : ∀ (xs : List α) (x : α), leB lf (minB lf x xs) x = true ∧ ∀ y ∈ xs, leB lf (minB lf x xs) y = true
  | [], x => ⟨by unfold minB leB; simp [o.irr], fun _ h => nomatch h⟩
  | y :: xs, x => by
    unfold minB
    rw [List.foldl_cons]
    cases c : lf y x with
    | true =>
      obtain ⟨h1, h2⟩ := minB_le o xs y
      have h1' : leB lf (xs.foldl (fun a y => if lf y a = true then y else a) y) y = true := h1
      have hy : leB lf y x = true := by
        rcases o.total y x with h | h
        · exact h
        · unfold leB at h; rw [c] at h; cases h
      simp only [if_true]
      refine ⟨o.trans h1' hy, fun z hz => ?_⟩
      rcases List.mem_cons.1 hz with rfl | hz
      · exact h1'
      · exact h2 z hz
    | false =>
      obtain ⟨h1, h2⟩ := minB_le o xs x
      have h1' : leB lf (xs.foldl (fun a y => if lf y a = true then y else a) x) x = true := h1
      have hy : leB lf x y = true := by unfold leB; rw [c]; rfl
      simp only [Bool.false_eq_true, if_false]
      refine ⟨h1', fun z hz => ?_⟩
      rcases List.mem_cons.1 hz with rfl | hz
      · exact o.trans h1' hy
      · exact h2 z hz
def minO (lf : α → α → Bool) : List α → Option α
  | [] => none
  | x :: xs => some (minB lf x xs)
theorem minO_iff (o : OrdE f lf) {xs : List α} {m : α} : minO lf xs = some m ↔ m ∈ xs ∧ ∀ y ∈ xs, leB lf m y = true := by
  cases xs with
  | nil => simp [minO]
  | cons x xs =>
    have hm := minB_mem (lt := lf) xs x
    have hl := minB_le o xs x
    have hl' : ∀ y ∈ x :: xs, leB lf (minB lf x xs) y = true := fun y hy => by
      rcases List.mem_cons.1 hy with rfl | hy
      · exact hl.1
      · exact hl.2 y hy
    unfold minO
    constructor
    · intro h
      cases h
      exact ⟨hm, hl'⟩
    · rintro ⟨h1, h2⟩
      exact congrArg some (o.anti (hl' m h1) (h2 _ hm))
theorem minO_none {xs : List α} : minO lf xs = none ↔ xs = [] := by cases xs <;> simp [minO]
/-- the first of a sorted list that is good is the least good one -/
theorem sort_find (o : OrdE f lf) (P : α → Bool) (xs : List α) : (sortB lf xs).find? P = minO lf (xs.filter P) := by
  cases c : (sortB lf xs).find? P with
  | none =>
    have : xs.filter P = [] := by
      rw [List.filter_eq_nil_iff]
      intro x hx
      exact List.find?_eq_none.1 c x ((sort_perm lf xs).mem_iff.2 hx)
    rw [this]
    rfl
  | some m =>
    symm
    rw [minO_iff o]
    obtain ⟨hp, as, bs, e, hb⟩ := List.find?_eq_some_iff_append.mp c
    have hm : m ∈ sortB lf xs := List.mem_of_find?_eq_some c
    refine ⟨List.mem_filter.2 ⟨(sort_perm lf xs).mem_iff.1 hm, hp⟩, fun y hy => ?_⟩
    obtain ⟨hy, hpy⟩ := List.mem_filter.1 hy
    have hy := (sort_perm lf xs).mem_iff.2 hy
    have pw := o.pw xs
    rw [e] at hy pw
    rcases List.mem_append.1 hy with hy | hy
    · have := hb y hy
      rw [hpy] at this
      cases this
    · rcases List.mem_cons.1 hy with rfl | hy
      · unfold leB; rw [o.irr]; rfl
      · exact (List.pairwise_cons.1 (List.pairwise_append.1 pw).2.1).1 y hy
theorem OrdE.min (o : OrdE f lf) {xs : List α} {m : α} (h : minO lf xs = some m) : min1D (.list (xs.map f)) = some (f m) := by
  cases xs with
  | nil => cases h
  | cons x xs =>
    cases h
    exact min1_map o.kind o.l x xs
end
end Z

namespace Z
open PySem
section
variable {α β γ δ : Type} [DecidableEq α] [DecidableEq β] [DecidableEq γ] [DecidableEq δ] {f : α → PyData} {g : β → PyData} {h : γ → PyData} {k : δ → PyData}
theorem enc4 (hf : Enc f) (hg : Enc g) (hh : Enc h) (hk : Enc k) (df : ∀ a, (f a).depth ≤ 30) (dg : ∀ a, (g a).depth ≤ 30) (dh : ∀ a, (h a).depth ≤ 30) (dk : ∀ a, (k a).depth ≤ 30) : Enc fun q : α × β × γ × δ => PyData.tuple [f q.1, g q.2.1, h q.2.2.1, k q.2.2.2] where
  e a b := by
    obtain ⟨a1, a2, a3, a4⟩ := a
    obtain ⟨b1, b2, b3, b4⟩ := b
    simp only [PyData.eqv, PyData.eqvAll, hf.e, hg.e, hh.e, hk.e]
    by_cases c : a1 = b1 <;> by_cases d : a2 = b2 <;> by_cases e : a3 = b3 <;> by_cases e' : a4 = b4 <;> simp [c, d, e, e']
  p a := by simp only [PyData.plain, PyData.plainAll, hf.p, hg.p, hh.p, hk.p]; rfl
  d a := by
    have := df a.1
    have := dg a.2.1
    have := dh a.2.2.1
    have := dk a.2.2.2
    simp only [PyData.depth, PyData.depthAll]
    omega
end
def osD : Option Str → PyData
  | none => .none
  | some s => .str s
theorem encOS : Enc osD where
  e a b := by cases a <;> cases b <;> simp [osD, PyData.eqv]; rename_i x y; by_cases c : x = y <;> simp [c]
  p a := by cases a <;> rfl
  d a := by cases a <;> simp [osD, PyData.depth]
@[simp] theorem isNone_os {o : Option Str} : isNoneD (osD o) = o.isNone := by cases o <;> rfl
@[simp] theorem isMut_os {o : Option Str} : isMut (osD o) = false := by cases o <;> rfl
@[simp] theorem isMut_oi {o : Option Int} : isMut (optI o) = false := by cases o <;> rfl
theorem depth_i (n : Int) : (PyData.int n).depth ≤ 30 := by simp [PyData.depth]
theorem depth_s (n : Str) : (PyData.str n).depth ≤ 30 := by simp [PyData.depth]
theorem depth_ts (ns : List Str) : (PyData.tuple (ns.map .str)).depth ≤ 30 := by
  have := depthAll_map (f := PyData.str) (m := 0) (fun x => by simp [PyData.depth]) ns
  simp only [PyData.depth]
  omega
theorem depth_ti (ns : List Int) : (PyData.tuple (ns.map .int)).depth ≤ 30 := by
  have := depth_ints ns
  simp only [PyData.depth]
  omega
section
variable {α κ β : Type} [DecidableEq κ]
theorem getA_mem {k : κ} {v : β} : ∀ {ps : List (κ × β)}, getA ps k = some v → (k, v) ∈ ps
  | [], h => by cases h
  | q :: r, h => by
    unfold getA at h
    split at h
    · rename_i c
      cases h
      rw [← c]
      exact .head _
    · exact .tail _ (getA_mem h)
theorem fold_other (k : α → κ) (v : α → β) {q : κ} : ∀ (xs : List α) (ps : List (κ × β)), (∀ x ∈ xs, k x ≠ q) → getA (xs.foldl (fun ps x => setA ps (k x) (v x)) ps) q = getA ps q
  | [], _, _ => rfl
  | x :: xs, ps, h => by
    rw [List.foldl_cons, fold_other k v xs _ fun y hy => h y (.tail _ hy), getA_setA, if_neg (h x (.head _))]
/-- different keys: each holds its own -/
theorem getA_nodup (k : α → κ) (v : α → β) : ∀ (xs : List α) (ps : List (κ × β)) (x : α), (xs.map k).Nodup → x ∈ xs → getA (xs.foldl (fun ps x => setA ps (k x) (v x)) ps) (k x) = some (v x)
  | y :: xs, ps, x, hn, h => by
    rw [List.map_cons, List.nodup_cons] at hn
    rw [List.foldl_cons]
    rcases List.mem_cons.1 h with rfl | h
    · rw [fold_other k v xs _ fun z hz e => hn.1 (by rw [← e]; exact List.mem_map.2 ⟨z, hz, rfl⟩), getA_setA, if_pos rfl]
    · exact getA_nodup k v xs _ x hn.2 h
end
/-- a comprehension whose turns may turn the names, within a property -/
theorem compW_onE' {α : Type} {g : Tg} {tt : Env → (Bool → Env → Prop) → Prop} {te : Env → (PyData → Env → Prop) → Prop} {vs : List Nat} (e : α → PyData) (p : α → Bool) (f : α → PyData) (E : Env → Prop) (Q : List PyData → Env → Prop) : ∀ (xs : List α) (acc : List PyData) (ρ : Env), E ρ →
    (∀ x ∈ xs, ∀ ρ, E ρ → ∀ R : Bool → PyData → Env → Prop, (∀ ρ', E ρ' → if p x = true then R true (f x) ρ' else R false .none ρ') → asgT g false (e x) ρ fun ρ1 => tt ρ1 fun b ρ2 => if b = true then te ρ2 fun y ρ3 => R true y (wipeE ρ3 vs) else R false .none (wipeE ρ2 vs)) →
    (∀ ρ, E ρ → Q (acc ++ (xs.filter p).map f) ρ) → compW g tt te vs (xs.map e) acc ρ Q
  | [], acc, ρ, h0, h, q => by simpa [compW] using q ρ h0
  | x :: xs, acc, ρ, h0, h, q => by
    rw [List.map_cons, compW]
    have := h x (.head _) ρ h0 (fun b y ρ' => if b = true then compW g tt te vs (xs.map e) (acc ++ [y]) ρ' Q else compW g tt te vs (xs.map e) acc ρ' Q) fun ρ' h' => ?_
    · simpa using this
    · by_cases c : p x = true
      · rw [if_pos c, if_pos rfl]
        exact compW_onE' e p f E Q xs _ ρ' h' (fun y hy => h y (.tail _ hy)) (by simpa [List.filter_cons, c] using q)
      · rw [if_neg c, if_neg (by decide)]
        exact compW_onE' e p f E Q xs _ ρ' h' (fun y hy => h y (.tail _ hy)) (by simpa [List.filter_cons, c] using q)
theorem compW_onE {α : Type} {g : Tg} {tt : Env → (Bool → Env → Prop) → Prop} {te : Env → (PyData → Env → Prop) → Prop} {vs : List Nat} (e : α → PyData) (p : α → Bool) (f : α → PyData) (E : Env → Prop) {Q : List PyData → Env → Prop} {xs : List α} {ρ : Env} (h0 : E ρ)
    (h : ∀ x ∈ xs, ∀ ρ, E ρ → ∀ R : Bool → PyData → Env → Prop, (∀ ρ', E ρ' → if p x = true then R true (f x) ρ' else R false .none ρ') → asgT g false (e x) ρ fun ρ1 => tt ρ1 fun b ρ2 => if b = true then te ρ2 fun y ρ3 => R true y (wipeE ρ3 vs) else R false .none (wipeE ρ2 vs))
    (q : ∀ ρ, E ρ → Q ((xs.filter p).map f) ρ) : compW g tt te vs (xs.map e) [] ρ Q := compW_onE' e p f E Q xs [] ρ h0 h (by simpa using q)
theorem sorted_on {α : Type} [DecidableEq α] {f : α → PyData} {lf : α → α → Bool} (o : OrdE f lf) (ht : ∀ a, ∃ x xs, f a = .tuple (x :: xs)) (xs : List α) : sortedD (.list (xs.map f)) = some (.list ((sortB lf xs).map f)) := by
  show (if sortOk (xs.map f) = true then some (PyData.list (sortD (xs.map f))) else none) = _
  unfold sortOk
  rw [o.kind.ok, o.sort, if_pos]
  rw [Bool.true_and, Bool.or_eq_true]
  left
  rw [List.all_eq_true]
  intro y hy
  obtain ⟨a, _, rfl⟩ := List.mem_map.1 hy
  obtain ⟨x, ys, e⟩ := ht a
  rw [e]
theorem sorted_on0 {α : Type} [DecidableEq α] {f : α → PyData} {lf : α → α → Bool} (o : OrdE f lf) (ht : ∀ a xs, f a ≠ .tuple xs) (xs : List α) : sortedD (.list (xs.map f)) = some (.list ((sortB lf xs).map f)) := by
  show (if sortOk (xs.map f) = true then some (PyData.list (sortD (xs.map f))) else none) = _
  unfold sortOk
  rw [o.kind.ok, o.sort, if_pos]
  rw [Bool.true_and, Bool.or_eq_true]
  right
  rw [List.all_eq_true]
  intro y hy
  obtain ⟨a, _, rfl⟩ := List.mem_map.1 hy
  have := ht a
  revert this
  cases f a <;> simp
theorem sorted_onT {α : Type} [DecidableEq α] {f : α → PyData} {lf : α → α → Bool} (o : OrdE f lf) (ht : ∀ a xs, f a ≠ .tuple xs) (xs : List α) : sortedD (.tuple (xs.map f)) = some (.list ((sortB lf xs).map f)) := sorted_on0 o ht xs
theorem add_ll {xs ys : List PyData} (h : xs.length + ys.length ≤ big) : addD (.list xs) (.list ys) = some (.list (xs ++ ys)) := if_pos h
theorem add_tt {xs ys : List PyData} (h : xs.length + ys.length ≤ big) : addD (.tuple xs) (.tuple ys) = some (.tuple (xs ++ ys)) := if_pos h
theorem anyD_map {α : Type} (f : α → Bool) (l : List α) : anyD (.list (l.map fun x => PyData.bool (f x))) = some (.bool (l.any f)) := by
  show (boolsOf _).map _ = _
  rw [boolsOf_map]
  simp [List.any_map]
theorem filter_lt {α : Type} {P Q : α → Bool} : ∀ {xs : List α} {y : α}, (∀ x ∈ xs, Q x = true → P x = true) → y ∈ xs → P y = true → Q y = false → (xs.filter Q).length < (xs.filter P).length
  | x :: xs, y, h, hy, hp, hq => by
    have hle : ∀ zs : List α, (∀ z ∈ zs, Q z = true → P z = true) → (zs.filter Q).length ≤ (zs.filter P).length := by
      intro zs
      induction zs with
      | nil => intro _; simp
      | cons z zs ih =>
        intro hz
        have := ih fun w hw => hz w (.tail _ hw)
        rw [List.filter_cons, List.filter_cons]
        cases cq : Q z with
        | true =>
          rw [hz z (.head _) cq]
          simp
          omega
        | false =>
          cases P z <;> simp <;> omega
    rw [List.filter_cons, List.filter_cons]
    rcases List.mem_cons.1 hy with rfl | hy
    · rw [hp, hq]
      have := hle xs fun z hz => h z (.tail _ hz)
      simp
      omega
    · have := filter_lt (fun z hz => h z (.tail _ hz)) hy hp hq
      cases cq : Q x with
      | true =>
        rw [h x (.head _) cq]
        simp
        omega
      | false => cases P x <;> simp <;> omega
end Z

/-! an evaluator: on closed things a reading is computed by the kernel -/
namespace Z
open PySem
theorem bnd {α β : Type} {o : Option α} {f : α → Option β} {b : β} (h : o.bind f = some b) : ∃ a, o = some a ∧ f a = some b := Option.bind_eq_some_iff.1 h
abbrev VE := Env → Option (Bool × PyData × Env)
abbrev VT := Env → Option (Bool × Env)
structure VB where
  e : VE
  t : VT
def plainV (v : VE) : VB := ⟨v, fun ρ => (v ρ).bind fun q => (tru q.2.1).bind fun b => some (b, q.2.2)⟩
def varV (i : Nat) : VE := fun ρ => match ρ[i]? with
  | some (.sh d) => some (false, d, ρ)
  | some (.ow d) => some (false, d, ρ.set i (.sh d))
  | _ => none
def opv (e : E) (v : VE) (ρ : Env) : Option (Opd × Env) := match e with
  | .v i => (res ρ (.slot i)).bind fun _ => some (.slot i, ρ)
  | _ => (v ρ).bind fun q => some (.val q.2.1, q.2.2)
def iOf : PyData → Option Int
  | .int n => some n
  | _ => none
def bOf : PyData → Option Bool
  | .bool n => some n
  | _ => none
def lOf (ρ : Env) (i : Nat) : Option (List PyData) := match ρ[i]? with
  | some (.ow (.list ds)) => some ds
  | _ => none
mutual
def asgV : Tg → Bool → PyData → Env → Option Env
  | .nm i, fr, d, ρ => some (ρ.set i (if (fr && isMut d) = true then .ow d else .sh d))
  | .nil, _, d, ρ => match d with
    | .tuple [] => some ρ
    | _ => none
  | .cons t r, _, d, ρ => match d with
    | .tuple ds => asgVs (.cons t r) ds ρ
    | _ => none
def asgVs : Tg → List PyData → Env → Option Env
  | .nil, ds, ρ => match ds with
    | [] => some ρ
    | _ => none
  | .cons t r, ds, ρ => match ds with
    | d :: ds' => (asgV t false d ρ).bind fun ρ' => asgVs r ds' ρ'
    | [] => none
  | .nm _, _, _ => none
end
def compV (g : Tg) (tt : VT) (te : Env → Option (PyData × Env)) (vs : List Nat) : List PyData → List PyData → Env → Option (List PyData × Env)
  | [], acc, ρ => some (acc, ρ)
  | d :: ds, acc, ρ => (asgV g false d ρ).bind fun ρ1 => (tt ρ1).bind fun q =>
    if q.1 = true then (te q.2).bind fun x => compV g tt te vs ds (acc ++ [x.1]) (wipeE x.2 vs) else compV g tt te vs ds acc (wipeE q.2 vs)
def dcompV (g : Tg) (tt : VT) (te : Env → Option (PyData × PyData × Env)) (vs : List Nat) : List PyData → List (PyData × PyData) → Env → Option (List (PyData × PyData) × Env)
  | [], acc, ρ => some (acc, ρ)
  | d :: ds, acc, ρ => (asgV g false d ρ).bind fun ρ1 => (tt ρ1).bind fun q =>
    if q.1 = true then (te q.2).bind fun x => if isKey0 x.1 = true then dcompV g tt te vs ds (putD acc x.1 x.2.1) (wipeE x.2.2 vs) else none else dcompV g tt te vs ds acc (wipeE q.2 vs)
inductive Out where
  | nx (ρ : Env)
  | rt (fr : Bool) (d : PyData) (ρ : Env)
  | bk (ρ : Env)
  | ct (ρ : Env)
def Out.sat (K : Kt) : Out → Prop
  | .nx ρ => K.nx ρ
  | .rt fr d ρ => K.rt fr d ρ
  | .bk ρ => K.bk ρ
  | .ct ρ => K.ct ρ
def forV (g : Tg) (rb : Env → Option Out) : List PyData → Env → Option Out
  | [], ρ => some (.nx ρ)
  | d :: ds, ρ => (asgV g false d ρ).bind fun ρ1 => (rb ρ1).bind fun o => match o with
    | .nx ρ2 => forV g rb ds ρ2
    | .ct ρ2 => forV g rb ds ρ2
    | .bk ρ2 => some (.bk ρ2)
    | .rt fr d ρ2 => some (.rt fr d ρ2)
/-- a while loop: at most so many turns -/
def whV (rc : VT) (rb : Env → Option Out) : Nat → Env → Option Out
  | 0, _ => none
  | n + 1, ρ => (rc ρ).bind fun q => if q.1 = true then (rb q.2).bind fun o => (match o with
    | .nx ρ2 => whV rc rb n ρ2
    | .ct ρ2 => whV rc rb n ρ2
    | .bk ρ2 => some (.nx ρ2)
    | .rt fr d ρ2 => some (.rt fr d ρ2)) else some (.nx q.2)
section
variable (cv : Nat → List PyData → Option (Bool × PyData))
mutual
def ev : E → VB
  | .k c => plainV fun ρ => some (false, c, ρ)
  | .v i => ⟨varV i, fun ρ => (res ρ (.slot i)).bind fun x => (tru x).bind fun b => some (b, ρ)⟩
  | .p1 p a => plainV fun ρ => (opv a (ev a).e ρ).bind fun o => (res o.2 o.1).bind fun x => (Z.p1 p x).bind fun d => some (p.fresh, d, o.2)
  | .p2 p a b => plainV fun ρ => (opv a (ev a).e ρ).bind fun o => (opv b (ev b).e o.2).bind fun o2 => (res o2.2 o.1).bind fun x => (res o2.2 o2.1).bind fun y => (Z.p2 p x y).bind fun d => some (p.fresh, d, o2.2)
  | .p3 p a b c => plainV fun ρ => (opv a (ev a).e ρ).bind fun o => (opv b (ev b).e o.2).bind fun o2 => (res o2.2 o2.1).bind fun y => (iOf y).bind fun i => (opv c (ev c).e o2.2).bind fun o3 => (res o3.2 o.1).bind fun x => (res o3.2 o3.1).bind fun z => (Z.p3 p x (.int i) z).bind fun d => some (p.fresh, d, o3.2)
  | .m1 p a b => plainV fun ρ => (opv a (ev a).e ρ).bind fun o => (res o.2 o.1).bind fun x1 => if recv p x1 = true then ((ev b).e o.2).bind fun y => (res y.2.2 o.1).bind fun x => if kindN x1 = kindN x then (Z.p2 p x y.2.1).bind fun d => some (p.fresh, d, y.2.2) else none else none
  | .m2 p a b c => plainV fun ρ => (opv a (ev a).e ρ).bind fun o => (res o.2 o.1).bind fun x1 => if recv p x1 = true then ((ev b).e o.2).bind fun y => ((ev c).e y.2.2).bind fun z => (res z.2.2 o.1).bind fun x => if kindN x1 = kindN x then (Z.p3 p x y.2.1 z.2.1).bind fun d => some (p.fresh, d, z.2.2) else none else none
  | .chain p q a b c => plainV fun ρ => (opv a (ev a).e ρ).bind fun o => (opv b (ev b).e o.2).bind fun o2 => (res o2.2 o.1).bind fun x => (res o2.2 o2.1).bind fun y => (Z.p2 p x y).bind fun d => (bOf d).bind fun t =>
      if t = true then (opv c (ev c).e o2.2).bind fun o3 => (res o3.2 o2.1).bind fun y => (res o3.2 o3.1).bind fun z => (Z.p2 q y z).bind fun d2 => (bOf d2).bind fun t2 => some (false, .bool t2, o3.2) else some (false, .bool false, o2.2)
  | .and_ a b => ⟨fun ρ => ((ev a).e ρ).bind fun q => (tru q.2.1).bind fun t => if t = true then ((ev b).e q.2.2).bind fun r => some (false, r.2.1, r.2.2) else some (false, q.2.1, q.2.2),
      fun ρ => ((ev a).t ρ).bind fun q => if q.1 = true then (ev b).t q.2 else some (false, q.2)⟩
  | .or_ a b => ⟨fun ρ => ((ev a).e ρ).bind fun q => (tru q.2.1).bind fun t => if t = true then some (false, q.2.1, q.2.2) else ((ev b).e q.2.2).bind fun r => some (false, r.2.1, r.2.2),
      fun ρ => ((ev a).t ρ).bind fun q => if q.1 = true then some (true, q.2) else (ev b).t q.2⟩
  | .not_ a => ⟨fun ρ => (opv a (ev a).e ρ).bind fun o => (res o.2 o.1).bind fun x => (tru x).bind fun b => some (false, .bool (!b), o.2), fun ρ => ((ev a).t ρ).bind fun q => some (!q.1, q.2)⟩
  | .ite c a b => ⟨fun ρ => ((ev c).t ρ).bind fun q => if q.1 = true then (ev a).e q.2 else (ev b).e q.2, fun ρ => ((ev c).t ρ).bind fun q => if q.1 = true then (ev a).t q.2 else (ev b).t q.2⟩
  | .tup es => plainV fun ρ => (evEs es ρ).bind fun q => some (false, .tuple q.1, q.2)
  | .lst es => plainV fun ρ => (evEs es ρ).bind fun q => some (true, .list q.1, q.2)
  | .dct es => plainV fun ρ => (evPs es ρ).bind fun q => if (q.1.all fun p => flatKey p.1) = true ∧ q.1.length ≤ 15 then some (true, .dict (mergeD [] q.1), q.2) else none
  | .call f es => plainV fun ρ => (evEs es ρ).bind fun q => (cv f q.1).bind fun r => some (r.1, r.2, q.2)
  | .lc g it ifs vs e => plainV fun ρ => (evI it ρ).bind fun q => (compV g (evIfs ifs) (fun ρ' => ((ev e).e ρ').bind fun r => some r.2) vs q.2.1 [] (wipeE q.2.2 vs)).bind fun a => some (true, .list a.1, unlock (restE q.2.2 a.2 vs) q.1)
  | .dc g it ifs vs a b => plainV fun ρ => (evI it ρ).bind fun q => (dcompV g (evIfs ifs) (fun ρ' => ((ev a).e ρ').bind fun r => ((ev b).e r.2.2).bind fun s => some (r.2.1, s.2)) vs q.2.1 [] (wipeE q.2.2 vs)).bind fun a => some (true, .dict a.1, unlock (restE q.2.2 a.2 vs) q.1)
  | .rngL it => plainV fun ρ => (evI it ρ).bind fun q => if q.1 = [] ∧ q.2.1.length ≤ big then some (true, .list q.2.1, q.2.2) else none
  | _ => plainV fun _ => none
def evEs : Es → Env → Option (List PyData × Env)
  | .nil => fun ρ => some ([], ρ)
  | .cons e r => fun ρ => ((ev e).e ρ).bind fun q => (evEs r q.2.2).bind fun s => some (q.2.1 :: s.1, s.2)
def evPs : Es → Env → Option (List (PyData × PyData) × Env)
  | .nil => fun ρ => some ([], ρ)
  | .cons _ .nil => fun _ => none
  | .cons e (.cons f r) => fun ρ => ((ev e).e ρ).bind fun x => ((ev f).e x.2.2).bind fun y => (evPs r y.2.2).bind fun s => some ((x.2.1, y.2.1) :: s.1, s.2)
def evIfs : Es → VT
  | .nil => fun ρ => some (true, ρ)
  | .cons e r => fun ρ => ((ev e).t ρ).bind fun q => if q.1 = true then evIfs r q.2 else some (false, q.2)
def evI : I → Env → Option (List Nat × List PyData × Env)
  | .val e => fun ρ => (opv e (ev e).e ρ).bind fun o => (res o.2 o.1).bind fun x => walkOf o.2 o.1 x
  | .rng1 a => fun ρ => (opv a (ev a).e ρ).bind fun o => (res o.2 o.1).bind fun x => (iOf x).bind fun n => if -lim ≤ n ∧ n ≤ 16777216 then some ([], ups 0 n.toNat, o.2) else none
  | .rng2 a b => fun ρ => (opv a (ev a).e ρ).bind fun o => (opv b (ev b).e o.2).bind fun o2 => (res o2.2 o.1).bind fun x => (res o2.2 o2.1).bind fun y => (iOf x).bind fun i => (iOf y).bind fun j => if -lim ≤ i ∧ i < lim ∧ -lim ≤ j ∧ j < lim ∧ j - i ≤ 16777216 then some ([], ups i (j - i).toNat, o2.2) else none
  | .enum e => fun ρ => (opv e (ev e).e ρ).bind fun o => (res o.2 o.1).bind fun x => (seqD x).bind fun ds => some ((lock o.2 o.1).2, enumD ds, (lock o.2 o.1).1)
  | .zip a b => fun ρ => (opv a (ev a).e ρ).bind fun o => (opv b (ev b).e o.2).bind fun o2 => (res o2.2 o.1).bind fun x => (res o2.2 o2.1).bind fun y => (seqD x).bind fun xs => (seqD y).bind fun ys => some ((lock (lock o2.2 o.1).1 o2.1).2 ++ (lock o2.2 o.1).2, zipD xs ys, (lock (lock o2.2 o.1).1 o2.1).1)
  | _ => fun _ => none
end
def evFs : Es → Env → Option (List (Bool × PyData) × Env)
  | .nil => fun ρ => some ([], ρ)
  | .cons e r => fun ρ => ((ev cv e).e ρ).bind fun q => (evFs r q.2.2).bind fun s => some ((q.1, q.2.1) :: s.1, s.2)
def evRet (e : E) (ρ : Env) : Option (Bool × PyData × Env) := match e with
  | .v i => (ρ[i]?).bind fun s => match s with
      | .sh d => some (false, d, ρ)
      | .ow d => some (true, d, ρ.set i .no)
      | _ => none
  | _ => (ev cv e).e ρ
mutual
def evS : S → Env → Option Out
  | .asg g e => fun ρ => ((ev cv e).e ρ).bind fun q => (asgV g q.1 q.2.1 q.2.2).bind fun ρ2 => some (.nx ρ2)
  | .par is es => fun ρ => (evFs cv es ρ).bind fun q => if q.1.length = is.length then some (.nx (setAll q.2 is q.1)) else none
  | .setix i ix e => fun ρ => ((ev cv e).e ρ).bind fun q => (res q.2.2 (.slot i)).bind fun _ => ((ev cv ix).e q.2.2).bind fun r => (r.2.2[i]?).bind fun s => (setD s r.2.1 q.2.1).bind fun s' => some (.nx (r.2.2.set i s'))
  | .app i e => fun ρ => (lOf ρ i).bind fun _ => ((ev cv e).e ρ).bind fun q => (lOf q.2.2 i).bind fun ds => if ds.length < big then some (.nx (q.2.2.set i (.ow (.list (ds ++ [q.2.1]))))) else none
  | .ex e => fun ρ => ((ev cv e).e ρ).bind fun q => some (.nx q.2.2)
  | .ife c a b => fun ρ => ((ev cv c).t ρ).bind fun q => if q.1 = true then evB a q.2 else evB b q.2
  | .for_ g it b => fun ρ => (evI cv it ρ).bind fun q => (forV g (evB b) q.2.1 q.2.2).bind fun o => match o with
      | .nx ρ' => some (.nx (unlock ρ' q.1))
      | .bk ρ' => some (.nx (unlock ρ' q.1))
      | .rt fr d ρ' => some (.rt fr d (unlock ρ' q.1))
      | .ct _ => none
  | .wh c b => fun ρ => whV (ev cv c).t (evB b) 400 ρ
  | .ret e => fun ρ => (evRet cv e ρ).bind fun q => some (.rt q.1 q.2.1 q.2.2)
  | .brk => fun ρ => some (.bk ρ)
  | .cnt => fun ρ => some (.ct ρ)
  | .nop => fun ρ => some (.nx ρ)
  | _ => fun _ => none
def evB : Ss → Env → Option Out
  | .nil => fun ρ => some (.nx ρ)
  | .cons s r => fun ρ => (evS s ρ).bind fun o => match o with
      | .nx ρ' => evB r ρ'
      | o => some o
end
end
end Z

/-! what the evaluator says is true of the reading -/
namespace Z
open PySem
def SE (v : VE) (r : RE) : Prop := ∀ ρ fr d ρ' (Q : QE), v ρ = some (fr, d, ρ') → Q fr d ρ' → r ρ Q
def ST (v : VT) (r : RT) : Prop := ∀ ρ b ρ' (Q : Bool → Env → Prop), v ρ = some (b, ρ') → Q b ρ' → r ρ Q
theorem plain_s {v : VE} {r : RE} (h : SE v r) : SE (plainV v).e (plainT r).e ∧ ST (plainV v).t (plainT r).t := by
  refine ⟨h, fun ρ b ρ' Q e q => ?_⟩
  obtain ⟨⟨fr, d, ρ1⟩, h1, e⟩ := bnd e
  obtain ⟨b', h2, e⟩ := bnd e
  cases e
  exact h ρ fr d ρ1 _ h1 ⟨_, h2, q⟩
theorem var_s (i : Nat) : SE (varV i) (rdVar i) := by
  intro ρ fr d ρ' Q e q
  unfold varV at e
  unfold rdVar
  split at e
  · cases e; rename_i h; first | exact q | (rw [h]; exact q)
  · cases e; rename_i h; first | exact q | (rw [h]; exact q)
  · cases e
theorem opd_s {e : E} {v : VE} {r : RE} {ρ ρ' : Env} {o : Opd} {K : Opd → Env → Prop} (h : SE v r) (e1 : opv e v ρ = some (o, ρ')) (k : K o ρ') : opd e r ρ K := by
  cases e
  case v i =>
    obtain ⟨a, h1, e2⟩ := bnd e1
    cases e2
    exact ⟨a, h1, k⟩
  all_goals
    obtain ⟨⟨fr, d, ρ1⟩, h1, e2⟩ := bnd e1
    cases e2
    exact h _ _ _ _ _ h1 k
theorem iOf_s {x : PyData} {n : Int} {Q : Int → Prop} (h : iOf x = some n) (q : Q n) : mustI x Q := by
  cases x <;> first | (cases h; exact q) | cases h
theorem bOf_s {x : PyData} {n : Bool} {Q : Bool → Prop} (h : bOf x = some n) (q : Q n) : mustB x Q := by
  cases x <;> first | (cases h; exact q) | cases h
theorem lOf_s {ρ : Env} {i : Nat} {ds : List PyData} {Q : List PyData → Prop} (h : lOf ρ i = some ds) (q : Q ds) : mustL ρ i Q := by
  unfold lOf at h
  unfold mustL
  split at h
  · rename_i h1; cases h; first | exact q | (rw [h1]; exact q)
  · cases h
mutual
theorem asg_s : ∀ (g : Tg) (fr : Bool) (d : PyData) (ρ ρ' : Env) (K : Env → Prop), asgV g fr d ρ = some ρ' → K ρ' → asgT g fr d ρ K
  | .nm i, fr, d, ρ, ρ', K, e, k => by
    rw [asgV] at e; cases e
    rw [asgT]; exact k
  | .nil, fr, d, ρ, ρ', K, e, k => by
    unfold asgV at e
    unfold asgT
    split at e
    · cases e; exact k
    · cases e
  | .cons t r, fr, d, ρ, ρ', K, e, k => by
    unfold asgV at e
    unfold asgT
    split at e
    · exact asgs_s (.cons t r) _ ρ ρ' K e k
    · cases e
theorem asgs_s : ∀ (g : Tg) (ds : List PyData) (ρ ρ' : Env) (K : Env → Prop), asgVs g ds ρ = some ρ' → K ρ' → asgTs g ds ρ K
  | .nil, ds, ρ, ρ', K, e, k => by
    unfold asgVs at e
    unfold asgTs
    split at e
    · cases e; exact ⟨rfl, k⟩
    · cases e
  | .cons t r, [], ρ, ρ', K, e, k => by
    unfold asgVs at e; cases e
  | .cons t r, d :: ds, ρ, ρ', K, e, k => by
    unfold asgVs at e
    unfold asgTs
    obtain ⟨ρ1, h1, h2⟩ := bnd e
    exact asg_s t false d ρ ρ1 _ h1 (asgs_s r ds ρ1 ρ' K h2 k)
  | .nm i, ds, ρ, ρ', K, e, k => by
    unfold asgVs at e; cases e
end
theorem comp_s {g : Tg} {vt : VT} {tt : RT} {ve : Env → Option (PyData × Env)} {te : Env → (PyData → Env → Prop) → Prop} {vs : List Nat} (ht : ST vt tt) (he : ∀ ρ d ρ' Q, ve ρ = some (d, ρ') → Q d ρ' → te ρ Q) :
    ∀ (ds acc : List PyData) (ρ : Env) (a : List PyData) (ρ' : Env) (Q : List PyData → Env → Prop), compV g vt ve vs ds acc ρ = some (a, ρ') → Q a ρ' → compW g tt te vs ds acc ρ Q
  | [], acc, ρ, a, ρ', Q, e, q => by
    rw [compV] at e; cases e
    rw [compW]; exact q
  | d :: ds, acc, ρ, a, ρ', Q, e, q => by
    rw [compV] at e
    rw [compW]
    obtain ⟨ρ1, h1, e⟩ := bnd e
    obtain ⟨⟨b, ρ2⟩, h2, e⟩ := bnd e
    refine asg_s g false d ρ ρ1 _ h1 (ht _ _ _ _ h2 ?_)
    cases b with
    | true =>
      obtain ⟨⟨x, ρ3⟩, h3, e⟩ := bnd e
      exact he _ _ _ _ h3 (comp_s ht he ds _ _ a ρ' Q e q)
    | false => exact comp_s ht he ds _ _ a ρ' Q e q
theorem dcomp_s {g : Tg} {vt : VT} {tt : RT} {ve : Env → Option (PyData × PyData × Env)} {te : Env → (PyData → PyData → Env → Prop) → Prop} {vs : List Nat} (ht : ST vt tt) (he : ∀ ρ x y ρ' Q, ve ρ = some (x, y, ρ') → Q x y ρ' → te ρ Q) :
    ∀ (ds : List PyData) (acc : List (PyData × PyData)) (ρ : Env) (a : List (PyData × PyData)) (ρ' : Env) (Q : List (PyData × PyData) → Env → Prop), dcompV g vt ve vs ds acc ρ = some (a, ρ') → Q a ρ' → dcompW g tt te vs ds acc ρ Q
  | [], acc, ρ, a, ρ', Q, e, q => by
    rw [dcompV] at e; cases e
    rw [dcompW]; exact q
  | d :: ds, acc, ρ, a, ρ', Q, e, q => by
    rw [dcompV] at e
    rw [dcompW]
    obtain ⟨ρ1, h1, e⟩ := bnd e
    obtain ⟨⟨b, ρ2⟩, h2, e⟩ := bnd e
    refine asg_s g false d ρ ρ1 _ h1 (ht _ _ _ _ h2 ?_)
    cases b with
    | true =>
      obtain ⟨⟨x, y, ρ3⟩, h3, e⟩ := bnd e
      refine he _ _ _ _ _ h3 ?_
      dsimp only at e
      split at e
      · rename_i c
        exact ⟨c, dcomp_s ht he ds _ _ a ρ' Q e q⟩
      · cases e
    | false => exact dcomp_s ht he ds _ _ a ρ' Q e q
def SB (v : Env → Option Out) (r : Env → Kt → Prop) : Prop := ∀ ρ o K, v ρ = some o → o.sat K → r ρ K
theorem for_s {g : Tg} {vb : Env → Option Out} {rb : Env → Kt → Prop} (hb : SB vb rb) : ∀ (ds : List PyData) (ρ : Env) (o : Out) (K : Kt), forV g vb ds ρ = some o → (match o with | .nx ρ' => K.nx ρ' | .bk ρ' => K.bk ρ' | .rt fr d ρ' => K.rt fr d ρ' | .ct _ => False) → forW g rb K ds ρ
  | [], ρ, o, K, e, k => by
    rw [forV] at e; cases e
    rw [forW]; exact k
  | d :: ds, ρ, o, K, e, k => by
    rw [forV] at e
    rw [forW]
    obtain ⟨ρ1, h1, e⟩ := bnd e
    obtain ⟨o1, h2, e⟩ := bnd e
    refine asg_s g false d ρ ρ1 _ h1 (hb _ _ _ h2 ?_)
    cases o1 with
    | nx ρ2 => exact for_s hb ds ρ2 o K e k
    | ct ρ2 => exact for_s hb ds ρ2 o K e k
    | bk ρ2 => cases e; exact k
    | rt fr d ρ2 => cases e; exact k
def Out.end (K : Kt) : Out → Prop
  | .nx ρ' => K.nx ρ'
  | .rt fr d ρ' => K.rt fr d ρ'
  | _ => False
theorem wh_s {vc : VT} {rc : RT} {vb : Env → Option Out} {rb : Env → Kt → Prop} (hc : ST vc rc) (hb : SB vb rb) (n : Nat) (ρ : Env) (o : Out) (K : Kt) (e : whV vc vb n ρ = some o) (k : o.end K) : whW rc rb ρ K := by
  refine ⟨fun m ρ' => ∃ o, whV vc vb m ρ' = some o ∧ o.end K, ⟨n, o, e, k⟩, ?_⟩
  rintro m ρ ⟨o, e, k⟩
  cases m with
  | zero => rw [whV] at e; cases e
  | succ m =>
    rw [whV] at e
    obtain ⟨⟨b, ρ1⟩, h1, e⟩ := bnd e
    refine hc _ _ _ _ h1 ?_
    cases b with
    | false => cases e; exact k
    | true =>
      obtain ⟨o1, h2, e⟩ := bnd e
      refine hb _ _ _ h2 ?_
      cases o1 with
      | nx ρ2 => exact ⟨m, Nat.lt_succ_self _, o, e, k⟩
      | ct ρ2 => exact ⟨m, Nat.lt_succ_self _, o, e, k⟩
      | bk ρ2 => cases e; exact k
      | rt fr d ρ2 => cases e; exact k
section
variable {cv : Nat → List PyData → Option (Bool × PyData)} {Φ : Nat → Spc} (hcv : ∀ f ds fr d K, cv f ds = some (fr, d) → K fr d → Φ f ds K)
include hcv
omit hcv in
def SV (v : VB) (r : RB) : Prop := SE v.e r.e ∧ ST v.t r.t
omit hcv in
theorem none_s {v : VE} {r : RE} (h : v = fun _ => none) : SE v r := by subst h; intro ρ fr d ρ' Q e; cases e
mutual
theorem ev_s : ∀ e : E, SV (ev cv e) (rd Φ e)
  | .k c => plain_s fun ρ fr d ρ' Q h q => by cases h; exact q
  | .v i => ⟨var_s i, fun ρ b ρ' Q h q => by
      obtain ⟨x, h1, h⟩ := bnd h
      obtain ⟨y, h2, h⟩ := bnd h
      cases h
      exact ⟨x, h1, _, h2, q⟩⟩
  | .p1 p a => plain_s fun ρ fr d ρ' Q h q => by
      obtain ⟨⟨o, ρ1⟩, h1, h⟩ := bnd h
      obtain ⟨x, h2, h⟩ := bnd h
      obtain ⟨y, h3, h⟩ := bnd h
      cases h
      exact opd_s (ev_s a).1 h1 ⟨x, h2, _, h3, q⟩
  | .p2 p a b => plain_s fun ρ fr d ρ' Q h q => by
      obtain ⟨⟨o, ρ1⟩, h1, h⟩ := bnd h
      obtain ⟨⟨o2, ρ2⟩, h2, h⟩ := bnd h
      obtain ⟨x, h3, h⟩ := bnd h
      obtain ⟨y, h4, h⟩ := bnd h
      obtain ⟨z, h5, h⟩ := bnd h
      cases h
      exact opd_s (ev_s a).1 h1 (opd_s (ev_s b).1 h2 ⟨x, h3, y, h4, _, h5, q⟩)
  | .p3 p a b c => plain_s fun ρ fr d ρ' Q h q => by
      obtain ⟨⟨o, ρ1⟩, h1, h⟩ := bnd h
      obtain ⟨⟨o2, ρ2⟩, h2, h⟩ := bnd h
      obtain ⟨y, h3, h⟩ := bnd h
      obtain ⟨i, h4, h⟩ := bnd h
      obtain ⟨⟨o3, ρ3⟩, h5, h⟩ := bnd h
      obtain ⟨x, h6, h⟩ := bnd h
      obtain ⟨z, h7, h⟩ := bnd h
      obtain ⟨w, h8, h⟩ := bnd h
      cases h
      refine opd_s (ev_s a).1 h1 (opd_s (ev_s b).1 h2 ⟨y, h3, iOf_s h4 ?_⟩)
      refine opd_s (ev_s c).1 h5 ?_
      exact ⟨x, h6, z, h7, _, h8, q⟩
  | .m1 p a b => plain_s fun ρ fr d ρ' Q h q => by
      obtain ⟨⟨o, ρ1⟩, h1, h⟩ := bnd h
      obtain ⟨x1, h2, h⟩ := bnd h
      dsimp only at h
      split at h
      · rename_i c1
        obtain ⟨⟨f1, y, ρ2⟩, h3, h⟩ := bnd h
        obtain ⟨x, h4, h⟩ := bnd h
        dsimp only at h
        split at h
        · rename_i c2
          obtain ⟨w, h5, h⟩ := bnd h
          cases h
          exact opd_s (ev_s a).1 h1 ⟨x1, h2, c1, (ev_s b).1 _ _ _ _ _ h3 ⟨x, h4, c2, _, h5, q⟩⟩
        · cases h
      · cases h
  | .m2 p a b c => plain_s fun ρ fr d ρ' Q h q => by
      obtain ⟨⟨o, ρ1⟩, h1, h⟩ := bnd h
      obtain ⟨x1, h2, h⟩ := bnd h
      dsimp only at h
      split at h
      · rename_i c1
        obtain ⟨⟨f1, y, ρ2⟩, h3, h⟩ := bnd h
        obtain ⟨⟨f2, z, ρ3⟩, h3', h⟩ := bnd h
        obtain ⟨x, h4, h⟩ := bnd h
        dsimp only at h
        split at h
        · rename_i c2
          obtain ⟨w, h5, h⟩ := bnd h
          cases h
          exact opd_s (ev_s a).1 h1 ⟨x1, h2, c1, (ev_s b).1 _ _ _ _ _ h3 ((ev_s c).1 _ _ _ _ _ h3' ⟨x, h4, c2, _, h5, q⟩)⟩
        · cases h
      · cases h
  | .chain p p' a b c => plain_s fun ρ fr d ρ' Q h q => by
      obtain ⟨⟨o, ρ1⟩, h1, h⟩ := bnd h
      obtain ⟨⟨o2, ρ2⟩, h2, h⟩ := bnd h
      obtain ⟨x, h3, h⟩ := bnd h
      obtain ⟨y, h4, h⟩ := bnd h
      obtain ⟨z, h5, h⟩ := bnd h
      obtain ⟨t, h6, h⟩ := bnd h
      refine opd_s (ev_s a).1 h1 (opd_s (ev_s b).1 h2 ⟨x, h3, y, h4, z, h5, bOf_s h6 ?_⟩)
      cases t with
      | true =>
        obtain ⟨⟨o3, ρ3⟩, g1, h⟩ := bnd h
        obtain ⟨y2, g2, h⟩ := bnd h
        obtain ⟨z2, g3, h⟩ := bnd h
        obtain ⟨d2, g4, h⟩ := bnd h
        obtain ⟨t2, g5, h⟩ := bnd h
        cases h
        rw [if_pos rfl]
        refine opd_s (ev_s c).1 g1 ?_
        exact ⟨y2, g2, z2, g3, d2, g4, bOf_s g5 q⟩
      | false => cases h; exact q
  | .and_ a b => ⟨fun ρ fr d ρ' Q h q => by
      obtain ⟨⟨f1, x, ρ1⟩, h1, h⟩ := bnd h
      obtain ⟨t, h2, h⟩ := bnd h
      refine (ev_s a).1 _ _ _ _ _ h1 ⟨t, h2, ?_⟩
      cases t with
      | true =>
        obtain ⟨⟨f2, y, ρ2⟩, h3, h⟩ := bnd h
        cases h
        exact (ev_s b).1 _ _ _ _ _ h3 q
      | false => cases h; exact q, fun ρ b' ρ' Q h q => by
      obtain ⟨⟨t, ρ1⟩, h1, h⟩ := bnd h
      refine (ev_s a).2 _ _ _ _ h1 ?_
      cases t with
      | true => exact (ev_s b).2 _ _ _ _ h q
      | false => cases h; exact q⟩
  | .or_ a b => ⟨fun ρ fr d ρ' Q h q => by
      obtain ⟨⟨f1, x, ρ1⟩, h1, h⟩ := bnd h
      obtain ⟨t, h2, h⟩ := bnd h
      refine (ev_s a).1 _ _ _ _ _ h1 ⟨t, h2, ?_⟩
      cases t with
      | false =>
        obtain ⟨⟨f2, y, ρ2⟩, h3, h⟩ := bnd h
        cases h
        exact (ev_s b).1 _ _ _ _ _ h3 q
      | true => cases h; exact q, fun ρ b' ρ' Q h q => by
      obtain ⟨⟨t, ρ1⟩, h1, h⟩ := bnd h
      refine (ev_s a).2 _ _ _ _ h1 ?_
      cases t with
      | false => exact (ev_s b).2 _ _ _ _ h q
      | true => cases h; exact q⟩
  | .not_ a => ⟨fun ρ fr d ρ' Q h q => by
      obtain ⟨⟨o, ρ1⟩, h1, h⟩ := bnd h
      obtain ⟨x, h2, h⟩ := bnd h
      obtain ⟨t, h3, h⟩ := bnd h
      cases h
      rw [rd_not]
      dsimp only
      refine opd_s (ev_s a).1 h1 ?_
      exact ⟨x, h2, t, h3, q⟩, fun ρ b' ρ' Q h q => by
      obtain ⟨⟨t, ρ1⟩, h1, h⟩ := bnd h
      cases h
      exact (ev_s a).2 _ _ _ _ h1 q⟩
  | .ite c a b => ⟨fun ρ fr d ρ' Q h q => by
      obtain ⟨⟨t, ρ1⟩, h1, h⟩ := bnd h
      refine (ev_s c).2 _ _ _ _ h1 ?_
      cases t with
      | true => exact (ev_s a).1 _ _ _ _ _ h q
      | false => exact (ev_s b).1 _ _ _ _ _ h q, fun ρ b' ρ' Q h q => by
      obtain ⟨⟨t, ρ1⟩, h1, h⟩ := bnd h
      refine (ev_s c).2 _ _ _ _ h1 ?_
      cases t with
      | true => exact (ev_s a).2 _ _ _ _ h q
      | false => exact (ev_s b).2 _ _ _ _ h q⟩
  | .tup es => plain_s fun ρ fr d ρ' Q h q => by
      obtain ⟨⟨ds, ρ1⟩, h1, h⟩ := bnd h
      cases h
      exact evEs_s es _ _ _ h1 q
  | .lst es => plain_s fun ρ fr d ρ' Q h q => by
      obtain ⟨⟨ds, ρ1⟩, h1, h⟩ := bnd h
      cases h
      exact evEs_s es _ _ _ h1 q
  | .dct es => plain_s fun ρ fr d ρ' Q h q => by
      obtain ⟨⟨ds, ρ1⟩, h1, h⟩ := bnd h
      dsimp only at h
      split at h
      · rename_i c
        cases h
        refine evPs_s es _ _ _ h1 ?_
        exact ⟨c.1, c.2, q⟩
      · cases h
  | .call f es => plain_s fun ρ fr d ρ' Q h q => by
      obtain ⟨⟨ds, ρ1⟩, h1, h⟩ := bnd h
      obtain ⟨⟨f1, r⟩, h2, h⟩ := bnd h
      cases h
      exact evEs_s es _ _ _ h1 (hcv _ _ _ _ _ h2 q)
  | .lc g it ifs vs e => plain_s fun ρ fr d ρ' Q h q => by
      obtain ⟨⟨ls, ds, ρ1⟩, h1, h⟩ := bnd h
      obtain ⟨⟨a, ρ2⟩, h2, h⟩ := bnd h
      cases h
      refine evI_s it _ _ _ _ h1 (comp_s (evIfs_s ifs) (fun ρ d ρ' Q h q => ?_) _ _ _ _ _ _ h2 q)
      obtain ⟨⟨f2, y, ρ3⟩, h3, h⟩ := bnd h
      cases h
      exact (ev_s e).1 _ _ _ _ _ h3 q
  | .dc g it ifs vs a b => plain_s fun ρ fr d ρ' Q h q => by
      obtain ⟨⟨ls, ds, ρ1⟩, h1, h⟩ := bnd h
      obtain ⟨⟨a', ρ2⟩, h2, h⟩ := bnd h
      cases h
      refine evI_s it _ _ _ _ h1 (dcomp_s (evIfs_s ifs) (fun ρ x y ρ' Q h q => ?_) _ _ _ _ _ _ h2 q)
      obtain ⟨⟨f2, y, ρ3⟩, h3, h⟩ := bnd h
      obtain ⟨⟨f3, z, ρ4⟩, h4, h⟩ := bnd h
      cases h
      exact (ev_s a).1 _ _ _ _ _ h3 ((ev_s b).1 _ _ _ _ _ h4 q)
  | .rngL it => plain_s fun ρ fr d ρ' Q h q => by
      obtain ⟨⟨ls, ds, ρ1⟩, h1, h⟩ := bnd h
      dsimp only at h
      split at h
      · rename_i c
        cases h
        refine evI_s it _ _ _ _ h1 ?_
        exact ⟨c.1, c.2, q⟩
      · cases h
  | .calld _ _ _ => plain_s (none_s rfl)
  | .nxt _ _ => plain_s (none_s rfl)
  | .rngT _ => plain_s (none_s rfl)
  | .pop _ => plain_s (none_s rfl)
  | .popAt _ _ => plain_s (none_s rfl)
  | .dix _ _ => plain_s (none_s rfl)
theorem evEs_s : ∀ (es : Es) (ρ : Env) (ds : List PyData) (ρ' : Env) {Q : List PyData → Env → Prop}, evEs cv es ρ = some (ds, ρ') → Q ds ρ' → rdEs Φ es ρ Q
  | .nil, ρ, ds, ρ', Q, h, q => by cases h; exact q
  | .cons e r, ρ, ds, ρ', Q, h, q => by
      obtain ⟨⟨f1, x, ρ1⟩, h1, h⟩ := bnd h
      obtain ⟨⟨y, ρ2⟩, h2, h⟩ := bnd h
      cases h
      exact (ev_s e).1 _ _ _ _ _ h1 (evEs_s r _ _ _ h2 q)
theorem evPs_s : ∀ (es : Es) (ρ : Env) (ds : List (PyData × PyData)) (ρ' : Env) {Q : List (PyData × PyData) → Env → Prop}, evPs cv es ρ = some (ds, ρ') → Q ds ρ' → rdPs Φ es ρ Q
  | .nil, ρ, ds, ρ', Q, h, q => by cases h; exact q
  | .cons _ .nil, ρ, ds, ρ', Q, h, q => by cases h
  | .cons e (.cons f r), ρ, ds, ρ', Q, h, q => by
      obtain ⟨⟨f1, x, ρ1⟩, h1, h⟩ := bnd h
      obtain ⟨⟨f2, y, ρ2⟩, h2, h⟩ := bnd h
      obtain ⟨⟨z, ρ3⟩, h3, h⟩ := bnd h
      cases h
      exact (ev_s e).1 _ _ _ _ _ h1 ((ev_s f).1 _ _ _ _ _ h2 (evPs_s r _ _ _ h3 q))
theorem evIfs_s : ∀ es : Es, ST (evIfs cv es) (rdIfs Φ es)
  | .nil => fun ρ b ρ' Q h q => by cases h; exact q
  | .cons e r => fun ρ b ρ' Q h q => by
      obtain ⟨⟨t, ρ1⟩, h1, h⟩ := bnd h
      refine (ev_s e).2 _ _ _ _ h1 ?_
      cases t with
      | true => exact evIfs_s r _ _ _ _ h q
      | false => cases h; exact q
theorem evI_s : ∀ (it : I) (ρ : Env) (ls : List Nat) (ds : List PyData) (ρ' : Env) {Q : List Nat → List PyData → Env → Prop}, evI cv it ρ = some (ls, ds, ρ') → Q ls ds ρ' → rdI Φ it ρ Q
  | .val e, ρ, ls, ds, ρ', Q, h, q => by
      rw [rdI_val]
      obtain ⟨⟨o, ρ1⟩, h1, h⟩ := bnd h
      obtain ⟨x, h2, h3⟩ := bnd h
      refine opd_s (ev_s e).1 h1 ?_
      exact ⟨x, h2, (ls, ds, ρ'), h3, q⟩
  | .rng1 a, ρ, ls, ds, ρ', Q, h, q => by
      rw [rdI_rng1]
      obtain ⟨⟨o, ρ1⟩, h1, h⟩ := bnd h
      obtain ⟨x, h2, h⟩ := bnd h
      obtain ⟨n, h3, h⟩ := bnd h
      dsimp only at h
      split at h
      · rename_i c
        cases h
        refine opd_s (ev_s a).1 h1 ?_
        refine ⟨x, h2, iOf_s h3 ?_⟩
        exact ⟨c.1, c.2, q⟩
      · cases h
  | .rng2 a b, ρ, ls, ds, ρ', Q, h, q => by
      rw [rdI_rng2]
      obtain ⟨⟨o, ρ1⟩, h1, h⟩ := bnd h
      obtain ⟨⟨o2, ρ2⟩, h2, h⟩ := bnd h
      obtain ⟨x, h3, h⟩ := bnd h
      obtain ⟨y, h4, h⟩ := bnd h
      obtain ⟨n, h5, h⟩ := bnd h
      obtain ⟨m, h6, h⟩ := bnd h
      dsimp only at h
      split at h
      · rename_i c
        cases h
        refine opd_s (ev_s a).1 h1 (opd_s (ev_s b).1 h2 ?_)
        refine ⟨x, h3, y, h4, iOf_s h5 (iOf_s h6 ?_)⟩
        exact ⟨c.1, c.2.1, c.2.2.1, c.2.2.2.1, c.2.2.2.2, q⟩
      · cases h
  | .enum e, ρ, ls, ds, ρ', Q, h, q => by
      rw [rdI_enum]
      obtain ⟨⟨o, ρ1⟩, h1, h⟩ := bnd h
      obtain ⟨x, h2, h⟩ := bnd h
      obtain ⟨y, h3, h⟩ := bnd h
      cases h
      refine opd_s (ev_s e).1 h1 ?_
      exact ⟨x, h2, _, h3, q⟩
  | .zip a b, ρ, ls, ds, ρ', Q, h, q => by
      rw [rdI_zip]
      obtain ⟨⟨o, ρ1⟩, h1, h⟩ := bnd h
      obtain ⟨⟨o2, ρ2⟩, h2, h⟩ := bnd h
      obtain ⟨x, h3, h⟩ := bnd h
      obtain ⟨y, h4, h⟩ := bnd h
      obtain ⟨n, h5, h⟩ := bnd h
      obtain ⟨m, h6, h⟩ := bnd h
      cases h
      refine opd_s (ev_s a).1 h1 (opd_s (ev_s b).1 h2 ?_)
      exact ⟨x, h3, y, h4, _, h5, _, h6, q⟩
  | .rng3 _ _ _, ρ, ls, ds, ρ', Q, h, q => by cases h
  | .zip3 _ _ _, ρ, ls, ds, ρ', Q, h, q => by cases h
  | .items _, ρ, ls, ds, ρ', Q, h, q => by cases h
  | .rev _, ρ, ls, ds, ρ', Q, h, q => by cases h
  | .perm _, ρ, ls, ds, ρ', Q, h, q => by cases h
end
theorem evFs_s : ∀ (es : Es) (ρ : Env) (ds : List (Bool × PyData)) (ρ' : Env) {Q : List (Bool × PyData) → Env → Prop}, evFs cv es ρ = some (ds, ρ') → Q ds ρ' → rdFs Φ es ρ Q
  | .nil, ρ, ds, ρ', Q, h, q => by cases h; exact q
  | .cons e r, ρ, ds, ρ', Q, h, q => by
      obtain ⟨⟨f1, x, ρ1⟩, h1, h⟩ := bnd h
      obtain ⟨⟨y, ρ2⟩, h2, h⟩ := bnd h
      cases h
      exact (ev_s hcv e).1 _ _ _ _ _ h1 (evFs_s r _ _ _ h2 q)
theorem ret_s (e : E) : SE (evRet cv e) (rdRet Φ e) := by
  intro ρ fr d ρ' Q h q
  cases e
  case v i =>
    obtain ⟨s, h1, h⟩ := bnd h
    refine ⟨s, h1, ?_⟩
    cases s with
    | sh d => cases h; exact q
    | ow d => cases h; exact q
    | _ => cases h
  all_goals exact (ev_s hcv _).1 _ _ _ _ _ h q
mutual
theorem evS_s : ∀ s : S, SB (evS cv s) (rdS Φ s)
  | .asg g e => fun ρ o K h k => by
      obtain ⟨⟨f1, x, ρ1⟩, h1, h⟩ := bnd h
      obtain ⟨ρ2, h2, h⟩ := bnd h
      cases h
      exact (ev_s hcv e).1 _ _ _ _ _ h1 (asg_s _ _ _ _ _ _ h2 k)
  | .par is es => fun ρ o K h k => by
      obtain ⟨⟨ds, ρ1⟩, h1, h⟩ := bnd h
      dsimp only at h
      split at h
      · rename_i c
        cases h
        refine evFs_s hcv es _ _ _ h1 ?_
        exact ⟨c, k⟩
      · cases h
  | .setix i ix e => fun ρ o K h k => by
      obtain ⟨⟨f1, x, ρ1⟩, h1, h⟩ := bnd h
      obtain ⟨z, h2, h⟩ := bnd h
      obtain ⟨⟨f2, y, ρ2⟩, h3, h⟩ := bnd h
      obtain ⟨s, h4, h⟩ := bnd h
      obtain ⟨s', h5, h⟩ := bnd h
      cases h
      refine (ev_s hcv e).1 _ _ _ _ _ h1 ⟨z, h2, (ev_s hcv ix).1 _ _ _ _ _ h3 ?_⟩
      exact ⟨s, h4, s', h5, k⟩
  | .app i e => fun ρ o K h k => by
      obtain ⟨z, h0, h⟩ := bnd h
      obtain ⟨⟨f1, x, ρ1⟩, h1, h⟩ := bnd h
      obtain ⟨ds, h2, h⟩ := bnd h
      dsimp only at h
      split at h
      · rename_i c
        cases h
        refine lOf_s h0 ((ev_s hcv e).1 _ _ _ _ _ h1 (lOf_s h2 ?_))
        exact ⟨c, k⟩
      · cases h
  | .ex e => fun ρ o K h k => by
      obtain ⟨⟨f1, x, ρ1⟩, h1, h⟩ := bnd h
      cases h
      exact (ev_s hcv e).1 _ _ _ _ _ h1 k
  | .ife c a b => fun ρ o K h k => by
      obtain ⟨⟨t, ρ1⟩, h1, h⟩ := bnd h
      refine (ev_s hcv c).2 _ _ _ _ h1 ?_
      cases t with
      | true => exact evB_s a _ _ _ h k
      | false => exact evB_s b _ _ _ h k
  | .for_ g it b => fun ρ o K h k => by
      obtain ⟨⟨ls, ds, ρ1⟩, h1, h⟩ := bnd h
      obtain ⟨o1, h2, h⟩ := bnd h
      refine evI_s hcv it _ _ _ _ h1 (for_s (evB_s b) _ _ _ _ h2 ?_)
      cases o1 with
      | nx ρ' => cases h; exact k
      | bk ρ' => cases h; exact k
      | rt fr d ρ' => cases h; exact k
      | ct ρ' => cases h
  | .wh c b => fun ρ o K h k => by
      refine wh_s (ev_s hcv c).2 (evB_s b) 400 ρ o K h ?_
      have : ∀ n ρ, ∀ o, whV (ev cv c).t (evB cv b) n ρ = some o → (∃ ρ', o = .nx ρ') ∨ ∃ fr d ρ', o = .rt fr d ρ' := by
        intro n
        induction n with
        | zero => intro ρ o h; cases h
        | succ n ih =>
          intro ρ o h
          rw [whV] at h
          obtain ⟨⟨t, ρ1⟩, h1, h⟩ := bnd h
          cases t with
          | false => cases h; exact .inl ⟨_, rfl⟩
          | true =>
            obtain ⟨o1, h2, h⟩ := bnd h
            cases o1 with
            | nx ρ2 => exact ih _ _ h
            | ct ρ2 => exact ih _ _ h
            | bk ρ2 => cases h; exact .inl ⟨_, rfl⟩
            | rt fr d ρ2 => cases h; exact .inr ⟨_, _, _, rfl⟩
      rcases this _ _ _ h with ⟨ρ', rfl⟩ | ⟨fr, d, ρ', rfl⟩
      · exact k
      · exact k
  | .ret e => fun ρ o K h k => by
      obtain ⟨⟨f1, x, ρ1⟩, h1, h⟩ := bnd h
      cases h
      exact ret_s hcv e _ _ _ _ _ h1 k
  | .brk => fun ρ o K h k => by cases h; exact k
  | .cnt => fun ρ o K h k => by cases h; exact k
  | .nop => fun ρ o K h k => by cases h; exact k
  | .setdw _ _ _ => fun ρ o K h k => by cases h
  | .ext _ _ => fun ρ o K h k => by cases h
  | .rem _ _ => fun ρ o K h k => by cases h
  | .upd _ _ => fun ρ o K h k => by cases h
theorem evB_s : ∀ b : Ss, SB (evB cv b) (rdB Φ b)
  | .nil => fun ρ o K h k => by cases h; exact k
  | .cons s r => fun ρ o K h k => by
      obtain ⟨o1, h1, h⟩ := bnd h
      refine evS_s s _ _ _ h1 ?_
      cases o1 with
      | nx ρ' => exact evB_s r _ _ _ h k
      | rt fr d ρ' => cases h; exact k
      | bk ρ' => cases h; exact k
      | ct ρ' => cases h; exact k
end
end
/-- a text's defs: how many names, the body -/
abbrev Tab := Nat → Option (Nat × Ss)
def evF (T : Tab) : Nat → Nat → List PyData → Option (Bool × PyData)
  | 0, _, _ => none
  | n + 1, i, ds => (T i).bind fun kb => (evB (evF T n) kb.2 (ds.map .sh ++ List.replicate (kb.1 - ds.length) .no)).bind fun o => match o with
    | .rt fr d _ => some (fr, d)
    | .nx _ => some (false, .none)
    | _ => none
/-- the promise: what the evaluator says -/
def evX (T : Tab) (i : Nat) : Spc := fun ds K => ∃ n fr d, evF T n i ds = some (fr, d) ∧ K fr d
theorem evX_r {T : Tab} {Φ : Nat → Spc} (hΦ : ∀ j ds K, evX T j ds K → Φ j ds K) {i : Nat} {N : List Str} {b : Ss} (hT : T i = some (N.length, b)) {ds : List PyData} {Kq : Bool → PyData → Prop} (h : evX T i ds Kq) : rdB Φ b (startS N (ds.map .sh)) (ktF Kq) := by
  obtain ⟨n, fr, d, e, k⟩ := h
  cases n with
  | zero => cases e
  | succ n =>
    rw [evF, hT] at e
    obtain ⟨o, h1, e⟩ := bnd (show ((evB (evF T n) b (ds.map .sh ++ List.replicate (N.length - ds.length) .no)).bind fun o => match o with
    | .rt fr d _ => some (fr, d)
    | .nx _ => some (false, .none)
    | _ => none) = some (fr, d) from e)
    have st : startS N (ds.map .sh) = ds.map .sh ++ List.replicate (N.length - ds.length) .no := by
      unfold startS; simp
    rw [st]
    refine evB_s (cv := evF T n) (fun f ds fr d K h k => hΦ _ _ _ ⟨n, fr, d, h, k⟩) b _ o _ h1 ?_
    cases o with
    | rt fr' d' ρ => cases e; exact k
    | nx ρ => cases e; exact k
    | bk ρ => cases e
    | ct ρ => cases e
end Z

/-! loops by what stands behind the turns so far; closed statements by the evaluator -/
namespace Z
open PySem
theorem small_str {s : Str} (h : s.cps.size ≤ 100) : smallS (.str s) = true := decide_eq_true (by rw [show big = 16777216 from rfl]; omega)
theorem forW_st {α σ : Type} {g : Tg} {rb : Env → Kt → Prop} {K : Kt} (e : α → PyData) (E : σ → Env → Prop) (f : σ → α → σ) (xs : List α) (s : σ) {ρ : Env} (h : E s ρ)
    (step : ∀ ys x zs ρ (N : Env → Prop), xs = ys ++ x :: zs → E (ys.foldl f s) ρ → (∀ ρ', E (f (ys.foldl f s) x) ρ' → N ρ') → asgT g false (e x) ρ fun ρ1 => rb ρ1 { nx := N, rt := K.rt, bk := K.bk, ct := N })
    (fin : ∀ ρ, E (xs.foldl f s) ρ → K.nx ρ) : forW g rb K (xs.map e) ρ := by
  refine forW_list e (fun r ρ => ∃ ys, xs = ys ++ r ∧ E (ys.foldl f s) ρ) ?_ ?_ xs ρ ⟨[], rfl, h⟩
  · rintro x r ρ N ⟨ys, e1, h1⟩ hN
    exact step ys x r ρ N e1 h1 fun ρ' h' => hN ρ' ⟨ys ++ [x], by rw [e1]; simp, by rw [List.foldl_append]; exact h'⟩
  · rintro ρ ⟨ys, e1, h1⟩
    rw [List.append_nil] at e1
    subst e1
    exact fin ρ h1
theorem foldl_app {α β : Type} (f : α → List β) : ∀ (xs : List α) (acc : List β), xs.foldl (fun a x => a ++ f x) acc = acc ++ xs.flatMap f
  | [], acc => by simp
  | x :: xs, acc => by rw [List.foldl_cons, foldl_app f xs, List.flatMap_cons, List.append_assoc]
/-- longer = longer + [..] -/
theorem forW_flat {α β : Type} {g : Tg} {rb : Env → Kt → Prop} {K : Kt} (e : α → PyData) (E : List β → Env → Prop) (f : α → List β) (xs : List α) (M : Nat) (hM : (xs.flatMap f).length ≤ M) {ρ : Env} (h : E [] ρ)
    (step : ∀ x acc ρ (N : Env → Prop), x ∈ xs → acc.length + (f x).length ≤ M → E acc ρ → (∀ ρ', E (acc ++ f x) ρ' → N ρ') → asgT g false (e x) ρ fun ρ1 => rb ρ1 { nx := N, rt := K.rt, bk := K.bk, ct := N })
    (fin : ∀ ρ, E (xs.flatMap f) ρ → K.nx ρ) : forW g rb K (xs.map e) ρ := by
  refine forW_st e E (fun a x => a ++ f x) xs [] h (fun ys x zs ρ N e1 h1 hN => ?_) fun ρ h1 => ?_
  · refine step x _ ρ N (by rw [e1]; simp) ?_ h1 hN
    rw [foldl_app, List.nil_append]
    rw [e1, List.flatMap_append, List.flatMap_cons, List.length_append, List.length_append] at hM
    omega
  · rw [foldl_app, List.nil_append] at h1
    exact fin ρ h1
/-- a closed statement, by the evaluator -/
theorem ev_nx {Φ : Nat → Spc} {s : S} {ρ ρ' : Env} {K : Kt} (h : evS (fun _ _ => none) s ρ = some (.nx ρ')) (k : K.nx ρ') : rdS Φ s ρ K :=
  evS_s (cv := fun _ _ => none) (fun _ _ _ _ _ h => nomatch h) s ρ _ K h k
/-- a def's answer on closed things -/
def evIs (T : Tab) (n i : Nat) (b : Bool) (d : List PyData) : Bool := match evF T n i d with
  | some (false, .bool c) => c == b
  | _ => false
theorem evIs_s {T : Tab} {n i : Nat} {b : Bool} {d : List PyData} {K : Bool → PyData → Prop} (h : evIs T n i b d = true) (k : K false (.bool b)) : evX T i d K := by
  unfold evIs at h
  split at h
  · rename_i c e
    have : c = b := by simpa using h
    subst this
    exact ⟨n, _, _, e, k⟩
  · cases h
/-- a == 'text' -/
def eqS (d : PyData) (s : Str) : Bool := match d with
  | .str x => decide (x = s)
  | _ => false
theorem eq_dS {d : PyData} {s : Str} (h : d.plain = true) : eqD d (.str s) = some (.bool (eqS d s)) := by
  cases d with
  | str x => simp [eqS]
  | dict _ => simp [PyData.plain] at h
  | _ =>
    unfold eqD
    rw [if_pos (by simp [PyData.plain] at h; simp [eqOk, h, PyData.plain, PyData.depth])]
    rfl
theorem ne_dS {d : PyData} {s : Str} (h : d.plain = true) : neD d (.str s) = some (.bool (!eqS d s)) := by
  cases d with
  | str x =>
    unfold neD
    rw [if_pos (by rfl)]
    rfl
  | dict _ => simp [PyData.plain] at h
  | _ =>
    unfold neD
    rw [if_pos (by simp [PyData.plain] at h; simp [eqOk, h, PyData.plain, PyData.depth])]
    rfl
theorem upI_get {lo : Int} {n i : Nat} (h : i < n) : (upI lo n)[i]? = some (lo + i) := by simp [upI, h]
/-- enumerate of mapped things -/
theorem enumD_map {α : Type} (f : α → PyData) (xs : List α) : enumD (xs.map f) = xs.zipIdx.map fun p => .tuple [.int (p.2 : Nat), f p.1] := by
  unfold enumD
  rw [List.zipIdx_map, List.map_map]
  rfl
@[simp] theorem fresh_add : Pr.fresh .add = true := rfl
@[simp] theorem fresh_sub : Pr.fresh .sub = false := rfl
@[simp] theorem fresh_mul : Pr.fresh .mul = true := rfl
@[simp] theorem fresh_fdiv : Pr.fresh .fdiv = false := rfl
@[simp] theorem fresh_mod : Pr.fresh .mod = false := rfl
@[simp] theorem fresh_pow : Pr.fresh .pow = false := rfl
@[simp] theorem fresh_eq : Pr.fresh .eq = false := rfl
@[simp] theorem fresh_ne : Pr.fresh .ne = false := rfl
@[simp] theorem fresh_lt : Pr.fresh .lt = false := rfl
@[simp] theorem fresh_le : Pr.fresh .le = false := rfl
@[simp] theorem fresh_gt : Pr.fresh .gt = false := rfl
@[simp] theorem fresh_ge : Pr.fresh .ge = false := rfl
@[simp] theorem fresh_in_ : Pr.fresh .in_ = false := rfl
@[simp] theorem fresh_nin : Pr.fresh .nin = false := rfl
@[simp] theorem fresh_is_ : Pr.fresh .is_ = false := rfl
@[simp] theorem fresh_isn : Pr.fresh .isn = false := rfl
@[simp] theorem fresh_neg : Pr.fresh .neg = false := rfl
@[simp] theorem fresh_ix : Pr.fresh .ix = false := rfl
@[simp] theorem fresh_slL : Pr.fresh .slL = true := rfl
@[simp] theorem fresh_slH : Pr.fresh .slH = true := rfl
@[simp] theorem fresh_slLH : Pr.fresh .slLH = true := rfl
@[simp] theorem fresh_len : Pr.fresh .len = false := rfl
@[simp] theorem fresh_abs : Pr.fresh .abs = false := rfl
@[simp] theorem fresh_int : Pr.fresh .int = false := rfl
@[simp] theorem fresh_min2 : Pr.fresh .min2 = false := rfl
@[simp] theorem fresh_max2 : Pr.fresh .max2 = false := rfl
@[simp] theorem fresh_min1 : Pr.fresh .min1 = false := rfl
@[simp] theorem fresh_max1 : Pr.fresh .max1 = false := rfl
@[simp] theorem fresh_sum : Pr.fresh .sum = false := rfl
@[simp] theorem fresh_all : Pr.fresh .all = false := rfl
@[simp] theorem fresh_any : Pr.fresh .any = false := rfl
@[simp] theorem fresh_sorted : Pr.fresh .sorted = true := rfl
@[simp] theorem fresh_tuple : Pr.fresh .tuple = false := rfl
@[simp] theorem fresh_list : Pr.fresh .list = true := rfl
@[simp] theorem fresh_dict : Pr.fresh .dict = true := rfl
@[simp] theorem fresh_sortedSet : Pr.fresh .sortedSet = true := rfl
@[simp] theorem fresh_lenSet : Pr.fresh .lenSet = false := rfl
@[simp] theorem fresh_isInt : Pr.fresh .isInt = false := rfl
@[simp] theorem fresh_isStr : Pr.fresh .isStr = false := rfl
@[simp] theorem fresh_isBool : Pr.fresh .isBool = false := rfl
@[simp] theorem fresh_isList : Pr.fresh .isList = false := rfl
@[simp] theorem fresh_isTuple : Pr.fresh .isTuple = false := rfl
@[simp] theorem fresh_isSeq : Pr.fresh .isSeq = false := rfl
@[simp] theorem fresh_get1 : Pr.fresh .get1 = false := rfl
@[simp] theorem fresh_get2 : Pr.fresh .get2 = false := rfl
@[simp] theorem fresh_index : Pr.fresh .index = false := rfl
@[simp] theorem fresh_count : Pr.fresh .count = false := rfl
@[simp] theorem fresh_gcd : Pr.fresh .gcd = false := rfl
@[simp] theorem fresh_lcm : Pr.fresh .lcm = false := rfl
/-- what is truth to a test: a Bool is True -/
@[simp] theorem isn_bT {b : Bool} : isnD (.bool b) (.bool true) = some (.bool (!b)) := by cases b <;> rfl
@[simp] theorem isn_bF {b : Bool} : isnD (.bool b) (.bool false) = some (.bool b) := by cases b <;> rfl
@[simp] theorem is_bT {b : Bool} : isD (.bool b) (.bool true) = some (.bool b) := by cases b <;> rfl
@[simp] theorem is_bF {b : Bool} : isD (.bool b) (.bool false) = some (.bool (!b)) := by cases b <;> rfl
end Z
namespace Z
open PySem
/-- is_number, where its own call answers as is_integer does -/
theorem read_numberE {Φ : Nat → Spc} {N : List Str} {i : Nat} (hN : N.length = 3) (hi : ∀ ds K, intS ds K → Φ i ds K) (ds : List PyData) (Kq : Bool → PyData → Prop) (h : numS ds Kq) : rdB Φ (numberB i) (startS N (ds.map .sh)) (ktF Kq) := by
  obtain ⟨d, lo, o, rfl, hp, kk⟩ := h
  have e : startS N ([d, .int lo, optI o].map .sh) = [.sh d, .sh (.int lo), .sh (optI o)] := by unfold startS; rw [hN]; rfl
  rw [e]
  unfold numberB
  simp [ktF, rdVar_sh]
  refine hi _ _ ⟨d, rfl, hp, ?_⟩
  cases d with
  | int n =>
    simp [isI]
    by_cases c : n < lo
    · have : ¬ lo ≤ n := by omega
      simpa [numF, c, this] using kk
    · have c' : lo ≤ n := by omega
      cases o with
      | none => simpa [numF, c, c', optI] using kk
      | some m => 
        simp [optI]
        rw [if_pos c']
        simp [numF, c'] at kk
        have e : (!decide (m < n)) = decide (n ≤ m) := by
          by_cases c2 : m < n
          · have : ¬ n ≤ m := by omega
            simp [c2, this]
          · have : n ≤ m := by omega
            simp [c2, this]
        rw [e]
        exact kk
  | _ => simpa [isI, numF] using kk
theorem evX_none {T : Tab} {i : Nat} (h : T i = none) {ds : List PyData} {K : Bool → PyData → Prop} : ¬ evX T i ds K := by
  rintro ⟨n, fr, d, e, _⟩
  cases n with
  | zero => cases e
  | succ n => rw [evF, h] at e; cases e
theorem flat_len {α β : Type} {f : α → List β} {m : Nat} : ∀ {xs : List α}, (∀ x ∈ xs, (f x).length ≤ m) → (xs.flatMap f).length ≤ xs.length * m
  | [], _ => by simp
  | x :: xs, h => by
    have h1 := h x (.head _)
    have h2 := flat_len (xs := xs) fun y hy => h y (.tail _ hy)
    rw [List.flatMap_cons, List.length_append, List.length_cons, Nat.succ_mul]
    omega
end Z

namespace Z
open PySem
/-! a set of plain things, sorted -/
section
variable {α : Type} [DecidableEq α] {f : α → PyData} {lf : α → α → Bool}
def dedB : List α → List α
  | [] => []
  | x :: xs => x :: (dedB xs).filter fun y => decide (y ≠ x)
theorem mem_dedB {x : α} : ∀ {xs : List α}, x ∈ dedB xs ↔ x ∈ xs
  | [] => by simp [dedB]
  | y :: xs => by
    rw [dedB, List.mem_cons, List.mem_cons, List.mem_filter, mem_dedB (xs := xs)]
    by_cases e : x = y <;> simp [e]
theorem nodup_dedB : ∀ xs : List α, (dedB xs).Nodup
  | [] => by simp [dedB]
  | y :: xs => by
    rw [dedB, List.nodup_cons]
    exact ⟨by simp [List.mem_filter], (nodup_dedB xs).filter _⟩
theorem len_dedB : ∀ xs : List α, (dedB xs).length ≤ xs.length
  | [] => by simp [dedB]
  | y :: xs => by
    have := len_dedB xs
    have h2 := List.length_filter_le (fun z => decide (z ≠ y)) (dedB xs)
    rw [dedB, List.length_cons, List.length_cons]
    omega
theorem dedup_map (he : Enc f) : ∀ xs : List α, dedup (xs.map f) = (dedB xs).map f
  | [] => rfl
  | y :: xs => by
    rw [List.map_cons, dedup, dedB, List.map_cons, dedup_map he xs, List.filter_map]
    congr 2
    apply List.filter_congr
    intro z _
    show (!PyData.eqv (f z) (f y)) = decide (z ≠ y)
    rw [he.e]
    by_cases e : z = y <;> simp [e]
/-- the sorted list of a set -/
def ssB (lf : α → α → Bool) (xs : List α) : List α := sortB lf (dedB xs)
theorem mem_ssB {x : α} {xs : List α} : x ∈ ssB lf xs ↔ x ∈ xs := ((sort_perm lf (dedB xs)).mem_iff).trans mem_dedB
theorem nodup_ssB (xs : List α) : (ssB lf xs).Nodup := (sort_perm lf (dedB xs)).nodup_iff.2 (nodup_dedB xs)
theorem len_ssB (xs : List α) : (ssB lf xs).length ≤ xs.length := by
  unfold ssB
  rw [(sort_perm lf (dedB xs)).length_eq]
  exact len_dedB xs
theorem asc_ssB (o : OrdE f lf) (xs : List α) : (ssB lf xs).Pairwise fun a b => lf a b = true := by
  have h1 := o.pw (dedB xs)
  have h2 : (sortB lf (dedB xs)).Pairwise (· ≠ ·) := nodup_ssB (lf := lf) xs
  refine (h1.and h2).imp fun {a b} h => ?_
  cases hc : lf a b with
  | true => rfl
  | false => exact absurd (o.anti h.1 (by unfold leB; rw [hc]; rfl)) h.2
theorem setItems_on (o : OrdE f lf) (ht : ∀ a xs, f a ≠ .tuple xs) (hk : ∀ a, isKey0 (f a) = true) (xs : List α) (h : xs.length ≤ 4000) : setItems (.list (xs.map f)) = some (xs.map f) := by
  show (if (sortOk (xs.map f) && (xs.map f).all isKey0 && decide ((xs.map f).length ≤ 4000)) = true then some (xs.map f) else none) = _
  rw [if_pos]
  rw [Bool.and_eq_true, Bool.and_eq_true]
  refine ⟨⟨?_, ?_⟩, by simpa using h⟩
  · unfold sortOk
    rw [o.kind.ok, Bool.true_and, Bool.or_eq_true]
    right
    rw [List.all_eq_true]
    intro y hy
    obtain ⟨a, _, rfl⟩ := List.mem_map.1 hy
    have := ht a
    revert this
    cases f a <;> simp
  · rw [List.all_eq_true]
    intro y hy
    obtain ⟨a, _, rfl⟩ := List.mem_map.1 hy
    exact hk a
theorem sset_on (o : OrdE f lf) (he : Enc f) (ht : ∀ a xs, f a ≠ .tuple xs) (hk : ∀ a, isKey0 (f a) = true) (xs : List α) (h : xs.length ≤ 4000) : sortedSetD (.list (xs.map f)) = some (.list ((ssB lf xs).map f)) := by
  unfold sortedSetD
  rw [setItems_on o ht hk xs h, Option.bind_some, dedup_map he, o.sort]
  rfl
theorem lset_on (o : OrdE f lf) (he : Enc f) (ht : ∀ a xs, f a ≠ .tuple xs) (hk : ∀ a, isKey0 (f a) = true) (xs : List α) (h : xs.length ≤ 4000) : lenSetD (.list (xs.map f)) = some (.int (dedB xs).length) := by
  unfold lenSetD
  rw [setItems_on o ht hk xs h, Option.bind_some, dedup_map he, List.length_map]
end
@[simp] theorem p1_sortedSet : p1 .sortedSet = sortedSetD := rfl
@[simp] theorem p1_lenSet : p1 .lenSet = lenSetD := rfl
theorem sset_i (xs : List Int) (h : xs.length ≤ 4000) : sortedSetD (.list (xs.map .int)) = some (.list ((ssB ltI xs).map .int)) := sset_on ordI encI (fun _ _ h => nomatch h) (fun _ => rfl) xs h
theorem lset_i (xs : List Int) (h : xs.length ≤ 4000) : lenSetD (.list (xs.map .int)) = some (.int (dedB xs).length) := lset_on ordI encI (fun _ _ h => nomatch h) (fun _ => rfl) xs h
theorem asc_i (xs : List Int) : (ssB ltI xs).Pairwise (· < ·) := (asc_ssB ordI xs).imp fun {a b} h => by simpa [ltI] using h
end Z

namespace Z
open PySem
/-! least walks -/
section
variable {α : Type} [DecidableEq α] (arcs : List (α × α × Int)) (s : α)
/-- the places gone through, the last one first; and how long it took -/
inductive Wl : List α → Int → Prop
  | nil : Wl [s] 0
  | step {u v : α} {w n : Int} {p : List α} : Wl (u :: p) n → (u, v, w) ∈ arcs → Wl (v :: u :: p) (n + w)
variable {arcs s}
theorem Wl.nn (hw : ∀ a ∈ arcs, 0 ≤ a.2.2) {p : List α} {n : Int} (h : Wl arcs s p n) : 0 ≤ n := by
  induction h with
  | nil => omega
  | step _ ha ih => have := hw _ ha; simp at this; omega
theorem Wl.ne {p : List α} {n : Int} (h : Wl arcs s p n) : p ≠ [] := by cases h <;> simp
/-- a walk cut at a place it went through -/
theorem Wl.cut (hw : ∀ a ∈ arcs, 0 ≤ a.2.2) {p : List α} {n : Int} (h : Wl arcs s p n) : ∀ {v : α}, v ∈ p → ∃ q m, m ≤ n ∧ (v :: q) <:+ p ∧ Wl arcs s (v :: q) m := by
  induction h with
  | nil =>
    intro v hv
    rw [List.mem_singleton.1 hv]
    exact ⟨[], 0, Int.le_refl _, List.suffix_refl _, .nil⟩
  | @step u x w n p h ha ih =>
    intro v hv
    have h0 := hw _ ha
    simp at h0
    rcases List.mem_cons.1 hv with rfl | hv
    · exact ⟨u :: p, n + w, Int.le_refl _, List.suffix_refl _, .step h ha⟩
    · obtain ⟨q, m, hm, hs, hq⟩ := ih hv
      exact ⟨q, m, by omega, hs.trans (List.suffix_cons _ _), hq⟩
/-- no place twice -/
theorem Wl.nodup (hw : ∀ a ∈ arcs, 0 ≤ a.2.2) {p : List α} {n : Int} (h : Wl arcs s p n) : ∀ {v : α} {r : List α}, p = v :: r → ∃ q m, m ≤ n ∧ (v :: q).Nodup ∧ Wl arcs s (v :: q) m := by
  induction h with
  | nil =>
    intro v r e
    cases e
    exact ⟨[], 0, Int.le_refl _, by simp, .nil⟩
  | @step u x w n p h ha ih =>
    intro v r e
    cases e
    have h0 := hw _ ha
    simp at h0
    obtain ⟨q, m, hm, hn, hq⟩ := ih rfl
    by_cases hx : x ∈ u :: q
    · obtain ⟨q2, m2, hm2, hs, hq2⟩ := hq.cut hw hx
      exact ⟨q2, m2, by omega, hn.sublist hs.sublist, hq2⟩
    · exact ⟨u :: q, m + w, by omega, List.nodup_cons.2 ⟨hx, hn⟩, .step hq ha⟩
/-- what is told of the places: told lengths are lengths of walks -/
def Snd (arcs : List (α × α × Int)) (s : α) (g : α → Option Int) : Prop := ∀ v n, g v = some n → ∃ p, Wl arcs s (v :: p) n
/-- and no walk is shorter -/
def Cmp (arcs : List (α × α × Int)) (s : α) (g : α → Option Int) : Prop := ∀ v p n, Wl arcs s (v :: p) n → ∃ m, m ≤ n ∧ g v = some m
theorem best_uniq {g g' : α → Option Int} (h1 : Snd arcs s g) (c1 : Cmp arcs s g) (h2 : Snd arcs s g') (c2 : Cmp arcs s g') : g = g' := by
  funext v
  cases e : g v with
  | none =>
    cases e' : g' v with
    | none => rfl
    | some n =>
      obtain ⟨p, hp⟩ := h2 v n e'
      obtain ⟨m, _, hm⟩ := c1 v p n hp
      rw [e] at hm; cases hm
  | some n =>
    obtain ⟨p, hp⟩ := h1 v n e
    obtain ⟨m, hm, em⟩ := c2 v p n hp
    obtain ⟨p', hp'⟩ := h2 v m em
    obtain ⟨k, hk, ek⟩ := c1 v p' m hp'
    rw [e] at ek
    cases ek
    rw [em]
    congr 1
    omega
/-- told lengths that no arc shortens are the least -/
theorem cmp_fix {g : α → Option Int} (h0 : ∃ m, m ≤ 0 ∧ g s = some m) (hf : ∀ u v w m, (u, v, w) ∈ arcs → g u = some m → ∃ m', m' ≤ m + w ∧ g v = some m') : Cmp arcs s g := by
  have : ∀ p n, Wl arcs s p n → ∀ v r, p = v :: r → ∃ m, m ≤ n ∧ g v = some m := by
    intro p n h
    induction h with
    | nil => intro v r e; cases e; exact h0
    | @step u x w n p h ha ih =>
      intro v r e
      cases e
      obtain ⟨m, hm, em⟩ := ih u p rfl
      obtain ⟨m', hm', em'⟩ := hf u x w m ha em
      exact ⟨m', by omega, em'⟩
  exact fun v p n h => this _ n h v p rfl
/-- walks of so many arcs are told -/
def CmpN (arcs : List (α × α × Int)) (s : α) (g : α → Option Int) (k : Nat) : Prop := ∀ v p n, Wl arcs s (v :: p) n → p.length ≤ k → ∃ m, m ≤ n ∧ g v = some m
theorem cmp_all (hw : ∀ a ∈ arcs, 0 ≤ a.2.2) {g : α → Option Int} {k : Nat} (hk : ∀ l : List α, l.Nodup → l.length ≤ k + 1) (h : CmpN arcs s g k) : Cmp arcs s g := by
  intro v p n hp
  obtain ⟨q, m, hm, hn, hq⟩ := hp.nodup hw rfl
  have := hk _ hn
  rw [List.length_cons] at this
  obtain ⟨m', hm', e⟩ := h v q m hq (by omega)
  exact ⟨m', by omega, e⟩
/-- rounds over all arcs -/
def rlx (inf : Int) (D : List (α × Int)) (a : α × α × Int) : List (α × Int) := match getA D a.1 with
  | none => D
  | some m => if m + a.2.2 < (getA D a.2.1).getD inf then setA D a.2.1 (m + a.2.2) else D
def Bd (D : List (α × Int)) (B : Int) : Prop := ∀ v m, getA D v = some m → m ≤ B
theorem rlx_get {inf : Int} (D : List (α × Int)) (a : α × α × Int) (v : α) : getA (rlx inf D a) v = getA D v ∨ ∃ m, getA D a.1 = some m ∧ v = a.2.1 ∧ m + a.2.2 < (getA D v).getD inf ∧ getA (rlx inf D a) v = some (m + a.2.2) := by
  unfold rlx
  cases e : getA D a.1 with
  | none => exact .inl rfl
  | some m =>
    dsimp only
    split
    · rename_i h
      rw [getA_setA]
      by_cases c : a.2.1 = v
      · rw [if_pos c]
        subst c
        exact .inr ⟨m, rfl, rfl, h, rfl⟩
      · rw [if_neg c]
        exact .inl rfl
    · exact .inl rfl
theorem rlx_mono {inf : Int} (D : List (α × Int)) (a : α × α × Int) {v : α} {m : Int} (h : getA D v = some m) : ∃ m', m' ≤ m ∧ getA (rlx inf D a) v = some m' := by
  rcases rlx_get (inf := inf) D a v with e | ⟨k, _, _, hl, e⟩
  · exact ⟨m, Int.le_refl _, by rw [e]; exact h⟩
  · rw [h, Option.getD_some] at hl
    exact ⟨_, by omega, e⟩
theorem rlx_snd {inf : Int} {D : List (α × Int)} {a : α × α × Int} (ha : a ∈ arcs) (h : Snd arcs s (getA D)) : Snd arcs s (getA (rlx inf D a)) := by
  intro v n hv
  rcases rlx_get (inf := inf) D a v with e | ⟨k, hk, rfl, _, e⟩
  · rw [e] at hv; exact h v n hv
  · rw [e] at hv
    cases hv
    obtain ⟨p, hp⟩ := h _ _ hk
    exact ⟨_, .step hp ha⟩
theorem rlx_bd {inf : Int} {D : List (α × Int)} {a : α × α × Int} {B W : Int} (h : Bd D B) (hw : 0 ≤ W) (ha : a.2.2 ≤ W) : Bd (rlx inf D a) (B + W) := by
  intro v m hv
  rcases rlx_get (inf := inf) D a v with e | ⟨k, hk, rfl, _, e⟩
  · rw [e] at hv; have := h v m hv; omega
  · rw [e] at hv
    cases hv
    have := h _ _ hk
    omega
theorem rlx_arc {inf : Int} {D : List (α × Int)} {u v : α} {w m : Int} (h : getA D u = some m) (hb : m + w < inf) : ∃ m', m' ≤ m + w ∧ getA (rlx inf D (u, v, w)) v = some m' := by
  unfold rlx
  simp only [h]
  by_cases c : m + w < (getA D v).getD inf
  · rw [if_pos c, getA_setA, if_pos rfl]
    exact ⟨_, Int.le_refl _, rfl⟩
  · rw [if_neg c]
    cases e : getA D v with
    | none => rw [e, Option.getD_none] at c; exact absurd hb c
    | some x => rw [e, Option.getD_some] at c; exact ⟨x, by omega, rfl⟩
def rnd (inf : Int) (as : List (α × α × Int)) (D : List (α × Int)) : List (α × Int) := as.foldl (rlx inf) D
theorem rnd_mono {inf : Int} {v : α} : ∀ (as : List (α × α × Int)) (D : List (α × Int)) {m : Int}, getA D v = some m → ∃ m', m' ≤ m ∧ getA (rnd inf as D) v = some m'
  | [], _, m, h => ⟨m, Int.le_refl _, h⟩
  | a :: as, D, m, h => by
    obtain ⟨m1, h1, e1⟩ := rlx_mono (inf := inf) D a h
    obtain ⟨m2, h2, e2⟩ := rnd_mono as _ e1
    exact ⟨m2, by omega, e2⟩
theorem rnd_snd {inf : Int} : ∀ (as : List (α × α × Int)) (D : List (α × Int)), (∀ a ∈ as, a ∈ arcs) → Snd arcs s (getA D) → Snd arcs s (getA (rnd inf as D))
  | [], _, _, h => h
  | a :: as, D, ha, h => rnd_snd as _ (fun b hb => ha b (.tail _ hb)) (rlx_snd (ha a (.head _)) h)
theorem rnd_bd {inf W : Int} (hw : 0 ≤ W) : ∀ (as : List (α × α × Int)) (D : List (α × Int)) (B : Int), (∀ a ∈ as, a.2.2 ≤ W) → Bd D B → Bd (rnd inf as D) (B + as.length * W)
  | [], _, B, _, h => by simpa [rnd] using h
  | a :: as, D, B, ha, h => by
    have := rnd_bd (inf := inf) hw as _ (B + W) (fun b hb => ha b (.tail _ hb)) (rlx_bd (inf := inf) h hw (ha a (.head _)))
    intro v m hv
    have := this v m hv
    rw [List.length_cons]
    have e : ((as.length + 1 : Nat) : Int) * W = as.length * W + W := by
      rw [Int.natCast_add, Int.add_mul]; simp
    omega
/-- a round more, an arc more -/
theorem rnd_cmp {inf W : Int} {D : List (α × Int)} {k : Nat} {B : Int} (hw : 0 ≤ W) (ha : ∀ a ∈ arcs, a.2.2 ≤ W) (hB : Bd D B) (hi : B + arcs.length * W + W < inf) (hc : CmpN arcs s (getA D) k) : CmpN arcs s (getA (rnd inf arcs D)) (k + 1) := by
  intro v p n hp hl
  cases hp with
  | nil =>
    obtain ⟨m, hm, e⟩ := hc s [] 0 .nil (Nat.zero_le _)
    obtain ⟨m', hm', e'⟩ := rnd_mono (inf := inf) arcs D e
    exact ⟨m', by omega, e'⟩
  | @step u _ w n p h harc =>
    obtain ⟨m, hm, e⟩ := hc u p n h (by rw [List.length_cons] at hl; omega)
    obtain ⟨l1, l2, el⟩ := List.append_of_mem harc
    have hr : rnd inf arcs D = rnd inf l2 (rlx inf (rnd inf l1 D) (u, v, w)) := by
      unfold rnd
      rw [el, List.foldl_append, List.foldl_cons]
    obtain ⟨m1, h1, e1⟩ := rnd_mono (inf := inf) l1 D e
    have b1 := rnd_bd (inf := inf) hw l1 D B (fun a h => ha a (by rw [el]; simp [h])) hB u m1 e1
    have w1 := ha _ harc
    simp at w1
    have ll : (l1.length : Int) * W ≤ arcs.length * W := Int.mul_le_mul_of_nonneg_right (by rw [el]; simp; omega) hw
    obtain ⟨m2, h2, e2⟩ := rlx_arc (inf := inf) (v := v) (w := w) e1 (by omega)
    obtain ⟨m3, h3, e3⟩ := rnd_mono (inf := inf) l2 _ e2
    rw [hr]
    exact ⟨m3, by omega, e3⟩
/-- k rounds -/
def rnds (inf : Int) (as : List (α × α × Int)) : Nat → List (α × Int) → List (α × Int)
  | 0, D => D
  | k + 1, D => rnd inf as (rnds inf as k D)
theorem rnds_all {inf W : Int} (hw : 0 ≤ W) (ha : ∀ a ∈ arcs, a.2.2 ≤ W) : ∀ (k : Nat), (((k * arcs.length + 1 : Nat) : Int)) * W < inf → Snd arcs s (getA (rnds inf arcs k [(s, 0)])) ∧ CmpN arcs s (getA (rnds inf arcs k [(s, 0)])) k ∧ Bd (rnds inf arcs k [(s, 0)]) ((k * arcs.length : Nat) * W)
  | 0, _ => by
    refine ⟨fun v n h => ?_, fun v p n h hl => ?_, fun v m h => ?_⟩
    · unfold rnds getA at h
      by_cases e : s = v
      · subst e
        simp at h
        subst h
        exact ⟨[], .nil⟩
      · simp [e, getA] at h
    · cases h with
      | nil => exact ⟨0, Int.le_refl _, by simp [rnds, getA]⟩
      | step h _ => simp at hl
    · unfold rnds getA at h
      by_cases e : s = v
      · simp [e] at h; simp; omega
      · simp [e, getA] at h
  | k + 1, hi => by
    have e1 : (((k + 1) * arcs.length + 1 : Nat) : Int) * W = ((k * arcs.length : Nat) : Int) * W + arcs.length * W + W := by
      rw [Nat.succ_mul, Int.natCast_add, Int.natCast_add, Int.add_mul, Int.add_mul]
      simp
    have e2 : ((k * arcs.length + 1 : Nat) : Int) * W = ((k * arcs.length : Nat) : Int) * W + W := by
      rw [Int.natCast_add, Int.add_mul]; simp
    have e3 : 0 ≤ (arcs.length : Int) * W := Int.mul_nonneg (by omega) hw
    obtain ⟨h1, h2, h3⟩ := rnds_all (inf := inf) hw ha k (by omega)
    refine ⟨rnd_snd arcs _ (fun _ h => h) h1, rnd_cmp (inf := inf) hw ha h3 (by omega) h2, ?_⟩
    have := rnd_bd (inf := inf) hw arcs _ _ ha h3
    intro v m h
    have := this v m h
    have e4 : (((k + 1) * arcs.length : Nat) : Int) * W = ((k * arcs.length : Nat) : Int) * W + arcs.length * W := by
      rw [Nat.succ_mul, Int.natCast_add, Int.add_mul]
    omega
end
end Z

namespace Z
open PySem
/-! the same by rows of places that got better -/
section
variable {α : Type} [DecidableEq α] {arcs : List (α × α × Int)} {s : α}
def bet (D : List (α × Int)) (v : α) (x : Int) : Bool := match getA D v with
  | none => true
  | some y => decide (x < y)
def rx1 (here : α) (st : List (α × Int) × List α) (a : α × α × Int) : List (α × Int) × List α :=
  if decide (a.1 = here) && bet st.1 a.2.1 ((getA st.1 here).getD 0 + a.2.2) then (setA st.1 a.2.1 ((getA st.1 here).getD 0 + a.2.2), st.2 ++ [a.2.1]) else st
def rxH (arcs : List (α × α × Int)) (st : List (α × Int) × List α) (here : α) : List (α × Int) × List α := arcs.foldl (rx1 here) st
def rxR (arcs : List (α × α × Int)) (D : List (α × Int)) (row : List α) : List (α × Int) × List α := row.foldl (rxH arcs) (D, [])
structure WI (arcs : List (α × α × Int)) (s : α) (W : Int) (D : List (α × Int)) (Q : List α) (don : α → List (α × α × Int)) : Prop where
  u : Uniq D
  snd : Snd arcs s (getA D)
  src : ∃ m, m ≤ 0 ∧ getA D s = some m
  key : ∀ x ∈ Q, (getA D x).isSome = true
  rel : ∀ u m, getA D u = some m → u ∈ Q ∨ ∀ v w, (u, v, w) ∈ don u → ∃ m', m' ≤ m + w ∧ getA D v = some m'
  bd : ∀ v m, getA D v = some m → m ≤ W * ((D.length : Int) - 1)
theorem setA_len_new {k : α} {x : Int} : ∀ {D : List (α × Int)}, getA D k = none → (setA D k x).length = D.length + 1
  | [], _ => rfl
  | q :: D, h => by
    unfold getA at h
    by_cases c : q.1 = k
    · rw [if_pos c] at h; cases h
    · rw [if_neg c] at h
      unfold setA
      rw [if_neg c, List.length_cons, setA_len_new h, List.length_cons]
theorem setA_len_old {k : α} {x y : Int} : ∀ {D : List (α × Int)}, getA D k = some y → (setA D k x).length = D.length
  | [], h => nomatch h
  | q :: D, h => by
    unfold getA at h
    unfold setA
    by_cases c : q.1 = k
    · rw [if_pos c]; rfl
    · rw [if_neg c] at h ⊢
      rw [List.length_cons, setA_len_old h, List.length_cons]
/-- what is left to do: few places more, or less in all -/
def tot (D : List (α × Int)) : Int := (D.map fun q => q.2).sum
theorem tot_new {k : α} {x : Int} : ∀ {D : List (α × Int)}, getA D k = none → tot (setA D k x) = tot D + x
  | [], _ => by simp [tot, setA]
  | q :: D, h => by
    unfold getA at h
    by_cases c : q.1 = k
    · rw [if_pos c] at h; cases h
    · rw [if_neg c] at h
      have := tot_new (x := x) h
      unfold setA
      rw [if_neg c]
      unfold tot at this ⊢
      rw [List.map_cons, List.sum_cons, this, List.map_cons, List.sum_cons]
      omega
theorem tot_old {k : α} {x y : Int} : ∀ {D : List (α × Int)}, getA D k = some y → tot (setA D k x) = tot D + x - y
  | [], h => nomatch h
  | q :: D, h => by
    unfold getA at h
    unfold setA
    by_cases c : q.1 = k
    · rw [if_pos c] at h ⊢
      cases h
      simp [tot]
      omega
    · rw [if_neg c] at h ⊢
      have := tot_old (x := x) h
      unfold tot at this ⊢
      rw [List.map_cons, List.sum_cons, this, List.map_cons, List.sum_cons]
      omega
def mu (K : Nat) (W : Int) (D : List (α × Int)) : Int := ((K : Int) - D.length) * (W * K + 1) + tot D
theorem wi_step {W : Int} {K : Nat} {D : List (α × Int)} {here : α} {rest later : List α} {don : List (α × α × Int)} {a : α × α × Int} (hK : ∀ l : List α, l.Nodup → l.length ≤ K) (ha : a ∈ arcs) (hir : a.1 ≠ a.2.1) (hw0 : 0 ≤ a.2.2) (hw : a.2.2 ≤ W)
    (I : WI arcs s W D (rest ++ later) (fun u => if u = here then don else arcs)) (hh : (getA D here).isSome = true) :
    WI arcs s W (rx1 here (D, later) a).1 (rest ++ (rx1 here (D, later) a).2) (fun u => if u = here then don ++ [a] else arcs) ∧ (getA (rx1 here (D, later) a).1 here).isSome = true ∧
      mu K W (rx1 here (D, later) a).1 + (rx1 here (D, later) a).2.length ≤ mu K W D + later.length := by
  obtain ⟨m, hm⟩ := Option.isSome_iff_exists.1 hh
  obtain ⟨b, e, w⟩ := a
  have mem_don : ∀ (u v : α) (x : Int), (u, v, x) ∈ (if u = here then don ++ [(b, e, w)] else arcs) → (u, v, x) ∈ (if u = here then don else arcs) ∨ (u = here ∧ u = b ∧ v = e ∧ x = w) := by
    intro u v x h
    by_cases c : u = here
    · rw [if_pos c] at h ⊢
      rcases List.mem_append.1 h with h | h
      · exact .inl h
      · have := List.mem_singleton.1 h
        simp at this
        exact .inr ⟨c, this⟩
    · rw [if_neg c] at h ⊢
      exact .inl h
  have lenK : (D.length : Int) ≤ K := by
    have := hK (D.map fun q => q.1) (show (D.map fun q => q.1).Nodup from I.u)
    rw [List.length_map] at this
    omega
  unfold rx1
  simp only [hm, Option.getD_some]
  by_cases c1 : b = here
  · subst c1
    cases c2 : bet D e (m + w) with
    | true =>
      simp only [decide_true, Bool.and_self, if_true]
      have gs : ∀ v, getA (setA D e (m + w)) v = if e = v then some (m + w) else getA D v := fun v => getA_setA _ _ _ _
      have hbm := I.bd b m hm
      have dec : ∀ v y, getA D v = some y → ∃ y', y' ≤ y ∧ getA (setA D e (m + w)) v = some y' := by
        intro v y hy
        rw [gs]
        by_cases c : e = v
        · subst c
          rw [if_pos rfl]
          unfold bet at c2
          rw [hy] at c2
          have := of_decide_eq_true c2
          exact ⟨_, by omega, rfl⟩
        · rw [if_neg c]
          exact ⟨y, Int.le_refl _, hy⟩
      have W0 : 0 ≤ W := by simp at hw0 hw; omega
      have nl : (setA D e (m + w)).length = D.length ∨ (getA D e = none ∧ (setA D e (m + w)).length = D.length + 1) := by
        cases q : getA D e with
        | none => exact .inr ⟨rfl, setA_len_new q⟩
        | some y => exact .inl (setA_len_old q)
      refine ⟨⟨uniq_set _ _ _ I.u, ?_, ?_, ?_, ?_, ?_⟩, ?_, ?_⟩
      · intro v n hv
        rw [gs] at hv
        by_cases c : e = v
        · subst c
          rw [if_pos rfl] at hv
          cases hv
          obtain ⟨p, hp⟩ := I.snd _ _ hm
          exact ⟨_, .step hp ha⟩
        · rw [if_neg c] at hv
          exact I.snd v n hv
      · obtain ⟨y, hy, ey⟩ := I.src
        obtain ⟨y', hy', ey'⟩ := dec s y ey
        exact ⟨y', by omega, ey'⟩
      · intro x hx
        rw [gs]
        by_cases c : e = x
        · rw [if_pos c]; rfl
        · rw [if_neg c]
          rcases List.mem_append.1 hx with h | h
          · exact I.key x (List.mem_append_left _ h)
          · rcases List.mem_append.1 h with h | h
            · exact I.key x (List.mem_append_right _ h)
            · exact absurd (List.mem_singleton.1 h).symm c
      · intro u y hu
        rw [gs] at hu
        by_cases c : e = u
        · left; subst c; simp
        · rw [if_neg c] at hu
          rcases I.rel u y hu with h | h
          · left
            rcases List.mem_append.1 h with h | h <;> simp [h]
          · right
            intro v x hx
            rcases mem_don u v x hx with hx | ⟨e1, e2, rfl, rfl⟩
            · obtain ⟨z, hz, ez⟩ := h v x hx
              obtain ⟨z', hz', ez'⟩ := dec v z ez
              exact ⟨z', by omega, ez'⟩
            · subst e1
              rw [hm] at hu
              cases hu
              exact ⟨m + x, Int.le_refl _, by rw [gs, if_pos rfl]⟩
      · intro v y hv
        rw [gs] at hv
        have em : W * ((D.length : Int) - 1) + W = W * D.length := by rw [Int.mul_sub, Int.mul_one]; omega
        simp at hw hw0
        rcases nl with nl | ⟨hn, nl⟩
        · rw [nl]
          by_cases c : e = v
          · subst c
            rw [if_pos rfl] at hv
            cases hv
            cases q : getA D e with
            | none => have := setA_len_new (x := m + w) q; omega
            | some y' =>
              have := I.bd e y' q
              unfold bet at c2
              rw [q] at c2
              have := of_decide_eq_true c2
              omega
          · rw [if_neg c] at hv
            exact I.bd v y hv
        · rw [nl]
          have e2 : W * (((D.length + 1 : Nat) : Int) - 1) = W * D.length := by congr 1; omega
          rw [e2]
          by_cases c : e = v
          · rw [if_pos c] at hv
            cases hv
            omega
          · rw [if_neg c] at hv
            have := I.bd v y hv
            omega
      · rw [gs]
        split
        · rfl
        · rw [hm]; rfl
      · rw [List.length_append, List.length_singleton]
        simp at hw hw0
        cases q : getA D e with
        | none =>
          have l1 := setA_len_new (x := m + w) q
          have t1 := tot_new (x := m + w) q
          unfold mu
          rw [l1, t1]
          have em : W * ((D.length : Int) - 1) + W = W * D.length := by rw [Int.mul_sub, Int.mul_one]; omega
          have hk2 : W * (D.length : Int) ≤ W * K := Int.mul_le_mul_of_nonneg_left lenK W0
          have e3 : ((K : Int) - ((D.length + 1 : Nat) : Int)) * (W * K + 1) = ((K : Int) - D.length) * (W * K + 1) - (W * K + 1) := by
            rw [show (K : Int) - ((D.length + 1 : Nat) : Int) = ((K : Int) - D.length) - 1 by omega, Int.sub_mul, Int.one_mul]
          rw [e3]
          omega
        | some y =>
          have l1 := setA_len_old (x := m + w) q
          have t1 := tot_old (x := m + w) q
          unfold bet at c2
          rw [q] at c2
          have := of_decide_eq_true c2
          unfold mu
          rw [l1, t1]
          omega
    | false =>
      simp only [Bool.and_false, Bool.false_eq_true, if_false]
      refine ⟨⟨I.u, I.snd, I.src, I.key, fun u y hu => ?_, I.bd⟩, hh, Int.le_refl _⟩
      rcases I.rel u y hu with h | h
      · exact .inl h
      · right
        intro v x hx
        rcases mem_don u v x hx with hx | ⟨e1, e2, rfl, rfl⟩
        · exact h v x hx
        · subst e1
          rw [hm] at hu
          cases hu
          unfold bet at c2
          split at c2
          · cases c2
          · rename_i y' q
            have := of_decide_eq_false c2
            exact ⟨y', by omega, q⟩
  · simp only [c1, decide_false, Bool.false_and, Bool.false_eq_true, if_false]
    refine ⟨⟨I.u, I.snd, I.src, I.key, fun u y hu => ?_, I.bd⟩, hh, Int.le_refl _⟩
    rcases I.rel u y hu with h | h
    · exact .inl h
    · right
      intro v x hx
      rcases mem_don u v x hx with hx | ⟨e1, e2, _, _⟩
      · exact h v x hx
      · exact absurd (e2.symm.trans e1) c1
theorem wi_fold {W : Int} {K : Nat} {here : α} {rest : List α} (hK : ∀ l : List α, l.Nodup → l.length ≤ K) (hir : ∀ a ∈ arcs, a.1 ≠ a.2.1) (hw0 : ∀ a ∈ arcs, 0 ≤ a.2.2) (hw : ∀ a ∈ arcs, a.2.2 ≤ W) :
    ∀ (as don : List (α × α × Int)) (D : List (α × Int)) (later : List α), don ++ as = arcs → WI arcs s W D (rest ++ later) (fun u => if u = here then don else arcs) → (getA D here).isSome = true →
      WI arcs s W (as.foldl (rx1 here) (D, later)).1 (rest ++ (as.foldl (rx1 here) (D, later)).2) (fun _ => arcs) ∧ mu K W (as.foldl (rx1 here) (D, later)).1 + (as.foldl (rx1 here) (D, later)).2.length ≤ mu K W D + later.length
  | [], don, D, later, e, I, _ => by
    rw [List.append_nil] at e
    subst e
    refine ⟨⟨I.u, I.snd, I.src, I.key, fun u m h => ?_, I.bd⟩, Int.le_refl _⟩
    have := I.rel u m h
    simpa using this
  | a :: as, don, D, later, e, I, hh => by
    have ha : a ∈ arcs := by rw [← e]; simp
    obtain ⟨I', h', m'⟩ := wi_step (K := K) hK ha (hir a ha) (hw0 a ha) (hw a ha) I hh
    rw [List.foldl_cons]
    generalize rx1 here (D, later) a = st at *
    obtain ⟨D', later'⟩ := st
    obtain ⟨I2, m2⟩ := wi_fold hK hir hw0 hw as (don ++ [a]) D' later' (by rw [← e]; simp) I' h'
    exact ⟨I2, by dsimp only at m'; omega⟩
theorem wi_row {W : Int} {K : Nat} (hK : ∀ l : List α, l.Nodup → l.length ≤ K) (hir : ∀ a ∈ arcs, a.1 ≠ a.2.1) (hw0 : ∀ a ∈ arcs, 0 ≤ a.2.2) (hw : ∀ a ∈ arcs, a.2.2 ≤ W) :
    ∀ (row : List α) (D : List (α × Int)) (later : List α), WI arcs s W D (row ++ later) (fun _ => arcs) →
      WI arcs s W (row.foldl (rxH arcs) (D, later)).1 (row.foldl (rxH arcs) (D, later)).2 (fun _ => arcs) ∧ mu K W (row.foldl (rxH arcs) (D, later)).1 + (row.foldl (rxH arcs) (D, later)).2.length ≤ mu K W D + later.length
  | [], D, later, I => ⟨I, Int.le_refl _⟩
  | here :: row, D, later, I => by
    have h0 : WI arcs s W D (row ++ later) (fun u => if u = here then [] else arcs) := by
      refine ⟨I.u, I.snd, I.src, fun x hx => I.key x (by simp at hx ⊢; exact .inr hx), fun u m h => ?_, I.bd⟩
      by_cases c : u = here
      · right
        rw [if_pos c]
        intro v w h
        cases h
      · rw [if_neg c]
        rcases I.rel u m h with h | h
        · left
          rw [List.cons_append] at h
          rcases List.mem_cons.1 h with h | h
          · exact absurd h c
          · exact h
        · exact .inr h
    obtain ⟨I', m'⟩ := wi_fold (K := K) hK hir hw0 hw arcs [] D later rfl h0 (I.key here (by simp))
    rw [List.foldl_cons]
    have e : rxH arcs (D, later) here = arcs.foldl (rx1 here) (D, later) := rfl
    rw [← e] at I' m'
    generalize rxH arcs (D, later) here = st at *
    obtain ⟨D', later'⟩ := st
    obtain ⟨I2, m2⟩ := wi_row hK hir hw0 hw row D' later' I'
    exact ⟨I2, by dsimp only at m'; omega⟩
theorem wi_round {W : Int} {K : Nat} (hK : ∀ l : List α, l.Nodup → l.length ≤ K) (hir : ∀ a ∈ arcs, a.1 ≠ a.2.1) (hw0 : ∀ a ∈ arcs, 0 ≤ a.2.2) (hw : ∀ a ∈ arcs, a.2.2 ≤ W) {row : List α} {D : List (α × Int)} (I : WI arcs s W D row (fun _ => arcs)) :
    WI arcs s W (rxR arcs D row).1 (rxR arcs D row).2 (fun _ => arcs) ∧ mu K W (rxR arcs D row).1 + (rxR arcs D row).2.length ≤ mu K W D := by
  have := wi_row (K := K) hK hir hw0 hw row D [] (by rw [List.append_nil]; exact I)
  exact ⟨this.1, by have := this.2; simp at this; exact this⟩
theorem wi_start (W : Int) : WI arcs s W [(s, 0)] [s] (fun _ => arcs) where
  u := by simp [Uniq]
  snd v n h := by
    unfold getA at h
    by_cases e : s = v
    · subst e
      simp at h
      subst h
      exact ⟨[], .nil⟩
    · simp [e, getA] at h
  src := ⟨0, Int.le_refl _, by simp [getA]⟩
  key x hx := by rw [List.mem_singleton.1 hx]; simp [getA]
  rel u m h := by
    left
    unfold getA at h
    by_cases e : s = u
    · simp [e]
    · simp [e, getA] at h
  bd v m h := by
    unfold getA at h
    by_cases e : s = v
    · simp [e] at h; simp; omega
    · simp [e, getA] at h
theorem wi_end {W : Int} {D : List (α × Int)} (I : WI arcs s W D [] (fun _ => arcs)) : Snd arcs s (getA D) ∧ Cmp arcs s (getA D) :=
  ⟨I.snd, cmp_fix I.src fun u v w m ha h => (I.rel u m h).elim (fun h => nomatch h) fun h => h v w ha⟩
theorem wi_mu {W : Int} {K : Nat} {D : List (α × Int)} {Q : List α} (hK : ∀ l : List α, l.Nodup → l.length ≤ K) (hw0 : ∀ a ∈ arcs, 0 ≤ a.2.2) (hW : 0 ≤ W) (I : WI arcs s W D Q (fun _ => arcs)) : 0 ≤ mu K W D := by
  have l1 := hK (D.map fun q => q.1) (show (D.map fun q => q.1).Nodup from I.u)
  rw [List.length_map] at l1
  have t0 : 0 ≤ tot D := by
    have hp : ∀ q ∈ D, 0 ≤ q.2 := by
      intro q hq
      have g : getA D q.1 = some q.2 := by
        have u := I.u
        clear I l1
        induction D with
        | nil => cases hq
        | cons p D ih =>
          have u' : (p.1 :: D.map (·.1)).Nodup := u
          obtain ⟨u1, u2⟩ := List.nodup_cons.1 u'
          unfold getA
          rcases List.mem_cons.1 hq with rfl | hq
          · simp
          · by_cases e : p.1 = q.1
            · exact absurd (List.mem_map.2 ⟨q, hq, e.symm⟩) u1
            · rw [if_neg e]
              exact ih hq u2
      obtain ⟨p, hp⟩ := I.snd _ _ g
      exact hp.nn hw0
    unfold tot
    clear I l1
    induction D with
    | nil => simp
    | cons q D ih =>
      have h1 := hp q (.head _)
      have h2 := ih fun r hr => hp r (.tail _ hr)
      rw [List.map_cons, List.sum_cons]
      omega
  unfold mu
  have h1 : 0 ≤ ((K : Int) - D.length) * (W * K + 1) := Int.mul_nonneg (by omega) (by have := Int.mul_nonneg hW (Int.natCast_nonneg K); omega)
  omega
end
end Z

namespace Z
open PySem
/-! things that several laws need -/
theorem stE {N : List Str} {ss : Z.Env} : startS N ss = ss ++ List.replicate (N.length - ss.length) .no := rfl
/-- coded things keep their order -/
theorem ordComap {α β : Type} [DecidableEq α] [DecidableEq β] {f : α → PyData} {lf : α → α → Bool} (o : OrdE f lf) (g : β → α) (inj : ∀ a b, g a = g b → a = b) (lg : β → β → Bool) (hl : ∀ a b, lf (g a) (g b) = lg a b) : OrdE (fun b => f (g b)) lg where
  e a b := by
    rw [o.e]
    by_cases h : a = b
    · subst h; simp
    · have : ¬ g a = g b := fun e => h (inj _ _ e)
      simp [h, this]
  p a := o.p _
  d a := o.d _
  al a b := o.al _ _
  l a b := by rw [o.l, hl]
  n a := o.n _
  tri a b h1 h2 := inj _ _ (o.tri _ _ (by rw [hl]; exact h1) (by rw [hl]; exact h2))
theorem asc_ext {α : Type} {lt : α → α → Bool} (as : ∀ a b, lt a b = true → lt b a = true → a = b) (ir : ∀ a, lt a a = false) {xs ys : List α} (h1 : xs.Pairwise fun a b => lt a b = true) (h2 : ys.Pairwise fun a b => lt a b = true) (h : ∀ a, a ∈ xs ↔ a ∈ ys) : xs = ys := by
  have nd : ∀ {zs : List α}, (zs.Pairwise fun a b => lt a b = true) → zs.Nodup := fun p => p.imp fun {a b} h e => by subst e; rw [ir] at h; cases h
  exact List.Perm.eq_of_pairwise (le := fun a b => lt a b = true) (fun a b _ _ => as a b) h1 h2 ((List.perm_ext_iff_of_nodup (nd h1) (nd h2)).2 h)
theorem sort_asc {α : Type} [DecidableEq α] {f : α → PyData} {lf : α → α → Bool} (o : OrdE f lf) {xs : List α} (nd : xs.Nodup) : (sortB lf xs).Pairwise fun a b => lf a b = true := by
  have h1 := o.pw xs
  have h2 : (sortB lf xs).Pairwise (· ≠ ·) := (sort_perm lf xs).nodup_iff.2 nd
  refine (h1.and h2).imp fun {a b} h => ?_
  cases hc : lf a b with
  | true => rfl
  | false => exact absurd (o.anti h.1 (by unfold leB; rw [hc]; rfl)) h.2
theorem sorted_dic {α β : Type} [DecidableEq α] {f : α → PyData} {lf : α → α → Bool} (o : OrdE f lf) (ht : ∀ a xs, f a ≠ .tuple xs) (hk : ∀ a, isKey0 (f a) = true) (v : β → PyData) (ps : List (α × β)) :
    sortedD (.dict (dicD f v ps)) = some (.list ((sortB lf (ps.map fun q => q.1)).map f)) := by
  have e : (dicD f v ps).map (fun q => q.1) = (ps.map fun q => q.1).map f := by unfold dicD; rw [List.map_map, List.map_map]; rfl
  show (if (sortOk ((dicD f v ps).map fun q => q.1) && ((dicD f v ps).map fun q => q.1).all isKey0) = true then some (PyData.list (sortD ((dicD f v ps).map fun q => q.1))) else if sortTOk ((dicD f v ps).map fun q => q.1) = true then some (PyData.list (sortD ((dicD f v ps).map fun q => q.1))) else none) = _
  rw [e, if_pos, o.sort]
  rw [Bool.and_eq_true]
  constructor
  · have := sorted_on0 o ht (ps.map fun q => q.1)
    have this : (if sortOk ((ps.map fun q => q.1).map f) = true then some (PyData.list (sortD ((ps.map fun q => q.1).map f))) else none) = _ := this
    split at this
    · rename_i h; exact h
    · cases this
  · rw [List.all_eq_true]
    intro y hy
    obtain ⟨a, _, rfl⟩ := List.mem_map.1 hy
    exact hk a
theorem fold_mem {α κ β : Type} [DecidableEq κ] (k : α → κ) (v : α → β) : ∀ (xs : List α) (ps : List (κ × β)) (q : κ × β), q ∈ xs.foldl (fun ps x => setA ps (k x) (v x)) ps → q ∈ ps ∨ ∃ x ∈ xs, q = (k x, v x)
  | [], ps, q, h => .inl h
  | x :: xs, ps, q, h => by
    rcases fold_mem k v xs _ q h with h | ⟨y, hy, e⟩
    · rcases setA_keys _ _ _ _ h with rfl | h
      · exact .inr ⟨x, .head _, rfl⟩
      · exact .inl h
    · exact .inr ⟨y, .tail _ hy, e⟩
theorem gt_on {α : Type} [DecidableEq α] {f : α → PyData} {lf : α → α → Bool} (o : OrdE f lf) (a b : α) : gtD (f a) (f b) = some (.bool (lf b a)) := by
  have h := o.lt a b
  have c : cmpOk (f a) (f b) = true := by
    unfold ltD at h
    split at h
    · rename_i c; exact c
    · cases h
  unfold gtD
  rw [if_pos c, o.l]
theorem slH_m {α : Type} (f : α → PyData) (l : List α) {k : Int} (h : 0 ≤ k) : slHD (.tuple (l.map f)) (.int k) = some (.tuple ((l.take k.toNat).map f)) := by
  simp [slHD, cutD, cut_hi _ h, List.map_take]
theorem slH_l {α : Type} (f : α → PyData) (l : List α) {k : Int} (h : 0 ≤ k) : slHD (.list (l.map f)) (.int k) = some (.list ((l.take k.toNat).map f)) := by
  simp [slHD, cutD, cut_hi _ h, List.map_take]
theorem len_nodup {α : Type} [DecidableEq α] : ∀ {xs ns : List α}, xs.Nodup → (∀ x ∈ xs, x ∈ ns) → xs.length ≤ ns.length
  | [], _, _, _ => Nat.zero_le _
  | x :: xs, ns, hn, h => by
    obtain ⟨h1, h2⟩ := List.nodup_cons.1 hn
    have hx := h x (.head _)
    have := len_nodup (xs := xs) (ns := ns.erase x) h2 fun y hy => by
      have ne : y ≠ x := fun e => by subst e; exact h1 hy
      exact (List.mem_erase_of_ne ne).2 (h y (.tail _ hy))
    rw [List.length_erase_of_mem hx] at this
    have := List.length_pos_of_mem hx
    rw [List.length_cons]
    omega
/-- nothing there, or a thing that is shared -/
def SN (s : Sl) : Prop := s = .no ∨ ∃ d, s = .sh d
end Z

/-! four places and ways between them (k52, k53, k58) -/
namespace W4
open PySem Z
def pl : Fin 4 → Str
  | 0 => "gate"
  | 1 => "inn"
  | 2 => "ring"
  | 3 => "yard"
abbrev pD (i : Fin 4) : PyData := .str (pl i)
def ltP (a b : Fin 4) : Bool := decide (a < b)
theorem ordP : OrdE pD ltP := ordComap ordS pl (by decide +kernel) ltP (by decide +kernel)
theorem keyP : KeyE pD where
  toEnc := ordP.toEnc
  k _ := rfl
  fl _ _ := rfl
abbrev Wy := Fin 4 × Fin 4 × Int
def wyD (w : Wy) : PyData := .tuple [pD w.1, pD w.2.1, .int w.2.2]
abbrev wsD (ws : List Wy) : PyData := .tuple (ws.map wyD)
def arcsF (ws : List Wy) : List Wy := ws.flatMap fun w => [(w.1, w.2.1, w.2.2), (w.2.1, w.1, w.2.2)]
structure GW (ws : List Wy) : Prop where
  n : ws.length ≤ 6
  lt : ∀ w ∈ ws, ltP w.1 w.2.1 = true
  w : ∀ w ∈ ws, 1 ≤ w.2.2 ∧ w.2.2 ≤ 6
  asc : ((ws.zip ws.tail).all fun q => lt2 ltP ltP (q.1.1, q.1.2.1) (q.2.1, q.2.2.1)) = true
def dstF (ws : List Wy) (a : Fin 4) : Fin 4 → Option Int := getA (rnds 999 (arcsF ws) 4 [(a, 0)])
theorem nd4 (l : List (Fin 4)) (h : l.Nodup) : l.length ≤ 4 := by
  have := len_nodup (xs := l) (ns := [0, 1, 2, 3]) h fun x _ => (by decide : ∀ x : Fin 4, x ∈ ([0, 1, 2, 3] : List (Fin 4))) x
  simpa using this
theorem arc_of {ws : List Wy} {x : Wy} (hx : x ∈ arcsF ws) : ∃ w ∈ ws, x = (w.1, w.2.1, w.2.2) ∨ x = (w.2.1, w.1, w.2.2) := by
  obtain ⟨w, hw, h⟩ := List.mem_flatMap.1 hx
  simp at h
  exact ⟨w, hw, h⟩
theorem GW.arc {ws : List Wy} (G : GW ws) {x : Wy} (hx : x ∈ arcsF ws) : 1 ≤ x.2.2 ∧ x.2.2 ≤ 6 ∧ x.1 ≠ x.2.1 := by
  obtain ⟨w, hw, h⟩ := arc_of hx
  have h1 := G.w w hw
  have h2 := G.lt w hw
  have h3 : w.1 ≠ w.2.1 := fun e => by rw [e] at h2; simp [ltP] at h2
  rcases h with rfl | rfl
  · exact ⟨h1.1, h1.2, h3⟩
  · exact ⟨h1.1, h1.2, fun e => h3 e.symm⟩
theorem arcs_len {ws : List Wy} (G : GW ws) : (arcsF ws).length ≤ 12 := by
  have := flat_len (f := fun w : Wy => [(w.1, w.2.1, w.2.2), (w.2.1, w.1, w.2.2)]) (m := 2) (xs := ws) fun x _ => by simp
  have := G.n
  unfold arcsF
  omega
theorem dst_spec {ws : List Wy} (G : GW ws) (a : Fin 4) : Snd (arcsF ws) a (dstF ws a) ∧ Cmp (arcsF ws) a (dstF ws a) := by
  have hw : ∀ x ∈ arcsF ws, 1 ≤ x.2.2 ∧ x.2.2 ≤ 6 := fun x hx => ⟨(G.arc hx).1, (G.arc hx).2.1⟩
  have hl := arcs_len G
  obtain ⟨h1, h2, _⟩ := rnds_all (arcs := arcsF ws) (s := a) (inf := 999) (W := 6) (by omega) (fun x h => (hw x h).2) 4 (by omega)
  exact ⟨h1, cmp_all (fun x h => by have := (hw x h).1; omega) (k := 4) (fun l h => by have := nd4 l h; omega) h2⟩
abbrev pdD (D : List (Fin 4 × Int)) : PyData := .dict (dicD pD PyData.int D)
theorem uniq_len {D : List (Fin 4 × Int)} (u : Uniq D) : D.length ≤ 4 := by
  have := nd4 _ (show (D.map (·.1)).Nodup from u)
  rwa [List.length_map] at this
theorem get1_dic {α β : Type} [DecidableEq α] {f : α → PyData} {v : β → PyData} (hf : KeyE f) (k : α) (ps : List (α × β)) : get1D (.dict (dicD f v ps)) (f k) = some (((getA ps k).map v).getD .none) := by
  unfold get1D
  simp only [keyFit_dic hf, if_pos, lookD_dic hf.toEnc]
theorem get2_dic {α β : Type} [DecidableEq α] {f : α → PyData} {v : β → PyData} (hf : KeyE f) (k : α) (d : PyData) (ps : List (α × β)) : get2D (.dict (dicD f v ps)) (f k) d = some (((getA ps k).map v).getD d) := by
  unfold get2D
  simp only [keyFit_dic hf, if_pos, lookD_dic hf.toEnc]
/-! rows of places that got better -/
structure RI (P : Fin 4 → Prop) (n : Nat) (st : List (Fin 4 × Int) × List (Fin 4)) : Prop where
  u : Uniq st.1
  s : ∀ x, P x → (getA st.1 x).isSome = true
  l : st.2.length ≤ n
theorem RI.step {P : Fin 4 → Prop} {n : Nat} {st : List (Fin 4 × Int) × List (Fin 4)} (I : RI P n st) (here : Fin 4) (a : Wy) : RI P (n + 1) (rx1 here st a) := by
  unfold rx1
  split
  · refine ⟨uniq_set _ _ _ I.u, fun x hx => ?_, ?_⟩
    · dsimp only
      rw [getA_setA]
      split
      · rfl
      · exact I.s x hx
    · have := I.l
      simp
      omega
  · exact ⟨I.u, I.s, by have := I.l; omega⟩
theorem RI.fold {P : Fin 4 → Prop} (here : Fin 4) : ∀ (as : List Wy) {n : Nat} {st : List (Fin 4 × Int) × List (Fin 4)}, RI P n st → RI P (n + as.length) (as.foldl (rx1 here) st)
  | [], n, st, I => I
  | a :: as, n, st, I => by
    have := RI.fold here as (I.step here a)
    rw [List.foldl_cons, List.length_cons]
    rwa [show n + (as.length + 1) = n + 1 + as.length by omega]
theorem RI.row {P : Fin 4 → Prop} {as : List Wy} : ∀ (row : List (Fin 4)) {n : Nat} {st : List (Fin 4 × Int) × List (Fin 4)}, RI P n st → RI P (n + row.length * as.length) (row.foldl (rxH as) st)
  | [], n, st, I => by simpa using I
  | h :: row, n, st, I => by
    have := RI.row (as := as) row (I.fold h as)
    rw [List.foldl_cons, List.length_cons]
    rwa [show n + (row.length + 1) * as.length = n + as.length + row.length * as.length by rw [Nat.succ_mul]; omega]
theorem RI.imp {P : Fin 4 → Prop} {m n : Nat} {st : List (Fin 4 × Int) × List (Fin 4)} (I : RI P n st) (h : n ≤ m) : RI P m st := ⟨I.u, I.s, by have := I.l; omega⟩
/-! the tree of times_from, ways_from -/
def f6 : S := (.ife (.and_ (.p2 .eq (.v 9) (.v 5)) (.or_ (.p2 .nin (.v 10) (.v 2)) (.p2 .lt (.p2 .add (.p2 .ix (.v 2) (.v 5)) (.v 8)) (.p2 .ix (.v 2) (.v 10)))))
    (.cons (.setix 2 (.v 10) (.p2 .add (.p2 .ix (.v 2) (.v 5)) (.v 8))) (.cons (.app 4 (.v 10)) .nil))
    .nil)
def f5 : S := (.for_ (.cons (.nm 9) (.cons (.nm 10) .nil)) (.val (.tup (.cons (.tup (.cons (.v 6) (.cons (.v 7) .nil))) (.cons (.tup (.cons (.v 7) (.cons (.v 6) .nil))) .nil))))
    (.cons f6 .nil))
def f4 : S := (.for_ (.cons (.nm 6) (.cons (.nm 7) (.cons (.nm 8) .nil))) (.val (.v 0))
    (.cons f5 .nil))
def f3 : S := (.for_ (.nm 5) (.val (.v 3))
    (.cons f4 .nil))
def f2 : S := (.wh (.v 3)
    (.cons (.asg (.nm 4) (.lst .nil)) (.cons f3 (.cons (.asg (.nm 3) (.v 4)) .nil))))
def fromB : Ss := (.cons (.asg (.nm 2) (.dct (.cons (.v 1) (.cons (.k (.int 0)) .nil)))) (.cons (.asg (.nm 3) (.lst (.cons (.v 1) .nil))) (.cons f2 (.cons (.ret (.v 2)) .nil))))
section
variable {Φ : Nat → Spc} {ws : List Wy} {a here x y : Fin 4} {m : Int} {st : List (Fin 4 × Int) × List (Fin 4)} {s3 s5 s6 s7 s8 s9 s10 : Sl} {K : Kt}
abbrev fE (ws : List Wy) (a : Fin 4) (st : List (Fin 4 × Int) × List (Fin 4)) (s3 s5 s6 s7 s8 s9 s10 : Sl) : Z.Env := [.sh (wsD ws), .sh (pD a), .ow (pdD st.1), s3, .ow (.list (st.2.map pD)), s5, s6, s7, s8, s9, s10]
theorem f6_r (u : Uniq st.1) (hs : (getA st.1 here).isSome = true) (hl : st.2.length < 16777216) (h : K.nx (fE ws a (rx1 here st (x, y, m)) s3 (.sh (pD here)) s6 s7 (.sh (.int m)) (.sh (pD x)) (.sh (pD y)))) :
    rdS Φ f6 (fE ws a st s3 (.sh (pD here)) s6 s7 (.sh (.int m)) (.sh (pD x)) (.sh (pD y))) K := by
  obtain ⟨v, hv⟩ := Option.isSome_iff_exists.1 hs
  have e1 : eqD (pD x) (pD here) = some (.bool (decide (x = here))) := ordP.toEnc.eq x here
  have e2 := nin_dic keyP (v := PyData.int) y st.1
  have e3 := ix_dic keyP (v := PyData.int) here st.1
  rw [hv] at e3
  have e3 : ixD (pdD st.1) (pD here) = some (.int v) := e3
  have e4 := ix_dic keyP (v := PyData.int) y st.1
  have e5 := set_dic keyP (v := PyData.int) y (v + m) st.1 u (by have := uniq_len u; simp [big]; omega)
  have bg : big = 16777216 := rfl
  unfold rx1 at h
  rw [hv] at h
  dsimp only [Option.getD] at h
  unfold f6
  by_cases c : x = here
  · cases hy : getA st.1 y with
    | none =>
      rw [hy] at e2
      simp [e1, e2, c, e3, rdVar_sh, e5, mustL, bg]
      refine ⟨hl, ?_⟩
      simpa [fE, c, bet, hy] using h
    | some w =>
      rw [hy] at e2 e4
      have e4 : ixD (pdD st.1) (pD y) = some (.int w) := e4
      by_cases c2 : v + m < w
      · simp [e1, e2, c, e3, e4, c2, rdVar_sh, e5, mustL, bg]
        refine ⟨hl, ?_⟩
        simpa [fE, c, bet, hy, c2] using h
      · simp [e1, e2, c, e3, e4, c2]
        simpa [fE, c, bet, hy, c2] using h
  · simp [e1, c]
    simpa [c] using h
theorem f5_r (I : RI (fun z => z = here) 16777000 st) (h : ∀ s9 s10, K.nx (fE ws a ([(x, y, m), (y, x, m)].foldl (rx1 here) st) s3 (.sh (pD here)) (.sh (pD x)) (.sh (pD y)) (.sh (.int m)) s9 s10)) :
    rdS Φ f5 (fE ws a st s3 (.sh (pD here)) (.sh (pD x)) (.sh (pD y)) (.sh (.int m)) s9 s10) K := by
  unfold f5
  simp [rdVar_sh, forW]
  refine f6_r (K := { nx := _, rt := _, bk := _, ct := _ }) I.u (I.s _ rfl) (by have := I.l; omega) ?_
  simp
  have I2 := I.step here (x, y, m)
  refine f6_r (K := { nx := _, rt := _, bk := _, ct := _ }) I2.u (I2.s _ rfl) (by have := I2.l; omega) ?_
  exact h _ _
theorem f4_r (G : GW ws) (I : RI (fun z => z = here) 16776000 st) (h : ∀ s6 s7 s8 s9 s10, K.nx (fE ws a (rxH (arcsF ws) st here) s3 (.sh (pD here)) s6 s7 s8 s9 s10)) :
    rdS Φ f4 (fE ws a st s3 (.sh (pD here)) s6 s7 s8 s9 s10) K := by
  unfold f4
  simp [lock]
  refine forW_st wyD (fun st ρ => ∃ s6 s7 s8 s9 s10, ρ = fE ws a st s3 (.sh (pD here)) s6 s7 s8 s9 s10) (fun st w => [(w.1, w.2.1, w.2.2), (w.2.1, w.1, w.2.2)].foldl (rx1 here) st) ws st ⟨_, _, _, _, _, rfl⟩ ?_ ?_
  · rintro ys w zs ρ N e ⟨s6, s7, s8, s9, s10, rfl⟩ hN
    have ef : ys.foldl (fun st w => [(w.1, w.2.1, w.2.2), (w.2.1, w.1, w.2.2)].foldl (rx1 here) st) st = (arcsF ys).foldl (rx1 here) st := by
      unfold arcsF
      rw [List.foldl_flatMap]
    have hl : (arcsF ys).length ≤ 12 := by
      have := arcs_len G
      have e9 : arcsF ws = arcsF ys ++ arcsF (w :: zs) := by rw [e]; unfold arcsF; rw [List.flatMap_append]
      rw [e9, List.length_append] at this
      omega
    have I2 := (I.fold here (arcsF ys)).imp (m := 16777000) (by omega)
    rw [← ef] at I2
    simp [wyD]
    exact f5_r (K := { nx := _, rt := _, bk := _, ct := _ }) I2 fun s9 s10 => hN _ ⟨_, _, _, _, _, rfl⟩
  · rintro ρ ⟨s6, s7, s8, s9, s10, rfl⟩
    have ef : ws.foldl (fun st w => [(w.1, w.2.1, w.2.2), (w.2.1, w.1, w.2.2)].foldl (rx1 here) st) st = rxH (arcsF ws) st here := by
      unfold rxH arcsF
      rw [List.foldl_flatMap]
    rw [ef]
    exact h _ _ _ _ _
end
end W4

namespace W4
open PySem Z
section
variable {Φ : Nat → Spc} {ws : List Wy} {a here x y : Fin 4} {m : Int} {st : List (Fin 4 × Int) × List (Fin 4)} {D : List (Fin 4 × Int)} {row : List (Fin 4)} {s3 s4 s5 s6 s7 s8 s9 s10 : Sl} {K : Kt}
theorem f3_r (G : GW ws) (u : Uniq D) (hs : ∀ x ∈ row, (getA D x).isSome = true) (hl : row.length ≤ 1000) (hr : s3 = .ow (.list (row.map pD)) ∨ s3 = .sh (.list (row.map pD)))
    (h : ∀ s5 s6 s7 s8 s9 s10, K.nx (fE ws a (rxR (arcsF ws) D row) s3 s5 s6 s7 s8 s9 s10)) :
    rdS Φ f3 (fE ws a (D, []) s3 s5 s6 s7 s8 s9 s10) K := by
  have al := arcs_len G
  have I0 : RI (fun z => z ∈ row) 0 (D, []) := ⟨u, hs, by simp⟩
  have key : ∀ (s3' : Sl) (ls : List Nat), (∀ s5 s6 s7 s8 s9 s10, K.nx (unlock (fE ws a (rxR (arcsF ws) D row) s3' s5 s6 s7 s8 s9 s10) ls)) →
      forW (.nm 5) (rdB Φ (.cons f4 .nil)) { nx := fun ρ' => K.nx (unlock ρ' ls), rt := fun fr d ρ' => K.rt fr d (unlock ρ' ls), bk := fun ρ' => K.nx (unlock ρ' ls) } (row.map pD) (fE ws a (D, []) s3' s5 s6 s7 s8 s9 s10) := by
    intro s3' ls hk
    refine forW_st pD (fun st ρ => ∃ s5 s6 s7 s8 s9 s10, ρ = fE ws a st s3' s5 s6 s7 s8 s9 s10) (rxH (arcsF ws)) row (D, []) ⟨_, _, _, _, _, _, rfl⟩ ?_ ?_
    · rintro ys here zs ρ N e ⟨s5, s6, s7, s8, s9, s10, rfl⟩ hN
      have hy : ys.length ≤ 1000 := by have := congrArg List.length e; simp at this; omega
      have hm : ys.length * (arcsF ws).length ≤ 1000 * 12 := Nat.mul_le_mul hy al
      have I2 := (I0.row (as := arcsF ws) ys).imp (m := 16776000) (by omega)
      have I3 : RI (fun z => z = here) 16776000 (ys.foldl (rxH (arcsF ws)) (D, [])) := ⟨I2.u, fun z hz => I2.s z (by rw [e, hz]; simp), I2.l⟩
      simp
      exact f4_r (K := { nx := _, rt := _, bk := _, ct := _ }) G I3 fun s6 s7 s8 s9 s10 => hN _ ⟨_, _, _, _, _, _, rfl⟩
    · rintro ρ ⟨s5, s6, s7, s8, s9, s10, rfl⟩
      exact hk _ _ _ _ _ _
  unfold f3
  rcases hr with rfl | rfl
  · have := key (.lk (.list (row.map pD))) [3] fun s5 s6 s7 s8 s9 s10 => by
      simp [unlock]
      exact h _ _ _ _ _ _
    simp [lock]
    simpa [fE] using this
  · have := key (.sh (.list (row.map pD))) [] fun s5 s6 s7 s8 s9 s10 => h _ _ _ _ _ _
    simp [lock]
    simpa [fE] using this
theorem mu0 : mu 4 6 [((a : Fin 4), 0)] = 75 := rfl
theorem read_from {N : List Str} (hN : N.length = 11) (G : GW ws) {Kq : Bool → PyData → Prop} (kk : ∀ D, Uniq D → getA D = dstF ws a → Kq true (pdD D)) : rdB Φ fromB (startS N [.sh (wsD ws), .sh (pD a)]) (ktF Kq) := by
  have eS : startS N [.sh (wsD ws), .sh (pD a)] = [.sh (wsD ws), .sh (pD a), .no, .no, .no, .no, .no, .no, .no, .no, .no] := by unfold startS; rw [hN]; rfl
  rw [eS]
  unfold fromB
  have hir : ∀ x ∈ arcsF ws, x.1 ≠ x.2.1 := fun x hx => (G.arc hx).2.2
  have hw0 : ∀ x ∈ arcsF ws, 0 ≤ x.2.2 := fun x hx => by have := (G.arc hx).1; omega
  have hw : ∀ x ∈ arcsF ws, x.2.2 ≤ 6 := fun x hx => (G.arc hx).2.1
  have e0 : mergeD [] [(pD a, PyData.int 0)] = dicD pD PyData.int [(a, 0)] := by simp [mergeD, putD, dicD]
  simp [rdVar_sh, ktF, flatKey, f2, e0]
  refine whW_inv (fun n ρ => ∃ D row s3 s4 s5 s6 s7 s8 s9 s10, ρ = [.sh (wsD ws), .sh (pD a), .ow (pdD D), s3, s4, s5, s6, s7, s8, s9, s10] ∧ (s3 = .ow (.list (row.map pD)) ∨ s3 = .sh (.list (row.map pD))) ∧
    WI (arcsF ws) a 6 D row (fun _ => arcsF ws) ∧ mu 4 6 D + row.length ≤ n ∧ n ≤ 100) 76 ⟨[(a, 0)], [a], _, _, _, _, _, _, _, _, rfl, .inl rfl, wi_start 6, by rw [mu0]; simp, by omega⟩ ?_
  rintro n ρ N ⟨D, row, s3, s4, s5, s6, s7, s8, s9, s10, rfl, hr, I, hn, hn1⟩ hN
  have m0 := wi_mu (K := 4) nd4 hw0 (by omega) I
  have ht : ((some s3 : Option Sl).bind Sl.dat) = some (.list (row.map pD)) := by rcases hr with rfl | rfl <;> rfl
  by_cases c : row = []
  · subst c
    simp [ht, ret_ow]
    have we := wi_end I
    have de := dst_spec G a
    exact kk D I.u (best_uniq we.1 we.2 de.1 de.2)
  · have c' : (row.map pD).isEmpty = false := by cases row; exact absurd rfl c; rfl
    have wr := wi_round (K := 4) nd4 hir hw0 hw I
    simp [ht, c]
    refine f3_r (K := { nx := _, rt := _, bk := _, ct := _ }) (row := row) G I.u I.key (by omega) hr fun s5 s6 s7 s8 s9 s10 => ?_
    simp [rdVar_ow]
    cases n with
    | zero => 
      have : row.length = 0 := by omega
      exact absurd (List.length_eq_zero_iff.1 this) c
    | succ n =>
      have rl : 1 ≤ row.length := by
        cases row with
        | nil => exact absurd rfl c
        | cons => simp
      exact hN n _ (by omega) ⟨_, _, _, _, _, _, _, _, _, _, rfl, .inr rfl, wr.1, by have := wr.2; omega, by omega⟩
end
/-! the law's own: rounds -/
def g5 : S := (.ife (.and_ (.p2 .in_ (.v 8) (.v 3)) (.p2 .lt (.p2 .add (.p2 .ix (.v 3) (.v 8)) (.v 7)) (.m2 .get2 (.v 3) (.v 9) (.k (.int 999)))))
    (.cons (.setix 3 (.v 9) (.p2 .add (.p2 .ix (.v 3) (.v 8)) (.v 7))) .nil)
    .nil)
def g4 : S := (.for_ (.cons (.nm 8) (.cons (.nm 9) .nil)) (.val (.tup (.cons (.tup (.cons (.v 5) (.cons (.v 6) .nil))) (.cons (.tup (.cons (.v 6) (.cons (.v 5) .nil))) .nil))))
    (.cons g5 .nil))
def g3 : S := (.for_ (.cons (.nm 5) (.cons (.nm 6) (.cons (.nm 7) .nil))) (.val (.v 0))
    (.cons g4 .nil))
def g2 : S := (.for_ (.nm 4) (.rng1 (.k (.int 4)))
    (.cons g3 .nil))
def timeB : Ss := (.cons (.asg (.nm 3) (.p1 .dict (.lst (.cons (.tup (.cons (.v 1) (.cons (.k (.int 0)) .nil))) .nil)))) (.cons g2 (.cons (.ret (.m1 .get1 (.v 3) (.v 2))) .nil)))
section
variable {Φ : Nat → Spc} {ws : List Wy} {a b x y : Fin 4} {m : Int} {D : List (Fin 4 × Int)} {s4 s5 s6 s7 s8 s9 : Sl} {K : Kt}
theorem rlx_uniq {inf : Int} {D : List (Fin 4 × Int)} (u : Uniq D) (a : Wy) : Uniq (rlx inf D a) := by
  unfold rlx
  split
  · exact u
  · split
    · exact uniq_set _ _ _ u
    · exact u
theorem rnd_uniq {inf : Int} : ∀ (as : List Wy) {D : List (Fin 4 × Int)}, Uniq D → Uniq (rnd inf as D)
  | [], D, u => u
  | a :: as, D, u => rnd_uniq as (rlx_uniq u a)
theorem rnds_uniq {inf : Int} {as : List Wy} : ∀ (k : Nat) {D : List (Fin 4 × Int)}, Uniq D → Uniq (rnds inf as k D)
  | 0, D, u => u
  | k + 1, D, u => rnd_uniq as (rnds_uniq k u)
abbrev tE (ws : List Wy) (a b : Fin 4) (D : List (Fin 4 × Int)) (s4 s5 s6 s7 s8 s9 : Sl) : Z.Env := [.sh (wsD ws), .sh (pD a), .sh (pD b), .ow (pdD D), s4, s5, s6, s7, s8, s9]
theorem g5_r (u : Uniq D) (h : K.nx (tE ws a b (rlx 999 D (x, y, m)) s4 s5 s6 (.sh (.int m)) (.sh (pD x)) (.sh (pD y)))) :
    rdS Φ g5 (tE ws a b D s4 s5 s6 (.sh (.int m)) (.sh (pD x)) (.sh (pD y))) K := by
  have e2 := in_dic keyP (v := PyData.int) x D
  have e3 := ix_dic keyP (v := PyData.int) x D
  have e4 := get2_dic keyP (v := PyData.int) y (.int 999) D
  unfold rlx at h
  unfold g5
  cases hx : getA D x with
  | none =>
    rw [hx] at e2
    simp [e2]
    simpa [hx] using h
  | some v =>
    rw [hx] at e2 e3
    have e3 : ixD (pdD D) (pD x) = some (.int v) := e3
    have e5 := set_dic keyP (v := PyData.int) y (v + m) D u (by have := uniq_len u; simp [big]; omega)
    have e6 : get2D (pdD D) (pD y) (.int 999) = some (.int ((getA D y).getD 999)) := by rw [e4]; cases getA D y <;> rfl
    by_cases c : v + m < (getA D y).getD 999
    · simp [e2, e3, e6, c, rdVar_sh, e5, recv]
      simpa [hx, c] using h
    · simp [e2, e3, e6, c, rdVar_sh, recv]
      simpa [hx, c] using h
theorem g4_r (u : Uniq D) (h : ∀ s8 s9, K.nx (tE ws a b ([(x, y, m), (y, x, m)].foldl (rlx 999) D) s4 (.sh (pD x)) (.sh (pD y)) (.sh (.int m)) s8 s9)) :
    rdS Φ g4 (tE ws a b D s4 (.sh (pD x)) (.sh (pD y)) (.sh (.int m)) s8 s9) K := by
  unfold g4
  simp [rdVar_sh, forW]
  refine g5_r (K := { nx := _, rt := _, bk := _, ct := _ }) u ?_
  simp
  refine g5_r (K := { nx := _, rt := _, bk := _, ct := _ }) (rlx_uniq u _) ?_
  exact h _ _
theorem g3_r (u : Uniq D) (h : ∀ s5 s6 s7 s8 s9, K.nx (tE ws a b (rnd 999 (arcsF ws) D) s4 s5 s6 s7 s8 s9)) :
    rdS Φ g3 (tE ws a b D s4 s5 s6 s7 s8 s9) K := by
  have ef : ∀ ys : List Wy, ys.foldl (fun D w => [(w.1, w.2.1, w.2.2), (w.2.1, w.1, w.2.2)].foldl (rlx 999) D) D = rnd 999 (arcsF ys) D := fun ys => by
    unfold rnd arcsF
    rw [List.foldl_flatMap]
  unfold g3
  simp [lock]
  refine forW_st wyD (fun D ρ => ∃ s5 s6 s7 s8 s9, ρ = tE ws a b D s4 s5 s6 s7 s8 s9) (fun D w => [(w.1, w.2.1, w.2.2), (w.2.1, w.1, w.2.2)].foldl (rlx 999) D) ws D ⟨_, _, _, _, _, rfl⟩ ?_ ?_
  · rintro ys w zs ρ N e ⟨s5, s6, s7, s8, s9, rfl⟩ hN
    have u2 := rnd_uniq (inf := 999) (arcsF ys) u
    rw [← ef] at u2
    simp [wyD]
    exact g4_r (K := { nx := _, rt := _, bk := _, ct := _ }) u2 fun s8 s9 => hN _ ⟨_, _, _, _, _, rfl⟩
  · rintro ρ ⟨s5, s6, s7, s8, s9, rfl⟩
    rw [ef]
    exact h _ _ _ _ _
theorem read_time {N : List Str} (hN : N.length = 10) {Kq : Bool → PyData → Prop} (kk : Kq false (optI (dstF ws a b))) : rdB Φ timeB (startS N [.sh (wsD ws), .sh (pD a), .sh (pD b)]) (ktF Kq) := by
  have eS : startS N [.sh (wsD ws), .sh (pD a), .sh (pD b)] = [.sh (wsD ws), .sh (pD a), .sh (pD b), .no, .no, .no, .no, .no, .no, .no] := by unfold startS; rw [hN]; rfl
  rw [eS]
  unfold timeB g2
  have e0 : dictD (.list [.tuple [pD a, .int 0]]) = some (pdD [(a, 0)]) := by
    have := dict_on keyP.toEnc (fun _ => rfl) (vf := PyData.int) (fun q : Fin 4 × Int => q.1) (fun q => q.2) [(a, 0)]
    exact this
  simp [rdVar_sh, ktF, e0, lim]
  refine forW_ups0 (fun i ρ => ∃ s4 s5 s6 s7 s8 s9, ρ = tE ws a b (rnds 999 (arcsF ws) i [(a, 0)]) s4 s5 s6 s7 s8 s9) ?_ ?_ ⟨_, _, _, _, _, _, rfl⟩
  · rintro i ρ N hi ⟨s4, s5, s6, s7, s8, s9, rfl⟩ hN
    simp
    refine g3_r (K := { nx := _, rt := _, bk := _, ct := _ }) (rnds_uniq i (by simp [Uniq])) fun s5 s6 s7 s8 s9 => hN _ ⟨_, _, _, _, _, _, rfl⟩
  · rintro ρ ⟨s4, s5, s6, s7, s8, s9, rfl⟩
    have e1 := get1_dic keyP (v := PyData.int) b (rnds 999 (arcsF ws) 4 [(a, 0)])
    have e2 : ((getA (rnds 999 (arcsF ws) 4 [(a, 0)]) b).map PyData.int).getD .none = optI (dstF ws a b) := by
      unfold dstF
      cases getA (rnds 999 (arcsF ws) 4 [(a, 0)]) b <;> rfl
    rw [e2] at e1
    simp [unlock, e1, rdVar_sh, recv]
    exact kk
end
end W4

namespace W4
open PySem Z
theorem pw_zip {α : Type} {R : α → α → Prop} : ∀ {l : List α}, l.Pairwise R → ∀ q ∈ l.zip l.tail, R q.1 q.2
  | [], _, q, h => by cases h
  | [x], _, q, h => by cases h
  | x :: y :: l, p, q, h => by
    rw [List.tail_cons, List.zip_cons_cons] at h
    rcases List.mem_cons.1 h with rfl | h
    · exact (List.pairwise_cons.1 p).1 y (.head _)
    · exact pw_zip (l := y :: l) (List.pairwise_cons.1 p).2 q h
theorem getA_uniq {κ β : Type} [DecidableEq κ] : ∀ {ps : List (κ × β)} {k : κ} {v : β}, Uniq ps → (k, v) ∈ ps → getA ps k = some v
  | q :: ps, k, v, u, h => by
    have u' : (q.1 :: ps.map (·.1)).Nodup := u
    obtain ⟨u1, u2⟩ := List.nodup_cons.1 u'
    unfold getA
    rcases List.mem_cons.1 h with rfl | h
    · simp
    · by_cases e : q.1 = k
      · exact absurd (List.mem_map.2 ⟨(k, v), h, e.symm⟩) u1
      · rw [if_neg e]
        exact getA_uniq u2 h
def kPP (q : Fin 4 × Fin 4) : PyData := .tuple [pD q.1, pD q.2]
theorem dep_p (a : Fin 4) : (pD a).depth ≤ 30 := by simp [PyData.depth]
theorem dep_i (a : Int) : (PyData.int a).depth ≤ 30 := by simp [PyData.depth]
theorem keyPP : KeyE kPP where
  toEnc := enc2 ordP.toEnc ordP.toEnc dep_p dep_p
  k q := rfl
  fl a b := rfl
def ltW : Wy → Wy → Bool := lt3 ltP ltP ltI
theorem ordW : OrdE wyD ltW := ord3 ordP ordP ordI dep_p dep_p dep_i
abbrev Ps2 := List ((Fin 4 × Fin 4) × Int)
def wsF (ps : Ps2) : List Wy := sortB ltW (ps.map fun q => (q.1.1, q.1.2, q.2))
structure GD (M : Int) (n : Nat) (ps : Ps2) : Prop where
  u : Uniq ps
  n : ps.length ≤ n
  b : ∀ q ∈ ps, ltP q.1.1 q.1.2 = true ∧ 1 ≤ q.2 ∧ q.2 ≤ M
theorem GD.ws {M : Int} {n : Nat} {ps : Ps2} (G : GD M n ps) (hM : M ≤ 6) (hn : n ≤ 6) : GW (wsF ps) where
  n := by unfold wsF; rw [(sort_perm _ _).length_eq, List.length_map]; have := G.n; omega
  lt w hw := by
    obtain ⟨q, hq, rfl⟩ := List.mem_map.1 ((sort_perm _ _).mem_iff.1 hw)
    exact (G.b q hq).1
  w w hw := by
    obtain ⟨q, hq, rfl⟩ := List.mem_map.1 ((sort_perm _ _).mem_iff.1 hw)
    have := (G.b q hq).2
    exact ⟨this.1, by dsimp only; omega⟩
  asc := by
    have h1 := ordW.pw (ps.map fun q => (q.1.1, q.1.2, q.2))
    have hp := sort_perm ltW (ps.map fun q => (q.1.1, q.1.2, q.2))
    have h2 : ((sortB ltW (ps.map fun q => (q.1.1, q.1.2, q.2))).map fun w => (w.1, w.2.1)).Nodup := by
      rw [(hp.map _).nodup_iff, List.map_map]
      have u : (ps.map (·.1)).Nodup := G.u
      exact u
    have h2 := List.pairwise_map.1 h2
    have h3 := pw_zip (h1.and h2)
    rw [List.all_eq_true]
    intro q hq
    obtain ⟨a1, a2⟩ := h3 q hq
    have o2 := ord2 ordP ordP dep_p dep_p
    cases hc : lt2 ltP ltP (q.1.1, q.1.2.1) (q.2.1, q.2.2.1) with
    | true => rfl
    | false =>
      exfalso
      have ne : ¬ (q.1.1 = q.2.1 ∧ q.1.2.1 = q.2.2.1) := fun e => a2 (by rw [Prod.mk.injEq]; exact e)
      have tot : lt2 ltP ltP (q.2.1, q.2.2.1) (q.1.1, q.1.2.1) = true := by
        cases hd : lt2 ltP ltP (q.2.1, q.2.2.1) (q.1.1, q.1.2.1) with
        | true => rfl
        | false =>
          have := o2.tri _ _ hc hd
          rw [Prod.mk.injEq] at this
          exact absurd this ne
      have : ltW q.2 q.1 = true := by
        unfold lt2 at tot
        unfold ltW lt3
        dsimp only at tot
        by_cases e1 : q.2.1 = q.1.1
        · rw [if_pos e1] at tot ⊢
          have e2 : ¬ q.2.2.1 = q.1.2.1 := fun e => ne ⟨e1.symm, e.symm⟩
          rw [if_neg e2]
          exact tot
        · rw [if_neg e1] at tot ⊢
          exact tot
      unfold leB at a1
      rw [this] at a1
      cases a1
/-! the tree of the law's ways -/
def pl4E : E := .lst (.cons (.k (.str "gate")) (.cons (.k (.str "inn")) (.cons (.k (.str "ring")) (.cons (.k (.str "yard")) .nil))))
def h1 : S := (.par [3, 4] (.cons (.p2 .ix pl4E (.nxt 0 (.k (.int 4)))) (.cons (.p2 .ix pl4E (.nxt 0 (.k (.int 4)))) .nil)))
def h2 (M : Int) : S := (.ife (.p2 .lt (.v 3) (.v 4))
    (.cons (.setix 1 (.tup (.cons (.v 3) (.cons (.v 4) .nil))) (.p2 .add (.k (.int 1)) (.nxt 0 (.k (.int M))))) .nil)
    .nil)
def hR : S := (.ret (.p1 .tuple (.p1 .sorted (.lc (.nm 5) (.val (.v 1)) .nil [5] (.p2 .add (.v 5) (.tup (.cons (.p2 .ix (.v 1) (.v 5)) .nil)))))))
section
variable {Φ : Nat → Spc} {M : Int} {n : Nat} {ps : Ps2} {s2 s3 s4 s5 : Sl} {K : Kt}
abbrev hE (ps : Ps2) (s2 s3 s4 s5 : Sl) : Z.Env := [.dr, .ow (.dict (dicD kPP .int ps)), s2, s3, s4, s5]
theorem at_pl (r : Int) (r0 : 0 ≤ r) (r1 : r < 4) : ∃ a : Fin 4, atD [PyData.str "gate", .str "inn", .str "ring", .str "yard"] r = some (pD a) :=
  ⟨⟨r.toNat, by omega⟩, by
    have : r = 0 ∨ r = 1 ∨ r = 2 ∨ r = 3 := by omega
    rcases this with rfl | rfl | rfl | rfl <;> rfl⟩
theorem h1_r (h : ∀ a b : Fin 4, K.nx (hE ps s2 (.sh (pD a)) (.sh (pD b)) s5)) : rdS Φ h1 (hE ps s2 s3 s4 s5) K := by
  unfold h1 pl4E
  simp [isDr]
  intro r r0 r1
  obtain ⟨a, ea⟩ := at_pl r r0 r1
  simp [ea]
  intro r r0 r1
  obtain ⟨b, eb⟩ := at_pl r r0 r1
  simp [eb, setAll]
  exact h a b
theorem h2_r {a b : Fin 4} (hM : 1 ≤ M ∧ M ≤ 6) (hn : n ≤ 6) (G : GD M n ps) (h : ∀ ps, GD M (n + 1) ps → K.nx (hE ps s2 (.sh (pD a)) (.sh (pD b)) s5)) : rdS Φ (h2 M) (hE ps s2 (.sh (pD a)) (.sh (pD b)) s5) K := by
  unfold h2
  have e1 := ordP.lt a b
  cases c : ltP a b with
  | false =>
    rw [c] at e1
    simp [e1]
    exact h ps ⟨G.u, by have := G.n; omega, G.b⟩
  | true =>
    rw [c] at e1
    simp [e1, isDr]
    refine ⟨by omega, by omega, fun r r0 r1 => ?_⟩
    have sd := set_dic keyPP (v := PyData.int) (a, b) (1 + r) ps G.u (by have := G.n; simp [big]; omega)
    have ek : kPP (a, b) = .tuple [pD a, pD b] := rfl
    rw [ek] at sd
    simp [rdVar_sh, sd]
    refine h _ ⟨uniq_set _ _ _ G.u, by have := setA_length (a, b) (1 + r) ps; have := G.n; omega, fun q hq => ?_⟩
    rcases setA_keys _ _ _ _ hq with rfl | hq
    · exact ⟨c, by dsimp only; omega, by dsimp only; omega⟩
    · exact G.b q hq
theorem hR_r (G : GD M n ps) (hM : M ≤ 6) (hn : n ≤ 6) (kk : K.rt false (wsD (wsF ps)) [.dr, .sh (.dict (dicD kPP .int ps)), s2, s3, s4, .no]) : rdS Φ hR (hE ps s2 s3 s4 .no) K := by
  unfold hR
  simp [rdVar_sh, wipeE]
  have ek : (dicD kPP PyData.int ps).map (fun x => x.1) = ps.map fun q => kPP q.1 := by unfold dicD; rw [List.map_map]; rfl
  rw [ek]
  refine compW_onA (fun q : (Fin 4 × Fin 4) × Int => kPP q.1) (fun q => wyD (q.1.1, q.1.2, q.2)) (fun q hq R r => ?_) ?_
  · have eg := ix_dic keyPP (v := PyData.int) q.1 ps
    rw [getA_uniq (v := q.2) G.u hq] at eg
    have eq1 : kPP q.1 = .tuple [pD q.1.1, pD q.1.2] := rfl
    rw [eq1] at eg ⊢
    have eg : ixD (.dict (dicD kPP .int ps)) (.tuple [pD q.1.1, pD q.1.2]) = some (.int q.2) := eg
    have ad : addD (.tuple [pD q.1.1, pD q.1.2]) (.tuple [.int q.2]) = some (.tuple [pD q.1.1, pD q.1.2, .int q.2]) := add_tt (by simp [big])
    simp [eg, ad, wipeE]
    exact r
  · have em : ps.map (fun q => wyD (q.1.1, q.1.2, q.2)) = (ps.map fun q => (q.1.1, q.1.2, q.2)).map wyD := by rw [List.map_map]; rfl
    have so := sorted_on ordW (fun a => ⟨_, _, rfl⟩) (ps.map fun q => (q.1.1, q.1.2, q.2))
    rw [em, so]
    simp [tupleD, seqD, restE, unlock]
    exact kk
end
end W4

namespace Z
open PySem
/-- a loop over things numbered 0, 1, .. -/
theorem forW_nat {g : Tg} {rb : Env → Kt → Prop} {K : Kt} {n : Nat} (e : Nat → PyData) (I : Nat → Env → Prop)
    (step : ∀ (i : Nat) ρ (N : Env → Prop), i < n → I i ρ → (∀ ρ', I (i + 1) ρ' → N ρ') → asgT g false (e i) ρ fun ρ1 => rb ρ1 { nx := N, rt := K.rt, bk := K.bk, ct := N })
    (fin : ∀ ρ, I n ρ → K.nx ρ) {ρ : Env} (h : I 0 ρ) : forW g rb K ((List.range n).map e) ρ := by
  refine forW_list e (fun r ρ => ∃ i, i ≤ n ∧ r = (List.range' i (n - i)) ∧ I i ρ) ?_ ?_ (List.range n) ρ ⟨0, by omega, by simp [List.range_eq_range'], h⟩
  · rintro x xs ρ N ⟨i, hi, e1, h⟩ hN
    obtain ⟨m, hm⟩ : ∃ m, n - i = m + 1 := by
      cases e' : n - i with
      | zero => rw [e'] at e1; cases e1
      | succ m => exact ⟨m, rfl⟩
    rw [hm, List.range'_succ] at e1
    injection e1 with e1 e2
    subst e1
    refine step x ρ N (by omega) h fun ρ' h' => hN ρ' ⟨x + 1, by omega, ?_, h'⟩
    rw [e2]
    congr 1
    omega
  · rintro ρ ⟨i, hi, e1, h⟩
    have : n - i = 0 := by
      have := congrArg List.length e1
      simp at this
      omega
    have : i = n := by omega
    subst this
    exact fin ρ h
theorem map_getD {α β : Type} (f : α → β) (d : α) (xs : List α) : xs.map f = (List.range xs.length).map fun i => f (xs.getD i d) := by
  apply List.ext_getElem
  · simp
  · intro i h1 h2
    simp at h1
    simp [List.getD_eq_getElem?_getD, List.getElem?_eq_getElem h1]
theorem enum_nat {α : Type} (f : α → PyData) (d : α) (xs : List α) : enumD (xs.map f) = (List.range xs.length).map fun (i : Nat) => .tuple [.int (i : Nat), f (xs.getD i d)] := by
  rw [map_getD f d xs, enumD_range]
theorem at_getD {α : Type} (f : α → PyData) (d : α) (xs : List α) {k : Nat} (h : k < xs.length) : atD (xs.map f) (k : Int) = some (f (xs.getD k d)) := by
  have := at_map (l := xs) (f := f) (i := (k : Int)) (x := xs.getD k d) (by omega) (by
    rw [Int.toNat_natCast, List.getD_eq_getElem?_getD, List.getElem?_eq_getElem h]; rfl)
  exact this
theorem cut_last {α : Type} (xs : List α) : cut xs (some (-1)) none = xs.getLast?.toList := by
  unfold cut slIx
  rcases List.eq_nil_or_concat xs with rfl | ⟨ys, y, rfl⟩
  · rfl
  · have e1 : (-1 + (((ys ++ [y]).length : Nat) : Int)).toNat = ys.length := by rw [List.length_append, List.length_singleton]; omega
    have e2 : (ys ++ [y]).length - ys.length = 1 := by rw [List.length_append, List.length_singleton]; omega
    simp only [List.concat_eq_append]
    rw [if_pos (by decide), e1, e2]
    simp
theorem slL_last (xs : List PyData) : slLD (.list xs) (.int (-1)) = some (.list xs.getLast?.toList) := by
  simp [slLD, cutD, cut_last]
theorem slL_lastM {α : Type} (f : α → PyData) (xs : List α) : slLD (.list (xs.map f)) (.int (-1)) = some (.list (xs.getLast?.toList.map f)) := by
  rw [slL_last, List.getLast?_map]
  cases xs.getLast? <;> rfl
end Z

namespace Z
open PySem
theorem find_upI {P : Int → Bool} {x : Int} : ∀ {n : Nat} {lo : Int}, (upI lo n).find? P = some x ↔ lo ≤ x ∧ x < lo + n ∧ P x = true ∧ ∀ y, lo ≤ y → y < x → P y = false
  | 0, lo => by
    constructor
    · intro h; simp [upI] at h
    · intro h; omega
  | n + 1, lo => by
    rw [upI_succ, List.find?_cons]
    cases c : P lo with
    | true =>
      constructor
      · intro h
        have h : some lo = some x := h
        cases h
        exact ⟨by omega, by omega, c, fun y h1 h2 => by omega⟩
      · rintro ⟨h1, h2, h3, h4⟩
        by_cases e : lo = x
        · rw [e]
        · have := h4 lo (by omega) (by omega)
          rw [c] at this
          cases this
    | false =>
      have ih := find_upI (P := P) (x := x) (n := n) (lo := lo + 1)
      show (upI (lo + 1) n).find? P = some x ↔ _
      rw [ih]
      constructor
      · rintro ⟨h1, h2, h3, h4⟩
        refine ⟨by omega, by omega, h3, fun y y1 y2 => ?_⟩
        by_cases e : y = lo
        · rw [e]; exact c
        · exact h4 y (by omega) y2
      · rintro ⟨h1, h2, h3, h4⟩
        have : x ≠ lo := fun e => by rw [e, c] at h3; cases h3
        exact ⟨by omega, by omega, h3, fun y y1 y2 => h4 y (by omega) y2⟩
theorem find_upI_none {P : Int → Bool} {n : Nat} {lo : Int} : (upI lo n).find? P = none ↔ ∀ y, lo ≤ y → y < lo + n → P y = false := by
  rw [List.find?_eq_none]
  constructor
  · intro h y h1 h2
    have := h y (mem_upI.2 ⟨h1, h2⟩)
    simpa using this
  · intro h y hy
    have := mem_upI.1 hy
    rw [h y this.1 this.2]
    simp
theorem foldA_nd {α κ β : Type} [DecidableEq κ] (k : α → κ) (v : α → β) {xs : List α} (h : (xs.map k).Nodup) : foldA k v xs = xs.map fun x => (k x, v x) := by
  have main : ∀ (xs : List α) (ps : List (κ × β)), (xs.map k).Nodup → (∀ x ∈ xs, ∀ q ∈ ps, q.1 ≠ k x) → xs.foldl (fun ps x => setA ps (k x) (v x)) ps = ps ++ xs.map fun x => (k x, v x) := by
    intro xs
    induction xs with
    | nil => intro ps _ _; simp
    | cons x xs ih =>
      intro ps hn hp
      rw [List.map_cons, List.nodup_cons] at hn
      rw [List.foldl_cons, setA_new, ih _ hn.2]
      · simp
      · intro y hy q hq
        rcases List.mem_append.1 hq with hq | hq
        · exact hp y (.tail _ hy) q hq
        · rw [List.mem_singleton.1 hq]
          intro e
          exact hn.1 (List.mem_map.2 ⟨y, hy, e.symm⟩)
      · rw [List.any_eq_false]
        intro q hq
        simpa using hp x (.head _) q hq
  unfold foldA
  rw [main xs [] h (fun _ _ q hq => by cases hq)]
  rfl
theorem getA_mapf {α κ β : Type} [DecidableEq κ] (k : α → κ) (v : α → β) (y : κ) : ∀ xs : List α, getA (xs.map fun x => (k x, v x)) y = (xs.find? fun x => decide (k x = y)).map v
  | [] => rfl
  | x :: xs => by
    rw [List.map_cons, List.find?_cons]
    unfold getA
    dsimp only
    by_cases c : k x = y
    · simp [c]
    · simp [c, getA_mapf k v y xs]
end Z
namespace W4
open PySem Z
/-! what can be walked one way can be walked back -/
theorem Wl.pre {arcs : List Wy} {u a : Fin 4} {w : Int} (ha : (u, a, w) ∈ arcs) : ∀ {p : List (Fin 4)} {n : Int}, Wl arcs a p n → ∃ q m, p ≠ [] ∧ Wl arcs u (p ++ q) m := by
  intro p n h
  induction h with
  | nil => exact ⟨[u], 0 + w, by simp, .step .nil ha⟩
  | step h ha2 ih =>
    obtain ⟨q, m, hq, hw⟩ := ih
    exact ⟨q, _, by simp, .step hw ha2⟩
theorem Wl.back {arcs : List Wy} (sym : ∀ u v w, (u, v, w) ∈ arcs → (v, u, w) ∈ arcs) {a : Fin 4} : ∀ {p : List (Fin 4)} {n : Int}, Wl arcs a p n → ∀ {b r}, p = b :: r → ∃ q m, Wl arcs b (a :: q) m := by
  intro p n h
  induction h with
  | nil =>
    intro b r e
    cases e
    exact ⟨[], 0, .nil⟩
  | step h ha ih =>
    intro b r e
    cases e
    obtain ⟨q, m, hw⟩ := ih rfl
    obtain ⟨q', m', _, hw'⟩ := Wl.pre (sym _ _ _ ha) hw
    exact ⟨q ++ q', m', hw'⟩
end W4

/-! stalls on walks (k52, k53): plain -/
namespace W4
open PySem Z
theorem arcs_sym {ws : List Wy} : ∀ u v w, (u, v, w) ∈ arcsF ws → (v, u, w) ∈ arcsF ws := by
  intro u v w h
  obtain ⟨x, hx, h⟩ := arc_of h
  refine List.mem_flatMap.2 ⟨x, hx, ?_⟩
  rcases h with h | h <;> cases h <;> simp
theorem dst_some {ws : List Wy} (G : GW ws) {a b : Fin 4} : (dstF ws a b).isSome = true ↔ ∃ p n, Wl (arcsF ws) a (b :: p) n := by
  obtain ⟨s, c⟩ := dst_spec G a
  constructor
  · intro h
    obtain ⟨v, hv⟩ := Option.isSome_iff_exists.1 h
    obtain ⟨p, hp⟩ := s b v hv
    exact ⟨p, v, hp⟩
  · rintro ⟨p, n, h⟩
    obtain ⟨m, _, e⟩ := c b p n h
    rw [e]
    rfl
theorem dst_back {ws : List Wy} (G : GW ws) {a b : Fin 4} (h : (dstF ws a b).isSome = true) : (dstF ws b a).isSome = true := by
  obtain ⟨p, n, h⟩ := (dst_some G).1 h
  obtain ⟨q, m, h⟩ := Wl.back arcs_sym h rfl
  exact (dst_some G).2 ⟨q, m, h⟩
theorem Wl.cat {arcs : List Wy} {a b : Fin 4} {p : List (Fin 4)} {n : Int} (h : Wl arcs a (b :: p) n) : ∀ {q : List (Fin 4)} {m : Int}, Wl arcs b q m → ∃ k, Wl arcs a (q ++ p) k := by
  intro q m h2
  induction h2 with
  | nil => exact ⟨n, h⟩
  | step h2 ha ih =>
    obtain ⟨k, hk⟩ := ih
    exact ⟨_, .step hk ha⟩
theorem dst_trans {ws : List Wy} (G : GW ws) {a b c : Fin 4} (h1 : (dstF ws a b).isSome = true) (h2 : (dstF ws b c).isSome = true) : (dstF ws a c).isSome = true := by
  obtain ⟨p, n, h1⟩ := (dst_some G).1 h1
  obtain ⟨q, m, h2⟩ := (dst_some G).1 h2
  obtain ⟨k, h⟩ := Wl.cat h1 h2
  exact (dst_some G).2 ⟨q ++ p, k, h⟩
theorem dst_self {ws : List Wy} (G : GW ws) (a : Fin 4) : (dstF ws a a).isSome = true := (dst_some G).2 ⟨[], 0, .nil⟩
theorem dst_nn {ws : List Wy} (G : GW ws) {a b : Fin 4} {l : Int} (h : dstF ws a b = some l) : 0 ≤ l := by
  obtain ⟨p, hp⟩ := (dst_spec G a).1 b l h
  exact hp.nn fun x hx => by have := (G.arc hx).1; omega
structure St where
  nm : Fin 3
  pl : Fin 4
  du : Int
  jo : Int
  sp : List (Int × Int)
def snm : Fin 3 → Str
  | 0 => "sa"
  | 1 => "sb"
  | 2 => "sc"
abbrev sD (i : Fin 3) : PyData := .str (snm i)
def ltN (a b : Fin 3) : Bool := decide (a < b)
theorem ordN : OrdE sD ltN := ordComap ordS snm (by decide +kernel) ltN (by decide +kernel)
theorem keyN : KeyE sD where
  toEnc := ordN.toEnc
  k _ := rfl
  fl _ _ := rfl
abbrev spD (q : Int × Int) : PyData := .tuple [.int q.1, .int q.2]
abbrev spsD (l : List (Int × Int)) : PyData := .tuple (l.map spD)
def stD (s : St) : PyData := .tuple [sD s.nm, pD s.pl, .int s.du, .int s.jo, spsD s.sp]
abbrev ssD (ss : List St) : PyData := .tuple (ss.map stD)
structure GSp (l : List (Int × Int)) : Prop where
  ok : ∃ f e, 0 ≤ f ∧ f + 4 ≤ e ∧ e ≤ 30 ∧ (l = [(f, e)] ∨ l = [(f, e), (e + 3, e + 9)])
structure GSt (s : St) : Prop where
  du : 1 ≤ s.du ∧ s.du ≤ 6
  jo : 0 ≤ s.jo ∧ s.jo ≤ 8
  sp : GSp s.sp
structure GS (ss : List St) : Prop where
  n : ss.length ≤ 3
  u : (ss.map fun s => s.nm).Nodup
  s : ∀ s ∈ ss, GSt s
/-- when a stall lets somebody in -/
def fbF (s : St) (m : Int) : Option Int := (s.sp.find? fun q => decide (max q.1 m + s.du - 1 ≤ q.2)).map fun q => max q.1 m
def anyF (s : St) (b : Int) : Bool := s.sp.any fun q => decide (q.1 ≤ b) && decide (b + s.du - 1 ≤ q.2)
theorem fb_least {s : St} (G : GSt s) {m : Int} : ((upI m (80 - m).toNat).filter (anyF s)).head? = fbF s m := by
  rw [List.head?_filter]
  obtain ⟨f, e, f0, fe, e30, h⟩ := G.sp.ok
  have hd := G.du
  have main : ∀ x, (upI m (80 - m).toNat).find? (anyF s) = some x ↔ fbF s m = some x := by
    intro x
    rw [find_upI]
    unfold fbF anyF
    rcases h with h | h
    · rw [h]
      by_cases c : max f m + s.du - 1 ≤ e
      · simp [List.find?_cons, c]
        constructor
        · rintro ⟨h1, h2, ⟨h3, h4⟩, h5⟩
          by_cases hx : x ≤ max f m
          · omega
          · have := h5 (max f m) (by omega) (by omega) (by omega)
            omega
        · intro hx
          exact ⟨by omega, by omega, ⟨by omega, by omega⟩, fun y y1 y2 y3 => by omega⟩
      · simp [List.find?_cons, c]
        intro h1 h2 h3 h4
        omega
    · rw [h]
      by_cases c : max f m + s.du - 1 ≤ e
      · simp [List.find?_cons, c]
        constructor
        · rintro ⟨h1, h2, h3, h5⟩
          by_cases hx : x ≤ max f m
          · rcases h3 with h3 | h3 <;> omega
          · have := (h5 (max f m) (by omega) (by omega)).1 (by omega)
            omega
        · intro hx
          exact ⟨by omega, by omega, .inl ⟨by omega, by omega⟩, fun y y1 y2 => ⟨fun y3 => by omega, fun y3 => by omega⟩⟩
      · by_cases c2 : max (e + 3) m + s.du - 1 ≤ e + 9
        · simp [List.find?_cons, c, c2]
          constructor
          · rintro ⟨h1, h2, h3, h5⟩
            by_cases hx : x ≤ max (e + 3) m
            · rcases h3 with h3 | h3 <;> omega
            · have := (h5 (max (e + 3) m) (by omega) (by omega)).2 (by omega)
              omega
          · intro hx
            exact ⟨by omega, by omega, .inr ⟨by omega, by omega⟩, fun y y1 y2 => ⟨fun y3 => by omega, fun y3 => by omega⟩⟩
        · simp [List.find?_cons, c, c2]
          intro h1 h2 h3
          exfalso
          rcases h3 with h3 | h3 <;> omega
  cases h1 : fbF s m with
  | some x => exact (main x).2 h1
  | none =>
    cases h2 : (upI m (80 - m).toNat).find? (anyF s) with
    | none => rfl
    | some x => rw [(main x).1 h2] at h1; cases h1
theorem fb_any {s : St} (G : GSt s) {b : Int} : decide (fbF s b = some b) = anyF s b := by
  obtain ⟨f, e, f0, fe, e30, h⟩ := G.sp.ok
  have hd := G.du
  unfold fbF anyF
  rcases h with h | h
  · rw [h]
    by_cases c : max f b + s.du - 1 ≤ e
    · simp [List.find?_cons, c]
      have : (max f b = b) ↔ (f ≤ b ∧ b + s.du - 1 ≤ e) := by omega
      by_cases c2 : max f b = b
      · have := this.1 c2; simp [c2, this]
      · have : ¬ (f ≤ b ∧ b + s.du - 1 ≤ e) := fun x => c2 (this.2 x)
        simp [c2]
        omega
    · simp [List.find?_cons, c]
      omega
  · rw [h]
    by_cases c : max f b + s.du - 1 ≤ e
    · simp [List.find?_cons, c]
      by_cases c2 : max f b = b
      · simp [c2]
        left; omega
      · simp [c2]
        constructor <;> omega
    · by_cases c3 : max (e + 3) b + s.du - 1 ≤ e + 9
      · simp [List.find?_cons, c, c3]
        by_cases c2 : max (e + 3) b = b
        · simp [c2]
          right; omega
        · simp [c2]
          constructor <;> omega
      · simp [List.find?_cons, c, c3]
        constructor <;> omega

/-! walks over stalls -/
abbrev Wk := List (Fin 3 × Int)
abbrev wkD (w : Wk) : PyData := .tuple (w.map fun q => .tuple [sD q.1, .int q.2])
def lk (ss : List St) (n : Fin 3) : Option St := ss.find? fun s => decide (s.nm = n)
theorem lk_mem {ss : List St} {n : Fin 3} {s : St} (h : lk ss n = some s) : s ∈ ss ∧ s.nm = n := by
  have h1 := List.mem_of_find?_eq_some h
  have h2 := List.find?_some h
  exact ⟨h1, by simpa using h2⟩
def ovR (ws : List Wy) (ss : List St) : Wk → Fin 4 → Int → List (Fin 3) → Option (Fin 4 × Int)
  | [], here, free, _ => some (here, free)
  | q :: w, here, free, met => match lk ss q.1 with
    | none => none
    | some s => match dstF ws here s.pl with
      | none => none
      | some l => if decide (q.1 ∈ met) || decide (q.2 < free + l) || !decide (fbF s q.2 = some q.2) then none else ovR ws ss w s.pl (q.2 + s.du) (met ++ [q.1])
def lfS (str l free : Int) (b du : Int) : Option Int → Option Int
  | none => none
  | some x => if l ≤ x then (let y := min str (x - l + b - free - l) - du; if 0 ≤ y then some y else none) else none
def loR (ws : List Wy) (ss : List St) (str : Int) : Wk → Fin 4 → Int → Option Int → Option (Fin 4 × Int × Option Int)
  | [], here, free, left => some (here, free, left)
  | q :: w, here, free, left => match lk ss q.1 with
    | none => none
    | some s => match dstF ws here s.pl with
      | none => none
      | some l => if decide (q.2 < free + l) || !anyF s q.2 then none else loR ws ss str w s.pl (q.2 + s.du) (lfS str l free q.2 s.du left)
theorem ov_lo {ws : List Wy} {ss : List St} (G : GS ss) (str : Int) : ∀ (w : Wk) (here : Fin 4) (free : Int) (met : List (Fin 3)) (left : Option Int), met.Nodup →
    ovR ws ss w here free met = if (met ++ w.map fun q => q.1).Nodup then (loR ws ss str w here free left).map fun q => (q.1, q.2.1) else none
  | [], here, free, met, left, hm => by
    unfold ovR loR
    rw [if_pos (by simpa using hm)]
    rfl
  | q :: w, here, free, met, left, hm => by
    unfold ovR loR
    cases hl : lk ss q.1 with
    | none => simp
    | some s =>
      dsimp only
      cases hd : dstF ws here s.pl with
      | none => simp
      | some l =>
        dsimp only
        rw [fb_any (G.s s (lk_mem hl).1)]
        by_cases c1 : q.1 ∈ met
        · have : ¬ (met ++ (q :: w).map fun q => q.1).Nodup := by
            rw [List.nodup_append]
            rintro ⟨_, _, h⟩
            exact h q.1 c1 q.1 (by simp) rfl
          rw [if_neg this]
          simp [c1]
        · have ha : met ++ (q :: w).map (fun q => q.1) = (met ++ [q.1]) ++ w.map fun q => q.1 := by simp
          have hm' : (met ++ [q.1]).Nodup := by
            rw [List.nodup_append]
            exact ⟨hm, by simp, fun a ha b hb => by rw [List.mem_singleton.1 hb]; intro e; rw [e] at ha; exact c1 ha⟩
          have ih := ov_lo (ws := ws) G str w s.pl (q.2 + s.du) (met ++ [q.1]) (lfS str l free q.2 s.du left) hm'
          rw [ha, ih]
          by_cases c2 : q.2 < free + l
          · simp [c1, c2]
          · cases c3 : anyF s q.2 with
            | false => simp [c1, c2]
            | true => simp [c1, c2]
def slR (ws : List Wy) (ss : List St) (str : Int) : Wk → Fin 4 → Int → Int → Option (Fin 4 × Int)
  | [], here, _, left => some (here, left)
  | q :: w, here, free, left => match lk ss q.1 with
    | none => none
    | some s => match dstF ws here s.pl with
      | none => none
      | some l => match lfS str l free q.2 s.du (some left) with
        | none => none
        | some y => slR ws ss str w s.pl (q.2 + s.du) y
theorem lo_none {ws : List Wy} {ss : List St} {str : Int} : ∀ (w : Wk) (here : Fin 4) (free : Int) {r : Fin 4 × Int × Option Int}, loR ws ss str w here free none = some r → r.2.2 = none
  | [], here, free, r, h => by
    unfold loR at h
    cases h
    rfl
  | q :: w, here, free, r, h => by
    unfold loR at h
    cases hl : lk ss q.1 with
    | none => rw [hl] at h; cases h
    | some s =>
      rw [hl] at h
      dsimp only at h
      cases hd : dstF ws here s.pl with
      | none => rw [hd] at h; cases h
      | some l =>
        rw [hd] at h
        dsimp only at h
        split at h
        · cases h
        · exact lo_none w _ _ h
theorem lo_sl {ws : List Wy} {ss : List St} {str : Int} : ∀ (w : Wk) (here : Fin 4) (free left : Int) {r : Fin 4 × Int × Option Int}, loR ws ss str w here free (some left) = some r → slR ws ss str w here free left = r.2.2.map fun x => (r.1, x)
  | [], here, free, left, r, h => by
    unfold loR at h
    cases h
    rfl
  | q :: w, here, free, left, r, h => by
    unfold loR at h
    unfold slR
    cases hl : lk ss q.1 with
    | none => rw [hl] at h; cases h
    | some s =>
      rw [hl] at h
      dsimp only at h ⊢
      cases hd : dstF ws here s.pl with
      | none => rw [hd] at h; cases h
      | some l =>
        rw [hd] at h
        dsimp only at h ⊢
        split at h
        · cases h
        · cases hf : lfS str l free q.2 s.du (some left) with
          | none =>
            rw [hf] at h
            rw [lo_none w _ _ h]
            rfl
          | some y =>
            rw [hf] at h
            exact lo_sl w _ _ _ h
theorem lo_here {ws : List Wy} (GWw : GW ws) {ss : List St} {str : Int} (place : Fin 4) : ∀ (w : Wk) (here : Fin 4) (free : Int) (left : Option Int) {r : Fin 4 × Int × Option Int}, loR ws ss str w here free left = some r → (dstF ws place here).isSome = true → (dstF ws place r.1).isSome = true
  | [], here, free, left, r, h, hs => by
    unfold loR at h
    cases h
    exact hs
  | q :: w, here, free, left, r, h, hs => by
    unfold loR at h
    cases hl : lk ss q.1 with
    | none => rw [hl] at h; cases h
    | some s =>
      rw [hl] at h
      dsimp only at h
      cases hd : dstF ws here s.pl with
      | none => rw [hd] at h; cases h
      | some l =>
        rw [hd] at h
        dsimp only at h
        split at h
        · cases h
        · exact lo_here GWw place w _ _ _ h (dst_trans GWw hs (by rw [hd]; rfl))
/-- what the law's own look tells: when it is over, what strength is left -/
def lwF (ws : List Wy) (ss : List St) (place : Fin 4) (m str : Int) (w : Wk) : Option (Int × Option Int) :=
  if (w.map fun q => q.1).Nodup then
    (loR ws ss str w place m (some str)).bind fun r => (dstF ws r.1 place).map fun back => (r.2.1 + back, r.2.2.bind fun x => if back ≤ x then some (x - back) else none)
  else none
def ovF (ws : List Wy) (ss : List St) (place : Fin 4) (m : Int) (w : Wk) : Option Int := (ovR ws ss w place m []).bind fun r => (dstF ws r.1 place).map fun back => r.2 + back
def slF (ws : List Wy) (ss : List St) (place : Fin 4) (m str : Int) (w : Wk) : Option Int := (slR ws ss str w place m str).bind fun r => (dstF ws r.1 place).bind fun back => if back ≤ r.2 then some (r.2 - back) else none
theorem ov_lw {ws : List Wy} {ss : List St} (G : GS ss) (place : Fin 4) (m str : Int) (w : Wk) : ovF ws ss place m w = (lwF ws ss place m str w).map fun q => q.1 := by
  unfold ovF lwF
  rw [ov_lo G str w place m [] (some str) (by simp)]
  simp only [List.nil_append]
  split
  · cases loR ws ss str w place m (some str) with
    | none => rfl
    | some r =>
      show (dstF ws r.1 place).map _ = ((dstF ws r.1 place).map _).map _
      rw [Option.map_map]
      rfl
  · rfl
theorem sl_lw {ws : List Wy} {ss : List St} {place : Fin 4} {m str : Int} {w : Wk} {e : Int × Option Int} (h : lwF ws ss place m str w = some e) : slF ws ss place m str w = e.2 := by
  unfold lwF at h
  split at h
  · cases hr : loR ws ss str w place m (some str) with
    | none => rw [hr] at h; cases h
    | some r =>
      rw [hr] at h
      have h : (dstF ws r.1 place).map _ = some e := h
      cases hd : dstF ws r.1 place with
      | none => rw [hd] at h; cases h
      | some back =>
        rw [hd] at h
        cases h
        unfold slF
        rw [lo_sl w _ _ _ hr]
        cases hx : r.2.2 with
        | none => rfl
        | some x =>
          show (dstF ws r.1 place).bind _ = _
          rw [hd]
          rfl
  · cases h
end W4

namespace Z
open PySem
theorem minO_ext {α : Type} [DecidableEq α] {f : α → PyData} {lf : α → α → Bool} (o : OrdE f lf) {xs ys : List α} (h : ∀ x, x ∈ xs ↔ x ∈ ys) : minO lf xs = minO lf ys := by
  cases hx : minO lf xs with
  | none =>
    have := minO_none.1 hx
    cases hy : minO lf ys with
    | none => rfl
    | some v =>
      have hv := ((minO_iff o).1 hy).1
      rw [← h, this] at hv
      cases hv
  | some v =>
    have hv := (minO_iff o).1 hx
    symm
    exact (minO_iff o).2 ⟨(h v).1 hv.1, fun y hy => hv.2 y ((h y).2 hy)⟩
end Z
namespace W4
open PySem Z
/-! all walks from stall to stall (k53): plain -/
abbrev Sta := Wk × Fin 4 × Int
def nms (w : Wk) : List (Fin 3) := w.map fun q => q.1
theorem nms_nil : nms [] = [] := rfl
theorem nms_cons (q : Fin 3 × Int) (w : Wk) : nms (q :: w) = q.1 :: nms w := rfl
theorem nms_len (w : Wk) : (nms w).length = w.length := List.length_map ..
def ch1 (ws : List Wy) (st : Sta) (s : St) : Option Sta :=
  if s.nm ∈ nms st.1 then none else (dstF ws st.2.1 s.pl).bind fun l => (fbF s (st.2.2 + l)).map fun b => (st.1 ++ [(s.nm, b)], s.pl, b + s.du)
def ch2 (ws : List Wy) (last : Int) (st : Sta) (s : St) : Option Sta :=
  if s.nm ∈ nms st.1 then none else (dstF ws st.2.1 s.pl).bind fun l => (fbF s (st.2.2 + l)).bind fun b => if b ≤ last then some (st.1 ++ [(s.nm, b)], s.pl, b + s.du) else none
def chS (ws : List Wy) (ss : List St) (st : Sta) : List Sta := ss.filterMap (ch1 ws st)
def chP (ws : List Wy) (ss : List St) (last : Int) (st : Sta) : List Sta := ss.filterMap (ch2 ws last st)
inductive Tr (ws : List Wy) (ss : List St) (p : Fin 4) (m : Int) : Sta → Prop
  | root : Tr ws ss p m ([], p, m)
  | step {st c : Sta} {s : St} : Tr ws ss p m st → s ∈ ss → ch1 ws st s = some c → Tr ws ss p m c
theorem ch1_some {ws : List Wy} {st c : Sta} {s : St} (h : ch1 ws st s = some c) : s.nm ∉ nms st.1 ∧ ∃ l b, dstF ws st.2.1 s.pl = some l ∧ fbF s (st.2.2 + l) = some b ∧ c = (st.1 ++ [(s.nm, b)], s.pl, b + s.du) := by
  unfold ch1 at h
  split at h
  · cases h
  · rename_i hn
    obtain ⟨l, hl, h⟩ := Option.bind_eq_some_iff.1 h
    obtain ⟨b, hb, h⟩ := Option.map_eq_some_iff.1 h
    exact ⟨hn, l, b, hl, hb, h.symm⟩
theorem ch2_some {ws : List Wy} {last : Int} {st c : Sta} {s : St} : ch2 ws last st s = some c ↔ ch1 ws st s = some c ∧ ∀ q ∈ c.1.getLast?, q.2 ≤ last := by
  unfold ch1 ch2
  split
  · simp
  · cases dstF ws st.2.1 s.pl with
    | none => simp
    | some l =>
      cases hb : fbF s (st.2.2 + l) with
      | none => simp [hb]
      | some b =>
        by_cases c1 : b ≤ last
        · simp [hb, c1]
          rintro rfl
          simpa using c1
        · simp only [hb, Option.bind_some, Option.map_some, if_neg c1]
          constructor
          · intro h; cases h
          · rintro ⟨h, hh⟩
            cases h
            exact absurd (hh (s.nm, b) (by simp)) c1

theorem ovR_cons {ws : List Wy} {ss : List St} (q : Fin 3 × Int) (w : Wk) (here : Fin 4) (free : Int) (met : List (Fin 3)) : ovR ws ss (q :: w) here free met = match lk ss q.1 with
    | none => none
    | some s => match dstF ws here s.pl with
      | none => none
      | some l => if decide (q.1 ∈ met) || decide (q.2 < free + l) || !decide (fbF s q.2 = some q.2) then none else ovR ws ss w s.pl (q.2 + s.du) (met ++ [q.1]) := rfl
theorem fb_fix {s : St} (G : GSt s) {m b : Int} (h : fbF s m = some b) : fbF s b = some b := by
  obtain ⟨f, e, f0, fe, e30, hl⟩ := G.sp.ok
  have hd := G.du
  unfold fbF at h ⊢
  rcases hl with hl | hl
  · rw [hl] at h ⊢
    by_cases c : max f m + s.du - 1 ≤ e
    · simp [List.find?_cons, c] at h
      have c2 : max f b + s.du - 1 ≤ e := by omega
      simp [List.find?_cons, c2]
      omega
    · simp [List.find?_cons, c] at h
  · rw [hl] at h ⊢
    by_cases c : max f m + s.du - 1 ≤ e
    · simp [List.find?_cons, c] at h
      have c2 : max f b + s.du - 1 ≤ e := by omega
      simp [List.find?_cons, c2]
      omega
    · by_cases c2 : max (e + 3) m + s.du - 1 ≤ e + 9
      · simp [List.find?_cons, c, c2] at h
        have c3 : ¬ max f b + s.du - 1 ≤ e := by omega
        have c4 : max (e + 3) b + s.du - 1 ≤ e + 9 := by omega
        simp [List.find?_cons, c3, c4]
        omega
      · simp [List.find?_cons, c, c2] at h
theorem ovR_app {ws : List Wy} {ss : List St} : ∀ (w v : Wk) (here : Fin 4) (free : Int) (met : List (Fin 3)), ovR ws ss (w ++ v) here free met = (ovR ws ss w here free met).bind fun r => ovR ws ss v r.1 r.2 (met ++ nms w)
  | [], v, here, free, met => by simp [ovR, nms_nil]
  | q :: w, v, here, free, met => by
    rw [List.cons_append, ovR_cons, ovR_cons]
    cases lk ss q.1 with
    | none => rfl
    | some s =>
      dsimp only
      cases dstF ws here s.pl with
      | none => rfl
      | some l =>
        dsimp only
        split
        · rfl
        · rw [ovR_app w v]
          congr 1
          funext r
          simp
          rfl
theorem lk_of {ss : List St} (u : (ss.map fun s => s.nm).Nodup) {s : St} (hs : s ∈ ss) : lk ss s.nm = some s := by
  unfold lk
  induction ss with
  | nil => cases hs
  | cons a ss ih =>
    rw [List.map_cons, List.nodup_cons] at u
    rw [List.find?_cons]
    rcases List.mem_cons.1 hs with rfl | hs
    · simp
    · have : a.nm ≠ s.nm := fun e => u.1 (List.mem_map.2 ⟨s, hs, e.symm⟩)
      simp only [decide_eq_false this]
      exact ih u.2 hs
structure TrI (ws : List Wy) (ss : List St) (p : Fin 4) (m : Int) (y : Sta) : Prop where
  ov : ovR ws ss y.1 p m [] = some (y.2.1, y.2.2)
  nd : (nms y.1).Nodup
  k : ∀ q ∈ y.1, (lk ss q.1).isSome = true
  b : ∀ q ∈ y.1, m ≤ q.2 ∧ q.2 < y.2.2 ∧ q.2 ≤ 39
  f : m ≤ y.2.2
  pl : (dstF ws p y.2.1).isSome = true
theorem Tr.i {ws : List Wy} {ss : List St} {p : Fin 4} {m : Int} (G : GW ws) (S : GS ss) {y : Sta} (h : Tr ws ss p m y) : TrI ws ss p m y := by
  induction h with
  | root => exact ⟨rfl, by simp [nms], fun _ h => (nomatch h), fun _ h => (nomatch h), Int.le_refl _, dst_self G p⟩
  | @step st c s h hs hc ih =>
    obtain ⟨hn, l, b, hl, hb, rfl⟩ := ch1_some hc
    have gs := S.s s hs
    have hd := gs.du
    have l0 := dst_nn G hl
    have hb1 : st.2.2 + l ≤ b ∧ b ≤ 39 := by
      obtain ⟨f, e, f0, fe, e30, hsp⟩ := gs.sp.ok
      unfold fbF at hb
      obtain ⟨q, hq, rfl⟩ := Option.map_eq_some_iff.1 hb
      have h1 := List.mem_of_find?_eq_some hq
      have h2 := List.find?_some hq
      have h2 : max q.1 (st.2.2 + l) + s.du - 1 ≤ q.2 := by simpa using h2
      rcases hsp with hsp | hsp
      · rw [hsp] at h1
        rw [List.mem_singleton.1 h1] at h2 ⊢
        dsimp only at *
        omega
      · rw [hsp] at h1
        rcases List.mem_cons.1 h1 with rfl | h1
        · dsimp only at *
          omega
        · rw [List.mem_singleton.1 h1] at h2 ⊢
          dsimp only at *
          omega
    have hf := ih.f
    refine ⟨?_, ?_, fun q hq => ?_, fun q hq => ?_, by dsimp only; omega, dst_trans G ih.pl (by rw [hl]; rfl)⟩
    · dsimp only
      rw [ovR_app, ih.ov]
      show ovR ws ss [(s.nm, b)] st.2.1 st.2.2 ([] ++ nms st.1) = _
      unfold ovR
      dsimp only
      rw [lk_of S.u hs]
      dsimp only
      rw [hl]
      dsimp only
      rw [if_neg (by simp [fb_fix gs hb]; exact ⟨by simpa using hn, by omega⟩)]
      unfold ovR
      rfl
    · show (nms (st.1 ++ [(s.nm, b)])).Nodup
      unfold nms
      rw [List.map_append, List.nodup_append]
      refine ⟨ih.nd, by simp, fun a ha x hx => ?_⟩
      have hx : x = s.nm := by simpa using hx
      rw [hx]
      intro e
      rw [e] at ha
      exact hn ha
    · rcases List.mem_append.1 hq with hq | hq
      · exact ih.k q hq
      · rw [List.mem_singleton.1 hq]
        dsimp only
        rw [lk_of S.u hs]
        rfl
    · rcases List.mem_append.1 hq with hq | hq
      · have := ih.b q hq
        dsimp only
        omega
      · rw [List.mem_singleton.1 hq]
        dsimp only
        omega
theorem TrI.len {ws : List Wy} {ss : List St} {p : Fin 4} {m : Int} {y : Sta} (I : TrI ws ss p m y) : y.1.length ≤ ss.length := by
  have := len_nodup (xs := nms y.1) (ns := ss.map fun s => s.nm) I.nd fun x hx => by
    obtain ⟨q, hq, rfl⟩ := List.mem_map.1 hx
    obtain ⟨s, hs⟩ := Option.isSome_iff_exists.1 (I.k q hq)
    have := lk_mem hs
    exact List.mem_map.2 ⟨s, this.1, this.2⟩
  rw [nms_len, List.length_map] at this
  exact this
theorem ch_len {ws : List Wy} {st c : Sta} {s : St} (h : ch1 ws st s = some c) : c.1.length = st.1.length + 1 := by
  obtain ⟨_, l, b, _, _, rfl⟩ := ch1_some h
  simp
/-! level by level -/
def lvS (ws : List Wy) (ss : List St) (p : Fin 4) (m : Int) : Nat → List Sta
  | 0 => [([], p, m)]
  | k + 1 => (lvS ws ss p m k).flatMap (chS ws ss)
theorem lv_tr {ws : List Wy} {ss : List St} {p : Fin 4} {m : Int} : ∀ {k : Nat} {y : Sta}, y ∈ lvS ws ss p m k ↔ Tr ws ss p m y ∧ y.1.length = k
  | 0, y => by
    rw [lvS, List.mem_singleton]
    constructor
    · rintro rfl
      exact ⟨.root, rfl⟩
    · rintro ⟨h, hl⟩
      cases h with
      | root => rfl
      | step h hs hc =>
        have := ch_len hc
        omega
  | k + 1, y => by
    rw [lvS, List.mem_flatMap]
    constructor
    · rintro ⟨st, hst, hy⟩
      obtain ⟨h1, h2⟩ := lv_tr.1 hst
      obtain ⟨s, hs, hc⟩ := List.mem_filterMap.1 hy
      have := ch_len hc
      exact ⟨.step h1 hs hc, by omega⟩
    · rintro ⟨h, hl⟩
      cases h with
      | root => cases hl
      | @step st _ s h hs hc =>
        have := ch_len hc
        exact ⟨st, lv_tr.2 ⟨h, by omega⟩, List.mem_filterMap.2 ⟨s, hs, hc⟩⟩
theorem lvS_len {ws : List Wy} {ss : List St} {p : Fin 4} {m : Int} (hn : ss.length ≤ 3) : ∀ k, (lvS ws ss p m k).length ≤ 3 ^ k
  | 0 => by simp [lvS]
  | k + 1 => by
    have ih := lvS_len (ws := ws) (p := p) (m := m) hn k
    have := flat_len (f := chS ws ss) (m := 3) (xs := lvS ws ss p m k) fun s _ => Nat.le_trans (List.length_filterMap_le _ _) hn
    rw [lvS, Nat.pow_succ]
    exact Nat.le_trans this (Nat.mul_le_mul_right 3 ih)
theorem lvS_end {ws : List Wy} {ss : List St} {p : Fin 4} {m : Int} (G : GW ws) (S : GS ss) {k : Nat} (hk : 3 < k) : lvS ws ss p m k = [] := by
  cases h : lvS ws ss p m k with
  | nil => rfl
  | cons y r =>
    have hy : y ∈ lvS ws ss p m k := by rw [h]; exact .head _
    obtain ⟨h1, h2⟩ := lv_tr.1 hy
    have := (h1.i G S).len
    have := S.n
    omega
theorem lvS_stop {ws : List Wy} {ss : List St} {p : Fin 4} {m : Int} {k : Nat} (h : lvS ws ss p m k = []) : ∀ j, lvS ws ss p m (k + j) = []
  | 0 => h
  | j + 1 => by rw [← Nat.add_assoc, lvS, lvS_stop h j]; rfl
/-! down first -/
def dfs (ws : List Wy) (ss : List St) (last : Int) : Nat → Sta → List Sta
  | 0, st => [st]
  | n + 1, st => st :: (chP ws ss last st).reverse.flatMap (dfs ws ss last n)
theorem dfs_len {ws : List Wy} {ss : List St} {last : Int} (hn : ss.length ≤ 3) : ∀ (n : Nat) (st : Sta), (dfs ws ss last n st).length ≤ 4 ^ n
  | 0, st => by simp [dfs]
  | n + 1, st => by
    have := flat_len (f := dfs ws ss last n) (m := 4 ^ n) (xs := (chP ws ss last st).reverse) fun s _ => dfs_len hn n s
    have h2 : (chP ws ss last st).reverse.length ≤ 3 := by rw [List.length_reverse]; exact Nat.le_trans (List.length_filterMap_le _ _) hn
    have h3 : (chP ws ss last st).reverse.length * 4 ^ n ≤ 3 * 4 ^ n := Nat.mul_le_mul_right _ h2
    have h4 : 1 ≤ 4 ^ n := Nat.one_le_pow _ _ (by omega)
    rw [dfs, List.length_cons, Nat.pow_succ]
    omega
theorem dfs_self {ws : List Wy} {ss : List St} {last : Int} {n : Nat} {st : Sta} : st ∈ dfs ws ss last n st := by cases n <;> simp [dfs]
theorem dfs_tr {ws : List Wy} {ss : List St} {p : Fin 4} {m last : Int} : ∀ {n : Nat} {st y : Sta}, Tr ws ss p m st → y ∈ dfs ws ss last n st → Tr ws ss p m y
  | 0, st, y, h, hy => by
    rw [dfs, List.mem_singleton] at hy
    rw [hy]; exact h
  | n + 1, st, y, h, hy => by
    rw [dfs] at hy
    rcases List.mem_cons.1 hy with rfl | hy
    · exact h
    · obtain ⟨c, hc, hy⟩ := List.mem_flatMap.1 hy
      obtain ⟨s, hs, hc⟩ := List.mem_filterMap.1 (List.mem_reverse.1 hc)
      exact dfs_tr (.step h hs (ch2_some.1 hc).1) hy
theorem dfs_ch {ws : List Wy} {ss : List St} {last : Int} {c st : Sta} {s : St} (hs : s ∈ ss) (hc : ch2 ws last st s = some c) : ∀ {n : Nat} {r : Sta}, st ∈ dfs ws ss last n r → st.1.length < r.1.length + n → c ∈ dfs ws ss last n r
  | 0, r, h, hl => by
    rw [dfs, List.mem_singleton] at h
    rw [h] at hl
    omega
  | n + 1, r, h, hl => by
    rw [dfs] at h ⊢
    rcases List.mem_cons.1 h with rfl | h
    · exact .tail _ (List.mem_flatMap.2 ⟨c, List.mem_reverse.2 (List.mem_filterMap.2 ⟨s, hs, hc⟩), dfs_self⟩)
    · obtain ⟨d, hd, h⟩ := List.mem_flatMap.1 h
      obtain ⟨s', hs', hd'⟩ := List.mem_filterMap.1 (List.mem_reverse.1 hd)
      have := ch_len (ch2_some.1 hd').1
      exact .tail _ (List.mem_flatMap.2 ⟨d, hd, dfs_ch hs hc h (by omega)⟩)
theorem dfs_all {ws : List Wy} {ss : List St} {p : Fin 4} {m last : Int} (G : GW ws) (S : GS ss) {y : Sta} (h : Tr ws ss p m y) (hb : ∀ q ∈ y.1, q.2 ≤ last) : y ∈ dfs ws ss last 3 ([], p, m) := by
  induction h with
  | root => exact dfs_self
  | @step st c s h hs hc ih =>
    have hl := ch_len hc
    have hi := ((Tr.step h hs hc).i G S).len
    have hn := S.n
    obtain ⟨_, l, b, _, _, e⟩ := ch1_some hc
    have h1 : ∀ q ∈ st.1, q.2 ≤ last := fun q hq => hb q (by rw [e]; exact List.mem_append_left _ hq)
    refine dfs_ch hs (ch2_some.2 ⟨hc, fun q hq => hb q (List.mem_of_getLast? hq)⟩) (ih h1) ?_
    simp
    omega
end W4

namespace Z
open PySem
/-- one thing ahead of a tuple -/
theorem ordC {α β : Type} [DecidableEq α] [DecidableEq β] {f : α → PyData} {lf : α → α → Bool} {gs : β → List PyData} {lg : β → β → Bool} (hf : OrdE f lf) (hg : OrdE (fun b => .tuple (gs b)) lg) (df : ∀ a, (f a).depth ≤ 30) (dg : ∀ b, (PyData.tuple (gs b)).depth ≤ 31) : OrdE (fun q : α × β => PyData.tuple (f q.1 :: gs q.2)) (lt2 lf lg) where
  e a b := by
    obtain ⟨a1, a2⟩ := a
    obtain ⟨b1, b2⟩ := b
    have h2 := hg.e a2 b2
    simp only [PyData.eqv] at h2
    simp only [PyData.eqv, PyData.eqvAll, hf.e, h2]
    by_cases c : a1 = b1 <;> by_cases d : a2 = b2 <;> simp [c, d]
  p a := by
    have h2 := hg.p a.2
    simp only [PyData.plain] at h2
    simp only [PyData.plain, PyData.plainAll, hf.p, h2]
    rfl
  d a := by
    have h1 := df a.1
    have h2 := dg a.2
    simp only [PyData.depth] at h2
    simp only [PyData.depth, PyData.depthAll]
    omega
  al a b := by
    have h2 := hg.al a.2 b.2
    simp [PySem.W.alike] at h2
    simp [PySem.W.alike, PySem.W.alikeAll, hf.al, h2]
  l a b := by
    have h2 := hg.l a.2 b.2
    rw [PySem.W.dataLt_tuple] at h2
    rw [PySem.W.dataLt_tuple, PySem.W.dataLt_cons (hf.al _ _), hf.e, hf.l, h2]
    unfold lt2
    by_cases c : a.1 = b.1
    · simp [c]
    · simp [c]
  n _ := by simp
  tri a b h1 h2 := by
    obtain ⟨a1, a2⟩ := a
    obtain ⟨b1, b2⟩ := b
    unfold lt2 at h1 h2
    simp only at h1 h2
    by_cases c : a1 = b1
    · subst c
      simp at h1 h2
      rw [hg.tri _ _ h1 h2]
    · have c' : ¬ b1 = a1 := fun e => c e.symm
      rw [if_neg c] at h1
      rw [if_neg c'] at h2
      exact absurd (hf.tri _ _ h1 h2) c
end Z
namespace W4
open PySem Z
theorem dep_s (a : Fin 3) : (sD a).depth ≤ 30 := by simp [PyData.depth]
abbrev wqD (q : Fin 3 × Int) : PyData := .tuple [sD q.1, .int q.2]
theorem dep_wq (q : Fin 3 × Int) : (wqD q).depth ≤ 2 := by simp [PyData.depth, PyData.depthAll]
def ltWk : Wk → Wk → Bool := ltT (lt2 ltN ltI)
theorem dep_wk (w : Wk) : (wkD w).depth ≤ 4 := by
  have : ∀ w : Wk, PyData.depthAll (w.map wqD) ≤ 3 := by
    intro w
    induction w with
    | nil => simp [PyData.depthAll]
    | cons q w ih =>
      have := dep_wq q
      simp only [List.map_cons, PyData.depthAll]
      omega
  have := this w
  unfold wqD at this
  simp only [PyData.depth]
  omega
theorem ordWk : OrdE wkD ltWk := ordT (ord2 ordN ordI dep_s dep_i) (fun q => by have h := dep_wq q; unfold wqD at h; omega)
abbrev Row := Int × Int × Int × Wk
abbrev rowD (r : Row) : PyData := .tuple [.int r.1, .int r.2.1, .int r.2.2.1, wkD r.2.2.2]
def ltR : Row → Row → Bool := lt2 ltI (lt3 ltI ltI ltWk)
theorem ordR : OrdE rowD ltR := ordC (gs := fun b : Int × Int × Wk => [.int b.1, .int b.2.1, wkD b.2.2]) ordI (ord3 ordI ordI ordWk dep_i dep_i (fun w => by have h := dep_wk w; unfold wkD at h ⊢; omega)) dep_i (fun b => by
  have := dep_wk b.2.2
  unfold wkD at this ⊢
  simp only [PyData.depth, PyData.depthAll] at this ⊢
  omega)
def joyF (ss : List St) (w : Wk) : Int := (w.map fun q => ((lk ss q.1).map fun s => s.jo).getD 0).sum
def okW (ws : List Wy) (ss : List St) (p : Fin 4) (m last : Int) (w : Wk) : Bool := match ovF ws ss p m w with
  | none => false
  | some o => decide (o ≤ last)
def walksF (ws : List Wy) (ss : List St) (p : Fin 4) (m last : Int) : List Wk := ((dfs ws ss last 3 ([], p, m)).map fun y => y.1).filter (okW ws ss p m last)
def levN (ws : List Wy) (ss : List St) (p : Fin 4) (m : Int) (k : Nat) : List Sta := (List.range k).flatMap (lvS ws ss p m)
def walksL (ws : List Wy) (ss : List St) (p : Fin 4) (m last : Int) (k : Nat) : List Wk := ((levN ws ss p m k).map fun y => y.1).filter (okW ws ss p m last)
section
variable {ws : List Wy} {ss : List St} {p : Fin 4} {m last str : Int} (G : GW ws) (S : GS ss)
include G S
theorem tr_ov {y : Sta} (h : Tr ws ss p m y) : ∃ back, dstF ws y.2.1 p = some back ∧ 0 ≤ back ∧ ovF ws ss p m y.1 = some (y.2.2 + back) := by
  have I := h.i G S
  obtain ⟨back, hb⟩ := Option.isSome_iff_exists.1 (dst_back G I.pl)
  refine ⟨back, hb, dst_nn G hb, ?_⟩
  unfold ovF
  rw [I.ov]
  show (dstF ws y.2.1 p).map _ = _
  rw [hb]
  rfl
theorem mem_walksF {w : Wk} : w ∈ walksF ws ss p m last ↔ (∃ h f, Tr ws ss p m (w, h, f)) ∧ okW ws ss p m last w = true := by
  unfold walksF
  rw [List.mem_filter, List.mem_map]
  constructor
  · rintro ⟨⟨y, hy, rfl⟩, ho⟩
    exact ⟨⟨y.2.1, y.2.2, dfs_tr .root hy⟩, ho⟩
  · rintro ⟨⟨h, f, ht⟩, ho⟩
    refine ⟨⟨(w, h, f), dfs_all G S ht fun q hq => ?_, rfl⟩, ho⟩
    obtain ⟨back, _, b0, ho'⟩ := tr_ov G S ht
    have hb := (ht.i G S).b q hq
    unfold okW at ho
    rw [ho'] at ho
    have ho := of_decide_eq_true ho
    dsimp only at *
    omega
theorem mem_walksL {w : Wk} {k : Nat} (hk : lvS ws ss p m k = []) : w ∈ walksL ws ss p m last k ↔ w ∈ walksF ws ss p m last := by
  rw [mem_walksF G S]
  unfold walksL levN
  rw [List.mem_filter, List.mem_map]
  constructor
  · rintro ⟨⟨y, hy, rfl⟩, ho⟩
    obtain ⟨j, _, hy⟩ := List.mem_flatMap.1 hy
    exact ⟨⟨y.2.1, y.2.2, (lv_tr.1 hy).1⟩, ho⟩
  · rintro ⟨⟨h, f, ht⟩, ho⟩
    refine ⟨⟨(w, h, f), List.mem_flatMap.2 ⟨w.length, List.mem_range.2 ?_, lv_tr.2 ⟨ht, rfl⟩⟩, rfl⟩, ho⟩
    by_cases c : w.length < k
    · exact c
    · exfalso
      have := lvS_stop hk (w.length - k)
      rw [show k + (w.length - k) = w.length by omega] at this
      have h2 : ((w, h, f) : Sta) ∈ lvS ws ss p m w.length := lv_tr.2 ⟨ht, rfl⟩
      rw [this] at h2
      cases h2
omit S in
theorem dst_zero (a : Fin 4) : dstF ws a a = some 0 := by
  obtain ⟨s, c⟩ := dst_spec G a
  obtain ⟨n, hn, e⟩ := c a [] 0 .nil
  have := dst_nn G e
  rw [e]
  congr 1
  omega
omit S in
theorem nil_walk (hm : m ≤ last) : ([] : Wk) ∈ walksF ws ss p m last := by
  unfold walksF
  rw [List.mem_filter, List.mem_map]
  refine ⟨⟨_, dfs_self, rfl⟩, ?_⟩
  unfold okW ovF ovR
  show (match (dstF ws p p).map (fun back => m + back) with | none => false | some o => decide (o ≤ last)) = true
  rw [dst_zero G]
  simp
  exact hm
omit S in
theorem nil_sl (hs : 0 ≤ str) : (slF ws ss p m str []).isSome = true := by
  unfold slF slR
  show ((dstF ws p p).bind _).isSome = true
  rw [dst_zero G]
  simp
  exact hs
end
def rowOf (ws : List Wy) (ss : List St) (p : Fin 4) (m : Int) (w : Wk) : Row := (-(joyF ss w), (ovF ws ss p m w).getD 0, (w.length : Int), w)
def borF (ws : List Wy) (ss : List St) (p : Fin 4) (m last str : Int) : List Wk := (walksF ws ss p m last).filter fun w => (slF ws ss p m str w).isSome
def bestF (ws : List Wy) (ss : List St) (p : Fin 4) (m last str : Int) : Option Row := minO ltR ((borF ws ss p m last str).map (rowOf ws ss p m))
def bestW (ws : List Wy) (ss : List St) (p : Fin 4) (m last str : Int) : Wk := ((bestF ws ss p m last str).map fun r => r.2.2.2).getD []
def J (ws : List Wy) (ss : List St) (p : Fin 4) (m last str : Int) : Int := joyF ss (bestW ws ss p m last str)
section
variable {ws : List Wy} {ss : List St} {p : Fin 4} {m last str : Int} (G : GW ws)
include G
theorem best_ok (hm : m ≤ last) (hs : 0 ≤ str) : bestF ws ss p m last str = some (rowOf ws ss p m (bestW ws ss p m last str)) ∧ bestW ws ss p m last str ∈ borF ws ss p m last str ∧ ∀ w ∈ borF ws ss p m last str, joyF ss w ≤ J ws ss p m last str := by
  have h0 : ([] : Wk) ∈ borF ws ss p m last str := List.mem_filter.2 ⟨nil_walk G hm, nil_sl G hs⟩
  unfold J bestW
  cases hb : bestF ws ss p m last str with
  | none =>
    have := minO_none.1 hb
    have := List.map_eq_nil_iff.1 this
    rw [this] at h0
    cases h0
  | some r =>
    have hr := (minO_iff ordR).1 hb
    obtain ⟨w, hw, rfl⟩ := List.mem_map.1 hr.1
    refine ⟨rfl, hw, fun v hv => ?_⟩
    have := hr.2 _ (List.mem_map.2 ⟨v, hv, rfl⟩)
    show joyF ss v ≤ joyF ss w
    unfold leB ltR lt2 rowOf ltI at this
    dsimp only at this
    split at this
    · omega
    · have : ¬ -(joyF ss v) < -(joyF ss w) := by simpa using this
      omega
end
theorem lfS_mono {str str' l free b du x x' y : Int} (h1 : str ≤ str') (h2 : x ≤ x') (h : lfS str l free b du (some x) = some y) : ∃ y', y ≤ y' ∧ lfS str' l free b du (some x') = some y' := by
  unfold lfS at h ⊢
  dsimp only at h ⊢
  split at h
  · rename_i c1
    split at h
    · rename_i c2
      cases h
      refine ⟨min str' (x' - l + b - free - l) - du, by omega, ?_⟩
      rw [if_pos (by omega), if_pos (by omega)]
    · cases h
  · cases h
theorem slR_mono {ws : List Wy} {ss : List St} {str str' : Int} (h1 : str ≤ str') : ∀ (w : Wk) (here : Fin 4) (free left left' : Int) {r : Fin 4 × Int}, left ≤ left' → slR ws ss str w here free left = some r → ∃ x', r.2 ≤ x' ∧ slR ws ss str' w here free left' = some (r.1, x')
  | [], here, free, left, left', r, h2, h => by
    unfold slR at h
    cases h
    exact ⟨left', h2, rfl⟩
  | q :: w, here, free, left, left', r, h2, h => by
    unfold slR at h ⊢
    cases hl : lk ss q.1 with
    | none => rw [hl] at h; cases h
    | some s =>
      rw [hl] at h
      dsimp only at h ⊢
      cases hd : dstF ws here s.pl with
      | none => rw [hd] at h; cases h
      | some l =>
        rw [hd] at h
        dsimp only at h ⊢
        cases hf : lfS str l free q.2 s.du (some left) with
        | none => rw [hf] at h; cases h
        | some y =>
          rw [hf] at h
          obtain ⟨y', hy, e⟩ := lfS_mono h1 h2 hf
          rw [e]
          exact slR_mono h1 w _ _ _ _ hy h
theorem slF_mono {ws : List Wy} {ss : List St} {p : Fin 4} {m str str' : Int} {w : Wk} (h1 : str ≤ str') (h : (slF ws ss p m str w).isSome = true) : (slF ws ss p m str' w).isSome = true := by
  unfold slF at h ⊢
  cases hr : slR ws ss str w p m str with
  | none => rw [hr] at h; cases h
  | some r =>
    rw [hr] at h
    obtain ⟨x', hx, e⟩ := slR_mono h1 w p m str str' h1 hr
    rw [e]
    have h : ((dstF ws r.1 p).bind fun back => if back ≤ r.2 then some (r.2 - back) else none).isSome = true := h
    show ((dstF ws r.1 p).bind fun back => if back ≤ x' then some (x' - back) else none).isSome = true
    cases hd : dstF ws r.1 p with
    | none => rw [hd] at h; cases h
    | some back =>
      rw [hd] at h
      have h : (if back ≤ r.2 then some (r.2 - back) else none).isSome = true := h
      show (if back ≤ x' then some (x' - back) else none).isSome = true
      split at h
      · rw [if_pos (by omega)]; rfl
      · cases h
theorem bor_mono {ws : List Wy} {ss : List St} {p : Fin 4} {m last last' str str' : Int} (G : GW ws) (S : GS ss) (h1 : last ≤ last') (h2 : str ≤ str') {w : Wk} (h : w ∈ borF ws ss p m last str) : w ∈ borF ws ss p m last' str' := by
  obtain ⟨hw, hs⟩ := List.mem_filter.1 h
  refine List.mem_filter.2 ⟨(mem_walksF G S).2 ?_, slF_mono h2 hs⟩
  obtain ⟨ht, ho⟩ := (mem_walksF G S).1 hw
  refine ⟨ht, ?_⟩
  unfold okW at ho ⊢
  cases he : ovF ws ss p m w with
  | none => rw [he] at ho; cases ho
  | some o =>
    rw [he] at ho
    have := of_decide_eq_true ho
    exact decide_eq_true (by omega)
theorem J_mono {ws : List Wy} {ss : List St} {p : Fin 4} {m last last' str str' : Int} (G : GW ws) (S : GS ss) (hm : m ≤ last) (hs : 0 ≤ str) (h1 : last ≤ last') (h2 : str ≤ str') : J ws ss p m last str ≤ J ws ss p m last' str' := by
  obtain ⟨_, b1, _⟩ := best_ok (ss := ss) (p := p) G hm hs
  obtain ⟨_, _, b2⟩ := best_ok (ss := ss) (p := p) (m := m) (last := last') (str := str') G (by omega) (by omega)
  exact b2 _ (bor_mono G S h1 h2 b1)
/-! one stall, with joy 1 -/
def oneS (s : St) : St := ⟨s.nm, s.pl, s.du, 1, s.sp⟩
theorem lk_one (s : St) (n : Fin 3) : lk [oneS s] n = (lk [s] n).map oneS := by
  unfold lk
  rw [List.find?_cons, List.find?_cons]
  have : (oneS s).nm = s.nm := rfl
  rw [this]
  by_cases c : s.nm = n <;> simp [c]
theorem ovR_one {ws : List Wy} (s : St) : ∀ (w : Wk) (here : Fin 4) (free : Int) (met : List (Fin 3)), ovR ws [oneS s] w here free met = ovR ws [s] w here free met
  | [], here, free, met => rfl
  | q :: w, here, free, met => by
    rw [ovR_cons, ovR_cons, lk_one]
    cases lk [s] q.1 with
    | none => rfl
    | some s' =>
      have e1 : (oneS s').pl = s'.pl := rfl
      have e2 : fbF (oneS s') = fbF s' := rfl
      have e3 : (oneS s').du = s'.du := rfl
      simp only [Option.map_some, e1, e2, e3]
      cases dstF ws here s'.pl with
      | none => rfl
      | some l =>
        dsimp only
        rw [ovR_one s w]
theorem slR_one {ws : List Wy} (s : St) {str : Int} : ∀ (w : Wk) (here : Fin 4) (free left : Int), slR ws [oneS s] str w here free left = slR ws [s] str w here free left
  | [], here, free, left => rfl
  | q :: w, here, free, left => by
    unfold slR
    rw [lk_one]
    cases lk [s] q.1 with
    | none => rfl
    | some s' =>
      have e1 : (oneS s').pl = s'.pl := rfl
      have e3 : (oneS s').du = s'.du := rfl
      simp only [Option.map_some, e1, e3]
      cases dstF ws here s'.pl with
      | none => rfl
      | some l =>
        dsimp only
        cases lfS str l free q.2 s'.du (some left) with
        | none => rfl
        | some y => exact slR_one s w _ _ _
theorem chP_one {ws : List Wy} (s : St) (last : Int) (st : Sta) : chP ws [oneS s] last st = chP ws [s] last st := rfl
theorem dfs_one {ws : List Wy} (s : St) (last : Int) : ∀ (n : Nat) (st : Sta), dfs ws [oneS s] last n st = dfs ws [s] last n st
  | 0, st => rfl
  | n + 1, st => by
    rw [dfs, dfs, chP_one]
    congr 2
    funext y
    exact dfs_one s last n y
theorem ovF_one {ws : List Wy} (s : St) (p : Fin 4) (m : Int) (w : Wk) : ovF ws [oneS s] p m w = ovF ws [s] p m w := by unfold ovF; rw [ovR_one]
theorem slF_one {ws : List Wy} (s : St) (p : Fin 4) (m str : Int) (w : Wk) : slF ws [oneS s] p m str w = slF ws [s] p m str w := by unfold slF; rw [slR_one]
theorem borF_one {ws : List Wy} (s : St) (p : Fin 4) (m last str : Int) : borF ws [oneS s] p m last str = borF ws [s] p m last str := by
  have e1 : okW ws [oneS s] p m last = okW ws [s] p m last := by funext w; unfold okW; rw [ovF_one]
  have e2 : walksF ws [oneS s] p m last = walksF ws [s] p m last := by unfold walksF; rw [dfs_one, e1]
  unfold borF
  rw [e2]
  congr 1
  funext w
  rw [slF_one]
theorem GS1 {s : St} (h : GSt s) : GS [s] := ⟨by simp, by simp, fun x hx => by rw [List.mem_singleton.1 hx]; exact h⟩
theorem gst_one {s : St} (h : GSt s) : GSt (oneS s) := ⟨h.du, by unfold oneS; dsimp only; omega, h.sp⟩
theorem joy_one {ws : List Wy} {s : St} (G : GW ws) (hs : GSt s) {p : Fin 4} {m last str : Int} {w : Wk} (h : w ∈ borF ws [oneS s] p m last str) : joyF [oneS s] w = w.length := by
  obtain ⟨⟨x, f, ht⟩, _⟩ := (mem_walksF G (GS1 (gst_one hs))).1 (List.mem_filter.1 h).1
  have hk := (ht.i G (GS1 (gst_one hs))).k
  unfold joyF
  have : ∀ v : Wk, (∀ q ∈ v, (lk [oneS s] q.1).isSome = true) → (v.map fun q => ((lk [oneS s] q.1).map fun s => s.jo).getD 0).sum = v.length := by
    intro v
    induction v with
    | nil => intro _; rfl
    | cons q v ih =>
      intro hv
      obtain ⟨s', hs'⟩ := Option.isSome_iff_exists.1 (hv q (.head _))
      have := lk_mem hs'
      rw [List.mem_singleton] at this
      rw [List.map_cons, List.sum_cons, hs', ih fun y hy => hv y (.tail _ hy), this.1]
      show (1 : Int) + _ = _
      simp
      omega
  exact this w hk
theorem lost_one {ws : List Wy} {s : St} (G : GW ws) (hs : GSt s) {p : Fin 4} {m last str : Int} (hm : m ≤ last) (h0 : 0 ≤ str) : J ws [oneS s] p m last str = 0 ↔ (borF ws [s] p m last str).filter (fun w => !w.isEmpty) = [] := by
  obtain ⟨_, b1, b2⟩ := best_ok (ss := [oneS s]) (p := p) G hm h0
  rw [List.filter_eq_nil_iff]
  constructor
  · intro hj w hw
    rw [← borF_one] at hw
    have h1 := b2 w hw
    rw [joy_one G hs hw, hj] at h1
    have : w = [] := List.length_eq_zero_iff.1 (by omega)
    rw [this]
    simp
  · intro h
    have e := joy_one G hs b1
    rw [borF_one] at b1
    have := h _ b1
    have : bestW ws [oneS s] p m last str = [] := by simpa using this
    unfold J
    rw [this]
    rfl
end W4

namespace K42
open PySem PySem.Spec PyProof.Rows Z
open L2 (V Hp FnOk FnScope Room)
open C8 (Cal Def Fun fnBody fnScope fnArgs CX0)
def topS (i : Nat) : Stmt := PySem.Challenge.pw_fairlands_k42_whole_loads_of_wagons.main.body.getD i (.Pass ⟨0, 0, 0, 0⟩)
def cs : List (Str × PyData) := [("LETTERS", (.str "abcdefghijklmnopqrstuvwxyz")), ("MOST_CRATES", (.int 7))]
def bl : List Str := ["abs", "all", "any", "bool", "dict", "enumerate", "int", "isinstance", "len", "list", "min", "range", "sorted", "str", "sum", "tuple", "zip"]
def mt : List (Str × String) := []
def fs : List (Str × Nat × Bool) := [("is_integer", 1, false), ("is_number", 3, false), ("is_name", 1, false), ("are_crates", 1, false), ("is_wagon", 1, false), ("has_room", 3, false), ("can_drive", 3, false), ("least_row", 2, false), ("loading", 2, false), ("_law_draw", 1, false), ("_law_next", 2, false), ("_law_same", 2, false), ("_law_crates", 1, true), ("_law_drive", 3, false), ("_law_orders", 1, false)]
/-! is_integer -/
abbrev s_is_integer : Stmt := topS 2
def n_is_integer : List Str := ["thing"]
def c_is_integer : Cc := { N := n_is_integer, B := bl, M := mt, Fs := fs.take 0, nx := false, G := cs }
theorem sc_is_integer : FnScope c_is_integer.N ["thing"] (fnScope s_is_integer) := C8.fnScope_by (by decide +kernel)
def t_is_integer_0 : S := (.ret (.and_ (.p1 .isInt (.v 0)) (.not_ (.p1 .isBool (.v 0)))))
def b_is_integer : Ss := (.cons t_is_integer_0 .nil)
theorem ck_is_integer : chkB c_is_integer (fnScope s_is_integer) (fun _ => true) b_is_integer (fnBody s_is_integer) = true := by decide +kernel
/-! is_number -/
abbrev s_is_number : Stmt := topS 3
def n_is_number : List Str := ["thing", "least", "most"]
def c_is_number : Cc := { N := n_is_number, B := bl, M := mt, Fs := fs.take 1, nx := false, G := cs }
theorem sc_is_number : FnScope c_is_number.N ["thing", "least", "most"] (fnScope s_is_number) := C8.fnScope_by (by decide +kernel)
def t_is_number_0 : S := (.ret (.and_ (.call 0 (.cons (.v 0) .nil)) (.and_ (.p2 .ge (.v 0) (.v 1)) (.or_ (.p2 .is_ (.v 2) (.k .none)) (.p2 .le (.v 0) (.v 2))))))
def b_is_number : Ss := (.cons t_is_number_0 .nil)
theorem ck_is_number : chkB c_is_number (fnScope s_is_number) (fun _ => true) b_is_number (fnBody s_is_number) = true := by decide +kernel
/-! is_name -/
abbrev s_is_name : Stmt := topS 4
def n_is_name : List Str := ["thing", "sign"]
def c_is_name : Cc := { N := n_is_name, B := bl, M := mt, Fs := fs.take 2, nx := false, G := cs }
theorem sc_is_name : FnScope c_is_name.N ["thing"] (fnScope s_is_name) := C8.fnScope_by (by decide +kernel)
def t_is_name_0 : S := (.ife (.or_ (.not_ (.p1 .isStr (.v 0))) (.not_ (.chain .le .le (.k (.int 1)) (.p1 .len (.v 0)) (.k (.int 8)))))
    (.cons (.ret (.k (.bool false))) .nil)
    .nil)
def t_is_name_1 : S := (.ret (.p1 .all (.lc (.nm 1) (.val (.v 0)) .nil [1] (.p2 .in_ (.v 1) (.k (.str "abcdefghijklmnopqrstuvwxyz"))))))
def b_is_name : Ss := (.cons t_is_name_0 (.cons t_is_name_1 .nil))
theorem ck_is_name : chkB c_is_name (fnScope s_is_name) (fun _ => true) b_is_name (fnBody s_is_name) = true := by decide +kernel
/-! are_crates -/
abbrev s_are_crates : Stmt := topS 7
def n_are_crates : List Str := ["thing", "crate", "one", "other"]
def c_are_crates : Cc := { N := n_are_crates, B := bl, M := mt, Fs := fs.take 3, nx := false, G := cs }
theorem sc_are_crates : FnScope c_are_crates.N ["thing"] (fnScope s_are_crates) := C8.fnScope_by (by decide +kernel)
def t_are_crates_0 : S := (.ife (.or_ (.not_ (.p1 .isTuple (.v 0))) (.not_ (.chain .le .le (.k (.int 1)) (.p1 .len (.v 0)) (.k (.int 7)))))
    (.cons (.ret (.k (.bool false))) .nil)
    .nil)
def t_are_crates_2 : S := (.ife (.or_ (.not_ (.p1 .isTuple (.v 1))) (.or_ (.p2 .ne (.p1 .len (.v 1)) (.k (.int 4))) (.not_ (.call 2 (.cons (.p2 .ix (.v 1) (.k (.int 0))) .nil)))))
    (.cons (.ret (.k (.bool false))) .nil)
    .nil)
def t_are_crates_3 : S := (.ife (.or_ (.not_ (.call 1 (.cons (.p2 .ix (.v 1) (.k (.int 1))) (.cons (.k (.int 1)) (.cons (.k (.int 99)) .nil))))) (.or_ (.not_ (.call 1 (.cons (.p2 .ix (.v 1) (.k (.int 2))) (.cons (.k (.int 1)) (.cons (.k (.int 99)) .nil))))) (.not_ (.call 1 (.cons (.p2 .ix (.v 1) (.k (.int 3))) (.cons (.k (.int 1)) (.cons (.k (.int 9)) .nil)))))))
    (.cons (.ret (.k (.bool false))) .nil)
    .nil)
def t_are_crates_1 : S := (.for_ (.nm 1) (.val (.v 0))
    (.cons t_are_crates_2 (.cons t_are_crates_3 .nil)))
def t_are_crates_4 : S := (.ret (.p1 .all (.lc (.cons (.nm 2) (.cons (.nm 3) .nil)) (.zip (.v 0) (.p2 .slL (.v 0) (.k (.int 1)))) .nil [2, 3] (.p2 .lt (.p2 .ix (.v 2) (.k (.int 0))) (.p2 .ix (.v 3) (.k (.int 0)))))))
def b_are_crates : Ss := (.cons t_are_crates_0 (.cons t_are_crates_1 (.cons t_are_crates_4 .nil)))
theorem ck_are_crates : chkB c_are_crates (fnScope s_are_crates) (fun _ => true) b_are_crates (fnBody s_are_crates) = true := by decide +kernel
/-! is_wagon -/
abbrev s_is_wagon : Stmt := topS 8
def n_is_wagon : List Str := ["thing"]
def c_is_wagon : Cc := { N := n_is_wagon, B := bl, M := mt, Fs := fs.take 4, nx := false, G := cs }
theorem sc_is_wagon : FnScope c_is_wagon.N ["thing"] (fnScope s_is_wagon) := C8.fnScope_by (by decide +kernel)
def t_is_wagon_0 : S := (.ife (.or_ (.not_ (.p1 .isTuple (.v 0))) (.p2 .ne (.p1 .len (.v 0)) (.k (.int 2))))
    (.cons (.ret (.k (.bool false))) .nil)
    .nil)
def t_is_wagon_1 : S := (.ret (.and_ (.call 1 (.cons (.p2 .ix (.v 0) (.k (.int 0))) (.cons (.k (.int 1)) (.cons (.k (.int 999)) .nil)))) (.call 1 (.cons (.p2 .ix (.v 0) (.k (.int 1))) (.cons (.k (.int 1)) (.cons (.k (.int 999)) .nil))))))
def b_is_wagon : Ss := (.cons t_is_wagon_0 (.cons t_is_wagon_1 .nil))
theorem ck_is_wagon : chkB c_is_wagon (fnScope s_is_wagon) (fun _ => true) b_is_wagon (fnBody s_is_wagon) = true := by decide +kernel
/-! has_room -/
abbrev s_has_room : Stmt := topS 9
def n_has_room : List Str := ["crates", "wagon", "names", "there", "crate"]
def c_has_room : Cc := { N := n_has_room, B := bl, M := mt, Fs := fs.take 5, nx := false, G := cs }
theorem sc_has_room : FnScope c_has_room.N ["crates", "wagon", "names"] (fnScope s_has_room) := C8.fnScope_by (by decide +kernel)
def t_has_room_0 : S := (.asg (.nm 3) (.lc (.nm 4) (.val (.v 0)) (.cons (.p2 .in_ (.p2 .ix (.v 4) (.k (.int 0))) (.v 2)) .nil) [4] (.v 4)))
def t_has_room_1 : S := (.ret (.and_ (.p2 .le (.p1 .sum (.lc (.nm 4) (.val (.v 3)) .nil [4] (.p2 .ix (.v 4) (.k (.int 1))))) (.p2 .ix (.v 1) (.k (.int 0)))) (.p2 .le (.p1 .sum (.lc (.nm 4) (.val (.v 3)) .nil [4] (.p2 .ix (.v 4) (.k (.int 2))))) (.p2 .ix (.v 1) (.k (.int 1))))))
def b_has_room : Ss := (.cons t_has_room_0 (.cons t_has_room_1 .nil))
theorem ck_has_room : chkB c_has_room (fnScope s_has_room) (fun _ => true) b_has_room (fnBody s_has_room) = true := by decide +kernel
/-! can_drive -/
abbrev s_can_drive : Stmt := topS 10
def n_can_drive : List Str := ["crates", "wagon", "row", "stops", "crate", "one", "other"]
def c_can_drive : Cc := { N := n_can_drive, B := bl, M := mt, Fs := fs.take 6, nx := false, G := cs }
theorem sc_can_drive : FnScope c_can_drive.N ["crates", "wagon", "row"] (fnScope s_can_drive) := C8.fnScope_by (by decide +kernel)
def t_can_drive_0 : S := (.asg (.nm 3) (.dc (.nm 4) (.val (.v 0)) .nil [4] (.p2 .ix (.v 4) (.k (.int 0))) (.p2 .ix (.v 4) (.k (.int 3)))))
def t_can_drive_1 : S := (.ife (.p1 .any (.lc (.cons (.nm 5) (.cons (.nm 6) .nil)) (.zip (.v 2) (.p2 .slL (.v 2) (.k (.int 1)))) .nil [5, 6] (.p2 .lt (.p2 .ix (.v 3) (.v 5)) (.p2 .ix (.v 3) (.v 6)))))
    (.cons (.ret (.k (.bool false))) .nil)
    .nil)
def t_can_drive_2 : S := (.ret (.call 5 (.cons (.v 0) (.cons (.v 1) (.cons (.v 2) .nil)))))
def b_can_drive : Ss := (.cons t_can_drive_0 (.cons t_can_drive_1 (.cons t_can_drive_2 .nil)))
theorem ck_can_drive : chkB c_can_drive (fnScope s_can_drive) (fun _ => true) b_can_drive (fnBody s_can_drive) = true := by decide +kernel
/-! least_row -/
abbrev s_least_row : Stmt := topS 11
def n_least_row : List Str := ["crates", "names", "rows", "crate", "_", "name"]
def c_least_row : Cc := { N := n_least_row, B := bl, M := mt, Fs := fs.take 7, nx := false, G := cs }
theorem sc_least_row : FnScope c_least_row.N ["crates", "names"] (fnScope s_least_row) := C8.fnScope_by (by decide +kernel)
def t_least_row_0 : S := (.asg (.nm 2) (.p1 .sorted (.lc (.nm 3) (.val (.v 0)) (.cons (.p2 .in_ (.p2 .ix (.v 3) (.k (.int 0))) (.v 1)) .nil) [3] (.tup (.cons (.p1 .neg (.p2 .ix (.v 3) (.k (.int 3)))) (.cons (.p2 .ix (.v 3) (.k (.int 0))) .nil))))))
def t_least_row_1 : S := (.ret (.p1 .tuple (.lc (.cons (.nm 4) (.cons (.nm 5) .nil)) (.val (.v 2)) .nil [4, 5] (.v 5))))
def b_least_row : Ss := (.cons t_least_row_0 (.cons t_least_row_1 .nil))
theorem ck_least_row : chkB c_least_row (fnScope s_least_row) (fun _ => true) b_least_row (fnBody s_least_row) = true := by decide +kernel
/-! loading -/
abbrev s_loading : Stmt := topS 12
def n_loading : List Str := ["crates", "wagon", "best", "rows", "groups", "placed", "name", "told", "rank", "place", "group", "crate"]
def c_loading : Cc := { N := n_loading, B := bl, M := mt, Fs := fs.take 8, nx := false, G := cs }
theorem sc_loading : FnScope c_loading.N ["crates", "wagon"] (fnScope s_loading) := C8.fnScope_by (by decide +kernel)
def t_loading_0 : S := (.ife (.p1 .any (.lc (.nm 11) (.val (.v 0)) .nil [11] (.not_ (.call 5 (.cons (.v 0) (.cons (.v 1) (.cons (.lst (.cons (.p2 .ix (.v 11) (.k (.int 0))) .nil)) .nil)))))))
    (.cons (.ret (.k .none)) .nil)
    .nil)
def t_loading_1 : S := (.asg (.nm 3) (.lst (.cons (.tup .nil) .nil)))
def t_loading_3 : S := (.ife (.and_ (.p2 .isn (.v 2) (.k .none)) (.p2 .gt (.p1 .len (.v 4)) (.p2 .ix (.v 2) (.k (.int 0)))))
    (.cons .cnt .nil)
    .nil)
def t_loading_4 : S := (.asg (.nm 5) (.p1 .sum (.lc (.nm 10) (.val (.v 4)) .nil [10] (.p1 .len (.v 10)))))
def t_loading_6 : S := (.asg (.nm 7) (.p1 .tuple (.p1 .sorted (.lc (.nm 10) (.val (.v 4)) .nil [10] (.call 7 (.cons (.v 0) (.cons (.v 10) .nil)))))))
def t_loading_7 : S := (.asg (.nm 8) (.tup (.cons (.p1 .len (.v 7)) (.cons (.v 7) .nil))))
def t_loading_8 : S := (.asg (.nm 2) (.ite (.or_ (.p2 .is_ (.v 2) (.k .none)) (.p2 .lt (.v 8) (.v 2))) (.v 8) (.v 2)))
def t_loading_5 : S := (.ife (.p2 .eq (.v 5) (.p1 .len (.v 0)))
    (.cons t_loading_6 (.cons t_loading_7 (.cons t_loading_8 (.cons .cnt .nil))))
    .nil)
def t_loading_9 : S := (.asg (.nm 6) (.p2 .ix (.p2 .ix (.v 0) (.v 5)) (.k (.int 0))))
def t_loading_10 : S := (.app 3 (.p2 .add (.v 4) (.tup (.cons (.tup (.cons (.v 6) .nil)) .nil))))
def t_loading_13 : S := (.app 3 (.p2 .add (.p2 .add (.p2 .slH (.v 4) (.v 9)) (.tup (.cons (.p2 .add (.v 10) (.tup (.cons (.v 6) .nil))) .nil))) (.p2 .slL (.v 4) (.p2 .add (.v 9) (.k (.int 1))))))
def t_loading_12 : S := (.ife (.call 5 (.cons (.v 0) (.cons (.v 1) (.cons (.p2 .add (.v 10) (.tup (.cons (.v 6) .nil))) .nil))))
    (.cons t_loading_13 .nil)
    .nil)
def t_loading_11 : S := (.for_ (.cons (.nm 9) (.cons (.nm 10) .nil)) (.enum (.v 4))
    (.cons t_loading_12 .nil))
def t_loading_2 : S := (.wh (.v 3)
    (.cons (.asg (.nm 4) (.pop 3)) (.cons t_loading_3 (.cons t_loading_4 (.cons t_loading_5 (.cons t_loading_9 (.cons t_loading_10 (.cons t_loading_11 .nil))))))))
def b_loading : Ss := (.cons t_loading_0 (.cons (.asg (.nm 2) (.k .none)) (.cons t_loading_1 (.cons t_loading_2 (.cons (.ret (.p2 .ix (.v 2) (.k (.int 1)))) .nil)))))
theorem ck_loading : chkB c_loading (fnScope s_loading) (fun _ => true) b_loading (fnBody s_loading) = true := by decide +kernel
/-! _law_draw -/
abbrev s__law_draw : Stmt := topS 14
def n__law_draw : List Str := ["script"]
theorem sc__law_draw : FnScope ["script"] ["script"] (fnScope s__law_draw) := C8.fnScope_by (by decide +kernel)
/-! _law_next -/
abbrev s__law_next : Stmt := topS 15
def n__law_next : List Str := ["draw", "many", "found", "cell"]
def c__law_next : Cc := { N := n__law_next, B := bl, M := [], Fs := [], nx := false }
theorem sc__law_next : FnScope c__law_next.N ["draw", "many"] (fnScope s__law_next) := C8.fnScope_by (by decide +kernel)
theorem ck__law_next : chkB c__law_next (fnScope s__law_next) (fun _ => true) nextB (fnBody s__law_next) = true := by decide +kernel
/-! _law_same -/
abbrev s__law_same : Stmt := topS 16
def n__law_same : List Str := ["actual", "wanted", "k"]
theorem sc__law_same : FnScope (cSameN "wanted").N ["actual", "wanted"] (fnScope s__law_same) := C8.fnScope_by (by decide +kernel)
theorem ck__law_same : chkB (cSameN "wanted") (fnScope s__law_same) (fun _ => true) sameB (fnBody s__law_same) = true := by decide +kernel
/-! _law_crates -/
abbrev s__law_crates : Stmt := topS 17
def n__law_crates : List Str := ["draw", "most", "name"]
def c__law_crates : Cc := { N := n__law_crates, B := bl, M := mt, Fs := fs.take 12, nx := true, G := cs }
theorem sc__law_crates : FnScope c__law_crates.N ["draw", "most"] (fnScope s__law_crates) := C8.fnScope_by (by decide +kernel)
def t__law_crates_0 : S := (.ret (.p1 .tuple (.lc (.nm 2) (.val (.p2 .slH (.lst (.cons (.k (.str "ca")) (.cons (.k (.str "cb")) (.cons (.k (.str "cc")) (.cons (.k (.str "cd")) (.cons (.k (.str "ce")) .nil)))))) (.p2 .add (.k (.int 1)) (.nxt 0 (.v 1))))) .nil [2] (.tup (.cons (.v 2) (.cons (.p2 .add (.k (.int 1)) (.nxt 0 (.k (.int 6)))) (.cons (.p2 .add (.k (.int 1)) (.nxt 0 (.k (.int 6)))) (.cons (.p2 .add (.k (.int 1)) (.nxt 0 (.k (.int 3)))) .nil))))))))
def b__law_crates : Ss := (.cons t__law_crates_0 .nil)
theorem ck__law_crates : chkB c__law_crates (fnScope s__law_crates) (fun _ => true) b__law_crates (fnBody s__law_crates) = true := by decide +kernel
/-! _law_drive -/
abbrev s__law_drive : Stmt := topS 18
def n__law_drive : List Str := ["crates", "wagon", "row", "own", "k", "crate", "j", "name"]
def c__law_drive : Cc := { N := n__law_drive, B := bl, M := mt, Fs := fs.take 13, nx := true, G := cs }
theorem sc__law_drive : FnScope c__law_drive.N ["crates", "wagon", "row"] (fnScope s__law_drive) := C8.fnScope_by (by decide +kernel)
def t__law_drive_0 : S := (.asg (.nm 3) (.p1 .dict (.lc (.nm 5) (.val (.v 0)) .nil [5] (.tup (.cons (.p2 .ix (.v 5) (.k (.int 0))) (.cons (.v 5) .nil))))))
def t__law_drive_2 : S := (.ife (.p1 .any (.lc (.nm 6) (.rng1 (.v 4)) .nil [6] (.p2 .lt (.p2 .ix (.p2 .ix (.v 3) (.p2 .ix (.v 2) (.v 6))) (.k (.int 3))) (.p2 .ix (.p2 .ix (.v 3) (.p2 .ix (.v 2) (.v 4))) (.k (.int 3))))))
    (.cons (.ret (.k (.bool false))) .nil)
    .nil)
def t__law_drive_1 : S := (.for_ (.nm 4) (.rng1 (.p1 .len (.v 2)))
    (.cons t__law_drive_2 .nil))
def t__law_drive_3 : S := (.ret (.and_ (.p2 .le (.p1 .sum (.lc (.nm 7) (.val (.v 2)) .nil [7] (.p2 .ix (.p2 .ix (.v 3) (.v 7)) (.k (.int 1))))) (.p2 .ix (.v 1) (.k (.int 0)))) (.p2 .le (.p1 .sum (.lc (.nm 7) (.val (.v 2)) .nil [7] (.p2 .ix (.p2 .ix (.v 3) (.v 7)) (.k (.int 2))))) (.p2 .ix (.v 1) (.k (.int 1))))))
def b__law_drive : Ss := (.cons t__law_drive_0 (.cons t__law_drive_1 (.cons t__law_drive_3 .nil)))
theorem ck__law_drive : chkB c__law_drive (fnScope s__law_drive) (fun _ => true) b__law_drive (fnBody s__law_drive) = true := by decide +kernel
/-! _law_orders -/
abbrev s__law_orders : Stmt := topS 19
def n__law_orders : List Str := ["names", "found", "name", "longer", "row", "k"]
def c__law_orders : Cc := { N := n__law_orders, B := bl, M := mt, Fs := fs.take 14, nx := true, G := cs }
theorem sc__law_orders : FnScope c__law_orders.N ["names"] (fnScope s__law_orders) := C8.fnScope_by (by decide +kernel)
def t__law_orders_0 : S := (.asg (.nm 1) (.lst (.cons (.tup .nil) .nil)))
def t__law_orders_3 : S := (.asg (.nm 3) (.p2 .add (.v 3) (.lc (.nm 5) (.rng1 (.p2 .add (.p1 .len (.v 4)) (.k (.int 1)))) .nil [5] (.p2 .add (.p2 .add (.p2 .slH (.v 4) (.v 5)) (.tup (.cons (.v 2) .nil))) (.p2 .slL (.v 4) (.v 5))))))
def t__law_orders_2 : S := (.for_ (.nm 4) (.val (.v 1))
    (.cons t__law_orders_3 .nil))
def t__law_orders_1 : S := (.for_ (.nm 2) (.val (.v 0))
    (.cons (.asg (.nm 3) (.lst .nil)) (.cons t__law_orders_2 (.cons (.asg (.nm 1) (.v 3)) .nil))))
def b__law_orders : Ss := (.cons t__law_orders_0 (.cons t__law_orders_1 (.cons (.ret (.v 1)) .nil)))
theorem ck__law_orders : chkB c__law_orders (fnScope s__law_orders) (fun _ => true) b__law_orders (fnBody s__law_orders) = true := by decide +kernel
/-! law -/
abbrev s_law : Stmt := topS 20
def n_law : List Str := ["script", "draw", "row", "name", "rows", "groups", "one", "wrong", "bad", "crates", "wagon", "names", "parts", "longer", "told", "group", "good", "crate", "pair", "k"]
def c_law : Cc := { N := n_law, B := bl, M := mt, Fs := fs.take 15, nx := true, G := cs }
theorem sc_law : FnScope c_law.N ["script"] (fnScope s_law) := C8.fnScope_by (by decide +kernel)
def t_law_0 : S := (.par [9, 10] (.cons (.calld 12 1 (.cons (.k (.int 4)) .nil)) (.cons (.tup (.cons (.p2 .add (.k (.int 3)) (.nxt 1 (.k (.int 9)))) (.cons (.p2 .add (.k (.int 3)) (.nxt 1 (.k (.int 9)))) .nil))) .nil)))
def t_law_1 : S := (.ife (.or_ (.p2 .isn (.call 3 (.cons (.v 9) .nil)) (.k (.bool true))) (.p2 .isn (.call 4 (.cons (.v 10) .nil)) (.k (.bool true))))
    (.cons (.ret (.k (.bool false))) .nil)
    .nil)
def t_law_2 : S := (.par [11, 12] (.cons (.lc (.nm 17) (.val (.v 9)) .nil [17] (.p2 .ix (.v 17) (.k (.int 0)))) (.cons (.lst (.cons (.tup .nil) .nil)) .nil)))
def t_law_3 : S := (.asg (.nm 2) (.p1 .tuple (.p2 .slH (.lc (.nm 18) (.val (.p1 .sorted (.lc (.nm 3) (.val (.v 11)) .nil [3] (.tup (.cons (.nxt 1 (.k (.int 99))) (.cons (.v 3) .nil)))))) .nil [18] (.p2 .ix (.v 18) (.k (.int 1)))) (.nxt 1 (.p2 .add (.p1 .len (.v 11)) (.k (.int 1)))))))
def t_law_4 : S := (.ife (.p2 .ne (.p2 .is_ (.call 6 (.cons (.v 9) (.cons (.v 10) (.cons (.v 2) .nil)))) (.k (.bool true))) (.call 13 (.cons (.v 9) (.cons (.v 10) (.cons (.v 2) .nil)))))
    (.cons (.ret (.k (.bool false))) .nil)
    .nil)
def t_law_7 : S := (.app 13 (.p2 .add (.v 5) (.tup (.cons (.tup (.cons (.v 3) .nil)) .nil))))
def t_law_8 : S := (.asg (.nm 13) (.p2 .add (.v 13) (.lc (.nm 19) (.rng1 (.p1 .len (.v 5))) .nil [19] (.p2 .add (.p2 .add (.p2 .slH (.v 5) (.v 19)) (.tup (.cons (.p2 .add (.p2 .ix (.v 5) (.v 19)) (.tup (.cons (.v 3) .nil))) .nil))) (.p2 .slL (.v 5) (.p2 .add (.v 19) (.k (.int 1))))))))
def t_law_6 : S := (.for_ (.nm 5) (.val (.v 12))
    (.cons t_law_7 (.cons t_law_8 .nil)))
def t_law_5 : S := (.for_ (.nm 3) (.val (.v 11))
    (.cons (.asg (.nm 13) (.lst .nil)) (.cons t_law_6 (.cons (.asg (.nm 12) (.v 13)) .nil))))
def t_law_11 : S := (.asg (.nm 16) (.lc (.nm 6) (.val (.call 14 (.cons (.v 15) .nil))) (.cons (.call 13 (.cons (.v 9) (.cons (.v 10) (.cons (.v 6) .nil)))) .nil) [6] (.v 6)))
def t_law_12 : S := (.asg (.nm 14) (.ite (.p2 .ne (.v 16) (.lst .nil)) (.p2 .add (.v 14) (.lst (.cons (.p1 .min1 (.v 16)) .nil))) (.p2 .add (.v 14) (.lst (.cons (.k .none) .nil)))))
def t_law_10 : S := (.for_ (.nm 15) (.val (.v 5))
    (.cons t_law_11 (.cons t_law_12 .nil)))
def t_law_14 : S := (.app 4 (.tup (.cons (.p1 .len (.v 14)) (.cons (.p1 .tuple (.p1 .sorted (.v 14))) .nil))))
def t_law_13 : S := (.ife (.p2 .nin (.k .none) (.v 14))
    (.cons t_law_14 .nil)
    .nil)
def t_law_9 : S := (.for_ (.nm 5) (.val (.v 12))
    (.cons (.asg (.nm 14) (.lst .nil)) (.cons t_law_10 (.cons t_law_13 .nil))))
def t_law_15 : S := (.ife (.not_ (.call 11 (.cons (.call 8 (.cons (.v 9) (.cons (.v 10) .nil))) (.cons (.ite (.p2 .ne (.v 4) (.lst .nil)) (.p2 .ix (.p1 .min1 (.v 4)) (.k (.int 1))) (.k .none)) .nil))))
    (.cons (.ret (.k (.bool false))) .nil)
    .nil)
def t_law_16 : S := (.asg (.nm 6) (.tup (.cons (.k (.str "ca")) (.cons (.k (.int 3)) (.cons (.k (.int 4)) (.cons (.k (.int 2)) .nil))))))
def t_law_17 : S := (.asg (.nm 7) (.lst (.cons (.k .none) (.cons (.tup .nil) (.cons (.lst (.cons (.v 6) .nil)) (.cons (.tup (.cons (.p2 .slH (.v 6) (.k (.int 3))) .nil)) (.cons (.tup (.cons (.p2 .add (.tup (.cons (.k (.str "Ca")) .nil)) (.p2 .slL (.v 6) (.k (.int 1)))) .nil)) (.cons (.tup (.cons (.tup (.cons (.k (.str "ca")) (.cons (.k (.int 0)) (.cons (.k (.int 4)) (.cons (.k (.int 2)) .nil))))) .nil)) (.cons (.tup (.cons (.tup (.cons (.k (.str "ca")) (.cons (.k (.int 100)) (.cons (.k (.int 4)) (.cons (.k (.int 2)) .nil))))) .nil)) (.cons (.tup (.cons (.tup (.cons (.k (.str "ca")) (.cons (.k (.int 3)) (.cons (.k (.int 0)) (.cons (.k (.int 2)) .nil))))) .nil)) (.cons (.tup (.cons (.tup (.cons (.k (.str "ca")) (.cons (.k (.int 3)) (.cons (.k (.int 4)) (.cons (.k (.int 0)) .nil))))) .nil)) (.cons (.tup (.cons (.tup (.cons (.k (.str "ca")) (.cons (.k (.int 3)) (.cons (.k (.int 4)) (.cons (.k (.int 10)) .nil))))) .nil)) (.cons (.tup (.cons (.v 6) (.cons (.v 6) .nil))) (.cons (.tup (.cons (.tup (.cons (.k (.str "cb")) (.cons (.k (.int 3)) (.cons (.k (.int 4)) (.cons (.k (.int 2)) .nil))))) (.cons (.v 6) .nil))) (.cons (.p1 .tuple (.lc (.nm 19) (.rng1 (.k (.int 8))) .nil [19] (.tup (.cons (.p2 .add (.k (.str "c")) (.p2 .ix (.k (.str "abcdefgh")) (.v 19))) (.cons (.k (.int 1)) (.cons (.k (.int 1)) (.cons (.k (.int 1)) .nil))))))) .nil)))))))))))))))
def t_law_18 : S := (.asg (.nm 8) (.lst (.cons (.k .none) (.cons (.tup .nil) (.cons (.tup (.cons (.k (.int 3)) .nil)) (.cons (.tup (.cons (.k (.int 0)) (.cons (.k (.int 5)) .nil))) (.cons (.tup (.cons (.k (.int 5)) (.cons (.k (.int 0)) .nil))) (.cons (.tup (.cons (.k (.int 1000)) (.cons (.k (.int 5)) .nil))) (.cons (.lst (.cons (.k (.int 5)) (.cons (.k (.int 5)) .nil))) (.cons (.tup (.cons (.k (.int 5)) (.cons (.k (.int 5)) (.cons (.k (.int 5)) .nil)))) (.cons (.tup (.cons (.k (.bool true)) (.cons (.k (.int 5)) .nil))) .nil)))))))))))
def t_law_19 : S := (.ret (.and_ (.p2 .is_ (.call 3 (.cons (.p2 .ix (.v 7) (.nxt 1 (.k (.int 13)))) .nil)) (.k (.bool false))) (.p2 .is_ (.call 4 (.cons (.p2 .ix (.v 8) (.nxt 1 (.k (.int 9)))) .nil)) (.k (.bool false)))))
def b_law : Ss := (.cons t_law_0 (.cons t_law_1 (.cons t_law_2 (.cons t_law_3 (.cons t_law_4 (.cons t_law_5 (.cons (.asg (.nm 4) (.lst .nil)) (.cons t_law_9 (.cons t_law_15 (.cons t_law_16 (.cons t_law_17 (.cons t_law_18 (.cons t_law_19 .nil)))))))))))))
theorem ck_law : chkB c_law (fnScope s_law) (fun _ => true) b_law (fnBody s_law).tail = true := by decide +kernel
end K42

namespace K42
open PySem Z
def cnm : Fin 4 → Str
  | 0 => "ca"
  | 1 => "cb"
  | 2 => "cc"
  | 3 => "cd"
abbrev Nm := Fin 4
abbrev nD (i : Nm) : PyData := .str (cnm i)
def ltN (a b : Nm) : Bool := decide (a < b)
theorem ordN : OrdE nD ltN := ordComap ordS cnm (by decide +kernel) ltN (by decide +kernel)
theorem dep_n (a : Nm) : (nD a).depth ≤ 30 := by simp [PyData.depth]
theorem dep_i (a : Int) : (PyData.int a).depth ≤ 30 := by simp [PyData.depth]
structure Cr where
  nm : Nm
  l : Int
  w : Int
  s : Int
deriving DecidableEq
abbrev crD (c : Cr) : PyData := .tuple [nD c.nm, .int c.l, .int c.w, .int c.s]
abbrev csD (cs : List Cr) : PyData := .tuple (cs.map crD)
abbrev Row := List Nm
abbrev Gr := List Row
abbrev rowD (r : Row) : PyData := .tuple (r.map nD)
abbrev grD (g : Gr) : PyData := .tuple (g.map rowD)
abbrev U4 : List Nm := [0, 1, 2, 3]
structure GC (cs : List Cr) : Prop where
  n : 1 ≤ cs.length ∧ cs.length ≤ 4
  nms : cs.map (fun c => c.nm) = U4.take cs.length
  b : ∀ c ∈ cs, 1 ≤ c.l ∧ c.l ≤ 6 ∧ 1 ≤ c.w ∧ c.w ≤ 6 ∧ 1 ≤ c.s ∧ c.s ≤ 3
abbrev Wg := Int × Int
def room (cs : List Cr) (wg : Wg) (ns : Row) : Bool := decide (((cs.filter fun c => decide (c.nm ∈ ns)).map fun c => c.l).sum ≤ wg.1) && decide (((cs.filter fun c => decide (c.nm ∈ ns)).map fun c => c.w).sum ≤ wg.2)
abbrev Kx' := Int × Nm
abbrev kxD (q : Kx') : PyData := .tuple [.int q.1, nD q.2]
def ltKx : Kx' → Kx' → Bool := lt2 ltI ltN
theorem ordKx : OrdE kxD ltKx := ord2 ordI ordN dep_i dep_n
def lrow (cs : List Cr) (ns : Row) : Row := (sortB ltKx ((cs.filter fun c => decide (c.nm ∈ ns)).map fun c => (-c.s, c.nm))).map fun q => q.2
def ltR : Row → Row → Bool := ltT ltN
theorem ordR : OrdE rowD ltR := ordT ordN dep_n
def insA (n : Nm) (r : Row) : List Row := (List.range (r.length + 1)).map fun k => r.take k ++ [n] ++ r.drop k
def ords (ns : Row) : List Row := ns.foldl (fun F n => F.flatMap (insA n)) [[]]
def nxt (n : Nm) (g : Gr) : List Gr := (g ++ [[n]]) :: (List.range g.length).map fun k => g.take k ++ [g.getD k [] ++ [n]] ++ g.drop (k + 1)
def parts (ns : Row) : List Gr := ns.foldl (fun P n => P.flatMap (nxt n)) [[]]
theorem dep_row (r : Row) : (rowD r).depth ≤ 30 := by
  have : ∀ r : Row, PyData.depthAll (r.map nD) ≤ 1 := by
    intro r
    induction r with
    | nil => simp [PyData.depthAll]
    | cons x r ih => simp [PyData.depthAll, PyData.depth]; omega
  have := this r
  simp only [PyData.depth]
  omega
theorem dep_gr (g : Gr) : (grD g).depth ≤ 30 := by
  have h1 : ∀ r : Row, PyData.depthAll (r.map nD) ≤ 1 := by
    intro r
    induction r with
    | nil => simp [PyData.depthAll]
    | cons x r ih => simp [PyData.depthAll, PyData.depth]; omega
  have : ∀ g : Gr, PyData.depthAll (g.map rowD) ≤ 2 := by
    intro g
    induction g with
    | nil => simp [PyData.depthAll]
    | cons x g ih =>
      have := h1 x
      simp only [List.map_cons, PyData.depthAll, PyData.depth]
      omega
  have := this g
  simp only [PyData.depth]
  omega
abbrev Rk := Int × Gr
abbrev rkD (q : Rk) : PyData := .tuple [.int q.1, grD q.2]
def ltRk : Rk → Rk → Bool := lt2 ltI (ltT ltR)
theorem ordRk : OrdE rkD ltRk := ord2 ordI (ordT ordR dep_row) dep_i dep_gr
def rank (cs : List Cr) (g : Gr) : Rk := ((g.length : Int), sortB ltR (g.map (lrow cs)))
def valid (cs : List Cr) (wg : Wg) (g : Gr) : Bool := g.all (room cs wg)
def ranks (cs : List Cr) (wg : Wg) (gs : List Gr) : List Rk := (gs.filter (valid cs wg)).map (rank cs)
def allR (cs : List Cr) (wg : Wg) : List Rk := ranks cs wg (parts (cs.map fun c => c.nm))
def loadF (cs : List Cr) (wg : Wg) : Option Gr := (minO ltRk (allR cs wg)).map fun q => q.2
theorem snoc_ind {α : Type} {P : List α → Prop} (h0 : P []) (h1 : ∀ o k, P o → P (o ++ [k])) (o : List α) : P o := by
  have : ∀ r : List α, P r.reverse := by
    intro r
    induction r with
    | nil => exact h0
    | cons k r ih => rw [List.reverse_cons]; exact h1 _ _ ih
  have := this o.reverse
  rwa [List.reverse_reverse] at this
/-! orders -/
theorem mem_insA {n : Nm} {r o : Row} : o ∈ insA n r ↔ ∃ s t, r = s ++ t ∧ o = s ++ n :: t := by
  unfold insA
  rw [List.mem_map]
  constructor
  · rintro ⟨k, hk, rfl⟩
    exact ⟨r.take k, r.drop k, (List.take_append_drop k r).symm, by simp⟩
  · rintro ⟨s, t, rfl, rfl⟩
    exact ⟨s.length, List.mem_range.2 (by simp; omega), by simp⟩
theorem mem_ords (ns : Row) : ∀ o, o ∈ ords ns ↔ o.Perm ns := by
  refine snoc_ind (P := fun ns => ∀ o, o ∈ ords ns ↔ o.Perm ns) (fun o => ?_) (fun ns n ih o => ?_) ns
  · show o ∈ [[]] ↔ _
    rw [List.mem_singleton, List.perm_nil]
  · have e : ords (ns ++ [n]) = (ords ns).flatMap (insA n) := by unfold ords; rw [List.foldl_append]; rfl
    rw [e, List.mem_flatMap]
    constructor
    · rintro ⟨r, hr, ho⟩
      obtain ⟨s, t, rfl, rfl⟩ := mem_insA.1 ho
      have h1 := (ih _).1 hr
      exact (List.perm_middle.trans (h1.cons n)).trans (List.perm_append_singleton n ns).symm
    · intro h
      have hn : n ∈ o := h.mem_iff.2 (by simp)
      obtain ⟨s, t, rfl⟩ := List.append_of_mem hn
      have h2 : (n :: (s ++ t)).Perm (n :: ns) := (List.perm_middle.symm.trans h).trans (List.perm_append_singleton n ns)
      exact ⟨s ++ t, (ih _).2 (List.perm_cons n |>.1 h2), mem_insA.2 ⟨s, t, rfl, rfl⟩⟩
theorem ltT_cons {α : Type} [DecidableEq α] {lt : α → α → Bool} (a b : α) (x y : List α) : ltT lt (a :: x) (b :: y) = if a = b then ltT lt x y else lt a b := by
  rw [ltT]
  try (by_cases c : a = b <;> simp [c])
/-- the order by stops and names is the least one -/
theorem lex_min {st : Nm → Int} : ∀ (l l' : Row), (l.Pairwise fun a b => ltKx (-st a, a) (-st b, b) = true) → l'.Perm l → (l'.Pairwise fun a b => st b ≤ st a) → leB ltR l l' = true
  | [], l', _, hp, _ => by
    have := List.perm_nil.1 hp
    subst this
    unfold leB
    rw [ordR.irr]
    rfl
  | a :: l, [], _, hp, _ => by
    have := hp.length_eq
    simp at this
  | a :: l, b :: l', h, hp, hq => by
    obtain ⟨h1, h2⟩ := List.pairwise_cons.1 h
    obtain ⟨q1, q2⟩ := List.pairwise_cons.1 hq
    unfold leB ltR
    rw [ltT_cons]
    by_cases c : a = b
    · subst c
      rw [if_pos rfl]
      exact lex_min l l' h2 (List.perm_cons a |>.1 hp) q2
    · rw [if_neg (fun e => c e.symm)]
      have ha : a ∈ l' := by
        have := hp.mem_iff.2 (List.mem_cons_self (a := a) (l := l))
        rcases List.mem_cons.1 this with e | e
        · exact absurd e c
        · exact e
      have hb : b ∈ l := by
        have := hp.mem_iff.1 (List.mem_cons_self (a := b) (l := l'))
        rcases List.mem_cons.1 this with e | e
        · exact absurd e.symm c
        · exact e
      have e1 : st a ≤ st b := q1 a ha
      have e2 := h1 b hb
      unfold ltKx lt2 at e2
      simp only [ltN, ltI] at e2 ⊢
      have : a < b := by
        by_cases e3 : -st a = -st b
        · simpa [e3] using e2
        · have e4 : -st a < -st b := by simpa [e3] using e2
          omega
      have : ¬ b < a := fun h => Nat.lt_asymm this h
      simp [this]
end K42

namespace K42
open PySem Z
/-! crates by name -/
def own (cs : List Cr) (k : Nm) : Cr := cs.getD k.val ⟨0, 0, 0, 0⟩
theorem nm_at {cs : List Cr} (G : GC cs) {i : Nat} (h : i < cs.length) : (cs[i]'h).nm = (⟨i, by have := G.n.2; omega⟩ : Nm) := by
  have e := congrArg (fun l => l[i]?) G.nms
  have hn := G.n.2
  simp only [List.getElem?_map, List.getElem?_eq_getElem h, Option.map_some] at e
  rw [List.getElem?_take, if_pos h] at e
  have : i = 0 ∨ i = 1 ∨ i = 2 ∨ i = 3 := by omega
  rcases this with rfl | rfl | rfl | rfl <;> exact Option.some.inj e
theorem own_self {cs : List Cr} (G : GC cs) {c : Cr} (h : c ∈ cs) : own cs c.nm = c := by
  obtain ⟨i, hi, rfl⟩ := List.getElem_of_mem h
  have e := nm_at G hi
  unfold own
  rw [e]
  simp [hi]
theorem own_in {cs : List Cr} (G : GC cs) {k : Nm} (h : k.val < cs.length) : own cs k ∈ cs ∧ (own cs k).nm = k := by
  unfold own
  rw [List.getD_eq_getElem?_getD, List.getElem?_eq_getElem h, Option.getD_some]
  exact ⟨List.getElem_mem h, nm_at G h⟩
theorem nm_in {cs : List Cr} (G : GC cs) {k : Nm} : k ∈ cs.map (fun c => c.nm) ↔ k.val < cs.length := by
  constructor
  · intro h
    obtain ⟨c, hc, rfl⟩ := List.mem_map.1 h
    obtain ⟨i, hi, rfl⟩ := List.getElem_of_mem hc
    rw [nm_at G hi]
    exact hi
  · intro h
    exact List.mem_map.2 ⟨_, (own_in G h).1, (own_in G h).2⟩
theorem nms_nd {cs : List Cr} (G : GC cs) : (cs.map fun c => c.nm).Nodup := by
  rw [G.nms]
  exact List.Nodup.sublist (List.take_sublist _ _) (by decide)
/-- the crates of some names are the names' own -/
theorem there_perm {cs : List Cr} (G : GC cs) {ns : Row} (nd : ns.Nodup) (hn : ∀ k ∈ ns, k.val < cs.length) : ((cs.filter fun c => decide (c.nm ∈ ns)).map fun c => c.nm).Perm ns := by
  refine (List.perm_ext_iff_of_nodup ?_ nd).2 fun a => ?_
  · exact List.Nodup.sublist (List.Sublist.map _ List.filter_sublist) (nms_nd G)
  · rw [List.mem_map]
    constructor
    · rintro ⟨c, hc, rfl⟩
      simpa using (List.mem_filter.1 hc).2
    · intro ha
      obtain ⟨h1, h2⟩ := own_in G (hn a ha)
      exact ⟨own cs a, List.mem_filter.2 ⟨h1, by rw [h2]; simpa using ha⟩, h2⟩
theorem perm_sum {xs ys : List Int} (h : xs.Perm ys) : xs.sum = ys.sum := by
  induction h with
  | nil => rfl
  | cons x _ ih => rw [List.sum_cons, List.sum_cons, ih]
  | swap x y l => simp only [List.sum_cons]; omega
  | trans _ _ ih1 ih2 => exact ih1.trans ih2
theorem there_sum {cs : List Cr} (G : GC cs) (f : Cr → Int) {ns : Row} (nd : ns.Nodup) (hn : ∀ k ∈ ns, k.val < cs.length) : ((cs.filter fun c => decide (c.nm ∈ ns)).map f).sum = (ns.map fun k => f (own cs k)).sum := by
  have h := (there_perm G nd hn).map fun k => f (own cs k)
  rw [← perm_sum h, List.map_map]
  congr 1
  refine List.map_congr_left fun c hc => ?_
  show f c = f (own cs c.nm)
  rw [own_self G (List.mem_filter.1 hc).1]
/-- the law's question: can the row be driven -/
def pairsOk (cs : List Cr) (r : Row) : Bool := (List.range r.length).all fun k => (List.range k).all fun j => !decide ((own cs (r.getD j 0)).s < (own cs (r.getD k 0)).s)
def drive (cs : List Cr) (wg : Wg) (r : Row) : Bool := pairsOk cs r && (decide ((r.map fun k => (own cs k).l).sum ≤ wg.1) && decide ((r.map fun k => (own cs k).w).sum ≤ wg.2))
theorem pairs_pw {cs : List Cr} {r : Row} : pairsOk cs r = true ↔ r.Pairwise fun a b => (own cs b).s ≤ (own cs a).s := by
  rw [List.pairwise_iff_getElem]
  unfold pairsOk
  simp only [List.all_eq_true, List.mem_range]
  constructor
  · intro h i j hi hj hij
    have := h j hj i hij
    rw [List.getD_eq_getElem?_getD, List.getElem?_eq_getElem hi, List.getD_eq_getElem?_getD, List.getElem?_eq_getElem hj] at this
    simp at this
    exact this
  · intro h k hk j hj
    have := h j k (by omega) hk hj
    rw [List.getD_eq_getElem?_getD, List.getElem?_eq_getElem (show j < r.length by omega), List.getD_eq_getElem?_getD, List.getElem?_eq_getElem hk]
    simp
    exact this
theorem drive_room {cs : List Cr} (G : GC cs) (wg : Wg) {r : Row} (nd : r.Nodup) (hn : ∀ k ∈ r, k.val < cs.length) : drive cs wg r = (pairsOk cs r && room cs wg r) := by
  unfold drive room
  rw [there_sum G (fun c => c.l) nd hn, there_sum G (fun c => c.w) nd hn]
theorem room_perm {cs : List Cr} {wg : Wg} {r r' : Row} (h : r.Perm r') : room cs wg r = room cs wg r' := by
  unfold room
  have e : (fun c : Cr => decide (c.nm ∈ r)) = fun c => decide (c.nm ∈ r') := by
    funext c
    simp [h.mem_iff]
  rw [e]
theorem sum_sub {cs : List Cr} (f : Cr → Int) (h : ∀ c ∈ cs, 0 ≤ f c) {p q : Cr → Bool} (hpq : ∀ c, p c = true → q c = true) : ((cs.filter p).map f).sum ≤ ((cs.filter q).map f).sum := by
  induction cs with
  | nil => exact Int.le_refl _
  | cons c cs ih =>
    have ih := ih fun c hc => h c (.tail _ hc)
    have hc := h c (.head _)
    by_cases c1 : p c = true
    · rw [List.filter_cons_of_pos c1, List.filter_cons_of_pos (hpq c c1), List.map_cons, List.map_cons, List.sum_cons, List.sum_cons]
      omega
    · rw [List.filter_cons_of_neg c1]
      by_cases c2 : q c = true
      · rw [List.filter_cons_of_pos c2, List.map_cons, List.sum_cons]
        omega
      · rw [List.filter_cons_of_neg c2]
        exact ih
theorem room_sub {cs : List Cr} (G : GC cs) {wg : Wg} {r r' : Row} (h : ∀ k ∈ r, k ∈ r') (hr : room cs wg r' = true) : room cs wg r = true := by
  unfold room at hr ⊢
  simp only [Bool.and_eq_true, decide_eq_true_eq] at hr ⊢
  have h1 := sum_sub (cs := cs) (fun c => c.l) (fun c hc => by have := G.b c hc; show 0 ≤ c.l; omega) (p := fun c => decide (c.nm ∈ r)) (q := fun c => decide (c.nm ∈ r')) (fun c hc => by simp at hc ⊢; exact h _ hc)
  have h2 := sum_sub (cs := cs) (fun c => c.w) (fun c hc => by have := G.b c hc; show 0 ≤ c.w; omega) (p := fun c => decide (c.nm ∈ r)) (q := fun c => decide (c.nm ∈ r')) (fun c hc => by simp at hc ⊢; exact h _ hc)
  exact ⟨by omega, by omega⟩
/-- the least good order of a group -/
theorem least_good {cs : List Cr} (G : GC cs) (wg : Wg) {r : Row} (nd : r.Nodup) (hn : ∀ k ∈ r, k.val < cs.length) : minO ltR ((ords r).filter (drive cs wg)) = if room cs wg r = true then some (lrow cs r) else none := by
  have hd : ∀ o ∈ ords r, drive cs wg o = (pairsOk cs o && room cs wg r) := fun o ho => by
    have hp := (mem_ords r o).1 ho
    rw [drive_room G wg (hp.nodup_iff.2 nd) (fun k hk => hn k (hp.mem_iff.1 hk)), room_perm hp]
  by_cases c : room cs wg r = true
  · rw [if_pos c, minO_iff ordR]
    have hk : ((cs.filter fun c => decide (c.nm ∈ r)).map fun c => (-c.s, c.nm)).Nodup := by
      have h1 : ((cs.filter fun c => decide (c.nm ∈ r)).map fun c => c.nm).Nodup := (there_perm G nd hn).nodup_iff.2 nd
      have h2 : ((((cs.filter fun c => decide (c.nm ∈ r)).map fun c => (-c.s, c.nm)).map fun q => q.2)).Nodup := by rw [List.map_map]; exact h1
      have h3 := List.pairwise_map.1 h2
      exact h3.imp fun {a b} h e => h (by rw [e])
    have ha := sort_asc ordKx hk
    have hp : (sortB ltKx ((cs.filter fun c => decide (c.nm ∈ r)).map fun c => (-c.s, c.nm))).Perm _ := sort_perm _ _
    have key : ∀ q ∈ sortB ltKx ((cs.filter fun c => decide (c.nm ∈ r)).map fun c => (-c.s, c.nm)), q = (-(own cs q.2).s, q.2) := by
      intro q hq
      obtain ⟨c, hc, rfl⟩ := List.mem_map.1 (hp.mem_iff.1 hq)
      rw [own_self G (List.mem_filter.1 hc).1]
    have hl : (lrow cs r).Pairwise fun a b => ltKx (-(own cs a).s, a) (-(own cs b).s, b) = true := by
      unfold lrow
      rw [List.pairwise_map]
      refine List.Pairwise.imp_of_mem (fun {a b} h1 h2 h => ?_) ha
      rw [← key a h1, ← key b h2]
      exact h
    have hpr : (lrow cs r).Perm r := by
      unfold lrow
      refine (hp.map _).trans ?_
      rw [List.map_map]
      exact there_perm G nd hn
    refine ⟨List.mem_filter.2 ⟨(mem_ords r _).2 hpr, ?_⟩, fun o ho => ?_⟩
    · rw [hd _ ((mem_ords r _).2 hpr), c, Bool.and_true, pairs_pw]
      refine hl.imp fun {a b} h => ?_
      unfold ltKx lt2 at h
      simp only [ltI] at h
      by_cases e : -(own cs a).s = -(own cs b).s
      · omega
      · have : -(own cs a).s < -(own cs b).s := by simpa [e] using h
        omega
    · obtain ⟨h1, h2⟩ := List.mem_filter.1 ho
      rw [hd o h1, c, Bool.and_true, pairs_pw] at h2
      have hpo := (mem_ords r o).1 h1
      exact lex_min (st := fun k => (own cs k).s) _ _ hl (hpo.trans hpr.symm) h2
  · rw [if_neg c, minO_none]
    rw [List.filter_eq_nil_iff]
    intro o ho
    rw [hd o ho]
    simp [c]
end K42

namespace K42
open PySem Z
/-! ways to part, one name after the other -/
def cmpF : Row → Gr → List Gr
  | [], g => [g]
  | n :: ns, g => (nxt n g).flatMap (cmpF ns)
theorem parts_cmp (ns : Row) : ∀ P : List Gr, ns.foldl (fun P n => P.flatMap (nxt n)) P = P.flatMap (cmpF ns) := by
  induction ns with
  | nil => intro P; simp [cmpF]
  | cons n ns ih =>
    intro P
    rw [List.foldl_cons, ih, List.flatMap_assoc]
    rfl
theorem parts_eq (ns : Row) : parts ns = cmpF ns [[]].flatten := by
  show _ = cmpF ns []
  unfold parts
  rw [parts_cmp]
  simp
/-- the groups only grow -/
theorem nxt_grow {n : Nm} {g g' : Gr} (h : g' ∈ nxt n g) : g.length ≤ g'.length ∧ ∀ r ∈ g, ∃ r' ∈ g', ∀ k ∈ r, k ∈ r' := by
  unfold nxt at h
  rcases List.mem_cons.1 h with rfl | h
  · exact ⟨by simp, fun r hr => ⟨r, List.mem_append_left _ hr, fun k hk => hk⟩⟩
  · obtain ⟨i, hi, rfl⟩ := List.mem_map.1 h
    have hi := List.mem_range.1 hi
    refine ⟨by simp; omega, fun r hr => ?_⟩
    obtain ⟨j, hj, rfl⟩ := List.getElem_of_mem hr
    by_cases c : j = i
    · subst c
      refine ⟨g.getD j [] ++ [n], by simp, fun k hk => ?_⟩
      rw [List.getD_eq_getElem?_getD, List.getElem?_eq_getElem hj, Option.getD_some]
      exact List.mem_append_left _ hk
    · refine ⟨g[j], ?_, fun k hk => hk⟩
      by_cases c2 : j < i
      · refine List.mem_append_left _ (List.mem_append_left _ ?_)
        exact List.mem_take_iff_getElem.2 ⟨j, by omega, rfl⟩
      · refine List.mem_append_right _ ?_
        rw [List.mem_drop_iff_getElem]
        refine ⟨j - (i + 1), by omega, ?_⟩
        congr 1
        omega
theorem cmp_grow : ∀ {ns : Row} {g g' : Gr}, g' ∈ cmpF ns g → g.length ≤ g'.length ∧ ∀ r ∈ g, ∃ r' ∈ g', ∀ k ∈ r, k ∈ r'
  | [], g, g', h => by
    rw [cmpF, List.mem_singleton] at h
    subst h
    exact ⟨Nat.le_refl _, fun r hr => ⟨r, hr, fun k hk => hk⟩⟩
  | n :: ns, g, g', h => by
    rw [cmpF] at h
    obtain ⟨g1, h1, h2⟩ := List.mem_flatMap.1 h
    obtain ⟨a1, a2⟩ := nxt_grow h1
    obtain ⟨b1, b2⟩ := cmp_grow h2
    refine ⟨Nat.le_trans a1 b1, fun r hr => ?_⟩
    obtain ⟨r1, c1, c2⟩ := a2 r hr
    obtain ⟨r2, d1, d2⟩ := b2 r1 c1
    exact ⟨r2, d1, fun k hk => d2 k (c2 k hk)⟩
theorem cmp_valid {cs : List Cr} (G : GC cs) {wg : Wg} {ns : Row} {g g' : Gr} (h : g' ∈ cmpF ns g) (hv : valid cs wg g' = true) : valid cs wg g = true := by
  unfold valid at hv ⊢
  rw [List.all_eq_true] at hv ⊢
  intro r hr
  obtain ⟨r', h1, h2⟩ := (cmp_grow h).2 r hr
  exact room_sub G h2 (hv r' h1)
def szF (g : Gr) : Nat := (g.map List.length).sum
theorem nxt_sz {n : Nm} {g g' : Gr} (h : g' ∈ nxt n g) : szF g' = szF g + 1 := by
  unfold nxt at h
  rcases List.mem_cons.1 h with rfl | h
  · simp [szF]
  · obtain ⟨i, hi, rfl⟩ := List.mem_map.1 h
    have hi := List.mem_range.1 hi
    have e : g = g.take i ++ g.getD i [] :: g.drop (i + 1) := by
      rw [List.getD_eq_getElem?_getD, List.getElem?_eq_getElem hi, Option.getD_some, ← List.drop_eq_getElem_cons hi, List.take_append_drop]
    have e2 : szF g = szF (g.take i) + ((g.getD i []).length + szF (g.drop (i + 1))) := by
      conv => lhs; rw [e]
      simp [szF]
    rw [e2]
    simp only [szF, List.map_append, List.sum_append, List.map_cons, List.map_nil, List.sum_cons, List.sum_nil, List.length_append, List.length_cons, List.length_nil]
    omega
/-- what is put onto the stack -/
def kids (cs : List Cr) (wg : Wg) (n : Nm) (g : Gr) : List Gr := (g ++ [[n]]) :: (((List.range g.length).filter fun k => room cs wg (g.getD k [] ++ [n])).map fun k => g.take k ++ [g.getD k [] ++ [n]] ++ g.drop (k + 1))
theorem kids_sub {cs : List Cr} {wg : Wg} {n : Nm} {g g' : Gr} (h : g' ∈ kids cs wg n g) : g' ∈ nxt n g := by
  unfold kids at h
  unfold nxt
  rcases List.mem_cons.1 h with rfl | h
  · exact .head _
  · obtain ⟨k, hk, rfl⟩ := List.mem_map.1 h
    exact .tail _ (List.mem_map.2 ⟨k, (List.mem_filter.1 hk).1, rfl⟩)
theorem kids_valid {cs : List Cr} {wg : Wg} {n : Nm} {g g' : Gr} (hv : valid cs wg g = true) (h1 : room cs wg [n] = true) (h : g' ∈ nxt n g) : g' ∈ kids cs wg n g ↔ valid cs wg g' = true := by
  unfold valid at hv
  have hr := List.all_eq_true.1 hv
  constructor
  · intro h
    unfold kids at h
    unfold valid
    rw [List.all_eq_true]
    rcases List.mem_cons.1 h with rfl | h
    · intro r hr'
      rcases List.mem_append.1 hr' with hr' | hr'
      · exact hr r hr'
      · rw [List.mem_singleton.1 hr']; exact h1
    · obtain ⟨k, hk, rfl⟩ := List.mem_map.1 h
      intro r hr'
      rcases List.mem_append.1 hr' with hr' | hr'
      · rcases List.mem_append.1 hr' with hr' | hr'
        · exact hr r (List.mem_of_mem_take hr')
        · rw [List.mem_singleton.1 hr']; exact (List.mem_filter.1 hk).2
      · exact hr r (List.mem_of_mem_drop hr')
  · intro hv'
    unfold nxt at h
    unfold kids
    rcases List.mem_cons.1 h with rfl | h
    · exact .head _
    · obtain ⟨k, hk, rfl⟩ := List.mem_map.1 h
      refine .tail _ (List.mem_map.2 ⟨k, List.mem_filter.2 ⟨hk, ?_⟩, rfl⟩)
      unfold valid at hv'
      exact List.all_eq_true.1 hv' _ (by simp)
/-! the search -/
structure WI (cs : List Cr) (wg : Wg) (S : List Gr) (best : Option Rk) : Prop where
  st : ∀ g ∈ S, valid cs wg g = true ∧ szF g ≤ cs.length ∧ ∀ g' ∈ cmpF ((cs.map fun c => c.nm).drop (szF g)) g, g' ∈ parts (cs.map fun c => c.nm)
  b : ∀ r, best = some r → r ∈ allR cs wg
  all : ∀ r ∈ allR cs wg, (∃ b, best = some b ∧ leB ltRk b r = true) ∨ ∃ g ∈ S, r ∈ ranks cs wg (cmpF ((cs.map fun c => c.nm).drop (szF g)) g)
theorem WI.start (cs : List Cr) (wg : Wg) : WI cs wg [[]] none where
  st g hg := by
    rw [List.mem_singleton.1 hg]
    refine ⟨rfl, Nat.zero_le _, fun g' h => ?_⟩
    rw [parts_eq]
    exact h
  b r h := by cases h
  all r hr := by
    refine .inr ⟨[], .head _, ?_⟩
    unfold allR at hr
    rw [parts_eq] at hr
    exact hr
theorem WI.done {cs : List Cr} {wg : Wg} {best : Option Rk} (h : WI cs wg [] best) : best = minO ltRk (allR cs wg) := by
  cases hb : best with
  | none =>
    symm
    rw [minO_none]
    cases ha : allR cs wg with
    | nil => rfl
    | cons r rs =>
      rcases h.all r (by rw [ha]; exact .head _) with ⟨b, e, _⟩ | ⟨g, hg, _⟩
      · rw [hb] at e; cases e
      · cases hg
  | some b =>
    symm
    rw [minO_iff ordRk]
    refine ⟨h.b b hb, fun r hr => ?_⟩
    rcases h.all r hr with ⟨b', e, hl⟩ | ⟨g, hg, _⟩
    · rw [hb] at e; cases e; exact hl
    · cases hg
theorem rank_len {cs : List Cr} {wg : Wg} {ns : Row} {g : Gr} {r : Rk} (h : r ∈ ranks cs wg (cmpF ns g)) : (g.length : Int) ≤ r.1 := by
  unfold ranks at h
  obtain ⟨g', hg, rfl⟩ := List.mem_map.1 h
  have := (cmp_grow (List.mem_filter.1 hg).1).1
  show (g.length : Int) ≤ (g'.length : Int)
  omega
theorem le_first {a b : Rk} (h : a.1 < b.1) : leB ltRk a b = true := by
  unfold leB ltRk lt2
  have h1 : ¬ b.1 = a.1 := by omega
  have h2 : ¬ b.1 < a.1 := by omega
  simp [h1, ltI, h2]
/-- a group that is too long is left -/
theorem WI.cut {cs : List Cr} {wg : Wg} {S : List Gr} {g : Gr} {b : Rk} (h : WI cs wg (S ++ [g]) (some b)) (hb : b.1 < g.length) : WI cs wg S (some b) where
  st g' hg' := h.st g' (List.mem_append_left _ hg')
  b := h.b
  all r hr := by
    rcases h.all r hr with h1 | ⟨g', hg', h2⟩
    · exact .inl h1
    · rcases List.mem_append.1 hg' with hg' | hg'
      · exact .inr ⟨g', hg', h2⟩
      · rw [List.mem_singleton.1 hg'] at h2
        have := rank_len h2
        exact .inl ⟨b, rfl, le_first (by omega)⟩
def better (best : Option Rk) (r : Rk) : Rk := match best with
  | none => r
  | some b => if ltRk r b = true then r else b
/-- all are placed -/
theorem WI.full {cs : List Cr} {wg : Wg} {S : List Gr} {g : Gr} {best : Option Rk} (h : WI cs wg (S ++ [g]) best) (hz : szF g = cs.length) : WI cs wg S (some (better best (rank cs g))) := by
  obtain ⟨v, _, hp⟩ := h.st g (by simp)
  have e : (cs.map fun c => c.nm).drop (szF g) = [] := by rw [hz, List.drop_eq_nil_of_le (by simp)]
  rw [e] at hp
  have hin : rank cs g ∈ allR cs wg := List.mem_map.2 ⟨g, List.mem_filter.2 ⟨hp g (.head _), v⟩, rfl⟩
  have hb1 : leB ltRk (better best (rank cs g)) (rank cs g) = true := by
    unfold better
    cases best with
    | none => unfold leB; rw [ordRk.irr]; rfl
    | some b =>
      by_cases c : ltRk (rank cs g) b = true
      · simp only [c, if_true]; unfold leB; rw [ordRk.irr]; rfl
      · simp only [c, if_false]; unfold leB; simpa using c
  have hb2 : ∀ b, best = some b → leB ltRk (better best (rank cs g)) b = true := by
    rintro b rfl
    unfold better
    by_cases c : ltRk (rank cs g) b = true
    · simp only [c, if_true]
      rcases ordRk.total (rank cs g) b with t | t
      · exact t
      · unfold leB at t; rw [c] at t; cases t
    · show leB ltRk (if ltRk (rank cs g) b = true then rank cs g else b) b = true
      rw [if_neg c]; unfold leB; rw [ordRk.irr]; rfl
  refine ⟨fun g' hg' => h.st g' (List.mem_append_left _ hg'), ?_, fun r hr => ?_⟩
  · rintro r hr
    cases hr
    unfold better
    cases hbst : best with
    | none => exact hin
    | some b =>
      show (if ltRk (rank cs g) b = true then rank cs g else b) ∈ allR cs wg
      split
      · exact hin
      · exact h.b b hbst
  · rcases h.all r hr with ⟨b, e1, e2⟩ | ⟨g', hg', h2⟩
    · exact .inl ⟨_, rfl, ordRk.trans (hb2 b e1) e2⟩
    · rcases List.mem_append.1 hg' with hg' | hg'
      · exact .inr ⟨g', hg', h2⟩
      · rw [List.mem_singleton.1 hg', e] at h2
        unfold ranks cmpF at h2
        obtain ⟨g2, h3, rfl⟩ := List.mem_map.1 h2
        have := (List.mem_filter.1 h3).1
        rw [List.mem_singleton.1 this]
        exact .inl ⟨_, rfl, hb1⟩
/-- one more is placed -/
theorem WI.more {cs : List Cr} (G : GC cs) {wg : Wg} {S : List Gr} {g : Gr} {best : Option Rk} (h : WI cs wg (S ++ [g]) best) {n : Nm} (hz : szF g < cs.length) (hn : (cs.map fun c => c.nm)[szF g]? = some n) (h1 : room cs wg [n] = true) : WI cs wg (S ++ kids cs wg n g) best := by
  obtain ⟨v, _, hp⟩ := h.st g (by simp)
  have e : (cs.map fun c => c.nm).drop (szF g) = n :: (cs.map fun c => c.nm).drop (szF g + 1) := by
    obtain ⟨hl, hx⟩ := List.getElem?_eq_some_iff.1 hn
    rw [List.drop_eq_getElem_cons hl, hx]
  rw [e] at hp
  refine ⟨fun g' hg' => ?_, h.b, fun r hr => ?_⟩
  · rcases List.mem_append.1 hg' with hg' | hg'
    · exact h.st g' (List.mem_append_left _ hg')
    · have hs := kids_sub hg'
      have hsz := nxt_sz hs
      refine ⟨(kids_valid v h1 hs).1 hg', by omega, fun g2 h2 => hp g2 ?_⟩
      rw [hsz] at h2
      rw [cmpF]
      exact List.mem_flatMap.2 ⟨g', hs, h2⟩
  · rcases h.all r hr with h2 | ⟨g', hg', h2⟩
    · exact .inl h2
    · rcases List.mem_append.1 hg' with hg' | hg'
      · exact .inr ⟨g', List.mem_append_left _ hg', h2⟩
      · rw [List.mem_singleton.1 hg', e] at h2
        unfold ranks at h2
        obtain ⟨g2, h3, rfl⟩ := List.mem_map.1 h2
        obtain ⟨h4, h5⟩ := List.mem_filter.1 h3
        rw [cmpF] at h4
        obtain ⟨g1, h6, h7⟩ := List.mem_flatMap.1 h4
        have hv1 := cmp_valid G h7 h5
        have hk := (kids_valid v h1 h6).2 hv1
        have hsz := nxt_sz h6
        exact .inr ⟨g1, List.mem_append_right _ hk, by rw [hsz]; exact List.mem_map.2 ⟨g2, List.mem_filter.2 ⟨h7, h5⟩, rfl⟩⟩
end K42

namespace K42
open PySem Z
abbrev wgD (w : Wg) : PyData := .tuple [.int w.1, .int w.2]
def GW (w : Wg) : Prop := 1 ≤ w.1 ∧ w.1 ≤ 999 ∧ 1 ≤ w.2 ∧ w.2 ≤ 999
def optG : Option Gr → PyData
  | none => .none
  | some g => grD g
def T : Tab := fun i => [(1, b_is_integer), (3, b_is_number), (2, b_is_name), (4, b_are_crates), (1, b_is_wagon)][i]?
def inC (cs : List Cr) (r : Row) : Prop := r.Nodup ∧ ∀ k ∈ r, k.val < cs.length
def Ψ : Nat → Spc := fun i =>
  if i = 0 then intS else if i = 1 then numS
  else if i = 3 then fun ds K => ∃ cs, ds = [csD cs] ∧ GC cs ∧ K false (.bool true)
  else if i = 4 then fun ds K => ∃ wg, ds = [wgD wg] ∧ GW wg ∧ K false (.bool true)
  else if i = 5 then fun ds K => ∃ cs wg ns x, ds = [csD cs, wgD wg, x] ∧ (x = rowD ns ∨ x = .list (ns.map nD)) ∧ K false (.bool (room cs wg ns))
  else if i = 6 then fun ds K => ∃ cs wg r, ds = [csD cs, wgD wg, rowD r] ∧ GC cs ∧ inC cs r ∧ K false (.bool (pairsOk cs r && room cs wg r))
  else if i = 7 then fun ds K => ∃ cs ns, ds = [csD cs, rowD ns] ∧ cs.length ≤ 4 ∧ K false (rowD (lrow cs ns))
  else if i = 8 then fun ds K => ∃ cs wg, ds = [csD cs, wgD wg] ∧ GC cs ∧ K false (optG (loadF cs wg))
  else if i = 12 then fun ds K => ds = [.int 4] ∧ ∀ cs, GC cs → K false (csD cs)
  else if i = 13 then fun ds K => ∃ cs wg r, ds = [csD cs, wgD wg, rowD r] ∧ GC cs ∧ inC cs r ∧ K false (.bool (drive cs wg r))
  else if i = 14 then fun ds K => ∃ ns : Row, ds = [rowD ns] ∧ ns.length ≤ 4 ∧ ∀ fr, K fr (.list ((ords ns).map rowD))
  else fun _ _ => False
def Φ : Nat → Spc := fun i ds K => if i = 11 then sameS 20 ds K else if i = 9 then False else if i = 10 then False else Ψ i ds K ∨ evX T i ds K
theorem hΦ : ∀ j ds K, evX T j ds K → Φ j ds K := fun j ds K h => by
  unfold Φ
  split
  · rename_i e; subst e; exact absurd h (evX_none rfl)
  · split
    · rename_i e; subst e; exact absurd h (evX_none rfl)
    · split
      · rename_i e; subst e; exact absurd h (evX_none rfl)
      · exact .inr h
theorem noT {i : Nat} {ds : List PyData} {K : Bool → PyData → Prop} {P : Prop} (h : T i = none) (x : evX T i ds K) : P := absurd x (evX_none h)
theorem c0 (c : Cr) : atD [nD c.nm, .int c.l, .int c.w, .int c.s] 0 = some (nD c.nm) := at_nat (k := 0) rfl
theorem c1 (c : Cr) : atD [nD c.nm, .int c.l, .int c.w, .int c.s] 1 = some (.int c.l) := at_nat (k := 1) rfl
theorem c2 (c : Cr) : atD [nD c.nm, .int c.l, .int c.w, .int c.s] 2 = some (.int c.w) := at_nat (k := 2) rfl
theorem c3 (c : Cr) : atD [nD c.nm, .int c.l, .int c.w, .int c.s] 3 = some (.int c.s) := at_nat (k := 3) rfl
theorem i0 (x : PyData) (r : List PyData) : atD (x :: r) 0 = some x := at_nat (k := 0) rfl
theorem i1 (x y : PyData) (r : List PyData) : atD (x :: y :: r) 1 = some y := at_nat (k := 1) rfl
theorem numI (x lo hi : Int) : numF (.int x) lo (some hi) = (decide (lo ≤ x) && decide (x ≤ hi)) := rfl
theorem not_lt_dec (a b : Int) : (!decide (a < b)) = decide (b ≤ a) := by
  by_cases c : a < b
  · have : ¬ b ≤ a := by omega
    simp [c, this]
  · have : b ≤ a := by omega
    simp [c, this]
theorem ev_n : ([0, 1, 2, 3].all fun a : Nm => evIs T 9 2 true [nD a]) = true := by decide +kernel
theorem n_n (a : Nm) : evIs T 9 2 true [nD a] = true := List.all_eq_true.1 ev_n a (by revert a; decide)
theorem r_is_integer (ds : List PyData) (Kq : Bool → PyData → Prop) (hl : ds.length = 1) (h : Φ 0 ds Kq) : rdB Φ b_is_integer (startS c_is_integer.N (ds.map .sh)) (ktF Kq) :=
  h.elim (read_integer rfl ds Kq) (evX_r hΦ rfl)
theorem r_is_number (ds : List PyData) (Kq : Bool → PyData → Prop) (hl : ds.length = 3) (h : Φ 1 ds Kq) : rdB Φ b_is_number (startS c_is_number.N (ds.map .sh)) (ktF Kq) :=
  h.elim (read_numberE rfl (fun ds K h => Or.inl h) ds Kq) (evX_r hΦ rfl)
theorem r_is_name (ds : List PyData) (Kq : Bool → PyData → Prop) (hl : ds.length = 1) (h : Φ 2 ds Kq) : rdB Φ b_is_name (startS c_is_name.N (ds.map .sh)) (ktF Kq) :=
  h.elim (fun h => absurd h id) (evX_r hΦ rfl)
theorem asc_all {cs : List Cr} (G : GC cs) : ((cs.zip cs.tail).all fun q => ltN q.1.nm q.2.nm) = true := by
  have h : ((cs.map fun c => c.nm).Pairwise fun a b => ltN a b = true) := by
    rw [G.nms]
    exact List.Pairwise.sublist (List.take_sublist _ _) (by decide)
  rw [List.pairwise_map] at h
  rw [List.all_eq_true]
  intro q hq
  exact W4.pw_zip h q hq
theorem r_are_crates (ds : List PyData) (Kq : Bool → PyData → Prop) (hl : ds.length = 1) (h : Φ 3 ds Kq) : rdB Φ b_are_crates (startS c_are_crates.N (ds.map .sh)) (ktF Kq) := by
  refine h.elim ?_ (evX_r hΦ rfl)
  rintro ⟨cs, rfl, G, kk⟩
  have hn := G.n
  unfold b_are_crates t_are_crates_0
  have k1 : (1 : Int) ≤ cs.length := by omega
  have k2 : ¬ (7 : Int) < cs.length := by omega
  have k3 : (cs.length : Int) ≤ 7 := by omega
  simp [stE, c_are_crates, n_are_crates, ktF, rdVar_sh, kindT, isDictD, isTupleD, k1, k2, k3, t_are_crates_1, lock]
  refine forW_list crD (fun (rest : List Cr) ρ => (∀ q ∈ rest, q ∈ cs) ∧ ∃ q, ρ = [.sh (csD cs), q, .no, .no]) ?_ ?_ _ _ ⟨fun _ h => h, _, rfl⟩
  · rintro c rest ρ N ⟨hm, q, rfl⟩ hN
    have hb := G.b c (hm c (.head _))
    have e1 : numF (.int c.l) 1 (some 99) = true := by rw [numI]; simp; omega
    have e2 : numF (.int c.w) 1 (some 99) = true := by rw [numI]; simp; omega
    have e3 : numF (.int c.s) 1 (some 9) = true := by rw [numI]; simp; omega
    simp [t_are_crates_2, kindT, isDictD, isTupleD, rdVar_sh, c0]
    refine Or.inr (evIs_s (n_n c.nm) ?_)
    simp [t_are_crates_3, rdVar_sh, c1]
    refine Or.inl ⟨.int c.l, 1, some 99, rfl, rfl, ?_⟩
    rw [e1]
    simp [rdVar_sh, c2]
    refine Or.inl ⟨.int c.w, 1, some 99, rfl, rfl, ?_⟩
    rw [e2]
    simp [rdVar_sh, c3]
    refine Or.inl ⟨.int c.s, 1, some 9, rfl, rfl, ?_⟩
    rw [e3]
    simp
    exact hN _ ⟨fun y hy => hm y (.tail _ hy), _, rfl⟩
  · rintro ρ ⟨_, q, rfl⟩
    simp [unlock, t_are_crates_4, slLD, cutD, cut_lo1, seqD, lock, wipeE]
    rw [← List.map_tail, zipD_map]
    refine compW_onA (fun q : Cr × Cr => PyData.tuple [crD q.1, crD q.2]) (fun q => .bool (ltN q.1.nm q.2.nm)) (fun q hq R r => ?_) ?_
    · have e := ordN.lt q.1.nm q.2.nm
      simp [rdVar_sh, c0, e, wipeE]
      exact r
    · rw [allD_map, asc_all G]
      simpa [restE, unlock] using kk
theorem r_is_wagon (ds : List PyData) (Kq : Bool → PyData → Prop) (hl : ds.length = 1) (h : Φ 4 ds Kq) : rdB Φ b_is_wagon (startS c_is_wagon.N (ds.map .sh)) (ktF Kq) := by
  refine h.elim ?_ (evX_r hΦ rfl)
  rintro ⟨wg, rfl, hw, kk⟩
  have e1 : numF (.int wg.1) 1 (some 999) = true := by rw [numI]; simp; unfold GW at hw; omega
  have e2 : numF (.int wg.2) 1 (some 999) = true := by rw [numI]; simp; unfold GW at hw; omega
  unfold b_is_wagon t_is_wagon_0 t_is_wagon_1
  simp [stE, c_is_wagon, n_is_wagon, ktF, rdVar_sh, kindT, isDictD, isTupleD, i0]
  refine Or.inl ⟨.int wg.1, 1, some 999, rfl, rfl, ?_⟩
  rw [e1]
  simp [rdVar_sh, i1]
  refine Or.inl ⟨.int wg.2, 1, some 999, rfl, rfl, ?_⟩
  rw [e2]
  simpa using kk
theorem in_x {x : PyData} {ns : Row} (hx : x = rowD ns ∨ x = .list (ns.map nD)) (k : Nm) : inD (nD k) x = some (.bool (decide (k ∈ ns))) := by
  rcases hx with rfl | rfl
  · exact ordN.toEnc.inT k ns
  · exact ordN.toEnc.inL k ns
theorem r_has_room (ds : List PyData) (Kq : Bool → PyData → Prop) (hl : ds.length = 3) (h : Φ 5 ds Kq) : rdB Φ b_has_room (startS c_has_room.N (ds.map .sh)) (ktF Kq) := by
  refine h.elim ?_ (noT rfl)
  rintro ⟨cs, wg, ns, x, rfl, hx, kk⟩
  have ix := in_x hx
  unfold room at kk
  unfold b_has_room t_has_room_0 t_has_room_1
  simp [stE, c_has_room, n_has_room, ktF, rdVar_sh, lock, wipeE]
  refine compW_on crD (fun c => decide (c.nm ∈ ns)) crD (fun c hc R q => ?_) ?_
  · by_cases c4 : c.nm ∈ ns
    · simp [c0, ix, c4, rdVar_sh, wipeE] at q ⊢
      exact q
    · simp [c0, ix, c4, rdVar_sh, wipeE] at q ⊢
      exact q
  · generalize cs.filter (fun c => decide (c.nm ∈ ns)) = th at *
    simp [restE, unlock, lock, wipeE]
    refine compW_onA crD (fun c => .int c.l) (fun c hc R q => ?_) ?_
    · simp [c1, wipeE]
      exact q
    · have e : th.map (fun c => PyData.int c.l) = (th.map fun c => c.l).map .int := by rw [List.map_map]; rfl
      have s1 := not_lt_dec wg.1 (th.map fun c => c.l).sum
      rw [e, sum_ints]
      simp [restE, unlock, i0]
      by_cases c5 : (th.map fun c => c.l).sum ≤ wg.1
      · simp [c5] at kk ⊢
        simp [lock, wipeE]
        refine compW_onA crD (fun c => .int c.w) (fun c hc R q => ?_) ?_
        · simp [c2, wipeE]
          exact q
        · have e : th.map (fun c => PyData.int c.w) = (th.map fun c => c.w).map .int := by rw [List.map_map]; rfl
          have s2 := not_lt_dec wg.2 (th.map fun c => c.w).sum
          rw [e, sum_ints]
          simp [restE, unlock, i1, s2]
          exact kk
      · have c6 : wg.1 < (th.map fun c => c.l).sum := by omega
        simp [c5] at kk
        simp [c5, c6]
        exact kk
end K42

namespace K42
open PySem Z
theorem keyN : KeyE nD where
  toEnc := ordN.toEnc
  k _ := rfl
  fl _ _ := rfl
/-- the stops by name -/
def stA {β : Type} (f : Cr → β) (cs : List Cr) : List (Nm × β) := foldA (fun c : Cr => c.nm) f cs
theorem getA_fold_own {β : Type} (f : Cr → β) {cs : List Cr} (G : GC cs) {k : Nm} (h : k.val < cs.length) : getA (stA f cs) k = some (f (own cs k)) := by
  have key : ∀ (xs : List Cr) (ps : List (Nm × β)), (∀ c ∈ xs, c ∈ cs) → getA (xs.foldl (fun ps c => setA ps c.nm (f c)) ps) k = if k ∈ xs.map (fun c => c.nm) then some (f (own cs k)) else getA ps k := by
    intro xs
    induction xs with
    | nil => intro ps _; simp
    | cons c xs ih =>
      intro ps hm
      rw [List.foldl_cons, ih _ (fun y hy => hm y (.tail _ hy)), getA_setA]
      by_cases c1 : k ∈ xs.map fun c => c.nm
      · have : k ∈ (c :: xs).map fun c => c.nm := .tail _ c1
        rw [if_pos c1, if_pos this]
      · rw [if_neg c1]
        by_cases c2 : c.nm = k
        · subst c2
          rw [if_pos rfl, if_pos (by simp), own_self G (hm c (.head _))]
        · rw [if_neg c2, if_neg]
          rw [List.map_cons, List.mem_cons]
          rintro (e | e)
          · exact c2 e.symm
          · exact c1 e
  have := key cs [] fun _ h => h
  rw [if_pos ((nm_in G).2 h)] at this
  exact this
theorem adj_pairs {cs : List Cr} {r : Row} : ((r.zip r.tail).any fun q => decide ((own cs q.1).s < (own cs q.2).s)) = !pairsOk cs r := by
  have tr : ∀ (r : Row), (((r.zip r.tail).any fun q => decide ((own cs q.1).s < (own cs q.2).s)) = false) ↔ r.Pairwise fun a b => (own cs b).s ≤ (own cs a).s := by
    intro r
    induction r with
    | nil => simp
    | cons a r ih =>
      cases r with
      | nil => simp
      | cons b r =>
        rw [List.tail_cons, List.zip_cons_cons, List.any_cons, Bool.or_eq_false_iff]
        rw [List.tail_cons] at ih
        rw [ih]
        constructor
        · rintro ⟨h1, h2⟩
          have h1 : ¬ (own cs a).s < (own cs b).s := by simpa using h1
          refine List.pairwise_cons.2 ⟨fun x hx => ?_, h2⟩
          rcases List.mem_cons.1 hx with rfl | hx
          · omega
          · have := (List.pairwise_cons.1 h2).1 x hx
            omega
        · intro h
          obtain ⟨h1, h2⟩ := List.pairwise_cons.1 h
          have := h1 b (.head _)
          exact ⟨by simp; omega, h2⟩
  have h := tr r
  rw [← pairs_pw] at h
  cases h1 : pairsOk cs r with
  | true => rw [h1] at h; rw [h.2 rfl]; rfl
  | false =>
    rw [h1] at h
    cases h2 : (r.zip r.tail).any fun q => decide ((own cs q.1).s < (own cs q.2).s) with
    | true => rfl
    | false => exact absurd (h.1 h2) (by simp)
theorem zip_in {r : Row} {q : Nm × Nm} (h : q ∈ r.zip r.tail) : q.1 ∈ r ∧ q.2 ∈ r := by
  have := List.of_mem_zip (a := q.1) (b := q.2) h
  exact ⟨this.1, List.mem_of_mem_tail this.2⟩
theorem r_can_drive (ds : List PyData) (Kq : Bool → PyData → Prop) (hl : ds.length = 3) (h : Φ 6 ds Kq) : rdB Φ b_can_drive (startS c_can_drive.N (ds.map .sh)) (ktF Kq) := by
  refine h.elim ?_ (noT rfl)
  rintro ⟨cs, wg, r, rfl, G, ⟨nd, hr⟩, kk⟩
  unfold b_can_drive t_can_drive_0
  have ix := fun k (hk : k ∈ r) => (ix_dic keyN (v := PyData.int) k (stA (fun c => c.s) cs)).trans (congrArg (Option.map PyData.int) (getA_fold_own (fun c => c.s) G (hr k hk)))
  simp [stE, c_can_drive, n_can_drive, ktF, rdVar_sh, lock, wipeE]
  refine dcompW_on' (vf := PyData.int) (acc := []) ordN.toEnc (fun _ => rfl) crD (fun c => c.nm) (fun c => c.s) _ _ cs (by simp [Uniq]) (fun c hc R q => ?_) ?_
  · simp [c0, c3, wipeE]
    exact q
  · have ed : cs.foldl (fun ps c => setA ps c.nm c.s) [] = stA (fun c => c.s) cs := rfl
    rw [ed]
    generalize dicD nD PyData.int (stA (fun c => c.s) cs) = dd at *
    simp [restE, unlock, t_can_drive_1, slLD, cutD, cut_lo1, seqD, lock, wipeE]
    rw [← List.map_tail, zipD_map]
    refine compW_onA (fun q : Nm × Nm => PyData.tuple [nD q.1, nD q.2]) (fun q => .bool (decide ((own cs q.1).s < (own cs q.2).s))) (fun q hq R r => ?_) ?_
    · obtain ⟨h1, h2⟩ := zip_in hq
      have e1 := ix q.1 h1
      have e2 := ix q.2 h2
      simp at e1 e2
      simp [rdVar_sh, e1, e2, wipeE]
      exact r
    · rw [anyD_map, adj_pairs]
      cases hp : pairsOk cs r with
      | false =>
        rw [hp] at kk
        simp [restE, unlock]
        exact kk
      | true =>
        rw [hp] at kk
        simp [restE, unlock, t_can_drive_2, rdVar_sh]
        refine Or.inl ⟨cs, wg, r, _, rfl, .inl rfl, ?_⟩
        simpa using kk
theorem r_least_row (ds : List PyData) (Kq : Bool → PyData → Prop) (hl : ds.length = 2) (h : Φ 7 ds Kq) : rdB Φ b_least_row (startS c_least_row.N (ds.map .sh)) (ktF Kq) := by
  refine h.elim ?_ (noT rfl)
  rintro ⟨cs, ns, rfl, hn, kk⟩
  unfold b_least_row t_least_row_0 t_least_row_1
  simp [stE, c_least_row, n_least_row, ktF, rdVar_sh, lock, wipeE]
  refine compW_on crD (fun c => decide (c.nm ∈ ns)) (fun c => kxD (-c.s, c.nm)) (fun c hc R q => ?_) ?_
  · have e := ordN.toEnc.inT c.nm ns
    by_cases c4 : c.nm ∈ ns
    · simp [c0, c3, e, c4, rdVar_sh, negD, wipeE] at q ⊢
      exact q
    · simp [c0, e, c4, wipeE] at q ⊢
      exact q
  · have e1 : (cs.filter fun c => decide (c.nm ∈ ns)).map (fun c => kxD (-c.s, c.nm)) = ((cs.filter fun c => decide (c.nm ∈ ns)).map fun c => (-c.s, c.nm)).map kxD := by rw [List.map_map]; rfl
    have so := sorted_on ordKx (fun a => ⟨_, _, rfl⟩) ((cs.filter fun c => decide (c.nm ∈ ns)).map fun c => (-c.s, c.nm))
    unfold lrow at kk
    rw [e1, so]
    generalize sortB ltKx ((cs.filter fun c => decide (c.nm ∈ ns)).map fun c => (-c.s, c.nm)) = xs at *
    simp [restE, unlock, lock, wipeE]
    refine compW_onA kxD (fun q => nD q.2) (fun q hq R r => ?_) ?_
    · simp [rdVar_sh, wipeE]
      exact r
    · have e2 : xs.map (fun q => nD q.2) = (xs.map fun q => q.2).map nD := by rw [List.map_map]; rfl
      rw [e2]
      generalize xs.map (fun q => q.2) = ys at *
      simp [restE, unlock, tupleD, seqD]
      exact kk
end K42

namespace K42
open PySem Z
/-! what the groups are -/
def gOk (ns : Row) (g : Gr) : Prop := g.flatten.Perm ns ∧ ∀ r ∈ g, r ≠ []
theorem gOk_nxt {ns : Row} {n : Nm} {g g' : Gr} (h : gOk ns g) (hg : g' ∈ nxt n g) : gOk (ns ++ [n]) g' := by
  obtain ⟨h1, h2⟩ := h
  unfold nxt at hg
  rcases List.mem_cons.1 hg with rfl | hg
  · refine ⟨?_, fun r hr => ?_⟩
    · rw [List.flatten_append]
      simpa using h1.append_right [n]
    · rcases List.mem_append.1 hr with hr | hr
      · exact h2 r hr
      · rw [List.mem_singleton.1 hr]; simp
  · obtain ⟨i, hi, rfl⟩ := List.mem_map.1 hg
    have hi := List.mem_range.1 hi
    have e : g = g.take i ++ g.getD i [] :: g.drop (i + 1) := by
      rw [List.getD_eq_getElem?_getD, List.getElem?_eq_getElem hi, Option.getD_some, ← List.drop_eq_getElem_cons hi, List.take_append_drop]
    refine ⟨?_, fun r hr => ?_⟩
    · have e2 : g.flatten = (g.take i).flatten ++ (g.getD i [] ++ (g.drop (i + 1)).flatten) := by
        conv => lhs; rw [e]
        simp
      rw [e2] at h1
      have e3 : (g.take i ++ [g.getD i [] ++ [n]] ++ g.drop (i + 1)).flatten = (g.take i).flatten ++ (g.getD i [] ++ ([n] ++ (g.drop (i + 1)).flatten)) := by simp
      rw [e3]
      generalize (g.take i).flatten = A at *
      generalize (g.drop (i + 1)).flatten = C at *
      generalize g.getD i [] = B at *
      have p1 : (A ++ (B ++ ([n] ++ C))).Perm (A ++ (B ++ (C ++ [n]))) := ((List.perm_append_comm).append_left B).append_left A
      have e4 : A ++ (B ++ (C ++ [n])) = (A ++ (B ++ C)) ++ [n] := by simp
      rw [e4] at p1
      exact p1.trans (h1.append_right [n])
    · rcases List.mem_append.1 hr with hr | hr
      · rcases List.mem_append.1 hr with hr | hr
        · exact h2 r (List.mem_of_mem_take hr)
        · rw [List.mem_singleton.1 hr]; simp
      · exact h2 r (List.mem_of_mem_drop hr)
theorem gOk_cmp : ∀ {ms ns : Row} {g g' : Gr}, gOk ns g → g' ∈ cmpF ms g → gOk (ns ++ ms) g'
  | [], ns, g, g', h, hg => by
    rw [cmpF, List.mem_singleton] at hg
    subst hg
    simpa using h
  | m :: ms, ns, g, g', h, hg => by
    rw [cmpF] at hg
    obtain ⟨g1, h1, h2⟩ := List.mem_flatMap.1 hg
    have := gOk_cmp (gOk_nxt h h1) h2
    simpa using this
theorem gOk_parts {ns : Row} {g : Gr} (h : g ∈ parts ns) : gOk ns g := by
  rw [parts_eq] at h
  have := gOk_cmp (ns := []) (g := []) ⟨List.Perm.refl _, fun _ h => nomatch h⟩ h
  simpa using this
theorem gOk_len {ns : Row} {g : Gr} (h : gOk ns g) : g.length ≤ ns.length ∧ szF g = ns.length := by
  have e : szF g = ns.length := by
    rw [← h.1.length_eq, List.length_flatten]
    rfl
  refine ⟨?_, e⟩
  rw [← e]
  have h2 := h.2
  clear e h
  induction g with
  | nil => simp
  | cons r g ih =>
    have := ih fun r' hr => h2 r' (.tail _ hr)
    have hr := List.length_pos_iff.2 (h2 r (.head _))
    simp [szF] at this ⊢
    omega
theorem gOk_row {ns : Row} {g : Gr} (h : gOk ns g) (nd : ns.Nodup) {r : Row} (hr : r ∈ g) : r.Nodup ∧ (∀ k ∈ r, k ∈ ns) ∧ r ≠ [] := by
  have h1 : g.flatten.Nodup := h.1.nodup_iff.2 nd
  have hs : r.Sublist g.flatten := List.sublist_flatten_of_mem hr
  exact ⟨h1.sublist hs, fun k hk => h.1.mem_iff.1 (hs.subset hk), h.2 r hr⟩
/-- where a crate has no room alone, nothing is good -/
theorem no_room {cs : List Cr} (G : GC cs) {wg : Wg} {c : Cr} (hc : c ∈ cs) (h : room cs wg [c.nm] = false) : allR cs wg = [] := by
  unfold allR ranks
  rw [List.map_eq_nil_iff, List.filter_eq_nil_iff]
  intro g hg hv
  have ok := gOk_parts hg
  have hm : c.nm ∈ g.flatten := ok.1.mem_iff.2 (List.mem_map.2 ⟨c, hc, rfl⟩)
  obtain ⟨r, hr, hk⟩ := List.mem_flatten.1 hm
  have := room_sub G (r := [c.nm]) (r' := r) (fun k hk' => by rw [List.mem_singleton.1 hk']; exact hk) (List.all_eq_true.1 hv r hr)
  rw [h] at this
  cases this
/-- else there is a way -/
theorem some_way {cs : List Cr} {wg : Wg} (h : ∀ c ∈ cs, room cs wg [c.nm] = true) : allR cs wg ≠ [] := by
  have : ∀ (ns : Row) (g : Gr), (∀ k ∈ ns, room cs wg [k] = true) → valid cs wg g = true → ∃ g' ∈ cmpF ns g, valid cs wg g' = true := by
    intro ns
    induction ns with
    | nil => intro g _ hv; exact ⟨g, .head _, hv⟩
    | cons n ns ih =>
      intro g hk hv
      obtain ⟨g', h1, h2⟩ := ih (g ++ [[n]]) (fun k hk' => hk k (.tail _ hk')) (by
        unfold valid at hv ⊢
        rw [List.all_append, hv]
        simp [hk n (.head _)])
      exact ⟨g', by rw [cmpF]; exact List.mem_flatMap.2 ⟨_, by unfold nxt; exact .head _, h1⟩, h2⟩
  obtain ⟨g', h1, h2⟩ := this (cs.map fun c => c.nm) [] (fun k hk => by obtain ⟨c, hc, rfl⟩ := List.mem_map.1 hk; exact h c hc) rfl
  intro e
  unfold allR ranks at e
  rw [List.map_eq_nil_iff, List.filter_eq_nil_iff] at e
  rw [parts_eq] at e
  exact e g' h1 h2
theorem lrow_ne {cs : List Cr} (G : GC cs) {r : Row} (nd : r.Nodup) (hn : ∀ k ∈ r, k.val < cs.length) (h : r ≠ []) : lrow cs r ≠ [] := by
  intro e
  have hp : (lrow cs r).Perm r := by
    unfold lrow
    refine ((sort_perm _ _).map _).trans ?_
    rw [List.map_map]
    exact there_perm G nd hn
  rw [e] at hp
  exact h (List.nil_perm.1 hp)
theorem sort_rows {xs : List Row} (h : ∀ r ∈ xs, r ≠ []) : sortedD (.list (xs.map rowD)) = some (.list ((sortB ltR xs).map rowD)) := by
  show (if sortOk (xs.map rowD) = true then some (PyData.list (sortD (xs.map rowD))) else none) = _
  unfold sortOk
  rw [ordR.kind.ok, ordR.sort, if_pos]
  rw [Bool.true_and, Bool.or_eq_true]
  left
  rw [List.all_eq_true]
  intro y hy
  obtain ⟨a, ha, rfl⟩ := List.mem_map.1 hy
  have := h a ha
  cases a with
  | nil => exact absurd rfl this
  | cons x a => rfl
theorem cut_lo {α : Type} (xs : List α) {k : Nat} : cut xs (some (k : Int)) none = xs.drop k := by
  unfold cut slIx
  dsimp only
  rw [if_neg (by omega)]
  have e1 : ((k : Int)).toNat = k := by omega
  rw [e1]
  by_cases c : k ≤ xs.length
  · rw [Nat.min_eq_left c]
    exact List.take_of_length_le (by simp)
  · rw [Nat.min_eq_right (by omega), List.drop_eq_nil_of_le (show xs.length ≤ k by omega)]
    simp
theorem slL_g (g : Gr) (k : Nat) : slLD (grD g) (.int ((k : Int) + 1)) = some (grD (g.drop (k + 1))) := by
  have e : ((k : Int) + 1) = ((k + 1 : Nat) : Int) := by omega
  rw [e]
  show some (PyData.tuple (cut (g.map rowD) (some ((k + 1 : Nat) : Int)) none)) = _
  rw [cut_lo, ← List.map_drop]
theorem slH_g (g : Gr) (k : Nat) : slHD (grD g) (.int (k : Int)) = some (grD (g.take k)) := by
  have := slH_m rowD g (k := (k : Int)) (by omega)
  rwa [Int.toNat_natCast] at this
theorem add_g {a b : Gr} (h : a.length + b.length ≤ 1000) : addD (grD a) (grD b) = some (grD (a ++ b)) := by
  rw [grD, grD, grD, List.map_append]
  exact add_tt (by simp [big]; omega)
theorem add_r {a b : Row} (h : a.length + b.length ≤ 1000) : addD (rowD a) (rowD b) = some (rowD (a ++ b)) := by
  rw [rowD, rowD, rowD, List.map_append]
  exact add_tt (by simp [big]; omega)
/-! the measure -/
def wt : Nat → Nat
  | 0 => 1
  | k + 1 => 1 + 6 * wt k
def meas (n : Nat) (S : List Gr) : Nat := (S.map fun g => wt (n - szF g)).sum
theorem wt_pos : ∀ k, 1 ≤ wt k
  | 0 => Nat.le_refl _
  | k + 1 => by unfold wt; omega
theorem meas_app (n : Nat) (S S' : List Gr) : meas n (S ++ S') = meas n S + meas n S' := by simp [meas]
theorem meas_len (n : Nat) (S : List Gr) : S.length ≤ meas n S := by
  induction S with
  | nil => simp [meas]
  | cons g S ih =>
    have := wt_pos (n - szF g)
    simp [meas] at ih ⊢
    omega
theorem meas_kids {cs : List Cr} {wg : Wg} {n : Nm} {g : Gr} (hz : szF g < cs.length) (hl : g.length ≤ 4) : meas cs.length (kids cs wg n g) < meas cs.length [g] := by
  have hk : ∀ g' ∈ kids cs wg n g, szF g' = szF g + 1 := fun g' h => nxt_sz (kids_sub h)
  have hlen : (kids cs wg n g).length ≤ 5 := by
    unfold kids
    have := List.length_filter_le (fun k => room cs wg (g.getD k [] ++ [n])) (List.range g.length)
    simp at this ⊢
    omega
  have key : ∀ L : List Gr, (∀ g' ∈ L, szF g' = szF g + 1) → meas cs.length L = L.length * wt (cs.length - (szF g + 1)) := by
    intro L
    induction L with
    | nil => intro _; simp [meas]
    | cons a L ih =>
      intro h
      have h1 := ih fun g' hg => h g' (.tail _ hg)
      have h2 := h a (.head _)
      simp [meas] at h1 ⊢
      rw [h1, h2, Nat.add_mul]
      omega
  rw [key _ hk]
  obtain ⟨k, e⟩ : ∃ k, cs.length - szF g = k + 1 := ⟨cs.length - szF g - 1, by omega⟩
  have e2 : cs.length - (szF g + 1) = k := by omega
  have e3 : meas cs.length [g] = 1 + 6 * wt k := by simp [meas, e, wt]
  rw [e2, e3]
  have := Nat.mul_le_mul_right (wt k) hlen
  omega
end K42

namespace K42
open PySem Z
def optRk : Option Rk → PyData
  | none => .none
  | some r => rkD r
abbrev lE (cs : List Cr) (wg : Wg) (best : Option Rk) (s3 s4 s5 s6 s7 s8 s9 s10 : Sl) : Z.Env := [.sh (csD cs), .sh (wgD wg), .sh (optRk best), s3, s4, s5, s6, s7, s8, s9, s10, .no]
section
variable {cs : List Cr} {wg : Wg} {best : Option Rk} {s3 s4 s5 s6 s7 s8 s9 s10 : Sl} {K : Kt} {g : Gr} {S : List Gr}
theorem sz_sum (g : Gr) : (g.map fun r => (r.length : Int)).sum = (szF g : Int) := by
  unfold szF
  induction g with
  | nil => rfl
  | cons r g ih =>
    rw [List.map_cons, List.sum_cons, ih, List.map_cons, List.sum_cons]
    omega
theorem l4 (h10 : SN s10) (h : K.nx (lE cs wg best s3 (.sh (grD g)) (.sh (.int (szF g))) s6 s7 s8 s9 s10)) : rdS Φ t_loading_4 (lE cs wg best s3 (.sh (grD g)) s5 s6 s7 s8 s9 s10) K := by
  have rs : restE (lE cs wg best s3 (.sh (grD g)) s5 s6 s7 s8 s9 s10) (lE cs wg best s3 (.sh (grD g)) s5 s6 s7 s8 s9 .no) [10] = lE cs wg best s3 (.sh (grD g)) s5 s6 s7 s8 s9 s10 := by rcases h10 with rfl | ⟨x, rfl⟩ <;> rfl
  unfold t_loading_4
  simp [lock, wipeE]
  refine compW_onA rowD (fun r => .int (r.length : Nat)) (fun r hr R q => ?_) ?_
  · simp [wipeE]
    exact q
  · have e : g.map (fun r => PyData.int (r.length : Nat)) = (g.map fun r => (r.length : Int)).map .int := by rw [List.map_map]; rfl
    have e2 := sz_sum g
    rw [rs, e, sum_ints, e2]
    simp [unlock]
    exact h
theorem l6 (h10 : SN s10) (hn : cs.length ≤ 4) (hne : ∀ r ∈ g.map (lrow cs), r ≠ []) (h : K.nx (lE cs wg best s3 (.sh (grD g)) s5 s6 (.sh (grD (rank cs g).2)) s8 s9 s10)) : rdS Φ t_loading_6 (lE cs wg best s3 (.sh (grD g)) s5 s6 s7 s8 s9 s10) K := by
  have rs : restE (lE cs wg best s3 (.sh (grD g)) s5 s6 s7 s8 s9 s10) (lE cs wg best s3 (.sh (grD g)) s5 s6 s7 s8 s9 .no) [10] = lE cs wg best s3 (.sh (grD g)) s5 s6 s7 s8 s9 s10 := by rcases h10 with rfl | ⟨x, rfl⟩ <;> rfl
  have so := sort_rows hne
  unfold t_loading_6
  simp [lock, wipeE]
  refine compW_onA rowD (fun r => rowD (lrow cs r)) (fun r hr R q => ?_) ?_
  · simp [rdVar_sh]
    refine Or.inl ⟨cs, r, rfl, hn, ?_⟩
    simpa [wipeE] using q
  · have e : g.map (fun r => rowD (lrow cs r)) = (g.map (lrow cs)).map rowD := by rw [List.map_map]; rfl
    have er : (rank cs g).2 = sortB ltR (g.map (lrow cs)) := rfl
    rw [rs, e]
    rw [er] at h
    simp only [so]
    generalize sortB ltR (g.map (lrow cs)) = xs at *
    simp [unlock, tupleD, seqD]
    exact h
theorem rk_len (cs : List Cr) (g : Gr) : ((rank cs g).2.length : Int) = (rank cs g).1 := by
  show ((sortB ltR (g.map (lrow cs))).length : Int) = (g.length : Int)
  rw [(sort_perm ltR _).length_eq, List.length_map]
theorem l8 {r : Rk} (h : K.nx (lE cs wg (some (better best r)) s3 s4 s5 s6 s7 (.sh (rkD r)) s9 s10)) : rdS Φ t_loading_8 (lE cs wg best s3 s4 s5 s6 s7 (.sh (rkD r)) s9 s10) K := by
  unfold t_loading_8
  cases best with
  | none =>
    simp [optRk, rdVar_sh]
    exact h
  | some b =>
    have e : ltD (rkD r) (rkD b) = some (.bool (ltRk r b)) := ordRk.lt r b
    have eb : better (some b) r = if ltRk r b = true then r else b := rfl
    rw [eb] at h
    cases c : ltRk r b with
    | true =>
      rw [c] at h e
      rw [if_pos rfl] at h
      simp [optRk, isNoneD, e, rdVar_sh]
      exact h
    | false =>
      rw [c] at h e
      rw [if_neg Bool.false_ne_true] at h
      simp [optRk, isNoneD, e, rdVar_sh]
      exact h
theorem l11 {n : Nm} (hl : g.length ≤ 4) (hr : ∀ r ∈ g, r.length ≤ 4) (hS : S.length ≤ 1000000) (h : ∀ s9 s10, SN s10 → K.nx (lE cs wg best (.ow (.list ((S ++ kids cs wg n g).map grD))) (.sh (grD g)) s5 (.sh (nD n)) s7 s8 s9 s10)) (h10 : SN s10) :
    rdS Φ t_loading_11 (lE cs wg best (.ow (.list ((S ++ [g ++ [[n]]]).map grD))) (.sh (grD g)) s5 (.sh (nD n)) s7 s8 s9 s10) K := by
  unfold t_loading_11
  have sq : seqD (grD g) = some (g.map rowD) := rfl
  have en := enum_nat rowD [] g
  simp [rdVar_sh, lock]
  rw [sq, Z.must_s, en]
  refine forW_nat (fun i => .tuple [.int (i : Nat), rowD (g.getD i [])]) (fun i ρ => ∃ s9 s10, SN s10 ∧ ρ = lE cs wg best (.ow (.list ((S ++ (g ++ [[n]]) :: ((List.range i).filter fun k => room cs wg (g.getD k [] ++ [n])).map fun k => g.take k ++ [g.getD k [] ++ [n]] ++ g.drop (k + 1)).map grD))) (.sh (grD g)) s5 (.sh (nD n)) s7 s8 s9 s10) ?_ ?_ ⟨s9, s10, h10, by rw [List.range_zero, List.filter_nil, List.map_nil, List.map_append]; rfl⟩
  · rintro i ρ N hi ⟨s9, s10, h10, rfl⟩ hN
    have hri : (g.getD i []).length ≤ 4 := by
      rw [List.getD_eq_getElem?_getD, List.getElem?_eq_getElem hi, Option.getD_some]
      exact hr _ (List.getElem_mem hi)
    have hnx := hN _ ⟨.sh (.int (i : Nat)), .sh (rowD (g.getD i [])), .inr ⟨_, rfl⟩, rfl⟩
    rw [List.range_succ, List.filter_append] at hnx
    have ar : addD (rowD (g.getD i [])) (.tuple [nD n]) = some (rowD (g.getD i [] ++ [n])) := add_r (b := [n]) (by rw [List.length_singleton]; omega)
    have a1 : addD (grD (g.take i)) (.tuple [rowD (g.getD i [] ++ [n])]) = some (grD (g.take i ++ [g.getD i [] ++ [n]])) := add_g (b := [g.getD i [] ++ [n]]) (by rw [List.length_take, List.length_singleton]; omega)
    have a2 : addD (grD (g.take i ++ [g.getD i [] ++ [n]])) (grD (g.drop (i + 1))) = some (grD (g.take i ++ [g.getD i [] ++ [n]] ++ g.drop (i + 1))) := add_g (by rw [List.length_append, List.length_take, List.length_singleton, List.length_drop]; omega)
    have hh := slH_g g i
    have hh2 := slL_g g i
    have hfl : ((List.range i).filter fun k => room cs wg (g.getD k [] ++ [n])).length ≤ 4 := by
      have := List.length_filter_le (fun k => room cs wg (g.getD k [] ++ [n])) (List.range i)
      rw [List.length_range] at this
      omega
    have hlen : ((S ++ (g ++ [[n]]) :: ((List.range i).filter fun k => room cs wg (g.getD k [] ++ [n])).map fun k => g.take k ++ [g.getD k [] ++ [n]] ++ g.drop (k + 1)).map grD).length < big := by
      rw [List.length_map, List.length_append, List.length_cons, List.length_map]
      simp only [big]
      omega
    by_cases c : room cs wg (g.getD i [] ++ [n]) = true
    · have ef : [i].filter (fun k => room cs wg (g.getD k [] ++ [n])) = [i] := List.filter_cons_of_pos (p := fun k => room cs wg (g.getD k [] ++ [n])) c
      rw [ef] at hnx
      have e7 : ((S ++ (g ++ [[n]]) :: ((((List.range i).filter fun k => room cs wg (g.getD k [] ++ [n])) ++ [i]).map fun k => g.take k ++ [g.getD k [] ++ [n]] ++ g.drop (k + 1)))).map grD = (S ++ (g ++ [[n]]) :: ((List.range i).filter fun k => room cs wg (g.getD k [] ++ [n])).map fun k => g.take k ++ [g.getD k [] ++ [n]] ++ g.drop (k + 1)).map grD ++ [grD (g.take i ++ [g.getD i [] ++ [n]] ++ g.drop (i + 1))] := by
        simp only [List.map_append, List.map_cons, List.map_nil, List.append_assoc, List.cons_append]
      rw [e7] at hnx
      generalize (S ++ (g ++ [[n]]) :: ((List.range i).filter fun k => room cs wg (g.getD k [] ++ [n])).map fun k => g.take k ++ [g.getD k [] ++ [n]] ++ g.drop (k + 1)).map grD = res at *
      generalize grD (g.take i ++ [g.getD i [] ++ [n]] ++ g.drop (i + 1)) = nw at *
      generalize grD (g.take i ++ [g.getD i [] ++ [n]]) = n1 at *
      generalize hro : g.getD i [] ++ [n] = ro at *
      simp only [t_loading_12]
      simp [rdVar_sh, -List.getD_eq_getElem?_getD, ar]
      refine Or.inl ⟨cs, wg, ro, _, rfl, .inl rfl, ?_⟩
      simp [c, t_loading_13, rdVar_sh, -List.getD_eq_getElem?_getD, hh, hh2, ar, a1, a2, mustL]
      exact ⟨hlen, hnx⟩
    · have ef : [i].filter (fun k => room cs wg (g.getD k [] ++ [n])) = [] := List.filter_cons_of_neg (p := fun k => room cs wg (g.getD k [] ++ [n])) c
      rw [ef, List.append_nil] at hnx
      generalize (S ++ (g ++ [[n]]) :: ((List.range i).filter fun k => room cs wg (g.getD k [] ++ [n])).map fun k => g.take k ++ [g.getD k [] ++ [n]] ++ g.drop (k + 1)).map grD = res at *
      generalize hro : g.getD i [] ++ [n] = ro at *
      simp only [t_loading_12]
      simp [rdVar_sh, -List.getD_eq_getElem?_getD, ar]
      refine Or.inl ⟨cs, wg, ro, _, rfl, .inl rfl, ?_⟩
      simp [c]
      exact hnx
  · rintro ρ ⟨s9, s10, h10, rfl⟩
    simp only [unlock]
    exact h s9 s10 h10
end
end K42

namespace K42
open PySem Z
theorem at_cr {cs : List Cr} (G : GC cs) {k : Nat} (h : k < cs.length) : ∃ c ∈ cs, atD (cs.map crD) (k : Int) = some (crD c) ∧ (cs.map fun c => c.nm)[k]? = some c.nm := by
  refine ⟨cs[k], List.getElem_mem h, ?_, ?_⟩
  · exact at_map (by omega) (by rw [Int.toNat_natCast, List.getElem?_eq_getElem h])
  · rw [List.getElem?_map, List.getElem?_eq_getElem h]
    rfl
structure SI (cs : List Cr) (S : List Gr) : Prop where
  ok : ∀ g ∈ S, gOk ((cs.map fun c => c.nm).take (szF g)) g ∧ szF g ≤ cs.length
theorem SI.kids {cs : List Cr} {wg : Wg} {S : List Gr} {g : Gr} {n : Nm} (h : SI cs (S ++ [g])) (hz : szF g < cs.length) (hn : (cs.map fun c => c.nm)[szF g]? = some n) : SI cs (S ++ kids cs wg n g) where
  ok g' hg' := by
    rcases List.mem_append.1 hg' with hg' | hg'
    · exact h.ok g' (List.mem_append_left _ hg')
    · have hs := kids_sub hg'
      have hsz := nxt_sz hs
      have h1 := gOk_nxt (h.ok g (by simp)).1 hs
      refine ⟨?_, by omega⟩
      rw [hsz, List.take_add_one, hn]
      exact h1
theorem si_len {cs : List Cr} (G : GC cs) {S : List Gr} {g : Gr} (h : SI cs (S ++ [g])) : g.length ≤ 4 ∧ (∀ r ∈ g, r.length ≤ 4) ∧ (∀ r ∈ g, r.Nodup ∧ (∀ k ∈ r, k.val < cs.length) ∧ r ≠ []) := by
  obtain ⟨h1, h2⟩ := h.ok g (by simp)
  have hn := G.n.2
  have hl := gOk_len h1
  have nd : ((cs.map fun c => c.nm).take (szF g)).Nodup := (nms_nd G).sublist (List.take_sublist _ _)
  have tl : ((cs.map fun c => c.nm).take (szF g)).length ≤ cs.length := by simp; omega
  have key : ∀ r ∈ g, r.Nodup ∧ (∀ k ∈ r, k.val < cs.length) ∧ r ≠ [] := fun r hr => by
    obtain ⟨a, b, c⟩ := gOk_row h1 nd hr
    exact ⟨a, fun k hk => (nm_in G).1 (List.mem_of_mem_take (b k hk)), c⟩
  refine ⟨by omega, fun r hr => ?_, key⟩
  obtain ⟨a, b, c⟩ := key r hr
  have u4 : ∀ k : Nm, k ∈ U4 := by decide
  have := len_nodup (xs := r) (ns := U4) a fun k hk => u4 k
  simpa using this
theorem r_loading (ds : List PyData) (Kq : Bool → PyData → Prop) (hl : ds.length = 2) (h : Φ 8 ds Kq) : rdB Φ b_loading (startS c_loading.N (ds.map .sh)) (ktF Kq) := by
  refine h.elim ?_ (noT rfl)
  rintro ⟨cs, wg, rfl, G, kk⟩
  have hn := G.n
  unfold b_loading t_loading_0
  simp [stE, c_loading, n_loading, ktF, rdVar_sh, lock, wipeE]
  refine compW_onA crD (fun c => .bool (!room cs wg [c.nm])) (fun c hc R q => ?_) ?_
  · simp [c0, rdVar_sh]
    refine Or.inl ⟨cs, wg, [c.nm], _, rfl, .inr rfl, ?_⟩
    simpa [wipeE] using q
  · rw [anyD_map]
    unfold loadF at kk
    cases hr : cs.any fun c => !room cs wg [c.nm] with
    | true =>
      obtain ⟨c, hc, hc2⟩ := List.any_eq_true.1 hr
      have e := no_room G hc (wg := wg) (by simpa using hc2)
      rw [e] at kk
      simp [restE, unlock]
      exact kk
    | false =>
      have h1 : ∀ c ∈ cs, room cs wg [c.nm] = true := fun c hc => by
        have := List.any_eq_false.1 hr c hc
        simpa using this
      have ne := some_way h1
      simp [restE, unlock, t_loading_1, t_loading_2]
      refine whW_inv (fun m ρ => ∃ (S : List Gr) (best : Option Rk) (s4 s5 s6 s7 s8 s9 s10 : Sl), m = meas cs.length S ∧ m ≤ 10000 ∧ WI cs wg S best ∧ SI cs S ∧ SN s10 ∧ ρ = lE cs wg best (.ow (.list (S.map grD))) s4 s5 s6 s7 s8 s9 s10) (meas cs.length [[]]) ⟨[[]], none, _, _, _, _, _, _, _, rfl, ?_, WI.start cs wg, ⟨fun g hg => ?_⟩, .inl rfl, rfl⟩ ?_
      · have : ∀ k, k ≤ 4 → wt k ≤ 10000 := by
          intro k hk
          have : k = 0 ∨ k = 1 ∨ k = 2 ∨ k = 3 ∨ k = 4 := by omega
          rcases this with rfl | rfl | rfl | rfl | rfl <;> decide
        have := this cs.length (by omega)
        simpa [meas, szF] using this
      · rw [List.mem_singleton.1 hg]
        exact ⟨⟨by simp [szF], fun _ h => nomatch h⟩, Nat.zero_le _⟩
      · rintro m ρ N ⟨S0, best, s4, s5, s6, s7, s8, s9, s10, rfl, hm, W, I, h10, rfl⟩ hN
        rcases List.eq_nil_or_concat S0 with rfl | ⟨S, g, rfl⟩
        · have hb := W.done
          cases best with
          | none => exact absurd (minO_none.1 hb.symm) ne
          | some b =>
            rw [← hb] at kk
            simp [optRk, i1]
            exact kk
        · rw [List.concat_eq_append] at *
          have hS : S.length ≤ 10000 := by
            have := meas_len cs.length (S ++ [g])
            rw [List.length_append] at this
            omega
          obtain ⟨gl, grl, gk⟩ := si_len G I
          have gz := (I.ok g (by simp)).2
          have W1 : SI cs S := ⟨fun g' hg' => I.ok g' (List.mem_append_left _ hg')⟩
          have hlt : meas cs.length S < meas cs.length (S ++ [g]) := by
            rw [meas_app]
            have := meas_len cs.length [g]
            simp at this
            omega
          have hp : ((S ++ [g]).map grD)[((S ++ [g]).map grD).length - 1]? = some (grD g) := by
            rw [List.map_append, List.length_append]
            simp
          have hd : ((S ++ [g]).map grD).dropLast = S.map grD := by rw [List.map_append]; simp
          have hne : ((S ++ [g]).map grD).isEmpty = false := by rw [List.map_append]; cases S <;> rfl
          have tail : ¬ (∃ b, best = some b ∧ b.1 < g.length) → rdB Φ (.cons t_loading_4 (.cons t_loading_5 (.cons t_loading_9 (.cons t_loading_10 (.cons t_loading_11 .nil))))) (lE cs wg best (.ow (.list (S.map grD))) (.sh (grD g)) s5 s6 s7 s8 s9 s10) { nx := N, rt := fun fr d _ => Kq fr d, bk := fun ρ => rdS Φ (.ret (.p2 .ix (.v 2) (.k (.int 1)))) ρ (ktF Kq), ct := N } := by
            intro _
            rw [rdB_cons]
            refine l4 h10 ?_
            show rdB Φ _ _ _
            rw [rdB_cons]
            by_cases cz : szF g = cs.length
            · have Wf := W.full cz
              unfold t_loading_5
              have cz' : ((szF g : Nat) : Int) = (cs.length : Int) := by omega
              have hnx := hN (meas cs.length S) _ hlt ⟨S, some (better best (rank cs g)), .sh (grD g), .sh (.int (szF g)), s6, .sh (grD (rank cs g).2), .sh (rkD (rank cs g)), s9, s10, rfl, by omega, Wf, W1, h10, rfl⟩
              simp [cz']
              have e1 : ((cs.length : Nat) : Int) = ((szF g : Nat) : Int) := by omega
              rw [e1]
              refine l6 (K := { nx := _, rt := _, bk := _, ct := _ }) h10 (by omega) (fun r hr' => ?_) ?_
              · obtain ⟨r0, hr0, rfl⟩ := List.mem_map.1 hr'
                obtain ⟨a, b, c⟩ := gk r0 hr0
                exact lrow_ne G a b c
              · have rl := rk_len cs g
                have er : rkD (rank cs g) = .tuple [.int (rank cs g).1, grD (rank cs g).2] := rfl
                have l7 : ∀ K : Kt, K.nx (lE cs wg best (.ow (.list (S.map grD))) (.sh (grD g)) (.sh (.int (szF g))) s6 (.sh (grD (rank cs g).2)) (.sh (rkD (rank cs g))) s9 s10) → rdS Φ t_loading_7 (lE cs wg best (.ow (.list (S.map grD))) (.sh (grD g)) (.sh (.int (szF g))) s6 (.sh (grD (rank cs g).2)) s8 s9 s10) K := by
                  intro K hK
                  unfold t_loading_7
                  rw [er] at hK
                  generalize rank cs g = rk at *
                  simp [rdVar_sh, rl]
                  exact hK
                refine l7 { nx := _, rt := _, bk := _, ct := _ } ?_
                refine l8 (K := { nx := _, rt := _, bk := _, ct := _ }) ?_
                exact hnx
            · have hz : szF g < cs.length := by omega
              obtain ⟨c, hc, hat, hnm⟩ := at_cr G hz
              have Wm := W.more G hz hnm (h1 c hc)
              have Im := SI.kids (wg := wg) I hz hnm
              have mk := meas_kids (cs := cs) (wg := wg) (n := c.nm) hz gl
              have hlt2 : meas cs.length (S ++ kids cs wg c.nm g) < meas cs.length (S ++ [g]) := by rw [meas_app, meas_app]; omega
              unfold t_loading_5
              have cz' : ¬ ((szF g : Nat) : Int) = (cs.length : Int) := by omega
              have ag : addD (grD g) (.tuple [.tuple [nD c.nm]]) = some (grD (g ++ [[c.nm]])) := add_g (b := [[c.nm]]) (by rw [List.length_singleton]; omega)
              have hsl : S.length < big := by simp only [big]; omega
              have e8 : S.map grD ++ [grD (g ++ [[c.nm]])] = (S ++ [g ++ [[c.nm]]]).map grD := by rw [List.map_append]; rfl
              have fin := l11 (cs := cs) (wg := wg) (best := best) (s5 := .sh (.int (szF g))) (s7 := s7) (s8 := s8) (s9 := s9) (s10 := s10) (K := { nx := N, rt := fun fr d _ => Kq fr d, bk := fun ρ => rdS Φ (.ret (.p2 .ix (.v 2) (.k (.int 1)))) ρ (ktF Kq), ct := N }) (g := g) (S := S) (n := c.nm) gl grl (by omega) (fun s9 s10 h10 => hN _ _ hlt2 ⟨S ++ kids cs wg c.nm g, best, _, _, _, _, _, s9, s10, rfl, by omega, Wm, Im, h10, rfl⟩) h10
              rw [← e8] at fin
              simp [cz', t_loading_9, rdVar_sh, hat, c0, t_loading_10, ag, mustL]
              exact ⟨hsl, fin⟩
          simp only [hne]
          simp [mustL, hp, hd, hne, t_loading_3, -List.map_append, -List.getElem?_map]
          cases best with
          | none =>
            have t := tail (by rintro ⟨b, e, _⟩; cases e)
            simp [ktF] at t
            simp [optRk] at t ⊢
            exact t
          | some b =>
            by_cases c : b.1 < g.length
            · have hnx := hN (meas cs.length S) _ hlt ⟨S, some b, .sh (grD g), s5, s6, s7, s8, s9, s10, rfl, by omega, W.cut c, W1, h10, rfl⟩
              simp [optRk, isNoneD, i0, c]
              exact hnx
            · have t := tail (by rintro ⟨b', e, h'⟩; cases e; exact c h')
              simp [ktF] at t
              simp [optRk, isNoneD, i0, c] at t ⊢
              exact t
end K42

namespace K42
open PySem Z
theorem r__law_crates (ds : List PyData) (Kq : Bool → PyData → Prop) (hl : ds.length = 1) (h : Φ 12 ds Kq) : rdB Φ b__law_crates (startS c__law_crates.N (.dr :: ds.map .sh)) (ktD Kq) := by
  refine h.elim ?_ (noT rfl)
  rintro ⟨rfl, kk⟩
  unfold b__law_crates t__law_crates_0
  have e5 : ∀ k : Int, 0 ≤ k → k < 4 → slHD (.list [.str "ca", .str "cb", .str "cc", .str "cd", .str "ce"]) (.int (1 + k)) = some (.list ((U4.take (1 + k).toNat).map nD)) := by
    intro k h0 h1
    have : k = 0 ∨ k = 1 ∨ k = 2 ∨ k = 3 := by omega
    rcases this with rfl | rfl | rfl | rfl <;> rfl
  simp [stE, c__law_crates, n__law_crates, ktD, rdVar_sh, isDr, wipeE]
  intro k k0 k1
  rw [e5 k k0 k1]
  simp [lock, wipeE, -List.map_take]
  refine compW_inv (fun ds acc => ∃ (a : List Cr) (rest : List Nm), ds = rest.map nD ∧ acc = a.map crD ∧ a.map (fun c => c.nm) ++ rest = U4.take (1 + k).toNat ∧ ∀ c ∈ a, 1 ≤ c.l ∧ c.l ≤ 6 ∧ 1 ≤ c.w ∧ c.w ≤ 6 ∧ 1 ≤ c.s ∧ c.s ≤ 3) ?_ ?_ _ _ ⟨[], U4.take (1 + k).toNat, rfl, rfl, rfl, fun _ h => nomatch h⟩
  · rintro d ds acc R ⟨a, rest, hd, rfl, he, ht⟩ r1 r2
    cases rest with
    | nil => cases hd
    | cons n rest =>
      rw [List.map_cons] at hd
      obtain ⟨rfl, rfl⟩ := List.cons.inj hd
      simp [rdVar_sh, isDr]
      intro x x0 x1 y y0 y1 z z0 z1
      have := r1 (crD ⟨n, 1 + x, 1 + y, 1 + z⟩) ⟨a ++ [⟨n, 1 + x, 1 + y, 1 + z⟩], rest, rfl, by simp, by rw [← he]; simp, fun c hc => by
        rcases List.mem_append.1 hc with hc | hc
        · exact ht c hc
        · rw [List.mem_singleton.1 hc]
          exact ⟨by show 1 ≤ 1 + x; omega, by show 1 + x ≤ 6; omega, by show 1 ≤ 1 + y; omega, by show 1 + y ≤ 6; omega, by show 1 ≤ 1 + z; omega, by show 1 + z ≤ 3; omega⟩⟩
      simpa [wipeE] using this
  · rintro acc ⟨a, rest, hd, rfl, he, ht⟩
    have : rest = [] := List.map_eq_nil_iff.1 hd.symm
    subst this
    rw [List.append_nil] at he
    have hlen : a.length = (1 + k).toNat := by
      have := congrArg List.length he
      rw [List.length_map, List.length_take] at this
      simp at this
      omega
    simp [tupleD, seqD, restE, unlock, isDr]
    exact kk a ⟨⟨by omega, by omega⟩, by rw [hlen]; exact he, ht⟩
abbrev oE (r1 : Row) (s1 s2 s3 s4 : Sl) : Z.Env := [.sh (rowD r1), s1, s2, s3, s4, .no]
theorem ords_snoc (ns : Row) (n : Nm) : ords (ns ++ [n]) = (ords ns).flatMap (insA n) := by unfold ords; rw [List.foldl_append]; rfl
theorem ords_len : ∀ {ns : Row}, ns.length ≤ 4 → (ords ns).length ≤ 5 ^ ns.length := by
  intro ns
  refine snoc_ind (P := fun ns : Row => ns.length ≤ 4 → (ords ns).length ≤ 5 ^ ns.length) (fun _ => by simp [ords]) (fun ns n ih h => ?_) ns
  rw [List.length_append, List.length_singleton] at h ⊢
  have ih := ih (by omega)
  have := flat_len (f := insA n) (m := 5) (xs := ords ns) fun o ho => by
    have := ((mem_ords ns o).1 ho).length_eq
    unfold insA
    rw [List.length_map, List.length_range]
    omega
  rw [ords_snoc, Nat.pow_succ]
  exact Nat.le_trans this (Nat.mul_le_mul_right 5 ih)
theorem five {k : Nat} (h : k ≤ 4) : 5 ^ k ≤ 625 := by
  have : 5 ^ k ≤ 5 ^ 4 := Nat.pow_le_pow_right (by omega) h
  omega
theorem slH_r (g : Row) (k : Nat) : slHD (rowD g) (.int (k : Int)) = some (rowD (g.take k)) := by
  have := slH_m nD g (k := (k : Int)) (by omega)
  rwa [Int.toNat_natCast] at this
theorem slL_r (g : Row) (k : Nat) : slLD (rowD g) (.int (k : Int)) = some (rowD (g.drop k)) := by
  show some (PyData.tuple (cut (g.map nD) (some (k : Int)) none)) = _
  rw [cut_lo, ← List.map_drop]
theorem r__law_orders (ds : List PyData) (Kq : Bool → PyData → Prop) (hl : ds.length = 1) (h : Φ 14 ds Kq) : rdB Φ b__law_orders (startS c__law_orders.N (ds.map .sh)) (ktF Kq) := by
  refine h.elim ?_ (noT rfl)
  rintro ⟨ns, rfl, hn, kk⟩
  unfold b__law_orders t__law_orders_0 t__law_orders_1
  simp [stE, c__law_orders, n__law_orders, ktF, rdVar_sh, lock]
  have st0 : PyData.list [.tuple []] = .list ((ords []).map rowD) := rfl
  rw [st0]
  refine forW_list nD (fun (rest : Row) ρ => ∃ (ys : Row) (s1 s2 s3 s4 : Sl), ns = ys ++ rest ∧ (s1 = .ow (.list ((ords ys).map rowD)) ∨ s1 = .sh (.list ((ords ys).map rowD))) ∧ ρ = oE ns s1 s2 s3 s4) ?_ ?_ _ _ ⟨[], _, _, _, _, rfl, .inl rfl, rfl⟩
  · rintro n rest ρ N ⟨ys, s1, s2, s3, s4, e, h1, rfl⟩ hN
    have hy : ys.length + 1 ≤ 4 := by have h9 := congrArg List.length e; simp at h9; omega
    have l1 := ords_len (ns := ys ++ [n]) (by rw [List.length_append, List.length_singleton]; exact hy)
    rw [List.length_append, List.length_singleton] at l1
    have l2 := five hy
    have main : ∀ (s1 : Sl) (K : Kt), (∀ s4, K.nx (oE ns s1 (.sh (nD n)) (.ow (.list ((ords (ys ++ [n])).map rowD))) s4)) →
        forW (.nm 4) (rdB Φ (.cons t__law_orders_3 .nil)) K ((ords ys).map rowD) (oE ns s1 (.sh (nD n)) (.ow (.list [])) s4) := by
      intro s1 K hK
      rw [ords_snoc] at hK l1
      refine forW_flat rowD (fun (acc : List Row) ρ => ∃ s4, ρ = oE ns s1 (.sh (nD n)) (.ow (.list (acc.map rowD))) s4) (insA n) (ords ys) 625 (by omega) ⟨_, rfl⟩ ?_ ?_
      · rintro o acc ρ N ho hlen ⟨s4, rfl⟩ hN
        have ol := ((mem_ords ys o).1 ho).length_eq
        have hnx := hN _ ⟨.sh (rowD o), rfl⟩
        simp [t__law_orders_3, lim, wipeE]
        refine ⟨by omega, by omega, ?_⟩
        have eu : ups 0 (((o.length : Int) + 1).toNat) = (List.range (o.length + 1)).map fun i : Nat => PyData.int (i : Nat) := by
          have e1 : ((o.length : Int) + 1).toNat = o.length + 1 := by omega
          rw [e1]
          unfold ups
          refine List.map_congr_left fun i _ => ?_
          simp
        first
          | rw [eu]
          | (have e1 : ups 0 (o.length + 1) = (List.range (o.length + 1)).map fun i : Nat => PyData.int (i : Nat) := by
               unfold ups
               refine List.map_congr_left fun i _ => ?_
               simp
             rw [e1])
        refine compW_onA (fun i : Nat => PyData.int (i : Nat)) (fun i => rowD (o.take i ++ [n] ++ o.drop i)) (fun i hi R q => ?_) ?_
        · have a1 : addD (rowD (o.take i)) (.tuple [nD n]) = some (rowD (o.take i ++ [n])) := add_r (b := [n]) (by rw [List.length_take, List.length_singleton]; omega)
          have a2 : addD (rowD (o.take i ++ [n])) (rowD (o.drop i)) = some (rowD (o.take i ++ [n] ++ o.drop i)) := add_r (by rw [List.length_append, List.length_take, List.length_singleton, List.length_drop]; omega)
          have hh := slH_r o i
          have hh2 := slL_r o i
          generalize rowD (o.take i ++ [n] ++ o.drop i) = nw at *
          generalize rowD (o.take i ++ [n]) = n1 at *
          simp [rdVar_sh, hh, hh2, a1, a2, wipeE]
          exact q
        · have e1 : (List.range (o.length + 1)).map (fun i => rowD (o.take i ++ [n] ++ o.drop i)) = (insA n o).map rowD := by unfold insA; rw [List.map_map]; rfl
          rw [e1]
          have al := add_ll (xs := acc.map rowD) (ys := (insA n o).map rowD) (by simp only [List.length_map, big]; omega)
          rw [← List.map_append] at al
          generalize (acc ++ insA n o).map rowD = res at *
          generalize (insA n o).map rowD = ad at *
          simp [restE, unlock, al]
          exact hnx
      · rintro ρ ⟨s4, rfl⟩
        exact hK s4
    have fin : ∀ s4, N (oE ns (.sh (.list ((ords (ys ++ [n])).map rowD))) (.sh (nD n)) (.sh (.list ((ords (ys ++ [n])).map rowD))) s4) := fun s4 => hN _ ⟨ys ++ [n], _, _, _, _, by rw [e]; simp, .inr rfl, rfl⟩
    simp [t__law_orders_2]
    rcases h1 with rfl | rfl
    · simp [lock]
      refine main (.lk _) { nx := _, rt := _, bk := _, ct := _ } fun s4 => ?_
      simp [unlock, rdVar_ow]
      exact fin _
    · simp [lock]
      refine main (.sh _) { nx := _, rt := _, bk := _, ct := _ } fun s4 => ?_
      simp [unlock, rdVar_ow]
      exact fin _
  · rintro ρ ⟨ys, s1, s2, s3, s4, e, h1, rfl⟩
    rw [List.append_nil] at e
    subst e
    rcases h1 with rfl | rfl
    · simp [unlock, ret_ow]
      simpa using kk true
    · simp [unlock, ret_sh]
      simpa using kk false
end K42

namespace K42
open PySem Z
def okAt (cs : List Cr) (r : Row) (k : Nat) : Bool := (List.range k).all fun j => !decide ((own cs (r.getD j 0)).s < (own cs (r.getD k 0)).s)
theorem pairs_at (cs : List Cr) (r : Row) : pairsOk cs r = (List.range r.length).all (okAt cs r) := rfl
theorem ups_nat (n : Nat) : ups 0 n = (List.range n).map fun i : Nat => PyData.int (i : Nat) := by
  unfold ups
  refine List.map_congr_left fun i _ => ?_
  simp
theorem r__law_drive (ds : List PyData) (Kq : Bool → PyData → Prop) (hl : ds.length = 3) (h : Φ 13 ds Kq) : rdB Φ b__law_drive (startS c__law_drive.N (ds.map .sh)) (ktF Kq) := by
  refine h.elim ?_ (noT rfl)
  rintro ⟨cs, wg, r, rfl, G, ⟨nd, hr⟩, kk⟩
  have rl : r.length ≤ 4 := by
    have u4 : ∀ k : Nm, k ∈ U4 := by decide
    have := len_nodup (xs := r) (ns := U4) nd fun k hk => u4 k
    simpa using this
  have ix := fun k (hk : k ∈ r) => (ix_dic keyN (v := crD) k (stA (fun c => c) cs)).trans (congrArg (Option.map crD) (getA_fold_own (fun c => c) G (hr k hk)))
  simp only [Option.map_some] at ix
  have at' : ∀ j, j < r.length → atD (r.map nD) (j : Int) = some (nD (r.getD j 0)) := fun j hj => at_getD nD 0 r hj
  have mem' : ∀ j, j < r.length → r.getD j 0 ∈ r := fun j hj => by
    rw [List.getD_eq_getElem?_getD, List.getElem?_eq_getElem hj, Option.getD_some]
    exact List.getElem_mem hj
  unfold b__law_drive t__law_drive_0 t__law_drive_1
  simp [stE, c__law_drive, n__law_drive, ktF, rdVar_sh, lock, wipeE]
  refine compW_onA crD (fun c => .tuple [nD c.nm, crD c]) (fun c hc R q => ?_) ?_
  · simp [c0, rdVar_sh, wipeE]
    exact q
  · have dd := dict_on (vf := crD) ordN.toEnc (fun _ => rfl) (fun c : Cr => c.nm) (fun c => c) cs
    have ed : foldA (fun c : Cr => c.nm) (fun c => c) cs = stA (fun c => c) cs := rfl
    rw [ed] at dd
    generalize dicD nD crD (stA (fun c => c) cs) = od at *
    rw [dd]
    simp [restE, unlock, lim]
    refine ⟨by omega, ?_⟩
    refine forW_ups0 (fun i ρ => (∀ k, k < i → okAt cs r k = true) ∧ ∃ s4, ρ = [.sh (csD cs), .sh (wgD wg), .sh (rowD r), .ow (.dict od), s4, .no, .no, .no]) ?_ ?_ ⟨fun k hk => by omega, _, rfl⟩
    · rintro i ρ N hi ⟨hok, s4, rfl⟩ hN
      have hi' : i < r.length := by omega
      simp [t__law_drive_2, rdVar_sh, lim, wipeE]
      refine ⟨by omega, ?_⟩
      rw [ups_nat]
      refine compW_onA (fun j : Nat => PyData.int (j : Nat)) (fun j => .bool (decide ((own cs (r.getD j 0)).s < (own cs (r.getD i 0)).s))) (fun j hj R q => ?_) ?_
      · have hj' : j < r.length := by have := List.mem_range.1 hj; omega
        have a1 := at' j hj'
        have a2 := at' i hi'
        have b1 := ix _ (mem' j hj')
        have b2 := ix _ (mem' i hi')
        generalize r.getD j 0 = kj at *
        generalize r.getD i 0 = ki at *
        simp [rdVar_sh, a1, a2, b1, b2, c3, wipeE]
        exact q
      · rw [anyD_map]
        have ea : ((List.range i).any fun j => decide ((own cs (r.getD j 0)).s < (own cs (r.getD i 0)).s)) = !okAt cs r i := by
          unfold okAt
          rw [List.all_eq_not_any_not]
          simp
        rw [ea]
        cases ho : okAt cs r i with
        | true =>
          simp [restE, unlock]
          refine hN _ ⟨fun k hk => ?_, _, rfl⟩
          by_cases c : k = i
          · subst c; exact ho
          · exact hok k (by omega)
        | false =>
          have : pairsOk cs r = false := by
            rw [pairs_at, List.all_eq_false]
            exact ⟨i, List.mem_range.2 hi', by rw [ho]; simp⟩
          unfold drive at kk
          rw [this] at kk
          simp [restE, unlock]
          exact kk
    · rintro ρ ⟨hok, s4, rfl⟩
      have : pairsOk cs r = true := by
        rw [pairs_at, List.all_eq_true]
        intro k hk
        exact hok k (List.mem_range.1 hk)
      unfold drive at kk
      rw [this, Bool.true_and] at kk
      simp [unlock, t__law_drive_3, lock, wipeE]
      refine compW_onA nD (fun k => .int (own cs k).l) (fun k hk R q => ?_) ?_
      · simp [rdVar_sh, ix k hk, c1, wipeE]
        exact q
      · have e : r.map (fun k => PyData.int (own cs k).l) = (r.map fun k => (own cs k).l).map .int := by rw [List.map_map]; rfl
        rw [e, sum_ints]
        simp [restE, unlock, i0]
        by_cases c5 : (r.map fun k => (own cs k).l).sum ≤ wg.1
        · have c6 : ¬ wg.1 < (r.map fun k => (own cs k).l).sum := by omega
          simp [c5] at kk
          simp [c5, c6, lock, wipeE]
          refine compW_onA nD (fun k => .int (own cs k).w) (fun k hk R q => ?_) ?_
          · simp [rdVar_sh, ix k hk, c2, wipeE]
            exact q
          · have e : r.map (fun k => PyData.int (own cs k).w) = (r.map fun k => (own cs k).w).map .int := by rw [List.map_map]; rfl
            have s2 := not_lt_dec wg.2 (r.map fun k => (own cs k).w).sum
            rw [e, sum_ints]
            simp [restE, unlock, i1, s2]
            exact kk
        · have c6 : wg.1 < (r.map fun k => (own cs k).l).sum := by omega
          simp [c5] at kk
          simp [c5, c6]
          exact kk
end K42

namespace K42
open PySem Z
theorem Φsame {k : Nat} {a d : PyData} {K : Bool → PyData → Prop} (e : a = d) (h : okM k a) (l : k ≤ 20) (q : K false (.bool true)) : Φ 11 [a, d] K := by
  subst e
  exact same_self h l q
abbrev NS (cs : List Cr) : Row := cs.map fun c => c.nm
abbrev EV (cs : List Cr) (wg : Wg) (s2 s3 s4 s5 s6 s7 s8 s11 s12 s13 s14 s15 s16 : Sl) : Z.Env :=
  [.no, .dr, s2, s3, s4, s5, s6, s7, s8, .sh (csD cs), .sh (wgD wg), s11, s12, s13, s14, s15, s16, .no, .no, .no]
section
variable {cs : List Cr} {wg : Wg} {s2 s3 s4 s5 s6 s7 s8 s11 s12 s13 s14 s15 s16 : Sl} {K : Kt}
theorem w0 (h : ∀ cs wg, GC cs → GW wg → K.nx (EV cs wg .no .no .no .no .no .no .no .no .no .no .no .no .no)) :
    rdS Φ t_law_0 [.no, .dr, .no, .no, .no, .no, .no, .no, .no, .no, .no, .no, .no, .no, .no, .no, .no, .no, .no, .no] K := by
  unfold t_law_0
  simp [isDr]
  refine Or.inl ⟨rfl, fun cs G => ?_⟩
  simp [isDr]
  intro a a0 a1 b b0 b1
  simp [setAll]
  exact h cs (3 + a, 3 + b) G ⟨by show 1 ≤ 3 + a; omega, by show 3 + a ≤ 999; omega, by show 1 ≤ 3 + b; omega, by show 3 + b ≤ 999; omega⟩
variable (G : GC cs)
include G
theorem w1 (W : GW wg) (h : K.nx (EV cs wg s2 s3 s4 s5 s6 s7 s8 s11 s12 s13 s14 s15 s16)) : rdS Φ t_law_1 (EV cs wg s2 s3 s4 s5 s6 s7 s8 s11 s12 s13 s14 s15 s16) K := by
  unfold t_law_1
  simp [rdVar_sh]
  refine Or.inl ⟨cs, rfl, G, ?_⟩
  simp [rdVar_sh]
  refine Or.inl ⟨wg, rfl, W, ?_⟩
  simpa using h
theorem w2 (h : K.nx (EV cs wg s2 s3 s4 s5 s6 s7 s8 (.ow (.list ((NS cs).map nD))) (.ow (.list ((parts []).map grD))) s13 s14 s15 s16)) : rdS Φ t_law_2 (EV cs wg s2 s3 s4 s5 s6 s7 s8 s11 s12 s13 s14 s15 s16) K := by
  unfold t_law_2
  simp [lock, wipeE]
  refine compW_onA crD (fun c => nD c.nm) (fun c hc R q => ?_) ?_
  · simp [c0, wipeE]
    exact q
  · have e : cs.map (fun c => nD c.nm) = (NS cs).map nD := by rw [List.map_map]; rfl
    rw [e]
    generalize NS cs = ns at *
    simp [restE, unlock, setAll]
    exact h
theorem inC_of {r : Row} (h : r.Sublist r) {p : Row} (hp : p.Perm (NS cs)) (hs : r.Sublist p) : inC cs r :=
  ⟨(hp.nodup_iff.2 (nms_nd G)).sublist hs, fun k hk => (nm_in G).1 (hp.mem_iff.1 (hs.subset hk))⟩
theorem w3 (h : ∀ r, inC cs r → K.nx (EV cs wg (.sh (rowD r)) .no s4 s5 s6 s7 s8 (.ow (.list ((NS cs).map nD))) s12 s13 s14 s15 s16)) : rdS Φ t_law_3 (EV cs wg s2 .no s4 s5 s6 s7 s8 (.ow (.list ((NS cs).map nD))) s12 s13 s14 s15 s16) K := by
  have hn := G.n
  have hl : (NS cs).length = cs.length := List.length_map ..
  have ic := fun r p (hp : List.Perm p (NS cs)) (hs : List.Sublist r p) => inC_of G (r := r) (List.Sublist.refl r) hp hs
  generalize NS cs = ns at *
  unfold t_law_3
  simp [lock, wipeE]
  refine compW_inv (fun ds acc => ∃ (a : List Kx') (rest : List Nm), ds = rest.map nD ∧ acc = a.map kxD ∧ a.map (fun q => q.2) ++ rest = ns) ?_ ?_ _ _ ⟨[], ns, rfl, rfl, rfl⟩
  · rintro d ds acc R ⟨a, rest, hd, rfl, he⟩ r1 r2
    cases rest with
    | nil => cases hd
    | cons n rest =>
      rw [List.map_cons] at hd
      obtain ⟨rfl, rfl⟩ := List.cons.inj hd
      simp [rdVar_sh, isDr]
      intro x x0 x1
      have := r1 (kxD (x, n)) ⟨a ++ [(x, n)], rest, rfl, by simp, by rw [← he]; simp⟩
      simpa [wipeE] using this
  · rintro acc ⟨a, rest, hd, rfl, he⟩
    have : rest = [] := List.map_eq_nil_iff.1 hd.symm
    subst this
    rw [List.append_nil] at he
    have so := sorted_on ordKx (fun a => ⟨_, _, rfl⟩) a
    have hp : ((sortB ltKx a).map fun q => q.2).Perm ns := by rw [← he]; exact (sort_perm _ _).map _
    simp only [so]
    generalize sortB ltKx a = xs at *
    simp [restE, unlock, lock, wipeE]
    refine compW_onA kxD (fun q => nD q.2) (fun q hq R r => ?_) ?_
    · simp [i1, wipeE]
      exact r
    · have e2 : xs.map (fun q => nD q.2) = (xs.map fun q => q.2).map nD := by rw [List.map_map]; rfl
      rw [e2]
      generalize xs.map (fun q => q.2) = ys at *
      simp [restE, unlock, isDr, -List.map_take]
      refine ⟨by omega, by omega, fun d d0 d1 => ?_⟩
      have sl := slH_l nD ys d0
      simp [sl, tupleD, seqD, -List.map_take]
      exact h _ (ic _ ys hp (List.take_sublist _ _))
theorem w4 {r : Row} (hr : inC cs r) (h : K.nx (EV cs wg (.sh (rowD r)) s3 s4 s5 s6 s7 s8 s11 s12 s13 s14 s15 s16)) : rdS Φ t_law_4 (EV cs wg (.sh (rowD r)) s3 s4 s5 s6 s7 s8 s11 s12 s13 s14 s15 s16) K := by
  have e := drive_room G wg hr.1 hr.2
  unfold t_law_4
  simp [rdVar_sh]
  refine Or.inl ⟨cs, wg, r, rfl, G, hr, ?_⟩
  simp [rdVar_sh]
  rw [← e]
  cases hb : drive cs wg r with
  | true =>
    try simp [rdVar_sh]
    refine Or.inl ⟨cs, wg, r, rfl, G, hr, ?_⟩
    rw [hb]
    simpa using h
  | false =>
    try simp [rdVar_sh]
    refine Or.inl ⟨cs, wg, r, rfl, G, hr, ?_⟩
    rw [hb]
    simpa using h
omit G in
theorem parts_snoc (ns : Row) (n : Nm) : parts (ns ++ [n]) = (parts ns).flatMap (nxt n) := by unfold parts; rw [List.foldl_append]; rfl
omit G in
theorem parts_len : ∀ {ns : Row}, ns.length ≤ 4 → (parts ns).length ≤ 5 ^ ns.length := by
  intro ns
  refine snoc_ind (P := fun ns : Row => ns.length ≤ 4 → (parts ns).length ≤ 5 ^ ns.length) (fun _ => by simp [parts]) (fun ns n ih h => ?_) ns
  rw [List.length_append, List.length_singleton] at h ⊢
  have ih := ih (by omega)
  have := flat_len (f := nxt n) (m := 5) (xs := parts ns) fun g hg => by
    have := (gOk_len (gOk_parts hg)).1
    unfold nxt
    rw [List.length_cons, List.length_map, List.length_range]
    omega
  rw [parts_snoc, Nat.pow_succ]
  exact Nat.le_trans this (Nat.mul_le_mul_right 5 ih)
theorem w5 (h : ∀ s3 s5 s12 s13, (s12 = .ow (.list ((parts (NS cs)).map grD)) ∨ s12 = .sh (.list ((parts (NS cs)).map grD))) → K.nx (EV cs wg s2 s3 s4 s5 s6 s7 s8 (.ow (.list ((NS cs).map nD))) s12 s13 s14 s15 s16)) :
    rdS Φ t_law_5 (EV cs wg s2 .no s4 .no s6 s7 s8 (.ow (.list ((NS cs).map nD))) (.ow (.list ((parts []).map grD))) .no s14 s15 s16) K := by
  have hn := G.n
  have hl : (NS cs).length = cs.length := List.length_map ..
  generalize NS cs = ns at *
  unfold t_law_5
  simp [lock]
  refine forW_list nD (fun (rest : Row) ρ => ∃ (ys : Row) (s3 s5 s12 s13 : Sl), ns = ys ++ rest ∧ (s12 = .ow (.list ((parts ys).map grD)) ∨ s12 = .sh (.list ((parts ys).map grD))) ∧ ρ = EV cs wg s2 s3 s4 s5 s6 s7 s8 (.lk (.list (ns.map nD))) s12 s13 s14 s15 s16) ?_ ?_ _ _ ⟨[], _, _, _, _, rfl, .inl rfl, rfl⟩
  · rintro n rest ρ N ⟨ys, s3, s5, s12, s13, e, h1, rfl⟩ hN
    have hy : ys.length + 1 ≤ 4 := by have h9 := congrArg List.length e; simp at h9; omega
    have l1 := parts_len (ns := ys ++ [n]) (by rw [List.length_append, List.length_singleton]; exact hy)
    rw [List.length_append, List.length_singleton] at l1
    have l2 := five hy
    have main : ∀ (s12 : Sl) (K : Kt), (∀ s5, K.nx (EV cs wg s2 (.sh (nD n)) s4 s5 s6 s7 s8 (.lk (.list (ns.map nD))) s12 (.ow (.list ((parts (ys ++ [n])).map grD))) s14 s15 s16)) →
        forW (.nm 5) (rdB Φ (.cons t_law_7 (.cons t_law_8 .nil))) K ((parts ys).map grD) (EV cs wg s2 (.sh (nD n)) s4 s5 s6 s7 s8 (.lk (.list (ns.map nD))) s12 (.ow (.list [])) s14 s15 s16) := by
      intro s12 K hK
      rw [parts_snoc] at hK l1
      refine forW_flat grD (fun (acc : List Gr) ρ => ∃ s5, ρ = EV cs wg s2 (.sh (nD n)) s4 s5 s6 s7 s8 (.lk (.list (ns.map nD))) s12 (.ow (.list (acc.map grD))) s14 s15 s16) (nxt n) (parts ys) 625 (by omega) ⟨_, rfl⟩ ?_ ?_
      · rintro g acc ρ N ho hlen ⟨s5, rfl⟩ hN
        have ok := gOk_parts ho
        have gl := (gOk_len ok).1
        have hnx := hN _ ⟨.sh (grD g), rfl⟩
        have ag : addD (grD g) (.tuple [.tuple [nD n]]) = some (grD (g ++ [[n]])) := add_g (b := [[n]]) (by rw [List.length_singleton]; omega)
        have hal : acc.length ≤ 625 := by omega
        have hsl : acc.length < big := by simp only [big]; omega
        have nl : (nxt n g).length ≤ 6 := by unfold nxt; rw [List.length_cons, List.length_map, List.length_range]; omega
        have en : acc ++ nxt n g = (acc ++ [g ++ [[n]]]) ++ ((List.range g.length).map fun k => g.take k ++ [g.getD k [] ++ [n]] ++ g.drop (k + 1)) := by unfold nxt; simp
        rw [en, List.map_append] at hnx
        have e8 : acc.map grD ++ [grD (g ++ [[n]])] = (acc ++ [g ++ [[n]]]).map grD := by rw [List.map_append]; rfl
        have al := add_ll (xs := (acc ++ [g ++ [[n]]]).map grD) (ys := ((List.range g.length).map fun k => g.take k ++ [g.getD k [] ++ [n]] ++ g.drop (k + 1)).map grD) (by rw [List.length_map, List.length_append, List.length_map, List.length_map, List.length_range, List.length_singleton]; simp only [big]; omega)
        simp [t_law_7, rdVar_sh, ag, mustL]
        refine ⟨hsl, ?_⟩
        rw [e8]
        generalize (acc ++ [g ++ [[n]]]).map grD = a1 at *
        simp [t_law_8, lim, wipeE]
        refine ⟨by omega, ?_⟩
        rw [ups_nat]
        refine compW_onA (fun i : Nat => PyData.int (i : Nat)) (fun i => grD (g.take i ++ [g.getD i [] ++ [n]] ++ g.drop (i + 1))) (fun i hi R q => ?_) ?_
        · have hi := List.mem_range.1 hi
          have rl : (g.getD i []).length ≤ 4 := by
            rw [List.getD_eq_getElem?_getD, List.getElem?_eq_getElem hi, Option.getD_some]
            have h5 := List.sublist_flatten_of_mem (List.getElem_mem hi)
            have h6 := h5.length_le
            have h7 := ok.1.length_eq
            omega
          have hat : atD (g.map rowD) (i : Int) = some (rowD (g.getD i [])) := at_getD rowD [] g hi
          have ar : addD (rowD (g.getD i [])) (.tuple [nD n]) = some (rowD (g.getD i [] ++ [n])) := add_r (b := [n]) (by rw [List.length_singleton]; omega)
          have b1 : addD (grD (g.take i)) (.tuple [rowD (g.getD i [] ++ [n])]) = some (grD (g.take i ++ [g.getD i [] ++ [n]])) := add_g (b := [g.getD i [] ++ [n]]) (by rw [List.length_take, List.length_singleton]; omega)
          have b2 : addD (grD (g.take i ++ [g.getD i [] ++ [n]])) (grD (g.drop (i + 1))) = some (grD (g.take i ++ [g.getD i [] ++ [n]] ++ g.drop (i + 1))) := add_g (by rw [List.length_append, List.length_take, List.length_singleton, List.length_drop]; omega)
          have hh := slH_g g i
          have hh2 := slL_g g i
          generalize grD (g.take i ++ [g.getD i [] ++ [n]] ++ g.drop (i + 1)) = nw at *
          generalize grD (g.take i ++ [g.getD i [] ++ [n]]) = n1 at *
          generalize g.getD i [] = ri at *
          simp [rdVar_sh, hh, hh2, hat, ar, b1, b2, wipeE]
          exact q
        · have e1 : (List.range g.length).map (fun i => grD (g.take i ++ [g.getD i [] ++ [n]] ++ g.drop (i + 1))) = ((List.range g.length).map fun k => g.take k ++ [g.getD k [] ++ [n]] ++ g.drop (k + 1)).map grD := by rw [List.map_map]; rfl
          rw [e1]
          generalize ((List.range g.length).map fun k => g.take k ++ [g.getD k [] ++ [n]] ++ g.drop (k + 1)).map grD = a2 at *
          simp [restE, unlock, al]
          exact hnx
      · rintro ρ ⟨s5, rfl⟩
        exact hK s5
    have fin : ∀ s5, N (EV cs wg s2 (.sh (nD n)) s4 s5 s6 s7 s8 (.lk (.list (ns.map nD))) (.sh (.list ((parts (ys ++ [n])).map grD))) (.sh (.list ((parts (ys ++ [n])).map grD))) s14 s15 s16) := fun s5 => hN _ ⟨ys ++ [n], _, _, _, _, by rw [e]; simp, .inr rfl, rfl⟩
    simp [t_law_6]
    rcases h1 with rfl | rfl
    · simp [lock]
      refine main (.lk _) { nx := _, rt := _, bk := _, ct := _ } fun s5 => ?_
      simp [unlock, rdVar_ow]
      exact fin _
    · simp [lock]
      refine main (.sh _) { nx := _, rt := _, bk := _, ct := _ } fun s5 => ?_
      simp [unlock, rdVar_ow]
      exact fin _
  · rintro ρ ⟨ys, s3, s5, s12, s13, e, h1, rfl⟩
    rw [List.append_nil] at e
    subst e
    simp [unlock]
    exact h _ _ _ _ h1
end
end K42

namespace K42
open PySem Z
def rO : Option Row → PyData
  | none => .none
  | some r => rowD r
theorem encR : Enc rowD := ordR.toEnc
theorem encRO : Enc rO where
  e a b := by
    cases a with
    | none => cases b <;> simp [rO, PyData.eqv]
    | some x =>
      cases b with
      | none => simp [rO, PyData.eqv]
      | some y =>
        show PyData.eqv (rowD x) (rowD y) = _
        rw [encR.e]
        by_cases c : x = y <;> simp [c]
  p a := by
    cases a with
    | none => rfl
    | some x => exact encR.p x
  d a := by
    cases a with
    | none => simp [rO, PyData.depth]
    | some x => exact encR.d x
def tF (cs : List Cr) (wg : Wg) (r : Row) : Option Row := if room cs wg r = true then some (lrow cs r) else none
section
variable {cs : List Cr} {wg : Wg} {s2 s3 s4 s5 s6 s7 s8 s11 s12 s13 s14 s15 s16 : Sl} {K : Kt} (G : GC cs)
include G
theorem w11 {r : Row} (hr : inC cs r) (h : K.nx (EV cs wg s2 s3 s4 s5 .no s7 s8 s11 s12 s13 s14 (.sh (rowD r)) (.ow (.list (((ords r).filter (drive cs wg)).map rowD))))) : rdS Φ t_law_11 (EV cs wg s2 s3 s4 s5 .no s7 s8 s11 s12 s13 s14 (.sh (rowD r)) s16) K := by
  have rl : r.length ≤ 4 := by
    have u4 : ∀ k : Nm, k ∈ U4 := by decide
    have := len_nodup (xs := r) (ns := U4) hr.1 fun k hk => u4 k
    simpa using this
  unfold t_law_11
  simp [rdVar_sh]
  refine Or.inl ⟨r, rfl, rl, fun fr => ?_⟩
  simp [lock, wipeE]
  refine compW_on rowD (drive cs wg) rowD (fun o ho R q => ?_) ?_
  · have hp := (mem_ords r o).1 ho
    simp [rdVar_sh]
    refine Or.inl ⟨cs, wg, o, rfl, G, ⟨hp.nodup_iff.2 hr.1, fun k hk => hr.2 k (hp.mem_iff.1 hk)⟩, ?_⟩
    cases hd : drive cs wg o with
    | true =>
      rw [hd] at q
      simp [rdVar_sh, wipeE] at q ⊢
      exact q
    | false =>
      rw [hd] at q
      simp [rdVar_sh, wipeE] at q ⊢
      exact q
  · generalize ((ords r).filter (drive cs wg)).map rowD = gd at *
    simp [restE, unlock]
    exact h
theorem w12 {r : Row} {ys : Gr} (hr : inC cs r) (hy : ys.length ≤ 10) (h : ∀ s16, K.nx (EV cs wg s2 s3 s4 s5 s6 s7 s8 s11 s12 s13 (.ow (.list (((ys ++ [r]).map (tF cs wg)).map rO))) s15 s16)) : rdS Φ t_law_12 (EV cs wg s2 s3 s4 s5 s6 s7 s8 s11 s12 s13 (.ow (.list ((ys.map (tF cs wg)).map rO))) s15 (.ow (.list (((ords r).filter (drive cs wg)).map rowD)))) K := by
  have lg := least_good G wg hr.1 hr.2
  have e1 : neD (.list (((ords r).filter (drive cs wg)).map rowD)) (.list []) = _ := (encL encR dep_row).ne ((ords r).filter (drive cs wg)) []
  have ea : ((ys ++ [r]).map (tF cs wg)).map rO = (ys.map (tF cs wg)).map rO ++ [rO (tF cs wg r)] := by rw [List.map_append, List.map_append]; rfl
  rw [ea] at h
  have hl : ((ys.map (tF cs wg)).map rO).length ≤ 10 := by rw [List.length_map, List.length_map]; exact hy
  have mn := fun m (hm : minO ltR ((ords r).filter (drive cs wg)) = some m) => ordR.min hm
  generalize (ords r).filter (drive cs wg) = gd at *
  generalize (ys.map (tF cs wg)).map rO = tl at *
  have al := fun x => add_ll (xs := tl) (ys := [x]) (by rw [List.length_singleton]; simp only [big]; omega)
  unfold t_law_12
  unfold tF at h
  by_cases c : room cs wg r = true
  · rw [if_pos c] at lg h
    have m1 := mn _ lg
    have ng : gd ≠ [] := by rintro rfl; cases lg
    have e2 : rO (some (lrow cs r)) = rowD (lrow cs r) := rfl
    rw [e2] at h
    simp [e1, ng, m1, al]
    exact h _
  · rw [if_neg c] at lg h
    have ng : gd = [] := minO_none.1 lg
    subst ng
    have e0 : neD (.list []) (.list []) = some (.bool false) := by simpa using e1
    have e2 : rO none = .none := rfl
    rw [e2] at h
    simp [e0, al]
    exact h _
theorem w13 {g : Gr} {rs : List Rk} (ok : gOk (NS cs) g) (hl : rs.length ≤ 1000) (h : K.nx (EV cs wg s2 s3 (.ow (.list ((rs ++ ranks cs wg [g]).map rkD))) s5 s6 s7 s8 s11 s12 s13 (.ow (.list ((g.map (tF cs wg)).map rO))) s15 s16)) : rdS Φ t_law_13 (EV cs wg s2 s3 (.ow (.list (rs.map rkD))) s5 s6 s7 s8 s11 s12 s13 (.ow (.list ((g.map (tF cs wg)).map rO))) s15 s16) K := by
  have nn : ninD .none (.list ((g.map (tF cs wg)).map rO)) = _ := encRO.ninL none (g.map (tF cs wg))
  unfold t_law_13
  unfold ranks at h
  by_cases v : valid cs wg g = true
  · rw [List.filter_cons_of_pos v, List.filter_nil] at h
    have et : (g.map (tF cs wg)).map rO = (g.map (lrow cs)).map rowD := by
      rw [List.map_map, List.map_map]
      refine List.map_congr_left fun r hr => ?_
      show rO (tF cs wg r) = rowD (lrow cs r)
      unfold tF
      rw [if_pos (List.all_eq_true.1 v r hr)]
      rfl
    have nin : none ∉ g.map (tF cs wg) := by
      intro hm
      obtain ⟨r, hr, e⟩ := List.mem_map.1 hm
      unfold tF at e
      rw [if_pos (List.all_eq_true.1 v r hr)] at e
      cases e
    have so := sort_rows (xs := g.map (lrow cs)) fun r hr => by
      obtain ⟨r0, hr0, rfl⟩ := List.mem_map.1 hr
      obtain ⟨a, b, c⟩ := gOk_row ok (nms_nd G) hr0
      exact lrow_ne G a (fun k hk => (nm_in G).1 (b k hk)) c
    have e8 : (rs ++ [g].map (rank cs)).map rkD = rs.map rkD ++ [.tuple [.int (g.length : Nat), grD (sortB ltR (g.map (lrow cs)))]] := by rw [List.map_append]; rfl
    rw [e8] at h
    have hll : rs.length < big := by simp only [big]; omega
    have ln : lenD (.list ((g.map (tF cs wg)).map rO)) = some (.int (g.length : Nat)) := by simp [lenD]
    rw [et] at nn ln h ⊢
    generalize hx : (g.map (lrow cs)).map rowD = xs at *
    generalize sortB ltR (g.map (lrow cs)) = ss at *
    simp [nn, nin, t_law_14, so, ln, tupleD, seqD, mustL]
    exact ⟨hll, h⟩
  · rw [List.filter_cons_of_neg v, List.filter_nil] at h
    have inn : none ∈ g.map (tF cs wg) := by
      have : ∃ r ∈ g, ¬ room cs wg r = true := by
        apply Classical.byContradiction
        intro hc
        apply v
        unfold valid
        rw [List.all_eq_true]
        intro r hr
        apply Classical.byContradiction
        intro h2
        exact hc ⟨r, hr, h2⟩
      obtain ⟨r, hr, h2⟩ := this
      refine List.mem_map.2 ⟨r, hr, ?_⟩
      unfold tF
      rw [if_neg h2]
    rw [List.map_nil, List.append_nil] at h
    generalize g.map (tF cs wg) = tl at *
    simp [nn, inn]
    exact h
theorem w9 (h12 : s12 = .ow (.list ((parts (NS cs)).map grD)) ∨ s12 = .sh (.list ((parts (NS cs)).map grD))) (h : ∀ s5 s12 s14 s15 s16, K.nx (EV cs wg s2 s3 (.ow (.list ((allR cs wg).map rkD))) s5 .no s7 s8 s11 s12 s13 s14 s15 s16)) :
    rdS Φ t_law_9 (EV cs wg s2 s3 (.ow (.list (([] : List Rk).map rkD))) s5 .no s7 s8 s11 s12 s13 s14 s15 s16) K := by
  have hn := G.n
  have hl : (NS cs).length = cs.length := List.length_map ..
  have l1 := parts_len (ns := NS cs) (by omega)
  have l2 := five (k := (NS cs).length) (by omega)
  have main : ∀ (s12 : Sl) (K : Kt), (∀ s5 s14 s15 s16, K.nx (EV cs wg s2 s3 (.ow (.list ((allR cs wg).map rkD))) s5 .no s7 s8 s11 s12 s13 s14 s15 s16)) →
      forW (.nm 5) (rdB Φ (.cons (.asg (.nm 14) (.lst .nil)) (.cons t_law_10 (.cons t_law_13 .nil)))) K ((parts (NS cs)).map grD) (EV cs wg s2 s3 (.ow (.list (([] : List Rk).map rkD))) s5 .no s7 s8 s11 s12 s13 s14 s15 s16) := by
    intro s12 K hK
    refine forW_list grD (fun (rest : List Gr) ρ => ∃ (ys : List Gr) (s5 s14 s15 s16 : Sl), parts (NS cs) = ys ++ rest ∧ ρ = EV cs wg s2 s3 (.ow (.list ((ranks cs wg ys).map rkD))) s5 .no s7 s8 s11 s12 s13 s14 s15 s16) ?_ ?_ _ _ ⟨[], _, _, _, _, rfl, rfl⟩
    · rintro g rest ρ N ⟨ys, s5, s14, s15, s16, e, rfl⟩ hN
      have ok : gOk (NS cs) g := gOk_parts (by rw [e]; simp)
      have hgl := (gOk_len ok).1
      have hy : ys.length ≤ 625 := by
        have h9 := congrArg List.length e
        rw [List.length_append] at h9
        omega
      have hrl : (ranks cs wg ys).length ≤ 1000 := by
        unfold ranks
        rw [List.length_map]
        have := List.length_filter_le (valid cs wg) ys
        omega
      have er : ranks cs wg (ys ++ [g]) = ranks cs wg ys ++ ranks cs wg [g] := by unfold ranks; rw [List.filter_append, List.map_append]
      have hnx := fun s14 s15 s16 => hN _ ⟨ys ++ [g], .sh (grD g), s14, s15, s16, by rw [e]; simp, rfl⟩
      rw [er] at hnx
      generalize ranks cs wg ys = rs at *
      simp [t_law_10, rdVar_sh, lock]
      refine forW_list rowD (fun (rest : Gr) ρ => ∃ (zs : Gr) (s15 s16 : Sl), g = zs ++ rest ∧ ρ = EV cs wg s2 s3 (.ow (.list (rs.map rkD))) (.sh (grD g)) .no s7 s8 s11 s12 s13 (.ow (.list ((zs.map (tF cs wg)).map rO))) s15 s16) ?_ ?_ _ _ ⟨[], s15, s16, rfl, rfl⟩
      · rintro r rest ρ N2 ⟨zs, s15, s16, e2, rfl⟩ hN2
        obtain ⟨a, b, c⟩ := gOk_row ok (nms_nd G) (r := r) (by rw [e2]; simp)
        have hz : zs.length ≤ 10 := by
          have h9 := congrArg List.length e2
          rw [List.length_append] at h9
          omega
        have hr : inC cs r := ⟨a, fun k hk => (nm_in G).1 (b k hk)⟩
        simp [-List.map_map]
        refine w11 G (K := { nx := _, rt := _, bk := _, ct := _ }) hr ?_
        refine w12 G (K := { nx := _, rt := _, bk := _, ct := _ }) hr hz fun s16 => ?_
        exact hN2 _ ⟨zs ++ [r], _, _, by rw [e2]; simp, rfl⟩
      · rintro ρ ⟨zs, s15, s16, e2, rfl⟩
        rw [List.append_nil] at e2
        subst e2
        simp only [unlock]
        exact w13 G (K := { nx := _, rt := _, bk := _, ct := _ }) ok hrl (hnx _ _ _)
    · rintro ρ ⟨ys, s5, s14, s15, s16, e, rfl⟩
      rw [List.append_nil] at e
      subst e
      exact hK _ _ _ _
  unfold t_law_9
  rcases h12 with rfl | rfl
  · simp [lock]
    refine main (.lk _) { nx := _, rt := _, bk := _, ct := _ } fun s5 s14 s15 s16 => ?_
    simp [unlock]
    exact h _ _ _ _ _
  · simp [lock]
    refine main (.sh _) { nx := _, rt := _, bk := _, ct := _ } fun s5 s14 s15 s16 => ?_
    simp [unlock]
    exact h _ _ _ _ _
end
end K42

namespace K42
open PySem Z
section
variable {cs : List Cr} {wg : Wg} {s2 s3 s4 s5 s6 s7 s8 s11 s12 s13 s14 s15 s16 : Sl} {K : Kt}
theorem okM_S {a : Nm} : okM 0 (nD a) := ⟨rfl, by simp [PyData.depth], by revert a; decide +kernel⟩
theorem ok_g (G : GC cs) {g : Gr} (h : loadF cs wg = some g) : okM 2 (grD g) := by
  unfold loadF at h
  obtain ⟨q, hq, rfl⟩ := Option.map_eq_some_iff.1 h
  have hq := ((minO_iff ordRk).1 hq).1
  unfold allR ranks at hq
  obtain ⟨g0, hg0, rfl⟩ := List.mem_map.1 hq
  have ok := gOk_parts (List.mem_filter.1 hg0).1
  have hn := G.n
  have hl : (cs.map fun c => c.nm).length = cs.length := List.length_map ..
  have gl := (gOk_len ok).1
  have sp := sort_perm ltR (g0.map (lrow cs))
  refine okM_t (fun d hd => ?_) ?_
  · obtain ⟨r, hr, rfl⟩ := List.mem_map.1 hd
    obtain ⟨r0, hr0, rfl⟩ := List.mem_map.1 (sp.mem_iff.1 hr)
    refine okM_t (fun d hd => ?_) ?_
    · obtain ⟨n, _, rfl⟩ := List.mem_map.1 hd
      exact okM_S
    · have h1 : (lrow cs r0).length ≤ cs.length := by
        unfold lrow
        rw [List.length_map, (sort_perm _ _).length_eq, List.length_map]
        exact List.length_filter_le ..
      rw [List.length_map]
      simp only [big]
      omega
  · have h1 : (rank cs g0).2.length = g0.length := by
      show (sortB ltR (g0.map (lrow cs))).length = _
      rw [sp.length_eq, List.length_map]
    rw [List.length_map, h1]
    simp only [big]
    omega
theorem w15 (G : GC cs) (h : K.nx (EV cs wg s2 s3 (.ow (.list ((allR cs wg).map rkD))) s5 s6 s7 s8 s11 s12 s13 s14 s15 s16)) : rdS Φ t_law_15 (EV cs wg s2 s3 (.ow (.list ((allR cs wg).map rkD))) s5 s6 s7 s8 s11 s12 s13 s14 s15 s16) K := by
  have e1 : neD (.list ((allR cs wg).map rkD)) (.list []) = _ := (encL ordRk.toEnc (fun q => by
    have := dep_gr q.2
    have h2 : ∀ r : Row, PyData.depthAll (r.map nD) ≤ 1 := by
      intro r
      induction r with
      | nil => simp [PyData.depthAll]
      | cons x r ih => simp [PyData.depthAll, PyData.depth]; omega
    have h3 : ∀ g : Gr, PyData.depthAll (g.map rowD) ≤ 2 := by
      intro g
      induction g with
      | nil => simp [PyData.depthAll]
      | cons x g ih =>
        have := h2 x
        simp only [List.map_cons, PyData.depthAll, PyData.depth]
        omega
    have := h3 q.2
    simp only [PyData.depth, PyData.depthAll]
    omega)).ne (allR cs wg) []
  have ok := fun g => ok_g (wg := wg) G (g := g)
  unfold t_law_15
  simp [rdVar_sh]
  refine Or.inl ⟨cs, wg, rfl, G, ?_⟩
  unfold loadF at ok ⊢
  cases hm : minO ltRk (allR cs wg) with
  | none =>
    have ea := minO_none.1 hm
    rw [ea] at e1 h ⊢
    have e0 : neD (.list []) (.list []) = some (.bool false) := by simpa using e1
    simp [optG, e0]
    refine Φsame (k := 0) rfl okM_n (by omega) ?_
    simpa using h
  | some q =>
    have mn := ordRk.min hm
    have okq := ok q.2 (by rw [hm]; rfl)
    clear ok
    have ne : allR cs wg ≠ [] := by intro e; rw [e] at hm; cases hm
    generalize allR cs wg = rs at *
    simp [optG, e1, ne, mn, i1]
    refine Φsame (k := 2) rfl okq (by omega) ?_
    simpa using h
def oneD : PyData := .tuple [.str "ca", .int 3, .int 4, .int 2]
theorem w16 (h : K.nx (EV cs wg s2 s3 s4 s5 (.sh oneD) s7 s8 s11 s12 s13 s14 s15 s16)) : rdS Φ t_law_16 (EV cs wg s2 s3 s4 s5 s6 s7 s8 s11 s12 s13 s14 s15 s16) K := by
  unfold t_law_16
  simp
  exact h
def fP (t : Int) : PyData := .tuple [((ixD (.str "abcdefgh") (.int t)).bind fun x => addD (.str "c") x).getD .none, .int 1, .int 1, .int 1]
theorem fP_ok {t : Int} (h0 : 0 ≤ t) (h1 : t < 8) : ∃ x y, ixD (.str "abcdefgh") (.int t) = some x ∧ addD (.str "c") x = some y := by
  have : t = 0 ∨ t = 1 ∨ t = 2 ∨ t = 3 ∨ t = 4 ∨ t = 5 ∨ t = 6 ∨ t = 7 := by omega
  rcases this with rfl | rfl | rfl | rfl | rfl | rfl | rfl | rfl <;> exact ⟨_, _, rfl, rfl⟩
def wrongL : List PyData := [.none, .tuple [], .list [oneD], .tuple [.tuple [.str "ca", .int 3, .int 4]], .tuple [.tuple [.str "Ca", .int 3, .int 4, .int 2]], .tuple [.tuple [.str "ca", .int 0, .int 4, .int 2]], .tuple [.tuple [.str "ca", .int 100, .int 4, .int 2]],
  .tuple [.tuple [.str "ca", .int 3, .int 0, .int 2]], .tuple [.tuple [.str "ca", .int 3, .int 4, .int 0]], .tuple [.tuple [.str "ca", .int 3, .int 4, .int 10]], .tuple [oneD, oneD], .tuple [.tuple [.str "cb", .int 3, .int 4, .int 2], oneD], .tuple ((upI 0 8).map fP)]
theorem w17 (h : K.nx (EV cs wg s2 s3 s4 s5 (.sh oneD) (.ow (.list wrongL)) s8 s11 s12 s13 s14 s15 s16)) : rdS Φ t_law_17 (EV cs wg s2 s3 s4 s5 (.sh oneD) s7 s8 s11 s12 s13 s14 s15 s16) K := by
  unfold t_law_17
  have e1 : slHD oneD (.int 3) = some (.tuple [.str "ca", .int 3, .int 4]) := rfl
  have e2 : slLD oneD (.int 1) = some (.tuple [.int 3, .int 4, .int 2]) := rfl
  have e3 : addD (.tuple [.str "Ca"]) (.tuple [.int 3, .int 4, .int 2]) = some (.tuple [.str "Ca", .int 3, .int 4, .int 2]) := add_tt (by simp [big])
  simp [rdVar_sh, e1, e2, e3, lim, wipeE]
  refine compW_upsA fP (fun t h0 h1 R r => ?_) ?_
  · obtain ⟨x, y, hx, hy⟩ := fP_ok h0 (by omega)
    unfold fP at r
    rw [hx, Option.bind_some, hy, Option.getD_some] at r
    simp [wipeE, hx, hy]
    exact r
  · simp [restE, unlock, tupleD, seqD]
    exact h
def badL : List PyData := [.none, .tuple [], .tuple [.int 3], .tuple [.int 0, .int 5], .tuple [.int 5, .int 0], .tuple [.int 1000, .int 5], .list [.int 5, .int 5], .tuple [.int 5, .int 5, .int 5], .tuple [.bool true, .int 5]]
theorem w18 (h : K.nx (EV cs wg s2 s3 s4 s5 s6 s7 (.ow (.list badL)) s11 s12 s13 s14 s15 s16)) : rdS Φ t_law_18 (EV cs wg s2 s3 s4 s5 s6 s7 s8 s11 s12 s13 s14 s15 s16) K := by
  unfold t_law_18
  simp
  exact h
theorem wrong_ok : (wrongL.all fun x => evIs T 9 3 false [x]) = true := by decide +kernel
theorem bad_ok : (badL.all fun x => evIs T 9 4 false [x]) = true := by decide +kernel
theorem w19 (h : ∀ ρ, K.rt false (.bool true) ρ) : rdS Φ t_law_19 (EV cs wg s2 s3 s4 s5 s6 (.ow (.list wrongL)) (.ow (.list badL)) s11 s12 s13 s14 s15 s16) K := by
  unfold t_law_19
  simp [rdVar_sh, isDr]
  intro r r0 r1
  obtain ⟨x, hx, hx2⟩ := at_lt (l := wrongL) (m := r) r0 (by show r < 13; omega)
  rw [hx2, Z.must_s]
  refine Or.inr (evIs_s (List.all_eq_true.1 wrong_ok x (List.mem_of_getElem? hx)) ?_)
  simp [rdVar_sh]
  intro r r0 r1
  obtain ⟨x, hx, hx2⟩ := at_lt (l := badL) (m := r) r0 (by show r < 9; omega)
  rw [hx2, Z.must_s]
  refine Or.inr (evIs_s (List.all_eq_true.1 bad_ok x (List.mem_of_getElem? hx)) ?_)
  simpa using h _
end
theorem r_law : rdB Φ b_law (lawE c_law.N) { nx := fun _ => False, rt := fun _ d _ => d = .bool true } := by
  unfold b_law
  have e0 : lawE c_law.N = [.no, .dr, .no, .no, .no, .no, .no, .no, .no, .no, .no, .no, .no, .no, .no, .no, .no, .no, .no, .no] := rfl
  rw [e0, rdB_cons]
  refine w0 fun cs wg G W => ?_
  show rdB Φ _ _ _
  rw [rdB_cons]
  refine w1 G W ?_
  show rdB Φ _ _ _
  rw [rdB_cons]
  refine w2 G ?_
  show rdB Φ _ _ _
  rw [rdB_cons]
  refine w3 G fun r hr => ?_
  show rdB Φ _ _ _
  rw [rdB_cons]
  refine w4 G hr ?_
  show rdB Φ _ _ _
  rw [rdB_cons]
  refine w5 G fun s3 s5 s12 s13 h12 => ?_
  show rdB Φ _ _ _
  rw [rdB_cons]
  have wa : ∀ K : Kt, K.nx (EV cs wg (.sh (rowD r)) s3 (.ow (.list (([] : List Rk).map rkD))) s5 .no .no .no (.ow (.list ((NS cs).map nD))) s12 s13 .no .no .no) → rdS Φ (.asg (.nm 4) (.lst .nil)) (EV cs wg (.sh (rowD r)) s3 .no s5 .no .no .no (.ow (.list ((NS cs).map nD))) s12 s13 .no .no .no) K := by
    intro K h
    simp [-List.map_map]
    exact h
  refine wa _ ?_
  show rdB Φ _ _ _
  rw [rdB_cons]
  refine w9 G h12 fun s5 s12 s14 s15 s16 => ?_
  show rdB Φ _ _ _
  rw [rdB_cons]
  refine w15 G ?_
  show rdB Φ _ _ _
  rw [rdB_cons]
  refine w16 ?_
  show rdB Φ _ _ _
  rw [rdB_cons]
  refine w17 ?_
  show rdB Φ _ _ _
  rw [rdB_cons]
  refine w18 ?_
  show rdB Φ _ _ _
  rw [rdB_cons]
  exact w19 fun _ => rfl
end K42

namespace K42
open PySem PySem.Spec PyProof.Rows Z
open L2 (V Hp FnOk FnScope Room)
open C8 (Cal Def Fun fnBody fnScope fnArgs CX0)
section
variable {P : Program} {w : World} {K : PySem.W.Frag} {mg : Str → Option Value} {base : Heap}
theorem bd_is_integer {f : Addr} {kV dc pm cd ct : Value} {an : Option Addr} (D : Def K mg "is_integer" s_is_integer f (PySem.W.fnOf "is_integer" "is_integer" (fnArgs s_is_integer) (fnBody s_is_integer) (fnScope s_is_integer) .none kV dc pm an cd ct)) : L2.Binds K (PySem.W.fnOf "is_integer" "is_integer" (fnArgs s_is_integer) (fnBody s_is_integer) (fnScope s_is_integer) .none kV dc pm an cd ct) ["thing"] [] :=
  D.fn.binds (ps := ["thing"]) rfl fun _ _ _ _ _ _ us hl => match us, hl with | [_], _ => rfl
theorem bd_is_number {f : Addr} {kV dc pm cd ct : Value} {an : Option Addr} (D : Def K mg "is_number" s_is_number f (PySem.W.fnOf "is_number" "is_number" (fnArgs s_is_number) (fnBody s_is_number) (fnScope s_is_number) .none kV dc pm an cd ct)) : L2.Binds K (PySem.W.fnOf "is_number" "is_number" (fnArgs s_is_number) (fnBody s_is_number) (fnScope s_is_number) .none kV dc pm an cd ct) ["thing", "least", "most"] [] :=
  D.fn.binds (ps := ["thing", "least", "most"]) rfl fun _ _ _ _ _ _ us hl => match us, hl with | [_, _, _], _ => rfl
theorem bd_is_name {f : Addr} {kV dc pm cd ct : Value} {an : Option Addr} (D : Def K mg "is_name" s_is_name f (PySem.W.fnOf "is_name" "is_name" (fnArgs s_is_name) (fnBody s_is_name) (fnScope s_is_name) .none kV dc pm an cd ct)) : L2.Binds K (PySem.W.fnOf "is_name" "is_name" (fnArgs s_is_name) (fnBody s_is_name) (fnScope s_is_name) .none kV dc pm an cd ct) ["thing"] [] :=
  D.fn.binds (ps := ["thing"]) rfl fun _ _ _ _ _ _ us hl => match us, hl with | [_], _ => rfl
theorem bd_are_crates {f : Addr} {kV dc pm cd ct : Value} {an : Option Addr} (D : Def K mg "are_crates" s_are_crates f (PySem.W.fnOf "are_crates" "are_crates" (fnArgs s_are_crates) (fnBody s_are_crates) (fnScope s_are_crates) .none kV dc pm an cd ct)) : L2.Binds K (PySem.W.fnOf "are_crates" "are_crates" (fnArgs s_are_crates) (fnBody s_are_crates) (fnScope s_are_crates) .none kV dc pm an cd ct) ["thing"] [] :=
  D.fn.binds (ps := ["thing"]) rfl fun _ _ _ _ _ _ us hl => match us, hl with | [_], _ => rfl
theorem bd_is_wagon {f : Addr} {kV dc pm cd ct : Value} {an : Option Addr} (D : Def K mg "is_wagon" s_is_wagon f (PySem.W.fnOf "is_wagon" "is_wagon" (fnArgs s_is_wagon) (fnBody s_is_wagon) (fnScope s_is_wagon) .none kV dc pm an cd ct)) : L2.Binds K (PySem.W.fnOf "is_wagon" "is_wagon" (fnArgs s_is_wagon) (fnBody s_is_wagon) (fnScope s_is_wagon) .none kV dc pm an cd ct) ["thing"] [] :=
  D.fn.binds (ps := ["thing"]) rfl fun _ _ _ _ _ _ us hl => match us, hl with | [_], _ => rfl
theorem bd_has_room {f : Addr} {kV dc pm cd ct : Value} {an : Option Addr} (D : Def K mg "has_room" s_has_room f (PySem.W.fnOf "has_room" "has_room" (fnArgs s_has_room) (fnBody s_has_room) (fnScope s_has_room) .none kV dc pm an cd ct)) : L2.Binds K (PySem.W.fnOf "has_room" "has_room" (fnArgs s_has_room) (fnBody s_has_room) (fnScope s_has_room) .none kV dc pm an cd ct) ["crates", "wagon", "names"] [] :=
  D.fn.binds (ps := ["crates", "wagon", "names"]) rfl fun _ _ _ _ _ _ us hl => match us, hl with | [_, _, _], _ => rfl
theorem bd_can_drive {f : Addr} {kV dc pm cd ct : Value} {an : Option Addr} (D : Def K mg "can_drive" s_can_drive f (PySem.W.fnOf "can_drive" "can_drive" (fnArgs s_can_drive) (fnBody s_can_drive) (fnScope s_can_drive) .none kV dc pm an cd ct)) : L2.Binds K (PySem.W.fnOf "can_drive" "can_drive" (fnArgs s_can_drive) (fnBody s_can_drive) (fnScope s_can_drive) .none kV dc pm an cd ct) ["crates", "wagon", "row"] [] :=
  D.fn.binds (ps := ["crates", "wagon", "row"]) rfl fun _ _ _ _ _ _ us hl => match us, hl with | [_, _, _], _ => rfl
theorem bd_least_row {f : Addr} {kV dc pm cd ct : Value} {an : Option Addr} (D : Def K mg "least_row" s_least_row f (PySem.W.fnOf "least_row" "least_row" (fnArgs s_least_row) (fnBody s_least_row) (fnScope s_least_row) .none kV dc pm an cd ct)) : L2.Binds K (PySem.W.fnOf "least_row" "least_row" (fnArgs s_least_row) (fnBody s_least_row) (fnScope s_least_row) .none kV dc pm an cd ct) ["crates", "names"] [] :=
  D.fn.binds (ps := ["crates", "names"]) rfl fun _ _ _ _ _ _ us hl => match us, hl with | [_, _], _ => rfl
theorem bd_loading {f : Addr} {kV dc pm cd ct : Value} {an : Option Addr} (D : Def K mg "loading" s_loading f (PySem.W.fnOf "loading" "loading" (fnArgs s_loading) (fnBody s_loading) (fnScope s_loading) .none kV dc pm an cd ct)) : L2.Binds K (PySem.W.fnOf "loading" "loading" (fnArgs s_loading) (fnBody s_loading) (fnScope s_loading) .none kV dc pm an cd ct) ["crates", "wagon"] [] :=
  D.fn.binds (ps := ["crates", "wagon"]) rfl fun _ _ _ _ _ _ us hl => match us, hl with | [_, _], _ => rfl
theorem bd__law_draw {f : Addr} {kV dc pm cd ct : Value} {an : Option Addr} (D : Def K mg "_law_draw" s__law_draw f (PySem.W.fnOf "_law_draw" "_law_draw" (fnArgs s__law_draw) (fnBody s__law_draw) (fnScope s__law_draw) .none kV dc pm an cd ct)) : L2.Binds K (PySem.W.fnOf "_law_draw" "_law_draw" (fnArgs s__law_draw) (fnBody s__law_draw) (fnScope s__law_draw) .none kV dc pm an cd ct) ["script"] [] :=
  D.fn.binds (ps := ["script"]) rfl fun _ _ _ _ _ _ us hl => match us, hl with | [_], _ => rfl
theorem bd__law_next {f : Addr} {kV dc pm cd ct : Value} {an : Option Addr} (D : Def K mg "_law_next" s__law_next f (PySem.W.fnOf "_law_next" "_law_next" (fnArgs s__law_next) (fnBody s__law_next) (fnScope s__law_next) .none kV dc pm an cd ct)) : L2.Binds K (PySem.W.fnOf "_law_next" "_law_next" (fnArgs s__law_next) (fnBody s__law_next) (fnScope s__law_next) .none kV dc pm an cd ct) ["draw", "many"] [] :=
  D.fn.binds (ps := ["draw", "many"]) rfl fun _ _ _ _ _ _ us hl => match us, hl with | [_, _], _ => rfl
theorem bd__law_same {f : Addr} {kV dc pm cd ct : Value} {an : Option Addr} (D : Def K mg "_law_same" s__law_same f (PySem.W.fnOf "_law_same" "_law_same" (fnArgs s__law_same) (fnBody s__law_same) (fnScope s__law_same) .none kV dc pm an cd ct)) : L2.Binds K (PySem.W.fnOf "_law_same" "_law_same" (fnArgs s__law_same) (fnBody s__law_same) (fnScope s__law_same) .none kV dc pm an cd ct) ["actual", "wanted"] [] :=
  D.fn.binds (ps := ["actual", "wanted"]) rfl fun _ _ _ _ _ _ us hl => match us, hl with | [_, _], _ => rfl
theorem bd__law_crates {f : Addr} {kV dc pm cd ct : Value} {an : Option Addr} (D : Def K mg "_law_crates" s__law_crates f (PySem.W.fnOf "_law_crates" "_law_crates" (fnArgs s__law_crates) (fnBody s__law_crates) (fnScope s__law_crates) .none kV dc pm an cd ct)) : L2.Binds K (PySem.W.fnOf "_law_crates" "_law_crates" (fnArgs s__law_crates) (fnBody s__law_crates) (fnScope s__law_crates) .none kV dc pm an cd ct) ["draw", "most"] [] :=
  D.fn.binds (ps := ["draw", "most"]) rfl fun _ _ _ _ _ _ us hl => match us, hl with | [_, _], _ => rfl
theorem bd__law_drive {f : Addr} {kV dc pm cd ct : Value} {an : Option Addr} (D : Def K mg "_law_drive" s__law_drive f (PySem.W.fnOf "_law_drive" "_law_drive" (fnArgs s__law_drive) (fnBody s__law_drive) (fnScope s__law_drive) .none kV dc pm an cd ct)) : L2.Binds K (PySem.W.fnOf "_law_drive" "_law_drive" (fnArgs s__law_drive) (fnBody s__law_drive) (fnScope s__law_drive) .none kV dc pm an cd ct) ["crates", "wagon", "row"] [] :=
  D.fn.binds (ps := ["crates", "wagon", "row"]) rfl fun _ _ _ _ _ _ us hl => match us, hl with | [_, _, _], _ => rfl
theorem bd__law_orders {f : Addr} {kV dc pm cd ct : Value} {an : Option Addr} (D : Def K mg "_law_orders" s__law_orders f (PySem.W.fnOf "_law_orders" "_law_orders" (fnArgs s__law_orders) (fnBody s__law_orders) (fnScope s__law_orders) .none kV dc pm an cd ct)) : L2.Binds K (PySem.W.fnOf "_law_orders" "_law_orders" (fnArgs s__law_orders) (fnBody s__law_orders) (fnScope s__law_orders) .none kV dc pm an cd ct) ["names"] [] :=
  D.fn.binds (ps := ["names"]) rfl fun _ _ _ _ _ _ us hl => match us, hl with | [_], _ => rfl
theorem main (X0 : Fx K mg "is_integer" s_is_integer) (X1 : Fx K mg "is_number" s_is_number) (X2 : Fx K mg "is_name" s_is_name) (X3 : Fx K mg "are_crates" s_are_crates) (X4 : Fx K mg "is_wagon" s_is_wagon) (X5 : Fx K mg "has_room" s_has_room) (X6 : Fx K mg "can_drive" s_can_drive) (X7 : Fx K mg "least_row" s_least_row) (X8 : Fx K mg "loading" s_loading) (X9 : Fx K mg "_law_draw" s__law_draw) (X10 : Fx K mg "_law_next" s__law_next) (X11 : Fx K mg "_law_same" s__law_same) (X12 : Fx K mg "_law_crates" s__law_crates) (X13 : Fx K mg "_law_drive" s__law_drive) (X14 : Fx K mg "_law_orders" s__law_orders) (hB : ∀ x ∈ bl, mg x = none) (hM : ∀ p ∈ mt, mg p.1 = some (.builtin p.2)) (hG : ∀ p ∈ cs, ∃ u v, scV p.2 = some v ∧ mg p.1 = some u ∧ L2.RelV v u) {fl : Addr} {fd : FuncData} (XL : Fun K "law" "law" s_law fl fd) : FnOk P w K mg base CX0 37 fl fd ["script"] (spLaw K) := by
  obtain ⟨f0, kV0, dc0, pm0, an0, cd0, ct0, D0⟩ := X0.ex
  obtain ⟨f1, kV1, dc1, pm1, an1, cd1, ct1, D1⟩ := X1.ex
  obtain ⟨f2, kV2, dc2, pm2, an2, cd2, ct2, D2⟩ := X2.ex
  obtain ⟨f3, kV3, dc3, pm3, an3, cd3, ct3, D3⟩ := X3.ex
  obtain ⟨f4, kV4, dc4, pm4, an4, cd4, ct4, D4⟩ := X4.ex
  obtain ⟨f5, kV5, dc5, pm5, an5, cd5, ct5, D5⟩ := X5.ex
  obtain ⟨f6, kV6, dc6, pm6, an6, cd6, ct6, D6⟩ := X6.ex
  obtain ⟨f7, kV7, dc7, pm7, an7, cd7, ct7, D7⟩ := X7.ex
  obtain ⟨f8, kV8, dc8, pm8, an8, cd8, ct8, D8⟩ := X8.ex
  obtain ⟨f9, kV9, dc9, pm9, an9, cd9, ct9, D9⟩ := X9.ex
  obtain ⟨f10, kV10, dc10, pm10, an10, cd10, ct10, D10⟩ := X10.ex
  obtain ⟨f11, kV11, dc11, pm11, an11, cd11, ct11, D11⟩ := X11.ex
  obtain ⟨f12, kV12, dc12, pm12, an12, cd12, ct12, D12⟩ := X12.ex
  obtain ⟨f13, kV13, dc13, pm13, an13, cd13, ct13, D13⟩ := X13.ex
  obtain ⟨f14, kV14, dc14, pm14, an14, cd14, ct14, D14⟩ := X14.ex
  have H0 : Cals Φ fs P w K mg base 21 0 := Cals.zero
  have CD : Cal P w K mg base 21 "_law_draw" (spL K) [] := draw_ok D9 (bd__law_draw D9) sc__law_draw (hB _ (by decide)) rfl rfl (by decide +kernel)
  have CN : Cal P w K mg base 21 "_law_next" (spN ⟨K, P, w⟩) [] := next_ok (Φ := Φ) (c := c__law_next) (k := 20) ⟨hB, (fun p hp => by cases hp), (fun p hp => by cases hp), (fun i p e => by simp [c__law_next] at e), (fun h => by cases h)⟩ D10 (bd__law_next D10) sc__law_next ck__law_next (fun d0 n a b c => next_read rfl d0 n a b c)
  have H1 : Cals Φ fs P w K mg base 22 1 := H0.step rfl (fn_ok (Φ := Φ) (c := c_is_integer) ⟨hB, hM, hG, H0, (fun h => by cases h)⟩ D0 (bd_is_integer D0) sc_is_integer ck_is_integer r_is_integer)
  have H2 : Cals Φ fs P w K mg base 23 2 := H1.step rfl (fn_ok (Φ := Φ) (c := c_is_number) ⟨hB, hM, hG, H1, (fun h => by cases h)⟩ D1 (bd_is_number D1) sc_is_number ck_is_number r_is_number)
  have H3 : Cals Φ fs P w K mg base 24 3 := H2.step rfl (fn_ok (Φ := Φ) (c := c_is_name) ⟨hB, hM, hG, H2, (fun h => by cases h)⟩ D2 (bd_is_name D2) sc_is_name ck_is_name r_is_name)
  have H4 : Cals Φ fs P w K mg base 25 4 := H3.step rfl (fn_ok (Φ := Φ) (c := c_are_crates) ⟨hB, hM, hG, H3, (fun h => by cases h)⟩ D3 (bd_are_crates D3) sc_are_crates ck_are_crates r_are_crates)
  have H5 : Cals Φ fs P w K mg base 26 5 := H4.step rfl (fn_ok (Φ := Φ) (c := c_is_wagon) ⟨hB, hM, hG, H4, (fun h => by cases h)⟩ D4 (bd_is_wagon D4) sc_is_wagon ck_is_wagon r_is_wagon)
  have H6 : Cals Φ fs P w K mg base 27 6 := H5.step rfl (fn_ok (Φ := Φ) (c := c_has_room) ⟨hB, hM, hG, H5, (fun h => by cases h)⟩ D5 (bd_has_room D5) sc_has_room ck_has_room r_has_room)
  have H7 : Cals Φ fs P w K mg base 28 7 := H6.step rfl (fn_ok (Φ := Φ) (c := c_can_drive) ⟨hB, hM, hG, H6, (fun h => by cases h)⟩ D6 (bd_can_drive D6) sc_can_drive ck_can_drive r_can_drive)
  have H8 : Cals Φ fs P w K mg base 29 8 := H7.step rfl (fn_ok (Φ := Φ) (c := c_least_row) ⟨hB, hM, hG, H7, (fun h => by cases h)⟩ D7 (bd_least_row D7) sc_least_row ck_least_row r_least_row)
  have H9 : Cals Φ fs P w K mg base 30 9 := H8.step rfl (fn_ok (Φ := Φ) (c := c_loading) ⟨hB, hM, hG, H8, (fun h => by cases h)⟩ D8 (bd_loading D8) sc_loading ck_loading r_loading)
  have H10 : Cals Φ fs P w K mg base 31 10 := H9.step rfl (cal_none D9 (bd__law_draw D9))
  have H11 : Cals Φ fs P w K mg base 32 11 := H10.step rfl (cal_none D10 (bd__law_next D10))
  have H12 : Cals Φ fs P w K mg base 33 12 := H11.step rfl (cal_mono (same_ok D11 (bd__law_same D11) sc__law_same (fun x hx => hB x (by revert x; decide)) ck__law_same 21) (by decide))
  have H13 : Cals Φ fs P w K mg base 34 13 := H12.step rfl (fn_okD (Φ := Φ) (c := c__law_crates) ⟨hB, hM, hG, H12, (fun _ => cal_mono CN (by decide))⟩ D12 (bd__law_crates D12) sc__law_crates ck__law_crates r__law_crates)
  have H14 : Cals Φ fs P w K mg base 35 14 := H13.step rfl (fn_ok (Φ := Φ) (c := c__law_drive) ⟨hB, hM, hG, H13, (fun _ => cal_mono CN (by decide))⟩ D13 (bd__law_drive D13) sc__law_drive ck__law_drive r__law_drive)
  have H15 : Cals Φ fs P w K mg base 36 15 := H14.step rfl (fn_ok (Φ := Φ) (c := c__law_orders) ⟨hB, hM, hG, H14, (fun _ => cal_mono CN (by decide))⟩ D14 (bd__law_orders D14) sc__law_orders ck__law_orders r__law_orders)
  exact law_ok (Φ := Φ) (c := c_law) ⟨hB, hM, hG, H15, (fun _ => cal_mono CN (by decide))⟩ (cal_mono CD (by decide)) XL sc_law rfl (by decide +kernel) (by decide +kernel) (by decide +kernel) ck_law r_law
end
theorem all {l : PySem.W.OpenLaw} {w : World} {K : PySem.W.Frag} {h : Heap} {mg : Str → Option Value} {fa fl : Addr} (X : K.In h) (G : h.Ns mainGlobals mg) (hfa : mg "law" = some (.ref fa)) (x0 : Fx K mg "is_integer" s_is_integer) (x1 : Fx K mg "is_number" s_is_number) (x2 : Fx K mg "is_name" s_is_name) (x3 : Fx K mg "are_crates" s_are_crates) (x4 : Fx K mg "is_wagon" s_is_wagon) (x5 : Fx K mg "has_room" s_has_room) (x6 : Fx K mg "can_drive" s_can_drive) (x7 : Fx K mg "least_row" s_least_row) (x8 : Fx K mg "loading" s_loading) (x9 : Fx K mg "_law_draw" s__law_draw) (x10 : Fx K mg "_law_next" s__law_next) (x11 : Fx K mg "_law_same" s__law_same) (x12 : Fx K mg "_law_crates" s__law_crates) (x13 : Fx K mg "_law_drive" s__law_drive) (x14 : Fx K mg "_law_orders" s__law_orders) {ol : Option Addr} {al : Option Addr} {sl : Array (Option Value)} {oc kV dc pm cd ct : Value}
    (al_ : PySem.W.nsIn K mainGlobals "law" = some (some (.ref fl))) (ll : K.lookup fl = some ⟨oc, ol, .func (PySem.W.fnOf "law" "law" (fnArgs s_law) (fnBody s_law) (fnScope s_law) .none kV dc pm al cd ct), sl⟩) (cl : PySem.W.codeIn K cd "law" = true) (kl : PySem.W.keepIn K (.ref fl) = true) (z0 : PySem.W.nsIn K mainGlobals "abs" = some none) (z1 : PySem.W.nsIn K mainGlobals "all" = some none) (z2 : PySem.W.nsIn K mainGlobals "any" = some none) (z3 : PySem.W.nsIn K mainGlobals "bool" = some none) (z4 : PySem.W.nsIn K mainGlobals "dict" = some none) (z5 : PySem.W.nsIn K mainGlobals "enumerate" = some none) (z6 : PySem.W.nsIn K mainGlobals "int" = some none) (z7 : PySem.W.nsIn K mainGlobals "isinstance" = some none) (z8 : PySem.W.nsIn K mainGlobals "len" = some none) (z9 : PySem.W.nsIn K mainGlobals "list" = some none) (z10 : PySem.W.nsIn K mainGlobals "min" = some none) (z11 : PySem.W.nsIn K mainGlobals "range" = some none) (z12 : PySem.W.nsIn K mainGlobals "sorted" = some none) (z13 : PySem.W.nsIn K mainGlobals "str" = some none) (z14 : PySem.W.nsIn K mainGlobals "sum" = some none) (z15 : PySem.W.nsIn K mainGlobals "tuple" = some none) (z16 : PySem.W.nsIn K mainGlobals "zip" = some none)  {g0t : Tok} (g0 : PySem.W.nsIn K mainGlobals "LETTERS" = some (some (.str "abcdefghijklmnopqrstuvwxyz" g0t))) {g1t : Tok} (g1 : PySem.W.nsIn K mainGlobals "MOST_CRATES" = some (some (.int 7 g1t))) :
    ∃ fd : FuncData, (∀ (s : Shared) (v : Value), BindsTo s fd ⟨[v], []⟩ [("script", v)]) ∧ ∀ base : Heap, K.In base → base.Ns mainGlobals mg → FnOk l.prog w K mg base CX0 37 fa fd ["script"] (spLaw K) := by
  have e := hfa.symm.trans (PySem.W.mg_of X G al_)
  cases e
  have DL := (def_mk (st := s_law) X G al_ ll cl kl).fn
  refine ⟨PySem.W.fnOf "law" "law" (fnArgs s_law) (fnBody s_law) (fnScope s_law) .none kV dc pm al cd ct, fun s v => .of_eq rfl, fun base _ _ => main x0 x1 x2 x3 x4 x5 x6 x7 x8 x9 x10 x11 x12 x13 x14 (fun x hx => ?_) (fun p hp => ?_) (fun p hp => ?_) DL⟩
  · simp only [bl, List.mem_cons, List.not_mem_nil, or_false] at hx
    rcases hx with rfl | rfl | rfl | rfl | rfl | rfl | rfl | rfl | rfl | rfl | rfl | rfl | rfl | rfl | rfl | rfl | rfl
    · exact PySem.W.mg_none_of X G z0
    · exact PySem.W.mg_none_of X G z1
    · exact PySem.W.mg_none_of X G z2
    · exact PySem.W.mg_none_of X G z3
    · exact PySem.W.mg_none_of X G z4
    · exact PySem.W.mg_none_of X G z5
    · exact PySem.W.mg_none_of X G z6
    · exact PySem.W.mg_none_of X G z7
    · exact PySem.W.mg_none_of X G z8
    · exact PySem.W.mg_none_of X G z9
    · exact PySem.W.mg_none_of X G z10
    · exact PySem.W.mg_none_of X G z11
    · exact PySem.W.mg_none_of X G z12
    · exact PySem.W.mg_none_of X G z13
    · exact PySem.W.mg_none_of X G z14
    · exact PySem.W.mg_none_of X G z15
    · exact PySem.W.mg_none_of X G z16
  · simp only [mt, List.mem_cons, List.not_mem_nil, or_false] at hp
  · simp only [cs, List.mem_cons, List.not_mem_nil, or_false] at hp
    rcases hp with rfl | rfl
    · exact ⟨_, _, rfl, PySem.W.mg_of X G g0, ⟨_, rfl⟩⟩
    · exact ⟨_, _, rfl, PySem.W.mg_of X G g1, ⟨_, rfl⟩⟩
end K42
open PySem PySem.W PyProof.Rows
set_option maxHeartbeats 0 in
theorem PySem.Challenge.cw_fairlands_k42_whole_loads_of_wagons_holds : PySem.Challenge.rw_fairlands_k42_whole_loads_of_wagons.Holds := by
  w_on; o_law; k_head; (case hw => w_witness2)
  k_fill
  refine L2.walk_of (l := PySem.Challenge.rw_fairlands_k42_whole_loads_of_wagons) (n := 63) (k := 37) (x := "script") (CX := fun _ => C8.CX0) (sp := fun w => Z.spLaw _) rfl (by decide) rfl ⟨rfl, by decide, by decide⟩ (fun w h Y => PySem.W.kIn_of Y) ?F (fun _ _ a ns hl _ hS => ⟨a, ns, rfl, hS, hl, fun _ => rfl⟩) (fun _ _ _ _ _ h => h)
  case F =>
    intro w mg fa h KX G hmg
    refine' K42.all KX G hmg (Z.fx_mk KX G ?qa0 ?ql0 ?qc0 ?qk0) (Z.fx_mk KX G ?qa1 ?ql1 ?qc1 ?qk1) (Z.fx_mk KX G ?qa2 ?ql2 ?qc2 ?qk2) (Z.fx_mk KX G ?qa3 ?ql3 ?qc3 ?qk3) (Z.fx_mk KX G ?qa4 ?ql4 ?qc4 ?qk4) (Z.fx_mk KX G ?qa5 ?ql5 ?qc5 ?qk5) (Z.fx_mk KX G ?qa6 ?ql6 ?qc6 ?qk6) (Z.fx_mk KX G ?qa7 ?ql7 ?qc7 ?qk7) (Z.fx_mk KX G ?qa8 ?ql8 ?qc8 ?qk8) (Z.fx_mk KX G ?qa9 ?ql9 ?qc9 ?qk9) (Z.fx_mk KX G ?qa10 ?ql10 ?qc10 ?qk10) (Z.fx_mk KX G ?qa11 ?ql11 ?qc11 ?qk11) (Z.fx_mk KX G ?qa12 ?ql12 ?qc12 ?qk12) (Z.fx_mk KX G ?qa13 ?ql13 ?qc13 ?qk13) (Z.fx_mk KX G ?qa14 ?ql14 ?qc14 ?qk14) ?qal ?qll ?qcl ?qkl ?qz0 ?qz1 ?qz2 ?qz3 ?qz4 ?qz5 ?qz6 ?qz7 ?qz8 ?qz9 ?qz10 ?qz11 ?qz12 ?qz13 ?qz14 ?qz15 ?qz16  ?qg0 ?qg1
    (case qa0 => k_is); (case ql0 => k_is); (case qc0 => k_is); (case qk0 => k_is); (case qa1 => k_is); (case ql1 => k_is); (case qc1 => k_is); (case qk1 => k_is); (case qa2 => k_is); (case ql2 => k_is); (case qc2 => k_is); (case qk2 => k_is); (case qa3 => k_is); (case ql3 => k_is); (case qc3 => k_is); (case qk3 => k_is); (case qa4 => k_is); (case ql4 => k_is); (case qc4 => k_is); (case qk4 => k_is); (case qa5 => k_is); (case ql5 => k_is); (case qc5 => k_is); (case qk5 => k_is); (case qa6 => k_is); (case ql6 => k_is); (case qc6 => k_is); (case qk6 => k_is); (case qa7 => k_is); (case ql7 => k_is); (case qc7 => k_is); (case qk7 => k_is); (case qa8 => k_is); (case ql8 => k_is); (case qc8 => k_is); (case qk8 => k_is); (case qa9 => k_is); (case ql9 => k_is); (case qc9 => k_is); (case qk9 => k_is); (case qa10 => k_is); (case ql10 => k_is); (case qc10 => k_is); (case qk10 => k_is); (case qa11 => k_is); (case ql11 => k_is); (case qc11 => k_is); (case qk11 => k_is); (case qa12 => k_is); (case ql12 => k_is); (case qc12 => k_is); (case qk12 => k_is); (case qa13 => k_is); (case ql13 => k_is); (case qc13 => k_is); (case qk13 => k_is); (case qa14 => k_is); (case ql14 => k_is); (case qc14 => k_is); (case qk14 => k_is); (case qal => k_is); (case qll => k_is); (case qcl => k_is); (case qkl => k_is); (case qz0 => k_is); (case qz1 => k_is); (case qz2 => k_is); (case qz3 => k_is); (case qz4 => k_is); (case qz5 => k_is); (case qz6 => k_is); (case qz7 => k_is); (case qz8 => k_is); (case qz9 => k_is); (case qz10 => k_is); (case qz11 => k_is); (case qz12 => k_is); (case qz13 => k_is); (case qz14 => k_is); (case qz15 => k_is); (case qz16 => k_is); (case qg0 => k_is); (case qg1 => k_is)

