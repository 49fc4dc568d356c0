import PyProof.Rows.All
import Wide.All
import OpenK.AllK
import Wide.FinOn
import HandS.ForMost
import HandS.TupLen
import KE.KDictDisplayH
import HandS.TupAny
import HandS.TupMul
import HandS.Flow
import HandS.IsInst
import HandS.Style
import KE.SortData
import KE.DataAny
import KE.DataFind
import KE.DataMinMax
import KE.DataCmp
import HandS.Strs
import KE.KDictKeyed
import HandS.Zip
import HandS.Conv
import HandS.SetFor
import HandS.More
import HandS.DictTup
import KE.KDictSum
import KE.KDictItemsList
import KE.KDictPairs
import HandS.Words
import HandS.Rev
import HandS.SortKw
import KE.DatumOrd
import KE.DatumMoreOrd
import PySem.Challenge.RW_trickward_k07_what_is_still_out
set_option Elab.async false
set_option linter.all false
set_option maxRecDepth 100000
set_option maxHeartbeats 4000000
/-! Ev: a small evaluator over plain data. -/
namespace Ev
open PySem

abbrev D := PyData
/-- an object that one name alone holds -/
inductive Ob where
  | lst (xs : List D)
  | dct (kvs : List (D × D))
  | dic (kvs : List (D × D))
/-- what a name holds: nothing, shared data, an object of its own, an object of its caller's -/
inductive Slot where
  | no | sh (d : D) | ow (o : Ob) | pa (o : Ob)
abbrev En := List Slot
/-- an operand: data, a new object, the object of a name -/
inductive Opd where
  | val (d : D) | new (o : Ob) | slot (i : Nat)
inductive RV where
  | val (d : D) | new (o : Ob)
inductive Err where
  | bad
inductive R (α : Type) where
  | ok (a : α) (e : En) | er (x : Err) (e : En)
def M (α : Type) : Type := En → R α
def M.bind {α β : Type} (m : M α) (f : α → M β) : M β := fun e => match m e with
  | .ok a e' => f a e'
  | .er x e' => .er x e'
instance : Monad M where
  pure a := fun e => .ok a e
  bind := M.bind
def lift {α : Type} (o : Option α) : M α := fun e => match o with
  | some a => .ok a e
  | none => .er .bad e
def guardM (c : Prop) [Decidable c] : M Unit := if c then pure () else lift none
def RV.op : RV → Opd
  | .val d => .val d
  | .new o => .new o
def RV.d : RV → Option D
  | .val d => some d
  | .new (.lst xs) => some (.list xs)
  | .new (.dct kvs) => some (.dict kvs)
  | .new (.dic kvs) => some (.dict kvs)

inductive Ty where
  | int | bool | str | tuple | list
inductive Bi where
  | len | tuple | list | sorted | sum | min | max | abs | int | str | isa (ts : List Ty) | all | any | sortedRev | dict
inductive Fn where
  | isDict | sortedItems | lenSet
  deriving DecidableEq
inductive Mth where
  | append | extend | pop | popAt | remove | index | count | insert | reverse | get | get2
  deriving DecidableEq

mutual
inductive MT where
  | name (i : Nat) | tup (ts : MTs)
inductive MTs where
  | nil | cons (t : MT) (ts : MTs)
end
mutual
inductive ME where
  | c (d : D)
  | v (i : Nat)
  | bin (op : Operator) (a b : ME)
  | neg (a : ME)
  | cmp (op : CmpOp) (a b : ME)
  | chain (op op' : CmpOp) (a b c : ME)
  | andd (a b : ME) | orr (a b : ME) | nott (a : ME)
  | ite (c : MB) (a b : ME)
  | tup (es : MEs) | lst (es : MEs)
  | dct (ks : List D) (es : MEs)
  | call (f : Nat) (es : MEs)
  | bi (b : Bi) (es : MEs)
  | meth (m : Mth) (o : ME) (es : MEs)
  | ix (o i : ME)
  | sl (o : ME) (lo hi : MO)
  | comp (own : List Nat) (t : MT) (it : MI) (cond : MC) (elt : ME)
  | rngL (tu : Bool) (a : ME) | rngL2 (tu : Bool) (a b : ME)
  | rev (o : ME)
  | shr (e : ME)
  | fn (f : Fn) (o : ME)
  | dnew
  | dt1 (k v : ME)
inductive MEs where
  | nil | cons (e : ME) (es : MEs)
inductive MO where
  | none | some (e : ME)
inductive MC where
  | none | some (b : MB)
inductive MB where
  | tr (e : ME) | andd (a b : MB) | orr (a b : MB) | nott (a : MB)
inductive MI where
  | seq (e : ME) | rng (es : MEs) | zip (es : MEs) | revd (e : ME)
end
mutual
inductive MS where
  | expr (e : ME)
  | asg (t : MT) (e : ME)
  | parN (is : List Nat) (es : MEs)
  | asgIx (j : Nat) (i e : ME)
  | aug (i : Nat) (op : Operator) (e : ME)
  | augIx (j : Nat) (i : ME) (op : Operator) (e : ME)
  | ret (e : ME) | retN
  | ife (c : MB) (a b : MSs)
  | for_ (t : MT) (it : MI) (b : MSs)
  | whl (c : MB) (b : MSs)
  | brk | cnt | pass
inductive MSs where
  | nil | cons (s : MS) (ss : MSs)
end
inductive Fl where
  | nx | brk | cnt | ret (o : Opd)

/-! ### data -/
def eqOk (a b : D) : Bool := a.plain && b.plain && decide (min a.depth b.depth ≤ 60)
def truD : D → Option Bool
  | .none => some false
  | .bool b => some b
  | .int i => some (i != 0)
  | .str x => if x.length ≤ sizeLine then some (x.length != 0) else none
  | .list xs => some (!xs.isEmpty)
  | .tuple xs => some (!xs.isEmpty)
  | .dict _ => none
def cutL {α : Type} (xs : List α) (lo hi : Option Int) : List α := (xs.drop (HT.sIx xs.length 0 lo)).take (HT.sIx xs.length xs.length hi - HT.sIx xs.length 0 lo)

def binD : Operator → D → D → Option RV
  | .Add, .int i, .int j => some (.val (.int (i + j)))
  | .Add, .str x, .str y => if x.length + y.length ≤ sizeLine then some (.val (.str (x ++ y))) else none
  | .Add, .tuple xs, .tuple ys => if xs.length + ys.length ≤ sizeLine then some (.val (.tuple (xs ++ ys))) else none
  | .Add, .list xs, .list ys => if xs.length + ys.length ≤ sizeLine then some (.new (.lst (xs ++ ys))) else none
  | .Sub, .int i, .int j => some (.val (.int (i - j)))
  | .Mult, .int i, .int j => if (-(2 ^ 64) < i ∧ i < 2 ^ 64) ∨ (-(2 ^ 64) < j ∧ j < 2 ^ 64) then some (.val (.int (i * j))) else none
  | .Mult, .list xs, .int k => if -(2 ^ 63) ≤ k ∧ k < 2 ^ 63 ∧ xs.length * k.toNat ≤ sizeLine then some (.new (.lst (List.replicate k.toNat xs).flatten)) else none
  | .Mult, .tuple xs, .int k => if xs ≠ [] ∧ 2 ≤ k ∧ k ≤ 1000 ∧ xs.length ≤ 1000 then some (.val (.tuple (List.replicate k.toNat xs).flatten)) else none
  | .FloorDiv, .int i, .int j => if 0 < j ∧ j < 1073741824 then some (.val (.int (i / j))) else none
  | .Mod, .int i, .int j => if 0 < j then some (.val (.int (i % j))) else none
  | .Pow, .int i, .int j => if 0 ≤ j ∧ j ≤ 1000000 ∧ i.natAbs < 2 ^ 64 then some (.val (.int (i ^ j.toNat))) else none
  | .LShift, .int i, .int j => if 0 ≤ j ∧ j ≤ 1000000 ∧ i.natAbs < 2 ^ 64 then some (.val (.int (i * 2 ^ j.toNat))) else none
  | .RShift, .int i, .int j => if 0 ≤ j then some (.val (.int (i / 2 ^ j.toNat))) else none
  | .BitAnd, .int i, .int j => some (.val (.int (Builtin.bitAnd i j)))
  | _, _, _ => none

/-- a op= b -/
def ipD : Operator → D → D → Option RV
  | .Add, .int i, .int j => some (.val (.int (i + j)))
  | .Add, .str x, .str y => if x.length + y.length ≤ sizeLine then some (.val (.str (x ++ y))) else none
  | .Sub, .int i, .int j => some (.val (.int (i - j)))
  | .Mult, .int i, .int j => if (-(2 ^ 64) < i ∧ i < 2 ^ 64) ∨ (-(2 ^ 64) < j ∧ j < 2 ^ 64) then some (.val (.int (i * j))) else none
  | _, _, _ => none
def isNoneD : D → Bool
  | .none => true
  | _ => false
def ordOk (a b : D) : Bool := a.plain && b.plain && PySem.W.alike a b && !(isNoneD a) && decide (min a.depth b.depth ≤ 60)
def inD (x : D) (xs : List D) : Option Bool := if PyData.plainAll xs && x.plain && decide (min (PyData.depthAll xs) x.depth ≤ 60) then some (xs.any fun z => PyData.eqv z x) else none
def cmpD : CmpOp → D → D → Option Bool
  | .Eq, a, b => if eqOk a b then some (PyData.eqv a b) else none
  | .NotEq, a, b => if eqOk a b then some (!PyData.eqv a b) else none
  | .Lt, .int i, .int j => some (decide (i < j))
  | .LtE, .int i, .int j => some (decide (i ≤ j))
  | .Gt, .int i, .int j => some (decide (j < i))
  | .GtE, .int i, .int j => some (decide (j ≤ i))
  | .Lt, a, b => if ordOk a b then some (PySem.W.dataLt a b) else none
  | .LtE, a, b => if ordOk a b then some (!PySem.W.dataLt b a) else none
  | .Gt, a, b => if ordOk a b then some (PySem.W.dataLt b a) else none
  | .GtE, a, b => if ordOk a b then some (!PySem.W.dataLt a b) else none
  | .Is, a, .none => some (isNoneD a)
  | .IsNot, a, .none => some (!isNoneD a)
  | .In, x, .list xs => inD x xs
  | .In, x, .tuple xs => inD x xs
  | .NotIn, x, .list xs => (inD x xs).map not
  | .NotIn, x, .tuple xs => (inD x xs).map not
  | .In, .str x, .str y => some (!(Builtin.Str.occurrences y x 0 y.length 1).isEmpty)
  | .NotIn, .str x, .str y => some (!(!(Builtin.Str.occurrences y x 0 y.length 1).isEmpty))
  | _, _, _ => none
/-- keys of a dict: numbers and texts -/
def keyD : D → Option L2.Key
  | .int i => some (.inl i)
  | .str x => some (.inr x)
  | _ => none
def kD : L2.Key → D
  | .inl i => .int i
  | .inr x => .str x
def sameKey : D → D → Bool
  | .int i, .int j => decide (i = j)
  | .str x, .str y => decide (x = y)
  | _, _ => false
def dGet (kvs : List (D × D)) (k : D) : Option D := (kvs.find? fun p => sameKey p.1 k).map (·.2)
def dPut (kvs : List (D × D)) (k v : D) : List (D × D) :=
  if (kvs.any fun p => sameKey p.1 k) = true then kvs.map (fun p => if sameKey p.1 k then (p.1, v) else p) else kvs ++ [(k, v)]
mutual
/-- what a key is -/
def nkD : D → Option NestedKey
  | .none => some .none
  | .bool b => some (.num (if b = true then 1 else 0))
  | .int i => some (.num i)
  | .str x => some (.text x)
  | .tuple ds => (nkAll ds).map .tup
  | .list _ => none
  | .dict _ => none
def nkAll : List D → Option (List NestedKey)
  | [] => some []
  | d :: ds => (nkD d).bind fun k => (nkAll ds).map (k :: ·)
end
/-- a tuple as a key -/
def keyT : D → Option NestedKey
  | .tuple ds => (nkD (.tuple ds)).bind fun k => if k.depth ≤ 8 then some k else none
  | _ => none
/-- dicts whose keys are tuples -/
def tGet (kvs : List (D × D)) (k : D) : Option D := (kvs.find? fun p => decide (keyT p.1 = keyT k)).map (·.2)
def tPut (kvs : List (D × D)) (k v : D) : List (D × D) :=
  if (kvs.any fun p => decide (keyT p.1 = keyT k)) = true then kvs.map (fun p => if keyT p.1 = keyT k then (p.1, v) else p) else kvs ++ [(k, v)]
/-- o[i] -/
def ixR : RV → D → Option D
  | .val (.list xs), .int i => L2.atI xs i
  | .val (.dict kvs), .int i => L2.atI (kvs.map (·.2)) i
  | .new (.lst xs), .int i => L2.atI xs i
  | .val (.tuple xs), .int i => L2.atI xs i
  | .val (.str z), .int i => if z.length ≤ sizeLine then (L2.atI z.cps.toList i).map fun c => .str ⟨#[c]⟩ else none
  | .new (.dct kvs), k => if (keyD k).isSome then dGet kvs k else none
  | .new (.dic kvs), k => if (keyT k).isSome then tGet kvs k else none
  | _, _ => none
def slD : D → Option Int → Option Int → Option RV
  | .list xs, lo, hi => some (.new (.lst (cutL xs lo hi)))
  | .tuple xs, lo, hi => some (.val (.tuple (cutL xs lo hi)))
  | .str z, lo, hi => if z.length ≤ sizeLine then some (.val (.str (L2.cutS z lo hi))) else none
  | _, _, _ => none
/-- o[::-1] -/
def revD : D → Option RV
  | .list xs => some (.new (.lst xs.reverse))
  | .tuple xs => some (.val (.tuple xs.reverse))
  | _ => none
/-- a op b, b perhaps a dict -/
def cmpR (op : CmpOp) (a : D) (r : RV) : Option Bool := match r with
  | .new (.dct kvs) => match op with
    | .In => if (keyD a).isSome then some (dGet kvs a).isSome else if (keyT a).isSome && kvs.isEmpty then some false else none
    | .NotIn => if (keyD a).isSome then some (!(dGet kvs a).isSome) else if (keyT a).isSome && kvs.isEmpty then some true else none
    | _ => none
  | .new (.dic kvs) => match op with
    | .In => if (keyT a).isSome then some (tGet kvs a).isSome else none
    | .NotIn => if (keyT a).isSome then some (!(tGet kvs a).isSome) else none
    | _ => none
  | .new (.lst xs) => cmpD op a (.list xs)
  | .val d => cmpD op a d
/-- items of a list or a tuple -/
def itemsD : D → Option (List D)
  | .list xs => some xs
  | .tuple xs => some xs
  | _ => none
def intsD : List D → Option (List Int)
  | [] => some []
  | .int i :: r => (intsD r).map (i :: ·)
  | _ => none
def boolsD : List D → Option (List Bool)
  | [] => some []
  | .bool b :: r => (boolsD r).map (b :: ·)
  | _ => none
def isaD : Ty → D → Bool
  | .int, .int _ => true
  | .int, .bool _ => true
  | .bool, .bool _ => true
  | .str, .str _ => true
  | .tuple, .tuple _ => true
  | .list, .list _ => true
  | _, _ => false
/-- sorted: the least first, equal ones as they stood -/
def leD (a b : D) : Bool := !PySem.W.dataLt b a
/-- sorted, the greatest first, equal ones as they stood -/
def geD (a b : D) : Bool := !PySem.W.dataLt a b
def isTupC : D → Bool
  | .tuple (_ :: _) => true
  | _ => false
def notTup : D → Bool
  | .tuple _ => false
  | .none => false
  | _ => true
def sortOk (xs : List D) : Bool := (xs.all fun x => xs.all fun y => PySem.W.alike x y) && (xs.all isTupC || xs.all notTup) && PyData.plainAll xs && decide (PyData.depthAll xs ≤ 60)
def isDictD : D → Bool
  | .dict _ => true
  | _ => false
/-- all can be compared with one another -/
def alikeB (xs : List D) : Bool := (xs.all fun x => xs.all fun y => PySem.W.alike x y) && (xs.all fun x => !isNoneD x) && PyData.plainAll xs && decide (PyData.depthAll xs ≤ 60)
/-- pairs of a list -/
def pairsD : List D → Option (List (D × D))
  | [] => some []
  | .tuple [k, v] :: r => (pairsD r).map ((k, v) :: ·)
  | _ => none
/-- dict(ps) -/
def dictP (ps : List D) : Option Ob := (pairsD ps).bind fun kvs =>
  if kvs.all (fun p => (keyD p.1).isSome) then some (.dct (kvs.foldl (fun acc p => dPut acc p.1 p.2) []))
  else if kvs.all (fun p => (keyT p.1).isSome) then some (.dic (kvs.foldl (fun acc p => tPut acc p.1 p.2) [])) else none
def biD : Bi → List D → Option RV
  | .len, [.list xs] => some (.val (.int xs.length))
  | .len, [.dict kvs] => some (.val (.int kvs.length))
  | .len, [.tuple xs] => some (.val (.int xs.length))
  | .len, [.str z] => if z.length ≤ sizeLine then some (.val (.int z.length)) else none
  | .tuple, [.list xs] => some (.val (.tuple xs))
  | .tuple, [.tuple xs] => some (.val (.tuple xs))
  | .list, [.list xs] => some (.new (.lst xs))
  | .list, [.tuple xs] => some (.new (.lst xs))
  | .sorted, [.list xs] => if sortOk xs then some (.new (.lst (xs.mergeSort leD))) else none
  | .sorted, [.tuple xs] => if sortOk xs then some (.new (.lst (xs.mergeSort leD))) else none
  | .sorted, [.dict kvs] => if sortOk (kvs.map (·.1)) then some (.new (.lst ((kvs.map (·.1)).mergeSort leD))) else none
  | .dict, [.list ps] => (dictP ps).map .new
  | .sortedRev, [.list xs] => if sortOk xs then some (.new (.lst (xs.mergeSort geD))) else none
  | .sortedRev, [.tuple xs] => if sortOk xs then some (.new (.lst (xs.mergeSort geD))) else none
  | .sum, [.list xs] => (intsD xs).map fun ns => .val (.int ns.sum)
  | .min, [.int i, .int j] => some (.val (.int (if j < i then j else i)))
  | .max, [.int i, .int j] => some (.val (.int (if j > i then j else i)))
  | .min, [.list (x :: xs)] => if alikeB (x :: xs) then some (.val (PySem.W.minD x xs)) else none
  | .min, [.tuple (x :: xs)] => if alikeB (x :: xs) then some (.val (PySem.W.minD x xs)) else none
  | .max, [.list (x :: xs)] => if alikeB (x :: xs) then some (.val (PySem.W.maxD x xs)) else none
  | .max, [.tuple (x :: xs)] => if alikeB (x :: xs) then some (.val (PySem.W.maxD x xs)) else none
  | .abs, [.int i] => some (.val (.int (if i < 0 then -i else i)))
  | .int, [.int i] => some (.val (.int i))
  | .int, [.bool b] => some (.val (.int (if b then 1 else 0)))
  | .all, [.list xs] => (boolsD xs).map fun bs => .val (.bool (bs.all id))
  | .any, [.list xs] => (boolsD xs).map fun bs => .val (.bool (bs.any id))
  | .isa ts, [x] => if isDictD x then none else some (.val (.bool (ts.any fun t => isaD t x)))
  | _, _ => none
/-- pairs of the items of two rows of one kind -/
def zipD : D → D → Option (List D)
  | .list xs, .list ys => some ((xs.zip ys).map fun p => .tuple [p.1, p.2])
  | .tuple xs, .tuple ys => some ((xs.zip ys).map fun p => .tuple [p.1, p.2])
  | _, _ => none
def zipDs : List D → Option (List D)
  | [d, d'] => zipD d d'
  | _ => none
def listR : RV → Option (List D)
  | .val (.list xs) => some xs
  | .new (.lst xs) => some xs
  | .val (.tuple xs) => some xs
  | _ => none
/-- how many different ints -/
def setLen (ns : List Int) : Nat := (PyProof.Rows.firstMet (fun i => ns.getD i 0) ns.length).length
def itemsOf (kvs : List (D × D)) : List D := kvs.map fun p => .tuple [p.1, p.2]
/-- isinstance(o, dict), sorted(o.items()), len(set(o)) -/
def fnR : Fn → RV → Option RV
  | .isDict, .new (.dct _) => some (.val (.bool true))
  | .isDict, .new (.dic _) => some (.val (.bool true))
  | .isDict, .new (.lst _) => some (.val (.bool false))
  | .isDict, .val d => if isDictD d then none else some (.val (.bool false))
  | .sortedItems, .new (.dct kvs) => if sortOk (itemsOf kvs) then some (.new (.lst ((itemsOf kvs).mergeSort leD))) else none
  | .sortedItems, .new (.dic kvs) => if sortOk (itemsOf kvs) then some (.new (.lst ((itemsOf kvs).mergeSort leD))) else none
  | .lenSet, .new (.lst xs) => (intsD xs).bind fun ns => if ns.length ≤ 4000 then some (.val (.int (setLen ns))) else none
  | .lenSet, .val (.list xs) => (intsD xs).bind fun ns => if ns.length ≤ 4000 then some (.val (.int (setLen ns))) else none
  | _, _ => none
def isListD : D → Bool
  | .list _ => true
  | _ => false
/-- methods that change nothing -/
def pureM : Mth → RV → List D → Option RV
  | .index, o, [x] => (listR o).bind fun xs => if PyData.plainAll xs && x.plain && decide (min (PyData.depthAll xs) x.depth ≤ 60) then (PySem.SeqAt.dataPlace xs x).map fun (j : Nat) => .val (.int j) else none
  | .count, o, [x] => (listR o).bind fun xs => if PyData.plainAll xs && x.plain && decide (min (PyData.depthAll xs) x.depth ≤ 60) then some (.val (.int (xs.countP fun y => PyData.eqv y x : Nat))) else none
  | .get, .new (.dct kvs), [k] => if (keyD k).isSome then some (.val ((dGet kvs k).getD .none)) else if (keyT k).isSome && kvs.isEmpty then some (.val .none) else none
  | .get2, .new (.dct kvs), [k, d] => if (keyD k).isSome && !isListD d && !isDictD d then some (.val ((dGet kvs k).getD d)) else if (keyT k).isSome && kvs.isEmpty && !isListD d && !isDictD d then some (.val d) else none
  | .get, .new (.dic kvs), [k] => if (keyT k).isSome then some (.val ((tGet kvs k).getD .none)) else none
  | .get2, .new (.dic kvs), [k, d] => if (keyT k).isSome && !isListD d && !isDictD d then some (.val ((tGet kvs k).getD d)) else none
  | _, _, _ => none
inductive Kd where
  | list | tuple | str | dict | other
  deriving DecidableEq
def kindR : RV → Kd
  | .val (.list _) => .list
  | .new (.lst _) => .list
  | .val (.tuple _) => .tuple
  | .val (.str _) => .str
  | .new (.dct _) => .dict
  | .new (.dic _) => .dict
  | _ => .other
def Mth.mut : Mth → Bool
  | .append | .extend | .pop | .popAt | .remove | .insert | .reverse => true
  | _ => false
/-- methods that change their object: what they hand back, the object behind -/
def mutO : Mth → Ob → List D → Option (D × Ob)
  | .append, .lst xs, [x] => if xs.length < sizeLine then some (.none, .lst (xs ++ [x])) else none
  | .extend, .lst xs, [.list ys] => if xs.length + ys.length ≤ sizeLine then some (.none, .lst (xs ++ ys)) else none
  | .pop, .lst xs, [] => (xs[xs.length - 1]?).map fun x => (x, .lst xs.dropLast)
  | .popAt, .lst xs, [.int i] => if -(2 ^ 63) ≤ i ∧ i < 2 ^ 63 then (L2.ixN xs.length i).bind fun k => (xs[k]?).map fun x => (x, .lst (xs.eraseIdx k)) else none
  | .remove, .lst xs, [x] => if PyData.plainAll xs && x.plain && decide (min (PyData.depthAll xs) x.depth ≤ 60) then (PySem.SeqAt.dataPlace xs x).map fun (j : Nat) => (.none, .lst (xs.eraseIdx j)) else none
  | .insert, .lst xs, [.int i, x] => if xs.length < sizeLine ∧ 0 ≤ i ∧ i < 2 ^ 63 then some (.none, .lst (xs.take i.toNat ++ [x] ++ xs.drop i.toNat)) else none
  | .reverse, .lst xs, [] => some (.none, .lst xs.reverse)
  | _, _, _ => none
/-- o[i] = x -/
def putO : Ob → D → D → Option Ob
  | .lst xs, .int i, x => (L2.ixN xs.length i).map fun j => .lst (xs.set j x)
  | .dct kvs, k, x => if (keyD k).isSome && decide (kvs.length < sizeLine) then some (.dct (dPut kvs k x)) else if (keyT k).isSome && kvs.isEmpty then some (.dic [(k, x)]) else none
  | .dic kvs, k, x => if (keyT k).isSome && decide (kvs.length < sizeLine) then some (.dic (tPut kvs k x)) else none
  | _, _, _ => none

/-! ### operands -/
def vw : Opd → En → Option RV
  | .val d, _ => some (.val d)
  | .new o, _ => some (.new o)
  | .slot i, e => match e[i]? with
    | some (.sh d) => some (.val d)
    | some (.ow o) => some (.new o)
    | some (.pa o) => some (.new o)
    | _ => none
def vwM (o : Opd) : M RV := fun e => lift (vw o e) e
def rdM (o : Opd) : M D := fun e => lift ((vw o e).bind RV.d) e
/-- the operand becomes shared data -/
def escM (o : Opd) : M D := match o with
  | .val d => pure d
  | .new (.lst xs) => pure (.list xs)
  | .new (.dct _) => lift none
  | .new (.dic _) => lift none
  | .slot i => fun e => match e[i]? with
    | some (.sh d) => .ok d e
    | some (.ow (.lst xs)) => .ok (.list xs) (e.set i (.sh (.list xs)))
    | some (.pa (.lst xs)) => .ok (.list xs) (e.set i (.sh (.list xs)))
    | _ => .er .bad e
def rdsM : List Opd → M (List D)
  | [] => pure []
  | o :: os => do let d ← rdM o; let ds ← rdsM os; pure (d :: ds)
def escsM : List Opd → M (List D)
  | [] => pure []
  | o :: os => do let d ← escM o; let ds ← escsM os; pure (d :: ds)
def truM (o : Opd) : M Bool := fun e => match vw o e with
  | some (.val d) => lift (truD d) e
  | some (.new (.lst xs)) => .ok (!xs.isEmpty) e
  | some (.new (.dct kvs)) => .ok (!kvs.isEmpty) e
  | some (.new (.dic _)) => .er .bad e
  | none => .er .bad e
def setM (i : Nat) (s : Slot) : M Unit := fun e => if i < e.length then .ok () (e.set i s) else .er .bad e
def stO (i : Nat) (o : Opd) : M Unit := match o with
  | .val d => setM i (.sh d)
  | .new ob => setM i (.ow ob)
  | .slot j => do let d ← escM (.slot j); setM i (.sh d)
/-- operands side by side that will be stored: names' objects are shared from now on -/
def prepM (o : Opd) : M Opd := match o with
  | .val d => pure (.val d)
  | .new b => pure (.new b)
  | .slot i => do let d ← escM (.slot i); pure (.val d)
def prepsM : List Opd → M (List Opd)
  | [] => pure []
  | o :: os => do let o ← prepM o; let os ← prepsM os; pure (o :: os)
def stosM : List Nat → List Opd → M Unit
  | [], [] => pure ()
  | i :: is, o :: os => do stO i o; stosM is os
  | _, _ => lift none
mutual
def bindT : MT → D → M Unit
  | .name i, d => setM i (.sh d)
  | .tup ts, .tuple ds => bindTs ts ds
  | .tup _, _ => lift none
def bindTs : MTs → List D → M Unit
  | .nil, [] => pure ()
  | .cons t ts, d :: ds => do bindT t d; bindTs ts ds
  | _, _ => lift none
end
/-- the object of a name is changed -/
def updM {α : Type} (o : Opd) (f : Ob → Option (α × Ob)) : M α := match o with
  | .slot i => fun e => match e[i]? with
    | some (.ow b) => match f b with
      | some (a, b') => .ok a (e.set i (.ow b'))
      | none => .er .bad e
    | some (.pa b) => match f b with
      | some (a, b') => .ok a (e.set i (.pa b'))
      | none => .er .bad e
    | _ => .er .bad e
  | _ => lift none

/-! ### calls -/
inductive CR where
  | ok (r : RV) (outs : List Slot) | er (x : Err)
def argOf (o : Opd) (e : En) : Option Slot := match o with
  | .val d => some (.sh d)
  | .new o => some (.pa o)
  | .slot i => match e[i]? with
    | some (.sh d) => some (.sh d)
    | some (.ow o) => some (.pa o)
    | some (.pa o) => some (.pa o)
    | _ => none
def argsOf : List Opd → En → Option (List Slot)
  | [], _ => some []
  | o :: os, e => (argOf o e).bind fun s => (argsOf os e).map (s :: ·)
/-- the names whose objects are handed over -/
def moved : List Opd → En → List Nat
  | [], _ => []
  | .slot i :: os, e => match e[i]? with
    | some (.ow _) => i :: moved os e
    | some (.pa _) => i :: moved os e
    | _ => moved os e
  | .val _ :: os, e => moved os e
  | .new _ :: os, e => moved os e
def asOw : Slot → Slot
  | .pa o => .ow o
  | _ => .no
def asPa : Slot → Slot
  | .pa o => .pa o
  | _ => .no
def wb : List Opd → List Slot → En → En
  | [], _, e => e
  | .slot i :: os, ss, e => wb os ss.tail (match e[i]? with
    | some (.ow _) => e.set i (asOw (ss.headD .no))
    | some (.pa _) => e.set i (asPa (ss.headD .no))
    | _ => e)
  | .val _ :: os, ss, e => wb os ss.tail e
  | .new _ :: os, ss, e => wb os ss.tail e
def callM (cf : Nat → List Slot → CR) (f : Nat) (os : List Opd) : M Opd := fun e => match argsOf os e with
  | none => .er .bad e
  | some as => if (moved os e).Nodup then (match cf f as with
    | .ok r outs => .ok r.op (wb os outs e)
    | .er x => .er x e) else .er .bad e

/-! ### loops -/
def forLoop (f : D → M Fl) : List D → M Fl
  | [] => pure .nx
  | d :: ds => fun e => match f d e with
    | .ok .nx e' => forLoop f ds e'
    | .ok .cnt e' => forLoop f ds e'
    | .ok .brk e' => .ok .nx e'
    | .ok (.ret o) e' => .ok (.ret o) e'
    | .er x e' => .er x e'
def whlLoop (c : M Bool) (b : M Fl) : Nat → M Fl
  | 0 => lift none
  | n + 1 => fun e => match c e with
    | .ok false e' => .ok .nx e'
    | .ok true e' => match b e' with
      | .ok .nx e'' => whlLoop c b n e''
      | .ok .cnt e'' => whlLoop c b n e''
      | .ok .brk e'' => .ok .nx e''
      | .ok (.ret o) e'' => .ok (.ret o) e''
      | .er x e'' => .er x e''
    | .er x e' => .er x e'
def wfuel : Nat := 100000
def wipeE (e : En) : List Nat → En
  | [] => e
  | v :: vs => (wipeE e vs).set v .no
def notOwned : Slot → Bool
  | .no => true
  | .sh _ => true
  | _ => false
def restE (e0 e : En) : List Nat → En
  | [] => e
  | v :: vs => (restE e0 e vs).set v (e0[v]?.getD .no)
def compLoop (own : List Nat) (f : D → M (Option D)) : List D → List D → M (List D)
  | [], acc => pure acc
  | d :: ds, acc => fun e => match f d e with
    | .ok (some x) e' => compLoop own f ds (acc ++ [x]) (wipeE e' own)
    | .ok none e' => compLoop own f ds acc (wipeE e' own)
    | .er x e' => .er x e'
def compM (own : List Nat) (f : D → M (Option D)) (ds : List D) : M Opd := fun e =>
  if own.all fun i => notOwned (e[i]?.getD .no) then
    match compLoop own f ds [] (wipeE e own) with
    | .ok acc e' => .ok (.new (.lst acc)) (restE e e' own)
    | .er x e' => .er x e'
  else .er .bad e
/-- how many turns a range of a step takes -/
def stepN (i j c : Int) : Nat := if i < j then ((j - i - 1) / c + 1).toNat else 0
def rngD : List D → Option (List D)
  | [.int j] => if -(2 ^ 62) ≤ j ∧ j < 2 ^ 62 ∧ j ≤ sizeLine then some ((List.range j.toNat).map fun (k : Nat) => .int k) else none
  | [.int i, .int j] => if (-(2 ^ 62) ≤ i ∧ i < 2 ^ 62) ∧ (-(2 ^ 62) ≤ j ∧ j < 2 ^ 62) ∧ j - i ≤ sizeLine then some ((List.range (j - i).toNat).map fun (k : Nat) => .int (i + k)) else none
  | [.int i, .int j, .int c] => if (-(2 ^ 62) ≤ i ∧ i < 2 ^ 62) ∧ (-(2 ^ 62) ≤ j ∧ j < 2 ^ 62) ∧ c = -1 ∧ i - j ≤ sizeLine then some ((List.range (i - j).toNat).map fun (k : Nat) => .int (i - k)) else
    if (-(2 ^ 62) ≤ i ∧ i < 2 ^ 62) ∧ (-(2 ^ 62) ≤ j ∧ j < 2 ^ 62) ∧ (0 < c ∧ c < 1073741824) ∧ j - i ≤ sizeLine then some ((List.range (stepN i j c)).map fun (k : Nat) => .int (i + k * c)) else none
  | _ => none

/-! ### the evaluator -/
def isNewR : RV → Bool
  | .new _ => true
  | _ => false
section
variable (cf : Nat → List Slot → CR)
mutual
def evE : ME → M Opd
  | .c d => pure (.val d)
  | .v i => fun e => match e[i]? with
    | some (.sh d) => .ok (.val d) e
    | some (.ow _) => .ok (.slot i) e
    | some (.pa _) => .ok (.slot i) e
    | _ => .er .bad e
  | .bin op a b => do let x ← evE a; let y ← evE b; let d ← rdM x; let d' ← rdM y; let r ← lift (binD op d d'); pure r.op
  | .neg a => do let x ← evE a; let d ← rdM x; match d with
    | .int i => pure (.val (.int (-i)))
    | _ => lift none
  | .cmp op a b => do let x ← evE a; let y ← evE b; let d ← rdM x; let d' ← vwM y; let r ← lift (cmpR op d d'); pure (.val (.bool r))
  | .chain op op' a b c => do
    let x ← evE a; let y ← evE b; let d ← rdM x; let d' ← rdM y; let r ← lift (cmpD op d d')
    if r then do let z ← evE c; let d' ← rdM y; let d'' ← rdM z; let r' ← lift (cmpD op' d' d''); pure (.val (.bool r'))
    else pure (.val (.bool false))
  | .andd a b => do let x ← evE a; let t ← truM x; if t then evE b else pure x
  | .orr a b => do let x ← evE a; let t ← truM x; if t then pure x else evE b
  | .nott a => do let x ← evE a; let t ← truM x; pure (.val (.bool (!t)))
  | .ite c a b => do let t ← evB c; if t then evE a else evE b
  | .tup es => do let os ← evEs es; let ds ← escsM os; if ds.length ≤ sizeLine then pure (.val (.tuple ds)) else lift none
  | .lst es => do let os ← evEs es; let ds ← escsM os; if ds.length ≤ sizeLine then pure (.new (.lst ds)) else lift none
  | .dct ks es => do let os ← evEs es; let ds ← escsM os; if ks.length = ds.length ∧ ks.length ≤ 15 then pure (.new (.dct ((ks.zip ds).foldl (fun acc p => dPut acc p.1 p.2) []))) else lift none
  | .call f es => do let os ← evEs es; callM cf f os
  | .bi b es => do let os ← evEs es; let ds ← rdsM os; let r ← lift (biD b ds); pure r.op
  | .meth m o es => do
    let x ← evE o; let r0 ← vwM x; let os ← evEs es
    if m.mut then do
      guardM (kindR r0 = .list)
      let ds ← (match m with | .append => escsM os | .insert => escsM os | _ => rdsM os)
      let d ← updM x fun b => mutO m b ds
      pure (.val d)
    else do
      let r ← vwM x
      guardM (kindR r0 = kindR r)
      let ds ← rdsM os; let r ← lift (pureM m r ds); pure r.op
  | .ix o i => do let x ← evE o; let y ← evE i; let r ← vwM x; let d ← rdM y; let d ← lift (ixR r d); pure (.val d)
  | .sl o lo hi => do let x ← evE o; let l ← evO lo; let h ← evO hi; let d ← rdM x; let r ← lift (slD d l h); pure r.op
  | .comp own t it cond elt => do
    let ds ← evI it
    compM own (fun d => do
      bindT t d
      let b ← evC cond
      if b then do let x ← evE elt; let y ← escM x; pure (some y) else pure none) ds
  | .rngL tu a => do let x ← evE a; let d ← rdM x; let l ← lift (rngD [d]); pure (if tu then .val (.tuple l) else .new (.lst l))
  | .rngL2 tu a b => do let x ← evE a; let y ← evE b; let d ← rdM x; let d' ← rdM y; let l ← lift (rngD [d, d']); pure (if tu then .val (.tuple l) else .new (.lst l))
  | .rev o => do let x ← evE o; let d ← rdM x; let r ← lift (revD d); pure r.op
  | .shr a => do let x ← evE a; let d ← escM x; pure (.val d)
  | .fn f o => do let x ← evE o; let r ← vwM x; let rv ← lift (fnR f r); pure rv.op
  | .dnew => pure (.new (.dct []))
  | .dt1 k v => do let x ← evE k; let y ← evE v; let ds ← escsM [x, y]; match ds with
    | [a, b] => if (keyT a).isSome then pure (.new (.dic [(a, b)])) else lift none
    | _ => lift none
def evEs : MEs → M (List Opd)
  | .nil => pure []
  | .cons e es => do let o ← evE e; let os ← evEs es; pure (o :: os)
def evO : MO → M (Option Int)
  | .none => pure none
  | .some e => do let o ← evE e; let d ← rdM o; match d with
    | .int i => pure (some i)
    | _ => lift none
def evC : MC → M Bool
  | .none => pure true
  | .some b => evB b
def evB : MB → M Bool
  | .tr e => do let o ← evE e; truM o
  | .andd a b => do let t ← evB a; if t then evB b else pure false
  | .orr a b => do let t ← evB a; if t then pure true else evB b
  | .nott a => do let t ← evB a; pure (!t)
def evI : MI → M (List D)
  | .seq e => do let o ← evE e; let d ← escM o; lift (itemsD d)
  | .rng es => do let os ← evEs es; let ds ← rdsM os; lift (rngD ds)
  | .zip es => do let os ← evEs es; let ds ← escsM os; lift (zipDs ds)
  | .revd e => do let o ← evE e; let d ← escM o; lift ((itemsD d).map List.reverse)
end
mutual
def evS : MS → M Fl
  | .expr e => do let _ ← evE cf e; pure .nx
  | .asg (.name i) e => do let o ← evE cf e; stO i o; pure .nx
  | .asg (.tup ts) e => do let o ← evE cf e; let d ← escM o; bindT (.tup ts) d; pure .nx
  | .parN is es => do let os ← evEs cf es; let os ← prepsM os; stosM is os; pure .nx
  | .asgIx j i e => do let x ← evE cf e; let o ← evE cf (.v j); let y ← evE cf i; let k ← rdM y; let d ← escM x; updM o (fun b => (putO b k d).map fun b' => ((), b')); pure .nx
  | .aug i op e => do let x ← evE cf (.v i); let y ← evE cf e; let d ← rdM x; let d' ← rdM y; let r ← lift (ipD op d d'); stO i r.op; pure .nx
  | .augIx j i op e => do
    let o ← evE cf (.v j); let y ← evE cf i; let r ← vwM o; guardM (isNewR r = true); let k ← rdM y; let old ← lift (ixR r k)
    let z ← evE cf e; let d' ← rdM z; let new ← lift (ipD op old d')
    let k ← rdM y
    let nd ← escM new.op
    updM o (fun b => (putO b k nd).map fun b' => ((), b')); pure .nx
  | .ret e => do let o ← evE cf e; pure (.ret o)
  | .retN => pure (.ret (.val .none))
  | .ife c a b => do let t ← evB cf c; if t then evSs a else evSs b
  | .for_ t it b => do let ds ← evI cf it; forLoop (fun d => do bindT t d; evSs b) ds
  | .whl c b => whlLoop (evB cf c) (evSs b) wfuel
  | .brk => pure .brk
  | .cnt => pure .cnt
  | .pass => pure .nx
def evSs : MSs → M Fl
  | .nil => pure .nx
  | .cons s ss => fun e => match evS s e with
    | .ok .nx e' => evSs ss e'
    | r => r
end
end
/-! ### defs -/
structure Fd where
  np : Nat
  nv : Nat
  body : MSs
/-- what becomes of the objects that were handed over -/
def maskOuts : List Slot → En → List Slot
  | .pa _ :: as, .pa o :: e => .pa o :: maskOuts as e
  | _ :: as, _ :: e => .no :: maskOuts as e
  | _, _ => []
def finish (as : List Slot) (o : Opd) (e : En) : CR := match o with
  | .val d => .ok (.val d) (maskOuts as e)
  | .new b => .ok (.new b) (maskOuts as e)
  | .slot i => match e[i]? with
    | some (.sh d) => .ok (.val d) (maskOuts as e)
    | some (.ow b) => .ok (.new b) (maskOuts as e)
    | some (.pa (.lst xs)) => .ok (.val (.list xs)) (maskOuts as (e.set i (.sh (.list xs))))
    | _ => .er .bad
def runFd (cf : Nat → List Slot → CR) (f : Fd) (as : List Slot) : CR :=
  if as.length = f.np then
    match evSs cf f.body (as ++ List.replicate (f.nv - f.np) .no) with
    | .ok .nx e => finish as (.val .none) e
    | .ok (.ret o) e => finish as o e
    | .ok _ _ => .er .bad
    | .er x _ => .er x
  else .er .bad
/-- n: how deep calls may lie (told by its measure, so that nothing reckons it out unasked) -/
def callN (fs : List Fd) (n : Nat) (j : Nat) (as : List Slot) : CR := match n with
  | 0 => .er .bad
  | n + 1 => match fs[j]? with
    | some f => runFd (callN fs n) f as
    | none => .er .bad
termination_by n
theorem callN_zero {fs : List Fd} {j : Nat} {as : List Slot} : callN fs 0 j as = .er .bad := by rw [callN]
theorem callN_succ {fs : List Fd} {n j : Nat} {as : List Slot} {f : Fd} (h : fs[j]? = some f) : callN fs (n + 1) j as = runFd (callN fs n) f as := by
  rw [callN, h]
end Ev
/-! new tuples, of which it is known that they have no dict of their own -/
namespace Ev
open PySem PySem.Spec PyProof.Rows L2
/-- a tuple's object as it is laid -/
abbrev tupO (us : List Value) : Obj := { cls := .type "tuple", data := .seq us.toArray }
/-- a tuple without a dict of its own -/
def SqU (K : PySem.W.Frag) (F : Hp) (a : Addr) (xs : List V) : Prop := (∃ o : Obj, F a = some (.frz o (.tup xs)) ∧ o.dict = none) ∨
  ∃ (o : Obj) (its : Array Value) (n : Nat), K.lookup a = some o ∧ o.cls = .type "tuple" ∧ o.dict = none ∧ o.data = .seq its n ∧ its.size ≤ sizeLine ∧ Vals xs its.toList
theorem SqU.t {K : PySem.W.Frag} {F : Hp} {a : Addr} {xs : List V} (h : SqU K F a xs) : SqT K F a xs := by
  rcases h with ⟨o, h, _⟩ | ⟨o, its, n, h1, h2, _, h4⟩
  · exact .inl (.inr ⟨o, h⟩)
  · exact .inr ⟨o, its, n, h1, h2, h4⟩
/-- what is asked of a new tuple's reader -/
def NT (H : Hp) (xs : List V) (Q : VK) : Prop := ∀ (p : Addr) (o : Obj), o.dict = none → H p = none → Q (.ref p) (upd H p (.frz o (.tup xs)))
section
variable {X : Cx} {pins : List (Addr × Obj)} {σ : L2.St} {H : Hp} {s : Shared} {h' : Heap} {p : Addr} {xs : List V} {us : List Value} {t' : Nat}
theorem inv_tup (I : Inv X pins σ H s) (hz : xs.length ≤ sizeLine) (r : Vals xs us) (k : ∀ b u, s.heap.get? b = some u → h'.get? b = some u) (hp : s.heap.objs.size ≤ p) (e : h'.get? p = some (tupO us)) :
    Inv X pins σ (upd H p (.frz (tupO us) (.tup xs))) { s with heap := h', toks := t' } :=
  I.laid k hp ⟨e, hz, us, r, ⟨_, e, rfl, _, rfl⟩⟩
theorem ep_tup {Q : VK} (I : Inv X pins σ H s) (hz : xs.length ≤ sizeLine) (r : Vals xs us) (q : NT H xs Q) : EP X pins σ Q (.ref s.heap.objs.size) { s with heap := s.heap.push (tupO us) } :=
  ⟨.ref s.heap.objs.size, _, inv_tup (t' := s.toks) I hz r (fun b u e => Heap.get?_push_of_some _ e) (Nat.le_refl _) (Heap.get?_push_size _ rfl), rfl, q _ _ rfl (I.hok.fresh (Nat.le_refl _))⟩
/-- (a, b, ..) -/
theorem pe_tupU {es : List Expr} {t : TA} {pos : Pos} {x1 : Nat} (ha : PA X es t) : PE X (.Tuple es x1 pos) fun σ H Q => t σ H fun vs H1 => vs.length ≤ sizeLine ∧ NT H1 vs Q :=
  ⟨fun pins s σ H Q I hq => wpAny_Tuple_spliced (thn (ha.run pos pins s σ H _ I hq) fun us s1 ⟨vs, H1, I1, r1, z1, w⟩ => ⟨r1.length ▸ z1, ep_tup I1 z1 r1 w⟩)⟩
/-- tuple(xs), tuple(t) -/
theorem cr_tupU : CallR X (.type "tuple") fun vs H Q => ∃ a ys, vs = [.ref a] ∧ ((SqL X.K H a ys ∧ NT H ys Q) ∨ (SqT X.K H a ys ∧ Q (.ref a) H)) := by
  intro pins s σ H vs us Q I rv hq
  obtain ⟨a, ys, rfl, hl | ht⟩ := hq
  · obtain ⟨u, rfl, ru⟩ := vals1 rv
    cases ru
    obtain ⟨w, rw, pw, zw⟩ := I.list hl.1
    refine call_tuple_list pw.isList (fun h1 keeps => ?_) (by have := rw.length; simp only [List.size_toArray]; omega)
    exact ep_tup (s := { s with heap := h1 }) (I.kept (t' := s.toks) keeps) zw rw hl.2
  · exact call_tuple_of pins s σ H _ us Q I rv ⟨a, ys, rfl, .inr ht⟩
def rCatU (K : PySem.W.Frag) : R2 := fun x y H Q => ∃ a b xs ys, x = .ref a ∧ y = .ref b ∧ SqT K H a xs ∧ SqT K H b ys ∧ xs.length + ys.length ≤ sizeLine ∧
  (xs = [] → Q (.ref b) H) ∧ (ys = [] → Q (.ref a) H) ∧ NT H (xs ++ ys) Q
/-- t + u -/
theorem op_catU : OpR X (binaryOp .Add) (rCatU X.K) := by
  intro pins s σ H x y v u Q I rx ry hq
  obtain ⟨a, b, xs, ys, rfl, rfl, ta, tb, zz, qa, qb, qn⟩ := hq
  by_cases ex : xs = []
  · exact op_catA pins s σ H _ _ v u Q I rx ry ⟨a, b, xs, ys, rfl, rfl, ta, tb, zz, qa, fun h => absurd ex h, fun h => absurd ex h⟩
  · cases rx; cases ry
    obtain ⟨w1, r1, p1, _⟩ := I.tuple ta
    obtain ⟨w2, r2, p2, _⟩ := I.tuple tb
    refine HT.cat_tup p1 p2 (fun e => ex (r1.nil_iff.mp e)) (fun e => ⟨.ref a, H, I, rfl, qb (r2.nil_iff.mp e)⟩) (fun _ => ?_) (by have := r1.length; have := r2.length; omega)
    exact ep_tup I (by rw [List.length_append]; exact zz) (r1.append r2) qn
def rRepU (K : PySem.W.Frag) : R2 := fun x y H Q => ∃ l k xs, x = .ref l ∧ y = .int k ∧ SqT K H l xs ∧ xs ≠ [] ∧ 2 ≤ k ∧ k ≤ 1000 ∧ xs.length ≤ 1000 ∧ NT H (List.replicate k.toNat xs).flatten Q
/-- t * k -/
theorem op_repU : OpR X (binaryOp .Mult) (rRepU X.K) := by
  intro pins s σ H x y v u Q I rx ry hq
  obtain ⟨l, k, xs, rfl, rfl, tl, ne, lo, hi, zz, qn⟩ := hq
  cases rx
  obtain ⟨tk, rfl⟩ := ry
  obtain ⟨w, r, ⟨⟨cls, dd, data, sl⟩, ho, hc, n, hd⟩, _⟩ := I.tuple tl
  dsimp only at hc hd
  subst hc hd
  have len : w.length = xs.length := r.length.symm
  have wne : w ≠ [] := fun e => ne (List.eq_nil_of_length_eq_zero (by rw [← len, e]; rfl))
  have emp : w.toArray.isEmpty = false := by cases w with
    | nil => exact absurd rfl wne
    | cons _ _ => rfl
  have wsz : w.toArray.size = xs.length := by rw [List.size_toArray, len]
  have prod : k.toNat * xs.length ≤ 1000 * 1000 := Nat.mul_le_mul (by omega) zz
  have ilen : ((w.toArray.size : Nat) : Int) * k ≤ 1000000 := by
    rw [wsz]
    have : ((xs.length : Nat) : Int) * k ≤ 1000 * k := Int.mul_le_mul_of_nonneg_right (by omega) (by omega)
    omega
  have out : (List.replicate k.toNat w).flatten.length ≤ sizeLine := by
    rw [PyProof.Rows.lm_len_rep_flat, len]; have := sizeLine_eq; omega
  have few : Builtin.Tuple.tupleTooMany (((w.toArray.size : Nat) : Int) * k) = false := by
    unfold Builtin.Tuple.tupleTooMany; have := sizeLine_eq; exact decide_eq_false (by omega)
  have d0 : (decide (k < -(2 ^ 63)) || decide (k ≥ 2 ^ 63)) = false := by
    rw [Bool.or_eq_false_iff]; exact ⟨decide_eq_false (by omega), decide_eq_false (by omega)⟩
  have d1 : (w.toArray.isEmpty || k == 1) = false := by
    rw [Bool.or_eq_false_iff]; exact ⟨emp, beq_eq_false_iff_ne.mpr (by omega)⟩
  have d2 : (decide (k ≤ 0) || w.toArray.isEmpty) = false := by
    rw [Bool.or_eq_false_iff]; exact ⟨decide_eq_false (by omega), emp⟩
  have mul := tuple_mulW l w.toArray n dd sl k tk d0 d1 d2 (by omega) few (by rw [size_rep, List.size_toArray]; exact out)
  refine wpAny_binaryOp_repeat_ref (T := "tuple") (U := "int") (by decide) ⟨_, ho, rfl⟩ (fun s' => typeIs_int s' k tk) noFill_tuple_mul F.fills_int_mul F.slot_int_rmul repeat_tuple F.slot_int_index.lookup ?_
  refine call_meets F.slot_int_rmul (typeIs_int s k tk) F.entry_int_rmul (F.args_int_rmul_2 _ _) (int_rmul_tuple k tk l w.toArray n dd sl) ⟨ho, rfl, ⟨_, ho, rfl⟩, ?_⟩
  refine call_meets F.slot_tuple_mul ⟨_, ho, rfl⟩ F.entry_tuple_mul (F.args_tuple_mul_2 _ _) mul ⟨ho, ?_⟩
  rw [size_rep]
  exact ep_tup I (by rw [PyProof.Rows.lm_len_rep_flat]; have := sizeLine_eq; omega) (r.rep k.toNat) qn
def rSlU (K : PySem.W.Frag) : V → Option Int → Option Int → Hp → VK → Prop := fun x lo hi H Q => ∃ a xs, x = .ref a ∧ SqT K H a xs ∧
  (HT.sIx xs.length 0 lo = 0 ∧ HT.sIx xs.length xs.length hi = xs.length → Q (.ref a) H) ∧ NT H (cutV xs lo hi) Q
/-- t[lo:hi] -/
theorem sl_tupU : SlR X (rSlU X.K) := by
  intro pins s σ H x v vl vu lo hi sl Q I rx hs pl pu hq
  obtain ⟨a, xs, rfl, tx, qw, qn⟩ := hq
  by_cases whole : HT.sIx xs.length 0 lo = 0 ∧ HT.sIx xs.length xs.length hi = xs.length
  · exact sl_tupA pins s σ H _ v vl vu lo hi sl Q I rx hs pl pu ⟨a, xs, rfl, tx, qw, fun n => absurd whole n⟩
  · cases rx
    obtain ⟨w, r, pt, zw⟩ := I.tuple tx
    have len : w.toArray.size = xs.length := by rw [List.size_toArray, r.length]
    refine ⟨"tuple", _, PyProof.Rows.slot_tuple_getitem.lookup, pt.typeIs, HT.getItem_tuple_cut pt hs pl pu (by rw [len]; exact whole) ?_ (by rw [len]; exact zw)⟩
    rw [len]
    exact ep_tup I (Nat.le_trans (cutV_length xs lo hi) zw) ((r.drop (HT.sIx xs.length 0 lo)).take (HT.sIx xs.length xs.length hi - HT.sIx xs.length 0 lo)) qn
/-- tuple(range(..)) -/
theorem pe_tupRgU {e : Expr} {te : L2.St → Hp → (Int → Int → Hp → Prop) → Prop} {q pos : Pos} (hc : X.calm = true) (hg : Gl X "tuple") (hm : X.mg "tuple" = none) (he : PRg X e te) (na : starEach [e] X.env = (false, eval e X.env) :: starEach [] X.env) :
    PE X (.Call (.Name "tuple" q) [e] [] pos) fun σ H Q => te σ H fun a b H1 => RgOk a b ∧ NT H1 (rgV a b) Q := by
  refine ⟨fun pins s σ H Q I h0 => Call_ (ld_blt I hg hm boot_tuple (PyProof.Rows.callWith_type1 (args_cons (thn (he pins s σ H _ I h0) fun x s1 hx => args_nil ?_) na) na))⟩
  obtain ⟨r, a, b, t, u, v, H1, rfl, hr, I1, ⟨b1, b2, b3, b4, b5⟩, qn⟩ := hx
  refine call_tuple_range (n := (b - a).toNat) (I1.ok.hd hc) hr (small_one b1 b2 b3 b4) (rangeSize_nat a b) b5 fun h1 tk acc keeps its => ?_
  have new := ep_tup (s := { s1 with heap := h1, toks := tk }) (us := acc.toList) (I1.kept keeps) (by rw [rgV_length]; have := sizeLine_eq; omega) (vals_rg its) qn
  rw [show tupO acc.toList = ({ cls := .type "tuple", data := .seq acc } : Obj) by simp [tupO]] at new
  exact new
end
/-! zip -/
/-- two rows walked together: pairs -/
def ItzU (S : Hp → Addr → List V → Prop) (a b : Addr) : It where
  go := fun i H => ∃ (xs ys : List V) (x y : V), S H a xs ∧ S H b ys ∧ xs[i]? = some x ∧ ys[i]? = some y
  yld := fun i H v H' => ∃ (p : Addr) (o : Obj) (x y : V), v = .ref p ∧ o.dict = none ∧ H p = none ∧ H' = upd H p (.frz o (.tup [x, y])) ∧ (∀ xs, S H a xs → xs[i]? = some x) ∧ ∀ ys, S H b ys → ys[i]? = some y
  stop := fun i H => ∃ xs ys : List V, S H a xs ∧ S H b ys ∧ (xs.length ≤ i ∨ ys.length ≤ i)
section
variable {P : Program} {w : World} {K : PySem.W.Frag} {elts : List Expr} {kk : Nat} {tpos : Pos} {a b z TI TO i1 i2 : Addr}
/-- where the parts of a zip stand -/
def ZipAt (z TI TO i1 i2 : Addr) (it1 it2 : Heap → Prop) (h : Heap) : Prop := IsZip h z TI TO .none ∧ IsPair h TI (.ref i1) (.ref i2) ∧ (∃ x y, IsPair h TO x y) ∧ it1 h ∧ it2 h
theorem pair_new {X : Cx} {pins : List (Addr × Obj)} {σ : L2.St} {H : Hp} {s : Shared} {h2 : Heap} {x y : V} {u u2 : Value} {fp : List Addr} {S : Hp → Addr → List V → Prop} {i : Nat} (I : Inv X pins σ H s) (hf : ∀ c ∈ fp, FpOk X pins H c) (ru : RelV x u) (ru2 : RelV y u2)
    (keeps : ∀ c o, c ∉ fp → s.heap.get? c = some o → h2.get? c = some o) (new : h2.get? s.heap.objs.size = some (tupO [u, u2])) (lt : ∀ c ∈ fp, c < s.heap.objs.size) (fx : ∀ xs, S H a xs → xs[i]? = some x) (fy : ∀ ys, S H b ys → ys[i]? = some y) :
    ∃ v H', Inv X pins σ H' { s with heap := h2 } ∧ RelV v (.ref s.heap.objs.size) ∧ (ItzU S a b).yld i H v H' ∧ ∀ c ∈ fp, H' c = none := by
  have ok : ObjOk X.prog X.w (upd H s.heap.objs.size (.frz (tupO [u, u2]) (.tup [x, y]))) h2 s.heap.objs.size (.frz (tupO [u, u2]) (.tup [x, y])) :=
    ⟨new, (by show 2 ≤ sizeLine; decide), [u, u2], .cons ru (.cons ru2 .nil), ⟨_, new, rfl, _, rfl⟩⟩
  refine ⟨.ref s.heap.objs.size, _, I.turnedNew (t' := s.toks) keeps hf (Nat.le_refl _) ok, rfl, ⟨_, _, x, y, rfl, rfl, I.hok.fresh (Nat.le_refl _), rfl, fx, fy⟩, fun c hc => ?_⟩
  rw [upd_ne (Nat.ne_of_lt (lt c hc))]
  exact (hf c hc).1
theorem five {c z1 z2 z3 z4 z5 : Addr} (h : c ∈ [z1, z2, z3, z4, z5]) : c = z1 ∨ c = z2 ∨ c = z3 ∨ c = z4 ∨ c = z5 := by simpa using h
theorem turn_zipU (D : ZipApart z TI TO i1 i2 a b) : Turn P w K (.Tuple elts kk tpos) (ItzU (SqL K) a b) [z, TI, TO, i1, i2] z fun i => ZipAt z TI TO i1 i2 (fun h => h.IsListIter i1 a i) (fun h => h.IsListIter i2 b i) where
  mem := List.mem_cons_self ..
  obj := fun i h ⟨hz, hi, ⟨x, y, ho⟩, ⟨o1, e1, _, d1⟩, ⟨o2, e2, _, d2⟩⟩ c hc => by
    obtain rfl | rfl | rfl | rfl | rfl := five hc
    · exact ⟨_, hz, fun _ => nofun⟩
    · exact ⟨_, hi, fun _ => nofun⟩
    · exact ⟨_, ho, fun _ => nofun⟩
    · exact ⟨o1, e1, fun _ q => by rw [d1] at q; cases q⟩
    · exact ⟨o2, e2, fun _ q => by rw [d2] at q; cases q⟩
  keep := fun i h h' ⟨hz, hi, ⟨x, y, ho⟩, q1, q2⟩ k => ⟨k z (by simp) _ hz, k TI (by simp) _ hi, ⟨x, y, k TO (by simp) _ ho⟩, q1.at (k i1 (by simp)), q2.at (k i2 (by simp))⟩
  item := by
    rintro X rfl rfl rfl hc i pins s σ H E I hf ⟨hz, hi, ⟨x0, y0, ho⟩, q1, q2⟩ ⟨xs, ys, x, y, sx, sy, ex, ey⟩
    obtain ⟨w1, r1, p1, _⟩ := I.list sx
    obtain ⟨w2, r2, p2, _⟩ := I.list sy
    obtain ⟨u, hu, ru⟩ := r1.get ex
    obtain ⟨u2, hu2, ru2⟩ := r2.get ey
    have lt : ∀ c ∈ [z, TI, TO, i1, i2], c < s.heap.objs.size := fun c hc => by
      obtain rfl | rfl | rfl | rfl | rfl := five hc
      · exact Heap.lt_size hz
      · exact Heap.lt_size hi
      · exact Heap.lt_size ho
      · obtain ⟨_, e1, _⟩ := q1; exact Heap.lt_size e1
      · obtain ⟨_, e2, _⟩ := q2; exact Heap.lt_size e2
    refine wpAny_pyNext_zip_item D hz hi ho q1 q2 p1.isList p2.isList (x := u) (y := u2) (by simpa using hu) (by simpa using hu2) fun h1 z1 o1 j1 j2 new _ others => ⟨_, rfl, wpAny_letOwnedTupleGo_zip (s := { s with heap := h1 }) z1 fun h2 z2 sb => ?_⟩
    obtain ⟨v, H', I2, rv, yd, off⟩ := pair_new (S := SqL X.K) (i := i) I hf ru ru2 (fun c o hn e => by
      simp only [List.mem_cons, List.not_mem_nil, or_false, not_or] at hn
      exact (sb.2 c hn.1).trans (others c o hn.1 hn.2.2.1 hn.2.2.2.1 hn.2.2.2.2 e)) ((sb.2 _ (Nat.ne_of_gt (lt z (by simp)))).trans new) lt (fun l hl => (I.list_inj hl sx) ▸ ex) fun l hl => (I.list_inj hl sy) ▸ ey
    exact ⟨v, H', I2, rv, yd, ⟨z2, (sb.2 _ D.TIz).trans (others _ _ D.TIz D.TITO D.TIi1 D.TIi2 hi), ⟨u, u2, (sb.2 _ D.TOz).trans o1⟩, j1.at fun o q => (sb.2 _ D.i1z).trans q, j2.at fun o q => (sb.2 _ D.i2z).trans q⟩, off⟩
  done := by
    rintro X rfl rfl rfl hc i pins s σ H E I hf st ⟨xs, ys, sx, sy, he⟩
    exact (turn_zip (elts := elts) (kk := kk) (tpos := tpos) D).done X rfl rfl rfl hc i pins s σ H E I hf st ⟨xs, ys, sx, sy, he⟩
  self := fun A i s Q E st h => wpAny_pyIter_zip st.1 h
theorem turn_zipUT (D : ZipApart z TI TO i1 i2 a b) : Turn P w K (.Tuple elts kk tpos) (ItzU (SqT K) a b) [z, TI, TO, i1, i2] z fun i => ZipAt z TI TO i1 i2 (fun h => h.IsTupleIter i1 a i) (fun h => h.IsTupleIter i2 b i) where
  mem := List.mem_cons_self ..
  obj := fun i h ⟨hz, hi, ⟨x, y, ho⟩, ⟨o1, e1, _, d1⟩, ⟨o2, e2, _, d2⟩⟩ c hc => by
    obtain rfl | rfl | rfl | rfl | rfl := five hc
    · exact ⟨_, hz, fun _ => nofun⟩
    · exact ⟨_, hi, fun _ => nofun⟩
    · exact ⟨_, ho, fun _ => nofun⟩
    · exact ⟨o1, e1, fun _ q => by rw [d1] at q; cases q⟩
    · exact ⟨o2, e2, fun _ q => by rw [d2] at q; cases q⟩
  keep := fun i h h' ⟨hz, hi, ⟨x, y, ho⟩, q1, q2⟩ k => ⟨k z (by simp) _ hz, k TI (by simp) _ hi, ⟨x, y, k TO (by simp) _ ho⟩, q1.at (k i1 (by simp)), q2.at (k i2 (by simp))⟩
  item := by
    rintro X rfl rfl rfl hc i pins s σ H E I hf ⟨hz, hi, ⟨x0, y0, ho⟩, q1, q2⟩ ⟨xs, ys, x, y, sx, sy, ex, ey⟩
    obtain ⟨w1, r1, p1, _⟩ := I.tuple sx
    obtain ⟨w2, r2, p2, _⟩ := I.tuple sy
    obtain ⟨u, hu, ru⟩ := r1.get ex
    obtain ⟨u2, hu2, ru2⟩ := r2.get ey
    have lt : ∀ c ∈ [z, TI, TO, i1, i2], c < s.heap.objs.size := fun c hc => by
      obtain rfl | rfl | rfl | rfl | rfl := five hc
      · exact Heap.lt_size hz
      · exact Heap.lt_size hi
      · exact Heap.lt_size ho
      · obtain ⟨_, e1, _⟩ := q1; exact Heap.lt_size e1
      · obtain ⟨_, e2, _⟩ := q2; exact Heap.lt_size e2
    refine RZ.pyNext_zipT_item D hz hi ho q1 q2 p1 p2 (x := u) (y := u2) (by simpa using hu) (by simpa using hu2) fun h1 z1 o1 j1 j2 new _ others => ⟨_, rfl, wpAny_letOwnedTupleGo_zip (s := { s with heap := h1 }) z1 fun h2 z2 sb => ?_⟩
    obtain ⟨v, H', I2, rv, yd, off⟩ := pair_new (S := SqT X.K) (i := i) I hf ru ru2 (fun c o hn e => by
      simp only [List.mem_cons, List.not_mem_nil, or_false, not_or] at hn
      exact (sb.2 c hn.1).trans (others c o hn.1 hn.2.2.1 hn.2.2.2.1 hn.2.2.2.2 e)) ((sb.2 _ (Nat.ne_of_gt (lt z (by simp)))).trans new) lt (fun l hl => (I.tuple_inj hl sx) ▸ ex) fun l hl => (I.tuple_inj hl sy) ▸ ey
    exact ⟨v, H', I2, rv, yd, ⟨z2, (sb.2 _ D.TIz).trans (others _ _ D.TIz D.TITO D.TIi1 D.TIi2 hi), ⟨u, u2, (sb.2 _ D.TOz).trans o1⟩, j1.at fun o q => (sb.2 _ D.i1z).trans q, j2.at fun o q => (sb.2 _ D.i2z).trans q⟩, off⟩
  done := by
    rintro X rfl rfl rfl hc i pins s σ H E I hf st ⟨xs, ys, sx, sy, he⟩
    exact (RZ.turn_zipT (elts := elts) (kk := kk) (tpos := tpos) D).done X rfl rfl rfl hc i pins s σ H E I hf st ⟨xs, ys, sx, sy, he⟩
  self := fun A i s Q E st h => wpAny_pyIter_zip st.1 h
end
def iZipU (K : PySem.W.Frag) (ta : TA) : TI := fun σ H R => ta σ H fun vs H1 => ∃ a b xs ys, vs = [.ref a, .ref b] ∧ ((SqL K H1 a xs ∧ SqL K H1 b ys ∧ R (ItzU (SqL K) a b) H1) ∨ (SqT K H1 a xs ∧ SqT K H1 b ys ∧ R (ItzU (SqT K) a b) H1))
theorem pi_zipU {X : Cx} {e e2 : Expr} {ta : TA} {p pos tpos : Pos} {elts : List Expr} {kk : Nat} (hg : Gl X "zip") (hm : X.mg "zip" = none) (ha : PA X [e, e2] ta) (hs : starEach [e, e2] X.env = (false, eval e X.env) :: starEach [e2] X.env) (hpl : (backTo pos (starEach [e2] X.env)).any (·.1) = false) :
    PI X (.Tuple elts kk tpos) (.Call (.Name "zip" p) [e, e2] [] pos) (iZipU X.K ta) := by
  refine ⟨fun pins s σ H R I h => Call_ (ld_blt I hg hm PyProof.Rows.boot_zip (PyProof.Rows.callWith_type1 (thn (ha.run pos pins s σ H _ I h) fun us s1 hx => ?_) hs hpl))⟩
  obtain ⟨vs, H1, I1, r1, a, b, xs, ys, rfl, q1⟩ := hx
  cases r1 with
  | cons r r1 =>
  cases r1 with
  | cons r' r1 =>
  cases r1; cases r; cases r'
  have fresh : ∀ c, s1.heap.objs.size ≤ c → FpOk X pins H1 c := fun c hc => I1.fpOk hc (I1.hok.fresh hc)
  have fp : ∀ c ∈ [s1.heap.objs.size + 4, s1.heap.objs.size + 2, s1.heap.objs.size + 3, s1.heap.objs.size, s1.heap.objs.size + 1], FpOk X pins H1 c := fun c hc => by
    obtain rfl | rfl | rfl | rfl | rfl := five hc
    · exact fresh _ (Nat.le_add_right _ _)
    · exact fresh _ (Nat.le_add_right _ _)
    · exact fresh _ (Nat.le_add_right _ _)
    · exact fresh _ (Nat.le_refl _)
    · exact fresh _ (Nat.le_add_right _ _)
  rcases q1 with ⟨sx, sy, q⟩ | ⟨sx, sy, q⟩
  · obtain ⟨w1, _, p1, _⟩ := I1.list sx
    obtain ⟨w2, _, p2, _⟩ := I1.list sy
    refine call_zip_2 p1.isList p2.isList fun h1 hz hi ho j1 j2 _ keeps => wpAny_pyIter_zip hz ?_
    exact ⟨_, _, _, _, H1, rfl, I1.kept (t' := s1.toks) keeps, turn_zipU (PySem.W.ktu_apart s1.heap.objs.size a b p1.lt p2.lt), ⟨hz, hi, ⟨_, _, ho⟩, j1, j2⟩, fp, q⟩
  · obtain ⟨w1, _, p1, _⟩ := I1.tuple sx
    obtain ⟨w2, _, p2, _⟩ := I1.tuple sy
    obtain ⟨o1, e1, _⟩ := id p1
    obtain ⟨o2, e2, _⟩ := id p2
    refine RZ.call_zipT (show s1.heap.IsTuple a w1.toArray from p1) (show s1.heap.IsTuple b w2.toArray from p2) fun h1 hz hi ho j1 j2 _ keeps => wpAny_pyIter_zip hz ?_
    exact ⟨_, _, _, _, H1, rfl, I1.kept (t' := s1.toks) keeps, turn_zipUT (PySem.W.ktu_apart s1.heap.objs.size a b (Heap.lt_size e1) (Heap.lt_size e2)), ⟨hz, hi, ⟨_, _, ho⟩, j1, j2⟩, fp, q⟩
end Ev
/-! the evaluator's data in a heap; the operators -/
namespace Ev
open PySem PySem.Spec PyProof.Rows L2

mutual
inductive Rp (K : PySem.W.Frag) (F : Hp) : V → D → Prop
  | non : Rp K F .non .none
  | bl (b : Bool) : Rp K F (.bl b) (.bool b)
  | int (i : Int) : Rp K F (.int i) (.int i)
  | str (x : Str) : Rp K F (.str x) (.str x)
  | lst {a : Addr} {xs : List V} {ds : List D} : F a = some (.lst xs) → RpAll K F xs ds → Rp K F (.ref a) (.list ds)
  | tup {a : Addr} {xs : List V} {ds : List D} : SqU K F a xs → RpAll K F xs ds → Rp K F (.ref a) (.tuple ds)
  | frz {a : Addr} {ns : List Int} : SqL K F a (ns.map V.int) → Rp K F (.ref a) (.dict (ns.map fun n => (.none, .int n)))
inductive RpAll (K : PySem.W.Frag) (F : Hp) : List V → List D → Prop
  | nil : RpAll K F [] []
  | cons {v : V} {vs : List V} {d : D} {ds : List D} : Rp K F v d → RpAll K F vs ds → RpAll K F (v :: vs) (d :: ds)
end
section
variable {K : PySem.W.Frag} {F F' H H' : Hp} {v : V} {d : D} {a : Addr}
theorem _root_.L2.Same.seqU {xs : List V} (e : Same F F') (h : SqU K F a xs) : SqU K F' a xs := by
  rcases h with ⟨o, h, d⟩ | h
  · exact .inl ⟨o, e _ _ h, d⟩
  · exact .inr h
theorem _root_.L2.Same.seqT {xs : List V} (e : Same F F') (h : SqU K F a xs) : SqT K F' a xs := (e.seqU h).t
mutual
theorem Rp.mono (m : Same F F') : ∀ (d : D) (v : V), Rp K F v d → Rp K F' v d
  | .none, _, h => by cases h; exact .non
  | .bool b, _, h => by cases h; exact .bl b
  | .int i, _, h => by cases h; exact .int i
  | .str x, _, h => by cases h; exact .str x
  | .list ds, _, h => by
    cases h with
    | lst e r => exact .lst (m _ _ e) (RpAll.mono m ds _ r)
  | .tuple ds, _, h => by
    cases h with
    | tup e r => exact .tup (m.seqU e) (RpAll.mono m ds _ r)
  | .dict _, _, h => by
    cases h with
    | frz e => exact .frz (m.seq e)
theorem RpAll.mono (m : Same F F') : ∀ (ds : List D) (vs : List V), RpAll K F vs ds → RpAll K F' vs ds
  | [], _, h => by cases h; exact .nil
  | d :: ds, _, h => by
    cases h with
    | cons h1 h2 => exact .cons (Rp.mono m d _ h1) (RpAll.mono m ds _ h2)
end
mutual
theorem Rp.dp : ∀ (d : D) (v : V), Rp K F v d → d.plain = true → Dp K F v d
  | .none, _, h, _ => by cases h; exact .non
  | .bool b, _, h, _ => by cases h; exact .bl b
  | .int i, _, h, _ => by cases h; exact .int i
  | .str x, _, h, _ => by cases h; exact .str x
  | .list ds, _, h, p => by
    cases h with
    | lst e r => exact .lst (.of e) (RpAll.dp ds _ r (by rw [PyData.plain] at p; exact p))
  | .tuple ds, _, h, p => by
    cases h with
    | tup e r => exact .tup e.t (RpAll.dp ds _ r (by rw [PyData.plain] at p; exact p))
  | .dict _, _, h, p => by rw [PyData.plain] at p; cases p
theorem RpAll.dp : ∀ (ds : List D) (vs : List V), RpAll K F vs ds → PyData.plainAll ds = true → DpAll K F vs ds
  | [], _, h, _ => by cases h; exact .nil
  | d :: ds, _, h, p => by
    cases h with
    | cons h1 h2 =>
      rw [PyData.plainAll, Bool.and_eq_true] at p
      exact .cons (Rp.dp d _ h1 p.1) (RpAll.dp ds _ h2 p.2)
end
theorem RpAll.length : ∀ {vs : List V} {ds : List D}, RpAll K F vs ds → vs.length = ds.length
  | _, _, .nil => rfl
  | _, _, .cons _ h => by simp [RpAll.length h]
theorem RpAll.get : ∀ {vs : List V} {ds : List D} {i : Nat} {d : D}, RpAll K F vs ds → ds[i]? = some d → ∃ v, vs[i]? = some v ∧ Rp K F v d
  | _, _, _, _, .nil, e => by simp at e
  | _, _, 0, _, .cons h _, e => by simp at e; subst e; exact ⟨_, rfl, h⟩
  | _, _, i + 1, d, .cons _ t, e => by
    obtain ⟨v, e1, e2⟩ := RpAll.get (i := i) (d := d) t (by simpa using e)
    exact ⟨v, by simpa using e1, e2⟩
theorem RpAll.append : ∀ {vs ws : List V} {ds es : List D}, RpAll K F vs ds → RpAll K F ws es → RpAll K F (vs ++ ws) (ds ++ es)
  | _, _, _, _, .nil, h => h
  | _, _, _, _, .cons h t, h' => .cons h (RpAll.append t h')
theorem RpAll.drop : ∀ {vs : List V} {ds : List D} (n : Nat), RpAll K F vs ds → RpAll K F (vs.drop n) (ds.drop n)
  | _, _, 0, h => h
  | _, _, _ + 1, .nil => .nil
  | _, _, n + 1, .cons _ t => RpAll.drop n t
theorem RpAll.take : ∀ {vs : List V} {ds : List D} (n : Nat), RpAll K F vs ds → RpAll K F (vs.take n) (ds.take n)
  | _, _, 0, _ => .nil
  | _, _, _ + 1, .nil => .nil
  | _, _, n + 1, .cons h t => .cons h (RpAll.take n t)
theorem RpAll.set : ∀ {vs : List V} {ds : List D} (i : Nat), RpAll K F vs ds → Rp K F v d → RpAll K F (vs.set i v) (ds.set i d)
  | _, _, _, .nil, _ => .nil
  | _, _, 0, .cons _ t, r => .cons r t
  | _, _, i + 1, .cons h t, r => .cons h (RpAll.set i t r)
theorem RpAll.eraseIdx : ∀ {vs : List V} {ds : List D} (i : Nat), RpAll K F vs ds → RpAll K F (vs.eraseIdx i) (ds.eraseIdx i)
  | _, _, _, .nil => .nil
  | _, _, 0, .cons _ t => t
  | _, _, i + 1, .cons h t => .cons h (RpAll.eraseIdx i t)
theorem RpAll.replicate {vs : List V} {ds : List D} (h : RpAll K F vs ds) : ∀ n : Nat, RpAll K F (List.replicate n vs).flatten (List.replicate n ds).flatten
  | 0 => .nil
  | n + 1 => by
    rw [List.replicate_succ, List.replicate_succ, List.flatten_cons, List.flatten_cons]
    exact h.append (RpAll.replicate h n)
theorem RpAll.reverse : ∀ {vs : List V} {ds : List D}, RpAll K F vs ds → RpAll K F vs.reverse ds.reverse
  | _, _, .nil => .nil
  | _, _, .cons h t => by
    rw [List.reverse_cons, List.reverse_cons]
    exact (RpAll.reverse t).append (.cons h .nil)
theorem RpAll.dropLast {vs : List V} {ds : List D} (h : RpAll K F vs ds) : RpAll K F vs.dropLast ds.dropLast := by
  rw [List.dropLast_eq_take, List.dropLast_eq_take, h.length]
  exact h.take _
theorem RpAll.ints : ∀ {vs : List V} {ns : List Int}, RpAll K F vs (ns.map .int) → vs = ns.map V.int
  | _, [], h => by cases h; rfl
  | _, n :: ns, h => by
    cases h with
    | cons h1 h2 => cases h1; rw [RpAll.ints h2]; rfl
theorem intsD_map : ∀ {xs : List D} {ns : List Int}, intsD xs = some ns → xs = ns.map .int
  | [], ns, h => by
    have : [] = ns := Option.some.inj h
    subst this; rfl
  | .int i :: r, ns, h => by
    unfold intsD at h
    cases e : intsD r with
    | none => rw [e] at h; cases h
    | some ms =>
      rw [e] at h
      have : i :: ms = ns := Option.some.inj h
      subst this
      rw [intsD_map e]; rfl
  | .none :: _, _, h => by simp [intsD] at h
  | .bool _ :: _, _, h => by simp [intsD] at h
  | .str _ :: _, _, h => by simp [intsD] at h
  | .list _ :: _, _, h => by simp [intsD] at h
  | .tuple _ :: _, _, h => by simp [intsD] at h
  | .dict _ :: _, _, h => by simp [intsD] at h
theorem RpAll.bools : ∀ {vs : List V} {ns : List Bool}, RpAll K F vs (ns.map .bool) → vs = ns.map V.bl
  | _, [], h => by cases h; rfl
  | _, n :: ns, h => by
    cases h with
    | cons h1 h2 => cases h1; rw [RpAll.bools h2]; rfl
theorem boolsD_map : ∀ {xs : List D} {ns : List Bool}, boolsD xs = some ns → xs = ns.map .bool
  | [], ns, h => by
    have : [] = ns := Option.some.inj h
    subst this; rfl
  | .bool i :: r, ns, h => by
    unfold boolsD at h
    cases e : boolsD r with
    | none => rw [e] at h; cases h
    | some ms =>
      rw [e] at h
      have : i :: ms = ns := Option.some.inj h
      subst this
      rw [boolsD_map e]; rfl
  | .none :: _, _, h => by simp [boolsD] at h
  | .int _ :: _, _, h => by simp [boolsD] at h
  | .str _ :: _, _, h => by simp [boolsD] at h
  | .list _ :: _, _, h => by simp [boolsD] at h
  | .tuple _ :: _, _, h => by simp [boolsD] at h
  | .dict _ :: _, _, h => by simp [boolsD] at h
end

/-! ### objects -/
/-- the written part, the program and its world -/
structure KW where
  k : PySem.W.Frag
  P : Program
  w : World
instance : Coe KW PySem.W.Frag := ⟨KW.k⟩
abbrev _root_.L2.Cx.kw (X : Cx) : KW := ⟨X.K, X.prog, X.w⟩
def KvR (K : PySem.W.Frag) (F : Hp) : List (Key × V) → List (D × D) → Prop := Paired fun p q => kD p.1 = q.1 ∧ Rp K F p.2 q.2
/-- a dict whose keys are tuples, as its one object tells it -/
def DicX (w : World) (a : Addr) (xs : List (NestedKey × Addr × Value)) (h : Heap) : Prop :=
  ∃ o es ep, h.get? a = some o ∧ o.ExactDict ∧ o.data = .dict es ep ∧ es.toList = xs.map (fun x => (⟨x.1.hash w, .ref x.2.1, x.2.2⟩ : DictEntry)) ∧ (xs.map (·.1)).Nodup
def KtR (K : PySem.W.Frag) (F : Hp) : List (NestedKey × Addr × Value) → List (D × D) → Prop := Paired fun x q => keyT q.1 = some x.1 ∧ Rp K F (.ref x.2.1) q.1 ∧ ∃ v, RelV v x.2.2 ∧ Rp K F v q.2
def ObR (K : KW) (F H : Hp) (a : Addr) : Ob → Prop
  | .lst xs => ∃ vs, H a = some (.lst vs) ∧ RpAll K F vs xs
  | .dct kvs => ∃ vs, H a = some (.dK vs) ∧ KvR K F vs kvs
  | .dic kvs => (a == sysModules) = false ∧ kvs.length ≤ sizeLine ∧ ∃ xs, H a = some (.ext (DicX K.w a xs)) ∧ KtR K F xs kvs
def RvR (K : KW) (F H : Hp) (v : V) : RV → Prop
  | .val d => Rp K F v d
  | .new o => ∃ a, v = .ref a ∧ F a = none ∧ ObR K F H a o
def Frs (H : Hp) (v : V) : RV → Prop
  | .val _ => True
  | .new _ => ∀ a, v = .ref a → H a = none
/-- what is read -/
def Lw (K : KW) (F H : Hp) (v : V) : RV → Prop
  | .val d => Rp K F v d
  | .new o => ∃ a, v = .ref a ∧ ObR K F H a o
/-- data that is read: a list may be one that changes later -/
def Lt (K : KW) (F H : Hp) (v : V) (d : D) : Prop := Rp K F v d ∨ (∃ xs, d = .list xs ∧ ∃ a vs, v = .ref a ∧ H a = some (.lst vs) ∧ RpAll K F vs xs) ∨ ∃ a ob kvs, v = .ref a ∧ d = .dict kvs ∧ (ob = .dct kvs ∨ ob = .dic kvs) ∧ ObR K F H a ob
structure Ext (F H F' H' : Hp) : Prop where
  fr : Same F F'
  keep : Same H H'
  fz : Same F' H'
  nw : ∀ b o, F' b = some o → F b = some o ∨ H b = none
section
variable {K : KW} {F F' H H' : Hp} {v : V} {d : D} {a : Addr}
theorem KvR.mono (m : Same F F') {vs : List (Key × V)} {kvs : List (D × D)} (h : KvR K F vs kvs) : KvR K F' vs kvs := Paired.mapP h fun _ _ r => ⟨r.1, Rp.mono m _ _ r.2⟩
theorem KtR.mono (m : Same F F') {vs : List (NestedKey × Addr × Value)} {kvs : List (D × D)} (h : KtR K F vs kvs) : KtR K F' vs kvs := Paired.mapP h fun _ _ r => ⟨r.1, Rp.mono m _ _ r.2.1, let ⟨v, q1, q2⟩ := r.2.2; ⟨v, q1, Rp.mono m _ _ q2⟩⟩
theorem ObR.mono {o : Ob} (m : Same F F') (k : H' a = H a) (h : ObR K F H a o) : ObR K F' H' a o := by
  cases o with
  | lst xs => obtain ⟨vs, e, r⟩ := h; exact ⟨vs, k.trans e, RpAll.mono m _ _ r⟩
  | dct kvs => obtain ⟨vs, e, r⟩ := h; exact ⟨vs, k.trans e, r.mono m⟩
  | dic kvs => obtain ⟨n, z, xs, e, r⟩ := h; exact ⟨n, z, xs, k.trans e, r.mono m⟩
theorem ObR.some_ {o : Ob} (h : ObR K F H a o) : ∃ ho, H a = some ho := by
  cases o with
  | lst xs => obtain ⟨vs, e, r⟩ := h; exact ⟨_, e⟩
  | dct kvs => obtain ⟨vs, e, r⟩ := h; exact ⟨_, e⟩
  | dic kvs => obtain ⟨n, z, xs, e, r⟩ := h; exact ⟨_, e⟩
theorem Lw.lt {r : RV} (h : Lw K F H v r) (e : r.d = some d) : Lt K F H v d := by
  cases r with
  | val d' => cases e; exact .inl h
  | new o =>
    cases o with
    | lst xs =>
      cases e
      obtain ⟨a, rfl, vs, e, r⟩ := h
      exact .inr (.inl ⟨xs, rfl, a, vs, rfl, e, r⟩)
    | dct kvs =>
      cases e
      obtain ⟨a, rfl, h⟩ := h
      exact .inr (.inr ⟨a, _, kvs, rfl, rfl, .inl rfl, h⟩)
    | dic kvs =>
      cases e
      obtain ⟨a, rfl, h⟩ := h
      exact .inr (.inr ⟨a, _, kvs, rfl, rfl, .inr rfl, h⟩)
theorem Lt.list {xs : List D} (fz : Same F H) (h : Lt K F H v (.list xs)) : ∃ a vs, v = .ref a ∧ H a = some (.lst vs) ∧ RpAll K F vs xs := by
  rcases h with h | ⟨ys, e, h⟩ | ⟨_, _, _, _, e, _⟩
  · cases h with
    | lst e r => exact ⟨_, _, rfl, fz _ _ e, r⟩
  · cases e; exact h
  · cases e
theorem Lt.tup {xs : List D} (fz : Same F H) (h : Lt K F H v (.tuple xs)) : ∃ a vs, v = .ref a ∧ SqU K F a vs ∧ RpAll K F vs xs := by
  rcases h with h | ⟨ys, e, h⟩ | ⟨_, _, _, _, e, _⟩
  · cases h with
    | tup e r => exact ⟨_, _, rfl, e, r⟩
  · cases e
  · cases e
theorem Lt.int {i : Int} (h : Lt K F H v (.int i)) : v = .int i := by
  rcases h with h | ⟨ys, e, h⟩ | ⟨_, _, _, _, e, _⟩
  · cases h; rfl
  · cases e
  · cases e
theorem Lt.bool {i : Bool} (h : Lt K F H v (.bool i)) : v = .bl i := by
  rcases h with h | ⟨ys, e, h⟩ | ⟨_, _, _, _, e, _⟩
  · cases h; rfl
  · cases e
  · cases e
theorem Lt.str {i : Str} (h : Lt K F H v (.str i)) : v = .str i := by
  rcases h with h | ⟨ys, e, h⟩ | ⟨_, _, _, _, e, _⟩
  · cases h; rfl
  · cases e
  · cases e
theorem Lt.none (h : Lt K F H v .none) : v = .non := by
  rcases h with h | ⟨ys, e, h⟩ | ⟨_, _, _, _, e, _⟩
  · cases h; rfl
  · cases e
  · cases e
theorem Lt.frz {kvs : List (D × D)} (h : Lt K F H v (.dict kvs)) : (∃ (a : Addr) (ns : List Int), v = .ref a ∧ SqL K F a (ns.map V.int) ∧ kvs = ns.map fun n => (.none, .int n)) ∨ ∃ a ob, v = .ref a ∧ (ob = .dct kvs ∨ ob = .dic kvs) ∧ ObR K F H a ob := by
  rcases h with h | ⟨ys, e, h⟩ | ⟨a, ob, kvs, e0, e, e1, h⟩
  · cases h with
    | frz e => exact .inl ⟨_, _, rfl, e, rfl⟩
  · cases e
  · cases e; exact .inr ⟨a, ob, e0, e1, h⟩
theorem Lt.dp (fz : Same F H) (h : Lt K F H v d) (p : d.plain = true) : Dp K H v d := by
  rcases h with h | ⟨ys, rfl, a, vs, rfl, e, r⟩ | ⟨_, _, _, _, rfl, _⟩
  · exact (Rp.mono fz _ _ h).dp _ _ p
  · exact .lst (.of e) ((RpAll.mono fz _ _ r).dp _ _ (by rw [PyData.plain] at p; exact p))
  · rw [PyData.plain] at p; cases p
theorem Ext.refl (fz : Same F H) : Ext F H F H := ⟨.refl _, .refl _, fz, fun _ _ e => .inl e⟩
theorem same_upd {p : Addr} {o : HO} (h : H p = none) : Same H (upd H p o) := fun b x e => by
  rw [upd_ne (ne_of_none e h)]; exact e
theorem _root_.L2.Same.none_ (m : Same F H) {p : Addr} (h : H p = none) : F p = none := by
  cases e : F p with
  | none => rfl
  | some o => rw [m _ _ e] at h; cases h
/-- a new tuple -/
theorem Ext.tup {p : Addr} {o : Obj} {xs : List V} (fz : Same F H) (h : H p = none) : Ext F H (upd F p (.frz o (.tup xs))) (upd H p (.frz o (.tup xs))) := by
  have hf := fz.none_ h
  refine ⟨same_upd hf, same_upd h, fun b o e => ?_, fun b o e => ?_⟩
  · by_cases hb : b = p
    · subst hb; rw [upd_same] at e ⊢; exact e
    · rw [upd_ne hb] at e ⊢; exact fz _ _ e
  · by_cases hb : b = p
    · subst hb; exact .inr h
    · rw [upd_ne hb] at e; exact .inl e
/-- a new list, held by none -/
theorem Ext.lst {p : Addr} {o : HO} (fz : Same F H) (h : H p = none) : Ext F H F (upd H p o) :=
  ⟨.refl _, same_upd h, fz.trans (same_upd h), fun _ _ e => .inl e⟩
end

/-! ### rules by values -/
def rD2 (K : KW) (g : D → D → Option RV) : R2 := fun x y H Q => ∃ F dx dy rv, Same F H ∧ Lt K F H x dx ∧ Lt K F H y dy ∧ g dx dy = some rv ∧
  ∀ v F' H', Ext F H F' H' → RvR K F' H' v rv → Frs H v rv → Q v H'
def rB2 (K : KW) (g : D → D → Option Bool) : R2 := fun x y H Q => ∃ F dx dy b, Same F H ∧ Lt K F H x dx ∧ Lt K F H y dy ∧ g dx dy = some b ∧ Q (.bl b) H
section
variable {X : Cx} {k : Nat}
theorem _root_.L2.Room.u60 {A : Around} (r : Room k A) {m : Nat} (h : m ≤ 60) : A.units + m < cLine := by have := r.un; omega
theorem _root_.L2.Room.u61 {A : Around} (r : Room k A) {m : Nat} (h : m ≤ 60) : A.units + 1 + m < cLine := by have := r.un; omega

theorem opr_bin (op : Operator) : OpR X (binaryOp op) (rD2 X.kw (binD op)) := by
  intro pins s σ H x y v u Q I rx ry h
  obtain ⟨F, dx, dy, rv, fz, hx, hy, e, q⟩ := h
  have val : ∀ d v, rv = .val d → Rp X.kw F v d → Q v H := fun d v e r => by subst e; exact q v F H (.refl fz) r trivial
  unfold binD at e
  split at e
  · cases e; obtain rfl := hx.int; obtain rfl := hy.int
    exact op_add pins s σ H _ _ v u Q I rx ry ⟨_, _, rfl, rfl, val _ _ rfl (.int _)⟩
  · split at e
    · rename_i hz
      cases e; obtain rfl := hx.str; obtain rfl := hy.str
      exact op_add_str pins s σ H _ _ v u Q I rx ry ⟨_, _, rfl, rfl, hz, val _ _ rfl (.str _)⟩
    · cases e
  · rename_i xs ys
    split at e
    · rename_i hz
      cases e
      obtain ⟨a, vs, rfl, ha, ra⟩ := hx.tup fz
      obtain ⟨b, ws, rfl, hb, rb⟩ := hy.tup fz
      refine op_catU pins s σ H _ _ v u Q I rx ry ⟨a, b, vs, ws, rfl, rfl, fz.seqT ha, fz.seqT hb, by rw [ra.length, rb.length]; exact hz, fun e => ?_, fun e => ?_, fun p ob hd hp => ?_⟩
      · subst e; cases ra; exact val _ _ rfl (.tup hb rb)
      · subst e; cases rb; rw [List.append_nil] at val; exact val _ _ rfl (.tup ha ra)
      · refine q _ _ _ (.tup fz hp) ?_ trivial
        exact .tup (.inl ⟨ob, upd_same, hd⟩) (RpAll.mono (same_upd (fz.none_ hp)) _ _ (ra.append rb))
    · cases e
  · rename_i xs ys
    split at e
    · rename_i hz
      cases e
      obtain ⟨a, vs, rfl, ha, ra⟩ := hx.list fz
      obtain ⟨b, ws, rfl, hb, rb⟩ := hy.list fz
      refine op_cat pins s σ H _ _ v u Q I rx ry ⟨a, b, vs, ws, rfl, rfl, ha, hb, by rw [ra.length, rb.length]; exact hz, fun p hp => ?_⟩
      exact q _ _ _ (.lst fz hp) ⟨p, rfl, fz.none_ hp, _, upd_same, ra.append rb⟩ (fun a e => by cases e; exact hp)
    · cases e
  · cases e; obtain rfl := hx.int; obtain rfl := hy.int
    exact op_sub pins s σ H _ _ v u Q I rx ry ⟨_, _, rfl, rfl, val _ _ rfl (.int _)⟩
  · split at e
    · rename_i hz
      cases e; obtain rfl := hx.int; obtain rfl := hy.int
      exact op_mul pins s σ H _ _ v u Q I rx ry ⟨_, _, rfl, rfl, hz, val _ _ rfl (.int _)⟩
    · cases e
  · split at e
    · rename_i hz
      cases e; obtain rfl := hy.int
      obtain ⟨a, vs, rfl, ha, ra⟩ := hx.list fz
      refine op_rep pins s σ H _ _ v u Q I rx ry ⟨a, _, vs, rfl, rfl, ha, hz.1, hz.2.1, by rw [ra.length]; exact hz.2.2, fun p hp => ?_⟩
      exact q _ _ _ (.lst fz hp) ⟨p, rfl, fz.none_ hp, _, upd_same, ra.replicate _⟩ (fun a e => by cases e; exact hp)
    · cases e
  · split at e
    · rename_i hz
      cases e; obtain rfl := hy.int
      obtain ⟨a, vs, rfl, ha, ra⟩ := hx.tup fz
      refine op_repU pins s σ H _ _ v u Q I rx ry ⟨a, _, vs, rfl, rfl, fz.seqT ha, ?_, hz.2.1, hz.2.2.1, by rw [ra.length]; exact hz.2.2.2, fun p ob hd hp => ?_⟩
      · rintro rfl; cases ra; exact hz.1 rfl
      · refine q _ _ _ (.tup fz hp) ?_ trivial
        exact .tup (.inl ⟨ob, upd_same, hd⟩) (RpAll.mono (same_upd (fz.none_ hp)) _ _ (ra.replicate _))
    · cases e
  · split at e
    · rename_i hz
      cases e; obtain rfl := hx.int; obtain rfl := hy.int
      exact op_fdiv pins s σ H _ _ v u Q I rx ry ⟨_, _, rfl, rfl, hz, val _ _ rfl (.int _)⟩
    · cases e
  · split at e
    · rename_i hz
      cases e; obtain rfl := hx.int; obtain rfl := hy.int
      exact op_mod pins s σ H _ _ v u Q I rx ry ⟨_, _, rfl, rfl, hz, val _ _ rfl (.int _)⟩
    · cases e
  · split at e
    · rename_i hz
      cases e; obtain rfl := hx.int; obtain rfl := hy.int
      exact op_pow pins s σ H _ _ v u Q I rx ry ⟨_, _, rfl, rfl, hz, val _ _ rfl (.int _)⟩
    · cases e
  · split at e
    · rename_i hz
      cases e; obtain rfl := hx.int; obtain rfl := hy.int
      exact op_shl pins s σ H _ _ v u Q I rx ry ⟨_, _, rfl, rfl, hz, val _ _ rfl (.int _)⟩
    · cases e
  · split at e
    · rename_i hz
      cases e; obtain rfl := hx.int; obtain rfl := hy.int
      exact op_shr pins s σ H _ _ v u Q I rx ry ⟨_, _, rfl, rfl, hz, val _ _ rfl (.int _)⟩
    · cases e
  · cases e; obtain rfl := hx.int; obtain rfl := hy.int
    exact op_and pins s σ H _ _ v u Q I rx ry ⟨_, _, rfl, rfl, val _ _ rfl (.int _)⟩
  · cases e
end
end Ev
namespace Ev
open PySem PySem.Spec PyProof.Rows L2
section
variable {X : Cx} {k : Nat}
theorem and3 {a b c : Bool} (h : (a && b && c) = true) : a = true ∧ b = true ∧ c = true := by
  rw [Bool.and_eq_true, Bool.and_eq_true] at h; exact ⟨h.1.1, h.1.2, h.2⟩
theorem ord_ne {a : D} {b : Bool} (h : (!isNoneD a) = true) : a ≠ .none := by
  rintro rfl; simp [isNoneD] at h
theorem ord_of {a b : D} (h : ordOk a b = true) : a.plain = true ∧ b.plain = true ∧ PySem.W.alike a b = true ∧ a ≠ .none ∧ min a.depth b.depth ≤ 60 := by
  unfold ordOk at h
  rw [Bool.and_eq_true, Bool.and_eq_true, Bool.and_eq_true, Bool.and_eq_true] at h
  obtain ⟨⟨⟨⟨h1, h2⟩, h3⟩, h4⟩, h5⟩ := h
  exact ⟨h1, h2, h3, ord_ne (b := true) h4, of_decide_eq_true h5⟩
theorem inD_of {x : D} {xs : List D} {b : Bool} (h : inD x xs = some b) : PyData.plainAll xs = true ∧ x.plain = true ∧ min (PyData.depthAll xs) x.depth ≤ 60 ∧ b = xs.any fun z => PyData.eqv z x := by
  unfold inD at h
  split at h
  · rename_i e
    obtain ⟨h1, h2, h3⟩ := and3 e
    exact ⟨h1, h2, of_decide_eq_true h3, (Option.some.inj h).symm⟩
  · cases h
theorem opr_cmp (hr : Room k X.A) (op : CmpOp) : OpR X (compareOp op) (rB2 X.kw (cmpD op)) := by
  intro pins s σ H x y v u Q I rx ry h
  obtain ⟨F, dx, dy, b, fz, hx, hy, e, q⟩ := h
  have rd : ∀ {d : D} {x : V} {v : Value}, Lt X.kw F H x d → RelV x v → d.plain = true → ∃ as, Reads s.heap v d as := fun h r p => Dp.reads I _ _ _ (h.dp fz p) r
  have ord : ∀ {op : CmpOp} {b : Bool}, (∀ as bs, Reads s.heap v dx as → Reads s.heap u dy bs → PySem.W.alike dx dy = true → dx ≠ .none → X.A.units + min dx.depth dy.depth < cLine → ∀ Q' : Value → Shared → Prop, Q' (.bool b) s → wpAny (model X.prog X.w) X.A (compareOp op v u) Q' X.xe s) →
      ordOk dx dy = true → Q (.bl b) H → wpAny (model X.prog X.w) X.A (compareOp op v u) (EP X pins σ Q) X.xe s := fun {op b} f o q => by
    obtain ⟨h1, h2, h3, h4, h5⟩ := ord_of o
    obtain ⟨as, ra⟩ := rd hx rx h1
    obtain ⟨bs, rb⟩ := rd hy ry h2
    exact f as bs ra rb h3 h4 (hr.u60 h5) _ ⟨.bl _, H, I, rfl, q⟩
  unfold cmpD at e
  split at e
  · split at e
    · rename_i o
      cases e
      obtain ⟨h1, h2, h3⟩ := and3 o
      obtain ⟨as, ra⟩ := rd hx rx h1
      obtain ⟨bs, rb⟩ := rd hy ry h2
      exact PySem.SeqAt.eq_plain ra rb h1 h2 (hr.u60 (of_decide_eq_true h3)) ⟨.bl _, H, I, rfl, q⟩
    · cases e
  · split at e
    · rename_i o
      cases e
      obtain ⟨h1, h2, h3⟩ := and3 o
      obtain ⟨as, ra⟩ := rd hx rx h1
      obtain ⟨bs, rb⟩ := rd hy ry h2
      exact PySem.SeqAt.ne_plain ra rb h1 h2 (hr.u60 (of_decide_eq_true h3)) ⟨.bl _, H, I, rfl, q⟩
    · cases e
  · cases e; obtain rfl := hx.int; obtain rfl := hy.int
    exact op_lt pins s σ H _ _ v u Q I rx ry ⟨_, _, rfl, rfl, q⟩
  · cases e; obtain rfl := hx.int; obtain rfl := hy.int
    exact op_le pins s σ H _ _ v u Q I rx ry ⟨_, _, rfl, rfl, q⟩
  · cases e; obtain rfl := hx.int; obtain rfl := hy.int
    exact op_gt pins s σ H _ _ v u Q I rx ry ⟨_, _, rfl, rfl, q⟩
  · cases e; obtain rfl := hx.int; obtain rfl := hy.int
    exact op_ge pins s σ H _ _ v u Q I rx ry ⟨_, _, rfl, rfl, q⟩
  · split at e
    · rename_i o
      cases e
      exact ord (fun as bs ra rb h3 h4 h5 Q' q' => PySem.W.lt_data ra rb h3 h4 h5 q') o q
    · cases e
  · split at e
    · rename_i o
      cases e
      exact ord (fun as bs ra rb h3 h4 h5 Q' q' => PySem.W.le_data ra rb h3 h4 h5 q') o q
    · cases e
  · split at e
    · rename_i o
      cases e
      exact ord (fun as bs ra rb h3 h4 h5 Q' q' => PySem.W.gt_data ra rb h3 h4 h5 q') o q
    · cases e
  · split at e
    · rename_i o
      cases e
      exact ord (fun as bs ra rb h3 h4 h5 Q' q' => PySem.W.ge_data ra rb h3 h4 h5 q') o q
    · cases e
  · cases e
    obtain rfl := hy.none
    refine op_isN pins s σ H _ _ v u Q I rx ry ⟨rfl, ?_⟩
    have : decide (x = .non) = isNoneD dx := by
      rcases hx with h | ⟨xs, rfl, a, vs, rfl, _⟩ | ⟨a, ob, kvs, rfl, rfl, _⟩
      · cases h <;> simp [isNoneD]
      · simp [isNoneD]
      · simp [isNoneD]
    rw [this]; exact q
  · cases e
    obtain rfl := hy.none
    refine op_notN pins s σ H _ _ v u Q I rx ry ⟨rfl, ?_⟩
    have : (!decide (x = .non)) = !isNoneD dx := by
      rcases hx with h | ⟨xs, rfl, a, vs, rfl, _⟩ | ⟨a, ob, kvs, rfl, rfl, _⟩
      · cases h <;> simp [isNoneD]
      · simp [isNoneD]
      · simp [isNoneD]
    rw [this]; exact q
  · obtain ⟨h1, h2, h3, rfl⟩ := inD_of e
    obtain ⟨as, ra⟩ := rd hy ry (by rw [PyData.plain]; exact h1)
    obtain ⟨bs, rb⟩ := rd hx rx h2
    exact PySem.SeqAt.in_list_data ra rb h1 h2 (hr.u61 h3) ⟨.bl _, H, I, rfl, q⟩
  · obtain ⟨h1, h2, h3, rfl⟩ := inD_of e
    obtain ⟨as, ra⟩ := rd hy ry (by rw [PyData.plain]; exact h1)
    obtain ⟨bs, rb⟩ := rd hx rx h2
    exact PySem.SeqAt.in_tuple_data ra rb h1 h2 (hr.u61 h3) ⟨.bl _, H, I, rfl, q⟩
  · rename_i xs
    cases e' : inD dx xs with
    | none => rw [e'] at e; cases e
    | some b' =>
      rw [e'] at e; cases e
      obtain ⟨h1, h2, h3, rfl⟩ := inD_of e'
      obtain ⟨as, ra⟩ := rd hy ry (by rw [PyData.plain]; exact h1)
      obtain ⟨bs, rb⟩ := rd hx rx h2
      exact PySem.SeqAt.notIn_list_data ra rb h1 h2 (hr.u61 h3) ⟨.bl _, H, I, rfl, q⟩
  · rename_i xs
    cases e' : inD dx xs with
    | none => rw [e'] at e; cases e
    | some b' =>
      rw [e'] at e; cases e
      obtain ⟨h1, h2, h3, rfl⟩ := inD_of e'
      obtain ⟨as, ra⟩ := rd hy ry (by rw [PyData.plain]; exact h1)
      obtain ⟨bs, rb⟩ := rd hx rx h2
      exact PySem.SeqAt.notIn_tuple_data ra rb h1 h2 (hr.u61 h3) ⟨.bl _, H, I, rfl, q⟩
  · cases e; obtain rfl := hx.str; obtain rfl := hy.str
    exact op_in_str pins s σ H _ _ v u Q I rx ry ⟨_, _, rfl, rfl, q⟩
  · cases e; obtain rfl := hx.str; obtain rfl := hy.str
    exact op_notin_str pins s σ H _ _ v u Q I rx ry ⟨_, _, rfl, rfl, q⟩
  · cases e

/-! ### truth -/
theorem tru_d {K : KW} {F H : Hp} {x : V} {d : D} {b : Bool} (fz : Same F H) (h : Lt K F H x d) (e : truD d = some b) : TruV K x H b := by
  unfold truD at e
  split at e
  · cases e; rw [h.none]; rfl
  · cases e; rw [h.bool]; rfl
  · cases e; rw [h.int]; rfl
  · split at e
    · rename_i z hz
      cases e; rw [h.str]
      refine ⟨hz, ?_⟩
      rw [Bool.eq_iff_iff]
      simp only [bne_iff_ne, ne_eq]
      omega
    · cases e
  · cases e
    obtain ⟨a, vs, rfl, e, r⟩ := h.list fz
    refine .inl ⟨vs, .of e, ?_⟩
    have := r.length
    cases vs <;> cases r <;> rfl
  · cases e
    obtain ⟨a, vs, rfl, e, r⟩ := h.tup fz
    refine .inr (.inl ⟨vs, fz.seqT e, ?_⟩)
    cases vs <;> cases r <;> rfl
  · cases e
end
end Ev
/-! dicts whose keys are tuples -/
namespace Ev
open PySem PySem.Spec PyProof.Rows L2
theorem Paired.app {α β : Type} {G : α → β → Prop} : ∀ {l₁ l₃ : List α} {l₂ l₄ : List β}, Paired G l₁ l₂ → Paired G l₃ l₄ → Paired G (l₁ ++ l₃) (l₂ ++ l₄)
  | _, _, _, _, .nil, h => h
  | _, _, _, _, .cons r t, h => .cons r (Paired.app t h)
section
variable {X : Cx} {k : Nat} {F H H' : Hp} {pins : List (Addr × Obj)} {σ : L2.St} {s : Shared} {a : Addr}
mutual
theorem rp_nested (I : Inv X pins σ H s) (fz : Same F H) : ∀ (d : D) (v : V) (u : Value) (c : NestedKey), Rp X.K F v d → RelV v u → nkD d = some c → NestedIs s.heap c u
  | .none, _, _, _, h, r, e => by cases h; cases r; cases e; exact .none
  | .bool b, _, _, _, h, r, e => by cases h; cases r; cases e; exact .bool rfl
  | .int i, _, _, _, h, r, e => by cases h; obtain ⟨t, rfl⟩ := r; cases e; exact .int _ _
  | .str x, _, _, _, h, r, e => by cases h; obtain ⟨t, rfl⟩ := r; cases e; exact .text _ _
  | .tuple ds, _, _, c, h, r, e => by
    cases h with
    | tup ht hr =>
      cases r
      obtain ⟨its, rv, ⟨ob, h1, h2, n, h3⟩, _⟩ := I.tuple (fz.seqT ht)
      have e : (nkAll ds).map NestedKey.tup = some c := e
      cases q : nkAll ds with
      | none => rw [q] at e; cases e
      | some ks =>
        rw [q] at e
        cases e
        exact .tup h1 h2 h3 (by simpa using rp_nestedAll I fz ds _ _ ks hr rv q)
  | .list _, _, _, _, _, _, e => by cases e
  | .dict _, _, _, _, _, _, e => by cases e
theorem rp_nestedAll (I : Inv X pins σ H s) (fz : Same F H) : ∀ (ds : List D) (vs : List V) (us : List Value) (cs : List NestedKey), RpAll X.K F vs ds → Vals vs us → nkAll ds = some cs → NestedAll s.heap cs us
  | [], _, _, _, h, r, e => by
    cases h; cases r
    have : [] = _ := Option.some.inj e
    subst this
    exact .nil
  | d :: ds, _, _, cs, h, r, e => by
    cases h with
    | cons h1 h2 =>
      cases r with
      | cons r1 r2 =>
        have e : ((nkD d).bind fun k => (nkAll ds).map (k :: ·)) = some cs := e
        cases q1 : nkD d with
        | none => rw [q1] at e; cases e
        | some c =>
          rw [q1] at e
          have e : (nkAll ds).map (c :: ·) = some cs := e
          cases q2 : nkAll ds with
          | none => rw [q2] at e; cases e
          | some cs' =>
            rw [q2] at e
            cases e
            exact .cons (rp_nested I fz d _ _ c h1 r1 q1) (rp_nestedAll I fz ds _ _ cs' h2 r2 q2)
end
theorem keyT_of {d : D} {c : NestedKey} (h : keyT d = some c) : (∃ ds, d = .tuple ds) ∧ nkD d = some c ∧ c.depth ≤ 8 := by
  cases d with
  | tuple ds =>
    have h : ((nkD (.tuple ds)).bind fun k => if k.depth ≤ 8 then some k else none) = some c := h
    cases q : nkD (.tuple ds) with
    | none => rw [q] at h; cases h
    | some c' =>
      rw [q] at h
      have h : (if c'.depth ≤ 8 then some c' else none) = some c := h
      split at h
      · cases h; exact ⟨⟨ds, rfl⟩, rfl, by assumption⟩
      · cases h
  | none => cases h
  | bool _ => cases h
  | int _ => cases h
  | str _ => cases h
  | list _ => cases h
  | dict _ => cases h
/-- a tuple that is read as a key -/
theorem key_is (I : Inv X pins σ H s) (fz : Same F H) {d : D} {v : V} {u : Value} {c : NestedKey} (h : Lt X.kw F H v d) (r : RelV v u) (e : keyT d = some c) : ∃ b, v = .ref b ∧ u = .ref b ∧ Rp X.K F v d ∧ (nestedKind X.prog X.w).is s.heap c b := by
  obtain ⟨⟨ds, rfl⟩, e1, e2⟩ := keyT_of e
  have hr : Rp X.K F v (.tuple ds) := by
    rcases h with h | ⟨_, q, _⟩ | ⟨_, _, _, _, q, _⟩
    · exact h
    · cases q
    · cases q
  have n := rp_nested I fz _ _ _ _ hr r e1
  cases hr with
  | tup q1 q2 =>
    cases r
    exact ⟨_, rfl, rfl, .tup q1 q2, n, e2⟩
/-- the dict stands -/
theorem dic_at (I : Inv X pins σ H s) (fz : Same F H) {xs : List (NestedKey × Addr × Value)} {kvs : List (D × D)} (h : H a = some (.ext (DicX X.w a xs))) (r : KtR X.K F xs kvs) : s.heap.DictOfH (nestedKind X.prog X.w) a xs := by
  obtain ⟨⟨o, es, ep, h1, h2, h3, h4, h5⟩, -⟩ := I.hok a _ h
  refine ⟨o, es, ep, h1, h2, h3, h4, ?_, h5⟩
  clear h h4 h5
  induction r with
  | nil => intro x hx; simp at hx
  | @cons p q ps qs r' t ih =>
    intro x hx
    rcases List.mem_cons.mp hx with rfl | hx
    · obtain ⟨b, e0, e1, _, e2⟩ := key_is I fz (.inl r'.2.1) (u := .ref x.2.1) rfl r'.1
      cases e1
      exact e2
    · exact ih x hx
/-- a dict's new object -/
theorem dic_ok {P : Program} {w : World} {h : Heap} {xs : List (NestedKey × Addr × Value)} (x : h.DictOfH (nestedKind P w) a xs) : ObjOk P w H h a (.ext (DicX w a xs)) := by
  obtain ⟨o, es, ep, h1, h2, h3, h4, _, h5⟩ := x
  exact ⟨⟨o, es, ep, h1, h2, h3, h4, h5⟩, ⟨o, h1⟩, fun g1 g2 ⟨o', es', ep', k1, k2⟩ k => ⟨o', es', ep', k _ k1, k2⟩⟩
theorem KtR.length {K : PySem.W.Frag} {xs : List (NestedKey × Addr × Value)} {kvs : List (D × D)} (h : KtR K F xs kvs) : xs.length = kvs.length := Paired.length h
/-- what stands at a key -/
theorem tGet_of {K : PySem.W.Frag} {xs : List (NestedKey × Addr × Value)} {kvs : List (D × D)} {d : D} {c : NestedKey} (h : KtR K F xs kvs) (e : keyT d = some c) : (tGet kvs d).isSome = (atKey xs c).isSome ∧ ∀ z, tGet kvs d = some z → ∃ p v, atKey xs c = some p ∧ RelV v p.2 ∧ Rp K F v z := by
  induction h with
  | nil => exact ⟨rfl, fun z q => by cases q⟩
  | @cons p q ps qs r t ih =>
    obtain ⟨r1, r2, v, r3, r4⟩ := r
    by_cases hk : p.1 = c
    · have e1 : tGet (q :: qs) d = some q.2 := by
        unfold tGet
        rw [List.find?_cons, show decide (keyT q.1 = keyT d) = true by rw [r1, e, hk]; simp]; rfl
      have e2 : atKey (p :: ps) c = some p.2 := by
        unfold atKey
        rw [List.find?_cons, show decide (p.1 = c) = true by simpa using hk]; rfl
      rw [e1, e2]
      exact ⟨rfl, fun z hz => by cases hz; exact ⟨_, v, rfl, r3, r4⟩⟩
    · have e1 : tGet (q :: qs) d = tGet qs d := by
        unfold tGet
        rw [List.find?_cons, show decide (keyT q.1 = keyT d) = false by rw [r1, e]; simpa using hk]
      have e2 : atKey (p :: ps) c = atKey ps c := by
        unfold atKey
        rw [List.find?_cons, show decide (p.1 = c) = false by simpa using hk]
      rw [e1, e2]
      exact ih
theorem tPut_of {K : PySem.W.Frag} {xs : List (NestedKey × Addr × Value)} {kvs : List (D × D)} {d z : D} {c : NestedKey} {b : Addr} {v : V} {u : Value} (h : KtR K F xs kvs) (e : keyT d = some c) (hd : Rp K F (.ref b) d) (rz : RelV v u) (hz : Rp K F v z) : KtR K F (storedH xs c b u) (tPut kvs d z) := by
  have any : (kvs.any fun p => decide (keyT p.1 = keyT d)) = xs.any fun x => decide (x.1 = c) := by
    clear hd hz
    induction h with
    | nil => rfl
    | @cons p q ps qs r t ih => rw [List.any_cons, List.any_cons, ih, r.1, e]; simp
  have mp : KtR K F (xs.map (putAt c u)) (kvs.map fun p => if keyT p.1 = keyT d then (p.1, z) else p) := by
    clear any
    induction h with
    | nil => exact .nil
    | @cons p q ps qs r t ih =>
      rw [List.map_cons, List.map_cons]
      refine .cons ?_ ih
      unfold putAt
      by_cases hk : p.1 = c
      · rw [if_pos hk, if_pos (by rw [r.1, e, hk])]
        exact ⟨r.1, r.2.1, v, rz, hz⟩
      · rw [if_neg hk, if_neg (by rw [r.1, e]; simpa using hk)]
        exact r
  have iff : (xs.any fun x => decide (x.1 = c)) = (atKey xs c).isSome := by
    unfold atKey
    rw [Option.isSome_map]
    rw [Bool.eq_iff_iff, List.find?_isSome, List.any_eq_true]
  unfold storedH tPut
  rw [any, iff]
  cases (atKey xs c).isSome
  · exact Paired.app h (.cons ⟨e, hd, v, rz, hz⟩ .nil)
  · exact mp
/-- a dict with no key in it is both -/
theorem dic_empty (I : Inv X pins σ H s) (h : H a = some (.dK [])) : (a == sysModules) = false ∧ s.heap.DictOfH (nestedKind X.prog X.w) a [] := by
  obtain ⟨_, hs, vs, rel, o, es, ep, h1, h2, h3, _, h4, _⟩ := dk_of I.hok h
  cases rel
  refine ⟨hs, o, es, ep, h1, h2, h3, ?_, fun x hx => (by cases hx), .nil⟩
  generalize es.toList = l at h4 ⊢
  cases h4; rfl
variable {A : Around} {E : Value → Shared → Prop}
theorem t_in {Q : Value → Shared → Prop} {v : V} {u : Value} {d : D} {c : NestedKey} {xs : List (NestedKey × Addr × Value)} (hu : A.units + 9 < cLine) (I : Inv X pins σ H s) (fz : Same F H) (hd : (a == sysModules) = false) (hm : s.heap.DictOfH (nestedKind X.prog X.w) a xs) (hx : Lt X.kw F H v d) (r : RelV v u) (e : keyT d = some c)
    (h : ∀ s', Inv X pins σ H s' → Q (.bool (atKey xs c).isSome) s') : wpAny (model X.prog X.w) A (compareOp .In u (.ref a)) Q E s := by
  obtain ⟨b, rfl, rfl, _, k⟩ := key_is I fz hx r e
  exact wpAny_in_heap (by show A.in1.units + 8 < cLine; exact hu) k hd hm (h _ (I.tok _))
theorem t_notIn {Q : Value → Shared → Prop} {v : V} {u : Value} {d : D} {c : NestedKey} {xs : List (NestedKey × Addr × Value)} (hu : A.units + 9 < cLine) (I : Inv X pins σ H s) (fz : Same F H) (hd : (a == sysModules) = false) (hm : s.heap.DictOfH (nestedKind X.prog X.w) a xs) (hx : Lt X.kw F H v d) (r : RelV v u) (e : keyT d = some c)
    (h : ∀ s', Inv X pins σ H s' → Q (.bool (!(atKey xs c).isSome)) s') : wpAny (model X.prog X.w) A (compareOp .NotIn u (.ref a)) Q E s := by
  obtain ⟨b, rfl, rfl, _, k⟩ := key_is I fz hx r e
  exact wpAny_notIn_heap (by show A.in1.units + 8 < cLine; exact hu) k hd hm (h _ (I.tok _))
theorem t_getItem {Q : Value → Shared → Prop} {v w : V} {u : Value} {d : D} {c : NestedKey} {xs : List (NestedKey × Addr × Value)} {p : Addr × Value} (hu : A.units + 9 < cLine) (I : Inv X pins σ H s) (fz : Same F H) (hm : s.heap.DictOfH (nestedKind X.prog X.w) a xs) (hx : Lt X.kw F H v d) (r : RelV v u) (e : keyT d = some c)
    (hp : atKey xs c = some p) (rw' : RelV w p.2) (h : ∀ w' s', Inv X pins σ H s' → RelV w w' → Q w' s') : wpAny (model X.prog X.w) A (getItem (.ref a) u) Q E s := by
  obtain ⟨b, rfl, rfl, _, k⟩ := key_is I fz hx r e
  exact wpAny_getItem_heap (by show A.in1.units + 8 < cLine; exact hu) k hm hp (h _ _ (I.tok _) rw')
theorem dict_is {xs : List (NestedKey × Addr × Value)} (hm : s.heap.DictOfH (nestedKind X.prog X.w) a xs) : s.TypeIs (.ref a) "dict" := hm.typeIs
theorem t_setItem {Q : Unit → Shared → Prop} {v : V} {u r' : Value} {d : D} {c : NestedKey} {xs : List (NestedKey × Addr × Value)} (hu : A.units + 9 < cLine) (I : Inv X pins σ H s) (fz : Same F H) (hm : s.heap.DictOfH (nestedKind X.prog X.w) a xs) (mu : L2.Mut (H a)) (hl : xs.length ≤ sizeLine) (hx : Lt X.kw F H v d) (r : RelV v u) (e : keyT d = some c)
    (h : ∀ b s', u = .ref b → Rp X.K F (.ref b) d → Inv X pins σ (upd H a (.ext (DicX X.w a (storedH xs c b r')))) s' → Q () s') : wpAny (model X.prog X.w) A (setItem (.ref a) u r') Q E s := by
  obtain ⟨b, rfl, rfl, hb, k⟩ := key_is I fz hx r e
  refine wpAny_setItem_heap (hsz := hl) (by show A.in1.units + 8 < cLine; exact hu) k hm fun h' hm' hs => h b _ rfl hb ?_
  refine I.write (x := a) (e := a) mu (.inl rfl) (fun b' q hb z => (hs.2 b' hb).trans z) ?_ (dic_ok hm')
  obtain ⟨o, _, _, h1, _⟩ := hm'
  exact ⟨o, h1⟩
theorem t_len {Q : Value → Shared → Prop} {xs : List (NestedKey × Addr × Value)} (I : Inv X pins σ H s) (hd : (a == sysModules) = false) (hm : s.heap.DictOfH (nestedKind X.prog X.w) a xs) (hl : xs.length ≤ sizeLine) (h : ∀ t s', Inv X pins σ H s' → Q (.int xs.length t) s') : wpAny (model X.prog X.w) A (call (.builtin "len") [.ref a]) Q E s := by
  refine call_len_dictH hd hm (by rw [sizeLine_eq] at hl; omega) ?_
  exact h _ _ (I.tok _)
theorem t_get1 {Q : Value → Shared → Prop} {v : V} {u : Value} {d : D} {c : NestedKey} {xs : List (NestedKey × Addr × Value)} (hu : A.units + 9 < cLine) (I : Inv X pins σ H s) (fz : Same F H) (hd : (a == sysModules) = false) (hm : s.heap.DictOfH (nestedKind X.prog X.w) a xs) (hx : Lt X.kw F H v d) (r : RelV v u) (e : keyT d = some c)
    (h : ∀ s', Inv X pins σ H s' → Q (((atKey xs c).map (·.2)).getD .none) s') : wpAny (model X.prog X.w) A (call (.builtin "dict.get") [.ref a, u]) Q E s := by
  obtain ⟨b, rfl, rfl, _, k⟩ := key_is I fz hx r e
  exact call_meetsIn PySem.F.slot_dict_get hm.typeIs PySem.F.entry_dict_get (PySem.F.args_dict_get_2 _ _) (meetsH_dict_get _ a b hd) ⟨by show A.in1.units + 8 < cLine; exact hu, c, xs, k, hm, h _ (I.tok _)⟩
theorem t_get2 {Q : Value → Shared → Prop} {v : V} {u z : Value} {d : D} {c : NestedKey} {xs : List (NestedKey × Addr × Value)} (hu : A.units + 9 < cLine) (I : Inv X pins σ H s) (fz : Same F H) (hd : (a == sysModules) = false) (hm : s.heap.DictOfH (nestedKind X.prog X.w) a xs) (hx : Lt X.kw F H v d) (r : RelV v u) (e : keyT d = some c)
    (h : ∀ s', Inv X pins σ H s' → Q (((atKey xs c).map (·.2)).getD z) s') : wpAny (model X.prog X.w) A (call (.builtin "dict.get") [.ref a, u, z]) Q E s := by
  obtain ⟨b, rfl, rfl, _, k⟩ := key_is I fz hx r e
  exact call_meetsIn PySem.F.slot_dict_get hm.typeIs PySem.F.entry_dict_get (PySem.F.args_dict_get_3 _ _ _) (meetsH_dict_get_default _ a b hd z) ⟨by show A.in1.units + 8 < cLine; exact hu, c, xs, k, hm, h _ (I.tok _)⟩
theorem t_getD {K : PySem.W.Frag} {xs : List (NestedKey × Addr × Value)} {kvs : List (D × D)} {d z : D} {c : NestedKey} {v : V} {u : Value} (h : KtR K F xs kvs) (e : keyT d = some c) (r : RelV v u) (hz : Rp K F v z) : ∃ w, RelV w (((atKey xs c).map (·.2)).getD u) ∧ Rp K F w ((tGet kvs d).getD z) := by
  obtain ⟨g1, g2⟩ := tGet_of h e
  cases hg : tGet kvs d with
  | none =>
    rw [hg] at g1
    cases hq : atKey xs c with
    | none => exact ⟨v, r, hz⟩
    | some p => rw [hq] at g1; cases g1
  | some y =>
    obtain ⟨p, w, q1, q2, q3⟩ := g2 y hg
    rw [q1]
    exact ⟨w, q2, q3⟩
/-- what such a dict is -/
theorem dic_ty {s : Shared} {xs : List (NestedKey × Addr × Value)} (I : Inv X pins σ H s) (h : H a = some (.ext (DicX X.w a xs))) : s.TypeIs (.ref a) "dict" ∧ ∃ ob, s.heap.get? a = some ob ∧ ob.dict = none := by
  obtain ⟨⟨o, es, ep, h1, h2, h3, h4, h5⟩, -⟩ := I.hok a _ h
  exact ⟨⟨o, h1, h2.1⟩, o, h1, h2.2.1⟩
end
end Ev
namespace Ev
open PySem PySem.Spec PyProof.Rows L2
section
variable {X : Cx} {k : Nat} {K : KW} {F H H' : Hp}
theorem kV_of {x : V} {d : D} {k : Key} (h : Lt K F H x d) (e : keyD d = some k) : x = kV k ∧ d = kD k := by
  unfold keyD at e
  split at e
  · cases e; exact ⟨h.int, rfl⟩
  · cases e; exact ⟨h.str, rfl⟩
  · cases e
theorem sameKey_kD (a b : Key) : sameKey (kD a) (kD b) = decide (a = b) := by
  cases a <;> cases b <;> simp [kD, sameKey]
theorem dGet_of {vs : List (Key × V)} {kvs : List (D × D)} {k : Key} (h : KvR K F vs kvs) : (∀ d, dGet kvs (kD k) = some d → ∃ v, valV vs k = some v ∧ Rp K F v d) ∧ (dGet kvs (kD k)).isSome = (valV vs k).isSome := by
  induction h with
  | nil => exact ⟨fun d e => by simp [dGet] at e, rfl⟩
  | @cons p q ps qs r t ih =>
    obtain ⟨e1, e2⟩ := r
    by_cases hk : p.1 = k
    · have hs : sameKey q.1 (kD k) = true := by rw [← e1, sameKey_kD, hk]; simp
      have e3 : dGet (q :: qs) (kD k) = some q.2 := by unfold dGet; rw [List.find?_cons, hs]; rfl
      rw [e3, valV_pos hk]
      exact ⟨fun d e => by cases e; exact ⟨_, rfl, e2⟩, rfl⟩
    · have hs : sameKey q.1 (kD k) = false := by rw [← e1, sameKey_kD]; simpa using hk
      have e3 : dGet (q :: qs) (kD k) = dGet qs (kD k) := by unfold dGet; rw [List.find?_cons, hs]
      rw [e3, valV_neg hk]
      exact ih
theorem KvR.length {vs : List (Key × V)} {kvs : List (D × D)} (h : KvR K F vs kvs) : vs.length = kvs.length := Paired.length h
theorem KvR.any {vs : List (Key × V)} {kvs : List (D × D)} {k : Key} (h : KvR K F vs kvs) : (kvs.any fun p => sameKey p.1 (kD k)) = vs.any fun kv => decide (kv.1 = k) := by
  induction h with
  | nil => rfl
  | @cons p q ps qs r t ih =>
    rw [List.any_cons, List.any_cons, ih, ← r.1, sameKey_kD]
theorem KvR.put {vs : List (Key × V)} {kvs : List (D × D)} {k : Key} {v : V} {d : D} (h : KvR K F vs kvs) (r : Rp K F v d) : KvR K F (putK vs k v) (dPut kvs (kD k) d) := by
  unfold putK dPut
  rw [h.any]
  split
  · induction h with
    | nil => exact .nil
    | @cons p q ps qs r' t ih =>
      rename_i hh
      rw [List.map_cons, List.map_cons]
      refine .cons ?_ ?_
      · by_cases hk : p.1 = k
        · have hs : sameKey q.1 (kD k) = true := by rw [← r'.1, sameKey_kD, hk]; simp
          rw [if_pos hk, if_pos hs]
          exact ⟨r'.1, r⟩
        · have hs : ¬ sameKey q.1 (kD k) = true := by rw [← r'.1, sameKey_kD]; simpa using hk
          rw [if_neg hk, if_neg hs]
          exact r'
      · clear ih hh
        induction t with
        | nil => exact .nil
        | @cons p q ps qs r' t ih =>
          rw [List.map_cons, List.map_cons]
          refine .cons ?_ ih
          by_cases hk : p.1 = k
          · have hs : sameKey q.1 (kD k) = true := by rw [← r'.1, sameKey_kD, hk]; simp
            rw [if_pos hk, if_pos hs]
            exact ⟨r'.1, r⟩
          · have hs : ¬ sameKey q.1 (kD k) = true := by rw [← r'.1, sameKey_kD]; simpa using hk
            rw [if_neg hk, if_neg hs]
            exact r'
  · exact Paired.app h (.cons ⟨rfl, r⟩ .nil)

theorem tPut_len {kvs : List (D × D)} {d z : D} (h : kvs.length < sizeLine) : (tPut kvs d z).length ≤ sizeLine := by
  unfold tPut
  split
  · rw [List.length_map]; omega
  · rw [List.length_append]; exact h
theorem Rp.frzI {K : PySem.W.Frag} {v : V} {kvs : List (D × D)} (h : Rp K F v (.dict kvs)) : ∃ (a : Addr) (ns : List Int), v = .ref a ∧ SqL K F a (ns.map V.int) ∧ kvs = ns.map fun n => (.none, .int n) := by
  cases h with
  | frz e => exact ⟨_, _, rfl, e, rfl⟩
/-! ### o[i] -/
theorem atI_map {α β : Type} (f : α → β) (xs : List α) (i : Int) : atI (xs.map f) i = (atI xs i).map f := by
  unfold atI
  rw [List.length_map]
  cases ixN xs.length i with
  | none => rfl
  | some j => show (xs.map f)[j]? = (xs[j]?).map f; rw [List.getElem?_map]
theorem atI_rp {vs : List V} {xs : List D} {i : Int} {d : D} (h : RpAll K F vs xs) (e : atI xs i = some d) : ∃ v, atI vs i = some v ∧ Rp K F v d := by
  unfold atI at e ⊢
  rw [h.length]
  cases e2 : ixN xs.length i with
  | none => rw [e2] at e; cases e
  | some j => rw [e2] at e; exact h.get e
def rIx (K : KW) : R2 := fun x y H Q => ∃ F r dy d, Same F H ∧ Lw K F H x r ∧ Lt K F H y dy ∧ ixR r dy = some d ∧ ∀ v, Rp K F v d → Q v H
theorem ixr (hr : Room k X.A) : IxR X (rIx X.kw) := by
  intro value slice pins s σ H x y v u Q I rx ry h hs
  obtain ⟨F, r, dy, d, fz, hx, hy, e, q⟩ := h
  have lst : ∀ {xs : List D} {i : Int}, Lt X.kw F H x (.list xs) → Lt X.kw F H y (.int i) → atI xs i = some d → wpAny (model X.prog X.w) X.A (subscriptTail value slice v u) (EP X pins σ Q) X.xe s := fun {xs i} hx hy e => by
    obtain rfl := hy.int
    obtain ⟨a, vs, rfl, ha, ra⟩ := hx.list fz
    obtain ⟨w, e1, e2⟩ := atI_rp ra e
    exact ix_list value slice pins s σ H _ _ v u Q I rx ry ⟨a, vs, _, w, rfl, rfl, .of ha, e1, q _ e2⟩ hs
  unfold ixR at e
  split at e
  · exact lst (hx.lt rfl) hy e
  · obtain rfl := hy.int
    obtain ⟨a, ns, rfl, ha, rfl⟩ := Rp.frzI hx
    rw [List.map_map, atI_map] at e
    cases e3 : atI ns _ with
    | none => rw [e3] at e; cases e
    | some n =>
      rw [e3] at e
      have : PyData.int n = d := Option.some.inj e
      subst this
      exact ix_list value slice pins s σ H _ _ v u Q I rx ry ⟨a, _, _, .int n, rfl, rfl, fz.seq ha, by rw [atI_map, e3]; rfl, q _ (.int n)⟩ hs
  · exact lst (hx.lt rfl) hy e
  · obtain rfl := hy.int
    obtain ⟨a, vs, rfl, ha, ra⟩ := (hx.lt (d := .tuple _) rfl).tup fz
    obtain ⟨w, e1, e2⟩ := atI_rp ra e
    exact ix_tup value slice pins s σ H _ _ v u Q I rx ry ⟨a, vs, _, w, rfl, rfl, fz.seqT ha, e1, q _ e2⟩ hs
  · split at e
    · rename_i z i hz
      obtain rfl := hy.int
      obtain rfl := (hx.lt (d := .str _) rfl).str
      cases e3 : atI z.cps.toList i with
      | none => rw [e3] at e; cases e
      | some c =>
        rw [e3] at e
        have : PyData.str ⟨#[c]⟩ = d := Option.some.inj e
        subst this
        exact ix_str value slice pins s σ H _ _ v u Q I rx ry ⟨z, i, c, rfl, rfl, hz, e3, q _ (.str _)⟩ hs
    · cases e
  · split at e
    · rename_i hk
      obtain ⟨a, rfl, vs, ha, rk⟩ := hx
      obtain ⟨k', hk'⟩ := Option.isSome_iff_exists.mp hk
      obtain ⟨rfl, rfl⟩ := kV_of hy hk'
      obtain ⟨w, e1, e2⟩ := (dGet_of rk).1 _ e
      cases rx
      have g : DGet H a (kV k') (some w) := by rw [← e1]; exact .k ha
      exact tail_any (dict_typeIs I g) PySem.F.slot_dict_getitem.lookup (d_getItem (by have := hr.un; omega) I g ry fun w' s' I' r' => ⟨w, H, I', r', q _ e2⟩) hs
    · cases e
  · split at e
    · rename_i hk
      obtain ⟨a, rfl, hsys, _, xs, ha, rk⟩ := hx
      obtain ⟨c, hc⟩ := Option.isSome_iff_exists.mp hk
      cases rx
      have hm := dic_at I fz ha rk
      obtain ⟨p, w, e1, rw1, e2⟩ := (tGet_of rk hc).2 _ e
      exact tail_any (dict_is hm) PySem.F.slot_dict_getitem.lookup (t_getItem (by have := hr.un; omega) I fz hm hy ry hc e1 rw1 fun w' s' I' r' => ⟨w, H, I', r', q _ e2⟩) hs
    · cases e
  · cases e
/-! ### slices -/
theorem cutL_cutV (vs : List V) (lo hi : Option Int) : cutL vs lo hi = cutV vs lo hi := rfl
theorem RpAll.cut {vs : List V} {xs : List D} (h : RpAll K F vs xs) (lo hi : Option Int) : RpAll K F (cutV vs lo hi) (cutL xs lo hi) := by
  unfold cutV cutL
  rw [h.length]
  exact (h.drop _).take _
def rSlD (K : KW) : V → Option Int → Option Int → Hp → VK → Prop := fun x lo hi H Q => ∃ F d rv, Same F H ∧ Lt K F H x d ∧ slD d lo hi = some rv ∧
  ∀ v F' H', Ext F H F' H' → RvR K F' H' v rv → Frs H v rv → Q v H'
theorem slr : SlR X (rSlD X.kw) := by
  intro pins s σ H x v vl vu lo hi sl Q I rx hs pl pu h
  obtain ⟨F, d, rv, fz, hx, e, q⟩ := h
  rcases d with _ | b | i | z | xs | xs | kvs
  · cases e
  · cases e
  · cases e
  rotate_left
  · cases e
    obtain ⟨a, vs, rfl, ha, ra⟩ := hx.list fz
    refine sl_list pins s σ H _ v vl vu _ _ sl Q I rx hs pl pu ⟨a, vs, rfl, .of ha, fun p hp => ?_⟩
    exact q _ _ _ (.lst fz hp) ⟨p, rfl, fz.none_ hp, _, upd_same, ra.cut _ _⟩ (fun a e => by cases e; exact hp)
  · cases e
    obtain ⟨a, vs, rfl, ha, ra⟩ := hx.tup fz
    refine sl_tupU pins s σ H _ v vl vu _ _ sl Q I rx hs pl pu ⟨a, vs, rfl, fz.seqT ha, fun e => ?_, fun p ob hd hp => ?_⟩
    · refine q _ F H (.refl fz) ?_ trivial
      have : cutV vs lo hi = vs := by
        unfold cutV
        rw [e.1, e.2, List.drop_zero, Nat.sub_zero, List.take_length]
      have r2 := ra.cut lo hi
      rw [this] at r2
      exact .tup ha r2
    · refine q _ _ _ (.tup fz hp) ?_ trivial
      exact .tup (.inl ⟨ob, upd_same, hd⟩) (RpAll.mono (same_upd (fz.none_ hp)) _ _ (ra.cut _ _))
  · cases e
  · unfold slD at e
    dsimp only at e
    split at e
    · rename_i hz
      cases e
      obtain rfl := hx.str
      exact sl_str pins s σ H _ v vl vu _ _ sl Q I rx hs pl pu ⟨_, rfl, hz, q _ F H (.refl fz) (.str _) trivial⟩
    · cases e
/-! ### a op b, b perhaps a dict -/
def rC2 (K : KW) (op : CmpOp) : R2 := fun x y H Q => ∃ F dx ry b, Same F H ∧ Lt K F H x dx ∧ Lw K F H y ry ∧ cmpR op dx ry = some b ∧ Q (.bl b) H
theorem opr_cmpR (hr : Room k X.A) (op : CmpOp) : OpR X (compareOp op) (rC2 X.kw op) := by
  intro pins s σ H x y v u Q I rx ry h
  obtain ⟨F, dx, r, b, fz, hx, hy, e, q⟩ := h
  unfold cmpR at e
  split at e
  · obtain ⟨a, rfl, vs, ha, rk⟩ := hy
    cases ry
    split at e
    · split at e
      · rename_i hk
        cases e
        obtain ⟨k', hk'⟩ := Option.isSome_iff_exists.mp hk
        obtain ⟨rfl, rfl⟩ := kV_of hx hk'
        refine d_in (by have := hr.un; omega) I (.k ha) rx fun s' I' => ⟨.bl _, H, I', rfl, ?_⟩
        rw [← (dGet_of rk).2]; exact q
      · split at e
        · rename_i hk
          cases e
          rw [Bool.and_eq_true, List.isEmpty_iff] at hk
          obtain ⟨hk, rfl⟩ := hk
          obtain ⟨c, hc⟩ := Option.isSome_iff_exists.mp hk
          cases rk
          obtain ⟨hsys, hm⟩ := dic_empty I ha
          exact t_in (by have := hr.un; omega) I fz hsys hm hx rx hc fun s' I' => ⟨.bl _, H, I', rfl, q⟩
        · cases e
    · split at e
      · rename_i hk
        cases e
        obtain ⟨k', hk'⟩ := Option.isSome_iff_exists.mp hk
        obtain ⟨rfl, rfl⟩ := kV_of hx hk'
        refine d_notIn (by have := hr.un; omega) I (.k ha) rx fun s' I' => ⟨.bl _, H, I', rfl, ?_⟩
        rw [← (dGet_of rk).2]; exact q
      · split at e
        · rename_i hk
          cases e
          rw [Bool.and_eq_true, List.isEmpty_iff] at hk
          obtain ⟨hk, rfl⟩ := hk
          obtain ⟨c, hc⟩ := Option.isSome_iff_exists.mp hk
          cases rk
          obtain ⟨hsys, hm⟩ := dic_empty I ha
          exact t_notIn (by have := hr.un; omega) I fz hsys hm hx rx hc fun s' I' => ⟨.bl _, H, I', rfl, q⟩
        · cases e
    · cases e
  · obtain ⟨a, rfl, hsys, _, xs, ha, rk⟩ := hy
    cases ry
    have hm := dic_at I fz ha rk
    split at e
    · split at e
      · rename_i hk
        cases e
        obtain ⟨c, hc⟩ := Option.isSome_iff_exists.mp hk
        refine t_in (by have := hr.un; omega) I fz hsys hm hx rx hc fun s' I' => ⟨.bl _, H, I', rfl, ?_⟩
        rw [← (tGet_of rk hc).1]; exact q
      · cases e
    · split at e
      · rename_i hk
        cases e
        obtain ⟨c, hc⟩ := Option.isSome_iff_exists.mp hk
        refine t_notIn (by have := hr.un; omega) I fz hsys hm hx rx hc fun s' I' => ⟨.bl _, H, I', rfl, ?_⟩
        rw [← (tGet_of rk hc).1]; exact q
      · cases e
    · cases e
  · exact opr_cmp hr op pins s σ H x y v u Q I rx ry ⟨F, dx, _, b, fz, hx, hy.lt rfl, e, q⟩
  · exact opr_cmp hr op pins s σ H x y v u Q I rx ry ⟨F, dx, _, b, fz, hx, hy.lt rfl, e, q⟩
/-! ### o[i] = x -/
def rSet (K : KW) : V → V → V → Hp → (Hp → Prop) → Prop := fun o i v H Q => ∃ F a ob di d ob', Same F H ∧ o = .ref a ∧ ObR K F H a ob ∧ Lt K F H i di ∧ Rp K F v d ∧ putO ob di d = some ob' ∧
  ∀ o', ObR K F (upd H a o') a ob' → Q (upd H a o')
theorem setr (hr : Room k X.A) : PSet X (rSet X.kw) := by
  intro pins s σ H o i v ov iv u Q I ro ri rv h
  obtain ⟨F, a, ob, di, d, ob', fz, rfl, ha, hi, hd, e, q⟩ := h
  unfold putO at e
  split at e
  · rename_i xs i
    obtain ⟨vs, ha, ra⟩ := ha
    obtain rfl := hi.int
    cases e2 : ixN xs.length i with
    | none => rw [e2] at e; cases e
    | some j =>
      rw [e2] at e
      have e' : Ob.lst (xs.set j d) = ob' := Option.some.inj e
      subst e'
      exact set_list pins s σ H _ _ v ov iv u Q I ro ri rv ⟨a, vs, i, j, rfl, rfl, ha, by rw [ra.length]; exact e2, q _ ⟨_, upd_same, ra.set j hd⟩⟩
  · rename_i kvs
    split at e
    · rename_i hk
      cases e
      rw [Bool.and_eq_true, decide_eq_true_eq] at hk
      obtain ⟨vs, ha, ra⟩ := ha
      obtain ⟨k', hk'⟩ := Option.isSome_iff_exists.mp hk.1
      obtain ⟨rfl, rfl⟩ := kV_of hi hk'
      cases ro
      exact d_setItem (by have := hr.un; omega) I (.k ha (by rw [ra.length]; exact hk.2)) ri rv fun s' I' => ⟨_, I', q _ ⟨_, upd_same, ra.put hd⟩⟩
    · split at e
      · rename_i hk
        cases e
        rw [Bool.and_eq_true, List.isEmpty_iff] at hk
        obtain ⟨hk, rfl⟩ := hk
        obtain ⟨c, hc⟩ := Option.isSome_iff_exists.mp hk
        obtain ⟨vs, ha, ra⟩ := ha
        cases ra
        cases ro
        obtain ⟨hsys, hm⟩ := dic_empty I ha
        refine t_setItem (by have := hr.un; omega) I fz hm (by rw [ha]; exact True.intro) (by exact Nat.zero_le _) hi ri hc fun b s' _ hb I' => ⟨_, I', q _ ⟨hsys, ?_, _, upd_same, ?_⟩⟩
        · show 1 ≤ sizeLine
          unfold sizeLine; omega
        · exact .cons ⟨hc, hb, v, rv, hd⟩ .nil
      · cases e
  · rename_i kvs
    split at e
    · rename_i hk
      cases e
      rw [Bool.and_eq_true, decide_eq_true_eq] at hk
      obtain ⟨hk, hlen⟩ := hk
      obtain ⟨hsys, _, xs, ha, ra⟩ := ha
      obtain ⟨c, hc⟩ := Option.isSome_iff_exists.mp hk
      cases ro
      have hm := dic_at I fz ha ra
      refine t_setItem (by have := hr.un; omega) I fz hm (by rw [ha]; exact True.intro) (by rw [ra.length]; omega) hi ri hc fun b s' _ hb I' => ⟨_, I', q _ ⟨hsys, ?_, _, upd_same, tPut_of ra hc hb rv hd⟩⟩
      exact tPut_len hlen
    · cases e
  · cases e
/-- o[i], by values -/
def rGet (K : KW) : V → V → Hp → VK → Prop := fun x y H Q => ∃ F a ob dy d, Same F H ∧ x = .ref a ∧ ObR K F H a ob ∧ Lt K F H y dy ∧ ixR (.new ob) dy = some d ∧ ∀ v, Rp K F v d → Q v H
theorem getr (hr : Room k X.A) : PGet X (rGet X.kw) := by
  intro pins s σ H o i ov iv Q I ro ri h
  obtain ⟨F, a, ob, dy, d, fz, rfl, ha, hy, e, q⟩ := h
  unfold ixR at e
  split at e
  · rename_i e'; cases e'
  · rename_i e'; cases e'
  · rename_i xs i e'
    cases e'
    obtain rfl := hy.int
    obtain ⟨vs, ha, ra⟩ := ha
    obtain ⟨w, e1, e2⟩ := atI_rp ra e
    cases ro
    obtain ⟨t, rfl⟩ := ri
    obtain ⟨its, r, pl, hz⟩ := I.list (.of ha)
    obtain ⟨j, h1, h2, h3, h4, h5⟩ := atI_get e1
    obtain ⟨w', ew, rw'⟩ := r.get h2
    have hl := r.length
    have hn := line63
    have fin : EP X pins σ Q w' s := ⟨w, H, I, rw', q _ e2⟩
    by_cases h0 : 0 ≤ i
    · have hj : i.toNat = j := by
        rw [seqIndex_of h0 h5] at h1
        exact Option.some.inj h1
      exact wpAny_getItem_list pl.isList h0 (by omega) (by rw [hj]; simpa using ew) fin
    · have hj : (i + (its.toArray.size : Int)).toNat = j := by
        rw [seqIndex_neg (by omega) h4] at h1
        rw [List.size_toArray, ← hl]
        exact Option.some.inj h1
      exact wpAny_getItem_list_neg pl.isList (by omega) (by rw [List.size_toArray] <;> omega) (by omega) (by rw [hj]; simpa using ew) fin
  · rename_i e'; cases e'
  · rename_i e'; cases e'
  · rename_i kvs e'
    cases e'
    split at e
    · rename_i hk
      obtain ⟨vs, ha, rk⟩ := ha
      obtain ⟨k', hk'⟩ := Option.isSome_iff_exists.mp hk
      obtain ⟨rfl, rfl⟩ := kV_of hy hk'
      obtain ⟨w, e1, e2⟩ := (dGet_of rk).1 _ e
      cases ro
      have g : DGet H a (kV k') (some w) := by rw [← e1]; exact .k ha
      exact d_getItem (by have := hr.un; omega) I g ri fun w' s' I' r' => ⟨w, H, I', r', q _ e2⟩
    · cases e
  · rename_i kvs e'
    cases e'
    split at e
    · rename_i hk
      obtain ⟨hsys, _, xs, ha, rk⟩ := ha
      obtain ⟨c, hc⟩ := Option.isSome_iff_exists.mp hk
      cases ro
      have hm := dic_at I fz ha rk
      obtain ⟨p, w, e1, rw1, e2⟩ := (tGet_of rk hc).2 _ e
      exact t_getItem (by have := hr.un; omega) I fz hm hy ri hc e1 rw1 fun w' s' I' r' => ⟨w, H, I', r', q _ e2⟩
    · cases e
  · cases e
end
end Ev
namespace Ev
open PySem PySem.Spec PyProof.Rows L2
section
variable {X : Cx} {k : Nat} {K : KW} {F H H' : Hp}
abbrev LtAll (K : KW) (F H : Hp) : List V → List D → Prop := Paired fun v d => Lt K F H v d
def rBi (K : KW) (b : Bi) : List V → Hp → VK → Prop := fun vs H Q => ∃ F ds rv, Same F H ∧ LtAll K F H vs ds ∧ biD b ds = some rv ∧
  ∀ v F' H', Ext F H F' H' → RvR K F' H' v rv → Frs H v rv → Q v H'
theorem LtAll.one {vs : List V} {d : D} (h : LtAll K F H vs [d]) : ∃ v, vs = [v] ∧ Lt K F H v d := by
  cases h with
  | cons h t => cases t; exact ⟨_, rfl, h⟩
theorem LtAll.two {vs : List V} {d e : D} (h : LtAll K F H vs [d, e]) : ∃ v w, vs = [v, w] ∧ Lt K F H v d ∧ Lt K F H w e := by
  cases h with
  | cons h t => cases t with | cons h' t => cases t; exact ⟨_, _, rfl, h, h'⟩
theorem LtAll.nil_ {vs : List V} (h : LtAll K F H vs []) : vs = [] := by cases h; rfl

theorem bir_len : CallR X (.builtin "len") (rBi X.kw .len) := by
  intro pins s σ H vs us Q I r h
  obtain ⟨F, ds, rv, fz, hv, e, q⟩ := h
  have val : ∀ d v, rv = .val d → Rp X.kw F v d → Q v H := fun d v e r => by subst e; exact q v F H (.refl fz) r trivial
  unfold biD at e
  split at e <;> try (rename_i hh; cases hh)
  · obtain ⟨v, rfl, h⟩ := hv.one
    obtain ⟨a, vs, rfl, ha, ra⟩ := h.list fz
    cases e
    refine call_len pins s σ H _ us Q I r ⟨_, _, rfl, .inl ⟨vs, .of ha, rfl⟩, ?_⟩
    rw [ra.length]; exact val _ _ rfl (.int _)
  · obtain ⟨v, rfl, h⟩ := hv.one
    cases e
    rcases h.frz with ⟨a, ns, rfl, ha, rfl⟩ | ⟨a, ob, rfl, hob, ho⟩
    · refine call_len pins s σ H _ us Q I r ⟨_, _, rfl, .inl ⟨_, fz.seq ha, rfl⟩, ?_⟩
      have := val (.int (ns.length : Nat)) (.int (ns.length : Nat)) (by rw [List.length_map]) (.int _)
      rw [List.length_map]; exact this
    · rcases hob with rfl | rfl
      · obtain ⟨vs, ha, rk⟩ := ho
        refine call_lenD pins s σ H _ us Q I r ⟨a, vs, rfl, ha, ?_⟩
        rw [rk.length]; exact val _ _ rfl (.int _)
      · obtain ⟨hsys, hl, xs, ha, rk⟩ := ho
        obtain ⟨u, rfl, ru⟩ := vals1 r
        cases ru
        refine t_len I hsys (dic_at I fz ha rk) (by rw [rk.length]; exact hl) fun t s' I' => ⟨.int xs.length, H, I', ⟨t, rfl⟩, ?_⟩
        rw [rk.length]; exact val _ _ rfl (.int _)
  · obtain ⟨v, rfl, h⟩ := hv.one
    obtain ⟨a, vs, rfl, ha, ra⟩ := h.tup fz
    cases e
    refine call_len pins s σ H _ us Q I r ⟨_, _, rfl, .inr ⟨vs, fz.seqT ha, rfl⟩, ?_⟩
    rw [ra.length]; exact val _ _ rfl (.int _)
  · obtain ⟨v, rfl, h⟩ := hv.one
    obtain rfl := h.str
    split at e
    · rename_i hz
      cases e
      exact call_len pins s σ H _ us Q I r ⟨_, _, rfl, ⟨hz, rfl⟩, val _ _ rfl (.int _)⟩
    · cases e
  · cases e
theorem bir_tuple : CallR X (.type "tuple") (rBi X.kw .tuple) := by
  intro pins s σ H vs us Q I r h
  obtain ⟨F, ds, rv, fz, hv, e, q⟩ := h
  unfold biD at e
  split at e <;> try (rename_i hh; cases hh)
  · obtain ⟨v, rfl, h⟩ := hv.one
    obtain ⟨a, vs, rfl, ha, ra⟩ := h.list fz
    cases e
    refine cr_tupU pins s σ H _ us Q I r ⟨a, vs, rfl, .inl ⟨.of ha, fun p ob hd hp => ?_⟩⟩
    refine q _ _ _ (.tup fz hp) ?_ trivial
    exact .tup (.inl ⟨ob, upd_same, hd⟩) (RpAll.mono (same_upd (fz.none_ hp)) _ _ ra)
  · obtain ⟨v, rfl, h⟩ := hv.one
    obtain ⟨a, vs, rfl, ha, ra⟩ := h.tup fz
    cases e
    exact cr_tupU pins s σ H _ us Q I r ⟨a, vs, rfl, .inr ⟨fz.seqT ha, q _ F H (.refl fz) (.tup ha ra) trivial⟩⟩
  · cases e
theorem bir_list : CallR X (.type "list") (rBi X.kw .list) := by
  intro pins s σ H vs us Q I r h
  obtain ⟨F, ds, rv, fz, hv, e, q⟩ := h
  unfold biD at e
  split at e <;> try (rename_i hh; cases hh)
  · obtain ⟨v, rfl, h⟩ := hv.one
    obtain ⟨a, vs, rfl, ha, ra⟩ := h.list fz
    cases e
    refine call_list_of pins s σ H _ us Q I r ⟨a, vs, rfl, .inl (.of ha), fun p hp => ?_⟩
    exact q _ _ _ (.lst fz hp) ⟨p, rfl, fz.none_ hp, _, upd_same, ra⟩ (fun a e => by cases e; exact hp)
  · obtain ⟨v, rfl, h⟩ := hv.one
    obtain ⟨a, vs, rfl, ha, ra⟩ := h.tup fz
    cases e
    refine call_list_of pins s σ H _ us Q I r ⟨a, vs, rfl, .inr (fz.seqT ha), fun p hp => ?_⟩
    exact q _ _ _ (.lst fz hp) ⟨p, rfl, fz.none_ hp, _, upd_same, ra⟩ (fun a e => by cases e; exact hp)
  · cases e
theorem bir_sum (hc : X.calm = true) : CallR X (.builtin "sum") (rBi X.kw .sum) := by
  intro pins s σ H vs us Q I r h
  obtain ⟨F, ds, rv, fz, hv, e, q⟩ := h
  unfold biD at e
  split at e <;> try (rename_i hh; cases hh)
  · obtain ⟨v, rfl, h⟩ := hv.one
    obtain ⟨a, vs, rfl, ha, ra⟩ := h.list fz
    rename_i xs
    cases e2 : intsD xs with
    | none => rw [e2] at e; cases e
    | some ns =>
      rw [e2] at e
      have e3 : RV.val (.int ns.sum) = rv := Option.some.inj e
      subst e3
      obtain rfl := intsD_map e2
      obtain rfl := ra.ints
      exact cr_sum hc pins s σ H _ us Q I r ⟨a, ns, rfl, .of ha, q _ F H (.refl fz) (.int _) trivial⟩
  · cases e
theorem bir_all (hc : X.calm = true) : CallR X (.builtin "all") (rBi X.kw .all) := by
  intro pins s σ H vs us Q I r h
  obtain ⟨F, ds, rv, fz, hv, e, q⟩ := h
  unfold biD at e
  split at e <;> try (rename_i hh; cases hh)
  · obtain ⟨v, rfl, h⟩ := hv.one
    obtain ⟨a, vs, rfl, ha, ra⟩ := h.list fz
    rename_i xs
    cases e2 : boolsD xs with
    | none => rw [e2] at e; cases e
    | some ns =>
      rw [e2] at e
      have e3 : RV.val (.bool (ns.all id)) = rv := Option.some.inj e
      subst e3
      obtain rfl := boolsD_map e2
      obtain rfl := ra.bools
      exact cr_all hc pins s σ H _ us Q I r ⟨a, ns, rfl, .of ha, q _ F H (.refl fz) (.bl _) trivial⟩
  · cases e
theorem bir_any (hc : X.calm = true) : CallR X (.builtin "any") (rBi X.kw .any) := by
  intro pins s σ H vs us Q I r h
  obtain ⟨F, ds, rv, fz, hv, e, q⟩ := h
  unfold biD at e
  split at e <;> try (rename_i hh; cases hh)
  · obtain ⟨v, rfl, h⟩ := hv.one
    obtain ⟨a, vs, rfl, ha, ra⟩ := h.list fz
    rename_i xs
    cases e2 : boolsD xs with
    | none => rw [e2] at e; cases e
    | some ns =>
      rw [e2] at e
      have e3 : RV.val (.bool (ns.any id)) = rv := Option.some.inj e
      subst e3
      obtain rfl := boolsD_map e2
      obtain rfl := ra.bools
      exact cr_any hc pins s σ H _ us Q I r ⟨a, ns, rfl, .of ha, q _ F H (.refl fz) (.bl _) trivial⟩
  · cases e
theorem bir_abs : CallR X (.builtin "abs") (rBi X.kw .abs) := by
  intro pins s σ H vs us Q I r h
  obtain ⟨F, ds, rv, fz, hv, e, q⟩ := h
  unfold biD at e
  split at e <;> try (rename_i hh; cases hh)
  · obtain ⟨v, rfl, h⟩ := hv.one
    obtain rfl := h.int
    cases e
    exact call_abs pins s σ H _ us Q I r ⟨_, rfl, q _ F H (.refl fz) (.int _) trivial⟩
  · cases e
theorem bir_int : CallR X (.type "int") (rBi X.kw .int) := by
  intro pins s σ H vs us Q I r h
  obtain ⟨F, ds, rv, fz, hv, e, q⟩ := h
  unfold biD at e
  split at e <;> try (rename_i hh; cases hh)
  · obtain ⟨v, rfl, h⟩ := hv.one
    obtain rfl := h.int
    cases e
    exact call_int1 pins s σ H _ us Q I r (.inl ⟨_, rfl, q _ F H (.refl fz) (.int _) trivial⟩)
  · obtain ⟨v, rfl, h⟩ := hv.one
    obtain rfl := h.bool
    cases e
    exact call_int1 pins s σ H _ us Q I r (.inr ⟨_, rfl, q _ F H (.refl fz) (.int _) trivial⟩)
  · cases e

/-! ### sorted -/
theorem plainAll_mem : ∀ {xs : List D} {d : D}, PyData.plainAll xs = true → d ∈ xs → d.plain = true
  | [], _, _, h => by simp at h
  | x :: xs, d, p, h => by
    rw [PyData.plainAll, Bool.and_eq_true] at p
    rcases List.mem_cons.mp h with rfl | h
    · exact p.1
    · exact plainAll_mem p.2 h
theorem depthAll_mem : ∀ {xs : List D} {d : D}, d ∈ xs → d.depth ≤ PyData.depthAll xs
  | [], _, h => by simp at h
  | x :: xs, d, h => by
    rw [PyData.depthAll]
    rcases List.mem_cons.mp h with rfl | h
    · omega
    · have := depthAll_mem h; omega
def VD (K : KW) (F : Hp) (u : Value) (d : D) : Prop := ∃ v, RelV v u ∧ Rp K F v d
theorem each_vd : ∀ {vs : List V} {us : List Value} {ds : List D}, Vals vs us → RpAll K F vs ds → PySem.W.EachIs (VD K F) us ds
  | _, _, _, .nil, .nil => .nil
  | _, _, _, .cons r t, .cons h t' => .cons ⟨_, r, h⟩ (each_vd t t')
theorem vd_each : ∀ {us : List Value} {ds : List D}, PySem.W.EachIs (VD K F) us ds → ∃ vs, Vals vs us ∧ RpAll K F vs ds
  | _, _, .nil => ⟨[], .nil, .nil⟩
  | _, _, .cons ⟨v, r, h⟩ t => by
    obtain ⟨vs, r', h'⟩ := vd_each t
    exact ⟨v :: vs, .cons r r', .cons h h'⟩
theorem each_reads {pins : List (Addr × Obj)} {σ : L2.St} {s : Shared} (I : Inv X pins σ H s) (fz : Same F H) : ∀ {us : List Value} {ds : List D}, PyData.plainAll ds = true → PySem.W.EachIs (VD X.kw F) us ds → PySem.W.EachIs (fun v d => ∃ as, Reads s.heap v d as) us ds
  | _, _, _, .nil => .nil
  | _, _, p, .cons ⟨v, r, h⟩ t => by
    rw [PyData.plainAll, Bool.and_eq_true] at p
    exact .cons (Dp.reads I _ _ _ ((Rp.mono fz _ _ h).dp _ _ p.1) r) (each_reads I fz p.2 t)
theorem sortOk_of {xs : List D} (h : sortOk xs = true) : PySem.W.AllAlike xs ∧ PySem.W.Sortable xs ∧ PyData.plainAll xs = true ∧ PyData.depthAll xs ≤ 60 := by
  unfold sortOk at h
  simp only [Bool.and_eq_true, Bool.or_eq_true, List.all_eq_true, decide_eq_true_eq] at h
  obtain ⟨⟨⟨h1, h2⟩, h3⟩, h4⟩ := h
  refine ⟨fun d hd d' hd' => h1 d hd d' hd', ?_, h3, h4⟩
  rcases h2 with h2 | h2
  · refine .inl fun d hd => ?_
    have := h2 d hd
    unfold isTupC at this
    split at this
    · exact ⟨_, _, rfl⟩
    · cases this
  · refine .inr fun d hd => ?_
    have := h2 d hd
    constructor
    · rintro rfl; simp [notTup] at this
    · rintro xs rfl; simp [notTup] at this
section
variable {prog : Program} {w : World} {A : Around} {E : Value → Shared → Prop} {s : Shared}
theorem sorted_seq {l : Addr} {o : Obj} {T : String} {n : Nat} {us : List Value} {ds : List D} {R : Value → D → Prop} {Q : Value → Shared → Prop} (hT : T = "list" ∨ T = "tuple") (ho : s.heap.get? l = some o) (hc : o.cls = .type T) (hd : o.data = .seq us.toArray n)
    (e : PySem.W.EachIs R us ds) (er : PySem.W.EachIs (fun v d => ∃ as, Reads s.heap v d as) us ds) (hal : PySem.W.AllAlike ds) (hk : PySem.W.Sortable ds) (hL : us.length ≤ sizeLine) (hu : ∀ d, d ∈ ds → A.units + 2 + d.depth < cLine)
    (h : ∀ (h1 h' : Heap) (out : List Value) (n : Nat), (∀ b o, s.heap.get? b = some o → h1.get? b = some o) → (∀ b o, h1.get? b = some o → h'.get? b = some o) → h'.get? h1.objs.size = some (seqObj "list" out.toArray n) → PySem.W.EachIs R out (ds.mergeSort leD) → Q (.ref h1.objs.size) { s with heap := h' }) :
    wpAny (model prog w) A (call (.builtin "sorted") [.ref l]) Q E s := by
  refine Calls.call_function_entry kind_sorted plain_sorted entry_sorted (args_sorted1 _) ?_
  unfold Builtin.«sorted»
  refine wpAny_bind (m := checkCount "sorted" 1 1 _) (wpAny_pure ?_)
  refine wpAny_bind (wpAny_collect_seq l hT ho hc hd (fun h1 k1 => ?_) (by rw [List.size_toArray]; exact hL))
  have eT : us.toArray.toList = us := by simp
  rw [eT]
  refine wpAny_bind (wpAny_newList ?_ hL)
  have hoL : (h1.push (seqObj "list" us.toArray 0)).get? h1.objs.size = some (seqObj "list" us.toArray 0) := Heap.get?_push_size _ rfl
  have keep : ∀ b o, s.heap.get? b = some o → b ≠ h1.objs.size ∧ (h1.push (seqObj "list" us.toArray 0)).get? b = some o := fun b o q => by
    have hlt : b < h1.objs.size := Heap.lt_size (k1 b o q)
    exact ⟨Nat.ne_of_lt hlt, Heap.get?_push_of_some _ (k1 b o q)⟩
  have er' : PySem.W.EachIs (fun v d => ∃ as, Reads (PySem.W.sortingHeap (h1.push (seqObj "list" us.toArray 0)) h1.objs.size us) v d as) us ds := er.mono fun _ _ ⟨as, r⟩ => ⟨as, PyProof.Rows.Reads.keeps (fun b o q => PySem.W.sortingHeap_old (keep b o q).1 (keep b o q).2) r⟩
  refine wpAny_bind (wpAny_holding (wpAny_call_entry slot_list_sort ⟨_, hoL, rfl⟩ entry_list_sort
    (PySem.W.list_sort_vals (s := { s with heap := h1.push (seqObj "list" us.toArray 0) }) hoL (PySem.W.SortsAt.data (s := { s with heap := PySem.W.sortingHeap (h1.push (seqObj "list" us.toArray 0)) h1.objs.size us }) er' hal hk hu) hL ⟨_, rfl, ?_⟩) (args_list_sort _)))
  refine wpAny_pure ⟨_, rfl, ?_⟩
  have hp : h1.objs.size < (h1.push (seqObj "list" us.toArray 0)).objs.size := by rw [size_push']; exact Nat.lt_succ_self _
  obtain ⟨n', hn'⟩ : ∃ n', (sortedHeap (h1.push (seqObj "list" us.toArray 0)) h1.objs.size us (PySem.W.sortVals (PySem.W.dataKind (PySem.W.sortingHeap (h1.push (seqObj "list" us.toArray 0)) h1.objs.size us) ds) false us us).toArray).get? h1.objs.size = some (seqObj "list" (PySem.W.sortVals (PySem.W.dataKind (PySem.W.sortingHeap (h1.push (seqObj "list" us.toArray 0)) h1.objs.size us) ds) false us us).toArray n') := by
    obtain ⟨e1, ho1⟩ : ∃ e1, ((h1.push (seqObj "list" us.toArray 0)).update h1.objs.size (Obj.mapSeq fun _ => #[])).get? h1.objs.size = some (seqObj "list" #[] e1) := ⟨_, get?_update_seq hoL (fun _ => #[])⟩
    exact ⟨_, get?_update_seq (Heap.get?_push_of_some _ (Heap.get?_push_of_some _ ho1)) (fun _ => _)⟩
  refine h h1 _ _ n' k1 (fun b o q => ?_) hn' ?_
  · have hlt : b < h1.objs.size := Heap.lt_size q
    have q2 : (h1.push (seqObj "list" us.toArray 0)).get? b = some o := Heap.get?_push_of_some _ q
    rw [sortedHeap_old (Nat.ne_of_lt hlt) (Heap.lt_size q2)]
    exact q2
  · have := PySem.W.sortVals_data (β := D) (enc := fun d => d) (R := R) false e (by simpa using er') (by simpa using hal)
    rw [List.map_id'] at this
    exact this
end
theorem seqT_obj {pins : List (Addr × Obj)} {σ : L2.St} {s : Shared} {a : Addr} {vs : List V} (I : Inv X pins σ H s) (h : SqT X.kw H a vs) : ∃ us o n, Vals vs us ∧ s.heap.get? a = some o ∧ o.cls = .type "tuple" ∧ o.data = .seq us.toArray n ∧ us.length ≤ sizeLine := by
  obtain ⟨its, r, ⟨o, ho, hc, n, hd⟩, hz⟩ := I.tuple h
  exact ⟨its, o, n, r, ho, hc, hd, by rw [← r.length]; exact hz⟩
theorem seqL_obj {pins : List (Addr × Obj)} {σ : L2.St} {s : Shared} {a : Addr} {vs : List V} (I : Inv X pins σ H s) (h : SqL X.kw H a vs) : ∃ us o n, Vals vs us ∧ s.heap.get? a = some o ∧ o.cls = .type "list" ∧ o.data = .seq us.toArray n ∧ us.length ≤ sizeLine := by
  obtain ⟨its, r, ⟨o, n, ho, hc, _, hd⟩, hz⟩ := I.list h
  exact ⟨its, o, n, r, ho, hc, hd, by rw [← r.length]; exact hz⟩
end
end Ev
namespace Ev
open PySem PySem.Spec PyProof.Rows L2
section
variable {X : Cx} {k : Nat} {K : KW} {F H H' : Hp}
/-! ### min, max -/
theorem alikeB_of {xs : List D} (h : alikeB xs = true) : PySem.W.AlikeAll xs ∧ PyData.plainAll xs = true ∧ PyData.depthAll xs ≤ 60 := by
  unfold alikeB at h
  simp only [Bool.and_eq_true, List.all_eq_true, decide_eq_true_eq] at h
  obtain ⟨⟨⟨h1, h2⟩, h3⟩, h4⟩ := h
  exact ⟨⟨h1, fun x hx => ord_ne (b := true) (h2 x hx)⟩, h3, h4⟩
theorem rpAll_of_val {vs : List V} {us : List Value} {ds : List D} {i : Nat} {u : Value} (rv : Vals vs us) (ra : RpAll K F vs ds) (h : us[i]? = some u) : ∃ v d, ds[i]? = some d ∧ RelV v u ∧ Rp K F v d := by
  have h1 : i < us.length := (List.getElem?_eq_some_iff.mp h).1
  have h2 : i < ds.length := by rw [← ra.length, rv.length]; exact h1
  obtain ⟨v, e1, e2⟩ := ra.get (List.getElem?_eq_getElem h2)
  obtain ⟨u', e3, e4⟩ := rv.get e1
  rw [h] at e3; cases e3
  exact ⟨v, _, List.getElem?_eq_getElem h2, e4, e2⟩
/-- the value found is one of the items -/
theorem found_rp {pins : List (Addr × Obj)} {σ : L2.St} {s s' : Shared} (I : Inv X pins σ H s) (I' : Inv X pins σ H s') (fz : Same F H) {vs : List V} {us : List Value} {ds : List D} {i : Nat} {u : Value} {m : D} {bs : List Addr} (rv : Vals vs us) (ra : RpAll X.kw F vs ds) (p : PyData.plainAll ds = true)
    (h : us[i]? = some u) (r : Reads s'.heap u m bs) : ∃ v, RelV v u ∧ Rp X.kw F v m := by
  obtain ⟨v, d, e1, e2, e3⟩ := rpAll_of_val rv ra h
  have pd : d.plain = true := plainAll_mem p (List.mem_of_getElem? e1)
  obtain ⟨as, r'⟩ := Dp.reads I' _ _ _ ((Rp.mono fz _ _ e3).dp _ _ pd) e2
  have : d = m := PySem.SeqAt.plain_unique d m u as bs pd r' r
  subst this
  exact ⟨v, e2, e3⟩
theorem bir_min (hc : X.calm = true) (hr : Room k X.A) : CallR X (.builtin "min") (rBi X.kw .min) := by
  intro pins s σ H vs us Q I r h
  obtain ⟨F, ds, rv, fz, hv, e, q⟩ := h
  unfold biD at e
  split at e <;> try (rename_i hh; cases hh)
  · obtain ⟨v, w, rfl, h1, h2⟩ := hv.two
    obtain rfl := h1.int
    obtain rfl := h2.int
    cases e
    exact call_min2 hc pins s σ H _ us Q I r ⟨_, _, rfl, q _ F H (.refl fz) (.int _) trivial⟩
  · obtain ⟨v, rfl, h⟩ := hv.one
    obtain ⟨a, vs, rfl, ha, ra⟩ := h.list fz
    split at e
    · rename_i so
      cases e
      obtain ⟨h1, h2, h3⟩ := alikeB_of so
      obtain ⟨u, rfl, ru⟩ := vals1 r
      cases ru
      obtain ⟨its, rv, pl, hz⟩ := I.list (.of ha)
      obtain ⟨as, hr'⟩ := Dp.readsAll I _ _ its ((RpAll.mono fz _ _ ra).dp _ _ h2) rv
      refine PySem.W.min_list_data (I.ok.hd hc) pl.isList hr' h1 (hr.u61 h3) fun i v h' tk bs e1 e2 kp => ?_
      have I' : Inv X pins σ H { s with heap := h', toks := tk } := I.kept kp
      obtain ⟨x, rx, px⟩ := found_rp I I' fz rv ra h2 (by simpa using e1) e2
      exact ⟨x, H, I', rx, q _ F H (.refl fz) px trivial⟩
    · cases e
  · obtain ⟨v, rfl, h⟩ := hv.one
    obtain ⟨a, vs, rfl, ha, ra⟩ := h.tup fz
    split at e
    · rename_i so
      cases e
      obtain ⟨h1, h2, h3⟩ := alikeB_of so
      obtain ⟨u, rfl, ru⟩ := vals1 r
      cases ru
      obtain ⟨its, rv, pl, hz⟩ := I.tuple (fz.seqT ha)
      obtain ⟨as, hr'⟩ := Dp.readsAll I _ _ its ((RpAll.mono fz _ _ ra).dp _ _ h2) rv
      refine PySem.W.min_tuple_data (I.ok.hd hc) (show s.heap.IsTuple a its.toArray from pl) hr' h1 (hr.u61 h3) fun i v h' tk bs e1 e2 kp => ?_
      have I' : Inv X pins σ H { s with heap := h', toks := tk } := I.kept kp
      obtain ⟨x, rx, px⟩ := found_rp I I' fz rv ra h2 (by simpa using e1) e2
      exact ⟨x, H, I', rx, q _ F H (.refl fz) px trivial⟩
    · cases e
  · cases e
theorem bir_max (hc : X.calm = true) (hr : Room k X.A) : CallR X (.builtin "max") (rBi X.kw .max) := by
  intro pins s σ H vs us Q I r h
  obtain ⟨F, ds, rv, fz, hv, e, q⟩ := h
  unfold biD at e
  split at e <;> try (rename_i hh; cases hh)
  · obtain ⟨v, w, rfl, h1, h2⟩ := hv.two
    obtain rfl := h1.int
    obtain rfl := h2.int
    cases e
    exact call_max2 hc pins s σ H _ us Q I r ⟨_, _, rfl, q _ F H (.refl fz) (.int _) trivial⟩
  · obtain ⟨v, rfl, h⟩ := hv.one
    obtain ⟨a, vs, rfl, ha, ra⟩ := h.list fz
    split at e
    · rename_i so
      cases e
      obtain ⟨h1, h2, h3⟩ := alikeB_of so
      obtain ⟨u, rfl, ru⟩ := vals1 r
      cases ru
      obtain ⟨its, rv, pl, hz⟩ := I.list (.of ha)
      obtain ⟨as, hr'⟩ := Dp.readsAll I _ _ its ((RpAll.mono fz _ _ ra).dp _ _ h2) rv
      refine PySem.W.max_list_data (I.ok.hd hc) pl.isList hr' h1 (hr.u61 h3) fun i v h' tk bs e1 e2 kp => ?_
      have I' : Inv X pins σ H { s with heap := h', toks := tk } := I.kept kp
      obtain ⟨x, rx, px⟩ := found_rp I I' fz rv ra h2 (by simpa using e1) e2
      exact ⟨x, H, I', rx, q _ F H (.refl fz) px trivial⟩
    · cases e
  · obtain ⟨v, rfl, h⟩ := hv.one
    obtain ⟨a, vs, rfl, ha, ra⟩ := h.tup fz
    split at e
    · rename_i so
      cases e
      obtain ⟨h1, h2, h3⟩ := alikeB_of so
      obtain ⟨u, rfl, ru⟩ := vals1 r
      cases ru
      obtain ⟨its, rv, pl, hz⟩ := I.tuple (fz.seqT ha)
      obtain ⟨as, hr'⟩ := Dp.readsAll I _ _ its ((RpAll.mono fz _ _ ra).dp _ _ h2) rv
      refine PySem.W.max_tuple_data (I.ok.hd hc) (show s.heap.IsTuple a its.toArray from pl) hr' h1 (hr.u61 h3) fun i v h' tk bs e1 e2 kp => ?_
      have I' : Inv X pins σ H { s with heap := h', toks := tk } := I.kept kp
      obtain ⟨x, rx, px⟩ := found_rp I I' fz rv ra h2 (by simpa using e1) e2
      exact ⟨x, H, I', rx, q _ F H (.refl fz) px trivial⟩
    · cases e
  · cases e
/-! ### isinstance(x, T) -/
def tyN : Ty → String
  | .int => "int"
  | .bool => "bool"
  | .str => "str"
  | .tuple => "tuple"
  | .list => "list"
theorem tyX_of {x : V} {d : D} (fz : Same F H) (h : Lt K F H x d) (hd : isDictD d = false) : ∃ n, TyX K H x (.type n) ∧ ∀ t, kitB n (tyN t) = some (isaD t d) := by
  cases d with
  | none => rw [h.none]; exact ⟨"NoneType", .base .non, fun t => by cases t <;> decide +kernel⟩
  | bool b => rw [h.bool]; exact ⟨"bool", .base (.bl b), fun t => by cases t <;> (simp only [isaD]; decide +kernel)⟩
  | int b => rw [h.int]; exact ⟨"int", .base (.int b), fun t => by cases t <;> (simp only [isaD]; decide +kernel)⟩
  | str b => rw [h.str]; exact ⟨"str", .base (.str b), fun t => by cases t <;> (simp only [isaD]; decide +kernel)⟩
  | list xs =>
    obtain ⟨a, vs, rfl, ha, ra⟩ := h.list fz
    exact ⟨"list", .base (.lst ha), fun t => by cases t <;> (simp only [isaD]; decide +kernel)⟩
  | tuple xs =>
    obtain ⟨a, vs, rfl, ha, ra⟩ := h.tup fz
    refine ⟨"tuple", ?_, fun t => by cases t <;> (simp only [isaD]; decide +kernel)⟩
    rcases ha with ⟨o, ha, _⟩ | ⟨o, its, n, hk, hc, _⟩
    · exact .fTuple (fz _ _ ha)
    · exact .kTuple hk hc
  | dict _ => cases hd
def rIsa (K : KW) (t : Ty) : List V → Hp → VK → Prop := fun vs H Q => ∃ F x d, Same F H ∧ vs = [x, .ty (tyN t)] ∧ Lt K F H x d ∧ isDictD d = false ∧ Q (.bl (isaD t d)) H
theorem bir_isa (t : Ty) : CallR X (.builtin "isinstance") (rIsa X.kw t) := by
  intro pins s σ H vs us Q I r h
  obtain ⟨F, x, d, fz, rfl, hx, hd, q⟩ := h
  obtain ⟨n, ty, e⟩ := tyX_of fz hx hd
  exact call_isi pins s σ H _ us Q I r ⟨x, _, _, _, _, rfl, .ty _, ty, kit_ty (e t), q⟩

/-! ### methods that change a list -/
def rMut (K : KW) (m : Mth) : V → List V → Hp → VK → Prop := fun x vs H Q => ∃ F a ob ds d ob', Same F H ∧ x = .ref a ∧ ObR K F H a ob ∧ (if m = .append ∨ m = .insert then RpAll K F vs ds else LtAll K F H vs ds) ∧ mutO m ob ds = some (d, ob') ∧
  ∀ v o', ObR K F (upd H a o') a ob' → Rp K F v d → Q v (upd H a o')
theorem RpAll.one {vs : List V} {d : D} (h : RpAll K F vs [d]) : ∃ v, vs = [v] ∧ Rp K F v d := by
  cases h with
  | cons h t => cases t; exact ⟨_, rfl, h⟩
theorem RpAll.two {vs : List V} {d e : D} (h : RpAll K F vs [d, e]) : ∃ v w, vs = [v, w] ∧ Rp K F v d ∧ Rp K F w e := by
  cases h with
  | cons h t => cases t with | cons h' t => cases t; exact ⟨_, _, rfl, h, h'⟩
theorem mtr_append : MtR X "list.append" (rMut X.kw .append) := by
  intro pins s σ H x xs v us Q I rx rv h
  obtain ⟨F, a, ob, ds, d, ob', fz, rfl, ha, hv, e, q⟩ := h
  rw [if_pos (.inl rfl)] at hv
  unfold mutO at e
  split at e <;> try (rename_i hh; cases hh)
  · obtain ⟨vs, ha, ra⟩ := ha
    obtain ⟨y, rfl, hy⟩ := hv.one
    split at e
    · rename_i hz
      cases e
      exact mt_append pins s σ H _ _ v us Q I rx rv ⟨a, vs, y, rfl, rfl, ha, by rw [ra.length]; exact hz, q _ _ ⟨_, upd_same, ra.append (.cons hy .nil)⟩ .non⟩
    · cases e
  · cases e
theorem mtr_insert : MtR X "list.insert" (rMut X.kw .insert) := by
  intro pins s σ H x xs v us Q I rx rv h
  obtain ⟨F, a, ob, ds, d, ob', fz, rfl, ha, hv, e, q⟩ := h
  rw [if_pos (.inr rfl)] at hv
  unfold mutO at e
  split at e <;> try (rename_i hh; cases hh)
  · obtain ⟨vs, ha, ra⟩ := ha
    obtain ⟨w, y, rfl, hw, hy⟩ := hv.two
    cases hw
    split at e
    · rename_i hz
      cases e
      exact mt_insert pins s σ H _ _ v us Q I rx rv ⟨a, vs, _, y, rfl, rfl, ha, by rw [ra.length]; exact hz.1, hz.2.1, hz.2.2, q _ _ ⟨_, upd_same, ((ra.take _).append (.cons hy .nil)).append (ra.drop _)⟩ .non⟩
    · cases e
  · cases e
theorem mtr_extend : MtR X "list.extend" (rMut X.kw .extend) := by
  intro pins s σ H x xs v us Q I rx rv h
  obtain ⟨F, a, ob, ds, d, ob', fz, rfl, ha, hv, e, q⟩ := h
  rw [if_neg (by simp)] at hv
  unfold mutO at e
  split at e <;> try (rename_i hh; cases hh)
  · obtain ⟨vs, ha, ra⟩ := ha
    obtain ⟨y, rfl, hy⟩ := hv.one
    obtain ⟨b, ws, rfl, hb, rb⟩ := hy.list fz
    split at e
    · rename_i hz
      cases e
      exact mt_extend pins s σ H _ _ v us Q I rx rv ⟨a, b, vs, ws, rfl, rfl, ha, hb, by rw [ra.length, rb.length]; exact hz, q _ _ ⟨_, upd_same, ra.append rb⟩ .non⟩
    · cases e
  · cases e
theorem mtr_pop : MtR X "list.pop" (rMut X.kw .pop) := by
  intro pins s σ H x xs v us Q I rx rv h
  obtain ⟨F, a, ob, ds, d, ob', fz, rfl, ha, hv, e, q⟩ := h
  rw [if_neg (by simp)] at hv
  unfold mutO at e
  split at e <;> try (rename_i hh; cases hh)
  · obtain ⟨vs, ha, ra⟩ := ha
    obtain rfl := hv.nil_
    rename_i xs
    cases e2 : xs[xs.length - 1]? with
    | none => rw [e2] at e; cases e
    | some y =>
      rw [e2] at e
      cases e
      obtain ⟨w, e3, e4⟩ := ra.get e2
      exact mt_pop pins s σ H _ _ v us Q I rx rv ⟨a, vs, w, rfl, rfl, ha, by rw [ra.length]; exact e3, q _ _ ⟨_, upd_same, ra.dropLast⟩ e4⟩
  · cases e
theorem mtr_popAt : MtR X "list.pop" (rMut X.kw .popAt) := by
  intro pins s σ H x xs v us Q I rx rv h
  obtain ⟨F, a, ob, ds, d, ob', fz, rfl, ha, hv, e, q⟩ := h
  rw [if_neg (by simp)] at hv
  unfold mutO at e
  split at e <;> try (rename_i hh; cases hh)
  · obtain ⟨vs, ha, ra⟩ := ha
    obtain ⟨y, rfl, hy⟩ := hv.one
    obtain rfl := hy.int
    rename_i xs i
    split at e
    · rename_i hz
      cases e2 : ixN xs.length i with
      | none => rw [e2] at e; cases e
      | some j =>
        rw [e2] at e
        have e' : (xs[j]?.map fun x => (x, Ob.lst (xs.eraseIdx j))) = some (d, ob') := e
        cases e5 : xs[j]? with
        | none => rw [e5] at e'; cases e'
        | some z =>
          rw [e5] at e'
          cases e'
          obtain ⟨w, e3, e4⟩ := ra.get e5
          refine mt_popAt pins s σ H _ _ v us Q I rx rv ⟨a, vs, i, j, w, rfl, rfl, ha, hz.1, hz.2, ?_, e3, q _ _ ⟨_, upd_same, ra.eraseIdx j⟩ e4⟩
          rw [ra.length]
          exact (ixN_seq e2).1
    · cases e
  · cases e
theorem mtr_reverse : MtR X "list.reverse" (rMut X.kw .reverse) := by
  intro pins s σ H x xs v us Q I rx rv h
  obtain ⟨F, a, ob, ds, d, ob', fz, rfl, ha, hv, e, q⟩ := h
  rw [if_neg (by simp)] at hv
  unfold mutO at e
  split at e <;> try (rename_i hh; cases hh)
  · obtain ⟨vs, ha, ra⟩ := ha
    obtain rfl := hv.nil_
    cases e
    exact mt_reverse pins s σ H _ _ v us Q I rx rv ⟨a, vs, rfl, rfl, ha, q _ _ ⟨_, upd_same, ra.reverse⟩ .non⟩
  · cases e
theorem mtr_remove (hr : Room k X.A) : MtR X "list.remove" (rMut X.kw .remove) := by
  intro pins s σ H x xs v us Q I rx rv h
  obtain ⟨F, a, ob, ds, d, ob', fz, rfl, ha, hv, e, q⟩ := h
  rw [if_neg (by simp)] at hv
  unfold mutO at e
  split at e <;> try (rename_i hh; cases hh)
  · obtain ⟨vs, ha, ra⟩ := ha
    obtain ⟨y, rfl, hy⟩ := hv.one
    rename_i xs y'
    split at e
    · rename_i hz
      obtain ⟨h1, h2, h3⟩ := and3 hz
      cases e2 : PySem.SeqAt.dataPlace xs y' with
      | none => rw [e2] at e; cases e
      | some j =>
        rw [e2] at e
        cases e
        cases rx
        obtain ⟨u, rfl, ru⟩ := vals1 rv
        obtain ⟨its, n, r, ho, hl⟩ := I.lst ha
        obtain ⟨as, r1⟩ := Dp.readsAll I _ _ its ((RpAll.mono fz _ _ ra).dp _ _ h1) r
        obtain ⟨bs, r2⟩ := Dp.reads I _ _ _ (hy.dp fz h2) ru
        have hlen := r.length
        refine PySem.SeqAt.remove_list_data (vs := its.toArray) ⟨_, ho, rfl, n, rfl⟩ (by simpa using r1) r2 h1 h2 (hr.u61 (of_decide_eq_true h3)) e2 (by rw [List.size_toArray]; omega) ?_
        have I' : Inv X pins σ (upd H a (.lst (vs.eraseIdx j))) { s with heap := s.heap.update a (Obj.mapSeq fun ys => ys.eraseIdxIfInBounds j) } :=
          I.lset (t' := s.toks) (f := fun ys => ys.eraseIdxIfInBounds j) (its' := its.eraseIdx j) ha ho (by simp) (by
            have : ∀ {vs : List V} {us : List Value} (i : Nat), Vals vs us → Vals (vs.eraseIdx i) (us.eraseIdx i) := by
              intro vs us i h
              induction h generalizing i with
              | nil => exact .nil
              | cons r t ih => cases i with
                | zero => exact t
                | succ i => exact .cons r (ih i)
            exact this j r) (by have := List.length_eraseIdx_le vs j; omega)
        exact ⟨.non, _, I', rfl, q _ _ ⟨_, upd_same, ra.eraseIdx j⟩ .non⟩
    · cases e
  · cases e
/-! ### methods that change nothing -/
def rPure (K : KW) (m : Mth) (kd : Kd) : V → List V → Hp → VK → Prop := fun x vs H Q => ∃ F r ds rv, Same F H ∧ kindR r = kd ∧ Lw K F H x r ∧ LtAll K F H vs ds ∧ pureM m r ds = some rv ∧
  ∀ v F' H', Ext F H F' H' → RvR K F' H' v rv → Frs H v rv → Q v H'
theorem lw_list {x : V} {r : RV} {xs : List D} (fz : Same F H) (h : Lw K F H x r) (hk : kindR r = .list) (e : listR r = some xs) : Lt K F H x (.list xs) := by
  unfold listR at e
  split at e
  · cases e; exact h.lt rfl
  · cases e; exact h.lt rfl
  · cases hk
  · cases e
theorem lw_tupl {x : V} {r : RV} {xs : List D} (fz : Same F H) (h : Lw K F H x r) (hk : kindR r = .tuple) (e : listR r = some xs) : Lt K F H x (.tuple xs) := by
  unfold listR at e
  split at e
  · cases hk
  · cases hk
  · cases e; exact h.lt rfl
  · cases e
theorem mtr_index (hr : Room k X.A) : MtR X "list.index" (rPure X.kw .index .list) := by
  intro pins s σ H x xs v us Q I rx rv h
  obtain ⟨F, r, ds, rv', fz, hkd, hx, hv, e, q⟩ := h
  have hds : ∃ y, ds = [y] := by
    match ds, e with
    | [y], _ => exact ⟨y, rfl⟩
    | [], e => cases r with | val d => cases d <;> cases e | new o => cases o <;> cases e
    | _ :: _ :: _, e => cases r with | val d => cases d <;> cases e | new o => cases o <;> cases e
  obtain ⟨y, rfl⟩ := hds
  have e : ((listR r).bind fun ys => (if PyData.plainAll ys && y.plain && decide (min (PyData.depthAll ys) y.depth ≤ 60) then (PySem.SeqAt.dataPlace ys y).map fun (j : Nat) => RV.val (.int j) else none)) = some rv' := e
  · obtain ⟨w, rfl, hy⟩ := hv.one
    cases e1 : listR r with
    | none => rw [e1] at e; cases e
    | some ys =>
      rw [e1] at e
      have e : (if PyData.plainAll ys && y.plain && decide (min (PyData.depthAll ys) y.depth ≤ 60) then (PySem.SeqAt.dataPlace ys y).map fun (j : Nat) => RV.val (.int j) else none) = some rv' := e
      split at e
      · rename_i hz
        obtain ⟨h1, h2, h3⟩ := and3 hz
        cases e2 : PySem.SeqAt.dataPlace ys y with
        | none => rw [e2] at e; cases e
        | some j =>
          rw [e2] at e
          cases e
          obtain ⟨a, vs, rfl, ha, ra⟩ := (lw_list fz hx hkd e1).list fz
          cases rx
          obtain ⟨u, rfl, ru⟩ := vals1 rv
          obtain ⟨its, n, r, ho, hl⟩ := I.lst ha
          obtain ⟨as, r1⟩ := Dp.readsAll I _ _ its ((RpAll.mono fz _ _ ra).dp _ _ h1) r
          obtain ⟨bs, r2⟩ := Dp.reads I _ _ _ (hy.dp fz h2) ru
          have hlen := r.length
          have hsl := sizeLine_eq
          have r1' : ReadsAll s.heap its.toArray.toList ys as := by simpa using r1
          obtain ⟨hj, hit, hno⟩ := PySem.SeqAt.hit_at r1' h1 e2
          have hj' : j < its.length := by simpa using hj
          exact call_meets PySem.F.slot_list_index ⟨_, ho, rfl⟩ PySem.F.entry_list_index (PySem.F.args_list_index_2 _ _)
            (PySem.SeqAt.list_indexAt a its.toArray n none #[] u _ j hj (by omega) hit hno) ⟨ho, PySem.SeqAt.items_plain r1' r2 h1 h2 (hr.u61 (of_decide_eq_true h3)), ⟨.int _, H, I.tok _, ⟨_, rfl⟩, q _ F H (.refl fz) (.int _) trivial⟩⟩
      · cases e
theorem mtr_count (hr : Room k X.A) : MtR X "list.count" (rPure X.kw .count .list) := by
  intro pins s σ H x xs v us Q I rx rv h
  obtain ⟨F, r, ds, rv', fz, hkd, hx, hv, e, q⟩ := h
  have hds : ∃ y, ds = [y] := by
    match ds, e with
    | [y], _ => exact ⟨y, rfl⟩
    | [], e => cases r with | val d => cases d <;> cases e | new o => cases o <;> cases e
    | _ :: _ :: _, e => cases r with | val d => cases d <;> cases e | new o => cases o <;> cases e
  obtain ⟨y, rfl⟩ := hds
  have e : ((listR r).bind fun ys => (if PyData.plainAll ys && y.plain && decide (min (PyData.depthAll ys) y.depth ≤ 60) then some (RV.val (.int (ys.countP fun z => PyData.eqv z y : Nat))) else none)) = some rv' := e
  · obtain ⟨w, rfl, hy⟩ := hv.one
    cases e1 : listR r with
    | none => rw [e1] at e; cases e
    | some ys =>
      rw [e1] at e
      have e : (if PyData.plainAll ys && y.plain && decide (min (PyData.depthAll ys) y.depth ≤ 60) then some (RV.val (.int (ys.countP fun z => PyData.eqv z y : Nat))) else none) = some rv' := e
      split at e
      · rename_i hz
        obtain ⟨h1, h2, h3⟩ := and3 hz
        cases e
        obtain ⟨a, vs, rfl, ha, ra⟩ := (lw_list fz hx hkd e1).list fz
        cases rx
        obtain ⟨u, rfl, ru⟩ := vals1 rv
        obtain ⟨its, n, r, ho, hl⟩ := I.lst ha
        obtain ⟨as, r1⟩ := Dp.readsAll I _ _ its ((RpAll.mono fz _ _ ra).dp _ _ h1) r
        obtain ⟨bs, r2⟩ := Dp.reads I _ _ _ (hy.dp fz h2) ru
        refine PySem.SeqAt.count_list_data (vs := its.toArray) ⟨_, ho, rfl, n, rfl⟩ (by simpa using r1) r2 h1 h2 (hr.u61 (of_decide_eq_true h3)) ?_
        exact ⟨.int _, H, I.tok _, ⟨_, rfl⟩, q _ F H (.refl fz) (.int _) trivial⟩
      · cases e
theorem mtr_indexT (hr : Room k X.A) : MtR X "tuple.index" (rPure X.kw .index .tuple) := by
  intro pins s σ H x xs v us Q I rx rv h
  obtain ⟨F, r, ds, rv', fz, hkd, hx, hv, e, q⟩ := h
  have hds : ∃ y, ds = [y] := by
    match ds, e with
    | [y], _ => exact ⟨y, rfl⟩
    | [], e => cases r with | val d => cases d <;> cases e | new o => cases o <;> cases e
    | _ :: _ :: _, e => cases r with | val d => cases d <;> cases e | new o => cases o <;> cases e
  obtain ⟨y, rfl⟩ := hds
  have e : ((listR r).bind fun ys => (if PyData.plainAll ys && y.plain && decide (min (PyData.depthAll ys) y.depth ≤ 60) then (PySem.SeqAt.dataPlace ys y).map fun (j : Nat) => RV.val (.int j) else none)) = some rv' := e
  · obtain ⟨w, rfl, hy⟩ := hv.one
    cases e1 : listR r with
    | none => rw [e1] at e; cases e
    | some ys =>
      rw [e1] at e
      have e : (if PyData.plainAll ys && y.plain && decide (min (PyData.depthAll ys) y.depth ≤ 60) then (PySem.SeqAt.dataPlace ys y).map fun (j : Nat) => RV.val (.int j) else none) = some rv' := e
      split at e
      · rename_i hz
        obtain ⟨h1, h2, h3⟩ := and3 hz
        cases e2 : PySem.SeqAt.dataPlace ys y with
        | none => rw [e2] at e; cases e
        | some j =>
          rw [e2] at e
          cases e
          obtain ⟨a, vs, rfl, ha, ra⟩ := (lw_tupl fz hx hkd e1).tup fz
          cases rx
          obtain ⟨u, rfl, ru⟩ := vals1 rv
          obtain ⟨its, r, ⟨⟨cls, dd, data, sl⟩, ho, hc, n, hd⟩, hl⟩ := I.tuple (fz.seqT ha)
          dsimp only at hc hd
          subst hc hd
          obtain ⟨as, r1⟩ := Dp.readsAll I _ _ its ((RpAll.mono fz _ _ ra).dp _ _ h1) r
          obtain ⟨bs, r2⟩ := Dp.reads I _ _ _ (hy.dp fz h2) ru
          have hlen := r.length
          have hsl := sizeLine_eq
          have r1' : ReadsAll s.heap its.toArray.toList ys as := by simpa using r1
          obtain ⟨hj, hit, hno⟩ := PySem.SeqAt.hit_at r1' h1 e2
          have hj' : j < its.length := by simpa using hj
          exact call_meets PySem.F.slot_tuple_index ⟨_, ho, rfl⟩ PySem.F.entry_tuple_index (PySem.F.args_tuple_index_2 _ _)
            (TI.tuple_indexAt a its.toArray n dd sl u _ j hj hit hno) ⟨ho, PySem.SeqAt.items_plain r1' r2 h1 h2 (hr.u61 (of_decide_eq_true h3)), ⟨.int _, H, I.tok _, ⟨_, rfl⟩, q _ F H (.refl fz) (.int _) trivial⟩⟩
      · cases e
theorem mtr_countT (hr : Room k X.A) : MtR X "tuple.count" (rPure X.kw .count .tuple) := by
  intro pins s σ H x xs v us Q I rx rv h
  obtain ⟨F, r, ds, rv', fz, hkd, hx, hv, e, q⟩ := h
  have hds : ∃ y, ds = [y] := by
    match ds, e with
    | [y], _ => exact ⟨y, rfl⟩
    | [], e => cases r with | val d => cases d <;> cases e | new o => cases o <;> cases e
    | _ :: _ :: _, e => cases r with | val d => cases d <;> cases e | new o => cases o <;> cases e
  obtain ⟨y, rfl⟩ := hds
  have e : ((listR r).bind fun ys => (if PyData.plainAll ys && y.plain && decide (min (PyData.depthAll ys) y.depth ≤ 60) then some (RV.val (.int (ys.countP fun z => PyData.eqv z y : Nat))) else none)) = some rv' := e
  · obtain ⟨w, rfl, hy⟩ := hv.one
    cases e1 : listR r with
    | none => rw [e1] at e; cases e
    | some ys =>
      rw [e1] at e
      have e : (if PyData.plainAll ys && y.plain && decide (min (PyData.depthAll ys) y.depth ≤ 60) then some (RV.val (.int (ys.countP fun z => PyData.eqv z y : Nat))) else none) = some rv' := e
      split at e
      · rename_i hz
        obtain ⟨h1, h2, h3⟩ := and3 hz
        cases e
        obtain ⟨a, vs, rfl, ha, ra⟩ := (lw_tupl fz hx hkd e1).tup fz
        cases rx
        obtain ⟨u, rfl, ru⟩ := vals1 rv
        obtain ⟨its, r, pt, hl⟩ := I.tuple (fz.seqT ha)
        obtain ⟨as, r1⟩ := Dp.readsAll I _ _ its ((RpAll.mono fz _ _ ra).dp _ _ h1) r
        obtain ⟨bs, r2⟩ := Dp.reads I _ _ _ (hy.dp fz h2) ru
        refine PySem.SeqAt.count_tuple_data (vs := its.toArray) (show s.heap.IsTuple a its.toArray from pt) (by simpa using r1) r2 h1 h2 (hr.u61 (of_decide_eq_true h3)) ?_
        exact ⟨.int _, H, I.tok _, ⟨_, rfl⟩, q _ F H (.refl fz) (.int _) trivial⟩
      · cases e
theorem mtr_get (hr : Room k X.A) : MtR X "dict.get" (rPure X.kw .get .dict) := by
  intro pins s σ H x xs v us Q I rx rv h
  obtain ⟨F, r, ds, rv', fz, hkd, hx, hv, e, q⟩ := h
  unfold pureM at e
  split at e <;> first | (rename_i hh; cases hh; done) | skip
  all_goals first | (cases e; done) | skip
  rename_i kvs kd _
  split at e
  · rename_i hk
    cases e
    obtain ⟨w, rfl, hy⟩ := hv.one
    obtain ⟨a, rfl, vs, ha, rk⟩ := hx
    obtain ⟨k', hk'⟩ := Option.isSome_iff_exists.mp hk
    obtain ⟨rfl, rfl⟩ := kV_of hy hk'
    cases rx
    obtain ⟨u, rfl, ru⟩ := vals1 rv
    refine d_get1 (by have := hr.un; omega) I (.k ha) ru fun w' s' I' r' => ⟨_, H, I', r', q _ F H (.refl fz) ?_ trivial⟩
    obtain ⟨g1, g2⟩ := dGet_of (k := k') rk
    cases hg : dGet kvs (kD k') with
    | none => rw [hg] at g2; rw [Option.isSome_eq_false_iff.mp g2.symm |> Option.isNone_iff_eq_none.mp]; exact .non
    | some d => obtain ⟨v1, e1, e2⟩ := g1 d hg; rw [e1]; exact e2
  · split at e
    · rename_i hk
      cases e
      rw [Bool.and_eq_true, List.isEmpty_iff] at hk
      obtain ⟨hk, rfl⟩ := hk
      obtain ⟨c, hc⟩ := Option.isSome_iff_exists.mp hk
      obtain ⟨w, rfl, hy⟩ := hv.one
      obtain ⟨a, rfl, vs, ha, rk⟩ := hx
      cases rk
      cases rx
      obtain ⟨u, rfl, ru⟩ := vals1 rv
      obtain ⟨hsys, hm⟩ := dic_empty I ha
      exact t_get1 (by have := hr.un; omega) I fz hsys hm hy ru hc fun s' I' => ⟨.non, H, I', rfl, q _ F H (.refl fz) .non trivial⟩
    · cases e
  rename_i kvs kd _
  split at e
  · rename_i hk
    cases e
    obtain ⟨c, hc⟩ := Option.isSome_iff_exists.mp hk
    obtain ⟨w, rfl, hy⟩ := hv.one
    obtain ⟨a, rfl, hsys, _, xs, ha, rk⟩ := hx
    cases rx
    obtain ⟨u, rfl, ru⟩ := vals1 rv
    have hm := dic_at I fz ha rk
    obtain ⟨w, g1, g2⟩ := t_getD (v := .non) (u := .none) (z := .none) rk hc rfl .non
    exact t_get1 (by have := hr.un; omega) I fz hsys hm hy ru hc fun s' I' => ⟨w, H, I', g1, q _ F H (.refl fz) g2 trivial⟩
  · cases e
theorem Lt.flat {v : V} {d : D} (h : Lt K F H v d) (h1 : isListD d = false) (h2 : isDictD d = false) : Rp K F v d := by
  rcases h with h | ⟨xs, rfl, _⟩ | ⟨_, _, _, _, rfl, _⟩
  · exact h
  · cases h1
  · cases h2
theorem mtr_get2 (hr : Room k X.A) : MtR X "dict.get" (rPure X.kw .get2 .dict) := by
  intro pins s σ H x xs v us Q I rx rv h
  obtain ⟨F, r, ds, rv', fz, hkd, hx, hv, e, q⟩ := h
  unfold pureM at e
  split at e <;> first | (rename_i hh; cases hh; done) | skip
  all_goals first | (cases e; done) | skip
  · rename_i kvs kd d _
    cases hv with
    | cons hy hv =>
      cases hv with
      | cons hz hv =>
        cases hv
        obtain ⟨a, rfl, vs, ha, rk⟩ := hx
        cases rx
        cases rv with
        | cons ru rv =>
          cases rv with
          | cons rz rv =>
            cases rv
            split at e
            · rename_i hk
              cases e
              rw [Bool.and_eq_true, Bool.and_eq_true, Bool.not_eq_true', Bool.not_eq_true'] at hk
              obtain ⟨k', hk'⟩ := Option.isSome_iff_exists.mp hk.1.1
              obtain ⟨rfl, rfl⟩ := kV_of hy hk'
              have hz := hz.flat hk.1.2 hk.2
              refine d_get2 (by have := hr.un; omega) I (.k ha) ru rz fun w' s' I' r' => ⟨_, H, I', r', q _ F H (.refl fz) ?_ trivial⟩
              obtain ⟨g1, g2⟩ := dGet_of (k := k') rk
              cases hg : dGet kvs (kD k') with
              | none => rw [hg] at g2; rw [Option.isSome_eq_false_iff.mp g2.symm |> Option.isNone_iff_eq_none.mp]; exact hz
              | some d => obtain ⟨v1, e1, e2⟩ := g1 d hg; rw [e1]; exact e2
            · split at e
              · rename_i hk
                cases e
                rw [Bool.and_eq_true, Bool.and_eq_true, Bool.and_eq_true, Bool.not_eq_true', Bool.not_eq_true', List.isEmpty_iff] at hk
                obtain ⟨⟨⟨hk, rfl⟩, h1⟩, h2⟩ := hk
                obtain ⟨c, hc⟩ := Option.isSome_iff_exists.mp hk
                cases rk
                obtain ⟨hsys, hm⟩ := dic_empty I ha
                exact t_get2 (by have := hr.un; omega) I fz hsys hm hy ru hc fun s' I' => ⟨_, H, I', rz, q _ F H (.refl fz) (hz.flat h1 h2) trivial⟩
              · cases e
  · rename_i kvs kd d _
    split at e
    · rename_i hk
      cases e
      rw [Bool.and_eq_true, Bool.and_eq_true, Bool.not_eq_true', Bool.not_eq_true'] at hk
      obtain ⟨c, hc⟩ := Option.isSome_iff_exists.mp hk.1.1
      cases hv with
      | cons hy hv =>
        cases hv with
        | cons hz hv =>
          cases hv
          obtain ⟨a, rfl, hsys, _, xs, ha, rk⟩ := hx
          cases rx
          cases rv with
          | cons ru rv =>
            cases rv with
            | cons rz rv =>
              cases rv
              have hm := dic_at I fz ha rk
              obtain ⟨w, g1, g2⟩ := t_getD rk hc rz (hz.flat hk.1.2 hk.2)
              exact t_get2 (by have := hr.un; omega) I fz hsys hm hy ru hc fun s' I' => ⟨w, H, I', g1, q _ F H (.refl fz) g2 trivial⟩
    · cases e
end
end Ev
/-! names and operands in a heap; readings over the evaluator -/
namespace Ev
open PySem PySem.Spec PyProof.Rows L2
abbrev S2 := L2.St
def isOwn : Slot → Bool
  | .ow _ => true
  | .pa _ => true
  | _ => false
def OwnAt (σ : S2) (e : En) (i : Nat) (a : Addr) : Prop := ∃ s, e[i]? = some s ∧ isOwn s = true ∧ σ[i]? = some (some (.ref a))
def OwAt (σ : S2) (e : En) (i : Nat) (a : Addr) : Prop := ∃ o, e[i]? = some (.ow o) ∧ σ[i]? = some (some (.ref a))
def SlR (K : KW) (F H : Hp) (w : Option (Option V)) : Slot → Prop
  | .no => True
  | .sh d => ∃ v, w = some (some v) ∧ Rp K F v d
  | .ow o => ∃ a, w = some (some (.ref a)) ∧ F a = none ∧ ObR K F H a o
  | .pa o => ∃ a, w = some (some (.ref a)) ∧ F a = none ∧ ObR K F H a o
structure RR (K : KW) (F H : Hp) (σ : S2) (e : En) : Prop where
  fz : Same F H
  len : e.length = σ.length
  at_ : ∀ (i : Nat) (s : Slot), e[i]? = some s → SlR K F H (σ[i]?) s
  dis : ∀ i j a, OwnAt σ e i a → OwnAt σ e j a → i = j
structure Stp (σ : S2) (F H : Hp) (e : En) (σ' : S2) (F' H' : Hp) (e' : En) : Prop where
  fr : Same F F'
  keep : ∀ b o, H b = some o → (∀ i, ¬ OwnAt σ e i b) → H' b = some o
  nw : ∀ b o, F' b = some o → (∃ o', F b = some o') ∨ H b = none ∨ ∃ i, OwnAt σ e i b
  own : ∀ i b, OwnAt σ' e' i b → (∃ j, OwnAt σ e j b) ∨ H b = none
  pas : ∀ (i : Nat) (o : Ob), e'[i]? = some (.pa o) → ∃ o' : Ob, e[i]? = some (.pa o') ∧ σ'[i]? = σ[i]?
  ex : ∀ b o, H b = some o → ∃ o', H' b = some o'
  ows : ∀ i b, OwAt σ' e' i b → (∃ j, OwAt σ e j b) ∨ H b = none
section
variable {K : KW} {F F' F2 H H' H2 : Hp} {σ σ' σ2 : S2} {e e' e2 : En} {v : V} {d : D} {a : Addr}
theorem Stp.refl : Stp σ F H e σ F H e := ⟨.refl _, fun _ _ h _ => h, fun b o h => .inl ⟨o, h⟩, fun i b h => .inl ⟨i, h⟩, fun i o h => ⟨o, h, rfl⟩, fun _ o h => ⟨o, h⟩, fun i b h => .inl ⟨i, h⟩⟩
theorem Stp.free (s : Stp σ F H e σ' F' H' e') {b : Addr} (h : H' b = none) : H b = none := by
  cases q : H b with
  | none => rfl
  | some o => obtain ⟨o', h'⟩ := s.ex b o q; rw [h] at h'; cases h'
theorem Stp.trans (s : Stp σ F H e σ' F' H' e') (t : Stp σ' F' H' e' σ2 F2 H2 e2) : Stp σ F H e σ2 F2 H2 e2 where
  fr := s.fr.trans t.fr
  keep := fun b o h n => t.keep b o (s.keep b o h n) fun i hi => by
    rcases s.own i b hi with ⟨j, hj⟩ | q
    · exact n j hj
    · rw [h] at q; cases q
  nw := fun b o h => by
    rcases t.nw b o h with ⟨o', q⟩ | q | ⟨i, q⟩
    · exact s.nw b o' q
    · exact .inr (.inl (s.free q))
    · rcases s.own i b q with q | q
      · exact .inr (.inr q)
      · exact .inr (.inl q)
  own := fun i b h => by
    rcases t.own i b h with ⟨j, q⟩ | q
    · exact s.own j b q
    · exact .inr (s.free q)
  ows := fun i b h => by
    rcases t.ows i b h with ⟨j, q⟩ | q
    · exact s.ows j b q
    · exact .inr (s.free q)
  pas := fun i o h => by
    obtain ⟨o', q, r⟩ := t.pas i o h
    obtain ⟨o2, q2, r2⟩ := s.pas i o' q
    exact ⟨o2, q2, r.trans r2⟩
  ex := fun b o h => by
    obtain ⟨o', q⟩ := s.ex b o h
    exact t.ex b o' q
theorem RR.own_some (r : RR K F H σ e) {i : Nat} (h : OwnAt σ e i a) : F a = none ∧ ∃ o, H a = some o := by
  obtain ⟨s, h1, h2, h3⟩ := h
  have := r.at_ i s h1
  cases s with
  | no => cases h2
  | sh d => cases h2
  | ow o =>
    obtain ⟨b, e1, e2, e3⟩ := this
    rw [h3] at e1; cases e1
    exact ⟨e2, e3.some_⟩
  | pa o =>
    obtain ⟨b, e1, e2, e3⟩ := this
    rw [h3] at e1; cases e1
    exact ⟨e2, e3.some_⟩
/-- behind an operation that changes nothing that stands -/
theorem RR.ext (r : RR K F H σ e) (x : Ext F H F' H') : RR K F' H' σ e where
  fz := x.fz
  len := r.len
  dis := r.dis
  at_ := fun i s h => by
    have own : ∀ {o : Ob} {a : Addr}, isOwn s = true → σ[i]? = some (some (.ref a)) → F a = none → ObR K F H a o → F' a = none ∧ ObR K F' H' a o := fun {o a} hs e1 e2 e3 => by
      obtain ⟨ho, e4⟩ := e3.some_
      refine ⟨?_, e3.mono x.fr ((x.keep _ _ e4).trans e4.symm)⟩
      cases q : F' a with
      | none => rfl
      | some o' =>
        rcases x.nw a o' q with q | q
        · rw [e2] at q; cases q
        · rw [e4] at q; cases q
    have := r.at_ i s h
    cases s with
    | no => trivial
    | sh d => obtain ⟨v, e1, e2⟩ := this; exact ⟨v, e1, Rp.mono x.fr _ _ e2⟩
    | ow o => obtain ⟨a, e1, e2, e3⟩ := this; exact ⟨a, e1, own rfl e1 e2 e3⟩
    | pa o => obtain ⟨a, e1, e2, e3⟩ := this; exact ⟨a, e1, own rfl e1 e2 e3⟩
theorem Ext.stp (x : Ext F H F' H') : Stp σ F H e σ F' H' e :=
  ⟨x.fr, fun b o h _ => x.keep b o h, fun b o h => (x.nw b o h).elim (fun q => .inl ⟨o, q⟩) fun q => .inr (.inl q), fun i b h => .inl ⟨i, h⟩, fun i o h => ⟨o, h, rfl⟩, fun b o h => ⟨o, x.keep b o h⟩, fun i b h => .inl ⟨i, h⟩⟩

/-! ### operands -/
def OR (K : KW) (F H : Hp) (σ : S2) (e : En) (v : V) : Opd → Prop
  | .val d => Rp K F v d
  | .new o => ∃ a, v = .ref a ∧ F a = none ∧ (∀ i, ¬ OwnAt σ e i a) ∧ ObR K F H a o
  | .slot i => σ[i]? = some (some v)
def FrO (H : Hp) (v : V) : Opd → Prop
  | .new _ => ∀ a, v = .ref a → H a = none
  | _ => True
theorem FrO.back (s : Stp σ F H e σ' F' H' e') {o : Opd} (h : FrO H' v o) : FrO H v o := by
  cases o with
  | val d => trivial
  | slot i => trivial
  | new o => exact fun a q => s.free (h a q)
theorem OR.step {o : Opd} (h : OR K F H σ e v o) (s : Stp σ F H e σ F' H' e') : OR K F' H' σ e' v o := by
  cases o with
  | val d => exact Rp.mono s.fr _ _ h
  | slot i => exact h
  | new o =>
    obtain ⟨a, rfl, h1, h2, h3⟩ := h
    obtain ⟨ho, h4⟩ := h3.some_
    refine ⟨a, rfl, ?_, fun i hi => ?_, h3.mono s.fr ((s.keep _ _ h4 h2).trans h4.symm)⟩
    · cases q : F' a with
      | none => rfl
      | some o' =>
        rcases s.nw a o' q with ⟨o2, q⟩ | q | ⟨i, q⟩
        · rw [h1] at q; cases q
        · rw [h4] at q; cases q
        · exact absurd q (h2 i)
    · rcases s.own i a hi with ⟨j, q⟩ | q
      · exact h2 j q
      · rw [h4] at q; cases q
theorem vw_lw {o : Opd} {r : RV} (R : RR K F H σ e) (h : OR K F H σ e v o) (q : vw o e = some r) : Lw K F H v r := by
  cases o with
  | val d => cases q; exact h
  | new o =>
    cases q
    obtain ⟨a, rfl, _, _, h3⟩ := h
    exact ⟨a, rfl, h3⟩
  | slot i =>
    have h : σ[i]? = some (some v) := h
    cases hs : e[i]? with
    | none => simp [vw, hs] at q
    | some sl =>
      have := R.at_ i sl hs
      cases sl with
      | no => simp [vw, hs] at q
      | sh d =>
        simp only [vw, hs, Option.some.injEq] at q
        subst q
        obtain ⟨w, e1, e2⟩ := this
        rw [h] at e1; cases e1; exact e2
      | ow d =>
        simp only [vw, hs, Option.some.injEq] at q
        subst q
        obtain ⟨a, e1, e2, e3⟩ := this
        rw [h] at e1; cases e1; exact ⟨a, rfl, e3⟩
      | pa d =>
        simp only [vw, hs, Option.some.injEq] at q
        subst q
        obtain ⟨a, e1, e2, e3⟩ := this
        rw [h] at e1; cases e1; exact ⟨a, rfl, e3⟩
theorem rd_lt {o : Opd} (R : RR K F H σ e) (h : OR K F H σ e v o) (q : (vw o e).bind RV.d = some d) : Lt K F H v d := by
  cases q' : vw o e with
  | none => rw [q'] at q; cases q
  | some r => rw [q'] at q; exact (vw_lw R h q').lt q

/-! ### the monad -/
theorem bind_ok {α β : Type} {m : M α} {f : α → M β} {e e' : En} {b : β} (h : (m >>= f) e = .ok b e') : ∃ a e1, m e = .ok a e1 ∧ f a e1 = .ok b e' := by
  have h : M.bind m f e = .ok b e' := h
  unfold M.bind at h
  cases q : m e with
  | ok a e1 => rw [q] at h; exact ⟨a, e1, rfl, h⟩
  | er x e1 => rw [q] at h; cases h
theorem pure_ok {α : Type} {a b : α} {e e' : En} (h : (pure a : M α) e = .ok b e') : a = b ∧ e = e' := by
  have h : R.ok a e = .ok b e' := h
  cases h; exact ⟨rfl, rfl⟩
theorem lift_ok {α : Type} {o : Option α} {b : α} {e e' : En} (h : lift o e = .ok b e') : o = some b ∧ e = e' := by
  unfold lift at h
  cases o with
  | none => cases h
  | some a => cases h; exact ⟨rfl, rfl⟩
theorem vwM_ok {o : Opd} {r : RV} {e e' : En} (h : vwM o e = .ok r e') : vw o e = some r ∧ e = e' := lift_ok h
theorem rdM_ok {o : Opd} {e e' : En} (h : rdM o e = .ok d e') : (vw o e).bind RV.d = some d ∧ e = e' := lift_ok h

/-! ### readings -/
def tE (K : KW) (m : M Opd) : TE := fun σ H Q => ∃ F e o e', RR K F H σ e ∧ m e = .ok o e' ∧
  ∀ v F' H', RR K F' H' σ e' → Stp σ F H e σ F' H' e' → OR K F' H' σ e' v o → FrO H v o → Q v H'
def tT (K : KW) (m : M Bool) : TT := fun σ H Q => ∃ F e b e', RR K F H σ e ∧ m e = .ok b e' ∧
  ∀ F' H', RR K F' H' σ e' → Stp σ F H e σ F' H' e' → Q b H'
/-- operands side by side -/
def ORs (K : KW) (F H : Hp) (σ : S2) (e : En) (H0 : Hp) : List V → List Opd → Prop
  | [], [] => True
  | v :: vs, o :: os => OR K F H σ e v o ∧ FrO H0 v o ∧ (∀ a, v = .ref a → (∃ b, o = .new b) → ∀ (j : Nat) b, os[j]? = some (.new b) → vs[j]? ≠ some (.ref a)) ∧ ORs K F H σ e H0 vs os
  | _, _ => False
def tA (K : KW) (m : M (List Opd)) : TA := fun σ H Q => ∃ F e os e', RR K F H σ e ∧ m e = .ok os e' ∧
  ∀ vs F' H', RR K F' H' σ e' → Stp σ F H e σ F' H' e' → ORs K F' H' σ e' H vs os → Q vs H'
theorem ORs.step : ∀ {vs : List V} {os : List Opd} {H0 : Hp}, ORs K F H σ e H0 vs os → Stp σ F H e σ F' H' e' → ORs K F' H' σ e' H0 vs os
  | [], [], _, _, _ => trivial
  | _ :: _, _ :: _, _, ⟨h1, h2, h3, h4⟩, s => ⟨h1.step s, h2, h3, ORs.step h4 s⟩
theorem ORs.back : ∀ {vs : List V} {os : List Opd}, ORs K F2 H2 σ2 e2 H' vs os → Stp σ F H e σ' F' H' e' → ORs K F2 H2 σ2 e2 H vs os
  | [], [], _, _ => trivial
  | _ :: _, _ :: _, ⟨h1, h2, h3, h4⟩, s => ⟨h1, h2.back s, h3, ORs.back h4 s⟩
theorem ORs.fr_at : ∀ {vs : List V} {os : List Opd} {H0 : Hp} {j : Nat} {b : Ob} {a : Addr}, ORs K F H σ e H0 vs os → os[j]? = some (.new b) → vs[j]? = some (.ref a) → H0 a = none
  | [], [], _, _, _, _, _, h, _ => by simp at h
  | _ :: _, _ :: _, _, 0, b, a, ⟨_, h2, _, _⟩, h, h' => by
    simp at h h'
    subst h; subst h'
    exact h2 a rfl
  | _ :: _, _ :: _, _, j + 1, b, a, ⟨_, _, _, h4⟩, h, h' => ORs.fr_at (j := j) h4 (by simpa using h) (by simpa using h')
theorem ORs.length : ∀ {vs : List V} {os : List Opd} {H0 : Hp}, ORs K F H σ e H0 vs os → vs.length = os.length
  | [], [], _, _ => rfl
  | _ :: _, _ :: _, _, ⟨_, _, _, h4⟩ => by simp [ORs.length h4]
theorem rds_lt : ∀ {os : List Opd} {vs : List V} {ds : List D} {H0 : Hp} {e' : En}, RR K F H σ e → ORs K F H σ e H0 vs os → rdsM os e = .ok ds e' → LtAll K F H vs ds ∧ e = e'
  | [], [], ds, _, _, _, _, h => by
    obtain ⟨h1, h2⟩ := pure_ok h
    subst h1
    exact ⟨.nil, h2⟩
  | o :: os, v :: vs, ds, _, _, R, ⟨h1, _, _, h4⟩, h => by
    obtain ⟨d, e1, q1, h⟩ := bind_ok h
    obtain ⟨p1, p2⟩ := rdM_ok q1
    subst p2
    obtain ⟨ds', e2, q2, h⟩ := bind_ok h
    obtain ⟨p3, p4⟩ := pure_ok h
    subst p3
    obtain ⟨r1, r2⟩ := rds_lt R h4 q2
    exact ⟨.cons (rd_lt R h1 p1) r1, r2.trans p4⟩
  | [], _ :: _, _, _, _, _, h, _ => h.elim
  | _ :: _, [], _, _, _, _, h, _ => h.elim
end
end Ev
/-! freezing, storing, changing -/
namespace Ev
open PySem PySem.Spec PyProof.Rows L2
section
variable {K : KW} {F F0 F' H H0 H' : Hp} {σ σ0 σ' : S2} {e e0 e' : En} {v : V} {d : D} {a : Addr} {vs : List V} {xs : List D}
theorem frz_same (fz : Same F H) (ha : H a = some (.lst vs)) : Same (upd F a (.lst vs)) H := fun b o q => by
  by_cases hb : b = a
  · subst hb; rw [upd_same] at q; cases q; exact ha
  · rw [upd_ne hb] at q; exact fz _ _ q
theorem frz_rr (R : RR K F H σ e) (ha : H a = some (.lst vs)) (hf : F a = none) (hl : e'.length = e.length)
    (he : ∀ (j : Nat) (s : Slot), e'[j]? = some s → (e[j]? = some s ∧ (isOwn s = true → σ[j]? ≠ some (some (.ref a)))) ∨ (s = .sh (.list xs) ∧ σ[j]? = some (some (.ref a)))) (hr : RpAll K F vs xs) : RR K (upd F a (.lst vs)) H σ e' where
  fz := frz_same R.fz ha
  len := hl.trans R.len
  dis := fun i j b hi hj => by
    have up : ∀ {i b}, OwnAt σ e' i b → OwnAt σ e i b := fun {i b} ⟨s, h1, h2, h3⟩ => by
      rcases he i s h1 with ⟨h4, _⟩ | ⟨rfl, _⟩
      · exact ⟨s, h4, h2, h3⟩
      · cases h2
    exact R.dis i j b (up hi) (up hj)
  at_ := fun j s h => by
    have m : Same F (upd F a (.lst vs)) := same_upd hf
    rcases he j s h with ⟨h1, h2⟩ | ⟨rfl, h2⟩
    · have := R.at_ j s h1
      cases s with
      | no => trivial
      | sh d => obtain ⟨v, e1, e2⟩ := this; exact ⟨v, e1, Rp.mono m _ _ e2⟩
      | ow o =>
        obtain ⟨b, e1, e2, e3⟩ := this
        have hb : b ≠ a := by rintro rfl; exact h2 rfl e1
        exact ⟨b, e1, by rw [upd_ne hb]; exact e2, e3.mono m rfl⟩
      | pa o =>
        obtain ⟨b, e1, e2, e3⟩ := this
        have hb : b ≠ a := by rintro rfl; exact h2 rfl e1
        exact ⟨b, e1, by rw [upd_ne hb]; exact e2, e3.mono m rfl⟩
    · exact ⟨_, h2, .lst upd_same (RpAll.mono m _ _ hr)⟩
theorem frz_stp (S : Stp σ0 F0 H0 e0 σ F H e) (hf : F a = none) (hn : H0 a = none ∨ ∃ i, OwnAt σ0 e0 i a)
    (he : ∀ (j : Nat) (s : Slot), e'[j]? = some s → isOwn s = true → e[j]? = some s) : Stp σ0 F0 H0 e0 σ (upd F a (.lst vs)) H e' where
  fr := S.fr.trans (same_upd hf)
  keep := S.keep
  nw := fun b o q => by
    by_cases hb : b = a
    · subst hb; exact .inr hn
    · rw [upd_ne hb] at q; exact S.nw b o q
  own := fun i b ⟨s, h1, h2, h3⟩ => S.own i b ⟨s, he i s h1 h2, h2, h3⟩
  ows := fun i b ⟨o, h1, h3⟩ => S.ows i b ⟨o, he i _ h1 rfl, h3⟩
  pas := fun i o h => S.pas i o (he i _ h rfl)
  ex := S.ex
theorem frz_or (hf : F a = none) {v2 : V} {o2 : Opd} (h : OR K F H σ e v2 o2) (hd : ∀ b, o2 = .new b → v2 ≠ .ref a) (he : ∀ (j : Nat) (s : Slot), e'[j]? = some s → isOwn s = true → e[j]? = some s) : OR K (upd F a (.lst vs)) H σ e' v2 o2 := by
  cases o2 with
  | val d => exact Rp.mono (same_upd hf) _ _ h
  | slot i => exact h
  | new o =>
    obtain ⟨b, rfl, h1, h2, h3⟩ := h
    have hb : b ≠ a := by rintro rfl; exact hd _ rfl rfl
    exact ⟨b, rfl, by rw [upd_ne hb]; exact h1, fun i ⟨s, q1, q2, q3⟩ => h2 i ⟨s, he i s q1 q2, q2, q3⟩, h3.mono (same_upd hf) rfl⟩
theorem set_own {i : Nat} {d : D} {j : Nat} {s : Slot} (h : (e.set i (.sh d))[j]? = some s) (hs : isOwn s = true) : e[j]? = some s ∧ j ≠ i := by
  by_cases hj : i = j
  · subst hj
    by_cases hl : i < e.length
    · rw [List.getElem?_set_self hl] at h; cases h; cases hs
    · rw [List.getElem?_eq_none (by simpa using hl)] at h; cases h
  · rw [List.getElem?_set_ne hj] at h; exact ⟨h, Ne.symm hj⟩
/-- an operand becomes shared data -/
theorem esc_ok {o : Opd} (R : RR K F H σ e) (S : Stp σ0 F0 H0 e0 σ F H e) (h : OR K F H σ e v o) (hf : FrO H0 v o) (q : escM o e = .ok d e') :
    ∃ F', RR K F' H σ e' ∧ Stp σ0 F0 H0 e0 σ F' H e' ∧ Rp K F' v d ∧ Same F F' ∧ ∀ v2 o2, OR K F H σ e v2 o2 → (∀ b b' a, o = .new b → v = .ref a → o2 = .new b' → v2 ≠ .ref a) → OR K F' H σ e' v2 o2 := by
  cases o with
  | val d' =>
    obtain ⟨rfl, rfl⟩ := pure_ok q
    exact ⟨F, R, S, h, .refl _, fun _ _ h _ => h⟩
  | new b =>
    cases b with
    | dct kvs => obtain ⟨q1, _⟩ := lift_ok (show lift none e = .ok d e' from q); cases q1
    | dic kvs => obtain ⟨q1, _⟩ := lift_ok (show lift none e = .ok d e' from q); cases q1
    | lst xs =>
      obtain ⟨rfl, rfl⟩ := pure_ok q
      obtain ⟨a, rfl, h1, h2, vs, h3, h4⟩ := h
      have same : ∀ (j : Nat) (s : Slot), e[j]? = some s → isOwn s = true → e[j]? = some s := fun _ _ h _ => h
      refine ⟨upd F a (.lst vs), frz_rr R h3 h1 rfl (fun j s hs => .inl ⟨hs, fun ho z => h2 j ⟨s, hs, ho, z⟩⟩) h4, frz_stp S h1 (.inl (hf a rfl)) same, ?_, same_upd h1, fun v2 o2 h' hd => frz_or h1 h' (fun b hb => hd _ b a rfl rfl hb) same⟩
      exact .lst upd_same (RpAll.mono (same_upd h1) _ _ h4)
  | slot i =>
    have h : σ[i]? = some (some v) := h
    have q : (match e[i]? with
      | some (.sh d) => Ev.R.ok d e
      | some (.ow (.lst xs)) => .ok (.list xs) (e.set i (.sh (.list xs)))
      | some (.pa (.lst xs)) => .ok (.list xs) (e.set i (.sh (.list xs)))
      | _ => .er .bad e) = .ok d e' := q
    have own : ∀ (s : Slot) (xs : List D), e[i]? = some s → isOwn s = true → (∃ a, σ[i]? = some (some (.ref a)) ∧ F a = none ∧ ObR K F H a (.lst xs)) → ∃ F', RR K F' H σ (e.set i (.sh (.list xs))) ∧ Stp σ0 F0 H0 e0 σ F' H (e.set i (.sh (.list xs))) ∧ Rp K F' v (.list xs) ∧ Same F F' ∧
        ∀ v2 o2, OR K F H σ e v2 o2 → (∀ b b' a, Opd.slot i = .new b → v = .ref a → o2 = .new b' → v2 ≠ .ref a) → OR K F' H σ (e.set i (.sh (.list xs))) v2 o2 := fun s xs hs ho ⟨a, e1, h1, vs, h3, h4⟩ => by
      rw [h] at e1; cases e1
      have oi : OwnAt σ e i a := ⟨s, hs, ho, h⟩
      have same : ∀ (j : Nat) (s' : Slot), (e.set i (.sh (.list xs)))[j]? = some s' → isOwn s' = true → e[j]? = some s' := fun j s' hj hs' => (set_own hj hs').1
      refine ⟨upd F a (.lst vs), frz_rr R h3 h1 (by simp) (fun j s' hj => ?_) h4, frz_stp S h1 ?_ same, .lst upd_same (RpAll.mono (same_upd h1) _ _ h4), same_upd h1, fun v2 o2 h' _ => frz_or h1 h' (fun b hb z => ?_) same⟩
      · by_cases hij : i = j
        · subst hij
          rw [List.getElem?_set_self (by exact (List.getElem?_eq_some_iff.mp hs).1)] at hj
          cases hj
          exact .inr ⟨rfl, h⟩
        · rw [List.getElem?_set_ne hij] at hj
          exact .inl ⟨hj, fun ho' z => hij (R.dis i j a oi ⟨s', hj, ho', z⟩)⟩
      · rcases S.own i a oi with z | z
        · exact .inr z
        · exact .inl z
      · subst hb z
        obtain ⟨b', e1, _, h2, _⟩ := h'
        cases e1
        exact h2 i oi
    cases hs : e[i]? with
    | none => rw [hs] at q; cases q
    | some s =>
      rw [hs] at q
      have := R.at_ i s hs
      cases s with
      | no => cases q
      | sh d' =>
        cases q
        obtain ⟨w, e1, e2⟩ := this
        rw [h] at e1; cases e1
        exact ⟨F, R, S, e2, .refl _, fun _ _ h _ => h⟩
      | ow o =>
        cases o with
        | dct _ => cases q
        | dic _ => cases q
        | lst xs => cases q; exact own _ xs hs rfl this
      | pa o =>
        cases o with
        | dct _ => cases q
        | dic _ => cases q
        | lst xs => cases q; exact own _ xs hs rfl this
theorem ORs.keep {H1 : Hp} : ∀ {vs : List V} {os : List Opd}, ORs K F H σ e H1 vs os → (∀ (j : Nat) v o, vs[j]? = some v → os[j]? = some o → OR K F H σ e v o → OR K F' H' σ e' v o) → ORs K F' H' σ e' H1 vs os
  | [], [], _, _ => trivial
  | v :: vs, o :: os, ⟨h1, h2, h3, h4⟩, k => ⟨k 0 v o rfl rfl h1, h2, h3, ORs.keep h4 fun j v o a b => k (j + 1) v o (by simpa using a) (by simpa using b)⟩
theorem escs_ok {os : List Opd} : ∀ {vs : List V} {ds : List D} {F : Hp} {e : En}, RR K F H σ e → Stp σ0 F0 H0 e0 σ F H e → ORs K F H σ e H0 vs os → escsM os e = .ok ds e' →
    ∃ F', RR K F' H σ e' ∧ Stp σ0 F0 H0 e0 σ F' H e' ∧ RpAll K F' vs ds ∧ Same F F' := by
  induction os with
  | nil =>
    intro vs ds F e R S h q
    cases vs with
    | cons _ _ => exact h.elim
    | nil =>
      obtain ⟨h1, h2⟩ := pure_ok q
      subst h1 h2
      exact ⟨F, R, S, .nil, .refl _⟩
  | cons o os ih =>
    intro vs ds F e R S h q
    cases vs with
    | nil => exact h.elim
    | cons v vs =>
      obtain ⟨h1, h2, h3, h4⟩ := h
      obtain ⟨d, e1, q1, q⟩ := bind_ok q
      obtain ⟨ds', e2, q2, q⟩ := bind_ok q
      obtain ⟨p1, p2⟩ := pure_ok q
      subst p1 p2
      obtain ⟨F1, R1, S1, r1, m1, k1⟩ := esc_ok R S h1 h2 q1
      obtain ⟨F2, R2, S2, r2, m2⟩ := ih R1 S1 (h4.keep fun j v2 o2 a b c => k1 v2 o2 c fun b1 b2 a1 p1 p2 p3 z => h3 a1 p2 ⟨b1, p1⟩ j b2 (by rw [b, p3]) (by rw [a, z])) q2
      exact ⟨F2, R2, S2, .cons (Rp.mono m2 _ _ r1) r2, m1.trans m2⟩

/-! ### a name is stored -/
theorem setM_ok {i : Nat} {s : Slot} {u : Unit} (q : setM i s e = .ok u e') : i < e.length ∧ e' = e.set i s := by
  unfold setM at q
  split at q
  · cases q; exact ⟨by assumption, rfl⟩
  · cases q
theorem store_sh {i : Nat} (R : RR K F H σ e) (S : Stp σ0 F0 H0 e0 σ F H e) (h : Rp K F v d) (hi : i < e.length) : RR K F H (σ.set i (some v)) (e.set i (.sh d)) ∧ Stp σ0 F0 H0 e0 (σ.set i (some v)) F H (e.set i (.sh d)) := by
  have up : ∀ {j b}, OwnAt (σ.set i (some v)) (e.set i (.sh d)) j b → OwnAt σ e j b := fun {j b} ⟨s, h1, h2, h3⟩ => by
    obtain ⟨h4, h5⟩ := set_own h1 h2
    rw [List.getElem?_set_ne (Ne.symm h5)] at h3
    exact ⟨s, h4, h2, h3⟩
  refine ⟨⟨R.fz, by simp [R.len], fun j s hs => ?_, fun j k b hj hk => R.dis j k b (up hj) (up hk)⟩, ⟨S.fr, S.keep, S.nw, fun j b hj => S.own j b (up hj), fun j o hj => ?_, S.ex, fun j b ⟨o, h1, h3⟩ => S.ows j b (by
    obtain ⟨h4, h5⟩ := set_own h1 rfl
    rw [List.getElem?_set_ne (Ne.symm h5)] at h3
    exact ⟨o, h4, h3⟩)⟩⟩
  · by_cases hij : i = j
    · subst hij
      rw [List.getElem?_set_self hi] at hs
      cases hs
      exact ⟨v, List.getElem?_set_self (by rw [← R.len]; exact hi), h⟩
    · rw [List.getElem?_set_ne hij] at hs ⊢
      exact R.at_ j s hs
  · obtain ⟨h4, h5⟩ := set_own hj rfl
    rw [List.getElem?_set_ne (Ne.symm h5)]
    exact S.pas j o h4
theorem store_ow {i : Nat} {ob : Ob} (R : RR K F H σ e) (S : Stp σ0 F0 H0 e0 σ F H e) (h1 : F a = none) (h2 : ∀ i, ¬ OwnAt σ e i a) (h3 : ObR K F H a ob) (h4 : H0 a = none) (hi : i < e.length) :
    RR K F H (σ.set i (some (.ref a))) (e.set i (.ow ob)) ∧ Stp σ0 F0 H0 e0 (σ.set i (some (.ref a))) F H (e.set i (.ow ob)) := by
  have up : ∀ {j b}, OwnAt (σ.set i (some (.ref a))) (e.set i (.ow ob)) j b → (j = i ∧ b = a) ∨ (j ≠ i ∧ OwnAt σ e j b) := fun {j b} ⟨s, q1, q2, q3⟩ => by
    by_cases hij : i = j
    · subst hij
      rw [List.getElem?_set_self (by rw [← R.len]; exact hi)] at q3
      cases q3
      exact .inl ⟨rfl, rfl⟩
    · rw [List.getElem?_set_ne hij] at q1 q3
      exact .inr ⟨Ne.symm hij, s, q1, q2, q3⟩
  refine ⟨⟨R.fz, by simp [R.len], fun j s hs => ?_, fun j k b hj hk => ?_⟩, ⟨S.fr, S.keep, S.nw, fun j b hj => ?_, fun j o hj => ?_, S.ex, fun j b ⟨o, q1, q3⟩ => by
    by_cases hij : i = j
    · subst hij
      rw [List.getElem?_set_self (by rw [← R.len]; exact hi)] at q3
      cases q3
      exact .inr h4
    · rw [List.getElem?_set_ne hij] at q1 q3
      exact S.ows j b ⟨o, q1, q3⟩⟩⟩
  · by_cases hij : i = j
    · subst hij
      rw [List.getElem?_set_self hi] at hs
      cases hs
      exact ⟨a, List.getElem?_set_self (by rw [← R.len]; exact hi), h1, h3⟩
    · rw [List.getElem?_set_ne hij] at hs ⊢
      exact R.at_ j s hs
  · rcases up hj with ⟨rfl, rfl⟩ | ⟨_, hj'⟩
    · rcases up hk with ⟨rfl, _⟩ | ⟨_, hk'⟩
      · rfl
      · exact absurd hk' (h2 k)
    · rcases up hk with ⟨rfl, rfl⟩ | ⟨_, hk'⟩
      · exact absurd hj' (h2 j)
      · exact R.dis j k b hj' hk'
  · rcases up hj with ⟨rfl, rfl⟩ | ⟨_, hj'⟩
    · exact .inr h4
    · exact S.own j b hj'
  · by_cases hij : i = j
    · subst hij; rw [List.getElem?_set_self hi] at hj; cases hj
    · rw [List.getElem?_set_ne hij] at hj ⊢
      exact S.pas j o hj
theorem sto_ok {i : Nat} {o : Opd} {u : Unit} (R : RR K F H σ e) (S : Stp σ0 F0 H0 e0 σ F H e) (h : OR K F H σ e v o) (hf : FrO H0 v o) (q : stO i o e = .ok u e') :
    ∃ F', RR K F' H (σ.set i (some v)) e' ∧ Stp σ0 F0 H0 e0 (σ.set i (some v)) F' H e' := by
  cases o with
  | val d =>
    obtain ⟨hi, rfl⟩ := setM_ok q
    exact ⟨F, store_sh R S h hi⟩
  | new b =>
    obtain ⟨hi, rfl⟩ := setM_ok q
    obtain ⟨a, rfl, h1, h2, h3⟩ := h
    exact ⟨F, store_ow R S h1 h2 h3 (hf a rfl) hi⟩
  | slot j =>
    obtain ⟨d, e1, q1, q⟩ := bind_ok q
    obtain ⟨hi, rfl⟩ := setM_ok q
    obtain ⟨F1, R1, S1, r1, _, _⟩ := esc_ok R S h hf q1
    exact ⟨F1, store_sh R1 S1 r1 hi⟩

/-! ### an object is changed -/
theorem upd_ok {i : Nat} {s s' : Slot} {ob' : Ob} {o' : HO} (R : RR K F H σ e) (S : Stp σ0 F0 H0 e0 σ F H e) (hs : e[i]? = some s) (ho : isOwn s = true) (hs' : (∃ ob, s = .ow ob ∧ s' = .ow ob') ∨ ∃ ob, s = .pa ob ∧ s' = .pa ob') (hv : σ[i]? = some (some (.ref a)))
    (h : ObR K F (upd H a o') a ob') : RR K F (upd H a o') σ (e.set i s') ∧ Stp σ0 F0 H0 e0 σ F (upd H a o') (e.set i s') := by
  have oi : OwnAt σ e i a := ⟨s, hs, ho, hv⟩
  obtain ⟨hf, o0, hH⟩ := R.own_some oi
  have ho' : isOwn s' = true := by rcases hs' with ⟨_, _, rfl⟩ | ⟨_, _, rfl⟩ <;> rfl
  have hi : i < e.length := (List.getElem?_eq_some_iff.mp hs).1
  have up : ∀ {j b}, OwnAt σ (e.set i s') j b → OwnAt σ e j b := fun {j b} ⟨t, q1, q2, q3⟩ => by
    by_cases hij : i = j
    · subst hij; exact ⟨s, hs, ho, q3⟩
    · rw [List.getElem?_set_ne hij] at q1; exact ⟨t, q1, q2, q3⟩
  refine ⟨⟨fun b o q => ?_, by simp [R.len], fun j t ht => ?_, fun j k b hj hk => R.dis j k b (up hj) (up hk)⟩, ⟨S.fr, fun b o q n => ?_, S.nw, fun j b hj => S.own j b (up hj), fun j o hj => ?_, fun b o q => ?_, fun j b ⟨o, q1, q3⟩ => by
    by_cases hij : i = j
    · subst hij
      rw [List.getElem?_set_self hi] at q1
      cases q1
      rcases hs' with ⟨ob, rfl, _⟩ | ⟨_, _, z⟩
      · exact S.ows i b ⟨ob, hs, q3⟩
      · cases z
    · rw [List.getElem?_set_ne hij] at q1; exact S.ows j b ⟨o, q1, q3⟩⟩⟩
  · have hb : b ≠ a := by rintro rfl; rw [hf] at q; cases q
    rw [upd_ne hb]; exact R.fz _ _ q
  · by_cases hij : i = j
    · subst hij
      rw [List.getElem?_set_self hi] at ht
      cases ht
      rcases hs' with ⟨_, _, rfl⟩ | ⟨_, _, rfl⟩
      · exact ⟨a, hv, hf, h⟩
      · exact ⟨a, hv, hf, h⟩
    · rw [List.getElem?_set_ne hij] at ht
      have := R.at_ j t ht
      cases t with
      | no => trivial
      | sh d => exact this
      | ow o =>
        obtain ⟨b, e1, e2, e3⟩ := this
        have hb : b ≠ a := by rintro rfl; exact hij (R.dis i j b oi ⟨_, ht, rfl, e1⟩)
        exact ⟨b, e1, e2, e3.mono (.refl _) (upd_ne hb)⟩
      | pa o =>
        obtain ⟨b, e1, e2, e3⟩ := this
        have hb : b ≠ a := by rintro rfl; exact hij (R.dis i j b oi ⟨_, ht, rfl, e1⟩)
        exact ⟨b, e1, e2, e3.mono (.refl _) (upd_ne hb)⟩
  · have hb : b ≠ a := by
      rintro rfl
      rcases S.own i b oi with ⟨j, z⟩ | z
      · exact n j z
      · rw [q] at z; cases z
    rw [upd_ne hb]; exact S.keep b o q n
  · by_cases hij : i = j
    · subst hij
      rcases hs' with ⟨_, _, rfl⟩ | ⟨ob, rfl, rfl⟩
      · rw [List.getElem?_set_self hi] at hj; cases hj
      · exact S.pas i ob hs
    · rw [List.getElem?_set_ne hij] at hj
      exact S.pas j o hj
  · by_cases hb : b = a
    · subst hb; exact ⟨_, upd_same⟩
    · obtain ⟨o2, q2⟩ := S.ex b o q
      exact ⟨o2, by rw [upd_ne hb]; exact q2⟩
theorem updM_ok {α : Type} {o : Opd} {f : Ob → Option (α × Ob)} {r : α} (R : RR K F H σ e) (h : OR K F H σ e v o) (q : updM o f e = .ok r e') :
    ∃ i s s' a ob ob', o = .slot i ∧ e[i]? = some s ∧ isOwn s = true ∧ ((∃ b, s = .ow b ∧ s' = .ow ob') ∨ ∃ b, s = .pa b ∧ s' = .pa ob') ∧ σ[i]? = some (some (.ref a)) ∧ v = .ref a ∧ F a = none ∧ ObR K F H a ob ∧ f ob = some (r, ob') ∧ e' = e.set i s' := by
  cases o with
  | val d => obtain ⟨q1, _⟩ := lift_ok (show lift none e = .ok r e' from q); cases q1
  | new d => obtain ⟨q1, _⟩ := lift_ok (show lift none e = .ok r e' from q); cases q1
  | slot i =>
    have h : σ[i]? = some (some v) := h
    have q : (match e[i]? with
      | some (.ow b) => match f b with
        | some (a, b') => Ev.R.ok a (e.set i (.ow b'))
        | none => .er .bad e
      | some (.pa b) => match f b with
        | some (a, b') => .ok a (e.set i (.pa b'))
        | none => .er .bad e
      | _ => .er .bad e) = .ok r e' := q
    cases hs : e[i]? with
    | none => rw [hs] at q; cases q
    | some s =>
      rw [hs] at q
      have := R.at_ i s hs
      cases s with
      | no => cases q
      | sh _ => cases q
      | ow b =>
        obtain ⟨a, e1, e2, e3⟩ := this
        rw [h] at e1; cases e1
        cases hq : f b with
        | none => simp only [hq] at q; cases q
        | some p =>
          obtain ⟨x, b'⟩ := p
          simp only [hq] at q
          cases q
          exact ⟨i, _, _, a, b, b', rfl, hs, rfl, .inl ⟨b, rfl, rfl⟩, h, rfl, e2, e3, hq, rfl⟩
      | pa b =>
        obtain ⟨a, e1, e2, e3⟩ := this
        rw [h] at e1; cases e1
        cases hq : f b with
        | none => simp only [hq] at q; cases q
        | some p =>
          obtain ⟨x, b'⟩ := p
          simp only [hq] at q
          cases q
          exact ⟨i, _, _, a, b, b', rfl, hs, rfl, .inr ⟨b, rfl, rfl⟩, h, rfl, e2, e3, hq, rfl⟩
end
end Ev
/-! expressions: one lemma a construct -/
namespace Ev
open PySem PySem.Spec PyProof.Rows L2

theorem _root_.L2.PE.imp {X : Cx} {e : Expr} {t t' : TE} (h : PE X e t) (w : ∀ σ H Q, t' σ H Q → t σ H Q) : PE X e t' := ⟨fun pins s σ H Q I q => h.run pins s σ H Q I (w σ H Q q)⟩
theorem _root_.L2.PT.imp {X : Cx} {e : Expr} {t t' : TT} (h : PT X e t) (w : ∀ σ H Q, t' σ H Q → t σ H Q) : PT X e t' := ⟨fun pins s σ H Q I q => h.run pins s σ H Q I (w σ H Q q)⟩
theorem _root_.L2.PA.imp {X : Cx} {es : List Expr} {t t' : TA} (h : PA X es t) (w : ∀ σ H Q, t' σ H Q → t σ H Q) : PA X es t' := ⟨fun pos pins s σ H Q I q => h.run pos pins s σ H Q I (w σ H Q q)⟩
section
variable {X : Cx} {cf : Nat → List Slot → CR} {k : Nat} {a b c : Expr} {ma mb mc : ME} {pos : Pos} {F F' H H' H0 F0 : Hp} {σ σ0 : S2} {e e0 e' : En} {v : V} {d : D}

/-- behind an operation by values -/
theorem fin_rv {K : KW} {rv : RV} {Q : VK} (R : RR K F H σ e) (S : Stp σ0 F0 H0 e0 σ F H e) 
    (q : ∀ v F' H', RR K F' H' σ e → Stp σ0 F0 H0 e0 σ F' H' e → OR K F' H' σ e v rv.op → FrO H0 v rv.op → Q v H') :
    ∀ v F' H', Ext F H F' H' → RvR K F' H' v rv → Frs H v rv → Q v H' := fun v F' H' x r f => by
  refine q v F' H' (R.ext x) (S.trans x.stp) ?_ ?_
  · cases rv with
    | val d => exact r
    | new o =>
      obtain ⟨a, rfl, h1, h2⟩ := r
      refine ⟨a, rfl, h1, fun i hi => ?_, h2⟩
      obtain ⟨_, ho, hh⟩ := R.own_some hi
      rw [f a rfl] at hh; cases hh
  · cases rv with
    | val d => trivial
    | new o => exact fun a ha => S.free (f a ha)

theorem snd_c (hd : ∀ F, Rp X.kw F v d) (h : PE X a (tC v)) : PE X a (tE X.kw (evE cf (.c d))) :=
  h.imp fun σ H Q ⟨F, e, o, e', R, q, w⟩ => by
    obtain ⟨h1, h2⟩ := pure_ok (show (pure (Opd.val d) : M Opd) e = .ok o e' from q)
    subst h1 h2
    exact w v F H R .refl (hd F) trivial
theorem snd_v {i : Nat} (h : PE X a (tVar i)) : PE X a (tE X.kw (evE cf (.v i))) :=
  h.imp fun σ H Q ⟨F, e, o, e', R, q, w⟩ => by
    have q : (match e[i]? with
      | some (.sh d) => Ev.R.ok (Opd.val d) e
      | some (.ow _) => .ok (Opd.slot i) e
      | some (.pa _) => .ok (Opd.slot i) e
      | _ => .er .bad e) = .ok o e' := q
    cases hs : e[i]? with
    | none => rw [hs] at q; cases q
    | some s =>
      rw [hs] at q
      have := R.at_ i s hs
      cases s with
      | no => cases q
      | sh d =>
        cases q
        obtain ⟨v, e1, e2⟩ := this
        exact ⟨v, e1, w v F H R .refl e2 trivial⟩
      | ow ob =>
        cases q
        obtain ⟨a, e1, e2⟩ := this
        exact ⟨_, e1, w _ F H R .refl e1 trivial⟩
      | pa ob =>
        cases q
        obtain ⟨a, e1, e2⟩ := this
        exact ⟨_, e1, w _ F H R .refl e1 trivial⟩
theorem snd_bin {op : Operator} (ha : PE X a (tE X.kw (evE cf ma))) (hb : PE X b (tE X.kw (evE cf mb))) : PE X (.BinOp a op b pos) (tE X.kw (evE cf (.bin op ma mb))) :=
  (pe_op (opr_bin op) ha hb).imp fun σ H Q ⟨F, e, o, e', R, q, w⟩ => by
    obtain ⟨x, e1, q1, q⟩ := bind_ok q
    obtain ⟨y, e2, q2, q⟩ := bind_ok q
    obtain ⟨d, e3, q3, q⟩ := bind_ok q
    obtain ⟨p3, p3'⟩ := rdM_ok q3
    subst p3'
    obtain ⟨d', e4, q4, q⟩ := bind_ok q
    obtain ⟨p4, p4'⟩ := rdM_ok q4
    subst p4'
    obtain ⟨r, e5, q5, q⟩ := bind_ok q
    obtain ⟨p5, p5'⟩ := lift_ok q5
    subst p5'
    obtain ⟨p6, p6'⟩ := pure_ok q
    subst p6 p6'
    refine ⟨F, e, x, e1, R, q1, fun v1 F1 H1 R1 S1 O1 N1 => ⟨F1, e1, y, e2, R1, q2, fun v2 F2 H2 R2 S2 O2 N2 => ?_⟩⟩
    exact ⟨F2, d, d', r, R2.fz, rd_lt R2 (O1.step S2) p3, rd_lt R2 O2 p4, p5, fin_rv R2 (S1.trans S2) w⟩
theorem snd_neg (ha : PE X a (tE X.kw (evE cf ma))) : PE X (.UnaryOp .USub a pos) (tE X.kw (evE cf (.neg ma))) :=
  (pe_un un_neg ha).imp fun σ H Q ⟨F, e, o, e', R, q, w⟩ => by
    obtain ⟨x, e1, q1, q⟩ := bind_ok q
    obtain ⟨d, e3, q3, q⟩ := bind_ok q
    obtain ⟨p3, p3'⟩ := rdM_ok q3
    subst p3'
    refine ⟨F, e, x, e1, R, q1, fun v1 F1 H1 R1 S1 O1 N1 => ?_⟩
    have l := rd_lt R1 O1 p3
    cases d with
    | int i =>
      obtain ⟨p6, p6'⟩ := pure_ok (show (pure (Opd.val (.int (-i))) : M Opd) e1 = .ok o e' from q)
      subst p6 p6'
      obtain rfl := l.int
      exact ⟨i, rfl, w _ F1 H1 R1 S1 (.int _) trivial⟩
    | none => obtain ⟨q, _⟩ := lift_ok (show lift none e1 = .ok o e' from q); cases q
    | bool _ => obtain ⟨q, _⟩ := lift_ok (show lift none e1 = .ok o e' from q); cases q
    | str _ => obtain ⟨q, _⟩ := lift_ok (show lift none e1 = .ok o e' from q); cases q
    | list _ => obtain ⟨q, _⟩ := lift_ok (show lift none e1 = .ok o e' from q); cases q
    | tuple _ => obtain ⟨q, _⟩ := lift_ok (show lift none e1 = .ok o e' from q); cases q
    | dict _ => obtain ⟨q, _⟩ := lift_ok (show lift none e1 = .ok o e' from q); cases q
theorem cmp_imp {op : CmpOp} : ∀ σ H Q, tE X.kw (evE cf (.cmp op ma mb)) σ H Q → tOp (rC2 X.kw op) (tE X.kw (evE cf ma)) (tE X.kw (evE cf mb)) σ H Q := fun σ H Q ⟨F, e, o, e', R, q, w⟩ => by
  obtain ⟨x, e1, q1, q⟩ := bind_ok q
  obtain ⟨y, e2, q2, q⟩ := bind_ok q
  obtain ⟨d, e3, q3, q⟩ := bind_ok q
  obtain ⟨p3, p3'⟩ := rdM_ok q3
  subst p3'
  obtain ⟨d', e4, q4, q⟩ := bind_ok q
  obtain ⟨p4, p4'⟩ := vwM_ok q4
  subst p4'
  obtain ⟨r, e5, q5, q⟩ := bind_ok q
  obtain ⟨p5, p5'⟩ := lift_ok q5
  subst p5'
  obtain ⟨p6, p6'⟩ := pure_ok q
  subst p6 p6'
  refine ⟨F, e, x, e1, R, q1, fun v1 F1 H1 R1 S1 O1 N1 => ⟨F1, e1, y, e2, R1, q2, fun v2 F2 H2 R2 S2 O2 N2 => ?_⟩⟩
  exact ⟨F2, d, d', r, R2.fz, rd_lt R2 (O1.step S2) p3, vw_lw R2 O2 p4, p5, w _ F2 H2 R2 (S1.trans S2) (.bl _) trivial⟩
theorem snd_cmp {op : CmpOp} (hr : Room k X.A) (ha : PE X a (tE X.kw (evE cf ma))) (hb : PE X b (tE X.kw (evE cf mb))) (hm : behindInMarks op b = false) : PE X (.Compare a [op] [b] pos) (tE X.kw (evE cf (.cmp op ma mb))) :=
  (pe_cmpR (opr_cmpR hr op) ha hb hm).imp cmp_imp
/-- a reading that gives a truth value, as a test -/
theorem tst_imp {m : ME} (hb : ∀ e o e', evE cf m e = .ok o e' → ∃ b, o = .val (.bool b)) : ∀ (σ : S2) (H : Hp) (Q : Bool → Hp → Prop), tT X.kw (evB cf (.tr m)) σ H Q → tE X.kw (evE cf m) σ H fun x H' => ∃ k, x = .bl k ∧ Q k H' := fun σ H Q ⟨F, e, b, e', R, q, w⟩ => by
  obtain ⟨x, e1, q1, q⟩ := bind_ok q
  obtain ⟨k, rfl⟩ := hb _ _ _ q1
  have q : Ev.R.ok k e1 = .ok b e' := q
  cases q
  refine ⟨F, e, _, _, R, q1, fun v F' H' R' S' O' _ => ?_⟩
  have O' : Rp X.kw F' v (.bool b) := O'
  cases O'
  exact ⟨b, rfl, w F' H' R' S'⟩
theorem cmp_bool {op : CmpOp} (e : En) (o : Opd) (e' : En) (q : evE cf (.cmp op ma mb) e = .ok o e') : ∃ b, o = .val (.bool b) := by
  obtain ⟨x, e1, q1, q⟩ := bind_ok q
  obtain ⟨y, e2, q2, q⟩ := bind_ok q
  obtain ⟨d, e3, q3, q⟩ := bind_ok q
  obtain ⟨d', e4, q4, q⟩ := bind_ok q
  obtain ⟨r, e5, q5, q⟩ := bind_ok q
  obtain ⟨p6, p6'⟩ := pure_ok q
  exact ⟨r, p6.symm⟩
theorem snt_cmp {op : CmpOp} (hr : Room k X.A) (ha : PE X a (tE X.kw (evE cf ma))) (hb : PE X b (tE X.kw (evE cf mb))) (hm : behindInMarks op b = false) : PT X (.Compare a [op] [b] pos) (tT X.kw (evB cf (.tr (.cmp op ma mb)))) :=
  (pt_cmpR (opr_cmpR hr op) ha hb hm).imp fun σ H Q q => cmp_imp σ H _ (tst_imp cmp_bool σ H Q q)
theorem chain_imp {op op' : CmpOp} : ∀ σ H Q, tE X.kw (evE cf (.chain op op' ma mb mc)) σ H Q → tChain (rB2 X.kw (cmpD op)) (rB2 X.kw (cmpD op')) (tE X.kw (evE cf ma)) (tE X.kw (evE cf mb)) (tE X.kw (evE cf mc)) σ H Q := fun σ H Q ⟨F, e, o, e', R, q, w⟩ => by
  obtain ⟨x, e1, q1, q⟩ := bind_ok q
  obtain ⟨y, e2, q2, q⟩ := bind_ok q
  obtain ⟨d, e3, q3, q⟩ := bind_ok q
  obtain ⟨p3, p3'⟩ := rdM_ok q3
  subst p3'
  obtain ⟨d', e4, q4, q⟩ := bind_ok q
  obtain ⟨p4, p4'⟩ := rdM_ok q4
  subst p4'
  obtain ⟨r, e5, q5, q⟩ := bind_ok q
  obtain ⟨p5, p5'⟩ := lift_ok q5
  subst p5'
  refine ⟨F, e, x, e1, R, q1, fun v1 F1 H1 R1 S1 O1 N1 => ⟨F1, e1, y, e2, R1, q2, fun v2 F2 H2 R2 S2 O2 N2 => ?_⟩⟩
  refine ⟨F2, d, d', r, R2.fz, rd_lt R2 (O1.step S2) p3, rd_lt R2 O2 p4, p5, r, rfl, ?_⟩
  cases r with
  | false =>
    obtain ⟨p6, p6'⟩ := pure_ok (show (pure (Opd.val (.bool false)) : M Opd) e2 = .ok o e' from q)
    subst p6 p6'
    rw [if_neg (by simp)]
    exact w _ F2 H2 R2 (S1.trans S2) (.bl _) trivial
  | true =>
    rw [if_pos rfl]
    obtain ⟨z, e6, q6, q⟩ := bind_ok (show ((do let z ← evE cf mc; let d' ← rdM y; let d'' ← rdM z; let r' ← lift (cmpD op' d' d''); pure (.val (.bool r'))) : M Opd) e2 = .ok o e' from q)
    obtain ⟨d1, e7, q7, q⟩ := bind_ok q
    obtain ⟨p7, p7'⟩ := rdM_ok q7
    subst p7'
    obtain ⟨d2, e8, q8, q⟩ := bind_ok q
    obtain ⟨p8, p8'⟩ := rdM_ok q8
    subst p8'
    obtain ⟨r', e9, q9, q⟩ := bind_ok q
    obtain ⟨p9, p9'⟩ := lift_ok q9
    subst p9'
    obtain ⟨p6, p6'⟩ := pure_ok q
    subst p6 p6'
    refine ⟨F2, e2, z, e6, R2, q6, fun v3 F3 H3 R3 S3 O3 N3 => ?_⟩
    exact ⟨F3, d1, d2, r', R3.fz, rd_lt R3 (O2.step S3) p7, rd_lt R3 O3 p8, p9, w _ F3 H3 R3 ((S1.trans S2).trans S3) (.bl _) trivial⟩
theorem chain_bool {op op' : CmpOp} (e : En) (o : Opd) (e' : En) (q : evE cf (.chain op op' ma mb mc) e = .ok o e') : ∃ b, o = .val (.bool b) := by
  obtain ⟨x, e1, q1, q⟩ := bind_ok q
  obtain ⟨y, e2, q2, q⟩ := bind_ok q
  obtain ⟨d, e3, q3, q⟩ := bind_ok q
  obtain ⟨d', e4, q4, q⟩ := bind_ok q
  obtain ⟨r, e5, q5, q⟩ := bind_ok q
  cases r with
  | false =>
    obtain ⟨p6, p6'⟩ := pure_ok (show (pure (Opd.val (.bool false)) : M Opd) e5 = .ok o e' from q)
    exact ⟨_, p6.symm⟩
  | true =>
    obtain ⟨z, e6, q6, q⟩ := bind_ok (show ((do let z ← evE cf mc; let d' ← rdM y; let d'' ← rdM z; let r' ← lift (cmpD op' d' d''); pure (.val (.bool r'))) : M Opd) e5 = .ok o e' from q)
    obtain ⟨d1, e7, q7, q⟩ := bind_ok q
    obtain ⟨d2, e8, q8, q⟩ := bind_ok q
    obtain ⟨r', e9, q9, q⟩ := bind_ok q
    obtain ⟨p6, p6'⟩ := pure_ok q
    exact ⟨_, p6.symm⟩
theorem snd_chain {op op' : CmpOp} (hr : Room k X.A) (ha : PE X a (tE X.kw (evE cf ma))) (hb : PE X b (tE X.kw (evE cf mb))) (hc : PE X c (tE X.kw (evE cf mc))) (hm : lastMarks [op, op'] [b, c] = false) :
    PE X (.Compare a [op, op'] [b, c] pos) (tE X.kw (evE cf (.chain op op' ma mb mc))) := (pe_chain (opr_cmp hr op) (opr_cmp hr op') ha hb hc hm).imp chain_imp
theorem snt_chain {op op' : CmpOp} (hr : Room k X.A) (ha : PE X a (tE X.kw (evE cf ma))) (hb : PE X b (tE X.kw (evE cf mb))) (hc : PE X c (tE X.kw (evE cf mc))) (hm : lastMarks [op, op'] [b, c] = false) :
    PT X (.Compare a [op, op'] [b, c] pos) (tT X.kw (evB cf (.tr (.chain op op' ma mb mc)))) := (pt_chain (opr_cmp hr op) (opr_cmp hr op') ha hb hc hm).imp fun σ H Q q => chain_imp σ H _ (tst_imp chain_bool σ H Q q)

/-! ### truth -/
theorem truM_ok {o : Opd} {b : Bool} {K : KW} (R : RR K F H σ e) (h : OR K F H σ e v o) (q : truM o e = .ok b e') : TruV K v H b ∧ e = e' := by
  unfold truM at q
  cases hq : vw o e with
  | none => rw [hq] at q; cases q
  | some r =>
    rw [hq] at q
    have l := vw_lw R h hq
    cases r with
    | val d =>
      obtain ⟨q1, q2⟩ := lift_ok q
      exact ⟨tru_d R.fz (.inl l) q1, q2⟩
    | new ob =>
      cases ob with
      | lst xs =>
        cases q
        obtain ⟨a, rfl, vs, h1, h2⟩ := l
        refine ⟨.inl ⟨vs, .of h1, ?_⟩, rfl⟩
        cases h2 <;> rfl
      | dct kvs =>
        cases q
        obtain ⟨a, rfl, vs, h1, h2⟩ := l
        refine ⟨.inr (.inr ⟨vs, h1, ?_⟩), rfl⟩
        cases h2 <;> rfl
      | dic kvs => cases q
theorem snt_tr (ha : PE X a (tE X.kw (evE cf ma))) (he : ∀ whole, isTrue a X.env whole = (do let v ← whole; standAt a.pos; holding [v] (truthy v))) : PT X a (tT X.kw (evB cf (.tr ma))) :=
  (pt_truth ha he).imp fun σ H Q ⟨F, e, b, e', R, q, w⟩ => by
    obtain ⟨x, e1, q1, q⟩ := bind_ok q
    refine ⟨F, e, x, e1, R, q1, fun v F' H' R' S' O' _ => ?_⟩
    obtain ⟨t, rfl⟩ := truM_ok R' O' q
    exact ⟨b, t, w F' H' R' S'⟩
theorem snt_not {m : MB} (ha : PT X a (tT X.kw (evB cf m))) : PT X (.UnaryOp .Not a pos) (tT X.kw (evB cf (.nott m))) :=
  (pt_not ha).imp fun σ H Q ⟨F, e, b, e', R, q, w⟩ => by
    obtain ⟨x, e1, q1, q⟩ := bind_ok q
    obtain ⟨p6, p6'⟩ := pure_ok q
    subst p6 p6'
    exact ⟨F, e, x, e1, R, q1, w⟩
theorem snt_and {m m' : MB} {rest : List Expr} (ha : PT X a (tT X.kw (evB cf m))) (hb : PW X (.BoolOp .And (b :: rest) pos) (tT X.kw (evB cf m'))) : PW X (.BoolOp .And (a :: b :: rest) pos) (tT X.kw (evB cf (.andd m m'))) := by
  refine ⟨fun wh pins s σ H Q I h => (pw_and ha hb).run wh pins s σ H Q I ?_⟩
  obtain ⟨F, e, r, e', R, q, w⟩ := h
  obtain ⟨x, e1, q1, q⟩ := bind_ok q
  refine ⟨F, e, x, e1, R, q1, fun F1 H1 R1 S1 => ?_⟩
  cases x with
  | false =>
    obtain ⟨p6, p6'⟩ := pure_ok (show (pure false : M Bool) e1 = .ok r e' from q)
    subst p6 p6'
    exact w F1 H1 R1 S1
  | true => exact ⟨F1, e1, r, e', R1, q, fun F2 H2 R2 S2 => w F2 H2 R2 (S1.trans S2)⟩
theorem snt_or {m m' : MB} {rest : List Expr} (ha : PT X a (tT X.kw (evB cf m))) (hb : PW X (.BoolOp .Or (b :: rest) pos) (tT X.kw (evB cf m'))) : PW X (.BoolOp .Or (a :: b :: rest) pos) (tT X.kw (evB cf (.orr m m'))) := by
  refine ⟨fun wh pins s σ H Q I h => (pw_or ha hb).run wh pins s σ H Q I ?_⟩
  obtain ⟨F, e, r, e', R, q, w⟩ := h
  obtain ⟨x, e1, q1, q⟩ := bind_ok q
  refine ⟨F, e, x, e1, R, q1, fun F1 H1 R1 S1 => ?_⟩
  cases x with
  | true =>
    obtain ⟨p6, p6'⟩ := pure_ok (show (pure true : M Bool) e1 = .ok r e' from q)
    subst p6 p6'
    exact w F1 H1 R1 S1
  | false => exact ⟨F1, e1, r, e', R1, q, fun F2 H2 R2 S2 => w F2 H2 R2 (S1.trans S2)⟩
theorem snd_not (ha : PE X a (tE X.kw (evE cf ma))) : PE X (.UnaryOp .Not a pos) (tE X.kw (evE cf (.nott ma))) :=
  (pe_notT ha).imp fun σ H Q ⟨F, e, o, e', R, q, w⟩ => by
    obtain ⟨x, e1, q1, q⟩ := bind_ok q
    obtain ⟨t, e2, q2, q⟩ := bind_ok q
    obtain ⟨p6, p6'⟩ := pure_ok q
    subst p6 p6'
    refine ⟨F, e, x, e1, R, q1, fun v F' H' R' S' O' _ => ?_⟩
    obtain ⟨t', rfl⟩ := truM_ok R' O' q2
    exact ⟨t, t', w _ F' H' R' S' (.bl _) trivial⟩
theorem snd_and {rest : List Expr} (ha : PE X a (tE X.kw (evE cf ma))) (hb : PE X (.BoolOp .And (b :: rest) pos) (tE X.kw (evE cf mb))) : PE X (.BoolOp .And (a :: b :: rest) pos) (tE X.kw (evE cf (.andd ma mb))) :=
  (pe_andT ha hb).imp fun σ H Q ⟨F, e, o, e', R, q, w⟩ => by
    obtain ⟨x, e1, q1, q⟩ := bind_ok q
    obtain ⟨t, e2, q2, q⟩ := bind_ok q
    refine ⟨F, e, x, e1, R, q1, fun v F' H' R' S' O' N' => ?_⟩
    obtain ⟨t', rfl⟩ := truM_ok R' O' q2
    refine ⟨t, t', ?_⟩
    cases t with
    | true =>
      rw [if_pos rfl]
      exact ⟨F', e1, o, e', R', q, fun v2 F2 H2 R2 S2 O2 N2 => w v2 F2 H2 R2 (S'.trans S2) O2 (N2.back S')⟩
    | false =>
      rw [if_neg (by simp)]
      obtain ⟨p6, p6'⟩ := pure_ok (show (pure x : M Opd) e1 = .ok o e' from q)
      subst p6 p6'
      exact w _ F' H' R' S' O' N'
theorem snd_or {rest : List Expr} (ha : PE X a (tE X.kw (evE cf ma))) (hb : PE X (.BoolOp .Or (b :: rest) pos) (tE X.kw (evE cf mb))) : PE X (.BoolOp .Or (a :: b :: rest) pos) (tE X.kw (evE cf (.orr ma mb))) :=
  (pe_orT ha hb).imp fun σ H Q ⟨F, e, o, e', R, q, w⟩ => by
    obtain ⟨x, e1, q1, q⟩ := bind_ok q
    obtain ⟨t, e2, q2, q⟩ := bind_ok q
    refine ⟨F, e, x, e1, R, q1, fun v F' H' R' S' O' N' => ?_⟩
    obtain ⟨t', rfl⟩ := truM_ok R' O' q2
    refine ⟨t, t', ?_⟩
    cases t with
    | false =>
      rw [if_neg (by simp)]
      exact ⟨F', e1, o, e', R', q, fun v2 F2 H2 R2 S2 O2 N2 => w v2 F2 H2 R2 (S'.trans S2) O2 (N2.back S')⟩
    | true =>
      rw [if_pos rfl]
      obtain ⟨p6, p6'⟩ := pure_ok (show (pure x : M Opd) e1 = .ok o e' from q)
      subst p6 p6'
      exact w _ F' H' R' S' O' N'
theorem snd_ite {m : MB} (hc : PT X c (tT X.kw (evB cf m))) (ha : PE X a (tE X.kw (evE cf ma))) (hb : PE X b (tE X.kw (evE cf mb))) : PE X (.IfExp c a b pos) (tE X.kw (evE cf (.ite m ma mb))) :=
  (pe_ifExp hc ha hb).imp fun σ H Q ⟨F, e, o, e', R, q, w⟩ => by
    obtain ⟨t, e1, q1, q⟩ := bind_ok q
    refine ⟨F, e, t, e1, R, q1, fun F' H' R' S' => ?_⟩
    cases t with
    | true =>
      rw [if_pos rfl]
      exact ⟨F', e1, o, e', R', q, fun v2 F2 H2 R2 S2 O2 N2 => w v2 F2 H2 R2 (S'.trans S2) O2 (N2.back S')⟩
    | false =>
      rw [if_neg (by simp)]
      exact ⟨F', e1, o, e', R', q, fun v2 F2 H2 R2 S2 O2 N2 => w v2 F2 H2 R2 (S'.trans S2) O2 (N2.back S')⟩

/-! ### argument lists, displays -/
theorem sna_nil : PA X [] (tA X.kw (evEs cf .nil)) := pa_nil.imp fun σ H Q ⟨F, e, os, e', R, q, w⟩ => by
  obtain ⟨p6, p6'⟩ := pure_ok (show (pure [] : M (List Opd)) e = .ok os e' from q)
  subst p6 p6'
  exact w [] F H R .refl trivial
theorem sna_cons {es : List Expr} {ms : MEs} (ha : PE X a (tE X.kw (evE cf ma))) (hs : PA X es (tA X.kw (evEs cf ms))) (hst : starEach (a :: es) X.env = (false, eval a X.env) :: starEach es X.env) : PA X (a :: es) (tA X.kw (evEs cf (.cons ma ms))) :=
  (pa_cons ha hs hst).imp fun σ H Q ⟨F, e, os, e', R, q, w⟩ => by
    obtain ⟨o, e1, q1, q⟩ := bind_ok q
    obtain ⟨os', e2, q2, q⟩ := bind_ok q
    obtain ⟨p6, p6'⟩ := pure_ok q
    subst p6 p6'
    refine ⟨F, e, o, e1, R, q1, fun v1 F1 H1 R1 S1 O1 N1 => ⟨F1, e1, os', e2, R1, q2, fun vs F2 H2 R2 S2 O2 => ?_⟩⟩
    refine w (v1 :: vs) F2 H2 R2 (S1.trans S2) ⟨O1.step S2, N1, fun a ha ⟨b, hb⟩ j b' hj hj' => ?_, O2.back S1⟩
    subst ha hb
    obtain ⟨a', e1, _, _, h4⟩ := O1
    cases e1
    obtain ⟨ho, h5⟩ := h4.some_
    rw [O2.fr_at hj hj'] at h5
    cases h5
theorem snd_tup {es : List Expr} {ms : MEs} {x1 : Nat} (hs : PA X es (tA X.kw (evEs cf ms))) : PE X (.Tuple es x1 pos) (tE X.kw (evE cf (.tup ms))) :=
  (pe_tupU hs).imp fun σ H Q ⟨F, e, o, e', R, q, w⟩ => by
    obtain ⟨os, e1, q1, q⟩ := bind_ok q
    obtain ⟨ds, e2, q2, q⟩ := bind_ok q
    refine ⟨F, e, os, e1, R, q1, fun vs F1 H1 R1 S1 O1 => ?_⟩
    obtain ⟨F2, R2, S2, r2, m2⟩ := escs_ok R1 S1 O1 q2
    split at q
    · rename_i hz
      obtain ⟨p6, p6'⟩ := pure_ok q
      subst p6 p6'
      refine ⟨by rw [r2.length]; exact hz, fun p ob hd hp => ?_⟩
      have x := Ext.tup (p := p) (o := ob) (xs := vs) R2.fz hp
      exact w _ _ _ (R2.ext x) (S2.trans x.stp) (.tup (.inl ⟨ob, upd_same, hd⟩) (RpAll.mono (same_upd (R2.fz.none_ hp)) _ _ r2)) trivial
    · obtain ⟨q, _⟩ := lift_ok q; cases q
theorem snd_lst {es : List Expr} {ms : MEs} (hs : PA X es (tA X.kw (evEs cf ms))) : PE X (.List es pos) (tE X.kw (evE cf (.lst ms))) :=
  (pe_lst hs).imp fun σ H Q ⟨F, e, o, e', R, q, w⟩ => by
    obtain ⟨os, e1, q1, q⟩ := bind_ok q
    obtain ⟨ds, e2, q2, q⟩ := bind_ok q
    refine ⟨F, e, os, e1, R, q1, fun vs F1 H1 R1 S1 O1 => ?_⟩
    obtain ⟨F2, R2, S2, r2, m2⟩ := escs_ok R1 S1 O1 q2
    split at q
    · rename_i hz
      obtain ⟨p6, p6'⟩ := pure_ok q
      subst p6 p6'
      refine ⟨by rw [r2.length]; exact hz, fun p hp => ?_⟩
      have x := Ext.lst (p := p) (o := .lst vs) R2.fz hp
      exact fin_rv (rv := .new (.lst ds)) R2 S2 w _ _ _ x ⟨p, rfl, R2.fz.none_ hp, vs, upd_same, r2⟩ (fun a e => by cases e; exact hp)
    · obtain ⟨q, _⟩ := lift_ok q; cases q
/-! ### o[i], o[i:j] -/
theorem snd_ix (hr : Room k X.A) (ha : PE X a (tE X.kw (evE cf ma))) (hb : PE X b (tE X.kw (evE cf mb))) (hs : PlainIx b) : PE X (.Subscript a b pos) (tE X.kw (evE cf (.ix ma mb))) :=
  (pe_ix (ixr hr) ha hb hs).imp fun σ H Q ⟨F, e, o, e', R, q, w⟩ => by
    obtain ⟨x, e1, q1, q⟩ := bind_ok q
    obtain ⟨y, e2, q2, q⟩ := bind_ok q
    obtain ⟨r, e3, q3, q⟩ := bind_ok q
    obtain ⟨p3, p3'⟩ := vwM_ok q3
    subst p3'
    obtain ⟨d', e4, q4, q⟩ := bind_ok q
    obtain ⟨p4, p4'⟩ := rdM_ok q4
    subst p4'
    obtain ⟨r', e5, q5, q⟩ := bind_ok q
    obtain ⟨p5, p5'⟩ := lift_ok q5
    subst p5'
    obtain ⟨p6, p6'⟩ := pure_ok q
    subst p6 p6'
    refine ⟨F, e, x, e1, R, q1, fun v1 F1 H1 R1 S1 O1 N1 => ⟨F1, e1, y, e2, R1, q2, fun v2 F2 H2 R2 S2 O2 N2 => ?_⟩⟩
    exact ⟨F2, r, d', r', R2.fz, vw_lw R2 (O1.step S2) p3, rd_lt R2 O2 p4, p5, fun v hv => w v F2 H2 R2 (S1.trans S2) hv trivial⟩
def tO (K : KW) (m : M (Option Int)) : TO := fun σ H Q => ∃ F e o e', RR K F H σ e ∧ m e = .ok o e' ∧ ∀ F' H', RR K F' H' σ e' → Stp σ F H e σ F' H' e' → Q o H'
theorem sno_none : PO X none (tO X.kw (evO cf .none)) := ⟨fun pins s σ H Q I ⟨F, e, o, e', R, q, w⟩ => by
  obtain ⟨p6, p6'⟩ := pure_ok (show (pure none : M (Option Int)) e = .ok o e' from q)
  subst p6 p6'
  exact po_none.run pins s σ H Q I (w F H R .refl)⟩
theorem sno_some (ha : PE X a (tE X.kw (evE cf ma))) : PO X (some a) (tO X.kw (evO cf (.some ma))) := ⟨fun pins s σ H Q I ⟨F, e, o, e', R, q, w⟩ => by
  refine (po_some ha).run pins s σ H Q I ?_
  obtain ⟨x, e1, q1, q⟩ := bind_ok q
  obtain ⟨d, e3, q3, q⟩ := bind_ok q
  obtain ⟨p3, p3'⟩ := rdM_ok q3
  subst p3'
  refine ⟨F, e, x, e1, R, q1, fun v1 F1 H1 R1 S1 O1 N1 => ?_⟩
  have l := rd_lt R1 O1 p3
  cases d with
  | int i =>
    obtain ⟨p6, p6'⟩ := pure_ok (show (pure (some i) : M (Option Int)) e1 = .ok o e' from q)
    subst p6 p6'
    obtain rfl := l.int
    exact ⟨i, rfl, w F1 H1 R1 S1⟩
  | none => obtain ⟨q, _⟩ := lift_ok (show lift none e1 = .ok o e' from q); cases q
  | bool _ => obtain ⟨q, _⟩ := lift_ok (show lift none e1 = .ok o e' from q); cases q
  | str _ => obtain ⟨q, _⟩ := lift_ok (show lift none e1 = .ok o e' from q); cases q
  | list _ => obtain ⟨q, _⟩ := lift_ok (show lift none e1 = .ok o e' from q); cases q
  | tuple _ => obtain ⟨q, _⟩ := lift_ok (show lift none e1 = .ok o e' from q); cases q
  | dict _ => obtain ⟨q, _⟩ := lift_ok (show lift none e1 = .ok o e' from q); cases q⟩
theorem snd_sl {lo hi : Option Expr} {ml mh : MO} {p2 : Pos} (ha : PE X a (tE X.kw (evE cf ma))) (hl : PO X lo (tO X.kw (evO cf ml))) (hh : PO X hi (tO X.kw (evO cf mh))) : PE X (.Subscript a (.Slice lo hi none p2) pos) (tE X.kw (evE cf (.sl ma ml mh))) :=
  (pe_slice slr ha hl hh).imp fun σ H Q ⟨F, e, o, e', R, q, w⟩ => by
    obtain ⟨x, e1, q1, q⟩ := bind_ok q
    obtain ⟨l, e2, q2, q⟩ := bind_ok q
    obtain ⟨h, e3, q3, q⟩ := bind_ok q
    obtain ⟨d', e4, q4, q⟩ := bind_ok q
    obtain ⟨p4, p4'⟩ := rdM_ok q4
    subst p4'
    obtain ⟨r', e5, q5, q⟩ := bind_ok q
    obtain ⟨p5, p5'⟩ := lift_ok q5
    subst p5'
    obtain ⟨p6, p6'⟩ := pure_ok q
    subst p6 p6'
    refine ⟨F, e, x, e1, R, q1, fun v1 F1 H1 R1 S1 O1 N1 => ⟨F1, e1, l, e2, R1, q2, fun F2 H2 R2 S2 => ⟨F2, e2, h, e3, R2, q3, fun F3 H3 R3 S3 => ?_⟩⟩⟩
    exact ⟨F3, d', r', R3.fz, rd_lt R3 ((O1.step S2).step S3) p4, p5, fin_rv R3 ((S1.trans S2).trans S3) w⟩
/-! ### built-ins -/
theorem bi_imp {b : Bi} {ms : MEs} : ∀ σ H Q, tE X.kw (evE cf (.bi b ms)) σ H Q → tCB (rBi X.kw b) (tA X.kw (evEs cf ms)) σ H Q := fun σ H Q ⟨F, e, o, e', R, q, w⟩ => by
  obtain ⟨os, e1, q1, q⟩ := bind_ok q
  obtain ⟨ds, e2, q2, q⟩ := bind_ok q
  obtain ⟨r', e5, q5, q⟩ := bind_ok q
  obtain ⟨p5, p5'⟩ := lift_ok q5
  subst p5'
  obtain ⟨p6, p6'⟩ := pure_ok q
  subst p6 p6'
  refine ⟨F, e, os, e1, R, q1, fun vs F1 H1 R1 S1 O1 => ?_⟩
  obtain ⟨l, rfl⟩ := rds_lt R1 O1 q2
  exact ⟨F1, ds, r', R1.fz, l, p5, fin_rv R1 S1 w⟩
theorem isa_imp {t : Ty} : ∀ σ H Q, tE X.kw (evE cf (.bi (.isa [t]) (.cons ma .nil))) σ H Q → tCB (rIsa X.kw t) (tCons (tE X.kw (evE cf ma)) (tCons (tC (.ty (tyN t))) tNil)) σ H Q := fun σ H Q ⟨F, e, o, e', R, q, w⟩ => by
  obtain ⟨os, e1, q1, q⟩ := bind_ok q
  obtain ⟨x, e0, q0, q1⟩ := bind_ok q1
  obtain ⟨os', e0', q0', q1⟩ := bind_ok q1
  obtain ⟨p7, p7'⟩ := pure_ok (show (pure [] : M (List Opd)) e0 = .ok os' e0' from q0')
  subst p7 p7'
  obtain ⟨p8, p8'⟩ := pure_ok q1
  subst p8 p8'
  obtain ⟨ds, e2, q2, q⟩ := bind_ok q
  obtain ⟨d, e3, q3, q2⟩ := bind_ok q2
  obtain ⟨p3, p3'⟩ := rdM_ok q3
  subst p3'
  obtain ⟨ds', e4, q4, q2⟩ := bind_ok q2
  obtain ⟨p9, p9'⟩ := pure_ok (show (pure [] : M (List D)) e0 = .ok ds' e4 from q4)
  subst p9 p9'
  obtain ⟨p10, p10'⟩ := pure_ok q2
  subst p10 p10'
  obtain ⟨r', e5, q5, q⟩ := bind_ok q
  obtain ⟨p5, p5'⟩ := lift_ok q5
  subst p5'
  obtain ⟨p6, p6'⟩ := pure_ok q
  subst p6 p6'
  refine ⟨F, e, x, e0, R, q0, fun v1 F1 H1 R1 S1 O1 N1 => ?_⟩
  have p5 : (if isDictD d then none else some (RV.val (.bool ([t].any fun t => isaD t d)))) = some r' := p5
  cases hd : isDictD d with
  | true => rw [hd, if_pos rfl] at p5; cases p5
  | false =>
    rw [hd, if_neg (by simp)] at p5
    cases p5
    refine ⟨F1, v1, d, R1.fz, rfl, rd_lt R1 O1 p3, hd, ?_⟩
    have := w (.bl (isaD t d)) F1 H1 R1 S1 (by
      show Rp X.kw F1 _ (.bool ([t].any fun t => isaD t d))
      rw [List.any_cons, List.any_nil, Bool.or_false]
      exact .bl _) trivial
    exact this
end
end Ev
/-! calls of defs -/
namespace Ev
open PySem PySem.Spec PyProof.Rows L2
section
variable {K : KW} {F F0 F' H H0 H' : Hp} {σ σ0 σ' : S2} {e e0 e' : En} {v : V} {a : Addr} {vs : List V}
/-- what a def leaves -/
structure CP (K : KW) (F H : Hp) (vs : List V) (as : List Slot) (r : RV) (outs : List Slot) (v : V) (F' H' : Hp) : Prop where
  fz : Same F' H'
  fr : Same F F'
  keep : ∀ b o, H b = some o → (∀ i, ¬ OwnAt (vs.map some) as i b) → H' b = some o
  nw : ∀ b o, F' b = some o → (∃ o', F b = some o') ∨ H b = none ∨ ∃ i, OwnAt (vs.map some) as i b
  ex : ∀ b o, H b = some o → ∃ o', H' b = some o'
  res : RvR K F' H' v r
  frs : Frs H v r
  outs : ∀ (i : Nat) (ob ob' : Ob) (a : Addr), as[i]? = some (.pa ob) → vs[i]? = some (.ref a) → outs[i]? = some (.pa ob') → F' a = none ∧ ObR K F' H' a ob'
def spE (K : KW) (c : List Slot → CR) : Sp := fun vs H Q _ => ∃ F as r outs, RR K F H (vs.map some) as ∧ (∀ (i : Nat) (o : Ob), as[i]? ≠ some (.ow o)) ∧ c as = .ok r outs ∧
  ∀ v F' H', CP K F H vs as r outs v F' H' → Q v H'

theorem argOf_at {o : Opd} {s : Slot} (R : RR K F H σ e) (h : OR K F H σ e v o) (q : argOf o e = some s) : SlR K F H (some (some v)) s ∧ (∀ ob, s ≠ .ow ob) ∧
    (isOwn s = true → ∃ a, v = .ref a ∧ ((∃ b, o = .new b) ∨ ∃ i, o = .slot i ∧ OwnAt σ e i a)) := by
  cases o with
  | val d => cases q; exact ⟨⟨v, rfl, h⟩, fun _ => by simp, fun z => by cases z⟩
  | new b =>
    cases q
    obtain ⟨a, rfl, h1, h2, h3⟩ := h
    exact ⟨⟨a, rfl, h1, h3⟩, fun _ => by simp, fun _ => ⟨a, rfl, .inl ⟨b, rfl⟩⟩⟩
  | slot i =>
    have h : σ[i]? = some (some v) := h
    have q : (match e[i]? with
      | some (.sh d) => some (Slot.sh d)
      | some (.ow o) => some (.pa o)
      | some (.pa o) => some (.pa o)
      | _ => none) = some s := q
    cases hs : e[i]? with
    | none => rw [hs] at q; cases q
    | some t =>
      rw [hs] at q
      have := R.at_ i t hs
      cases t with
      | no => cases q
      | sh d =>
        cases q
        obtain ⟨w, e1, e2⟩ := this
        rw [h] at e1; cases e1
        exact ⟨⟨v, rfl, e2⟩, fun _ => by simp, fun z => by cases z⟩
      | ow ob =>
        cases q
        obtain ⟨a, e1, e2, e3⟩ := this
        rw [h] at e1; cases e1
        exact ⟨⟨a, rfl, e2, e3⟩, fun _ => by simp, fun _ => ⟨a, rfl, .inr ⟨i, rfl, _, hs, rfl, h⟩⟩⟩
      | pa ob =>
        cases q
        obtain ⟨a, e1, e2, e3⟩ := this
        rw [h] at e1; cases e1
        exact ⟨⟨a, rfl, e2, e3⟩, fun _ => by simp, fun _ => ⟨a, rfl, .inr ⟨i, rfl, _, hs, rfl, h⟩⟩⟩
theorem argsOf_at : ∀ {os : List Opd} {as : List Slot}, argsOf os e = some as → os.length = as.length ∧ ∀ (i : Nat) (s : Slot), as[i]? = some s → ∃ o, os[i]? = some o ∧ argOf o e = some s
  | [], as, h => by
    have : some [] = some as := h
    cases this
    exact ⟨rfl, fun i s h => by simp at h⟩
  | o :: os, as, h => by
    have h : (argOf o e).bind (fun s => (argsOf os e).map (s :: ·)) = some as := h
    cases h1 : argOf o e with
    | none => rw [h1] at h; cases h
    | some s =>
      rw [h1] at h
      have h : (argsOf os e).map (s :: ·) = some as := h
      cases h2 : argsOf os e with
      | none => rw [h2] at h; cases h
      | some ss =>
        rw [h2] at h
        cases h
        obtain ⟨l, g⟩ := argsOf_at h2
        refine ⟨by simp [l], fun i t hi => ?_⟩
        cases i with
        | zero => simp at hi; subst hi; exact ⟨o, rfl, h1⟩
        | succ i => exact g i t (by simpa using hi)
theorem ORs.at : ∀ {vs : List V} {os : List Opd} {i : Nat} {o : Opd}, ORs K F H σ e H0 vs os → os[i]? = some o → ∃ v, vs[i]? = some v ∧ OR K F H σ e v o ∧ FrO H0 v o
  | [], [], _, _, _, h => by simp at h
  | v :: vs, o :: os, 0, o', ⟨h1, h2, _, _⟩, h => by simp at h; subst h; exact ⟨v, rfl, h1, h2⟩
  | v :: vs, o :: os, i + 1, o', ⟨_, _, _, h4⟩, h => by
    obtain ⟨w, e1, e2⟩ := ORs.at (i := i) h4 (by simpa using h)
    exact ⟨w, by simpa using e1, e2⟩
theorem ORs.apart : ∀ {vs : List V} {os : List Opd} {i j : Nat} {a : Addr} {b b' : Ob}, ORs K F H σ e H0 vs os → os[i]? = some (.new b) → os[j]? = some (.new b') → vs[i]? = some (.ref a) → vs[j]? = some (.ref a) → i = j
  | [], [], _, _, _, _, _, _, h, _, _, _ => by simp at h
  | v :: vs, o :: os, 0, 0, _, _, _, _, _, _, _, _ => rfl
  | v :: vs, o :: os, 0, j + 1, a, b, b', ⟨_, _, h3, _⟩, h, h', g, g' => by
    simp at h g
    exact absurd (by simpa using g') (h3 a g ⟨b, h⟩ j b' (by simpa using h'))
  | v :: vs, o :: os, i + 1, 0, a, b, b', ⟨_, _, h3, _⟩, h, h', g, g' => by
    simp at h' g'
    exact absurd (by simpa using g) (h3 a g' ⟨b', h'⟩ i b (by simpa using h))
  | v :: vs, o :: os, i + 1, j + 1, a, b, b', ⟨_, _, _, h4⟩, h, h', g, g' => by
    rw [ORs.apart (i := i) (j := j) h4 (by simpa using h) (by simpa using h') (by simpa using g) (by simpa using g')]
theorem moved_mem : ∀ {os : List Opd} {i j : Nat} {s : Slot}, os[i]? = some (.slot j) → e[j]? = some s → isOwn s = true → j ∈ moved os e
  | [], _, _, _, h, _, _ => by simp at h
  | o :: os, 0, j, s, h, hs, ho => by
    simp at h
    subst h
    unfold moved
    rw [hs]
    cases s <;> first | (cases ho; done) | exact List.mem_cons_self
  | o :: os, i + 1, j, s, h, hs, ho => by
    have ih := moved_mem (os := os) (i := i) (by simpa using h) hs ho
    unfold moved
    cases o with
    | val _ => exact ih
    | new _ => exact ih
    | slot k =>
      dsimp only
      split
      · exact List.mem_cons_of_mem _ ih
      · exact List.mem_cons_of_mem _ ih
      · exact ih
theorem moved_apart : ∀ {os : List Opd} {i i' j : Nat} {s : Slot}, (moved os e).Nodup → os[i]? = some (.slot j) → os[i']? = some (.slot j) → e[j]? = some s → isOwn s = true → i = i'
  | [], _, _, _, _, _, h, _, _, _ => by simp at h
  | o :: os, 0, 0, j, s, _, _, _, _, _ => rfl
  | o :: os, 0, i' + 1, j, s, nd, h, h', hs, ho => by
    simp at h
    subst h
    have m := moved_mem (os := os) (i := i') (by simpa using h') hs ho
    unfold moved at nd
    rw [hs] at nd
    cases s with
    | no => cases ho
    | sh _ => cases ho
    | ow _ => exact absurd m (List.nodup_cons.mp nd).1
    | pa _ => exact absurd m (List.nodup_cons.mp nd).1
  | o :: os, i + 1, 0, j, s, nd, h, h', hs, ho => by
    simp at h'
    subst h'
    have m := moved_mem (os := os) (i := i) (by simpa using h) hs ho
    unfold moved at nd
    rw [hs] at nd
    cases s with
    | no => cases ho
    | sh _ => cases ho
    | ow _ => exact absurd m (List.nodup_cons.mp nd).1
    | pa _ => exact absurd m (List.nodup_cons.mp nd).1
  | o :: os, i + 1, i' + 1, j, s, nd, h, h', hs, ho => by
    have nd' : (moved os e).Nodup := by
      unfold moved at nd
      cases o with
      | val _ => exact nd
      | new _ => exact nd
      | slot k =>
        dsimp only at nd
        split at nd
        · exact (List.nodup_cons.mp nd).2
        · exact (List.nodup_cons.mp nd).2
        · exact nd
    rw [moved_apart (i := i) (i' := i') nd' (by simpa using h) (by simpa using h') hs ho]
/-- who owns what the callee is handed -/
theorem args_own {os : List Opd} {as : List Slot} (R : RR K F H σ e) (h : ORs K F H σ e H0 vs os) (q : argsOf os e = some as) {i : Nat} {a : Addr} (w : OwnAt (vs.map some) as i a) :
    vs[i]? = some (.ref a) ∧ ((∃ b, os[i]? = some (.new b)) ∨ ∃ j, os[i]? = some (.slot j) ∧ OwnAt σ e j a) := by
  obtain ⟨s, w1, w2, w3⟩ := w
  obtain ⟨_, g⟩ := argsOf_at q
  obtain ⟨o, g1, g2⟩ := g i s w1
  obtain ⟨v, g3, g4, g5⟩ := h.at g1
  rw [List.getElem?_map, g3] at w3
  have : v = .ref a := Option.some.inj (Option.some.inj w3)
  subst this
  obtain ⟨_, _, g6⟩ := argOf_at R g4 g2
  obtain ⟨a', e1, g7⟩ := g6 w2
  cases e1
  refine ⟨g3, ?_⟩
  rcases g7 with ⟨b, rfl⟩ | ⟨j, rfl, oj⟩
  · exact .inl ⟨b, g1⟩
  · exact .inr ⟨j, g1, oj⟩
theorem args_rr {os : List Opd} {as : List Slot} (R : RR K F H σ e) (h : ORs K F H σ e H0 vs os) (q : argsOf os e = some as) (nd : (moved os e).Nodup) : RR K F H (vs.map some) as ∧ ∀ (i : Nat) (o : Ob), as[i]? ≠ some (.ow o) := by
  obtain ⟨l, g⟩ := argsOf_at q
  have at_ : ∀ (i : Nat) (s : Slot), as[i]? = some s → SlR K F H ((vs.map some)[i]?) s ∧ ∀ ob, s ≠ .ow ob := fun i s hi => by
    obtain ⟨o, g1, g2⟩ := g i s hi
    obtain ⟨v, g3, g4, g5⟩ := h.at g1
    obtain ⟨p1, p2, _⟩ := argOf_at R g4 g2
    rw [List.getElem?_map, g3]
    exact ⟨p1, p2⟩
  refine ⟨⟨R.fz, by rw [List.length_map, h.length, l], fun i s hi => (at_ i s hi).1, fun i j a hi hj => ?_⟩, fun i o hi => (at_ i _ hi).2 o rfl⟩
  obtain ⟨v1, h1⟩ := args_own R h q hi
  obtain ⟨v2, h2⟩ := args_own R h q hj
  rcases h1 with ⟨b1, h1⟩ | ⟨j1, h1, o1⟩
  · rcases h2 with ⟨b2, h2⟩ | ⟨j2, h2, o2⟩
    · exact h.apart h1 h2 v1 v2
    · obtain ⟨v, g3, g4, _⟩ := h.at h1
      rw [v1] at g3; cases g3
      obtain ⟨a', e1, _, n, _⟩ := g4
      cases e1
      exact absurd o2 (n j2)
  · rcases h2 with ⟨b2, h2⟩ | ⟨j2, h2, o2⟩
    · obtain ⟨v, g3, g4, _⟩ := h.at h2
      rw [v2] at g3; cases g3
      obtain ⟨a', e1, _, n, _⟩ := g4
      cases e1
      exact absurd o1 (n j1)
    · have := R.dis j1 j2 a o1 o2
      subst this
      obtain ⟨s, s1, s2, _⟩ := o1
      exact moved_apart nd h1 h2 s1 s2
theorem moved_set {i : Nat} {s : Slot} : ∀ {os : List Opd}, (∀ k : Nat, os[k]? ≠ some (.slot i)) → moved os (e.set i s) = moved os e
  | [], _ => rfl
  | o :: os, h => by
    have ih := moved_set (s := s) (os := os) (i := i) fun k => by have := h (k + 1); simpa using this
    cases o with
    | val _ => exact ih
    | new _ => exact ih
    | slot j =>
      have hj : i ≠ j := by rintro rfl; exact h 0 rfl
      unfold moved
      rw [List.getElem?_set_ne hj, ih]
theorem wb_spec : ∀ {os : List Opd} {outs : List Slot} {e : En}, (moved os e).Nodup → (wb os outs e).length = e.length ∧ ∀ (j : Nat) (s' : Slot), (wb os outs e)[j]? = some s' →
    (e[j]? = some s' ∧ (isOwn s' = true → ∀ i : Nat, os[i]? ≠ some (.slot j))) ∨
    ∃ (i : Nat) (s : Slot), os[i]? = some (.slot j) ∧ e[j]? = some s ∧ isOwn s = true ∧ (s' = .no ∨ ∃ ob, outs[i]? = some (.pa ob) ∧ ((∃ o, s = .ow o ∧ s' = .ow ob) ∨ (∃ o, s = .pa o ∧ s' = .pa ob)))
  | [], outs, e, _ => ⟨rfl, fun j s' h => .inl ⟨h, fun _ i => by simp⟩⟩
  | .val d :: os, outs, e, nd => by
    obtain ⟨l, g⟩ := wb_spec (os := os) (outs := outs.tail) (e := e) nd
    refine ⟨l, fun j s' h => ?_⟩
    rcases g j s' h with ⟨g1, g2⟩ | ⟨i, s, g1, g2, g3, g4⟩
    · refine .inl ⟨g1, fun ho i => ?_⟩
      cases i with
      | zero => simp
      | succ i => simpa using g2 ho i
    · exact .inr ⟨i + 1, s, by simpa using g1, g2, g3, by rw [List.getElem?_tail] at g4; exact g4⟩
  | .new d :: os, outs, e, nd => by
    obtain ⟨l, g⟩ := wb_spec (os := os) (outs := outs.tail) (e := e) nd
    refine ⟨l, fun j s' h => ?_⟩
    rcases g j s' h with ⟨g1, g2⟩ | ⟨i, s, g1, g2, g3, g4⟩
    · refine .inl ⟨g1, fun ho i => ?_⟩
      cases i with
      | zero => simp
      | succ i => simpa using g2 ho i
    · exact .inr ⟨i + 1, s, by simpa using g1, g2, g3, by rw [List.getElem?_tail] at g4; exact g4⟩
  | .slot k :: os, outs, e, nd => by
    have main : ∀ (s t : Slot), e[k]? = some s → isOwn s = true → (moved os e).Nodup → k ∉ moved os e → wb (.slot k :: os) outs e = wb os outs.tail (e.set k t) → (t = .no ∨ ∃ ob, outs[0]? = some (.pa ob) ∧ ((∃ o, s = .ow o ∧ t = .ow ob) ∨ (∃ o, s = .pa o ∧ t = .pa ob))) →
        (wb (.slot k :: os) outs e).length = e.length ∧ ∀ (j : Nat) (s' : Slot), (wb (.slot k :: os) outs e)[j]? = some s' →
        (e[j]? = some s' ∧ (isOwn s' = true → ∀ i : Nat, (Opd.slot k :: os)[i]? ≠ some (.slot j))) ∨
        ∃ (i : Nat) (s : Slot), (Opd.slot k :: os)[i]? = some (.slot j) ∧ e[j]? = some s ∧ isOwn s = true ∧ (s' = .no ∨ ∃ ob, outs[i]? = some (.pa ob) ∧ ((∃ o, s = .ow o ∧ s' = .ow ob) ∨ (∃ o, s = .pa o ∧ s' = .pa ob))) := fun s t hs ho nd' hk ew ht => by
      have hno : ∀ i : Nat, os[i]? ≠ some (.slot k) := fun i hi => hk (moved_mem hi hs ho)
      obtain ⟨l, g⟩ := wb_spec (os := os) (outs := outs.tail) (e := e.set k t) (by rw [moved_set hno]; exact nd')
      rw [ew]
      refine ⟨by rw [l]; simp, fun j s' h => ?_⟩
      have hkl : k < e.length := (List.getElem?_eq_some_iff.mp hs).1
      rcases g j s' h with ⟨g1, g2⟩ | ⟨i, s2, g1, g2, g3, g4⟩
      · by_cases hj : k = j
        · subst hj
          rw [List.getElem?_set_self hkl] at g1
          cases g1
          exact .inr ⟨0, s, rfl, hs, ho, ht⟩
        · rw [List.getElem?_set_ne hj] at g1
          refine .inl ⟨g1, fun ho i => ?_⟩
          cases i with
          | zero => simpa using hj
          | succ i => simpa using g2 ho i
      · by_cases hj : k = j
        · subst hj; exact absurd g1 (hno i)
        · rw [List.getElem?_set_ne hj] at g2
          exact .inr ⟨i + 1, s2, by simpa using g1, g2, g3, by rw [List.getElem?_tail] at g4; exact g4⟩
    have hd : ∀ x : Slot, outs.headD .no = x → x = .no ∨ outs[0]? = some x := fun x hx => by
      cases outs with
      | nil => exact .inl hx.symm
      | cons y ys => exact .inr (by rw [← hx]; rfl)
    cases hs : e[k]? with
    | none =>
      have ew : wb (.slot k :: os) outs e = wb os outs.tail e := by rw [wb]; rw [hs]
      have em : moved (.slot k :: os) e = moved os e := by rw [moved]; rw [hs]
      rw [em] at nd
      obtain ⟨l, g⟩ := wb_spec (os := os) (outs := outs.tail) (e := e) nd
      rw [ew]
      refine ⟨l, fun j s' h => ?_⟩
      rcases g j s' h with ⟨g1, g2⟩ | ⟨i, s, g1, g2, g3, g4⟩
      · refine .inl ⟨g1, fun ho i => ?_⟩
        cases i with
        | zero => rintro hz; simp at hz; subst hz; rw [hs] at g1; cases g1
        | succ i => simpa using g2 ho i
      · exact .inr ⟨i + 1, s, by simpa using g1, g2, g3, by rw [List.getElem?_tail] at g4; exact g4⟩
    | some s =>
      have plain : isOwn s = false → wb (.slot k :: os) outs e = wb os outs.tail e → moved (.slot k :: os) e = moved os e → (wb (.slot k :: os) outs e).length = e.length ∧ ∀ (j : Nat) (s' : Slot), (wb (.slot k :: os) outs e)[j]? = some s' →
          (e[j]? = some s' ∧ (isOwn s' = true → ∀ i : Nat, (Opd.slot k :: os)[i]? ≠ some (.slot j))) ∨
          ∃ (i : Nat) (s : Slot), (Opd.slot k :: os)[i]? = some (.slot j) ∧ e[j]? = some s ∧ isOwn s = true ∧ (s' = .no ∨ ∃ ob, outs[i]? = some (.pa ob) ∧ ((∃ o, s = .ow o ∧ s' = .ow ob) ∨ (∃ o, s = .pa o ∧ s' = .pa ob))) := fun hn ew em => by
        rw [em] at nd
        obtain ⟨l, g⟩ := wb_spec (os := os) (outs := outs.tail) (e := e) nd
        rw [ew]
        refine ⟨l, fun j s' h => ?_⟩
        rcases g j s' h with ⟨g1, g2⟩ | ⟨i, s, g1, g2, g3, g4⟩
        · refine .inl ⟨g1, fun ho i => ?_⟩
          cases i with
          | zero => rintro hz; simp at hz; subst hz; rw [hs] at g1; cases g1; rw [hn] at ho; cases ho
          | succ i => simpa using g2 ho i
        · exact .inr ⟨i + 1, s, by simpa using g1, g2, g3, by rw [List.getElem?_tail] at g4; exact g4⟩
      cases s with
      | no => exact plain rfl (by rw [wb]; rw [hs]) (by rw [moved]; rw [hs])
      | sh d => exact plain rfl (by rw [wb]; rw [hs]) (by rw [moved]; rw [hs])
      | ow o =>
        have em : moved (.slot k :: os) e = k :: moved os e := by rw [moved]; rw [hs]
        rw [em] at nd
        refine main (.ow o) (asOw (outs.headD .no)) hs rfl (List.nodup_cons.mp nd).2 (List.nodup_cons.mp nd).1 (by rw [wb]; rw [hs]) ?_
        rcases hd _ rfl with z | z
        · rw [z]; exact .inl rfl
        · revert z
          cases outs.headD .no with
          | pa ob => exact fun z => .inr ⟨ob, z, .inl ⟨o, rfl, rfl⟩⟩
          | no => exact fun _ => .inl rfl
          | sh _ => exact fun _ => .inl rfl
          | ow _ => exact fun _ => .inl rfl
      | pa o =>
        have em : moved (.slot k :: os) e = k :: moved os e := by rw [moved]; rw [hs]
        rw [em] at nd
        refine main (.pa o) (asPa (outs.headD .no)) hs rfl (List.nodup_cons.mp nd).2 (List.nodup_cons.mp nd).1 (by rw [wb]; rw [hs]) ?_
        rcases hd _ rfl with z | z
        · rw [z]; exact .inl rfl
        · revert z
          cases outs.headD .no with
          | pa ob => exact fun z => .inr ⟨ob, z, .inr ⟨o, rfl, rfl⟩⟩
          | no => exact fun _ => .inl rfl
          | sh _ => exact fun _ => .inl rfl
          | ow _ => exact fun _ => .inl rfl
/-- behind a call -/
theorem call_ok {os : List Opd} {as outs : List Slot} {r : RV} (R : RR K F H σ e) (S : Stp σ0 F0 H0 e0 σ F H e) (h : ORs K F H σ e H0 vs os) (q : argsOf os e = some as) (nd : (moved os e).Nodup) (c : CP K F H vs as r outs v F' H') :
    RR K F' H' σ (wb os outs e) ∧ Stp σ0 F0 H0 e0 σ F' H' (wb os outs e) ∧ OR K F' H' σ (wb os outs e) v r.op ∧ FrO H0 v r.op := by
  obtain ⟨wl, ws⟩ := wb_spec (outs := outs) nd
  have up : ∀ {i b}, OwnAt σ (wb os outs e) i b → OwnAt σ e i b := fun {i b} ⟨s, w1, w2, w3⟩ => by
    rcases ws i s w1 with ⟨g1, _⟩ | ⟨_, s0, _, g2, g3, _⟩
    · exact ⟨s, g1, w2, w3⟩
    · exact ⟨s0, g2, g3, w3⟩
  have hand : ∀ {i b o}, OwnAt (vs.map some) as i b → H0 b = some o → ∃ j, OwnAt σ0 e0 j b := fun {i b o} w hb => by
    obtain ⟨v1, h1⟩ := args_own R h q w
    rcases h1 with ⟨b1, h1⟩ | ⟨j1, h1, o1⟩
    · have := h.fr_at h1 v1
      rw [hb] at this; cases this
    · rcases S.own j1 b o1 with z | z
      · exact z
      · rw [hb] at z; cases z
  have hand2 : ∀ {i b}, OwnAt (vs.map some) as i b → H0 b = none ∨ ∃ j, OwnAt σ0 e0 j b := fun {i b} w => by
    cases hb : H0 b with
    | none => exact .inl rfl
    | some o => exact .inr (hand w hb)
  have notHanded : ∀ {j a s}, e[j]? = some s → isOwn s = true → σ[j]? = some (some (.ref a)) → (∀ i : Nat, os[i]? ≠ some (.slot j)) → ∀ i, ¬ OwnAt (vs.map some) as i a := fun {j a s} h1 h2 h3 h4 i w => by
    obtain ⟨v1, h5⟩ := args_own R h q w
    rcases h5 with ⟨b1, h5⟩ | ⟨j1, h5, o1⟩
    · obtain ⟨v2, g3, g4, _⟩ := h.at h5
      rw [v1] at g3; cases g3
      obtain ⟨a', e1, _, n, _⟩ := g4
      cases e1
      exact n j ⟨s, h1, h2, h3⟩
    · have := R.dis j j1 a ⟨s, h1, h2, h3⟩ o1
      subst this
      exact h4 i h5
  have rr : RR K F' H' σ (wb os outs e) := by
    refine ⟨c.fz, wl.trans R.len, fun j s' hj => ?_, fun i j a hi hj => R.dis i j a (up hi) (up hj)⟩
    rcases ws j s' hj with ⟨g1, g2⟩ | ⟨i, s, g1, g2, g3, g4⟩
    · have := R.at_ j s' g1
      have own : ∀ {o : Ob} {a : Addr}, isOwn s' = true → σ[j]? = some (some (.ref a)) → F a = none → ObR K F H a o → F' a = none ∧ ObR K F' H' a o := fun {o a} ho p1 p2 p3 => by
        have nh := notHanded g1 ho p1 (g2 ho)
        obtain ⟨ho', p4⟩ := p3.some_
        refine ⟨?_, p3.mono c.fr ((c.keep _ _ p4 nh).trans p4.symm)⟩
        cases z : F' a with
        | none => rfl
        | some o' =>
          rcases c.nw a o' z with ⟨_, z⟩ | z | ⟨i, z⟩
          · rw [p2] at z; cases z
          · rw [p4] at z; cases z
          · exact absurd z (nh i)
      cases s' with
      | no => trivial
      | sh d => obtain ⟨v, e1, e2⟩ := this; exact ⟨v, e1, Rp.mono c.fr _ _ e2⟩
      | ow o => obtain ⟨a, e1, e2, e3⟩ := this; exact ⟨a, e1, own rfl e1 e2 e3⟩
      | pa o => obtain ⟨a, e1, e2, e3⟩ := this; exact ⟨a, e1, own rfl e1 e2 e3⟩
    · obtain ⟨v1, p1, p2, _⟩ := h.at g1
      have p2 : σ[j]? = some (some v1) := p2
      have own : ∃ (a : Addr) (ob : Ob), v1 = .ref a ∧ as[i]? = some (.pa ob) := by
        obtain ⟨ll, gg⟩ := argsOf_at q
        have hi : i < as.length := by rw [← ll]; exact (List.getElem?_eq_some_iff.mp g1).1
        obtain ⟨o, q1, q2⟩ := gg i _ (List.getElem?_eq_getElem hi)
        rw [g1] at q1; cases q1
        have q2 : (match e[j]? with
          | some (.sh d) => some (Slot.sh d)
          | some (.ow o) => some (.pa o)
          | some (.pa o) => some (.pa o)
          | _ => none) = some as[i] := q2
        rw [g2] at q2
        have := R.at_ j s g2
        cases s with
        | no => cases g3
        | sh _ => cases g3
        | ow o =>
          obtain ⟨a, e1, _⟩ := this
          rw [p2] at e1; cases e1
          exact ⟨a, o, rfl, by rw [List.getElem?_eq_getElem hi, ← q2]⟩
        | pa o =>
          obtain ⟨a, e1, _⟩ := this
          rw [p2] at e1; cases e1
          exact ⟨a, o, rfl, by rw [List.getElem?_eq_getElem hi, ← q2]⟩
      obtain ⟨a, ob, rfl, ha⟩ := own
      rcases g4 with rfl | ⟨ob', g4, ⟨o, rfl, rfl⟩ | ⟨o, rfl, rfl⟩⟩
      · trivial
      · exact ⟨a, p2, c.outs i ob ob' a ha p1 g4⟩
      · exact ⟨a, p2, c.outs i ob ob' a ha p1 g4⟩
  refine ⟨rr, ⟨S.fr.trans c.fr, fun b o hb n => ?_, fun b o hb => ?_, fun i b hi => S.own i b (up hi), fun j o hj => ?_, fun b o hb => ?_, fun j b ⟨o, q1, q3⟩ => by
    rcases ws j _ q1 with ⟨g1, _⟩ | ⟨i, s, g1, g2, g3, g4⟩
    · exact S.ows j b ⟨o, g1, q3⟩
    · rcases g4 with z | ⟨ob', _, ⟨o2, rfl, z⟩ | ⟨o2, _, z⟩⟩
      · cases z
      · exact S.ows j b ⟨o2, g2, q3⟩
      · cases z⟩, ?_, ?_⟩
  · exact c.keep b o (S.keep b o hb n) fun i w => by
      obtain ⟨j, z⟩ := hand w hb
      exact n j z
  · rcases c.nw b o hb with ⟨o', z⟩ | z | ⟨i, z⟩
    · exact S.nw b o' z
    · exact .inr (.inl (S.free z))
    · exact .inr (hand2 z)
  · rcases ws j _ hj with ⟨g1, _⟩ | ⟨i, s, g1, g2, g3, g4⟩
    · exact S.pas j o g1
    · rcases g4 with z | ⟨ob', _, ⟨o2, _, z⟩ | ⟨o2, rfl, z⟩⟩
      · cases z
      · cases z
      · exact S.pas j o2 g2
  · obtain ⟨o', z⟩ := S.ex b o hb
    exact c.ex b o' z
  · have res := c.res
    have frs := c.frs
    cases r with
    | val d => exact res
    | new o =>
      obtain ⟨a, rfl, h1, h2⟩ := res
      refine ⟨a, rfl, h1, fun i w => ?_, h2⟩
      obtain ⟨_, o1, z⟩ := R.own_some (up w)
      rw [frs a rfl] at z; cases z
  · have frs := c.frs
    cases r with
    | val d => trivial
    | new o => exact fun a ha => S.free (frs a ha)
end
section
variable {X : Cx} {cf : Nat → List Slot → CR} {k : Nat} {pos p : Pos} {f : Addr} {fd : FuncData} {ps : List Str} {x : Str} {j np : Nat}
theorem call_imp {ms : MEs} {E : XK} : ∀ σ H Q, tE X.kw (evE cf (.call j ms)) σ H Q → tCall (spE X.kw (cf j)) [] E (tA X.kw (evEs cf ms)) σ H Q := fun σ H Q ⟨F, e, o, e', R, q, w⟩ => by
  obtain ⟨os, e1, q1, q⟩ := bind_ok q
  refine ⟨F, e, os, e1, R, q1, fun vs F1 H1 R1 S1 O1 => ?_⟩
  have q : (match argsOf os e1 with
    | none => Ev.R.er .bad e1
    | some as => if (moved os e1).Nodup then (match cf j as with
      | .ok r outs => .ok r.op (wb os outs e1)
      | .er x => .er x e1) else .er .bad e1) = .ok o e' := q
  cases ha : argsOf os e1 with
  | none => rw [ha] at q; cases q
  | some as =>
    rw [ha] at q
    dsimp only at q
    split at q
    · rename_i nd
      cases hc : cf j as with
      | er x => rw [hc] at q; cases q
      | ok r outs =>
        rw [hc] at q
        cases q
        obtain ⟨ra, no⟩ := args_rr R1 O1 ha nd
        show spE X.kw (cf j) (vs ++ []) H1 Q E
        rw [List.append_nil]
        refine ⟨F1, as, r, outs, ra, no, hc, fun v F' H' c => ?_⟩
        obtain ⟨p1, p2, p3, p4⟩ := call_ok R1 S1 O1 ha nd c
        exact w v F' H' p1 p2 p3 p4
    · cases q
end
end Ev
/-! methods, dict displays, what is walked, targets -/
namespace Ev
open PySem PySem.Spec PyProof.Rows L2
section
variable {X : Cx} {cf : Nat → List Slot → CR} {k : Nat} {a b c o : Expr} {ma mb mc mo : ME} {pos apos p : Pos} {F F' H H' H0 F0 : Hp} {σ σ0 : S2} {e e0 e' : En} {v : V} {d : D} {ms : MEs} {es : List Expr}

/-! ### methods -/
/-- a value of that builtin type, whatever the state -/
def TyI (X : Cx) (T : String) (x : V) (H : Hp) : Prop := ∀ (pins : List (Addr × Obj)) (σ : S2) (s : Shared) (v : Value), Inv X pins σ H s → RelV x v → s.TypeIs v T ∧ ∀ a, v = .ref a → ∃ ob, s.heap.get? a = some ob ∧ ob.dict = none
theorem TyI.of {T : String} {x : V} (h : tyV X.kw T x H) : TyI X T x H := fun _ _ _ _ I r => tyV_is I r h
def MOn (X : Cx) (name : Str) (x : V) (H : Hp) (id : String) : Prop := ∃ T, PlainAttrs T ∧ PySem.Slot T name id ∧ typeOf (.builtin id) = pure (.type "method_descriptor") ∧ TyI X T x H
def tMt (X : Cx) (name : Str) (to : TE) (t : TA) : TE := fun σ H Q => to σ H fun x H1 => ∃ id r, MOn X name x H1 id ∧ MtR X id r ∧ t σ H1 fun xs H2 => r x xs H2 Q
theorem pe_mt0 {name : Str} {to : TE} (ho : PE X o to) (hbase : attributeBase o name X.env (eval o X.env) = eval o X.env) (hline : (apos.endLine == pos.line) = true) : PE X (.Call (.Attribute o name apos) [] [] pos) (tMt X name to tNil) := by
  refine ⟨fun pins s σ H Q I h => ?_⟩
  refine wpAny_Call_method0_late hbase hline (thn (ho.run pins s σ H _ I h) fun v s1 ⟨x, H1, I1, r1, id, r, ⟨T, pa, sl, hty, ty⟩, hm, q1⟩ => ?_)
  obtain ⟨h1, h2⟩ := ty _ _ _ _ I1 r1
  exact ⟨T, id, pa, sl, hty, h1, h2, Calls.callWith_builtin rfl (PySem.evalArgs_none (hm pins s1 σ H1 x [] v [] Q I1 r1 .nil q1))⟩
theorem pe_mtc {name : Str} {to : TE} {t : TA} {a : Expr} (ho : PE X o to) (ha : PA X (a :: es) t)
    (hbase : attributeBase o name X.env (eval o X.env) = eval o X.env) (hst : starEach (a :: es) X.env = (a :: es).map fun e => (false, eval e X.env)) (hlen : (a :: es).length < 29) (hline : (apos.endLine == pos.line) = true) :
    PE X (.Call (.Attribute o name apos) (a :: es) [] pos) (tMt X name to t) := by
  have hb : backTo pos (starEach (a :: es) X.env) = (a :: es).map fun e => (false, eval e X.env) := by
    rw [hst]; unfold backTo; rw [List.map_map]; rfl
  refine ⟨fun pins s σ H Q I h => ?_⟩
  refine wpAny_Call_method_late hbase ?_ hline rfl (thn (ho.run pins s σ H _ I h) fun v s1 ⟨x, H1, I1, r1, id, r, ⟨T, pa, sl, hty, ty⟩, hm, q1⟩ => ?_)
  · rw [hb]
    simp only [List.all_map, backToKw, keywordEach, List.map_nil, List.all_nil, Bool.and_true, Bool.and_eq_true, decide_eq_true_eq, List.length_nil, List.isEmpty_nil, if_true]
    refine ⟨?_, by omega⟩
    rw [List.all_eq_true]; intro _ _; rfl
  obtain ⟨h1, h2⟩ := ty _ _ _ _ I1 r1
  refine ⟨T, id, pa, sl, hty, h1, h2, ?_⟩
  have hA := ha.run pos pins s1 σ H1 _ I1 q1
  rw [hb] at hA ⊢
  refine Calls.callWith_builtin ?_ (Calls.evalArgs_plain ?_)
  · rw [List.any_map, List.any_eq_false]; intro _ _; simp
  · exact thn hA fun us s2 ⟨vs, H2, I2, r2, q2⟩ => hm pins s2 σ H2 x vs v us Q I2 r1 r2 q2
def mname : Mth → Str
  | .append => "append"
  | .extend => "extend"
  | .pop => "pop"
  | .popAt => "pop"
  | .remove => "remove"
  | .index => "index"
  | .count => "count"
  | .insert => "insert"
  | .reverse => "reverse"
  | .get => "get"
  | .get2 => "get"
theorem kind_list {K : KW} {r : RV} (fz : Same F H) (h : Lw K F H v r) (e : kindR r = .list) : tyV K "list" v H := by
  have : ∃ a vs, v = .ref a ∧ H a = some (.lst vs) := by
    cases r with
    | val d =>
      cases d with
      | list xs => obtain ⟨a, vs, rfl, e1, _⟩ := (h : Rp K F v (.list xs)) |> fun h => (Lt.list (H := H) fz (.inl h)); exact ⟨a, vs, rfl, e1⟩
      | none => cases e
      | bool _ => cases e
      | int _ => cases e
      | str _ => cases e
      | tuple _ => cases e
      | dict _ => cases e
    | new o =>
      cases o with
      | lst xs => obtain ⟨a, rfl, vs, e1, _⟩ := h; exact ⟨a, vs, rfl, e1⟩
      | dct _ => cases e
      | dic _ => cases e
  obtain ⟨a, vs, rfl, e1⟩ := this
  exact .inl ⟨rfl, vs, .of e1⟩
theorem if_lift {c : Prop} [Decidable c] {u : Unit} (q : guardM c e = .ok u e') : c ∧ e = e' := by
  unfold guardM at q
  split at q
  · exact ⟨by assumption, (pure_ok q).2⟩
  · obtain ⟨q, _⟩ := lift_ok q; cases q
theorem mut_rule (hr : Room k X.A) {m : Mth} (hm : m.mut = true) : ∃ id, PySem.Slot "list" (mname m) id ∧ typeOf (.builtin id) = pure (.type "method_descriptor") ∧ MtR X id (rMut X.kw m) := by
  cases m with
  | append => exact ⟨_, PySem.F.slot_list_append, PySem.F.type_list_append, mtr_append⟩
  | extend => exact ⟨_, PySem.F.slot_list_extend, PySem.F.type_list_extend, mtr_extend⟩
  | pop => exact ⟨_, PySem.F.slot_list_pop, PySem.F.type_list_pop, mtr_pop⟩
  | popAt => exact ⟨_, PySem.F.slot_list_pop, PySem.F.type_list_pop, mtr_popAt⟩
  | remove => exact ⟨_, PySem.F.slot_list_remove, PySem.F.type_list_remove, mtr_remove hr⟩
  | insert => exact ⟨_, PySem.F.slot_list_insert, PySem.F.type_list_insert, mtr_insert⟩
  | reverse => exact ⟨_, PySem.F.slot_list_reverse, PySem.F.type_list_reverse, mtr_reverse⟩
  | index => cases hm
  | count => cases hm
  | get => cases hm
  | get2 => cases hm
theorem meth_mut_imp (hr : Room k X.A) {m : Mth} (hm : m.mut = true) : ∀ σ H Q, tE X.kw (evE cf (.meth m mo ms)) σ H Q → tMt X (mname m) (tE X.kw (evE cf mo)) (tA X.kw (evEs cf ms)) σ H Q := fun σ H Q ⟨F, e, o, e', R, q, w⟩ => by
  obtain ⟨x, e1, q1, q⟩ := bind_ok q
  obtain ⟨r0, e2, q2, q⟩ := bind_ok q
  obtain ⟨p2, p2'⟩ := vwM_ok q2
  subst p2'
  obtain ⟨os, e3, q3, q⟩ := bind_ok q
  rw [if_pos hm] at q
  obtain ⟨u, e4, q4, q⟩ := bind_ok q
  obtain ⟨hk, p4⟩ := if_lift q4
  subst p4
  obtain ⟨ds, e5, q5, q⟩ := bind_ok q
  obtain ⟨d, e6, q6, q⟩ := bind_ok q
  obtain ⟨p7, p7'⟩ := pure_ok q
  subst p7 p7'
  refine ⟨F, e, x, e1, R, q1, fun v1 F1 H1 R1 S1 O1 N1 => ?_⟩
  obtain ⟨id, sl, hty, rule⟩ := mut_rule (X := X) hr hm
  refine ⟨id, rMut X.kw m, ⟨"list", PySem.F.plainAttrs_list, sl, hty, .of (kind_list R1.fz (vw_lw R1 O1 p2) hk)⟩, rule, ?_⟩
  refine ⟨F1, e1, os, e3, R1, q3, fun vs F2 H2 R2 S2 O2 => ?_⟩
  have O2' := O1.step S2
  -- the arguments
  have args : ∃ F3, RR X.kw F3 H2 σ e5 ∧ Stp σ F H e σ F3 H2 e5 ∧ (if m = .append ∨ m = .insert then RpAll X.kw F3 vs ds else LtAll X.kw F3 H2 vs ds) ∧ (∀ i, x = .slot i → OR X.kw F3 H2 σ e5 v1 x) := by
    have esc : escsM os e3 = .ok ds e5 → (m = .append ∨ m = .insert) → ∃ F3, RR X.kw F3 H2 σ e5 ∧ Stp σ F H e σ F3 H2 e5 ∧ (if m = .append ∨ m = .insert then RpAll X.kw F3 vs ds else LtAll X.kw F3 H2 vs ds) ∧ (∀ i, x = .slot i → OR X.kw F3 H2 σ e5 v1 x) := fun q5 hc => by
      obtain ⟨F3, R3, S3, r3, m3⟩ := escs_ok R2 (S1.trans S2) (O2.back S1) q5
      exact ⟨F3, R3, S3, by rw [if_pos hc]; exact r3, fun i hx => by subst hx; exact O2'⟩
    have rds : rdsM os e3 = .ok ds e5 → ¬ (m = .append ∨ m = .insert) → ∃ F3, RR X.kw F3 H2 σ e5 ∧ Stp σ F H e σ F3 H2 e5 ∧ (if m = .append ∨ m = .insert then RpAll X.kw F3 vs ds else LtAll X.kw F3 H2 vs ds) ∧ (∀ i, x = .slot i → OR X.kw F3 H2 σ e5 v1 x) := fun q5 hc => by
      obtain ⟨l, p5⟩ := rds_lt R2 O2 q5
      subst p5
      exact ⟨F2, R2, S1.trans S2, by rw [if_neg hc]; exact l, fun i hx => O2'⟩
    cases m with
    | append => exact esc q5 (.inl rfl)
    | insert => exact esc q5 (.inr rfl)
    | extend => exact rds q5 (by simp)
    | pop => exact rds q5 (by simp)
    | popAt => exact rds q5 (by simp)
    | remove => exact rds q5 (by simp)
    | reverse => exact rds q5 (by simp)
    | index => cases hm
    | count => cases hm
    | get => cases hm
    | get2 => cases hm
  obtain ⟨F3, R3, S3, l3, O3⟩ := args
  have hx : ∃ i, x = .slot i := by
    cases x with
    | slot i => exact ⟨i, rfl⟩
    | val _ => obtain ⟨z, _⟩ := lift_ok (show lift none e5 = .ok d e6 from q6); cases z
    | new _ => obtain ⟨z, _⟩ := lift_ok (show lift none e5 = .ok d e6 from q6); cases z
  obtain ⟨i, rfl⟩ := hx
  obtain ⟨i', s, s', a, ob, ob', h1, h2, h3, h4, h5, h6, h7, h8, h9, h10⟩ := updM_ok R3 (O3 i rfl) q6
  subst h10
  refine ⟨F3, a, ob, ds, d, ob', R3.fz, h6, h8, l3, h9, fun v o' hob hv => ?_⟩
  obtain ⟨R4, S4⟩ := upd_ok R3 S3 h2 h3 h4 h5 hob
  exact w v F3 _ R4 S4 hv trivial
theorem kind_dict {X : Cx} {r : RV} (h : Lw X.kw F H v r) (e : kindR r = .dict) : TyI X "dict" v H := by
  cases r with
  | val d => cases d <;> cases e
  | new o =>
    cases o with
    | lst xs => cases e
    | dct kvs => obtain ⟨a, rfl, vs, e1, _⟩ := h; exact .of (.inr (.inr (.inl ⟨rfl, .inl ⟨vs, e1⟩⟩)))
    | dic kvs =>
      obtain ⟨a, rfl, _, _, xs, e1, _⟩ := h
      intro pins σ s v I r
      cases r
      obtain ⟨h1, h2⟩ := dic_ty I e1
      exact ⟨h1, fun b e => by cases e; exact h2⟩
def Mth.pur : Mth → Bool
  | .index | .count | .get | .get2 => true
  | _ => false
theorem kind_tuple {X : Cx} {r : RV} (fz : Same F H) (h : Lw X.kw F H v r) (e : kindR r = .tuple) : TyI X "tuple" v H := by
  have : ∃ a vs, v = .ref a ∧ SqU X.kw H a vs := by
    cases r with
    | val d =>
      cases d with
      | tuple xs => obtain ⟨a, vs, rfl, e1, _⟩ := (h : Rp X.kw F v (.tuple xs)) |> fun h => (Lt.tup (H := H) fz (.inl h)); exact ⟨a, vs, rfl, fz.seqU e1⟩
      | list _ => cases e
      | none => cases e
      | bool _ => cases e
      | int _ => cases e
      | str _ => cases e
      | dict _ => cases e
    | new o => cases o <;> cases e
  obtain ⟨a, vs, rfl, e1⟩ := this
  intro pins σ s u I r
  cases r
  rcases e1 with ⟨o, h1, h2⟩ | ⟨o, its, n, h1, h2, h3, _⟩
  · obtain ⟨q1, _, its, rv, o2, q2, q3, _⟩ := I.hok a _ h1
    rw [q1] at q2; cases q2
    exact ⟨⟨o, q1, q3⟩, fun b hb => by cases hb; exact ⟨o, q1, h2⟩⟩
  · exact ⟨⟨o, I.kIn _ _ h1, h2⟩, fun b hb => by cases hb; exact ⟨o, I.kIn _ _ h1, h3⟩⟩
theorem pure_kd {m : Mth} {r rv : RV} {ds : List D} (hm : m.pur = true) (e : pureM m r ds = some rv) : (kindR r = .list ∧ (m = .index ∨ m = .count)) ∨ (kindR r = .tuple ∧ (m = .index ∨ m = .count)) ∨ (kindR r = .dict ∧ (m = .get ∨ m = .get2)) := by
  have seq : ∀ {g : List D → Option RV}, (listR r).bind g = some rv → kindR r = .list ∨ kindR r = .tuple := fun {g} q => by
    cases r with
    | val d => cases d <;> first | exact .inl rfl | exact .inr rfl | (cases q; done)
    | new o => cases o <;> first | exact .inl rfl | (cases q; done)
  cases m <;> first | (cases hm; done) | skip
  · match ds, e with
    | [], e => (cases r with | val d => (cases d <;> cases e) | new o => (cases o <;> cases e))
    | [y], e => exact (seq e).elim (fun q => .inl ⟨q, .inl rfl⟩) fun q => .inr (.inl ⟨q, .inl rfl⟩)
    | _ :: _ :: _, e => (cases r with | val d => (cases d <;> cases e) | new o => (cases o <;> cases e))
  · match ds, e with
    | [], e => (cases r with | val d => (cases d <;> cases e) | new o => (cases o <;> cases e))
    | [y], e => exact (seq e).elim (fun q => .inl ⟨q, .inr rfl⟩) fun q => .inr (.inl ⟨q, .inr rfl⟩)
    | _ :: _ :: _, e => (cases r with | val d => (cases d <;> cases e) | new o => (cases o <;> cases e))
  · match ds, e with
    | [], e => (cases r with | val d => (cases d <;> cases e) | new o => (cases o <;> cases e))
    | [y], e => (cases r with | val d => (cases d <;> cases e) | new o => (cases o <;> first | exact .inr (.inr ⟨rfl, .inl rfl⟩) | (cases e; done)))
    | _ :: _ :: _, e => (cases r with | val d => (cases d <;> cases e) | new o => (cases o <;> cases e))
  · match ds, e with
    | [], e => (cases r with | val d => (cases d <;> cases e) | new o => (cases o <;> cases e))
    | [y], e => (cases r with | val d => (cases d <;> cases e) | new o => (cases o <;> cases e))
    | [y, z], e => (cases r with | val d => (cases d <;> cases e) | new o => (cases o <;> first | exact .inr (.inr ⟨rfl, .inr rfl⟩) | (cases e; done)))
    | _ :: _ :: _ :: _, e => (cases r with | val d => (cases d <;> cases e) | new o => (cases o <;> cases e))
theorem pure_rule (hr : Room k X.A) {m : Mth} {r0 rv : RV} {ds : List D} (hm : m.pur = true) (e0 : pureM m r0 ds = some rv) : ∃ T id, PlainAttrs T ∧ PySem.Slot T (mname m) id ∧ typeOf (.builtin id) = pure (.type "method_descriptor") ∧ MtR X id (rPure X.kw m (kindR r0)) ∧ ∀ {F H : Hp} {v : V} {r : RV}, Same F H → Lw X.kw F H v r → kindR r = kindR r0 → TyI X T v H := by
  rcases pure_kd hm e0 with ⟨hk, rfl | rfl⟩ | ⟨hk, rfl | rfl⟩ | ⟨hk, rfl | rfl⟩ <;> rw [hk]
  · exact ⟨_, _, PySem.F.plainAttrs_list, PySem.F.slot_list_index, PySem.F.type_list_index, mtr_index hr, fun fz h e => .of (kind_list fz h e)⟩
  · exact ⟨_, _, PySem.F.plainAttrs_list, PySem.F.slot_list_count, PySem.F.type_list_count, mtr_count hr, fun fz h e => .of (kind_list fz h e)⟩
  · exact ⟨_, _, PySem.F.plainAttrs_tuple, PySem.F.slot_tuple_index, PySem.F.type_tuple_index, mtr_indexT hr, fun fz h e => kind_tuple fz h e⟩
  · exact ⟨_, _, PySem.F.plainAttrs_tuple, PySem.F.slot_tuple_count, PySem.F.type_tuple_count, mtr_countT hr, fun fz h e => kind_tuple fz h e⟩
  · exact ⟨_, _, PySem.F.plainAttrs_dict, PySem.F.slot_dict_get, PySem.F.type_dict_get, mtr_get hr, fun fz h e => kind_dict h e⟩
  · exact ⟨_, _, PySem.F.plainAttrs_dict, PySem.F.slot_dict_get, PySem.F.type_dict_get, mtr_get2 hr, fun fz h e => kind_dict h e⟩
theorem pure_imp (hr : Room k X.A) {m : Mth} (hm : m.pur = true) : ∀ σ H Q, tE X.kw (evE cf (.meth m mo ms)) σ H Q → tMt X (mname m) (tE X.kw (evE cf mo)) (tA X.kw (evEs cf ms)) σ H Q := fun σ H Q ⟨F, e, o, e', R, q, w⟩ => by
  obtain ⟨x, e1, q1, q⟩ := bind_ok q
  obtain ⟨r0, e2, q2, q⟩ := bind_ok q
  obtain ⟨p2, p2'⟩ := vwM_ok q2
  subst p2'
  obtain ⟨os, e3, q3, q⟩ := bind_ok q
  rw [if_neg (by cases m <;> first | (cases hm; done) | simp [Mth.mut])] at q
  obtain ⟨r, e4, q4, q⟩ := bind_ok q
  obtain ⟨p4, p4'⟩ := vwM_ok q4
  subst p4'
  obtain ⟨u, e5, q5, q⟩ := bind_ok q
  obtain ⟨hk, p5⟩ := if_lift q5
  subst p5
  obtain ⟨ds, e6, q6, q⟩ := bind_ok q
  obtain ⟨rv, e7, q7, q⟩ := bind_ok q
  obtain ⟨p7, p7'⟩ := lift_ok q7
  subst p7'
  obtain ⟨p8, p8'⟩ := pure_ok q
  subst p8 p8'
  refine ⟨F, e, x, e1, R, q1, fun v1 F1 H1 R1 S1 O1 N1 => ?_⟩
  obtain ⟨T, id, pa, sl, hty, rule, hT⟩ := pure_rule (X := X) hr hm p7
  refine ⟨id, rPure X.kw m (kindR r), ⟨T, pa, sl, hty, hT R1.fz (vw_lw R1 O1 p2) hk⟩, rule, ?_⟩
  refine ⟨F1, e1, os, e3, R1, q3, fun vs F2 H2 R2 S2 O2 => ?_⟩
  obtain ⟨l, p6⟩ := rds_lt R2 O2 q6
  subst p6
  exact ⟨F2, r, ds, rv, R2.fz, rfl, vw_lw R2 (O1.step S2) p4, l, p7, fin_rv R2 (S1.trans S2) w⟩
end
end Ev
/-! dict displays, what is walked, targets -/
namespace Ev
open PySem PySem.Spec PyProof.Rows L2
section
variable {K : KW} {F F' H H' H0 F0 : Hp} {σ σ0 σ' : S2} {e e0 e' : En} {v : V} {d : D} {p : Addr} {o o' : HO}
/-- an object that no name owns, another in its place -/
theorem mask_ne {b : Addr} {o : HO} (h : b ≠ p) : upd H p o b = H b := upd_ne h
theorem RR.foreign (R : RR K F H σ e) (hF : F p = none) (hn : ∀ i, ¬ OwnAt σ e i p) : RR K F (upd H p o) σ e where
  fz := fun b x q => by
    have hb : b ≠ p := by rintro rfl; rw [hF] at q; cases q
    rw [upd_ne hb]; exact R.fz _ _ q
  len := R.len
  dis := R.dis
  at_ := fun i s h => by
    have := R.at_ i s h
    cases s with
    | no => trivial
    | sh d => exact this
    | ow ob =>
      obtain ⟨a, e1, e2, e3⟩ := this
      have ha : a ≠ p := by rintro rfl; exact hn i ⟨_, h, rfl, e1⟩
      exact ⟨a, e1, e2, e3.mono (.refl _) (upd_ne ha)⟩
    | pa ob =>
      obtain ⟨a, e1, e2, e3⟩ := this
      have ha : a ≠ p := by rintro rfl; exact hn i ⟨_, h, rfl, e1⟩
      exact ⟨a, e1, e2, e3.mono (.refl _) (upd_ne ha)⟩
theorem Stp.mask (S : Stp σ F H e σ' F' H' e') (h : H p = some o') : Stp σ F (upd H p o) e σ' F' (upd H' p o) e' where
  fr := S.fr
  keep := fun b x q n => by
    by_cases hb : b = p
    · subst hb; rw [upd_same] at q ⊢; exact q
    · rw [upd_ne hb] at q ⊢; exact S.keep b x q n
  nw := fun b x q => by
    rcases S.nw b x q with z | z | z
    · exact .inl z
    · have hb : b ≠ p := by rintro rfl; rw [h] at z; cases z
      exact .inr (.inl (by rw [upd_ne hb]; exact z))
    · exact .inr (.inr z)
  own := fun i b w => by
    rcases S.own i b w with z | z
    · exact .inl z
    · have hb : b ≠ p := by rintro rfl; rw [h] at z; cases z
      exact .inr (by rw [upd_ne hb]; exact z)
  ows := fun i b w => by
    rcases S.ows i b w with z | z
    · exact .inl z
    · have hb : b ≠ p := by rintro rfl; rw [h] at z; cases z
      exact .inr (by rw [upd_ne hb]; exact z)
  pas := S.pas
  ex := fun b x q => by
    by_cases hb : b = p
    · subst hb; exact ⟨_, upd_same⟩
    · rw [upd_ne hb] at q ⊢; exact S.ex b x q
/-- the object at p was new -/
theorem Stp.unmask (S : Stp σ F (upd H p o) e σ' F' (upd H' p o) e') (h : H p = none) (hp : ∃ x, H' p = some x) (hn : ∀ i, ¬ OwnAt σ e i p) : Stp σ F H e σ' F' H' e' where
  fr := S.fr
  keep := fun b x q n => by
    have hb : b ≠ p := by rintro rfl; rw [h] at q; cases q
    have := S.keep b x (by rw [upd_ne hb]; exact q) n
    rw [upd_ne hb] at this; exact this
  nw := fun b x q => by
    rcases S.nw b x q with z | z | z
    · exact .inl z
    · have hb : b ≠ p := by rintro rfl; rw [upd_same] at z; cases z
      exact .inr (.inl (by rw [upd_ne hb] at z; exact z))
    · exact .inr (.inr z)
  own := fun i b w => by
    rcases S.own i b w with z | z
    · exact .inl z
    · have hb : b ≠ p := by rintro rfl; rw [upd_same] at z; cases z
      exact .inr (by rw [upd_ne hb] at z; exact z)
  ows := fun i b w => by
    rcases S.ows i b w with z | z
    · exact .inl z
    · have hb : b ≠ p := by rintro rfl; rw [upd_same] at z; cases z
      exact .inr (by rw [upd_ne hb] at z; exact z)
  pas := S.pas
  ex := fun b x q => by
    have hb : b ≠ p := by rintro rfl; rw [h] at q; cases q
    obtain ⟨x', z⟩ := S.ex b x (by rw [upd_ne hb]; exact q)
    exact ⟨x', by rw [upd_ne hb] at z; exact z⟩
theorem upd_of {x : HO} (h : H p = some x) : upd H p x = H := by
  funext b; unfold upd; split
  · rename_i hb; rw [hb, h]
  · rfl
/-- p stays no one's -/
theorem Stp.foreign (S : Stp σ F H e σ' F' H' e') (h : H p = some o') (hF : F p = none) (hn : ∀ i, ¬ OwnAt σ e i p) : H' p = some o' ∧ F' p = none ∧ ∀ i, ¬ OwnAt σ' e' i p := by
  refine ⟨S.keep _ _ h hn, ?_, fun i w => ?_⟩
  · cases q : F' p with
    | none => rfl
    | some x =>
      rcases S.nw p x q with ⟨_, z⟩ | z | ⟨i, z⟩
      · rw [hF] at z; cases z
      · rw [h] at z; cases z
      · exact absurd z (hn i)
  · rcases S.own i p w with ⟨j, z⟩ | z
    · exact hn j z
    · rw [h] at z; cases z
theorem RR.not_own (R : RR K F H σ e) (h : H p = none) : ∀ i, ¬ OwnAt σ e i p := fun i w => by
  obtain ⟨_, x, z⟩ := R.own_some w
  rw [h] at z; cases z
end
section
variable {X : Cx} {cf : Nat → List Slot → CR} {k : Nat} {pos : Pos} {F F' H H' H0 F0 : Hp} {σ σ0 : S2} {e e0 e' : En} {v : V} {d : D}
/-! ### dict displays -/
def trsOf (K : KW) (cf : Nat → List Slot → CR) : List Key → MEs → List (TE × TE)
  | k :: ks, .cons m ms => (tC (kV k), tE K (evE cf m)) :: trsOf K cf ks ms
  | _, _ => []
def mlen : MEs → Nat
  | .nil => 0
  | .cons _ ms => mlen ms + 1
theorem evEs_len : ∀ {ms : MEs} {e e' : En} {os : List Opd}, evEs cf ms e = .ok os e' → os.length = mlen ms
  | .nil, e, e', os, q => by
    obtain ⟨p1, p2⟩ := pure_ok (show (pure [] : M (List Opd)) e = .ok os e' from q)
    subst p1; rfl
  | .cons m ms, e, e', os, q => by
    obtain ⟨o, e1, q1, q⟩ := bind_ok q
    obtain ⟨os', e2, q2, q⟩ := bind_ok q
    obtain ⟨p1, p2⟩ := pure_ok q
    subst p1
    simp [evEs_len q2, mlen]
theorem pairs_ok {Q : List (V × V) → Hp → Prop} : ∀ {ks : List Key} {ms : MEs} {os : List Opd} {F H : Hp} {e e' : En}, ks.length = mlen ms → RR X.kw F H σ e → evEs cf ms e = .ok os e' →
    (∀ vs F' H', RR X.kw F' H' σ e' → Stp σ F H e σ F' H' e' → ORs X.kw F' H' σ e' H vs os → Q ((ks.map kV).zip vs) H') → tPairs (trsOf X.kw cf ks ms) σ H Q
  | [], .nil, os, F, H, e, e', _, R, q, w => by
    obtain ⟨p1, p2⟩ := pure_ok (show (pure [] : M (List Opd)) e = .ok os e' from q)
    subst p1 p2
    exact w [] F H R .refl trivial
  | k :: ks, .cons m ms, os, F, H, e, e', hl, R, q, w => by
    obtain ⟨o, e1, q1, q⟩ := bind_ok q
    obtain ⟨os', e2, q2, q⟩ := bind_ok q
    obtain ⟨p6, p6'⟩ := pure_ok q
    subst p6 p6'
    refine ⟨F, e, o, e1, R, q1, fun v1 F1 H1 R1 S1 O1 N1 => ?_⟩
    refine pairs_ok (by simpa [mlen] using hl) R1 q2 fun vs F2 H2 R2 S2 O2 => ?_
    refine w (v1 :: vs) F2 H2 R2 (S1.trans S2) ⟨O1.step S2, N1, fun a ha ⟨b, hb⟩ j b' hj hj' => ?_, O2.back S1⟩
    subst ha hb
    obtain ⟨a', e1, _, _, h4⟩ := O1
    cases e1
    obtain ⟨ho, h5⟩ := h4.some_
    rw [O2.fr_at hj hj'] at h5
    cases h5
  | [], .cons m ms, _, _, _, _, _, hl, _, _, _ => by simp [mlen] at hl
  | k :: ks, .nil, _, _, _, _, _, hl, _, _, _ => by simp [mlen] at hl
theorem zip_kvs : ∀ {ks : List Key} {vs : List V}, (ks.map kV).zip vs = (ks.zip vs).map fun kv => (kV kv.1, kv.2)
  | [], _ => rfl
  | _ :: _, [] => rfl
  | k :: ks, v :: vs => by rw [List.map_cons, List.zip_cons_cons, List.zip_cons_cons, List.map_cons, zip_kvs]
theorem merge_rel {K : KW} : ∀ {ks : List Key} {vs : List V} {ds : List D} {acc : List (Key × V)} {acc' : List (D × D)}, RpAll K F vs ds → KvR K F acc acc' →
    KvR K F (mergeK acc (ks.zip vs)) (((ks.map kD).zip ds).foldl (fun acc p => dPut acc p.1 p.2) acc')
  | [], _, _, _, _, _, h => h
  | _ :: _, [], _, _, _, .nil, h => h
  | k :: ks, v :: vs, d :: ds, acc, acc', .cons r t, h => merge_rel (ks := ks) t (h.put r)
theorem snd_dct {keys : List (Option Expr)} {values : List Expr} {ks : List Key} {ms : MEs} (h : PPs X pos keys values (trsOf X.kw cf ks ms)) (hk : ks.length = mlen ms) (hall : keys.all (·.isSome) = true) (hl : keys.length = values.length) (h0 : keys ≠ []) (h15 : keys.length ≤ 15) :
    PE X (.Dict keys values pos) (tE X.kw (evE cf (.dct (ks.map kD) ms))) :=
  (pe_disp h hall hl h0 h15).imp fun σ H Q ⟨F, e, o, e', R, q, w⟩ => by
    obtain ⟨os, e1, q1, q⟩ := bind_ok q
    obtain ⟨ds, e2, q2, q⟩ := bind_ok q
    intro p hp
    have hF := R.fz.none_ hp
    have hn := R.not_own hp
    have R0 := R.foreign (o := .dK []) hF hn
    have hp0 : (upd H p (HO.dK [])) p = some (.dK []) := upd_same
    refine pairs_ok hk R0 q1 fun vs F1 H1 R1 S1 O1 => ?_
    obtain ⟨F2, R2, S2, r2, m2⟩ := escs_ok R1 S1 O1 q2
    split at q
    · rename_i hz
      obtain ⟨p6, p6'⟩ := pure_ok q
      subst p6 p6'
      obtain ⟨f1, f2, f3⟩ := S2.foreign hp0 hF hn
      refine ⟨f1, ks.zip vs, zip_kvs, by rw [List.length_zip]; have := hz.2; rw [List.length_map] at this; omega, ?_⟩
      have S3 : Stp σ F H e σ F2 H1 e2 := Stp.unmask (p := p) (o := .dK []) (by rw [upd_of f1]; exact S2) hp ⟨_, f1⟩ hn
      have hrel := merge_rel (K := X.kw) (ks := ks) (acc := []) (acc' := []) r2 .nil
      have R4 := R2.foreign (o := .dK (mergeK [] (ks.zip vs))) f2 f3
      have S4 : Stp σ F H e σ F2 (upd H1 p (.dK (mergeK [] (ks.zip vs)))) e2 := by
        refine Stp.unmask (p := p) (o := .dK []) ?_ hp ⟨_, upd_same⟩ hn
        rw [upd_upd, upd_of f1]; exact S2
      exact w _ F2 _ R4 S4 ⟨p, rfl, f2, f3, _, upd_same, hrel⟩ (fun a ha => by cases ha; exact hp)
    · obtain ⟨q, _⟩ := lift_ok q; cases q

/-! ### what is walked -/
def Walk (K : KW) (F : Hp) (J : It) (ds : List D) : Prop := ∀ (i : Nat) (F2 H : Hp), Same F F2 → Same F2 H →
  (∀ d, ds[i]? = some d → J.go i H ∧ ∀ x H', J.yld i H x H' → ∃ F3, Ext F2 H F3 H' ∧ Rp K F3 x d) ∧ (ds.length ≤ i → J.stop i H)
def tI (K : KW) (m : M (List D)) : TI := fun σ H Rq => ∃ F e ds e', RR K F H σ e ∧ m e = .ok ds e' ∧
  ∀ J F' H', RR K F' H' σ e' → Stp σ F H e σ F' H' e' → ds.length ≤ sizeLine → Walk K F' J ds → Rq J H'
theorem _root_.L2.PI.imp {X : Cx} {tg iter : Expr} {t t' : TI} (h : PI X tg iter t) (w : ∀ σ H R, t' σ H R → t σ H R) : PI X tg iter t' := ⟨fun pins s σ H R I q => h.run pins s σ H R I (w σ H R q)⟩
def iSeq (K : KW) (tl : TE) : TI := fun σ H R => tl σ H fun x H1 => ∃ a xs, x = .ref a ∧ ((SqL K H1 a xs ∧ (xs.length ≤ sizeLine → R (Itl K a) H1)) ∨ (SqT K H1 a xs ∧ (xs.length ≤ sizeLine → R (Itt K a) H1)))
theorem pi_seq {tg l : Expr} {tl : TE} (hl : PE X l tl) : PI X tg l (iSeq X.kw tl) := by
  refine ⟨fun pins s σ H R I h => ?_⟩
  refine thn (hl.run pins s σ H _ I h) fun v s1 ⟨x, H1, I1, r1, q1⟩ => ?_
  obtain ⟨a, xs, e, ⟨hq, q⟩ | ⟨hq, q⟩⟩ := q1
  · subst e
    cases r1
    obtain ⟨its, rv, p, hz⟩ := I1.list hq
    refine wpAny_pyIter_list p.isList ?_
    refine ⟨s1.heap.objs.size, [s1.heap.objs.size], _, _, H1, rfl, I1.kept (t' := s1.toks) fun b o e => Heap.get?_push_of_some _ e, turn_list a _, ⟨_, Heap.get?_push_size _ rfl, rfl, rfl⟩, fun b hb => ?_, q hz⟩
    have e : b = s1.heap.objs.size := by simpa using hb
    subst e
    exact I1.fpOk (Nat.le_refl _) (I1.hok.fresh (Nat.le_refl _))
  · subst e
    cases r1
    obtain ⟨its, rv, p, hz⟩ := I1.tuple hq
    refine wpAny_pyIter_tuple (show s1.heap.IsTuple a its.toArray from p) ?_
    refine ⟨s1.heap.objs.size, [s1.heap.objs.size], _, _, H1, rfl, I1.kept (t' := s1.toks) fun b o e => Heap.get?_push_of_some _ e, turn_tuple a _, ⟨_, Heap.get?_push_size _ rfl, rfl, rfl⟩, fun b hb => ?_, q hz⟩
    have e : b = s1.heap.objs.size := by simpa using hb
    subst e
    exact I1.fpOk (Nat.le_refl _) (I1.hok.fresh (Nat.le_refl _))
theorem sni_seq {tg l : Expr} {m : ME} (h : PE X l (tE X.kw (evE cf m))) : PI X tg l (tI X.kw (evI cf (.seq m))) :=
  (pi_seq h).imp fun σ H Rq ⟨F, e, ds, e', R, q, w⟩ => by
    obtain ⟨o, e1, q1, q⟩ := bind_ok q
    obtain ⟨d, e2, q2, q⟩ := bind_ok q
    obtain ⟨p3, p3'⟩ := lift_ok q
    subst p3'
    refine ⟨F, e, o, e1, R, q1, fun v F1 H1 R1 S1 O1 N1 => ?_⟩
    obtain ⟨F2, R2, S2, r2, m2, _⟩ := esc_ok R1 S1 O1 N1 q2
    cases d with
    | list xs =>
      cases p3
      cases r2 with
      | lst ha ra =>
        refine ⟨_, _, rfl, .inl ⟨.of (R2.fz _ _ ha), fun hz => w _ F2 H1 R2 S2 (by rw [← ra.length]; exact hz) fun i F3 H3 s1 s2 => ⟨fun d hd => ?_, fun hl => ?_⟩⟩⟩
        · obtain ⟨v, e1, e2⟩ := ra.get hd
          exact ⟨⟨_, v, .of (s2 _ _ (s1 _ _ ha)), e1⟩, fun x H' ⟨y1, y2⟩ => by
            subst y1
            have := y2 _ (.of (s2 _ _ (s1 _ _ ha)))
            rw [e1] at this; cases this
            exact ⟨F3, .refl s2, Rp.mono s1 _ _ e2⟩⟩
        · exact ⟨_, .of (s2 _ _ (s1 _ _ ha)), by rw [ra.length]; exact hl⟩
    | tuple xs =>
      cases p3
      cases r2 with
      | tup ha ra =>
        refine ⟨_, _, rfl, .inr ⟨R2.fz.seqT ha, fun hz => w _ F2 H1 R2 S2 (by rw [← ra.length]; exact hz) fun i F3 H3 s1 s2 => ⟨fun d hd => ?_, fun hl => ?_⟩⟩⟩
        · obtain ⟨v, e1, e2⟩ := ra.get hd
          exact ⟨⟨_, v, s2.seqT (s1.seqU ha), e1⟩, fun x H' ⟨y1, y2⟩ => by
            subst y1
            have := y2 _ (s2.seqT (s1.seqU ha))
            rw [e1] at this; cases this
            exact ⟨F3, .refl s2, Rp.mono s1 _ _ e2⟩⟩
        · exact ⟨_, s2.seqT (s1.seqU ha), by rw [ra.length]; exact hl⟩
    | none => cases p3
    | bool _ => cases p3
    | int _ => cases p3
    | str _ => cases p3
    | dict _ => cases p3
theorem walk_int {K : KW} {J : It} {n : Nat} {f : Nat → Int} (h1 : ∀ i H, i < n → J.go i H) (h2 : ∀ i H, n ≤ i → J.stop i H) (h3 : ∀ i H x H', J.yld i H x H' → H' = H ∧ x = .int (f i)) : Walk K F J ((List.range n).map fun k => .int (f k)) := fun i F2 H s1 s2 => by
  refine ⟨fun d hd => ?_, fun hl => h2 i H (by simpa using hl)⟩
  rw [List.getElem?_map] at hd
  have hi : i < n := by
    cases hr : (List.range n)[i]? with
    | none => rw [hr] at hd; cases hd
    | some j => have := (List.getElem?_eq_some_iff.mp hr).1; simpa using this
  rw [List.getElem?_range hi] at hd
  have : PyData.int (f i) = d := Option.some.inj hd
  subst this
  exact ⟨h1 i H hi, fun x H' y => by
    obtain ⟨rfl, rfl⟩ := h3 i H x H' y
    exact ⟨F2, .refl s2, .int _⟩⟩
theorem rng_ok {ms : MEs} {Q : List V → Hp → Prop} {Rq : It → Hp → Prop} (σ : S2) (H : Hp) (h : tI X.kw (evI cf (.rng ms)) σ H Rq) (w : ∀ vs ds' ds F' H', ds'.length = mlen ms → RpAll X.kw F' vs ds' → rngD ds' = some ds → (∀ J, ds.length ≤ sizeLine → Walk X.kw F' J ds → Rq J H') → Q vs H') : tA X.kw (evEs cf ms) σ H Q := by
  obtain ⟨F, e, ds, e', R, q, wq⟩ := h
  obtain ⟨os, e1, q1, q⟩ := bind_ok q
  obtain ⟨ds', e2, q2, q⟩ := bind_ok q
  obtain ⟨p3, p3'⟩ := lift_ok q
  subst p3'
  refine ⟨F, e, os, e1, R, q1, fun vs F1 H1 R1 S1 O1 => ?_⟩
  obtain ⟨l, p2⟩ := rds_lt R1 O1 q2
  subst p2
  have hints : ∀ {vs : List V} {ds' : List D}, LtAll X.kw F1 H1 vs ds' → (∀ d ∈ ds', ∃ i, d = .int i) → RpAll X.kw F1 vs ds' := by
    intro vs ds' h
    induction h with
    | nil => intro _; exact .nil
    | cons r t ih =>
      intro hd
      obtain ⟨i, hi⟩ := hd _ (List.mem_cons_self ..)
      subst hi
      rw [r.int]
      exact .cons (.int i) (ih fun d hd' => hd d (List.mem_cons_of_mem _ hd'))
  have hint : ∀ d ∈ ds', ∃ i, d = .int i := by
    unfold rngD at p3
    split at p3
    · intro d hd; simp at hd; exact ⟨_, hd⟩
    · intro d hd; simp at hd; rcases hd with h | h <;> exact ⟨_, h⟩
    · intro d hd; simp at hd; rcases hd with h | h | h <;> exact ⟨_, h⟩
    · cases p3
  exact w vs ds' ds F1 H1 (by rw [← Paired.length l, O1.length, evEs_len q1]) (hints l hint) p3 fun J hz hJ => wq J F1 H1 R1 S1 hz hJ
theorem sni_rng1 {tg a : Expr} {m : ME} {p : Pos} (hg : Gl X "range") (hm : X.mg "range" = none) (ha : PA X [a] (tA X.kw (evEs cf (.cons m .nil)))) (hs : starEach [a] X.env = [(false, eval a X.env)]) : PI X tg (.Call (.Name "range" p) [a] [] pos) (tI X.kw (evI cf (.rng (.cons m .nil)))) :=
  (pi_range1 hg hm ha hs).imp fun σ H Rq h => rng_ok σ H h fun vs ds' ds F' H' hl r e w => by
    match ds', hl with
    | [d], _ =>
      unfold rngD at e
      split at e <;> first | (rename_i hh; cases hh; done) | skip
      · rename_i j hh
        cases hh
        cases r with
        | cons r t =>
          cases t; cases r
          split at e
          · rename_i hz
            cases e
            refine ⟨j, rfl, hz.1, hz.2.1, w _ (by rw [List.length_map, List.length_range]; omega) ?_⟩
            exact walk_int (K := X.kw) (F := F') (J := Itr 0 j.toNat) (n := j.toNat) (f := fun k => (k : Int)) (fun i H h => h) (fun i H h => h) (fun i H x H' ⟨y1, y2⟩ => ⟨y1, by rw [y2, Int.zero_add]⟩)
          · cases e
      all_goals first | (cases e; done) | (rename_i hh; simp at hh)
theorem sni_rng2 {tg a b : Expr} {m m' : ME} {p : Pos} (hg : Gl X "range") (hm : X.mg "range" = none) (ha : PA X [a, b] (tA X.kw (evEs cf (.cons m (.cons m' .nil))))) (hs : starEach [a, b] X.env = [(false, eval a X.env), (false, eval b X.env)]) (hs2 : starEach [b] X.env = [(false, eval b X.env)]) :
    PI X tg (.Call (.Name "range" p) [a, b] [] pos) (tI X.kw (evI cf (.rng (.cons m (.cons m' .nil))))) :=
  (pi_range2 hg hm ha hs hs2).imp fun σ H Rq h => rng_ok σ H h fun vs ds' ds F' H' hl r e w => by
    match ds', hl with
    | [d, d'], _ =>
      unfold rngD at e
      split at e <;> first | (rename_i hh; cases hh; done) | skip
      · rename_i i j hh
        cases hh
        cases r with
        | cons r t =>
          cases t with
          | cons r' t =>
            cases t; cases r; cases r'
            split at e
            · rename_i hz
              cases e
              refine ⟨i, j, rfl, ⟨hz.1.1, hz.1.2, hz.2.1.1, hz.2.1.2⟩, w _ (by rw [List.length_map, List.length_range]; omega) ?_⟩
              exact walk_int (K := X.kw) (F := F') (J := Itr i (j - i).toNat) (n := (j - i).toNat) (f := fun k => i + (k : Int)) (fun i H h => h) (fun i H h => h) (fun i H x H' ⟨y1, y2⟩ => ⟨y1, y2⟩)
            · cases e
      all_goals first | (cases e; done) | (rename_i hh; simp at hh)
theorem stepN_le {i j c : Int} (h : 0 < c) : (stepN i j c : Int) ≤ max (j - i) 0 := by
  unfold stepN
  split
  · have : (j - i - 1) / c ≤ j - i - 1 := Int.ediv_le_self _ (by omega)
    omega
  · simp; omega
theorem rgC_pos {i j c : Int} (h1 : -(2 ^ 62) ≤ i ∧ i < 2 ^ 62) (h2 : -(2 ^ 62) ≤ j ∧ j < 2 ^ 62) (h3 : 0 < c ∧ c < 1073741824) : RgC i j c (stepN i j c) := by
  have e : Builtin.Range.rangeSize i j c = ((stepN i j c : Nat) : Int) := by
    unfold Builtin.Range.rangeSize stepN
    rw [if_pos h3.1]
    split
    · have : 0 ≤ (j - i - 1) / c := Int.ediv_nonneg (by omega) (by omega)
      omega
    · rfl
  refine ⟨by omega, by omega, ?_, e⟩
  have hl := stepN_le (i := i) (j := j) h3.1
  unfold Builtin.Range.small
  rw [e]
  simp only [Builtin.Range.rangeFitsLong, Bool.and_eq_true, Bool.or_eq_true, decide_eq_true_eq, beq_iff_eq, h3.1, if_true]
  omega
theorem sni_rng3 {tg a b c : Expr} {m m' m'' : ME} {p : Pos} (hg : Gl X "range") (hm : X.mg "range" = none) (ha : PA X [a, b, c] (tA X.kw (evEs cf (.cons m (.cons m' (.cons m'' .nil)))))) (hs : starEach [a, b, c] X.env = (false, eval a X.env) :: starEach [b, c] X.env) (hpl : (backTo pos (starEach [b, c] X.env)).any (·.1) = false) :
    PI X tg (.Call (.Name "range" p) [a, b, c] [] pos) (tI X.kw (evI cf (.rng (.cons m (.cons m' (.cons m'' .nil)))))) :=
  (pi_range3 hg hm ha hs hpl).imp fun σ H Rq h => rng_ok σ H h fun vs ds' ds F' H' hl r e w => by
    match ds', hl with
    | [d, d', d''], _ =>
      unfold rngD at e
      split at e <;> first | (rename_i hh; cases hh; done) | skip
      · rename_i i j k hh
        cases hh
        cases r with
        | cons r t =>
          cases t with
          | cons r' t =>
            cases t with
            | cons r'' t =>
              cases t; cases r; cases r'; cases r''
              split at e
              · rename_i hz
                obtain ⟨h1, h2, rfl, h4⟩ := hz
                cases e
                refine ⟨i, j, -1, _, rfl, RgC.neg h1.1 h1.2 h2.1 h2.2, w _ (by rw [List.length_map, List.length_range]; omega) ?_⟩
                exact walk_int (K := X.kw) (F := F') (J := Itc i (-1) (i - j).toNat) (n := (i - j).toNat) (f := fun k => i - (k : Int)) (fun i H h => h) (fun i H h => h) (fun i H x H' ⟨y1, y2⟩ => ⟨y1, by rw [y2]; congr 1; omega⟩)
              · split at e
                · rename_i hz
                  obtain ⟨h1, h2, h3, h4⟩ := hz
                  cases e
                  refine ⟨i, j, k, stepN i j k, rfl, rgC_pos h1 h2 h3, w _ (by rw [List.length_map, List.length_range]; have := stepN_le (i := i) (j := j) h3.1; omega) ?_⟩
                  exact walk_int (K := X.kw) (F := F') (J := Itc i k (stepN i j k)) (n := stepN i j k) (f := fun m => i + (m : Int) * k) (fun i H h => h) (fun i H h => h) (fun i H x H' ⟨y1, y2⟩ => ⟨y1, y2⟩)
                · cases e
      all_goals first | (cases e; done) | (rename_i hh; simp at hh)

/-! ### targets -/
mutual
def tslots : MT → List Nat
  | .name i => [i]
  | .tup ts => tslotss ts
def tslotss : MTs → List Nat
  | .nil => []
  | .cons t ts => tslots t ++ tslotss ts
end
def tG (K : KW) (t : MT) : TG := fun v σ H Q => ∃ F e d e' u, RR K F H σ e ∧ Rp K F v d ∧ bindT t d e = .ok u e' ∧
  ∀ σ', RR K F H σ' e' → Stp σ F H e σ' F H e' → (∀ i : Nat, i ∉ tslots t → σ'[i]? = σ[i]?) → (∀ i : Nat, i ∉ tslots t → e'[i]? = e[i]?) → Q σ' H
def tGs (K : KW) (ts : MTs) : TGs := fun vs σ H Q => ∃ F e ds e' u, RR K F H σ e ∧ RpAll K F vs ds ∧ bindTs ts ds e = .ok u e' ∧
  ∀ σ', RR K F H σ' e' → Stp σ F H e σ' F H e' → (∀ i : Nat, i ∉ tslotss ts → σ'[i]? = σ[i]?) → (∀ i : Nat, i ∉ tslotss ts → e'[i]? = e[i]?) → Q σ' H
theorem _root_.L2.PG.imp {X : Cx} {tg : Expr} {t t' : TG} (h : PG X tg t) (w : ∀ v σ H Q, t' v σ H Q → t v σ H Q) : PG X tg t' := ⟨fun pins s σ H v u Q I r q => h.run pins s σ H v u Q I r (w v σ H Q q)⟩
theorem _root_.L2.PGs.imp {X : Cx} {tg : List Expr} {t t' : TGs} (h : PGs X tg t) (w : ∀ v σ H Q, t' v σ H Q → t v σ H Q) : PGs X tg t' := ⟨fun pins s σ H v u Q I r q => h.run pins s σ H v u Q I r (w v σ H Q q)⟩
theorem sng_name {tg : Expr} {i : Nat} (h : PG X tg (gName i)) : PG X tg (tG X.kw (.name i)) :=
  h.imp fun v σ H Q ⟨F, e, d, e', u, R, r, q, w⟩ => by
    obtain ⟨hi, rfl⟩ := setM_ok (show setM i (.sh d) e = .ok u e' from by unfold bindT at q; exact q)
    obtain ⟨R1, S1⟩ := store_sh R .refl r hi
    refine w _ R1 S1 (fun j hj => ?_) fun j hj => ?_
    · rw [List.getElem?_set_ne (by rintro rfl; exact hj (by simp [tslots]))]
    · rw [List.getElem?_set_ne (by rintro rfl; exact hj (by simp [tslots]))]
theorem sng_tup {es : List Expr} {kk : Nat} {ts : MTs} {n : Nat} (hc : X.calm = true) (hs : PGs X es (tGs X.kw ts)) (hn : (assignEach es X.env).length = n) (hst : (assignEach es X.env).findIdx? (·.1) = none) (hl : ∀ ds e u e', bindTs ts ds e = .ok u e' → ds.length = n) : PG X (.Tuple es kk pos) (tG X.kw (.tup ts)) :=
  (pg_tup hc hs hn hst).imp fun v σ H Q ⟨F, e, d, e', u, R, r, q, w⟩ => by
    cases d with
    | tuple ds =>
      cases r with
      | tup ha ra =>
        have q : bindTs ts ds e = .ok u e' := by unfold bindT at q; exact q
        exact ⟨_, _, rfl, R.fz.seqT ha, by rw [ra.length]; exact hl _ _ _ _ q, F, e, ds, e', u, R, ra, q, fun σ' R1 S1 g1 g2 => w σ' R1 S1 (by unfold tslots; exact g1) (by unfold tslots; exact g2)⟩
    | none => unfold bindT at q; obtain ⟨q, _⟩ := lift_ok q; cases q
    | bool _ => unfold bindT at q; obtain ⟨q, _⟩ := lift_ok q; cases q
    | int _ => unfold bindT at q; obtain ⟨q, _⟩ := lift_ok q; cases q
    | str _ => unfold bindT at q; obtain ⟨q, _⟩ := lift_ok q; cases q
    | list _ => unfold bindT at q; obtain ⟨q, _⟩ := lift_ok q; cases q
    | dict _ => unfold bindT at q; obtain ⟨q, _⟩ := lift_ok q; cases q
theorem sng_nil : PGs X [] (tGs X.kw .nil) := pgs_nil.imp fun vs σ H Q ⟨F, e, ds, e', u, R, r, q, w⟩ => by
  cases ds with
  | nil =>
    obtain ⟨_, rfl⟩ := pure_ok (show (pure () : M Unit) e = .ok u e' from by unfold bindTs at q; exact q)
    cases r
    exact ⟨rfl, w σ R .refl (fun _ _ => rfl) (fun _ _ => rfl)⟩
  | cons d ds => unfold bindTs at q; obtain ⟨q, _⟩ := lift_ok q; cases q
theorem sng_cons {tg : Expr} {tgs : List Expr} {t : MT} {ts : MTs} (h1 : PG X tg (tG X.kw t)) (h2 : PGs X tgs (tGs X.kw ts)) (hs : (assignEach (tg :: tgs) X.env).map (·.2) = assign tg X.env :: (assignEach tgs X.env).map (·.2)) : PGs X (tg :: tgs) (tGs X.kw (.cons t ts)) :=
  (pgs_cons h1 h2 hs).imp fun vs σ H Q ⟨F, e, ds, e', u, R, r, q, w⟩ => by
    cases ds with
    | nil => unfold bindTs at q; obtain ⟨q, _⟩ := lift_ok q; cases q
    | cons d ds =>
      have q : ((do bindT t d; bindTs ts ds) : M Unit) e = .ok u e' := by unfold bindTs at q; exact q
      obtain ⟨u1, e1, q1, q⟩ := bind_ok q
      cases r with
      | cons r1 r2 =>
        refine ⟨_, _, rfl, F, e, d, e1, u1, R, r1, q1, fun σ1 R1 S1 g1 g2 => ⟨F, e1, ds, e', u, R1, r2, q, fun σ2 R2 S2 g3 g4 => w σ2 R2 (S1.trans S2) (fun i hi => ?_) fun i hi => ?_⟩⟩
        · unfold tslotss at hi
          rw [List.mem_append, not_or] at hi
          rw [g3 i hi.2, g1 i hi.1]
        · unfold tslotss at hi
          rw [List.mem_append, not_or] at hi
          rw [g4 i hi.2, g2 i hi.1]
end
end Ev
/-! dicts: their keys, their pairs, made of pairs -/
namespace Ev
open PySem PySem.Spec PyProof.Rows L2
section
variable {X : Cx} {k : Nat} {F H H' : Hp} {pins : List (Addr × Obj)} {σ : L2.St} {s : Shared} {a : Addr}
theorem raw_mix {P : Program} {w : World} {K : PySem.W.Frag} {es : List DictEntry} {vs : List (Key × Value)} (h : Pairs (mixKind P w) es vs) : ∀ {kv : List (Key × V)} {kvs : List (D × D)}, KV kv vs → KvR K F kv kvs →
    ∃ ks ws, Vals ks (es.map (·.key)) ∧ RpAll K F ks (kvs.map (·.1)) ∧ Vals ws (es.map (·.val)) ∧ RpAll K F ws (kvs.map (·.2)) := by
  induction h with
  | nil =>
    intro kv kvs h1 h2
    cases h1; cases h2
    exact ⟨[], [], .nil, .nil, .nil, .nil⟩
  | @cons e kv' es' kvs' h1 h2 t ih =>
    intro kv kvs q1 q2
    cases q1 with
    | @cons p q ps qs r1 t1 =>
      cases q2 with
      | @cons p2 q2 ps2 qs2 r2 t2 =>
        obtain ⟨ks, ws, g1, g2, g3, g4⟩ := ih t1 t2
        obtain ⟨r1, r1'⟩ := r1
        obtain ⟨r2, r2'⟩ := r2
        refine ⟨kV p.1 :: ks, p.2 :: ws, .cons ?_ g1, .cons ?_ g2, .cons (by show RelV p.2 e.val; rw [h2]; exact r1') g3, .cons r2' g4⟩
        · show RelV (kV p.1) e.key
          rcases keyIs_shape (show keyIs kv'.1 e.key = true from h1) with ⟨i, t, e1, e2⟩ | ⟨z, t, e1, e2⟩
          · rw [r1, e1, e2]; exact ⟨_, rfl⟩
          · rw [r1, e1, e2]; exact ⟨_, rfl⟩
        · show Rp K F (kV p.1) q2.1
          rw [← r2]
          cases p.1 with
          | inl i => exact .int _
          | inr z => exact .str _
theorem raw_tup {P : Program} {w : World} {K : PySem.W.Frag} {xs : List (NestedKey × Addr × Value)} {kvs : List (D × D)} (h : KtR K F xs kvs) :
    ∃ ks ws, Vals ks (xs.map fun x => Value.ref x.2.1) ∧ RpAll K F ks (kvs.map (·.1)) ∧ Vals ws (xs.map fun x => x.2.2) ∧ RpAll K F ws (kvs.map (·.2)) := by
  induction h with
  | nil => exact ⟨[], [], .nil, .nil, .nil, .nil⟩
  | @cons p q ps qs r t ih =>
    obtain ⟨ks, ws, g1, g2, g3, g4⟩ := ih
    obtain ⟨_, r2, v, r3, r4⟩ := r
    exact ⟨.ref p.2.1 :: ks, v :: ws, .cons rfl g1, .cons r2 g2, .cons r3 g3, .cons r4 g4⟩
/-- the entries of an own dict -/
theorem own_raw (I : Inv X pins σ H s) (fz : Same F H) {ob : Ob} {kvs : List (D × D)} (hob : ob = .dct kvs ∨ ob = .dic kvs) (h : ObR X.kw F H a ob) : (a == sysModules) = false ∧ kvs.length ≤ sizeLine ∧
    ∃ es ep ks ws, s.heap.DictRaw a es ep ∧ es.size = kvs.length ∧ Vals ks (es.toList.map (·.key)) ∧ RpAll X.K F ks (kvs.map (·.1)) ∧ Vals ws (es.toList.map (·.val)) ∧ RpAll X.K F ws (kvs.map (·.2)) := by
  rcases hob with rfl | rfl
  · obtain ⟨vs, ha, rk⟩ := h
    obtain ⟨z, hd, vs', rel, o, es, ep, h1, h2, h3, _, h4, _⟩ := dk_of I.hok ha
    obtain ⟨ks, ws, g1, g2, g3, g4⟩ := raw_mix (K := X.K) (F := F) h4 rel rk
    refine ⟨hd, by rw [← rk.length]; exact z, es, ep, ks, ws, ⟨o, h1, h2, h3⟩, ?_, g1, g2, g3, g4⟩
    have := g1.length
    rw [g2.length, List.length_map, List.length_map, Array.length_toList] at this
    exact this.symm
  · obtain ⟨hd, z, xs, ha, rk⟩ := h
    obtain ⟨o, es, ep, h1, h2, h3, h4, _, _⟩ := dic_at I fz ha rk
    obtain ⟨ks, ws, g1, g2, g3, g4⟩ := raw_tup (P := X.prog) (w := X.w) rk
    refine ⟨hd, z, es, ep, ks, ws, ⟨o, h1, h2, h3⟩, ?_, ?_, g2, ?_, g4⟩
    · rw [size_of_entries h4, rk.length]
    · rw [h4, List.map_map]; exact g1
    · rw [h4, List.map_map]; exact g3
end
section
variable {prog : Program} {w : World} {A : Around} {E : Value → Shared → Prop} {s : Shared} {d : Addr} {es : Array DictEntry} {ep : Nat}
/-- a dict as a source of its keys -/
theorem kdl_raw (lo : (d == sysModules) = false) : PySem.W.KdlSrc prog w "dict" d d es.size (fun i v => ∃ hi : i < es.size, v = es[i].key) (fun h => h.DictRaw d es ep) where
  type := fun _ hm => hm.typeIs
  there := fun _ hm => ⟨hm.lt_size, hm.lt_size⟩
  keep := fun _ _ hm hk => hm.at fun o e => hk d (.inl rfl) o e
  notList := by decide
  notTuple := by decide
  hint := fun _ _ _ _ hm hq => PySem.W.kdl_hint_dict hm.typeIs hq
  iter := fun _ _ hh hm => ⟨_, _, (fun _ _ hq => wpAny_pyIter_dict_raw lo hm hq), Walks.rawKeys hh _ d (Nat.ne_of_lt hm.lt_size) es ep, ⟨⟨_, Heap.get?_push_size _ rfl, rfl, rfl⟩, hm.push _⟩⟩
theorem items_keys {acc : Array Value} (h : ItemsOf (fun i v => ∃ hi : i < es.size, v = es[i].key) acc es.size) : acc.toList = es.toList.map (·.key) := by
  refine List.ext_getElem? fun j => ?_
  rw [List.getElem?_map, Array.getElem?_toList, Array.getElem?_toList]
  cases e : acc[j]? with
  | none =>
    have : es.size ≤ j := by rw [← h.1]; exact Array.getElem?_eq_none_iff.mp e
    rw [Array.getElem?_eq_none this]; rfl
  | some v =>
    obtain ⟨hi, rfl⟩ := h.2 j v e
    rw [Array.getElem?_eq_getElem hi]; rfl
/-- sorted(u), by what collecting gives -/
theorem sorted_by {u : Value} {ds : List D} {P : Heap → Nat → List Value → Prop} {Q : Value → Shared → Prop}
    (hcol : ∀ (R : List Value → Shared → Prop) (E' : Value → Shared → Prop), (∀ (h1 : Heap) (tk : Nat) (us : List Value), P h1 tk us → R us { s with heap := h1, toks := tk }) → wpAny (model prog w) A.in1 (collect u) R E' s)
    (hal : PySem.W.AllAlike ds) (hk : PySem.W.Sortable ds) (hu : ∀ d, d ∈ ds → A.units + 2 + d.depth < cLine)
    (h : ∀ h1 tk us, P h1 tk us → us.length ≤ sizeLine ∧ ∃ R : Value → D → Prop, PySem.W.EachIs R us ds ∧ PySem.W.EachIs (fun v d => ∃ as, Reads h1 v d as) us ds ∧
      ∀ (h' : Heap) (out : List Value) (n : Nat), (∀ b o, h1.get? b = some o → h'.get? b = some o) → h'.get? h1.objs.size = some (seqObj "list" out.toArray n) → PySem.W.EachIs R out (ds.mergeSort leD) → Q (.ref h1.objs.size) { s with heap := h', toks := tk }) :
    wpAny (model prog w) A (call (.builtin "sorted") [u]) Q E s := by
  refine Calls.call_function_entry kind_sorted plain_sorted entry_sorted (args_sorted1 _) ?_
  unfold Builtin.«sorted»
  refine wpAny_bind (m := checkCount "sorted" 1 1 _) (wpAny_pure ?_)
  refine wpAny_bind (hcol _ _ fun h1 tk us hP => ?_)
  obtain ⟨hL, R, e, er, h⟩ := h h1 tk us hP
  refine wpAny_bind (wpAny_newList ?_ hL)
  have hoL : (h1.push (seqObj "list" us.toArray 0)).get? h1.objs.size = some (seqObj "list" us.toArray 0) := Heap.get?_push_size _ rfl
  have keep : ∀ b o, h1.get? b = some o → b ≠ h1.objs.size ∧ (h1.push (seqObj "list" us.toArray 0)).get? b = some o := fun b o q => by
    have hlt : b < h1.objs.size := Heap.lt_size q
    exact ⟨Nat.ne_of_lt hlt, Heap.get?_push_of_some _ q⟩
  have er' : PySem.W.EachIs (fun v d => ∃ as, Reads (PySem.W.sortingHeap (h1.push (seqObj "list" us.toArray 0)) h1.objs.size us) v d as) us ds := er.mono fun _ _ ⟨as, r⟩ => ⟨as, PyProof.Rows.Reads.keeps (fun b o q => PySem.W.sortingHeap_old (keep b o q).1 (keep b o q).2) r⟩
  refine wpAny_bind (wpAny_holding (wpAny_call_entry slot_list_sort ⟨_, hoL, rfl⟩ entry_list_sort
    (PySem.W.list_sort_vals (s := { s with heap := h1.push (seqObj "list" us.toArray 0), toks := tk }) hoL (PySem.W.SortsAt.data (s := { s with heap := PySem.W.sortingHeap (h1.push (seqObj "list" us.toArray 0)) h1.objs.size us, toks := tk }) er' hal hk hu) hL ⟨_, rfl, ?_⟩) (args_list_sort _)))
  refine wpAny_pure ⟨_, rfl, ?_⟩
  have hp : h1.objs.size < (h1.push (seqObj "list" us.toArray 0)).objs.size := by rw [size_push']; exact Nat.lt_succ_self _
  obtain ⟨n', hn'⟩ : ∃ n', (sortedHeap (h1.push (seqObj "list" us.toArray 0)) h1.objs.size us (PySem.W.sortVals (PySem.W.dataKind (PySem.W.sortingHeap (h1.push (seqObj "list" us.toArray 0)) h1.objs.size us) ds) false us us).toArray).get? h1.objs.size = some (seqObj "list" (PySem.W.sortVals (PySem.W.dataKind (PySem.W.sortingHeap (h1.push (seqObj "list" us.toArray 0)) h1.objs.size us) ds) false us us).toArray n') := by
    obtain ⟨e1, ho1⟩ : ∃ e1, ((h1.push (seqObj "list" us.toArray 0)).update h1.objs.size (Obj.mapSeq fun _ => #[])).get? h1.objs.size = some (seqObj "list" #[] e1) := ⟨_, get?_update_seq hoL (fun _ => #[])⟩
    exact ⟨_, get?_update_seq (Heap.get?_push_of_some _ (Heap.get?_push_of_some _ ho1)) (fun _ => _)⟩
  refine h _ _ n' (fun b o q => ?_) hn' ?_
  · have hlt : b < h1.objs.size := Heap.lt_size q
    have q2 : (h1.push (seqObj "list" us.toArray 0)).get? b = some o := Heap.get?_push_of_some _ q
    rw [sortedHeap_old (Nat.ne_of_lt hlt) (Heap.lt_size q2)]
    exact q2
  · have := PySem.W.sortVals_data (β := D) (enc := fun d => d) (R := R) false e (by simpa using er') (by simpa using hal)
    rw [List.map_id'] at this
    exact this
end
section
variable {X : Cx} {k : Nat} {F H H' : Hp} {pins : List (Addr × Obj)} {σ : L2.St} {s : Shared} {a : Addr}
theorem bir_sorted (hcalm : X.calm = true) (hr : Room k X.A) : CallR X (.builtin "sorted") (rBi X.kw .sorted) := by
  intro pins s σ H vs us Q I r h
  obtain ⟨F, ds, rv, fz, hv, e, q⟩ := h
  have go : ∀ {T : String} {a : Addr} {vs : List V} {us : List Value} {o : Obj} {n : Nat} {xs : List D}, T = "list" ∨ T = "tuple" → Vals vs us → s.heap.get? a = some o → o.cls = .type T → o.data = .seq us.toArray n → us.length ≤ sizeLine → RpAll X.kw F vs xs → sortOk xs = true →
      (∀ v F' H', Ext F H F' H' → RvR X.kw F' H' v (.new (.lst (xs.mergeSort leD))) → Frs H v (.new (.lst (xs.mergeSort leD))) → Q v H') → wpAny (model X.prog X.w) X.A (call (.builtin "sorted") [.ref a]) (EP X pins σ Q) X.xe s := fun {T a vs us o n xs} hT rv ho hc hd hz ra so q => by
    obtain ⟨h1, h2, h3, h4⟩ := sortOk_of so
    refine sorted_seq hT ho hc hd (each_vd rv ra) (each_reads I fz h3 (each_vd rv ra)) h1 h2 hz (fun d hd => by have := depthAll_mem hd; have := hr.un; omega) fun hh h' out n' k1 k2 e' eo => ?_
    obtain ⟨ws, rw', rp⟩ := vd_each eo
    have I1 : Inv X pins σ H { s with heap := hh } := I.kept (t' := s.toks) k1
    have hp : H hh.objs.size = none := I1.hok.fresh (Nat.le_refl _)
    have hl : ws.length ≤ sizeLine := by rw [rp.length, (List.mergeSort_perm xs leD).length_eq, ← ra.length, rv.length]; exact hz
    refine ⟨.ref hh.objs.size, _, I1.laid (s := { s with heap := hh }) (t' := s.toks) k2 (Nat.le_refl _) (show ObjOk X.prog X.w _ h' _ (.lst ws) from ⟨hl, out, n', rw', e'⟩), rfl, ?_⟩
    exact q _ _ _ (.lst fz hp) ⟨_, rfl, fz.none_ hp, _, upd_same, rp⟩ (fun a e => by cases e; exact hp)
  unfold biD at e
  split at e <;> try (rename_i hh; cases hh)
  · obtain ⟨v, rfl, h⟩ := hv.one
    obtain ⟨a, vs, rfl, ha, ra⟩ := h.list fz
    split at e
    · rename_i so
      cases e
      obtain ⟨u, rfl, ru⟩ := vals1 r
      cases ru
      obtain ⟨us, o, n, rv, ho, hc, hd, hz⟩ := seqL_obj I (.of ha)
      exact go (.inl rfl) rv ho hc hd hz ra so q
    · cases e
  · obtain ⟨v, rfl, h⟩ := hv.one
    obtain ⟨a, vs, rfl, ha, ra⟩ := h.tup fz
    split at e
    · rename_i so
      cases e
      obtain ⟨u, rfl, ru⟩ := vals1 r
      cases ru
      obtain ⟨us, o, n, rv, ho, hc, hd, hz⟩ := seqT_obj I (fz.seqT ha)
      exact go (.inr rfl) rv ho hc hd hz ra so q
    · cases e
  · obtain ⟨v, rfl, h⟩ := hv.one
    split at e
    · rename_i kvs so
      cases e
      obtain ⟨u, rfl, ru⟩ := vals1 r
      rcases h.frz with ⟨a, ns, rfl, ha, rfl⟩ | ⟨a, ob, rfl, hob, ho⟩
      · cases ns with
        | cons n ns => simp [sortOk, isTupC, notTup] at so
        | nil =>
          cases ru
          obtain ⟨us, o, n, rv, ho, hc, hd, hz⟩ := seqL_obj I (fz.seq ha)
          exact go (.inl rfl) rv ho hc hd hz .nil so q
      · cases ru
        obtain ⟨hsys, hz, es, ep, ks, ws, hm, hl, g1, g2, _, _⟩ := own_raw I fz hob ho
        obtain ⟨h1, h2, h3, h4⟩ := sortOk_of so
        refine sorted_by (P := fun h1 _ us => (∀ b o, s.heap.get? b = some o → h1.get? b = some o) ∧ us = es.toList.map (·.key)) (fun R E' g => ?_) h1 h2 (fun d hd => by have := depthAll_mem hd; have := hr.un; omega) ?_
        · refine PySem.W.kdu_collect (kdl_raw (ep := ep) hsys) (I.ok.hd hcalm) hm (by rw [hl]; exact hz) fun h' tk acc hk hacc => ?_
          rw [items_keys hacc]
          exact g h' tk _ ⟨hk, rfl⟩
        · rintro hh tk us ⟨k1, rfl⟩
          have I1 : Inv X pins σ H { s with heap := hh, toks := tk } := I.kept (t' := tk) k1
          refine ⟨by rw [List.length_map, Array.length_toList, hl]; exact hz, VD X.kw F, each_vd g1 g2, ?_, fun h' out n' k2 e' eo => ?_⟩
          · exact each_reads I1 fz h3 (each_vd g1 g2)
          obtain ⟨ws', rw', rp⟩ := vd_each eo
          have hp : H hh.objs.size = none := I1.hok.fresh (Nat.le_refl _)
          have hl' : ws'.length ≤ sizeLine := by rw [rp.length, (List.mergeSort_perm _ leD).length_eq, List.length_map]; exact hz
          refine ⟨.ref hh.objs.size, _, I1.laid (s := { s with heap := hh, toks := tk }) (t' := tk) k2 (Nat.le_refl _) (show ObjOk X.prog X.w _ h' _ (.lst ws') from ⟨hl', out, n', rw', e'⟩), rfl, ?_⟩
          exact q _ _ _ (.lst fz hp) ⟨_, rfl, fz.none_ hp, _, upd_same, rp⟩ (fun a e => by cases e; exact hp)
    · cases e
  · cases e
/-! ### dict(ps) -/
theorem kV_rp {K : PySem.W.Frag} {x : V} {d : D} {k : Key} (h : Rp K F x d) (e : keyD d = some k) : x = kV k ∧ d = kD k := by
  cases d <;> cases h <;> cases e <;> exact ⟨rfl, rfl⟩
theorem ktr_is (I : Inv X pins σ H s) (fz : Same F H) {xs : List (NestedKey × Addr × Value)} {kvs : List (D × D)} (hk : KtR X.K F xs kvs) : ∀ x, x ∈ xs → (nestedKind X.prog X.w).is s.heap x.1 x.2.1 := by
  intro x hx
  induction hk with
  | nil => cases hx
  | @cons p q ps' qs r' t ih =>
    rcases List.mem_cons.mp hx with rfl | hx
    · obtain ⟨b, e0, e1, _, e2⟩ := key_is I fz (.inl r'.2.1) (u := .ref x.2.1) rfl r'.1
      cases e1
      exact e2
    · exact ih hx
theorem pairs_k {K : PySem.W.Frag} (fz : Same F H) : ∀ {ps : List D} {vs : List V} {kvs : List (D × D)}, pairsD ps = some kvs → RpAll K F vs ps → (kvs.all fun p => (keyD p.1).isSome) = true →
    ∃ (as : List Addr) (kv : List (Key × V)), vs = as.map V.ref ∧ Paired (fun p q => SqT K H p [kV q.1, q.2]) as kv ∧ KvR K F kv kvs
  | [], vs, kvs, e, h, _ => by
    cases h; cases e
    exact ⟨[], [], rfl, .nil, .nil⟩
  | .tuple [x, y] :: r, vs, kvs, e, h, g => by
    obtain ⟨kvs', e', rfl⟩ : ∃ kvs', pairsD r = some kvs' ∧ kvs = (x, y) :: kvs' := by
      cases q : pairsD r with
      | none => simp [pairsD, q] at e
      | some l => simp [pairsD, q] at e; exact ⟨l, rfl, e.symm⟩
    cases h with
    | cons h t =>
      cases h with
      | tup ht hr =>
        cases hr with
        | cons h1 hr =>
          cases hr with
          | cons h2 hr =>
            cases hr
            rw [List.all_cons, Bool.and_eq_true] at g
            obtain ⟨as, kv, e1, e2, e3⟩ := pairs_k fz e' t g.2
            obtain ⟨k', hk'⟩ := Option.isSome_iff_exists.mp g.1
            obtain ⟨e4, e5⟩ := kV_rp h1 hk'
            subst e4
            refine ⟨_ :: as, (k', _) :: kv, by rw [e1]; rfl, .cons (fz.seqT ht) e2, .cons ⟨e5.symm, h2⟩ e3⟩
  | .none :: _, _, _, e, _, _ => by simp [pairsD] at e
  | .bool _ :: _, _, _, e, _, _ => by simp [pairsD] at e
  | .int _ :: _, _, _, e, _, _ => by simp [pairsD] at e
  | .str _ :: _, _, _, e, _, _ => by simp [pairsD] at e
  | .list _ :: _, _, _, e, _, _ => by simp [pairsD] at e
  | .dict _ :: _, _, _, e, _, _ => by simp [pairsD] at e
  | .tuple [] :: _, _, _, e, _, _ => by simp [pairsD] at e
  | .tuple [_] :: _, _, _, e, _, _ => by simp [pairsD] at e
  | .tuple (_ :: _ :: _ :: _) :: _, _, _, e, _, _ => by simp [pairsD] at e
theorem merge_rel2 {K : KW} : ∀ {kv : List (Key × V)} {kvs : List (D × D)} {acc : List (Key × V)} {acc' : List (D × D)}, KvR K F kv kvs → KvR K F acc acc' →
    KvR K F (mergeK acc kv) (kvs.foldl (fun acc p => dPut acc p.1 p.2) acc')
  | _, _, _, _, .nil, h => h
  | p :: ps, q :: qs, acc, acc', .cons r t, h => by
    have := h.put (k := p.1) r.2
    rw [r.1] at this
    exact merge_rel2 (kv := ps) (kvs := qs) t this
theorem pairs_t (I : Inv X pins σ H s) (fz : Same F H) : ∀ {ps : List D} {vs : List V} {kvs : List (D × D)}, pairsD ps = some kvs → RpAll X.K F vs ps → (kvs.all fun p => (keyT p.1).isSome) = true →
    ∃ (as : List Addr) (xs : List (NestedKey × Addr × Value)), vs = as.map V.ref ∧ Paired (fun p x => s.heap.IsTuple p #[.ref x.2.1, x.2.2]) as xs ∧ KtR X.K F xs kvs
  | [], vs, kvs, e, h, _ => by
    cases h; cases e
    exact ⟨[], [], rfl, .nil, .nil⟩
  | .tuple [x, y] :: r, vs, kvs, e, h, g => by
    obtain ⟨kvs', e', rfl⟩ : ∃ kvs', pairsD r = some kvs' ∧ kvs = (x, y) :: kvs' := by
      cases q : pairsD r with
      | none => simp [pairsD, q] at e
      | some l => simp [pairsD, q] at e; exact ⟨l, rfl, e.symm⟩
    cases h with
    | cons h t =>
      cases h with
      | tup ht hr =>
        cases hr with
        | cons h1 hr =>
          cases hr with
          | cons h2 hr =>
            cases hr
            rw [List.all_cons, Bool.and_eq_true] at g
            obtain ⟨as, xs, e1, e2, e3⟩ := pairs_t I fz e' t g.2
            obtain ⟨c, hc⟩ := Option.isSome_iff_exists.mp g.1
            obtain ⟨its, rv, hT, _⟩ := I.tuple (fz.seqT ht)
            obtain ⟨u, z, rfl, ru, rz⟩ := vals2 rv
            obtain ⟨b, rfl, rfl, hb, _⟩ := key_is I fz (.inl h1) ru hc
            exact ⟨_ :: as, (c, b, z) :: xs, by rw [e1]; rfl, .cons hT e2, .cons ⟨hc, hb, _, rz, h2⟩ e3⟩
  | .none :: _, _, _, e, _, _ => by simp [pairsD] at e
  | .bool _ :: _, _, _, e, _, _ => by simp [pairsD] at e
  | .int _ :: _, _, _, e, _, _ => by simp [pairsD] at e
  | .str _ :: _, _, _, e, _, _ => by simp [pairsD] at e
  | .list _ :: _, _, _, e, _, _ => by simp [pairsD] at e
  | .dict _ :: _, _, _, e, _, _ => by simp [pairsD] at e
  | .tuple [] :: _, _, _, e, _, _ => by simp [pairsD] at e
  | .tuple [_] :: _, _, _, e, _, _ => by simp [pairsD] at e
  | .tuple (_ :: _ :: _ :: _) :: _, _, _, e, _, _ => by simp [pairsD] at e
theorem stored_rel {K : PySem.W.Frag} : ∀ {xs : List (NestedKey × Addr × Value)} {kvs : List (D × D)} {acc : List (NestedKey × Addr × Value)} {acc' : List (D × D)}, KtR K F xs kvs → KtR K F acc acc' →
    KtR K F (storedAllH acc xs) (kvs.foldl (fun acc p => tPut acc p.1 p.2) acc')
  | _, _, _, _, .nil, h => h
  | p :: ps, q :: qs, acc, acc', .cons r t, h => by
    obtain ⟨r1, r2, v, r3, r4⟩ := r
    exact stored_rel (xs := ps) (kvs := qs) (show KtR K F ps qs from t) (tPut_of h r1 r2 r3 r4)
theorem paired_at {α β : Type} {G : α → β → Prop} : ∀ {l : List α} {m : List β}, Paired G l m → ∀ (j : Nat) b, m[j]? = some b → ∃ a, l[j]? = some a ∧ G a b
  | _, _, .nil, j, b, e => by simp at e
  | _, _, .cons r t, 0, b, e => by simp at e; subst e; exact ⟨_, rfl, r⟩
  | _, _, .cons r t, j + 1, b, e => by
    obtain ⟨a, h1, h2⟩ := paired_at t j b (by simpa using e)
    exact ⟨a, by simpa using h1, h2⟩
theorem bir_dict (hc : X.calm = true) (hr : Room k X.A) : CallR X (.type "dict") (rBi X.kw .dict) := by
  intro pins s σ H vs us Q I r h
  obtain ⟨F, ds, rv, fz, hv, e, q⟩ := h
  unfold biD at e
  split at e <;> try (rename_i hh; cases hh)
  · rename_i ps
    obtain ⟨v, rfl, h⟩ := hv.one
    obtain ⟨a, vs, rfl, ha, ra⟩ := h.list fz
    cases e1 : dictP ps with
    | none => rw [e1] at e; cases e
    | some ob =>
      rw [e1] at e
      cases e
      unfold dictP at e1
      cases e2 : pairsD ps with
      | none => rw [e2] at e1; cases e1
      | some kvs =>
        rw [e2] at e1
        have e1 : (if kvs.all (fun p => (keyD p.1).isSome) then some (Ob.dct (kvs.foldl (fun acc p => dPut acc p.1 p.2) []))
          else if kvs.all (fun p => (keyT p.1).isSome) then some (.dic (kvs.foldl (fun acc p => tPut acc p.1 p.2) [])) else none) = some ob := e1
        split at e1
        · rename_i g
          cases e1
          obtain ⟨as, kv, rfl, hp, hk⟩ := pairs_k fz e2 ra g
          refine call_dictP hc pins s σ H _ us Q I r ⟨a, as, kv, rfl, .of ha, hp, fun p hp => ?_⟩
          exact q _ _ _ (.lst fz hp) ⟨p, rfl, fz.none_ hp, _, upd_same, merge_rel2 hk .nil⟩ (fun b e => by cases e; exact hp)
        · split at e1
          · rename_i g
            cases e1
            obtain ⟨as, xs, rfl, hp, hk⟩ := pairs_t I fz e2 ra g
            obtain ⟨u, rfl, ru⟩ := vals1 r
            cases ru
            obtain ⟨its, rvv, pl, hz⟩ := I.list (.of ha)
            have ei := refs_at rvv
            subst ei
            obtain ⟨o, n, ho, hcl, hd, hdat⟩ := pl
            have hlen : as.length = xs.length := Paired.length hp
            rw [List.length_map] at hz
            have tup := ktr_is I fz hk
            refine PySem.call_dict_pairsH (knd := nestedKind X.prog X.w) (ps := xs) (PairArg.list a (as.map Value.ref).toArray (fun j => as.getD j 0) (xs.map fun x => (.ref x.2.1, x.2.2))) (I.ok.hd hc) (by show X.A.in1.in1.units + 8 < cLine; have := hr.un; show X.A.units + 1 + 1 + 8 < cLine; omega) ⟨⟨o, n, ho, hcl, hd, hdat⟩, ?_, ?_⟩ ⟨?_, ?_⟩ ?_ ?_ ?_
            · rw [List.size_toArray, List.length_map, List.length_map]; exact hlen
            · intro j key v hj
              rw [List.getElem?_map] at hj
              cases q1 : xs[j]? with
              | none => rw [q1] at hj; cases hj
              | some x =>
                rw [q1] at hj
                cases hj
                obtain ⟨b, h1, h2⟩ := paired_at hp j x q1
                refine ⟨?_, .inl ?_⟩
                · simp [h1]
                · show s.heap.IsTuple (as.getD j 0) _
                  rw [List.getD_eq_getElem?_getD, h1]; exact h2
            · rw [List.length_map]
            · intro i key v hj
              have hj : (xs.map fun x => (Value.ref x.2.1, x.2.2))[i]? = some (key, v) := hj
              rw [List.getElem?_map] at hj
              cases q1 : xs[i]? with
              | none => rw [q1] at hj; cases hj
              | some x =>
                rw [q1] at hj
                cases hj
                exact ⟨x.1, x.2.1, rfl, rfl⟩
            · intro h' hk' x hx
              exact nestedKind_stays.all h' (fun b o _ e => hk' b o (Nat.ne_of_lt (Heap.lt_size e)) (by simp) e) _ _ (tup x hx)
            · rw [List.length_map, ← hlen]; exact hz
            · intro h' tk hm kk
              have hp' : H s.heap.objs.size = none := I.hok.fresh (Nat.le_refl _)
              have hsz : (storedAllH [] xs).length ≤ sizeLine := Nat.le_trans (storedAllH_length xs []) (by rw [List.length_nil, Nat.zero_add, ← hlen]; exact hz)
              refine ⟨.ref s.heap.objs.size, _, I.laid (t' := tk) (fun b o e => kk b o (by simp) e) (Nat.le_refl _) (dic_ok hm), rfl, ?_⟩
              have hK := stored_rel (acc := []) (acc' := []) hk .nil
              exact q _ _ _ (.lst fz hp') ⟨_, rfl, fz.none_ hp', beq_eq_false_iff_ne.mpr (Nat.ne_of_gt I.big), by rw [← hK.length]; exact hsz, _, upd_same, hK⟩ (fun b e => by cases e; exact hp')
          · cases e1
  · cases e
end
end Ev
/-! comprehensions -/
namespace Ev
open PySem PySem.Spec PyProof.Rows L2
section
variable {K : KW} {F F' H H' H0 F0 : Hp} {σ σ0 σ' : S2} {e e0 e' : En} {v : V} {d : D}
theorem wipeE_length (e : En) : ∀ vs : List Nat, (wipeE e vs).length = e.length
  | [] => rfl
  | v :: vs => by unfold wipeE; rw [List.length_set, wipeE_length e vs]
theorem wipeE_out {i : Nat} : ∀ {vs : List Nat}, i ∉ vs → (wipeE e vs)[i]? = e[i]?
  | [], _ => rfl
  | v :: vs, h => by
    unfold wipeE
    rw [List.getElem?_set_ne (by rintro rfl; exact h (List.mem_cons_self ..))]
    exact wipeE_out fun z => h (List.mem_cons_of_mem _ z)
theorem wipeE_in {i : Nat} {s : Slot} : ∀ {vs : List Nat}, i ∈ vs → (wipeE e vs)[i]? = some s → s = .no
  | [], h, _ => by simp at h
  | v :: vs, h, q => by
    unfold wipeE at q
    by_cases hv : v = i
    · subst hv
      by_cases hl : v < (wipeE e vs).length
      · rw [List.getElem?_set_self hl] at q; cases q; rfl
      · rw [List.getElem?_eq_none (by simpa using hl)] at q; cases q
    · rw [List.getElem?_set_ne hv] at q
      rcases List.mem_cons.mp h with z | z
      · exact absurd z.symm hv
      · exact wipeE_in z q
theorem wipe_out' {i : Nat} : ∀ {vs : List Nat}, i ∉ vs → (wipe σ vs)[i]? = σ[i]?
  | [], _ => rfl
  | v :: vs, h => by
    unfold wipe
    rw [List.getElem?_set_ne (by rintro rfl; exact h (List.mem_cons_self ..))]
    exact wipe_out' fun z => h (List.mem_cons_of_mem _ z)
theorem wipe_in {i : Nat} : ∀ {vs : List Nat}, i ∈ vs → i < σ.length → (wipe σ vs)[i]? = some none
  | [], h, _ => by simp at h
  | v :: vs, h, hl => by
    unfold wipe
    by_cases hv : v = i
    · subst hv
      rw [List.getElem?_set_self (by rw [wipe_length]; exact hl)]
    · rw [List.getElem?_set_ne hv]
      rcases List.mem_cons.mp h with z | z
      · exact absurd z.symm hv
      · exact wipe_in z hl
theorem wipe_eq {vs : List Nat} (hl : σ'.length = σ.length) (h : ∀ i, i ∉ vs → σ'[i]? = σ[i]?) : wipe σ' vs = wipe σ vs := by
  refine List.ext_getElem? fun i => ?_
  by_cases hi : i ∈ vs
  · by_cases hlt : i < σ.length
    · rw [wipe_in hi hlt, wipe_in hi (by rw [hl]; exact hlt)]
    · rw [List.getElem?_eq_none (by rw [wipe_length]; omega), List.getElem?_eq_none (by rw [wipe_length]; omega)]
  · rw [wipe_out' hi, wipe_out' hi, h i hi]
theorem wipe_own {vs : List Nat} {i : Nat} {b : Addr} (w : OwnAt (wipe σ vs) (wipeE e vs) i b) : OwnAt σ e i b := by
  obtain ⟨s, w1, w2, w3⟩ := w
  by_cases hi : i ∈ vs
  · rw [wipeE_in hi w1] at w2; cases w2
  · rw [wipeE_out hi] at w1
    rw [wipe_out' hi] at w3
    exact ⟨s, w1, w2, w3⟩
theorem RR.wipe (R : RR K F H σ e) (vs : List Nat) : RR K F H (wipe σ vs) (wipeE e vs) where
  fz := R.fz
  len := by rw [wipeE_length, wipe_length, R.len]
  dis := fun i j a hi hj => R.dis i j a (wipe_own hi) (wipe_own hj)
  at_ := fun i s h => by
    by_cases hi : i ∈ vs
    · rw [wipeE_in hi h]; trivial
    · rw [wipeE_out hi] at h
      rw [wipe_out' hi]
      exact R.at_ i s h
theorem Stp.wipe (S : Stp σ0 F0 H0 e0 σ F H e) (vs : List Nat) : Stp σ0 F0 H0 e0 (wipe σ vs) F H (wipeE e vs) where
  fr := S.fr
  keep := S.keep
  nw := S.nw
  own := fun i b w => S.own i b (wipe_own w)
  ows := fun i b ⟨o, w1, w3⟩ => S.ows i b (by
    by_cases hi : i ∈ vs
    · have := wipeE_in hi w1; cases this
    · rw [wipeE_out hi] at w1
      rw [wipe_out' hi] at w3
      exact ⟨o, w1, w3⟩)
  pas := fun i o h => by
    by_cases hi : i ∈ vs
    · have := wipeE_in hi h; cases this
    · rw [wipeE_out hi] at h
      rw [wipe_out' hi]
      exact S.pas i o h
  ex := S.ex
theorem restE_length {e0 e : En} : ∀ {vs : List Nat}, (restE e0 e vs).length = e.length
  | [] => rfl
  | v :: vs => by unfold restE; rw [List.length_set, restE_length]
theorem restE_out {e0 e : En} {i : Nat} : ∀ {vs : List Nat}, i ∉ vs → (restE e0 e vs)[i]? = e[i]?
  | [], _ => rfl
  | v :: vs, h => by
    unfold restE
    rw [List.getElem?_set_ne (by rintro rfl; exact h (List.mem_cons_self ..))]
    exact restE_out fun z => h (List.mem_cons_of_mem _ z)
theorem restE_in {e0 e : En} {i : Nat} : ∀ {vs : List Nat}, i ∈ vs → i < e.length → (restE e0 e vs)[i]? = some (e0[i]?.getD .no)
  | [], h, _ => by simp at h
  | v :: vs, h, hl => by
    unfold restE
    by_cases hv : v = i
    · subst hv
      rw [List.getElem?_set_self (by rw [restE_length]; exact hl)]
    · rw [List.getElem?_set_ne hv]
      rcases List.mem_cons.mp h with z | z
      · exact absurd z.symm hv
      · exact restE_in z hl
/-- behind the loop: the names of the outside as they were -/
theorem rest_ok {vs : List Nat} {e1 eN : En} {F1 H1 FN HN : Hp} (R1 : RR K F1 H1 σ e1) (RN : RR K FN HN (wipe σ vs) eN) (S : Stp (wipe σ vs) F1 H1 (wipeE e1 vs) (wipe σ vs) FN HN eN) (hn : (vs.all fun i => notOwned (e1[i]?.getD .no)) = true) :
    RR K FN HN σ (restE e1 eN vs) ∧ Stp σ F1 H1 e1 σ FN HN (restE e1 eN vs) ∧ ∀ i b, OwnAt σ (restE e1 eN vs) i b → OwnAt (wipe σ vs) eN i b := by
  have hlen : eN.length = e1.length := by rw [RN.len, wipe_length, R1.len]
  have inn : ∀ {i : Nat} {s : Slot}, i ∈ vs → (restE e1 eN vs)[i]? = some s → e1[i]? = some s ∧ isOwn s = false := fun {i s} hi h => by
    have hl : i < eN.length := by have := (List.getElem?_eq_some_iff.mp h).1; rwa [restE_length] at this
    rw [restE_in hi hl] at h
    rw [hlen] at hl
    rw [List.getElem?_eq_getElem hl] at h ⊢
    have := List.all_eq_true.mp hn i hi
    rw [List.getElem?_eq_getElem hl] at this
    simp only [Option.getD_some, Option.some.injEq] at h this
    subst h
    refine ⟨rfl, ?_⟩
    revert this
    cases e1[i] <;> intro this <;> first | rfl | (simp [notOwned] at this)
  have up : ∀ {i b}, OwnAt σ (restE e1 eN vs) i b → i ∉ vs ∧ OwnAt (wipe σ vs) eN i b := fun {i b} ⟨s, w1, w2, w3⟩ => by
    by_cases hi : i ∈ vs
    · rw [(inn hi w1).2] at w2; cases w2
    · rw [restE_out hi] at w1
      exact ⟨hi, s, w1, w2, by rw [wipe_out' hi]; exact w3⟩
  refine ⟨⟨RN.fz, by rw [restE_length, hlen, R1.len], fun i s h => ?_, fun i j a hi hj => RN.dis i j a (up hi).2 (up hj).2⟩, ⟨S.fr, fun b o h n => S.keep b o h fun i w => n i (wipe_own w), fun b o h => ?_, fun i b w => ?_, fun i o h => ?_, S.ex, fun i b ⟨o, w1, w3⟩ => by
    by_cases hi : i ∈ vs
    · have := (inn hi w1).2; cases this
    · rw [restE_out hi] at w1
      rcases S.ows i b ⟨o, w1, by rw [wipe_out' hi]; exact w3⟩ with ⟨j, o2, z1, z2⟩ | z
      · left
        by_cases hj : j ∈ vs
        · have := wipeE_in hj z1; cases this
        · rw [wipeE_out hj] at z1
          rw [wipe_out' hj] at z2
          exact ⟨j, o2, z1, z2⟩
      · exact .inr z⟩, fun i b w => (up w).2⟩
  · by_cases hi : i ∈ vs
    · obtain ⟨h1, h2⟩ := inn hi h
      have := R1.at_ i s h1
      cases s with
      | no => trivial
      | sh d => obtain ⟨v, e1, e2⟩ := this; exact ⟨v, e1, Rp.mono S.fr _ _ e2⟩
      | ow _ => cases h2
      | pa _ => cases h2
    · rw [restE_out hi] at h
      have := RN.at_ i s h
      rw [wipe_out' hi] at this
      exact this
  · rcases S.nw b o h with z | z | ⟨i, z⟩
    · exact .inl z
    · exact .inr (.inl z)
    · exact .inr (.inr ⟨i, wipe_own z⟩)
  · rcases S.own i b (up w).2 with ⟨j, z⟩ | z
    · exact .inl ⟨j, wipe_own z⟩
    · exact .inr z
  · by_cases hi : i ∈ vs
    · have := (inn hi h).2; cases this
    · rw [restE_out hi] at h
      obtain ⟨o', z1, z2⟩ := S.pas i o h
      rw [wipeE_out hi] at z1
      exact ⟨o', z1, rfl⟩
end
section
variable {X : Cx} {cf : Nat → List Slot → CR} {k : Nat} {a : Expr} {pos : Pos}
theorem snc_none : PTs X [] (tT X.kw (evC cf .none)) := ⟨fun pins s σ H Q I ⟨F, e, b, e', R, q, w⟩ => by
  obtain ⟨p1, p2⟩ := pure_ok (show (pure true : M Bool) e = .ok b e' from q)
  subst p1 p2
  exact pts_nil.run pins s σ H Q I (w F H R .refl)⟩
theorem snc_some {m : MB} (h : PT X a (tT X.kw (evB cf m))) : PTs X [a] (tT X.kw (evC cf (.some m))) := pts_one h

theorem compLoop_at {own : List Nat} {f : D → M (Option D)} {ds acc r : List D} {e e' : En} {d : D} {i : Nat} (hd : ds[i]? = some d) (q : compLoop own f (ds.drop i) acc e = .ok r e') :
    ∃ y e1, f d e = .ok y e1 ∧ compLoop own f (ds.drop (i + 1)) (match y with | some x => acc ++ [x] | none => acc) (wipeE e1 own) = .ok r e' := by
  have hl := (List.getElem?_eq_some_iff.mp hd).1
  have : ds.drop i = d :: ds.drop (i + 1) := by
    rw [List.drop_eq_getElem_cons hl]
    rw [(List.getElem?_eq_some_iff.mp hd).2]
  rw [this] at q
  unfold compLoop at q
  cases hf : f d e with
  | er x e1 => rw [hf] at q; cases q
  | ok y e1 =>
    rw [hf] at q
    cases y with
    | none => exact ⟨none, e1, rfl, q⟩
    | some x => exact ⟨some x, e1, rfl, q⟩
mutual
theorem bindT_len : ∀ (t : MT) (d : D) (e e' : En) (u : Unit), bindT t d e = .ok u e' → e'.length = e.length
  | .name i, d, e, e', u, q => by unfold bindT at q; obtain ⟨_, rfl⟩ := setM_ok q; simp
  | .tup ts, .tuple ds, e, e', u, q => by unfold bindT at q; exact bindTs_len ts ds e e' u q
  | .tup ts, .none, e, e', u, q => by unfold bindT at q; obtain ⟨q, _⟩ := lift_ok q; cases q
  | .tup ts, .bool _, e, e', u, q => by unfold bindT at q; obtain ⟨q, _⟩ := lift_ok q; cases q
  | .tup ts, .int _, e, e', u, q => by unfold bindT at q; obtain ⟨q, _⟩ := lift_ok q; cases q
  | .tup ts, .str _, e, e', u, q => by unfold bindT at q; obtain ⟨q, _⟩ := lift_ok q; cases q
  | .tup ts, .list _, e, e', u, q => by unfold bindT at q; obtain ⟨q, _⟩ := lift_ok q; cases q
  | .tup ts, .dict _, e, e', u, q => by unfold bindT at q; obtain ⟨q, _⟩ := lift_ok q; cases q
theorem bindTs_len : ∀ (ts : MTs) (ds : List D) (e e' : En) (u : Unit), bindTs ts ds e = .ok u e' → e'.length = e.length
  | .nil, [], e, e', u, q => by unfold bindTs at q; obtain ⟨_, rfl⟩ := pure_ok q; rfl
  | .nil, d :: ds, e, e', u, q => by unfold bindTs at q; obtain ⟨q, _⟩ := lift_ok q; cases q
  | .cons t ts, [], e, e', u, q => by unfold bindTs at q; obtain ⟨q, _⟩ := lift_ok q; cases q
  | .cons t ts, d :: ds, e, e', u, q => by
    unfold bindTs at q
    obtain ⟨u1, e1, q1, q⟩ := bind_ok q
    rw [bindTs_len ts ds _ _ _ q, bindT_len t d _ _ _ q1]
end
theorem lc_imp {own : List Nat} {t : MT} {it : MI} {cond : MC} {elt : ME} (ht : ∀ i ∈ tslots t, i ∈ own) :
    ∀ σ H Q, tE X.kw (evE cf (.comp own t it cond elt)) σ H Q → tLc (tI X.kw (evI cf it)) (tG X.kw t) (tT X.kw (evC cf cond)) (tE X.kw (evE cf elt)) own σ H Q := fun σ H Q ⟨F, e, o, e', R, q, w⟩ => by
  obtain ⟨ds, e1, q1, q⟩ := bind_ok q
  refine ⟨F, e, ds, e1, R, q1, fun J F1 H1 R1 S1 hdl wk Dd hD => ?_⟩
  -- the new list
  have hF1 := R1.fz.none_ hD
  have hn1 := R1.not_own hD
  let f : D → M (Option D) := fun d => do
    bindT t d
    let b ← evC cf cond
    if b then do let x ← evE cf elt; let y ← escM x; pure (some y) else pure none
  have q : (if own.all fun i => notOwned (e1[i]?.getD .no) then
    match compLoop own f ds [] (wipeE e1 own) with
    | .ok acc e' => Ev.R.ok (Opd.new (.lst acc)) (restE e1 e' own)
    | .er x e' => .er x e'
    else .er .bad e1) = .ok o e' := q
  have hp1 : (upd H1 Dd (HO.lst [])) Dd = some (.lst []) := upd_same
  have hno1 : ∀ i, ¬ OwnAt (wipe σ own) (wipeE e1 own) i Dd := fun i w => hn1 i (wipe_own w)
  split at q
  · rename_i hno
    cases hc : compLoop own f ds [] (wipeE e1 own) with
    | er x e2 => rw [hc] at q; cases q
    | ok accN eN =>
      rw [hc] at q
      cases q
      let Inv1 : Nat → Hp → Prop := fun i H => ∃ acc Fi ei vacc, acc.length ≤ i ∧ compLoop own f (ds.drop i) acc ei = .ok accN eN ∧ RR X.kw Fi H (wipe σ own) ei ∧
        Stp (wipe σ own) F1 (upd H1 Dd (.lst [])) (wipeE e1 own) (wipe σ own) Fi (upd H Dd (.lst [])) ei ∧ H Dd = some (.lst vacc) ∧ RpAll X.kw Fi vacc acc
      refine ⟨fun i m H => m = ds.length - i ∧ i ≤ ds.length ∧ Inv1 i H, ?_, ?_⟩
      · refine ⟨ds.length, by simp, Nat.zero_le _, [], F1, wipeE e1 own, [], Nat.le_refl _, by simpa using hc, (R1.wipe own).foreign hF1 hno1, ?_, upd_same, .nil⟩
        rw [upd_upd]; exact .refl
      · rintro i m H2 ⟨rfl, hi, acc, Fi, ei, vacc, hal, hcl, Ri, Si, hDi, ra⟩
        obtain ⟨_, hFi, hni⟩ := Si.foreign hp1 hF1 hno1
        by_cases hlt : i < ds.length
        · obtain ⟨d, hd⟩ : ∃ d, ds[i]? = some d := ⟨_, List.getElem?_eq_getElem hlt⟩
          have hw := wk i Fi H2 Si.fr Ri.fz
          obtain ⟨hgo, hyl⟩ := hw.1 d hd
          obtain ⟨y, e3, q3, hcl'⟩ := compLoop_at hd hcl
          obtain ⟨u, e4, q4, q3⟩ := bind_ok q3
          obtain ⟨b, e5, q5, q3⟩ := bind_ok q3
          refine .inr ⟨hgo, Inv1 (i + 1), fun H' z => ⟨ds.length - (i + 1), by omega, rfl, hlt, z⟩, fun x H3 hy => ?_⟩
          obtain ⟨F3, x3, r3⟩ := hyl x H3 hy
          have R3 := Ri.ext x3
          have hD3 : H3 Dd = some (.lst vacc) := x3.keep _ _ hDi
          have S3 : Stp (wipe σ own) F1 (upd H1 Dd (.lst [])) (wipeE e1 own) (wipe σ own) F3 (upd H3 Dd (.lst [])) ei := Si.trans ((x3.stp (σ := wipe σ own) (e := ei)).mask hDi)
          refine ⟨F3, ei, d, e4, u, R3, r3, q4, fun σ2 R4 S4 g1 g2 => ?_⟩
          have hl4 : σ2.length = σ.length := by
            have h1 := R4.len
            have h2 := Ri.len
            rw [wipe_length] at h2
            have h3 := bindT_len t d ei e4 u q4
            omega
          have hw2 : wipe σ2 own = wipe σ own := wipe_eq hl4 fun j hj => by rw [g1 j fun z => hj (ht j z), wipe_out' hj]
          have hww : wipe (wipe σ own) own = wipe σ own := wipe_eq (wipe_length _ _) fun j hj => wipe_out' hj
          refine ⟨hw2, F3, e4, b, e5, R4, q5, fun F5 H5 R5 S5 => ?_⟩
          obtain ⟨_, hF3, hn3⟩ := S3.foreign hp1 hF1 hno1
          obtain ⟨hD5, hF5, hn5⟩ := (S4.trans S5).foreign hD3 hF3 hn3
          have S45 : Stp (wipe σ own) F1 (upd H1 Dd (.lst [])) (wipeE e1 own) σ2 F5 (upd H5 Dd (.lst [])) e5 := S3.trans ((S4.trans S5).mask hD3)
          have m5 : Same Fi F5 := x3.fr.trans (S4.fr.trans S5.fr)
          cases b with
          | false =>
            rw [if_neg (by simp)]
            obtain ⟨p6, p6'⟩ := pure_ok (show (pure none : M (Option D)) e5 = .ok y e3 from q3)
            subst p6 p6'
            have S6 := S45.wipe own
            have R6 := R5.wipe own
            rw [hw2] at S6 R6
            exact ⟨acc, F5, _, vacc, by omega, hcl', R6, S6, hD5, RpAll.mono m5 _ _ ra⟩
          | true =>
            rw [if_pos rfl]
            obtain ⟨o6, e6, q6, q3⟩ := bind_ok (show ((do let x ← evE cf elt; let y ← escM x; pure (some y)) : M (Option D)) e5 = .ok y e3 from q3)
            obtain ⟨d7, e7, q7, q3⟩ := bind_ok q3
            obtain ⟨p8, p8'⟩ := pure_ok q3
            subst p8 p8'
            refine ⟨F5, e5, o6, e6, R5, q6, fun v6 F6 H6 R6 S6 O6 N6 => ?_⟩
            obtain ⟨hD6, hF6, hn6⟩ := S6.foreign hD5 hF5 hn5
            obtain ⟨F7, R7, S7, r7, m7, _⟩ := esc_ok R6 S6 O6 N6 q7
            obtain ⟨hD7, hF7, hn7⟩ := S7.foreign hD5 hF5 hn5
            refine ⟨vacc, hD6, by rw [ra.length]; omega, acc ++ [d7], F7, wipeE e7 own, vacc ++ [v6], by simp; omega, hcl', ?_, ?_, upd_same, ?_⟩
            · have := (R7.foreign (o := .lst (vacc ++ [v6])) hF7 hn7).wipe own
              rw [hw2] at this; exact this
            · have S8 := (S45.trans (S7.mask hD5)).wipe own
              rw [hw2] at S8
              rw [upd_upd]; exact S8
            · exact (RpAll.mono (m5.trans S7.fr) _ _ ra).append (.cons r7 .nil)
        · have e : i = ds.length := by omega
          subst e
          have hst := (wk ds.length Fi H2 Si.fr Ri.fz).2 (Nat.le_refl _)
          refine .inl ⟨hst, ?_⟩
          rw [List.drop_length] at hcl
          unfold compLoop at hcl
          obtain ⟨p6, p6'⟩ := pure_ok hcl
          subst p6 p6'
          have SN : Stp (wipe σ own) F1 H1 (wipeE e1 own) (wipe σ own) Fi H2 ei := Stp.unmask (p := Dd) (o := .lst []) Si hD ⟨_, hDi⟩ hno1
          obtain ⟨R7, S7, up⟩ := rest_ok R1 Ri SN hno
          exact w _ Fi H2 R7 (S1.trans S7) ⟨Dd, rfl, hFi, fun i w => hni i (up i Dd w), vacc, hDi, ra⟩ (fun a ha => by cases ha; exact S1.free hD)
  · cases q
end
end Ev
/-! statements -/
namespace Ev
open PySem PySem.Spec PyProof.Rows L2
def SPost (K : KW) (σ : S2) (F H : Hp) (e : En) (D : Ends) : Fl → En → Prop
  | .nx, e' => ∀ σ' F' H', RR K F' H' σ' e' → Stp σ F H e σ' F' H' e' → D.nx σ' H'
  | .brk, e' => ∀ σ' F' H', RR K F' H' σ' e' → Stp σ F H e σ' F' H' e' → D.bk σ' H'
  | .cnt, e' => ∀ σ' F' H', RR K F' H' σ' e' → Stp σ F H e σ' F' H' e' → D.ct σ' H'
  | .ret o, e' => ∀ v σ' F' H', RR K F' H' σ' e' → Stp σ F H e σ' F' H' e' → OR K F' H' σ' e' v o → FrO H v o → D.rt v H'
def tS (K : KW) (m : M Fl) : TS := fun D σ H => ∃ F e fl e', RR K F H σ e ∧ m e = .ok fl e' ∧ SPost K σ F H e D fl e'
theorem SPost.back {K : KW} {σ σ1 : S2} {F H F1 H1 : Hp} {e e1 e' : En} {D : Ends} {fl : Fl} (h : SPost K σ F H e D fl e') (S : Stp σ F H e σ1 F1 H1 e1) : SPost K σ1 F1 H1 e1 D fl e' := by
  cases fl with
  | nx => exact fun σ' F' H' R' S' => h σ' F' H' R' (S.trans S')
  | brk => exact fun σ' F' H' R' S' => h σ' F' H' R' (S.trans S')
  | cnt => exact fun σ' F' H' R' S' => h σ' F' H' R' (S.trans S')
  | ret o => exact fun v σ' F' H' R' S' O N => h v σ' F' H' R' (S.trans S') O (N.back S)
theorem _root_.L2.PS.imp {X : Cx} {st : Stmt} {t t' : TS} (h : PS X st t) (w : ∀ D σ H, t' D σ H → t D σ H) : PS X st t' := ⟨fun pins s σ H D I q => h.run pins s σ H D I (w D σ H q)⟩
theorem _root_.L2.PSs.imp {X : Cx} {st : List Stmt} {t t' : TS} (h : PSs X st t) (w : ∀ D σ H, t' D σ H → t D σ H) : PSs X st t' := ⟨fun pins s σ H D I q => h.run pins s σ H D I (w D σ H q)⟩
section
variable {X : Cx} {cf : Nat → List Slot → CR} {k : Nat} {a : Expr} {st : Stmt} {rest : List Stmt} {s : MS} {ss : MSs} {m : ME} {pos p' : Pos}
theorem sns_nil : PSs X [] (tS X.kw (evSs cf .nil)) := pss_nil.imp fun D σ H ⟨F, e, fl, e', R, q, w⟩ => by
  obtain ⟨p1, p2⟩ := pure_ok (show (pure Fl.nx : M Fl) e = .ok fl e' from by unfold evSs at q; exact q)
  subst p1 p2
  exact w σ F H R .refl
theorem sns_cons (h1 : PS X st (tS X.kw (evS cf s))) (h2 : PSs X rest (tS X.kw (evSs cf ss))) : PSs X (st :: rest) (tS X.kw (evSs cf (.cons s ss))) :=
  (pss_cons h1 h2).imp fun D σ H ⟨F, e, fl, e', R, q, w⟩ => by
    have q : (match evS cf s e with
      | .ok .nx e' => evSs cf ss e'
      | r => r) = .ok fl e' := by unfold evSs at q; exact q
    cases h : evS cf s e with
    | er x e1 => rw [h] at q; cases q
    | ok f1 e1 =>
      rw [h] at q
      cases f1 with
      | nx => exact ⟨F, e, .nx, e1, R, h, fun σ' F' H' R' S' => ⟨F', e1, fl, e', R', q, w.back S'⟩⟩
      | brk => cases q; exact ⟨F, e, .brk, _, R, h, w⟩
      | cnt => cases q; exact ⟨F, e, .cnt, _, R, h, w⟩
      | ret o => cases q; exact ⟨F, e, .ret o, _, R, h, w⟩
theorem sns_expr (h : PE X a (tE X.kw (evE cf m))) (hs : swapsWith a none pos.line X.env = pure false) : PS X (.Expr a pos) (tS X.kw (evS cf (.expr m))) :=
  (ps_expr h hs).imp fun D σ H ⟨F, e, fl, e', R, q, w⟩ => by
    unfold evS at q
    obtain ⟨o, e1, q1, q⟩ := bind_ok q
    obtain ⟨p1, p2⟩ := pure_ok q
    subst p1 p2
    exact ⟨F, e, o, e1, R, q1, fun v F' H' R' S' _ _ => w σ F' H' R' S'⟩
theorem asg_imp {i : Nat} : ∀ D σ H, tS X.kw (evS cf (.asg (.name i) m)) D σ H → tAsg (tE X.kw (evE cf m)) (gName i) D σ H := fun D σ H ⟨F, e, fl, e', R, q, w⟩ => by
  unfold evS at q
  obtain ⟨o, e1, q1, q⟩ := bind_ok q
  obtain ⟨u, e2, q2, q⟩ := bind_ok q
  obtain ⟨p1, p2⟩ := pure_ok q
  subst p1 p2
  refine ⟨F, e, o, e1, R, q1, fun v F1 H1 R1 S1 O1 N1 => ?_⟩
  obtain ⟨F2, R2, S2⟩ := sto_ok R1 S1 O1 N1 q2
  exact w _ F2 H1 R2 S2
theorem sns_asg_tup {tg : Expr} {ts : MTs} (h : PE X a (tE X.kw (evE cf m))) (hg : PG X tg (tG X.kw (.tup ts))) (hs : swapsWithSole [tg] a pos.line X.env = pure false) (hw : swappedStores [tg] a X.env = pure none) (h1 : (assignEach [tg] X.env).map (·.2) = [assign tg X.env]) :
    PS X (.Assign [tg] a pos) (tS X.kw (evS cf (.asg (.tup ts) m))) :=
  (ps_asg h hg hs hw h1).imp fun D σ H ⟨F, e, fl, e', R, q, w⟩ => by
    unfold evS at q
    obtain ⟨o, e1, q1, q⟩ := bind_ok q
    obtain ⟨d, e2, q2, q⟩ := bind_ok q
    obtain ⟨u, e3, q3, q⟩ := bind_ok q
    obtain ⟨p1, p2⟩ := pure_ok q
    subst p1 p2
    refine ⟨F, e, o, e1, R, q1, fun v F1 H1 R1 S1 O1 N1 => ?_⟩
    obtain ⟨F2, R2, S2, r2, m2, _⟩ := esc_ok R1 S1 O1 N1 q2
    exact ⟨F2, e2, d, e3, u, R2, r2, q3, fun σ' R3 S3 _ _ => w σ' F2 H1 R3 (S2.trans S3)⟩
def setAll : S2 → List Nat → List V → S2
  | σ, i :: is, v :: vs => setAll (σ.set i (some v)) is vs
  | σ, _, _ => σ
def tParN (is : List Nat) (t : TA) : TS := fun D σ H => t σ H fun vs H1 => vs.length = is.length ∧ ∀ H2, (H2 = H1 ∨ ∃ p, H1 p = none ∧ H2 = upd H1 p (.tup vs)) → D.nx (setAll σ is vs) H2
def gAll : List Nat → TGs
  | [] => gNil
  | i :: is => gCons (gName i) (gAll is)
def noSlot : Opd → Bool
  | .slot _ => false
  | _ => true
theorem preps_ok {K : KW} {σ0 : S2} {F0 H0 : Hp} {e0 e' : En} {os : List Opd} : ∀ {vs : List V} {os' : List Opd} {F : Hp} {e : En} {σ : S2} {H : Hp}, RR K F H σ e → Stp σ0 F0 H0 e0 σ F H e → ORs K F H σ e H0 vs os → prepsM os e = .ok os' e' →
    ∃ F', RR K F' H σ e' ∧ Stp σ0 F0 H0 e0 σ F' H e' ∧ ORs K F' H σ e' H0 vs os' ∧ (os'.all noSlot = true) ∧ (∀ (j : Nat) b, os'[j]? = some (.new b) → os[j]? = some (.new b)) ∧ ∀ v2 o2, OR K F H σ e v2 o2 → OR K F' H σ e' v2 o2 := by
  induction os with
  | nil =>
    intro vs os' F e σ H R S h q
    cases vs with
    | cons _ _ => exact h.elim
    | nil =>
      obtain ⟨h1, h2⟩ := pure_ok q
      subst h1 h2
      exact ⟨F, R, S, trivial, rfl, fun j b z => by simp at z, fun _ _ z => z⟩
  | cons o os ih =>
    intro vs os' F e σ H R S h q
    cases vs with
    | nil => exact h.elim
    | cons v vs =>
      obtain ⟨h1, h2, h3, h4⟩ := h
      obtain ⟨o1, e1, q1, q⟩ := bind_ok q
      obtain ⟨os1, e2, q2, q⟩ := bind_ok q
      obtain ⟨p1, p2⟩ := pure_ok q
      subst p1 p2
      cases o with
      | val d =>
        obtain ⟨p1, p2⟩ := pure_ok (show (pure (Opd.val d) : M Opd) e = .ok o1 e1 from q1)
        subst p1 p2
        obtain ⟨F2, R2, S2, r2, n2, k2, m2⟩ := ih R S h4 q2
        refine ⟨F2, R2, S2, ⟨m2 _ _ h1, h2, fun a _ ⟨b, hb⟩ => (nomatch hb), r2⟩, by simp [noSlot, n2], fun j b z => ?_, m2⟩
        cases j with
        | zero => simp at z
        | succ j => simpa using k2 j b (by simpa using z)
      | new b0 =>
        obtain ⟨p1, p2⟩ := pure_ok (show (pure (Opd.new b0) : M Opd) e = .ok o1 e1 from q1)
        subst p1 p2
        obtain ⟨F2, R2, S2, r2, n2, k2, m2⟩ := ih R S h4 q2
        refine ⟨F2, R2, S2, ⟨m2 _ _ h1, h2, fun a e4 e5 j b z => h3 a e4 e5 j b (k2 j b z), r2⟩, by simp [noSlot, n2], fun j b z => ?_, m2⟩
        cases j with
        | zero => simpa using z
        | succ j => simpa using k2 j b (by simpa using z)
      | slot i =>
        obtain ⟨d, e3, q3, q1⟩ := bind_ok (show ((do let d ← escM (.slot i); pure (.val d)) : M Opd) e = .ok o1 e1 from q1)
        obtain ⟨p1, p2⟩ := pure_ok q1
        subst p1 p2
        obtain ⟨F1, R1, S1, r1, m1, k1⟩ := esc_ok R S h1 h2 q3
        have k1' : ∀ v2 o2, OR K F H σ e v2 o2 → OR K F1 H σ e3 v2 o2 := fun v2 o2 z => k1 v2 o2 z fun b b' a z1 => (nomatch z1)
        obtain ⟨F2, R2, S2, r2, n2, kk2, m2⟩ := ih R1 S1 (h4.keep fun j v2 o2 a b c => k1' v2 o2 c) q2
        have hr : OR K F1 H σ e3 v (.val d) := r1
        refine ⟨F2, R2, S2, ⟨m2 _ _ hr, trivial, fun a _ ⟨b, hb⟩ => (nomatch hb), r2⟩, by simp [noSlot, n2], fun j b z => ?_, fun v2 o2 z => m2 _ _ (k1' _ _ z)⟩
        cases j with
        | zero => simp at z
        | succ j => simpa using kk2 j b (by simpa using z)
theorem stos_ok {K : KW} {F H : Hp} {σ0 : S2} {F0 H0 : Hp} {e0 : En} {u : Unit} : ∀ {is : List Nat} {os : List Opd} {vs : List V} {e e' : En} {σ : S2}, RR K F H σ e → Stp σ0 F0 H0 e0 σ F H e → ORs K F H σ e H0 vs os → os.all noSlot = true → stosM is os e = .ok u e' →
    vs.length = is.length ∧ RR K F H (setAll σ is vs) e' ∧ Stp σ0 F0 H0 e0 (setAll σ is vs) F H e'
  | [], [], [], e, e', σ, R, S, _, _, q => by
    obtain ⟨_, h2⟩ := pure_ok (show (pure () : M Unit) e = .ok u e' from q)
    subst h2
    exact ⟨rfl, R, S⟩
  | [], [], _ :: _, _, _, _, _, _, h, _, _ => h.elim
  | [], _ :: _, _, _, _, _, _, _, _, _, q => by
    obtain ⟨q, _⟩ := lift_ok (show lift none _ = _ from q); cases q
  | _ :: _, [], _, _, _, _, _, _, _, _, q => by
    obtain ⟨q, _⟩ := lift_ok (show lift none _ = _ from q); cases q
  | _ :: _, _ :: _, [], _, _, _, _, _, h, _, _ => h.elim
  | i :: is, o :: os, v :: vs, e, e', σ, R, S, ⟨h1, h2, h3, h4⟩, hn, q => by
    obtain ⟨u1, e1, q1, q⟩ := bind_ok (show ((do stO i o; stosM is os) : M Unit) e = .ok u e' from q)
    rw [List.all_cons, Bool.and_eq_true] at hn
    cases o with
    | slot j => cases hn.1
    | val d =>
      obtain ⟨hi, rfl⟩ := setM_ok q1
      obtain ⟨R1, S1⟩ := store_sh R S h1 hi
      have up : ∀ {j b}, OwnAt (σ.set i (some v)) (e.set i (.sh d)) j b → OwnAt σ e j b := fun {j b} ⟨s, h1, h2, h3⟩ => by
        obtain ⟨h4, h5⟩ := set_own h1 h2
        rw [List.getElem?_set_ne (Ne.symm h5)] at h3
        exact ⟨s, h4, h2, h3⟩
      have k : ORs K F H (σ.set i (some v)) (e.set i (.sh d)) H0 vs os := stos_keep hn.2 h4 fun a z j w => z j (up w)
      obtain ⟨l, R2, S2⟩ := stos_ok R1 S1 k hn.2 q
      exact ⟨by simp [l], R2, S2⟩
    | new ob =>
      obtain ⟨hi, rfl⟩ := setM_ok q1
      obtain ⟨a, rfl, g1, g2, g3⟩ := h1
      obtain ⟨R1, S1⟩ := store_ow R S g1 g2 g3 (h2 a rfl) hi
      have k : ORs K F H (σ.set i (some (.ref a))) (e.set i (.ow ob)) H0 vs os := stos_keep2 (A := fun b => b = a) hn.2 h4 (fun j b z1 c hc => by subst hc; exact h3 _ rfl ⟨_, rfl⟩ j b z1) fun b hb z j ⟨s, q1, q2, q3⟩ => by
        by_cases hij : i = j
        · subst hij
          rw [List.getElem?_set_self (by rw [← R.len]; exact hi)] at q3
          cases q3
          exact hb rfl
        · rw [List.getElem?_set_ne hij] at q1 q3
          exact z j ⟨s, q1, q2, q3⟩
      obtain ⟨l, R2, S2⟩ := stos_ok R1 S1 k hn.2 q
      exact ⟨by simp [l], R2, S2⟩
where
  stos_keep {σ σ' : S2} {e e' : En} : ∀ {vs : List V} {os : List Opd}, os.all noSlot = true → ORs K F H σ e H0 vs os → (∀ a, (∀ j, ¬ OwnAt σ e j a) → ∀ j, ¬ OwnAt σ' e' j a) → ORs K F H σ' e' H0 vs os := fun hn h k => stos_keep2 (A := fun _ => False) (σ := σ) (e := e) hn h (fun _ _ _ _ z => z.elim) (fun b _ => k b)
  stos_keep2 {σ σ' : S2} {e e' : En} {A : Addr → Prop} : ∀ {vs : List V} {os : List Opd}, os.all noSlot = true → ORs K F H σ e H0 vs os → (∀ (j : Nat) b, os[j]? = some (.new b) → ∀ c, A c → vs[j]? ≠ some (.ref c)) → (∀ b, ¬ A b → (∀ j, ¬ OwnAt σ e j b) → ∀ j, ¬ OwnAt σ' e' j b) → ORs K F H σ' e' H0 vs os
    | [], [], _, _, _, _ => trivial
    | [], _ :: _, _, h, _, _ => h.elim
    | _ :: _, [], _, h, _, _ => h.elim
    | v :: vs, o :: os, hn, ⟨h1, h2, h3, h4⟩, hd, k => by
      rw [List.all_cons, Bool.and_eq_true] at hn
      refine ⟨?_, h2, h3, stos_keep2 hn.2 h4 (fun j b z c => by simpa using hd (j + 1) b (by simpa using z) c) k⟩
      cases o with
      | slot j => cases hn.1
      | val d => exact h1
      | new ob =>
        obtain ⟨b, rfl, g1, g2, g3⟩ := h1
        exact ⟨b, rfl, g1, k b (fun z => hd 0 ob rfl b z rfl) g2, g3⟩
theorem tA_mono {K : KW} {m : M (List Opd)} {σ : S2} {H : Hp} {Q Q' : List V → Hp → Prop} (h : tA K m σ H Q) (w : ∀ v H, Q v H → Q' v H) : tA K m σ H Q' := by
  obtain ⟨F, e, o, e', R, q, z⟩ := h
  exact ⟨F, e, o, e', R, q, fun v F' H' R' S' O' => w _ _ (z v F' H' R' S' O')⟩
theorem sns_parN {is : List Nat} {ms : MEs} (h : PS X st (tParN is (tA X.kw (evEs cf ms)))) : PS X st (tS X.kw (evS cf (.parN is ms))) :=
  h.imp fun D σ H ⟨F, e, fl, e', R, q, w⟩ => by
    unfold evS at q
    obtain ⟨os, e1, q1, q⟩ := bind_ok q
    obtain ⟨os', e2, q2, q⟩ := bind_ok q
    obtain ⟨u, e3, q3, q⟩ := bind_ok q
    obtain ⟨p1, p2⟩ := pure_ok q
    subst p1 p2
    refine ⟨F, e, os, e1, R, q1, fun vs F1 H1 R1 S1 O1 => ?_⟩
    obtain ⟨F2, R2, S2, r2, n2, _, _⟩ := preps_ok R1 S1 O1 q2
    obtain ⟨l, R3, S3⟩ := stos_ok R2 S2 r2 n2 q3
    refine ⟨l, fun H2 hH => ?_⟩
    rcases hH with rfl | ⟨p, hp, rfl⟩
    · exact w _ F2 _ R3 S3
    · have x : Ext F2 H1 F2 (upd H1 p (.tup vs)) := .lst R2.fz hp
      obtain ⟨_, R4, S4⟩ := stos_ok (R2.ext x) (S2.trans x.stp) (r2.step x.stp) n2 q3
      exact w _ F2 _ R4 S4
theorem gAll_ok {is : List Nat} : ∀ {vs : List V} {σ : S2} {H : Hp} {Q : S2 → Hp → Prop}, vs.length = is.length → Q (setAll σ is vs) H → gAll is vs σ H Q := by
  induction is with
  | nil =>
    intro vs σ H Q hl h
    cases vs with
    | nil => exact ⟨rfl, h⟩
    | cons _ _ => simp at hl
  | cons i is ih =>
    intro vs σ H Q hl h
    cases vs with
    | nil => simp at hl
    | cons v vs => exact ⟨v, vs, rfl, ih (by simpa using hl) h⟩
theorem ps_parT {is : List Nat} {ts es : List Expr} {ms : MEs} {pos pt p2 : Pos} {kt k2 : Nat} (hc : X.calm = true) (ha : PA X es (tA X.kw (evEs cf ms))) (hz : is.length ≤ 1000) (hg : PGs X ts (gAll is)) (hn : (assignEach ts X.env).length = is.length) (hst : (assignEach ts X.env).findIdx? (·.1) = none)
    (hs : swapsWithSole [.Tuple ts kt pt] (.Tuple es k2 p2) pos.line X.env = pure false) (hw : swappedStores [.Tuple ts kt pt] (.Tuple es k2 p2) X.env = pure none) (h1 : (assignEach [.Tuple ts kt pt] X.env).map (·.2) = [assign (.Tuple ts kt pt) X.env]) : PS X (.Assign [.Tuple ts kt pt] (.Tuple es k2 p2) pos) (tParN is (tA X.kw (evEs cf ms))) :=
  (ps_asg (pe_tup ha) (pg_tup hc hg hn hst) hs hw h1).imp fun D σ H q => by
    have hz2 := sizeLine_eq
    refine tA_mono q fun vs H1 ⟨hl, w⟩ => ⟨by omega, fun p hp => ⟨p, vs, rfl, .of upd_same, hl, gAll_ok hl (w _ (.inr ⟨p, hp, rfl⟩))⟩⟩
theorem ps_parN2 {i j : Nat} {ms : MEs} (h : PS X st (tPar i j (tA X.kw (evEs cf ms)))) : PS X st (tParN [i, j] (tA X.kw (evEs cf ms))) :=
  h.imp fun D σ H q => tA_mono q fun vs H1 ⟨hl, w⟩ => by
    match vs, hl with
    | [v, u], _ => exact ⟨v, u, rfl, w _ (.inl rfl)⟩
theorem ps_parN3 {i j l : Nat} {ms : MEs} (h : PS X st (tPar3 i j l (tA X.kw (evEs cf ms)))) : PS X st (tParN [i, j, l] (tA X.kw (evEs cf ms))) :=
  h.imp fun D σ H q => tA_mono q fun vs H1 ⟨hl, w⟩ => by
    match vs, hl with
    | [v, u, x], _ => exact ⟨v, u, x, rfl, w _ (.inl rfl)⟩
theorem guardM_ok {c : Prop} [Decidable c] {u : Unit} {e e' : En} (q : guardM c e = .ok u e') : c ∧ e = e' := by
  unfold guardM at q
  split at q
  · exact ⟨by assumption, (pure_ok q).2⟩
  · cases (lift_ok q).1
theorem Lt.mono {K : KW} {F F' H : Hp} {v : V} {d : D} (m : Same F F') (h : Lt K F H v d) : Lt K F' H v d := by
  rcases h with h | ⟨xs, rfl, a, vs, rfl, e, r⟩ | ⟨a, ob, kvs, h1, h2, h3, h4⟩
  · exact .inl (Rp.mono m _ _ h)
  · exact .inr (.inl ⟨xs, rfl, a, vs, rfl, e, RpAll.mono m _ _ r⟩)
  · exact .inr (.inr ⟨a, ob, kvs, h1, h2, h3, h4.mono m rfl⟩)
theorem slot_of {α : Type} {o : Opd} {f : Ob → Option (α × Ob)} {r : α} {e e' : En} (q : updM o f e = .ok r e') : ∃ i, o = .slot i := by
  cases o with
  | slot i => exact ⟨i, rfl⟩
  | val _ => obtain ⟨z, _⟩ := lift_ok (show lift none e = .ok r e' from q); cases z
  | new _ => obtain ⟨z, _⟩ := lift_ok (show lift none e = .ok r e' from q); cases z
theorem sns_asgIx {j : Nat} {i o : Expr} {mi : ME} (hr : Room k X.A) (h : PE X a (tE X.kw (evE cf m))) (ho : PE X o (tE X.kw (evE cf (.v j)))) (hi : PE X i (tE X.kw (evE cf mi)))
    (hsub : ∀ v, assign (.Subscript o i p') X.env v = (do
      let ov ← holding [v] (eval o X.env)
      let iv ← holding [v, ov] (eval i X.env)
      standAt p'
      holding [v, ov, iv] (setItem ov iv v)
      release [v, ov, iv] []))
    (hs : swapsWithSole [.Subscript o i p'] a pos.line X.env = pure false) (hw : swappedStores [.Subscript o i p'] a X.env = pure none) (h1 : (assignEach [.Subscript o i p'] X.env).map (·.2) = [assign (.Subscript o i p') X.env]) :
    PS X (.Assign [.Subscript o i p'] a pos) (tS X.kw (evS cf (.asgIx j mi m))) :=
  (ps_asg h (pg_sub ho hi (setr hr) hsub) hs hw h1).imp fun D σ H ⟨F, e, fl, e', R, q, w⟩ => by
    unfold evS at q
    obtain ⟨x, e1, q1, q⟩ := bind_ok q
    obtain ⟨ov, e2, q2, q⟩ := bind_ok q
    obtain ⟨y, e3, q3, q⟩ := bind_ok q
    obtain ⟨kd, e4, q4, q⟩ := bind_ok q
    obtain ⟨p4, p4'⟩ := rdM_ok q4
    subst p4'
    obtain ⟨d, e5, q5, q⟩ := bind_ok q
    obtain ⟨u, e6, q6, q⟩ := bind_ok q
    obtain ⟨p1, p2⟩ := pure_ok q
    subst p1 p2
    obtain ⟨jj, rfl⟩ := slot_of q6
    refine ⟨F, e, x, e1, R, q1, fun v1 F1 H1 R1 S1 O1 N1 => ⟨F1, e1, _, e2, R1, q2, fun v2 F2 H2 R2 S2 O2 N2 => ⟨F2, e2, y, e3, R2, q3, fun v3 F3 H3 R3 S3 O3 N3 => ?_⟩⟩⟩
    have S13 := (S1.trans S2).trans S3
    obtain ⟨F4, R4, S4, r4, m4, k4⟩ := esc_ok R3 S13 ((O1.step S2).step S3) N1 q5
    obtain ⟨i', s, s', a, ob, ob', g1, g2, g3, g4, g5, g6, g7, g8, g9, g10⟩ := updM_ok R4 (show OR X.kw F4 H3 σ e5 v2 (.slot jj) from O2) q6
    subst g10
    have g9 : (putO ob kd d).map (fun b' => ((), b')) = some (u, ob') := g9
    cases hp : putO ob kd d with
    | none => rw [hp] at g9; cases g9
    | some ob2 =>
      rw [hp] at g9
      cases g9
      refine ⟨F4, a, ob, kd, d, ob', R4.fz, g6, g8, (rd_lt R3 O3 p4).mono m4, r4, hp, fun o' hob => ?_⟩
      obtain ⟨R5, S5⟩ := upd_ok R4 S4 g2 g3 g4 g5 hob
      exact w _ F4 _ R5 S5
theorem pip_ok (op : Operator) : PIp X op (rD2 X.kw (ipD op)) := by
  intro pins s σ H x y v u Q I rx ry h
  obtain ⟨F, dx, dy, rv, fz, hx, hy, e, q⟩ := h
  have val : ∀ d v, rv = .val d → Rp X.kw F v d → Q v H := fun d v e r => by subst e; exact q v F H (.refl fz) r trivial
  unfold ipD at e
  split at e
  · cases e; obtain rfl := hx.int; obtain rfl := hy.int
    exact iop_add pins s σ H _ _ v u Q I rx ry ⟨_, _, rfl, rfl, val _ _ rfl (.int _)⟩
  · split at e
    · rename_i hz
      cases e; obtain rfl := hx.str; obtain rfl := hy.str
      exact iop_add_str pins s σ H _ _ v u Q I rx ry ⟨_, _, rfl, rfl, hz, val _ _ rfl (.str _)⟩
    · cases e
  · cases e; obtain rfl := hx.int; obtain rfl := hy.int
    exact iop_sub pins s σ H _ _ v u Q I rx ry ⟨_, _, rfl, rfl, val _ _ rfl (.int _)⟩
  · split at e
    · rename_i hz
      cases e; obtain rfl := hx.int; obtain rfl := hy.int
      exact iop_mul pins s σ H _ _ v u Q I rx ry ⟨_, _, rfl, rfl, hz, val _ _ rfl (.int _)⟩
    · cases e
  · cases e
theorem sns_aug {i : Nat} {op : Operator} (h : ∀ te ti, PE X a te → PIp X op ti → PS X st (tAug i te ti)) (ha : PE X a (tE X.kw (evE cf m))) : PS X st (tS X.kw (evS cf (.aug i op m))) :=
  (h _ _ ha (pip_ok op)).imp fun D σ H ⟨F, e, fl, e', R, q, w⟩ => by
    unfold evS at q
    obtain ⟨x, e1, q1, q⟩ := bind_ok q
    obtain ⟨y, e2, q2, q⟩ := bind_ok q
    obtain ⟨d, e3, q3, q⟩ := bind_ok q
    obtain ⟨p3, p3'⟩ := rdM_ok q3
    subst p3'
    obtain ⟨d', e4, q4, q⟩ := bind_ok q
    obtain ⟨p4, p4'⟩ := rdM_ok q4
    subst p4'
    obtain ⟨r, e5, q5, q⟩ := bind_ok q
    obtain ⟨p5, p5'⟩ := lift_ok q5
    subst p5'
    obtain ⟨u, e6, q6, q⟩ := bind_ok q
    obtain ⟨p1, p2⟩ := pure_ok q
    subst p1 p2
    -- the name's value
    have hv : ∃ v, σ[i]? = some (some v) ∧ OR X.kw F H σ e v x ∧ e1 = e := by
      have q1 : (match e[i]? with
        | some (.sh d) => Ev.R.ok (Opd.val d) e
        | some (.ow _) => .ok (Opd.slot i) e
        | some (.pa _) => .ok (Opd.slot i) e
        | _ => .er .bad e) = .ok x e1 := q1
      cases hs : e[i]? with
      | none => rw [hs] at q1; cases q1
      | some s =>
        rw [hs] at q1
        have := R.at_ i s hs
        cases s with
        | no => cases q1
        | sh d =>
          cases q1
          obtain ⟨v, e1, e2⟩ := this
          exact ⟨v, e1, e2, rfl⟩
        | ow ob =>
          cases q1
          obtain ⟨a, e1, e2⟩ := this
          exact ⟨_, e1, e1, rfl⟩
        | pa ob =>
          cases q1
          obtain ⟨a, e1, e2⟩ := this
          exact ⟨_, e1, e1, rfl⟩
    obtain ⟨v, hv, Ov, rfl⟩ := hv
    refine ⟨v, hv, F, e1, y, e2, R, q2, fun v2 F2 H2 R2 S2 O2 N2 => ?_⟩
    refine ⟨F2, d, d', r, R2.fz, rd_lt R2 (Ov.step S2) p3, rd_lt R2 O2 p4, p5, fin_rv R2 S2 fun v3 F3 H3 R3 S3 O3 N3 => ?_⟩
    obtain ⟨F4, R4, S4⟩ := sto_ok R3 S3 O3 N3 q6
    exact w _ F4 H3 R4 S4
theorem sns_augIx {j : Nat} {op : Operator} {i o : Expr} {mi : ME} {tpos : Pos} (hr : Room k X.A) (ho : PE X o (tE X.kw (evE cf (.v j)))) (hi : PE X i (tE X.kw (evE cf mi))) (h : PE X a (tE X.kw (evE cf m)))
    (ha : ∀ ov iv new, augStore i ov iv new = (do holding [new, ov, iv] (setItem ov iv new); release [new, ov, iv] []; pure .next)) : PS X (.AugAssign (.Subscript o i tpos) op a pos) (tS X.kw (evS cf (.augIx j mi op m))) :=
  (ps_augS ho hi (getr hr) h (pip_ok op) (setr hr) ha).imp fun D σ H ⟨F, e, fl, e', R, q, w⟩ => by
    unfold evS at q
    obtain ⟨x, e1, q1, q⟩ := bind_ok q
    obtain ⟨y, e2, q2, q⟩ := bind_ok q
    obtain ⟨r0, e3, q3, q⟩ := bind_ok q
    obtain ⟨p3, p3'⟩ := vwM_ok q3
    subst p3'
    obtain ⟨ug, eg, qg, q⟩ := bind_ok q
    obtain ⟨pg, pg'⟩ := guardM_ok qg
    subst pg'
    obtain ⟨kd, e4, q4, q⟩ := bind_ok q
    obtain ⟨p4, p4'⟩ := rdM_ok q4
    subst p4'
    obtain ⟨old, e5, q5, q⟩ := bind_ok q
    obtain ⟨p5, p5'⟩ := lift_ok q5
    subst p5'
    obtain ⟨z, e6, q6, q⟩ := bind_ok q
    obtain ⟨d', e7, q7, q⟩ := bind_ok q
    obtain ⟨p7, p7'⟩ := rdM_ok q7
    subst p7'
    obtain ⟨new, e8, q8, q⟩ := bind_ok q
    obtain ⟨p8, p8'⟩ := lift_ok q8
    subst p8'
    obtain ⟨kd2, e9, q9, q⟩ := bind_ok q
    obtain ⟨p9, p9'⟩ := rdM_ok q9
    subst p9'
    obtain ⟨nd, e10, q10, q⟩ := bind_ok q
    obtain ⟨u, e11, q11, q⟩ := bind_ok q
    obtain ⟨p1, p2⟩ := pure_ok q
    subst p1 p2
    obtain ⟨jj, rfl⟩ := slot_of q11
    refine ⟨F, e, _, e1, R, q1, fun v1 F1 H1 R1 S1 O1 N1 => ⟨F1, e1, y, e2, R1, q2, fun v2 F2 H2 R2 S2 O2 N2 => ?_⟩⟩
    have O1' := O1.step S2
    have l0 := vw_lw R2 O1' p3
    have own : ∃ (ob : Ob) (a : Addr), r0 = .new ob ∧ v1 = .ref a ∧ ObR X.kw F2 H2 a ob := by
      cases r0 with
      | new ob => obtain ⟨a, e1, e2⟩ := l0; subst e1; exact ⟨ob, a, rfl, rfl, e2⟩
      | val d => cases pg
    clear l0
    obtain ⟨ob, a0, rfl, rfl, l0⟩ := own
    refine ⟨F2, a0, ob, kd, old, R2.fz, rfl, l0, rd_lt R2 O2 p4, p5, fun v3 r3 => ⟨F2, e2, z, e6, R2, q6, fun v4 F4 H4 R4 S4 O4 N4 => ?_⟩⟩
    refine ⟨F4, old, d', new, R4.fz, .inl (Rp.mono S4.fr _ _ r3), rd_lt R4 O4 p7, p8, fin_rv R4 S4 fun v5 F5 H5 R5 S5 O5 N5 => ?_⟩
    have S15 := (S1.trans S2).trans S5
    have k2 := rd_lt R4 (O2.step S4) p9
    have k2' : Lt X.kw F5 H5 v2 kd2 := by
      have := rd_lt R5 (O2.step S5) p9
      exact this
    have N5' : FrO H v5 new.op := N5.back (S1.trans S2)
    obtain ⟨F6, R6, S6, r6, m6, _⟩ := esc_ok R5 S15 O5 N5' q10
    obtain ⟨i', s, s', a, ob1, ob', g1, g2, g3, g4, g5, g6, g7, g8, g9, g10⟩ := updM_ok R6 (show OR X.kw F6 H5 σ e10 (.ref a0) (.slot jj) from O1') q11
    subst g10
    have g9 : (putO ob1 kd2 nd).map (fun b' => ((), b')) = some (u, ob') := g9
    cases hp : putO ob1 kd2 nd with
    | none => rw [hp] at g9; cases g9
    | some ob2 =>
      rw [hp] at g9
      cases g9
      refine ⟨F6, a, ob1, kd2, nd, ob', R6.fz, g6, g8, k2'.mono m6, r6, hp, fun o' hob => ?_⟩
      obtain ⟨R7, S7⟩ := upd_ok R6 S6 g2 g3 g4 g5 hob
      exact w _ F6 _ R7 S7
end
end Ev
/-! statements: branches and loops -/
namespace Ev
open PySem PySem.Spec PyProof.Rows L2
section
variable {X : Cx} {cf : Nat → List Slot → CR} {k : Nat} {a : Expr} {st : Stmt} {rest : List Stmt} {s : MS} {ss sa sb : MSs} {m : ME} {pos p' : Pos}
theorem sns_pass : PS X (.Pass pos) (tS X.kw (evS cf .pass)) := ps_pass.imp fun D σ H ⟨F, e, fl, e', R, q, w⟩ => by
  obtain ⟨p1, p2⟩ := pure_ok (show (pure Fl.nx : M Fl) e = .ok fl e' from by unfold evS at q; exact q)
  subst p1 p2
  exact w σ F H R .refl
theorem sns_brk : PS X (.Break pos) (tS X.kw (evS cf .brk)) := ps_break.imp fun D σ H ⟨F, e, fl, e', R, q, w⟩ => by
  obtain ⟨p1, p2⟩ := pure_ok (show (pure Fl.brk : M Fl) e = .ok fl e' from by unfold evS at q; exact q)
  subst p1 p2
  exact w σ F H R .refl
theorem sns_cnt : PS X (.Continue pos) (tS X.kw (evS cf .cnt)) := ps_continue.imp fun D σ H ⟨F, e, fl, e', R, q, w⟩ => by
  obtain ⟨p1, p2⟩ := pure_ok (show (pure Fl.cnt : M Fl) e = .ok fl e' from by unfold evS at q; exact q)
  subst p1 p2
  exact w σ F H R .refl
theorem sns_ret (h : PE X a (tE X.kw (evE cf m))) : PS X (.Return (some a) pos) (tS X.kw (evS cf (.ret m))) := (ps_ret h).imp fun D σ H ⟨F, e, fl, e', R, q, w⟩ => by
  unfold evS at q
  obtain ⟨o, e1, q1, q⟩ := bind_ok q
  obtain ⟨p1, p2⟩ := pure_ok q
  subst p1 p2
  exact ⟨F, e, o, e1, R, q1, fun v F1 H1 R1 S1 O1 N1 => w v σ F1 H1 R1 S1 O1 N1⟩
theorem sns_retN : PS X (.Return none pos) (tS X.kw (evS cf .retN)) := ps_retN.imp fun D σ H ⟨F, e, fl, e', R, q, w⟩ => by
  obtain ⟨p1, p2⟩ := pure_ok (show (pure (Fl.ret (.val .none)) : M Fl) e = .ok fl e' from by unfold evS at q; exact q)
  subst p1 p2
  exact w .non σ F H R .refl .non trivial
theorem sns_ife {c : Expr} {x y : List Stmt} {mb : MB} (hc : PT X c (tT X.kw (evB cf mb))) (hx : PSs X x (tS X.kw (evSs cf sa))) (hy : PSs X y (tS X.kw (evSs cf sb))) : PS X (.If c x y pos) (tS X.kw (evS cf (.ife mb sa sb))) :=
  (ps_if hc hx hy).imp fun D σ H ⟨F, e, fl, e', R, q, w⟩ => by
    unfold evS at q
    obtain ⟨b, e1, q1, q⟩ := bind_ok q
    refine ⟨F, e, b, e1, R, q1, fun F1 H1 R1 S1 => ?_⟩
    cases b with
    | true => rw [if_pos rfl] at q ⊢; exact ⟨F1, e1, fl, e', R1, q, w.back S1⟩
    | false => rw [if_neg (by simp)] at q ⊢; exact ⟨F1, e1, fl, e', R1, q, w.back S1⟩
theorem forLoop_at {f : D → M Fl} {ds : List D} {r : Fl} {e e' : En} {d : D} {i : Nat} (hd : ds[i]? = some d) (q : forLoop f (ds.drop i) e = .ok r e') :
    ∃ y e1, f d e = .ok y e1 ∧ (match y with
      | .nx => forLoop f (ds.drop (i + 1)) e1 = .ok r e'
      | .cnt => forLoop f (ds.drop (i + 1)) e1 = .ok r e'
      | .brk => Fl.nx = r ∧ e1 = e'
      | .ret o => Fl.ret o = r ∧ e1 = e') := by
  have hl := (List.getElem?_eq_some_iff.mp hd).1
  have : ds.drop i = d :: ds.drop (i + 1) := by
    rw [List.drop_eq_getElem_cons hl]
    rw [(List.getElem?_eq_some_iff.mp hd).2]
  rw [this] at q
  unfold forLoop at q
  cases hf : f d e with
  | er x e1 => rw [hf] at q; cases q
  | ok y e1 =>
    rw [hf] at q
    cases y with
    | nx => exact ⟨_, e1, rfl, q⟩
    | cnt => exact ⟨_, e1, rfl, q⟩
    | brk => cases q; exact ⟨_, _, rfl, rfl, rfl⟩
    | ret o => cases q; exact ⟨_, _, rfl, rfl, rfl⟩
theorem sns_for {tg iter : Expr} {body : List Stmt} {t : MT} {it : MI} (hxe : X.xe = fun _ _ => False) (hc : X.calm = true) (hi : PI X tg iter (tI X.kw (evI cf it))) (hg : PG X tg (tG X.kw t)) (hb : PSs X body (tS X.kw (evSs cf ss)))
    (hs : ∀ x, foldedSetIterable iter X.env x = pure x) : PS X (.For tg iter body [] pos) (tS X.kw (evS cf (.for_ t it ss))) :=
  (ps_for (by rw [hxe]; exact .never) hc hi hg hb hs).imp fun D σ H ⟨F, e, fl, e', R, q, w⟩ => by
    unfold evS at q
    obtain ⟨ds, e1, q1, q⟩ := bind_ok q
    refine ⟨F, e, ds, e1, R, q1, fun J F1 H1 R1 S1 hdl wk => ?_⟩
    have w1 := w.back S1
    let f : Ev.D → M Fl := fun d => do bindT t d; evSs cf ss
    have q : forLoop f ds e1 = .ok fl e' := q
    let Inv1 : Nat → L2.St → Hp → Prop := fun i σ2 H2 => ∃ F2 e2, RR X.kw F2 H2 σ2 e2 ∧ Stp σ F1 H1 e1 σ2 F2 H2 e2 ∧ forLoop f (ds.drop i) e2 = .ok fl e'
    refine ⟨fun i m σ2 H2 => m = ds.length - i ∧ i ≤ ds.length ∧ Inv1 i σ2 H2, ⟨ds.length, by simp, Nat.zero_le _, F1, e1, R1, .refl, by simpa using q⟩, ?_⟩
    rintro i m σ2 H2 ⟨rfl, hi, F2, e2, R2, S2, q2⟩
    have hw := wk i F2 H2 S2.fr R2.fz
    by_cases hlt : i < ds.length
    · obtain ⟨d, hd⟩ : ∃ d, ds[i]? = some d := ⟨_, List.getElem?_eq_getElem hlt⟩
      obtain ⟨hgo, hyl⟩ := hw.1 d hd
      obtain ⟨y, e3, q3, qn⟩ := forLoop_at hd q2
      obtain ⟨u, e4, q4, q3⟩ := bind_ok q3
      refine .inr ⟨hgo, Inv1 (i + 1), fun σ' H' z => ⟨ds.length - (i + 1), by omega, rfl, hlt, z⟩, fun x H3 hy => ?_⟩
      obtain ⟨F3, x3, r3⟩ := hyl x H3 hy
      refine ⟨F3, e2, d, e4, u, R2.ext x3, r3, q4, fun σ4 R4 S4 _ _ => ?_⟩
      have S14 := (S2.trans x3.stp).trans S4
      refine ⟨F3, e4, y, e3, R4, q3, ?_⟩
      cases y with
      | nx => exact fun σ5 F5 H5 R5 S5 => ⟨F5, e3, R5, S14.trans S5, qn⟩
      | cnt => exact fun σ5 F5 H5 R5 S5 => ⟨F5, e3, R5, S14.trans S5, qn⟩
      | brk => obtain ⟨p1, p2⟩ := qn; subst p1 p2; exact fun σ5 F5 H5 R5 S5 => w1 σ5 F5 H5 R5 (S14.trans S5)
      | ret o => obtain ⟨p1, p2⟩ := qn; subst p1 p2; exact fun v σ5 F5 H5 R5 S5 O5 N5 => w1 v σ5 F5 H5 R5 (S14.trans S5) O5 (N5.back S14)
    · have he : ds.drop i = [] := List.drop_eq_nil_of_le (by omega)
      rw [he] at q2
      obtain ⟨p1, p2⟩ := pure_ok (show (pure Fl.nx : M Fl) e2 = .ok fl e' from q2)
      subst p1 p2
      exact .inl ⟨hw.2 (by omega), w1 σ2 F2 H2 R2 S2⟩
theorem whl_at {c : M Bool} {b : M Fl} {n : Nat} {e e' : En} {r : Fl} (q : whlLoop c b n e = .ok r e') : ∃ n' t e1, n = n' + 1 ∧ c e = .ok t e1 ∧ (match t with
    | false => Fl.nx = r ∧ e1 = e'
    | true => ∃ y e2, b e1 = .ok y e2 ∧ (match y with
      | .nx => whlLoop c b n' e2 = .ok r e'
      | .cnt => whlLoop c b n' e2 = .ok r e'
      | .brk => Fl.nx = r ∧ e2 = e'
      | .ret o => Fl.ret o = r ∧ e2 = e')) := by
  cases n with
  | zero => cases (lift_ok (show lift none e = .ok r e' from q)).1
  | succ n =>
    unfold whlLoop at q
    cases hc : c e with
    | er x e1 => rw [hc] at q; cases q
    | ok t e1 =>
      rw [hc] at q
      cases t with
      | false => cases q; exact ⟨n, _, _, rfl, rfl, rfl, rfl⟩
      | true =>
        refine ⟨n, _, _, rfl, rfl, ?_⟩
        have q : (match b e1 with
          | .ok .nx e'' => whlLoop c b n e''
          | .ok .cnt e'' => whlLoop c b n e''
          | .ok .brk e'' => .ok .nx e''
          | .ok (.ret o) e'' => .ok (.ret o) e''
          | .er x e'' => .er x e'') = Ev.R.ok r e' := q
        cases hb : b e1 with
        | er x e2 => rw [hb] at q; cases q
        | ok y e2 =>
          rw [hb] at q
          cases y with
          | nx => exact ⟨_, e2, rfl, q⟩
          | cnt => exact ⟨_, e2, rfl, q⟩
          | brk => cases q; exact ⟨_, _, rfl, rfl, rfl⟩
          | ret o => cases q; exact ⟨_, _, rfl, rfl, rfl⟩
theorem sns_whl {c : Expr} {body : List Stmt} {mb : MB} (hxe : X.xe = fun _ _ => False) (hc : PT X c (tT X.kw (evB cf mb))) (hb : PSs X body (tS X.kw (evSs cf ss))) : PS X (.While c body [] pos) (tS X.kw (evS cf (.whl mb ss))) :=
  (ps_while (by rw [hxe]; exact .never) hc hb).imp fun D σ H ⟨F, e, fl, e', R, q, w⟩ => by
    unfold evS at q
    let Inv1 : Nat → L2.St → Hp → Prop := fun n σ2 H2 => ∃ F2 e2, RR X.kw F2 H2 σ2 e2 ∧ Stp σ F H e σ2 F2 H2 e2 ∧ whlLoop (evB cf mb) (evSs cf ss) n e2 = .ok fl e'
    refine ⟨Inv1, ⟨wfuel, F, e, R, .refl, q⟩, ?_⟩
    rintro n σ2 H2 ⟨F2, e2, R2, S2, q2⟩
    obtain ⟨n', t, e3, rfl, q3, qn⟩ := whl_at q2
    refine ⟨F2, e2, t, e3, R2, q3, fun F3 H3 R3 S3 => ?_⟩
    have S23 := S2.trans S3
    cases t with
    | false => show D.nx σ2 H3; obtain ⟨p1, p2⟩ := qn; subst p1 p2; exact w σ2 F3 H3 R3 S23
    | true =>
      show ∃ N : L2.St → Hp → Prop, _ ∧ _
      obtain ⟨y, e4, q4, qn⟩ := qn
      refine ⟨Inv1 n', fun σ' H' z => ⟨n', by omega, z⟩, F3, e3, y, e4, R3, q4, ?_⟩
      cases y with
      | nx => exact fun σ5 F5 H5 R5 S5 => ⟨F5, e4, R5, S23.trans S5, qn⟩
      | cnt => exact fun σ5 F5 H5 R5 S5 => ⟨F5, e4, R5, S23.trans S5, qn⟩
      | brk => obtain ⟨p1, p2⟩ := qn; subst p1 p2; exact fun σ5 F5 H5 R5 S5 => w σ5 F5 H5 R5 (S23.trans S5)
      | ret o => obtain ⟨p1, p2⟩ := qn; subst p1 p2; exact fun v σ5 F5 H5 R5 S5 O5 N5 => w v σ5 F5 H5 R5 (S23.trans S5) O5 (N5.back S23)
end
end Ev
/-! Tr: from the program's text to the evaluator's -/
namespace Ev
open PySem
structure Gs where
  fns : List (Str × Nat)
  consts : List (Str × D)
  blt : List Str
  N : List Str
  S : List Str := []
def litC : Const → Option D
  | .int i => some (.int i)
  | .str x => some (.str x)
  | .bool b => some (.bool b)
  | .none => some .none
  | _ => none
def visB (sc : Scope) (x : Str) : Bool := match sc.names.lookup x with
  | some .local => true
  | some .cell => true
  | some .free => true
  | _ => false
def locB (fc : Str → Bool) (sc : Scope) (x : Str) : Bool := match sc.names.lookup x with
  | some .local => true
  | some .cell => fc x
  | _ => false
def glB (sc : Scope) (x : Str) : Bool := match sc.names.lookup x with
  | some .globalImplicit => true
  | _ => false
def okN (x : Str) : Bool := !(x == ("__debug__" : Str)) && !(x == ("__classdict__" : Str)) && !(x == ("__name__" : Str))
def ixN (N : List Str) (x : Str) : Option Nat := if N[N.idxOf x]? = some x then some (N.idxOf x) else none
def isStar : Expr → Bool
  | .Starred _ _ => true
  | _ => false
def isSet : Expr → Bool
  | .Set _ _ _ => true
  | _ => false
def isSl : Expr → Bool
  | .Slice _ _ _ _ => true
  | _ => false
def isSup : Expr → Bool
  | .Call (.Name _ _) [] [] _ => true
  | _ => false
/-- a truth that is asked of the value -/
def isVal : Expr → Bool
  | .UnaryOp .Not _ _ => false
  | .BoolOp _ _ _ => false
  | .IfExp _ _ _ _ => false
  | .Compare _ _ _ _ => false
  | _ => true
def isCall : Expr → Bool
  | .Call _ _ _ _ => true
  | _ => false
def isLC : Expr → Bool
  | .ListComp _ _ _ _ => true
  | .SetComp _ _ _ _ => true
  | .DictComp _ _ _ _ _ => true
  | _ => false
def isTupE : Expr → Bool
  | .Tuple _ _ _ => true
  | _ => false
def biOf (x : Str) : Option Bi :=
  if x = "len" then some .len else if x = "tuple" then some .tuple else if x = "list" then some .list else if x = "sorted" then some .sorted else if x = "sum" then some .sum
  else if x = "min" then some .min else if x = "max" then some .max else if x = "abs" then some .abs else if x = "int" then some .int else if x = "all" then some .all else if x = "any" then some .any else if x = "dict" then some .dict else none
def tyOf (x : Str) : Option Ty :=
  if x = "int" then some .int else if x = "bool" then some .bool else if x = "str" then some .str else if x = "tuple" then some .tuple else if x = "list" then some .list else none
def mthOf (x : Str) (n : Nat) : Option Mth :=
  if x = "append" then some .append else if x = "extend" then some .extend else if x = "pop" then (if n = 0 then some .pop else some .popAt) else if x = "remove" then some .remove
  else if x = "index" then some .index else if x = "count" then some .count else if x = "insert" then some .insert else if x = "reverse" then some .reverse else if x = "get" then (if n = 1 then some .get else some .get2) else none
def keyC : Option Expr → Option L2.Key
  | some (.Constant (.int i) _ _) => some (.inl i)
  | some (.Constant (.str x) _ _) => some (.inr x)
  | _ => none
def keysC : List (Option Expr) → Option (List L2.Key)
  | [] => some []
  | k :: ks => do let a ← keyC k; let r ← keysC ks; pure (a :: r)
def ownC (N : List Str) (scope : Scope) : List (Str × Nat) := scope.names.filterMap fun (x, k) => match k with
  | .local => (ixN N x).map fun i => (x, i)
  | .cell => (ixN N x).map fun i => (x, i)
  | _ => none
mutual
def mtSlots : MT → List Nat
  | .name i => [i]
  | .tup ts => mtsSlots ts
def mtsSlots : MTs → List Nat
  | .nil => []
  | .cons t ts => mtSlots t ++ mtsSlots ts
end
/-- targets -/
def mtsOf : List MT → MTs
  | [] => .nil
  | t :: ts => .cons t (mtsOf ts)
def trGs (G : Gs) (fc : Str → Bool) (sc : Scope) : List Expr → Option MTs
  | [] => some .nil
  | .Name x _ :: r => if locB fc sc x then do let i ← ixN G.N x; let ts ← trGs G fc sc r; pure (.cons (.name i) ts) else none
  | .Tuple [.Name x _, .Name y _] _ _ :: r => if locB fc sc x && locB fc sc y then do let i ← ixN G.N x; let j ← ixN G.N y; let ts ← trGs G fc sc r; pure (.cons (.tup (.cons (.name i) (.cons (.name j) .nil))) ts) else none
  | _ => none
def trG (G : Gs) (fc : Str → Bool) (sc : Scope) : Expr → Option MT
  | .Name x _ => if locB fc sc x then (ixN G.N x).map .name else none
  | .Tuple es _ _ => (trGs G fc sc es).map .tup
  | _ => none
/-- in a comprehension the names go by the block's own scope and by the one that runs -/
def fcC (scope : Scope) (x : Str) : Bool := scope.names.lookup x == some .cell

mutual
def trE (G : Gs) (sc : Scope) : Nat → Expr → Option ME
  | 0, _ => none
  | n + 1, e => match e with
    | .Constant c _ _ => (litC c).map .c
    | .Name x _ => if okN x then (if visB sc x then (ixN G.N x).map (fun i => if G.S.contains x then .shr (.v i) else .v i) else if glB sc x then (G.consts.lookup x).map .c else none) else none
    | .BinOp a op b _ => do let a ← trE G sc n a; let b ← trE G sc n b; pure (.bin op a b)
    | .UnaryOp .USub a _ => do let a ← trE G sc n a; pure (.neg a)
    | .UnaryOp .Not a _ => do let a ← trE G sc n a; pure (.nott a)
    | .BoolOp op es _ => trV G sc n op es
    | .Compare a [op] [b] _ => if behindInMarks op b then none else do let a ← trE G sc n a; let b ← trE G sc n b; pure (.cmp op a b)
    | .Compare a [op, op'] [b, c] _ => if lastMarks [op, op'] [b, c] then none else do let a ← trE G sc n a; let b ← trE G sc n b; let c ← trE G sc n c; pure (.chain op op' a b c)
    | .IfExp c a b _ => do let c ← trT G sc n c; let a ← trE G sc n a; let b ← trE G sc n b; pure (.ite c a b)
    | .Tuple es _ _ => do let es ← trEs G sc n es; pure (.tup es)
    | .List es _ => do let es ← trEs G sc n es; pure (.lst es)
    | .Dict [] [] _ => some .dnew
    | .Dict [some k] [v] _ => if (keyC (some k)).isSome then (do let kk ← keysC [some k]; let es ← trD G sc n [some k] [v]; if [some k].length = es.2 ∧ 0 < es.2 ∧ es.2 ≤ 15 then pure (.dct (kk.map kD) es.1) else none) else do let a ← trE G sc n k; let b ← trE G sc n v; pure (.dt1 a b)
    | .Dict keys es _ => do let ks ← keysC keys; let es ← trD G sc n keys es; if keys.length = es.2 ∧ 0 < es.2 ∧ es.2 ≤ 15 then pure (.dct (ks.map kD) es.1) else none
    | .Subscript o (.Slice none none (some (.UnaryOp .USub (.Constant (.int 1) _ _) _)) _) _ => do let o ← trE G sc n o; pure (.rev o)
    | .Subscript o (.Slice lo hi none _) _ => do let o ← trE G sc n o; let lo ← trO G sc n lo; let hi ← trO G sc n hi; pure (.sl o lo hi)
    | .Subscript o i _ => if isSl i then none else do let o ← trE G sc n o; let i ← trE G sc n i; pure (.ix o i)
    | .Call (.Name f _) args [] _ => if okN f && glB sc f then trC G sc n f args else none
    | .Call (.Name f _) [a] [⟨some kw, .Constant (.bool true) _ _, _⟩] _ => if f = "sorted" ∧ kw = "reverse" then (if glB sc "sorted" && G.blt.contains "sorted" && !isStar a then do let a ← trE G sc n a; pure (.bi .sortedRev (.cons a .nil)) else none) else none
    | .Call (.Attribute o name apos) args [] cpos => if isSup o || !(apos.endLine == cpos.line) || !decide (args.length < 29) then none else do
      let m ← mthOf name args.length; let o ← trE G sc n o; let ms ← trEs G sc n args; pure (.meth m o ms)
    | .ListComp elt [⟨tg, iter, ifs, 0⟩] scope _ => if L2.blkC G.N sc scope (ownC G.N scope) && !(isSet iter) then do
      let it ← trI G sc n (isTupE tg) iter
      let t ← trG G (fcC scope) (L2.relS scope sc) tg
      let c ← trIf G (L2.relS scope sc) n ifs
      let x ← trE G (L2.relS scope sc) n elt
      if (mtSlots t).all (fun i => ((ownC G.N scope).map (·.2)).contains i) then pure (.comp ((ownC G.N scope).map (·.2)) t it c x) else none else none
    | _ => none
def trC (G : Gs) (sc : Scope) : Nat → Str → List Expr → Option ME
  | 0, _, _ => none
  | n + 1, f, args => match G.fns.lookup f with
    | some j => do let ms ← trEs G sc n args; pure (.call j ms)
    | none => if G.blt.contains f then (if f = "isinstance" then (match args with
      | [a, .Name ty _] => if okN ty && glB sc ty && G.blt.contains ty then (if ty = "dict" then (do let a ← trE G sc n a; pure (.fn .isDict a)) else do let t ← tyOf ty; let a ← trE G sc n a; pure (.bi (.isa [t]) (.cons a .nil))) else none
      | _ => none) else match args with
      | [] => none
      | [.Call (.Name r _) [a] [] _] => if r = "range" then (if (f = "list" ∨ f = "tuple") ∧ glB sc "range" = true ∧ G.blt.contains "range" = true ∧ isStar a = false then do let a ← trE G sc n a; pure (.rngL (decide (f = "tuple")) a) else none) else if r = "set" then (if f = "len" ∧ glB sc "set" = true ∧ G.blt.contains "set" = true ∧ isStar a = false then do let a ← trE G sc n a; pure (.fn .lenSet a) else none) else do let b ← biOf f; let ms ← trEs G sc n args; pure (.bi b ms)
      | [.Call (.Attribute a nm apos) [] [] cpos] => if f = "sorted" ∧ nm = "items" then (if isSup a || !(apos.endLine == cpos.line) then none else do let a ← trE G sc n a; pure (.fn .sortedItems a)) else do let b ← biOf f; let ms ← trEs G sc n args; pure (.bi b ms)
      | [.Call (.Name r _) [a, a'] [] _] => if r = "range" then (if (f = "list" ∨ f = "tuple") ∧ glB sc "range" = true ∧ G.blt.contains "range" = true ∧ isStar a = false ∧ isStar a' = false then do let a ← trE G sc n a; let a' ← trE G sc n a'; pure (.rngL2 (decide (f = "tuple")) a a') else none) else do let b ← biOf f; let ms ← trEs G sc n args; pure (.bi b ms)
      | _ :: _ => do let b ← biOf f; let ms ← trEs G sc n args; pure (.bi b ms)) else none
def trEs (G : Gs) (sc : Scope) : Nat → List Expr → Option MEs
  | 0, _ => none
  | n + 1, es => match es with
    | [] => some .nil
    | e :: r => if isStar e then none else do let a ← trE G sc n e; let r ← trEs G sc n r; pure (.cons a r)
/-- a dict's values, and how many -/
def trD (G : Gs) (sc : Scope) : Nat → List (Option Expr) → List Expr → Option (MEs × Nat)
  | 0, _, _ => none
  | n + 1, ks, es => match ks, es with
    | [], [] => some (.nil, 0)
    | _ :: ks, e :: r => do let a ← trE G sc n e; let r ← trD G sc n ks r; pure (.cons a r.1, r.2 + 1)
    | _, _ => none
def trO (G : Gs) (sc : Scope) : Nat → Option Expr → Option MO
  | 0, _ => none
  | n + 1, o => match o with
    | none => some .none
    | some e => do let a ← trE G sc n e; pure (.some a)
def trV (G : Gs) (sc : Scope) : Nat → BoolOp → List Expr → Option ME
  | 0, _, _ => none
  | n + 1, op, es => match op, es with
    | _, [a] => trE G sc n a
    | .And, a :: b :: r => do let x ← trE G sc n a; let y ← trV G sc n .And (b :: r); pure (.andd x y)
    | .Or, a :: b :: r => do let x ← trE G sc n a; let y ← trV G sc n .Or (b :: r); pure (.orr x y)
    | _, _ => none
def trT (G : Gs) (sc : Scope) : Nat → Expr → Option MB
  | 0, _ => none
  | n + 1, e => match e with
    | .UnaryOp .Not a _ => do let a ← trT G sc n a; pure (.nott a)
    | .BoolOp op es _ => trW G sc n op es
    | .Compare a [op] [b] _ => if behindInMarks op b then none else do let a ← trE G sc n a; let b ← trE G sc n b; pure (.tr (.cmp op a b))
    | .Compare a [op, op'] [b, c] _ => if lastMarks [op, op'] [b, c] then none else do let a ← trE G sc n a; let b ← trE G sc n b; let c ← trE G sc n c; pure (.tr (.chain op op' a b c))
    | _ => if isVal e then do let m ← trE G sc n e; pure (.tr m) else none
def trW (G : Gs) (sc : Scope) : Nat → BoolOp → List Expr → Option MB
  | 0, _, _ => none
  | n + 1, op, es => match op, es with
    | _, [a] => trT G sc n a
    | .And, a :: b :: r => do let x ← trT G sc n a; let y ← trW G sc n .And (b :: r); pure (.andd x y)
    | .Or, a :: b :: r => do let x ← trT G sc n a; let y ← trW G sc n .Or (b :: r); pure (.orr x y)
    | _, _ => none
def trIf (G : Gs) (sc : Scope) : Nat → List Expr → Option MC
  | 0, _ => none
  | n + 1, es => match es with
    | [] => some .none
    | [a] => do let t ← trT G sc n a; pure (.some t)
    | _ => none
def trI (G : Gs) (sc : Scope) : Nat → Bool → Expr → Option MI
  | 0, _, _ => none
  | n + 1, tp, e => match e with
    | .Call (.Name f _) [a] [] _ => if f = "range" then (if glB sc "range" && G.blt.contains "range" && !isStar a then do let a ← trE G sc n a; pure (.rng (.cons a .nil)) else none) else if f = "reversed" then (if glB sc "reversed" && G.blt.contains "reversed" && !isStar a then do let a ← trE G sc n a; pure (.revd a) else none) else do let a ← trE G sc n e; pure (.seq a)
    | .Call (.Name f _) [a, b] [] _ => if f = "range" then (if glB sc "range" && G.blt.contains "range" && !isStar a && !isStar b then do let a ← trE G sc n a; let b ← trE G sc n b; pure (.rng (.cons a (.cons b .nil))) else none) else if f = "zip" then (if tp && glB sc "zip" && G.blt.contains "zip" && !isStar a && !isStar b then do let a ← trE G sc n a; let b ← trE G sc n b; pure (.zip (.cons a (.cons b .nil))) else none) else do let a ← trE G sc n e; pure (.seq a)
    | .Call (.Name f _) [a, b, c] [] _ => if f = "range" then (if glB sc "range" && G.blt.contains "range" && !isStar a && !isStar b && !isStar c then do let a ← trE G sc n a; let b ← trE G sc n b; let c ← trE G sc n c; pure (.rng (.cons a (.cons b (.cons c .nil)))) else none) else do let a ← trE G sc n e; pure (.seq a)
    | _ => do let a ← trE G sc n e; pure (.seq a)
end

/-! ### statements -/
def swNames (sc : Scope) (ts : List Expr) : List Str :=
  let line := (ts.head?.map (·.pos.line)).getD 0
  ts.filterMap fun
    | .Name id pos => if sc.names.lookup id == some .local && pos.line == line then some id else none
    | _ => none
/-- are the stores swapped? none: not known -/
def swapQ (sc : Scope) (ts vs : List Expr) : Option (Option (List Str)) :=
  if !(ts.length == 2 || ts.length == 3) || vs.length != ts.length then some none
  else if vs.any isStar then none
  else if (swNames sc ts).length != ts.length || (swNames sc ts).eraseDups.length != (swNames sc ts).length then some none
  else if vs.all (foldedForSure 8) then some none
  else if vs.all (constantsAlone 8) then none
  else some (some (swNames sc ts))
/-- plain local names, no name twice -/
def parNs (G : Gs) (sc : Scope) : List Expr → Option (List Nat)
  | [] => some []
  | .Name x _ :: r => if locB (fun _ => true) sc x then do let i ← ixN G.N x; let is ← parNs G sc r; if is.contains i then none else pure (i :: is) else none
  | _ => none
def trA (G : Gs) (sc : Scope) (n : Nat) (tg e : Expr) : Option MS := match tg with
  | .Name x _ => if locB (fun _ => true) sc x then do let i ← ixN G.N x; let m ← trE G sc n e; pure (.asg (.name i) m) else none
  | .Tuple ts _ _ => match e with
    | .Tuple vs _ _ => match swapQ sc ts vs with
      | some none => match parNs G sc ts with
        | some is => do let es ← trEs G sc n vs; if is.length = ts.length ∧ is.length ≤ 1000 then pure (.parN is es) else none
        | none => do let t ← trGs G (fun _ => true) sc ts; let m ← trE G sc n e; pure (.asg (.tup t) m)
      | some (some ns) => match ts, vs with
        | [.Name x _, .Name y _], [a, b] => if ns = [x, y] then do
          let is ← parNs G sc ts
          let es ← trEs G sc n vs
          pure (.parN is es) else none
        | [.Name x _, .Name y _, .Name z _], [a, b, c] => if ns = [x, y, z] then do
          let is ← parNs G sc ts
          let es ← trEs G sc n vs
          pure (.parN is es) else none
        | _, _ => none
      | none => none
    | _ => do let t ← trGs G (fun _ => true) sc ts; let m ← trE G sc n e; pure (.asg (.tup t) m)
  | .Subscript (.Name x _) i _ => if okN x && visB sc x && !(isSl i) then do let j ← ixN G.N x; let i ← trE G sc n i; let m ← trE G sc n e; pure (.asgIx j i m) else none
  | _ => none
mutual
def trS (G : Gs) (sc : Scope) : Nat → Stmt → Option MS
  | 0, _ => none
  | n + 1, s => match s with
    | .Expr (.Constant (.str _) _ _) _ => some .pass
    | .Expr e _ => if isCall e then do let m ← trE G sc n e; pure (.expr m) else none
    | .Assign [tg] e _ => trA G sc n tg e
    | .AugAssign (.Name x _) op e _ => if locB (fun _ => true) sc x then do let i ← ixN G.N x; let m ← trE G sc n e; pure (.aug i op m) else none
    | .AugAssign (.Subscript (.Name x _) i _) op e _ => if okN x && visB sc x && !(isSl i) then do let j ← ixN G.N x; let i ← trE G sc n i; let m ← trE G sc n e; pure (.augIx j i op m) else none
    | .Return none _ => some .retN
    | .Return (some e) _ => do let m ← trE G sc n e; pure (.ret m)
    | .If c a b _ => do let c ← trT G sc n c; let a ← trSs G sc n a; let b ← trSs G sc n b; pure (.ife c a b)
    | .For tg it b [] _ => if isSet it then none else do let t ← trG G (fun _ => true) sc tg; let it ← trI G sc n (isTupE tg) it; let b ← trSs G sc n b; pure (.for_ t it b)
    | .While c b [] _ => do let c ← trT G sc n c; let b ← trSs G sc n b; pure (.whl c b)
    | .Break _ => some .brk
    | .Continue _ => some .cnt
    | .Pass _ => some .pass
    | _ => none
def trSs (G : Gs) (sc : Scope) : Nat → List Stmt → Option MSs
  | 0, _ => none
  | n + 1, ss => match ss with
    | [] => some .nil
    | s :: r => do let a ← trS G sc n s; let r ← trSs G sc n r; pure (.cons a r)
end
end Ev
/-! the text's translation is right: small words -/
namespace Ev
open PySem PySem.Spec PyProof.Rows L2
theorem obind {α β : Type} {o : Option α} {f : α → Option β} {b : β} (h : (o >>= f) = some b) : ∃ a, o = some a ∧ f a = some b := by
  cases o with
  | none => cases h
  | some a => exact ⟨a, rfl, h⟩
theorem omap {α β : Type} {o : Option α} {f : α → β} {b : β} (h : o.map f = some b) : ∃ a, o = some a ∧ f a = b := by
  cases o with
  | none => cases h
  | some a => exact ⟨a, rfl, Option.some.inj h⟩
theorem oif {α : Type} {c : Prop} [Decidable c] {o : Option α} {b : α} (h : (if c then o else none) = some b) : c ∧ o = some b := by
  split at h
  · exact ⟨by assumption, h⟩
  · cases h
theorem oifn {α : Type} {c : Prop} [Decidable c] {o : Option α} {b : α} (h : (if c then none else o) = some b) : ¬ c ∧ o = some b := by
  split at h
  · cases h
  · exact ⟨by assumption, h⟩
theorem opure {α : Type} {a b : α} (h : (pure a : Option α) = some b) : a = b := Option.some.inj h
section
variable {e a : Expr} {es : List Expr} {env : Env} {pos : Pos}
theorem star_cons (h : isStar a = false) : starEach (a :: es) env = (false, eval a env) :: starEach es env := by
  cases a <;> first | rfl | cases h
theorem star_all : ∀ {es : List Expr}, es.all (fun a => !isStar a) = true → starEach es env = es.map fun e => (false, eval e env)
  | [], _ => rfl
  | a :: es, h => by
    simp only [List.all_cons, Bool.and_eq_true, Bool.not_eq_true'] at h
    rw [star_cons h.1, star_all h.2]; rfl
theorem star_plain (h : es.all (fun a => !isStar a) = true) : (backTo pos (starEach es env)).any (·.1) = false := by
  rw [star_all h]
  unfold backTo
  rw [List.map_map, List.any_map, List.any_eq_false]
  intro _ _; simp
theorem isTrue_val (h : isVal e = true) (whole : Sem Value) : isTrue e env whole = (do let v ← whole; standAt e.pos; holding [v] (truthy v)) := by
  cases e with
  | UnaryOp op x p => cases op <;> first | rfl | cases h
  | BoolOp => cases h
  | IfExp => cases h
  | Compare => cases h
  | _ => rfl
theorem sup_ok {attr : Str} {whole : Sem Value} (h : isSup e = false) : attributeBase e attr env whole = whole := by
  unfold attributeBase
  split
  · cases h
  · rfl
theorem set_ok (h : isSet e = false) (x : Value) : foldedSetIterable e env x = pure x := by
  unfold foldedSetIterable
  split
  · cases h
  · rfl
theorem plain_ix (h : isSl e = false) : PlainIx e := fun o i => by
  cases e <;> first | rfl | cases h
theorem pl_swap {value : Expr} {tg : Option Expr} {line : Nat} (h : isLC value = false) : swapsWith value tg line env = pure false := by
  unfold swapsWith
  cases value <;> first | rfl | cases h
theorem call_swap (h : isCall e = true) {line : Nat} : swapsWith e none line env = pure false := pl_swap (by cases e <;> first | rfl | cases h)
theorem ixN_ok {N : List Str} {x : Str} {i : Nat} (h : ixN N x = some i) : N[i]? = some x := by
  unfold ixN at h
  obtain ⟨h1, h2⟩ := oif h
  cases h2; exact h1
theorem okN_ok {x : Str} (h : okN x = true) : (x == ("__debug__" : Str)) = false ∧ (x == ("__classdict__" : Str)) = false ∧ x ≠ "__name__" := by
  unfold okN at h
  simp only [Bool.and_eq_true, Bool.not_eq_true', beq_eq_false_iff_ne] at h
  exact ⟨beq_eq_false_iff_ne.mpr h.1.1, beq_eq_false_iff_ne.mpr h.1.2, h.2⟩
theorem visB_ok {sc : Scope} {x : Str} (h : visB sc x = true) : Vis sc x := by
  unfold visB at h
  split at h
  · exact .inl (by assumption)
  · exact .inr (.inl (by assumption))
  · exact .inr (.inr (by assumption))
  · cases h
theorem locB_ok {fc : Str → Bool} {sc : Scope} {x : Str} (h : locB fc sc x = true) : Loc sc x ∧ (fc x = true ∨ sc.names.lookup x = some .local) := by
  unfold locB at h
  split at h
  · rename_i q; exact ⟨.inl q, .inr q⟩
  · rename_i q; exact ⟨.inr q, .inl h⟩
  · cases h
theorem glB_ok {sc : Scope} {x : Str} (h : glB sc x = true) : sc.names.lookup x = some .globalImplicit := by
  unfold glB at h
  split at h
  · assumption
  · cases h
mutual
theorem slots_eq : ∀ t : MT, mtSlots t = tslots t
  | .name i => rfl
  | .tup ts => by unfold mtSlots tslots; exact slotss_eq ts
theorem slotss_eq : ∀ ts : MTs, mtsSlots ts = tslotss ts
  | .nil => rfl
  | .cons t ts => by unfold mtsSlots tslotss; rw [slots_eq t, slotss_eq ts]
end
theorem ownC_at {N : List Str} {scope : Scope} {p : Str × Nat} (h : p ∈ ownC N scope) : N[p.2]? = some p.1 := by
  unfold ownC at h
  obtain ⟨⟨x, k⟩, _, h⟩ := List.mem_filterMap.mp h
  simp only at h
  split at h
  · obtain ⟨i, h1, rfl⟩ := omap h; exact ixN_ok h1
  · obtain ⟨i, h1, rfl⟩ := omap h; exact ixN_ok h1
  · cases h
end
/-- what a body may lean on -/
structure Okx (G : Gs) (cf : Nat → List Slot → CR) (k : Nat) (fc : Str → Bool) (sc : Scope) (X : Cx) : Prop where
  hN : X.N = G.N
  nd : G.N.Nodup
  hsc : X.env.scope = sc
  calm : X.calm = true
  xe : X.xe = fun _ _ => False
  room : Room k X.A
  fn : ∀ x, fc x = true → X.fn x = true
  fns : ∀ x j, G.fns.lookup x = some j → ∃ (f : Addr) (fd : FuncData) (ps : List Str), FnOk X.prog X.w X.kw X.mg X.base CX0 k f fd ps (spE X.kw (cf j)) ∧ X.mg x = some (.ref f) ∧ PySem.W.keepIn X.kw (.ref f) = true ∧ Binds X.kw fd ps []
  consts : ∀ x d, G.consts.lookup x = some d → ∃ v u, X.mg x = some u ∧ RelV v u ∧ ∀ F, Rp X.kw F v d
  blt : ∀ x, G.blt.contains x = true → X.mg x = none
section
variable {G : Gs} {cf : Nat → List Slot → CR} {k : Nat} {fc : Str → Bool} {sc : Scope} {X : Cx}
theorem Okx.gl (o : Okx G cf k fc sc X) {x : Str} (h : glB sc x = true) : Gl X x := by
  show X.env.scope.names.lookup x = _
  rw [o.hsc]; exact glB_ok h
theorem Okx.ix (o : Okx G cf k fc sc X) {x : Str} {i : Nat} (h : ixN G.N x = some i) : X.N[i]? = some x := by
  rw [o.hN]; exact ixN_ok h
theorem Okx.vis (o : Okx G cf k fc sc X) {x : Str} (h : visB sc x = true) : Vis X.env.scope x := by rw [o.hsc]; exact visB_ok h
theorem relabel_rel (scope : Scope) (env : Env) : relabel scope env = relS scope env.scope := rfl
theorem Okx.blk (o : Okx G cf k fc sc X) (s : Shared) (H : Hp) (scope : Scope) (C : Addr) (cl : List (Str × Addr)) (fp : List Addr) : Okx G cf k (fcC scope) (relS scope sc) (X.blk s H scope (compEnvC scope cl C X.env) fp) where
  hN := o.hN
  nd := o.nd
  hsc := by show relabel scope X.env = _; rw [relabel_rel, o.hsc]
  calm := o.calm
  xe := rfl
  room := o.room
  fn := fun x h => h
  fns := o.fns
  consts := o.consts
  blt := o.blt
theorem shr_imp {m : ME} : ∀ σ H Q, tE X.kw (evE cf (.shr m)) σ H Q → tE X.kw (evE cf m) σ H Q := by
  rintro σ H Q ⟨F, e, o, e', R, q, w⟩
  unfold evE at q
  obtain ⟨o1, e1, q1, q2⟩ := bind_ok q
  obtain ⟨d, e2, q3, q4⟩ := bind_ok q2
  obtain ⟨p1, p2⟩ := pure_ok q4
  subst p1 p2
  refine ⟨F, e, o1, e1, R, q1, fun v F1 H1 R1 S1 h1 hf => ?_⟩
  obtain ⟨F2, R2, S2, r2, _, _⟩ := esc_ok R1 S1 h1 hf q3
  exact w v F2 H1 R2 S2 r2 trivial
theorem snd_shr {a : Expr} {m : ME} (h : PE X a (tE X.kw (evE cf m))) : PE X a (tE X.kw (evE cf (.shr m))) := h.imp shr_imp
theorem snd_name (o : Okx G cf k fc sc X) {x : Str} {i : Nat} {pos : Pos} (h1 : okN x = true) (h2 : visB sc x = true) (h3 : ixN G.N x = some i) : PE X (.Name x pos) (tE X.kw (evE cf (.v i))) :=
  snd_v (pe_var (o.ix h3) (o.vis h2) (okN_ok h1).1 (okN_ok h1).2.1)
theorem lit_ok {c : Const} {d : D} {j : Nat} {pos : Pos} (h : litC c = some d) : PE X (.Constant c j pos) (tE X.kw (evE cf (.c d))) := by
  cases c with
  | int i => cases h; exact snd_c (fun _ => .int _) pe_int
  | str x => cases h; exact snd_c (fun _ => .str _) pe_str
  | bool b => cases h; exact snd_c (fun _ => .bl _) pe_bl
  | none => cases h; exact snd_c (fun _ => .non) pe_non
  | float _ => cases h
  | complex _ _ => cases h
  | bytes _ => cases h
  | ellipsis => cases h
theorem sng_loc (o : Okx G cf k fc sc X) {x : Str} {i : Nat} {pos : Pos} (h1 : locB fc sc x = true) (h2 : ixN G.N x = some i) : PG X (.Name x pos) (tG X.kw (.name i)) := by
  obtain ⟨q1, q2⟩ := locB_ok h1
  exact sng_name (pg_name (by rw [o.hN]; exact o.nd) (o.ix h2) (by rw [o.hsc]; exact q1) (q2.imp (o.fn x) fun q => by rw [o.hsc]; exact q))
theorem bindTs_cnt : ∀ {ts : MTs} {ds : List D} {e e' : En} {u : Unit} {us : List MT}, ts = mtsOf us → bindTs ts ds e = .ok u e' → ds.length = us.length
  | ts, ds, e, e', u, [], hts, q => by
    subst hts
    cases ds with
    | nil => rfl
    | cons d ds => unfold mtsOf bindTs at q; cases (lift_ok q).1
  | ts, ds, e, e', u, t :: us, hts, q => by
    subst hts
    cases ds with
    | nil => unfold mtsOf bindTs at q; cases (lift_ok q).1
    | cons d ds =>
      have q : ((do bindT t d; bindTs (mtsOf us) ds) : M Unit) e = .ok u e' := by unfold mtsOf bindTs at q; exact q
      obtain ⟨_, e1, _, q⟩ := bind_ok q
      simp [bindTs_cnt rfl q]
theorem asg_nostar : ∀ {es : List Expr} {env : Env}, es.all (fun a => !isStar a) = true → (assignEach es env).length = es.length ∧ (assignEach es env).findIdx? (·.1) = none
  | [], _, _ => ⟨rfl, rfl⟩
  | a :: es, env, h => by
    simp only [List.all_cons, Bool.and_eq_true, Bool.not_eq_true'] at h
    have e : assignEach (a :: es) env = (false, assign a env) :: assignEach es env := by cases a <;> first | rfl | (cases h.1; done)
    obtain ⟨h1, h2⟩ := asg_nostar (env := env) h.2
    rw [e]
    refine ⟨by simp [h1], ?_⟩
    rw [List.findIdx?_cons]
    simp [h2]
theorem asg_cons {a : Expr} {es : List Expr} {env : Env} (h : isStar a = false) : (assignEach (a :: es) env).map (·.2) = assign a env :: (assignEach es env).map (·.2) := by
  cases a <;> first | rfl | cases h
theorem trGs_ok (o : Okx G cf k fc sc X) : ∀ (n : Nat) (es : List Expr) (ts : MTs), es.length ≤ n → trGs G fc sc es = some ts → PGs X es (tGs X.kw ts) ∧ es.all (fun a => !isStar a) = true ∧ ∃ us, ts = mtsOf us ∧ us.length = es.length := by
  intro n
  induction n with
  | zero =>
    intro es ts hl h
    obtain rfl : es = [] := List.eq_nil_of_length_eq_zero (by omega)
    unfold trGs at h; cases h; exact ⟨sng_nil, rfl, [], rfl, rfl⟩
  | succ n ih =>
    intro es ts hl h
    unfold trGs at h
    split at h
    · cases h; exact ⟨sng_nil, rfl, [], rfl, rfl⟩
    · rename_i x p r
      obtain ⟨h1, h⟩ := oif h
      obtain ⟨i, h2, h⟩ := obind h
      obtain ⟨ts', h3, h⟩ := obind h
      cases opure h
      obtain ⟨q1, q2, us, rfl, q4⟩ := ih r _ (by simpa using hl) h3
      exact ⟨sng_cons (sng_loc o h1 h2) q1 (asg_cons rfl), by simpa [isStar] using q2, .name i :: us, rfl, by simp [q4]⟩
    · rename_i x p y p' kk p2 r
      obtain ⟨h1, h⟩ := oif h
      obtain ⟨i, h2, h⟩ := obind h
      obtain ⟨j, h4, h⟩ := obind h
      obtain ⟨ts', h3, h⟩ := obind h
      cases opure h
      rw [Bool.and_eq_true] at h1
      obtain ⟨q1, q2, us, rfl, q4⟩ := ih r _ (by simpa using hl) h3
      have hp : PGs X [.Name x p, .Name y p'] (tGs X.kw (.cons (.name i) (.cons (.name j) .nil))) := sng_cons (sng_loc o h1.1 h2) (sng_cons (sng_loc o h1.2 h4) sng_nil (asg_cons rfl)) (asg_cons rfl)
      have ht : PG X (.Tuple [.Name x p, .Name y p'] kk p2) (tG X.kw (.tup (.cons (.name i) (.cons (.name j) .nil)))) := sng_tup o.calm hp (n := 2) rfl rfl fun ds e u e' q => bindTs_cnt (us := [.name i, .name j]) rfl q
      exact ⟨sng_cons ht q1 (asg_cons rfl), by simpa [isStar] using q2, .tup (.cons (.name i) (.cons (.name j) .nil)) :: us, rfl, by simp [q4]⟩
    · cases h
theorem trG_ok (o : Okx G cf k fc sc X) {tg : Expr} {t : MT} (h : trG G fc sc tg = some t) : PG X tg (tG X.kw t) := by
  unfold trG at h
  split at h
  · obtain ⟨h1, h⟩ := oif h
    obtain ⟨i, h2, rfl⟩ := omap h
    exact sng_loc o h1 h2
  · rename_i es _ _
    obtain ⟨ts, h1, rfl⟩ := omap h
    obtain ⟨q1, q2, us, q3, q4⟩ := trGs_ok o _ _ _ (Nat.le_refl _) h1
    obtain ⟨q5, q6⟩ := asg_nostar (env := X.env) q2
    exact sng_tup o.calm q1 q5 q6 fun ds e u e' q => (bindTs_cnt q3 q).trans q4
  · cases h
end
end Ev
/-! what reads a dict; new dicts -/
namespace Ev
open PySem PySem.Spec PyProof.Rows L2 L2.DX
section
variable {X : Cx} {k : Nat} {cf : Nat → List Slot → CR} {m mk mv : ME} {F H H' : Hp} {pins : List (Addr × Obj)} {σ : L2.St} {s : Shared} {a : Addr}
def tFn (K : KW) (f : Fn) (tl : TE) : TE := fun σ H Q => tl σ H fun x H1 => ∃ F r rv, Same F H1 ∧ Lw K F H1 x r ∧ fnR f r = some rv ∧ ∀ v F' H', Ext F H1 F' H' → RvR K F' H' v rv → Frs H1 v rv → Q v H'
theorem fn_imp {f : Fn} : ∀ σ H Q, tE X.kw (evE cf (.fn f m)) σ H Q → tFn X.kw f (tE X.kw (evE cf m)) σ H Q := fun σ H Q ⟨F, e, o, e', R, q, w⟩ => by
  obtain ⟨x, e1, q1, q⟩ := bind_ok q
  obtain ⟨r, e2, q2, q⟩ := bind_ok q
  obtain ⟨p2, p2'⟩ := vwM_ok q2
  subst p2'
  obtain ⟨rv, e3, q3, q⟩ := bind_ok q
  obtain ⟨p3, p3'⟩ := lift_ok q3
  subst p3'
  obtain ⟨p8, p8'⟩ := pure_ok q
  subst p8 p8'
  exact ⟨F, e, x, e1, R, q1, fun v F1 H1 R1 S1 O1 N1 => ⟨F1, r, rv, R1.fz, vw_lw R1 O1 p2, p3, fin_rv R1 S1 w⟩⟩
/-! ### isinstance(x, dict) -/
theorem tyX_no {x : V} {d : D} {K : KW} (fz : Same F H) (h : Lt K F H x d) (hd : isDictD d = false) : ∃ n, TyX K H x (.type n) ∧ kitB n "dict" = some false := by
  cases d with
  | none => rw [h.none]; exact ⟨"NoneType", .base .non, by decide +kernel⟩
  | bool b => rw [h.bool]; exact ⟨"bool", .base (.bl b), by decide +kernel⟩
  | int b => rw [h.int]; exact ⟨"int", .base (.int b), by decide +kernel⟩
  | str b => rw [h.str]; exact ⟨"str", .base (.str b), by decide +kernel⟩
  | list xs =>
    obtain ⟨a, vs, rfl, ha, ra⟩ := h.list fz
    exact ⟨"list", .base (.lst ha), by decide +kernel⟩
  | tuple xs =>
    obtain ⟨a, vs, rfl, ha, ra⟩ := h.tup fz
    refine ⟨"tuple", ?_, by decide +kernel⟩
    rcases ha with ⟨o, ha, _⟩ | ⟨o, its, n, hk, hc, _⟩
    · exact .fTuple (fz _ _ ha)
    · exact .kTuple hk hc
  | dict _ => cases hd
def rIsD (K : KW) : List V → Hp → VK → Prop := fun vs H Q => ∃ F x r rv, Same F H ∧ vs = [x, .ty "dict"] ∧ Lw K F H x r ∧ fnR .isDict r = some rv ∧ ∀ v F' H', Ext F H F' H' → RvR K F' H' v rv → Frs H v rv → Q v H'
theorem bir_isD : CallR X (.builtin "isinstance") (rIsD X.kw) := by
  intro pins s σ H vs us Q I r h
  obtain ⟨F, x, rr, rv, fz, rfl, hx, e, q⟩ := h
  have no : ∀ {n : String}, rv = .val (.bool false) → TyX X.K H x (.type n) → kitB n "dict" = some false → wpAny (model X.prog X.w) X.A (call (.builtin "isinstance") us) (EP X pins σ Q) X.xe s := fun {n} e ty hk => by
    subst e
    exact call_isi pins s σ H _ us Q I r ⟨x, _, _, _, _, rfl, .ty _, ty, kit_ty hk, q _ F H (.refl fz) (.bl _) trivial⟩
  have yes : ∀ {a : Addr}, rv = .val (.bool true) → x = .ref a → (∃ o : Obj, s.heap.get? a = some o ∧ o.cls = .type "dict") → wpAny (model X.prog X.w) X.A (call (.builtin "isinstance") us) (EP X pins σ Q) X.xe s := fun {a} e ex ho => by
    subst e ex
    obtain ⟨u1, u2, rfl, r1, r2⟩ := vals2 r
    cases r1
    cases r2
    exact PySem.W.kia_one PySem.W.kitx_dict I.kIn ho (kit_ty (by decide +kernel)) (fun z => nomatch z) fun tk => ⟨.bl true, H, I.tok tk, rfl, q _ F H (.refl fz) (.bl _) trivial⟩
  unfold fnR at e
  split at e <;> first | (rename_i hh; cases hh; done) | skip
  all_goals first | (cases e; done) | skip
  · cases e
    obtain ⟨a, rfl, vs, ha, _⟩ := hx
    obtain ⟨_, _, vs', _, o, es, ep, h1, h2, _⟩ := dk_of I.hok ha
    exact yes rfl rfl ⟨o, h1, h2.1⟩
  · cases e
    obtain ⟨a, rfl, _, _, xs, ha, _⟩ := hx
    obtain ⟨h1, _⟩ := dic_ty I ha
    exact yes rfl rfl h1
  · cases e
    obtain ⟨a, rfl, vs, ha, _⟩ := hx
    exact no rfl (.base (.lst ha)) (by decide +kernel)
  · split at e
    · cases e
    · rename_i hd
      cases e
      obtain ⟨n, ty, hk⟩ := tyX_no fz (Lt.mono (.refl _) (.inl hx)) (by simpa using hd)
      exact no rfl ty hk
/-! ### sorted(d.items()) -/
def rItems (K : KW) : V → List V → Hp → VK → Prop := fun x xs H Q => ∃ F ob kvs a, Same F H ∧ x = .ref a ∧ xs = [] ∧ (ob = .dct kvs ∨ ob = .dic kvs) ∧ ObR K F H a ob ∧ ∀ p, H p = none → Q (.ref p) (upd H p (itemsO p a))
theorem mtr_items : MtR X "dict.items" (rItems X.kw) := by
  intro pins s σ H x xs v us Q I rx rxs h
  obtain ⟨F, ob, kvs, a, fz, rfl, rfl, hob, ho, q⟩ := h
  cases rx
  cases rxs
  obtain ⟨hd, hz, es, ep, ks, ws, hm, hl, _⟩ := own_raw I fz hob ho
  refine DT.callItems (es := es) (ep := ep) hd hm ?_
  have hf : H s.heap.objs.size = none := I.hok.fresh (Nat.le_refl _)
  exact ⟨.ref s.heap.objs.size, upd H s.heap.objs.size (itemsO s.heap.objs.size a), I.laid (t' := s.toks) (fun b u e => Heap.get?_push_of_some _ e) (Nat.le_refl _) (itemsO_ok (Heap.get?_push_size _ rfl)), rfl, q _ hf⟩
theorem Ext.trans {F1 H1 F2 H2 : Hp} (x : Ext F H F1 H1) (y : Ext F1 H1 F2 H2) : Ext F H F2 H2 :=
  ⟨x.fr.trans y.fr, x.keep.trans y.keep, y.fz, fun b o e => (y.nw b o e).elim (fun e => x.nw b o e) fun e => .inr (by
    cases q : H b with
    | none => rfl
    | some u => rw [x.keep _ _ q] at e; cases e)⟩
/-- pairs that were made are tracked -/
theorem take_pairs {h' : Heap} {tk : Nat} (I0 : Inv X pins σ H s) : ∀ (as : List Addr) (ks ws : List V) (us us' : List Value) (kvs : List (D × D)) (F1 H1 : Hp), Same F1 H1 → Inv X pins σ H1 { s with heap := h', toks := tk } → as.Nodup → (∀ a, a ∈ as → s.heap.objs.size ≤ a ∧ H1 a = none) →
    Vals ks us → Vals ws us' → RpAll X.K F1 ks (kvs.map (·.1)) → RpAll X.K F1 ws (kvs.map (·.2)) → as.length = us.length → (∀ (j : Nat) a, as[j]? = some a → ∃ u u', us[j]? = some u ∧ us'[j]? = some u' ∧ h'.get? a = some { cls := .type "tuple", data := .seq #[u, u'] }) →
    ∃ F2 H2, Ext F1 H1 F2 H2 ∧ Inv X pins σ H2 { s with heap := h', toks := tk } ∧ RpAll X.K F2 (as.map V.ref) (itemsOf kvs) := by
  intro as
  induction as with
  | nil =>
    intro ks ws us us' kvs F1 H1 fz I1 _ _ v1 v2 r1 r2 hl _
    have : kvs = [] := by
      have e1 := v1.length
      have e2 := r1.length
      rw [List.length_map] at e2
      have e3 : kvs.length = 0 := by rw [← e2, e1, ← hl]; rfl
      exact List.length_eq_zero_iff.mp e3
    subst this
    exact ⟨F1, H1, .refl fz, I1, .nil⟩
  | cons a as ih =>
    intro ks ws us us' kvs F1 H1 fz I1 hn ha v1 v2 r1 r2 hl hg
    cases v1 with
    | nil => simp at hl
    | @cons k0 u0 ks us rk v1 =>
      cases kvs with
      | nil => cases r1
      | cons p kvs =>
        cases r1 with
        | cons d1 r1 =>
          cases v2 with
          | nil => cases r2
          | @cons w0 z0 ws us' rw0 v2 =>
            cases r2 with
            | cons d2 r2 =>
              obtain ⟨hb, hnone⟩ := ha a List.mem_cons_self
              obtain ⟨u, u', e1, e2, e3⟩ := hg 0 a rfl
              cases e1
              cases e2
              rw [List.nodup_cons] at hn
              have ok : ∀ Hx, ObjOk X.prog X.w Hx h' a (.frz { cls := .type "tuple", data := .seq #[u0, z0] } (.tup [k0, w0])) := fun Hx =>
                ⟨e3, by unfold sizeLine; simp, [u0, z0], .cons rk (.cons rw0 .nil), _, e3, rfl, _, rfl⟩
              have I2 := I1.take (h' := h') (t' := tk) (fun b ob _ e => e) (I0.fpOk hb hnone) (ok _)
              have E1 : Ext F1 H1 (upd F1 a (.frz { cls := .type "tuple", data := .seq #[u0, z0] } (.tup [k0, w0]))) _ := .tup fz hnone
              have fz2 := E1.fz
              obtain ⟨F2, H2, E2, I3, r⟩ := ih ks ws us us' kvs _ _ fz2 I2 hn.2 (fun c hc => by
                obtain ⟨c1, c2⟩ := ha c (List.mem_cons_of_mem _ hc)
                exact ⟨c1, by rw [upd_ne (fun z => hn.1 (by rw [← z]; exact hc))]; exact c2⟩) v1 v2 (RpAll.mono E1.fr _ _ r1) (RpAll.mono E1.fr _ _ r2) (by simpa using hl) fun j c hc => by
                  obtain ⟨u, u', q1, q2, q3⟩ := hg (j + 1) c (by simpa using hc)
                  exact ⟨u, u', by simpa using q1, by simpa using q2, q3⟩
              refine ⟨F2, H2, E1.trans E2, I3, .cons (.tup (.inl ⟨_, E2.fr _ _ upd_same, rfl⟩) ?_) r⟩
              exact .cons (Rp.mono (E1.fr.trans E2.fr) _ _ d1) (.cons (Rp.mono (E1.fr.trans E2.fr) _ _ d2) .nil)
def rSIt (K : KW) : List V → Hp → VK → Prop := fun vs H Q => ∃ F ob kvs a p, Same F H ∧ vs = [.ref p] ∧ H p = some (itemsO p a) ∧ (ob = .dct kvs ∨ ob = .dic kvs) ∧ ObR K F H a ob ∧ sortOk (itemsOf kvs) = true ∧
  ∀ v F' H', Ext F H F' H' → RvR K F' H' v (.new (.lst ((itemsOf kvs).mergeSort leD))) → Frs H v (.new (.lst ((itemsOf kvs).mergeSort leD))) → Q v H'
theorem bir_SIt (hcalm : X.calm = true) (hr : Room k X.A) : CallR X (.builtin "sorted") (rSIt X.kw) := by
  intro pins s σ H vs us Q I r h
  obtain ⟨F, ob, kvs, a, p, fz, rfl, hp, hob, ho, so, q⟩ := h
  obtain ⟨u, rfl, ru⟩ := vals1 r
  cases ru
  have view : s.heap.IsItemsView p a := (show ObjOk X.prog X.w H s.heap p (itemsO p a) from I.hok p _ hp).1
  obtain ⟨hsys, hz, es, ep, ks, ws, hm, hl, g1, g2, g3, g4⟩ := own_raw I fz hob ho
  obtain ⟨h1, h2, h3, h4⟩ := sortOk_of so
  refine sorted_by (P := fun h1 _ us => (∀ b o, s.heap.get? b = some o → h1.get? b = some o) ∧ ∃ as : List Addr, us = as.map Value.ref ∧ as.length = es.size ∧ PySem.W.DilG es s.heap.objs.size h1 as) (fun R E' g => ?_) h1 h2 (fun d hd => by have := depthAll_mem hd; have := hr.un; omega) ?_
  · exact PySem.W.dil_collect (I.ok.hd hcalm) view hm (by rw [hl]; exact hz) fun h' tk as hk hla hG => g h' tk _ ⟨hk, as, rfl, hla, hG⟩
  · rintro hh tk us ⟨k1, as, rfl, hla, hG⟩
    have I1 : Inv X pins σ H { s with heap := hh, toks := tk } := I.kept (t' := tk) k1
    obtain ⟨F2, H2, E2, I2, rp0⟩ := take_pairs I as ks ws _ _ kvs F H fz I1 (List.Pairwise.imp (fun h => Nat.ne_of_lt h) hG.rise) (fun b hb => ⟨Nat.le_of_lt (hG.above b hb), I.hok.fresh (Nat.le_of_lt (hG.above b hb))⟩) g1 g3 g2 g4 (by rw [List.length_map, Array.length_toList]; exact hla) (fun j b hj => by
      obtain ⟨hi, e⟩ := hG.pairs j b hj
      exact ⟨es[j].key, es[j].val, by rw [List.getElem?_map, Array.getElem?_toList, Array.getElem?_eq_getElem hi]; rfl, by rw [List.getElem?_map, Array.getElem?_toList, Array.getElem?_eq_getElem hi]; rfl, e⟩)
    have vr : ∀ as : List Addr, Vals (as.map V.ref) (as.map Value.ref) := fun as => by
      induction as with
      | nil => exact .nil
      | cons a as ih => exact .cons rfl ih
    have hlen : as.length ≤ sizeLine := by rw [hla, hl]; exact hz
    refine ⟨by rw [List.length_map]; exact hlen, VD X.kw F2, each_vd (vr as) rp0, each_reads I2 E2.fz h3 (each_vd (vr as) rp0), fun h' out n' k2 e' eo => ?_⟩
    obtain ⟨ws', rw', rp⟩ := vd_each eo
    have hp' : H2 hh.objs.size = none := I2.hok.fresh (Nat.le_refl _)
    have hl' : ws'.length ≤ sizeLine := by rw [rp.length, (List.mergeSort_perm _ leD).length_eq, ← rp0.length, List.length_map]; exact hlen
    refine ⟨.ref hh.objs.size, _, I2.laid (s := { s with heap := hh, toks := tk }) (t' := tk) k2 (Nat.le_refl _) (show ObjOk X.prog X.w _ h' _ (.lst ws') from ⟨hl', out, n', rw', e'⟩), rfl, ?_⟩
    exact q _ _ _ (E2.trans (.lst E2.fz hp')) ⟨_, rfl, E2.fz.none_ hp', _, upd_same, rp⟩ (fun a e => by
      cases e
      cases q : H hh.objs.size with
      | none => rfl
      | some u => rw [E2.keep _ _ q] at hp'; cases hp')
variable {e : Expr} {p p2 q pos apos : Pos}
theorem snd_isD (hg : Gl X "isinstance") (hm : X.mg "isinstance" = none) (hd : PE X (.Name "dict" p2) (tC (.ty "dict"))) (hst : isStar e = false) (ha : PE X e (tE X.kw (evE cf m))) : PE X (.Call (.Name "isinstance" p) [e, .Name "dict" p2] [] pos) (tE X.kw (evE cf (.fn .isDict m))) :=
  (pe_callB bir_isD hg hm rfl (pa_cons ha (pa_cons hd pa_nil (star_cons rfl)) (star_cons hst)) (by decide) (by decide) (star_cons hst) (star_plain rfl)).imp fun σ H Q h => by
    obtain ⟨F, e, o, e', R, q, w⟩ := fn_imp σ H Q h
    exact ⟨F, e, o, e', R, q, fun v F1 H1 R1 S1 O1 N1 => by
      obtain ⟨F2, r, rv, h1, h2, h3, h4⟩ := w v F1 H1 R1 S1 O1 N1
      exact ⟨F2, v, r, rv, h1, rfl, h2, h3, h4⟩⟩
theorem snd_SIt (hcalm : X.calm = true) (hr : Room k X.A) (hg : Gl X "sorted") (hm : X.mg "sorted" = none) (hb : attributeBase e "items" X.env (eval e X.env) = eval e X.env) (hline : (apos.endLine == q.line) = true) (ha : PE X e (tE X.kw (evE cf m))) :
    PE X (.Call (.Name "sorted" p) [.Call (.Attribute e "items" apos) [] [] q] [] pos) (tE X.kw (evE cf (.fn .sortedItems m))) :=
  (pe_callB (bir_SIt hcalm hr) hg hm rfl (pa_cons (pe_mt0 ha hb hline) pa_nil (star_cons rfl)) (by decide) (by decide) (star_cons rfl) (star_plain rfl)).imp fun σ H Q h => by
    obtain ⟨F, e, o, e', R, q, w⟩ := fn_imp σ H Q h
    refine ⟨F, e, o, e', R, q, fun v F1 H1 R1 S1 O1 N1 => ?_⟩
    obtain ⟨F2, r, rv, fz, hx, h3, h4⟩ := w v F1 H1 R1 S1 O1 N1
    have fin : ∀ {ob : Ob} {kvs : List (D × D)}, r = .new ob → (ob = .dct kvs ∨ ob = .dic kvs) → sortOk (itemsOf kvs) = true → rv = .new (.lst ((itemsOf kvs).mergeSort leD)) → ∃ id r, MOn X "items" v H1 id ∧ MtR X id r ∧ r v [] H1 fun x H2 => tNil σ H2 fun xs H3 => rSIt X.kw (x :: xs) H3 Q := fun {ob kvs} er hob so erv => by
      subst er erv
      obtain ⟨a, rfl, ho⟩ := hx
      refine ⟨"dict.items", rItems X.kw, ⟨"dict", PySem.F.plainAttrs_dict, PySem.F.slot_dict_items, PySem.F.type_dict_items, kind_dict (F := F2) (r := .new ob) ⟨a, rfl, ho⟩ (by rcases hob with rfl | rfl <;> rfl)⟩, mtr_items, ?_⟩
      refine ⟨F2, ob, kvs, a, fz, rfl, rfl, hob, ho, fun p hp => ?_⟩
      have E1 : Ext F2 H1 F2 (upd H1 p (itemsO p a)) := .lst fz hp
      refine ⟨F2, ob, kvs, a, p, E1.fz, rfl, upd_same, hob, ho.mono (.refl _) (upd_ne ?_), so, fun v' F' H' E2 hv hf => h4 v' F' H' (E1.trans E2) hv fun b eb => ?_⟩
      · rintro rfl
        rcases hob with rfl | rfl
        · obtain ⟨_, h, _⟩ := ho; rw [hp] at h; cases h
        · obtain ⟨_, _, _, h, _⟩ := ho; rw [hp] at h; cases h
      · have := hf b eb
        cases q : H1 b with
        | none => rfl
        | some u => rw [E1.keep _ _ q] at this; cases this
    unfold fnR at h3
    split at h3 <;> first | (rename_i hh; cases hh; done) | skip
    all_goals first | (cases h3; done) | skip
    · split at h3
      · rename_i so
        cases h3
        exact fin rfl (.inl rfl) so rfl
      · cases h3
    · split at h3
      · rename_i so
        cases h3
        exact fin rfl (.inr rfl) so rfl
      · cases h3
/-! ### len(set(xs)) -/
theorem firstMet_le (f : Nat → Int) : ∀ n, (PyProof.Rows.firstMet f n).length ≤ n
  | 0 => Nat.le_refl _
  | n + 1 => by
    rw [PyProof.Rows.firstMet_succ]
    have := firstMet_le f n
    unfold PyProof.Rows.step_dedup
    split
    · omega
    · rw [List.length_append]; simpa using this
theorem snd_lenSet (hc : X.calm = true) (hg : Gl X "len") (hm : X.mg "len" = none) (hg2 : Gl X "set") (hm2 : X.mg "set" = none) (hst : isStar e = false) (ha : PE X e (tE X.kw (evE cf m))) :
    PE X (.Call (.Name "len" p) [.Call (.Name "set" p2) [e] [] q] [] pos) (tE X.kw (evE cf (.fn .lenSet m))) := by
  refine ⟨fun pins s σ H Q I h => ?_⟩
  refine Call_ (ld_blt I hg hm boot_len ?_)
  refine PyProof.Rows.callWith_builtin1 (PyProof.Rows.args_cons ?_ rfl) rfl rfl
  refine Call_ (ld_blt I hg2 hm2 PyProof.Rows.boot_set ?_)
  have na : starEach [e] X.env = (false, eval e X.env) :: starEach [] X.env := star_cons hst
  refine PyProof.Rows.callWith_type1 (PyProof.Rows.args_cons (thn (ha.run pins s σ H _ I (fn_imp σ H Q h)) fun v s1 ⟨x, H1, I1, r1, q1⟩ => PyProof.Rows.args_nil ?_) na) na rfl
  obtain ⟨F, r, rv, fz, hx, h3, h4⟩ := q1
  have key : ∃ xs ns, Lt X.kw F H1 x (.list xs) ∧ intsD xs = some ns ∧ ns.length ≤ 4000 ∧ rv = .val (.int (setLen ns)) := by
    unfold fnR at h3
    split at h3 <;> first | (rename_i hh; cases hh; done) | skip
    all_goals first | (cases h3; done) | skip
    · rename_i xs _
      cases e1 : intsD xs with
      | none => rw [e1] at h3; cases h3
      | some ns =>
        rw [e1] at h3
        have h3 : (if ns.length ≤ 4000 then some (RV.val (.int (setLen ns))) else none) = some rv := h3
        split at h3
        · rename_i hz
          cases h3
          exact ⟨xs, ns, hx.lt rfl, e1, hz, rfl⟩
        · cases h3
    · rename_i xs _
      cases e1 : intsD xs with
      | none => rw [e1] at h3; cases h3
      | some ns =>
        rw [e1] at h3
        have h3 : (if ns.length ≤ 4000 then some (RV.val (.int (setLen ns))) else none) = some rv := h3
        split at h3
        · rename_i hz
          cases h3
          exact ⟨xs, ns, hx.lt rfl, e1, hz, rfl⟩
        · cases h3
  obtain ⟨xs, ns, hx, e1, hz, rfl⟩ := key
  obtain ⟨l, vs, rfl, hq, ra⟩ := hx.list fz
  obtain rfl := intsD_map e1
  cases r1
  have hvs := ra.ints
  subst hvs
  obtain ⟨its, r, pl, hzz⟩ := I1.list (.of hq)
  have hlen : its.toArray.size = ns.length := by rw [List.size_toArray, ← r.length, List.length_map]
  refine call_set_list (I1.ok.hd hc) pl.isList (ns := ns) (by simpa using r.ints) (by rw [hlen]; unfold scanBound; omega) fun h' tk hS hk => ?_
  refine PyProof.Rows.args_nil ?_
  rw [hlen] at hS
  obtain ⟨o, es, ep, t, ho, hex, hd, _, _, _, hf, hn⟩ := hS
  have I2 : Inv X pins σ H1 { s1 with heap := h', toks := tk } := I1.kept fun b o e => hk b o (Heap.lt_size e) e
  exact call_len_set ho hex hd hf (by rw [hn]; have := firstMet_le (fun i => ns.getD i 0) ns.length; omega) ⟨.int (setLen ns : Nat), H1, I2.tok _, ⟨_, by rw [hn]; rfl⟩, h4 _ F H1 (.refl fz) (.int _) trivial⟩
/-! ### new dicts -/
theorem snd_dnew : PE X (.Dict [] [] pos) (tE X.kw (evE cf .dnew)) :=
  pe_dnewK.imp fun σ H Q ⟨F, e, o, e', R, q, w⟩ => by
    obtain ⟨p6, p6'⟩ := pure_ok (show (pure (Opd.new (.dct [])) : M Opd) e = .ok o e' from q)
    subst p6 p6'
    intro p hp
    have hF := R.fz.none_ hp
    have hn := R.not_own hp
    have E1 : Ext F H F (upd H p (.dK [])) := .lst R.fz hp
    exact w _ F _ (R.ext E1) (Stp.refl.trans E1.stp) ⟨p, rfl, hF, hn, _, upd_same, .nil⟩ (fun a ha => by cases ha; exact hp)
def tDt1 (K : KW) (tk tv : TE) : TE := fun σ H Q => ∀ p, H p = none → (p == sysModules) = false → tk σ (upd H p (.dK [])) fun x H1 => tv σ H1 fun y H2 => ∃ F d c, Same F H2 ∧ Rp K F x d ∧ keyT d = some c ∧ H2 p = some (.dK []) ∧
  ∀ b u, x = .ref b → RelV y u → Q (.ref p) (upd H2 p (.ext (DicX K.w p [(c, b, u)])))
theorem pe_disp1 {e1 e2 : Expr} {tk tv : TE} (hr : Room k X.A) (hk : PE X e1 tk) (hv : PE X e2 tv) : PE X (.Dict [some e1] [e2] pos) (tDt1 X.kw tk tv) := by
  refine ⟨fun pins s σ H Q I q => ?_⟩
  have hn := I.hok.fresh (Nat.le_refl s.heap.objs.size)
  have I1 := I.laid (a := s.heap.objs.size) (o := .dK []) (h' := s.heap.push { cls := .type "dict", data := .dict #[] }) (t' := s.toks) (fun _ _ q => Heap.get?_push_of_some _ q) (Nat.le_refl _) (dk_empty s.heap I.big)
  have hshape := zip_pairTrees [some e1] [e2] X.env pos rfl rfl
  rw [arm_eval_Dict, hshape, dictDisplay_pairs _ (by exact fun h => nomatch h) (by exact Nat.le_of_ble_eq_true rfl)]
  refine wpAny_bind (wpAny_standAt (wpAny_bind (wpAny_subDictH (knd := nestedKind X.prog X.w) (by show X.A.units + 8 < cLine; have := hr.un; omega) (by exact Nat.le_of_ble_eq_true rfl) ?_)))
  refine pairTrees_cons_walk (thn (hk.run pins _ σ _ _ I1 (q _ hn (beq_eq_false_iff_ne.mpr (Nat.ne_of_gt I.big)))) fun u s1 ⟨x, H1, I2, rx, q1⟩ => thn (hv.run pins s1 σ H1 _ I2 q1) fun w2 s2 ⟨y, H2, I3, ry, q2⟩ => pairTrees_nil_walk ?_)
  obtain ⟨F, d, c, fz, hd, hc, hH, q2⟩ := q2
  obtain ⟨b, rfl, rfl, _, kk⟩ := key_is I3 fz (.inl hd) rx hc
  obtain ⟨hsys, hm⟩ := dic_empty I3 hH
  refine ⟨[(c, b, w2)], ⟨rfl, rfl, kk, trivial⟩, hm, fun h' tk hm' hs => wpAny_pure ?_⟩
  have hm' : h'.DictOfH (nestedKind X.prog X.w) s.heap.objs.size [(c, b, w2)] := hm'
  refine ⟨.ref s.heap.objs.size, _, I3.write (x := s.heap.objs.size) (e := s.heap.objs.size) (by rw [hH]; exact True.intro) (.inl rfl) (fun b' q hb z => (hs.2 b' hb).trans z) ?_ (dic_ok hm'), rfl, q2 b w2 rfl ry⟩
  obtain ⟨o, _, _, h1, _⟩ := hm'
  exact ⟨o, h1⟩
theorem snd_dt1 {e1 e2 : Expr} (hr : Room k X.A) (hk : PE X e1 (tE X.kw (evE cf mk))) (hv : PE X e2 (tE X.kw (evE cf mv))) : PE X (.Dict [some e1] [e2] pos) (tE X.kw (evE cf (.dt1 mk mv))) :=
  (pe_disp1 hr hk hv).imp fun σ H Q ⟨F, e, o, e', R, q, w⟩ => by
    obtain ⟨o1, e1, q1, q⟩ := bind_ok q
    obtain ⟨o2, e2, q2, q⟩ := bind_ok q
    obtain ⟨ds, e3, q3, q⟩ := bind_ok q
    intro p hp hsys
    have hF := R.fz.none_ hp
    have hn := R.not_own hp
    have R0 := R.foreign (o := .dK []) hF hn
    have hp0 : (upd H p (HO.dK [])) p = some (.dK []) := upd_same
    refine ⟨F, e, o1, e1, R0, q1, fun v1 F1 H1 R1 S1 O1 N1 => ⟨F1, e1, o2, e2, R1, q2, fun v2 F2 H2 R2 S2 O2 N2 => ?_⟩⟩
    have O2' : ORs X.kw F2 H2 σ e2 H1 [v2] [o2] := ⟨O2, N2, fun a ha ⟨b, hb⟩ j b' hj hj' => by simp at hj, trivial⟩
    have OO : ORs X.kw F2 H2 σ e2 (upd H p (.dK [])) [v1, v2] [o1, o2] := by
      refine ⟨O1.step S2, N1, fun a ha ⟨b, hb⟩ j b' hj hj' => ?_, O2'.back S1⟩
      subst ha hb
      obtain ⟨a', e1, _, _, h4⟩ := O1
      cases e1
      obtain ⟨ho, h5⟩ := h4.some_
      rw [O2'.fr_at hj hj'] at h5
      cases h5
    obtain ⟨F3, R3, S3, r3, m3⟩ := escs_ok R2 (S1.trans S2) OO q3
    cases ds with
    | nil => cases r3
    | cons d1 ds =>
    cases ds with
    | nil => cases r3 with | cons _ t => cases t
    | cons d2 ds =>
    cases ds with
    | cons d3 ds => cases r3 with | cons _ t => cases t with | cons _ t => cases t
    | nil =>
    cases r3 with
    | cons h1 r3 =>
      cases r3 with
      | cons h2 r3 =>
        cases r3
        have q : (if (keyT d1).isSome then (pure (Opd.new (.dic [(d1, d2)])) : M Opd) else lift none) e3 = .ok o e' := q
        split at q
        · rename_i hk
          obtain ⟨p6, p6'⟩ := pure_ok q
          subst p6 p6'
          obtain ⟨f1, f2, f3⟩ := S3.foreign hp0 hF hn
          obtain ⟨c, hc⟩ := Option.isSome_iff_exists.mp hk
          refine ⟨F3, d1, c, R3.fz, h1, hc, f1, fun b u eb ru => ?_⟩
          subst eb
          have S4 : Stp σ F H e σ F3 H2 e3 := Stp.unmask (p := p) (o := .dK []) (by rw [upd_of f1]; exact S3) hp ⟨_, f1⟩ hn
          have R4 := R3.foreign (o := .ext (DicX X.kw.w p [(c, b, u)])) f2 f3
          have S5 : Stp σ F H e σ F3 (upd H2 p (.ext (DicX X.kw.w p [(c, b, u)]))) e3 := by
            refine Stp.unmask (p := p) (o := .dK []) ?_ hp ⟨_, upd_same⟩ hn
            rw [upd_upd, upd_of f1]; exact S3
          refine w _ F3 _ R4 S5 ⟨p, rfl, f2, f3, ?_, ?_, [(c, b, u)], upd_same, .cons ⟨hc, h1, v2, ru, h2⟩ .nil⟩ (fun a ha => by cases ha; exact hp)
          · exact hsys
          · show 1 ≤ sizeLine
            unfold sizeLine; omega
        · obtain ⟨q, _⟩ := lift_ok q; cases q
end
end Ev
/-! more constructs: lists of ranges, turned rows, pairs, sorted the other way -/
namespace Ev
open PySem PySem.Spec PyProof.Rows L2
section
variable {X : Cx} {cf : Nat → List Slot → CR} {k : Nat} {a b c : Expr} {ma mb mc : ME} {pos : Pos} {F F' H H' H0 F0 : Hp} {σ σ0 : S2} {e e0 e' : En} {v : V} {d : D}
/-! ### list(range(..)), tuple(range(..)) -/
theorem rpAll_ints {K : KW} {f : Nat → Int} : ∀ n : List Nat, RpAll K F (n.map fun i => V.int (f i)) (n.map fun i => PyData.int (f i))
  | [] => .nil
  | i :: n => .cons (.int _) (rpAll_ints n)
theorem rng1_of {d : D} {l : List D} (h : rngD [d] = some l) : ∃ j : Int, d = .int j ∧ RgOk 0 j ∧ l = (List.range (j - 0).toNat).map fun (k : Nat) => PyData.int (0 + (k : Int)) := by
  cases d <;> first | (simp [rngD] at h; done) | skip
  rename_i j
  have hz := sizeLine_eq
  simp only [rngD] at h
  split at h
  · rename_i hh
    cases h
    refine ⟨j, rfl, ⟨by omega, by omega, hh.1, hh.2.1, by omega⟩, ?_⟩
    simp
  · cases h
theorem rng2_of {d d' : D} {l : List D} (h : rngD [d, d'] = some l) : ∃ i j : Int, d = .int i ∧ d' = .int j ∧ RgOk i j ∧ l = (List.range (j - i).toNat).map fun (k : Nat) => PyData.int (i + (k : Int)) := by
  cases d <;> first | (simp [rngD] at h; done) | skip
  cases d' <;> first | (simp [rngD] at h; done) | skip
  rename_i i j
  have hz := sizeLine_eq
  simp only [rngD] at h
  split at h
  · rename_i hh
    cases h
    exact ⟨i, j, rfl, rfl, ⟨hh.1.1, hh.1.2, hh.2.1.1, hh.2.1.2, by omega⟩, rfl⟩
  · cases h
/-- a new tuple of the numbers, or a new list of them -/
def rgN (H : Hp) (i j : Int) (Q : VK) : Bool → Prop
  | true => NT H (rgV i j) Q
  | false => ∀ q, H q = none → Q (.ref q) (upd H q (.lst (rgV i j)))
theorem rg_fin {K : KW} {i j : Int} {Q : VK} {tu : Bool} (R : RR K F H σ e) (S : Stp σ0 F0 H0 e0 σ F H e)
    (w : ∀ v F' H', RR K F' H' σ e → Stp σ0 F0 H0 e0 σ F' H' e → OR K F' H' σ e v (RV.op (if tu then .val (.tuple ((List.range (j - i).toNat).map fun (k : Nat) => PyData.int (i + (k : Int)))) else .new (.lst ((List.range (j - i).toNat).map fun (k : Nat) => PyData.int (i + (k : Int)))))) → FrO H0 v (RV.op (if tu then .val (.tuple ((List.range (j - i).toNat).map fun (k : Nat) => PyData.int (i + (k : Int)))) else .new (.lst ((List.range (j - i).toNat).map fun (k : Nat) => PyData.int (i + (k : Int)))))) → Q v H') :
    rgN H i j Q tu := by
  cases tu with
  | true => exact fun q ob hd hq => fin_rv R S w _ _ _ (.tup R.fz hq) (.tup (.inl ⟨ob, upd_same, hd⟩) (rpAll_ints _)) trivial
  | false => exact fun q hq => fin_rv R S w _ _ _ (.lst R.fz hq) ⟨q, rfl, R.fz.none_ hq, _, upd_same, rpAll_ints _⟩ (fun a e => by cases e; exact hq)
theorem rngL_op {tu : Bool} {l : List D} : (if tu then Opd.val (.tuple l) else .new (.lst l)) = RV.op (if tu then .val (.tuple l) else .new (.lst l)) := by cases tu <;> rfl
theorem rngL_imp {tu : Bool} {T : (L2.St → Hp → (Int → Int → Hp → Prop) → Prop) → TE} (hT : ∀ te σ H Q, (te σ H fun a b H1 => RgOk a b ∧ rgN H1 a b Q tu) → T te σ H Q) :
    ∀ σ H Q, tE X.kw (evE cf (.rngL tu ma)) σ H Q → T (tRg1 (tE X.kw (evE cf ma))) σ H Q := fun σ H Q ⟨F, e, o, e', R, q, w⟩ => by
  obtain ⟨x, e1, q1, q⟩ := bind_ok q
  obtain ⟨d, e3, q3, q⟩ := bind_ok q
  obtain ⟨p3, p3'⟩ := rdM_ok q3
  subst p3'
  obtain ⟨r, e5, q5, q⟩ := bind_ok q
  obtain ⟨p5, p5'⟩ := lift_ok q5
  subst p5'
  obtain ⟨p6, p6'⟩ := pure_ok q
  rw [rngL_op] at p6
  subst p6 p6'
  refine hT _ _ _ _ ⟨F, e, x, e1, R, q1, fun v1 F1 H1 R1 S1 O1 N1 => ?_⟩
  obtain ⟨j, rfl, hok, rfl⟩ := rng1_of p5
  have l := rd_lt R1 O1 p3
  obtain rfl := l.int
  exact ⟨j, rfl, hok, rg_fin R1 S1 w⟩
theorem rngL2_imp {tu : Bool} {T : (L2.St → Hp → (Int → Int → Hp → Prop) → Prop) → TE} (hT : ∀ te σ H Q, (te σ H fun a b H1 => RgOk a b ∧ rgN H1 a b Q tu) → T te σ H Q) :
    ∀ σ H Q, tE X.kw (evE cf (.rngL2 tu ma mb)) σ H Q → T (tRg2 (tE X.kw (evE cf ma)) (tE X.kw (evE cf mb))) σ H Q := fun σ H Q ⟨F, e, o, e', R, q, w⟩ => by
  obtain ⟨x, e1, q1, q⟩ := bind_ok q
  obtain ⟨y, e2, q2, q⟩ := bind_ok q
  obtain ⟨d, e3, q3, q⟩ := bind_ok q
  obtain ⟨p3, p3'⟩ := rdM_ok q3
  subst p3'
  obtain ⟨d', e4, q4, q⟩ := bind_ok q
  obtain ⟨p4, p4'⟩ := rdM_ok q4
  subst p4'
  obtain ⟨r, e5, q5, q⟩ := bind_ok q
  obtain ⟨p5, p5'⟩ := lift_ok q5
  subst p5'
  obtain ⟨p6, p6'⟩ := pure_ok q
  rw [rngL_op] at p6
  subst p6 p6'
  refine hT _ _ _ _ ⟨F, e, x, e1, R, q1, fun v1 F1 H1 R1 S1 O1 N1 => ⟨F1, e1, y, e2, R1, q2, fun v2 F2 H2 R2 S2 O2 N2 => ?_⟩⟩
  obtain ⟨i, j, rfl, rfl, hok, rfl⟩ := rng2_of p5
  obtain rfl := (rd_lt R2 (O1.step S2) p3).int
  obtain rfl := (rd_lt R2 O2 p4).int
  exact ⟨i, j, rfl, rfl, hok, rg_fin R2 (S1.trans S2) w⟩
def tTupRgU (te : L2.St → Hp → (Int → Int → Hp → Prop) → Prop) : TE := fun σ H Q => te σ H fun a b H1 => RgOk a b ∧ NT H1 (rgV a b) Q
theorem snd_listRg {p p2 pos2 : Pos} (hc : X.calm = true) (hg : Gl X "list") (hm : X.mg "list" = none) (hg2 : Gl X "range") (hm2 : X.mg "range" = none) (ha : PE X a (tE X.kw (evE cf ma))) (hs : starEach [a] X.env = (false, eval a X.env) :: starEach [] X.env) :
    PE X (.Call (.Name "list" p) [.Call (.Name "range" p2) [a] [] pos2] [] pos) (tE X.kw (evE cf (.rngL false ma))) :=
  (pe_listRg hc hg hm (prg_1 hg2 hm2 ha hs)).imp (rngL_imp (tu := false) (T := tLstRg) fun _ _ _ _ h => h)
theorem snd_tupRg {p p2 pos2 : Pos} (hc : X.calm = true) (hg : Gl X "tuple") (hm : X.mg "tuple" = none) (hg2 : Gl X "range") (hm2 : X.mg "range" = none) (ha : PE X a (tE X.kw (evE cf ma))) (hs : starEach [a] X.env = (false, eval a X.env) :: starEach [] X.env) :
    PE X (.Call (.Name "tuple" p) [.Call (.Name "range" p2) [a] [] pos2] [] pos) (tE X.kw (evE cf (.rngL true ma))) :=
  (pe_tupRgU hc hg hm (prg_1 hg2 hm2 ha hs) (by rfl)).imp (rngL_imp (tu := true) (T := tTupRgU) fun _ _ _ _ h => h)
theorem snd_listRg2 {p p2 pos2 : Pos} (hc : X.calm = true) (hg : Gl X "list") (hm : X.mg "list" = none) (hg2 : Gl X "range") (hm2 : X.mg "range" = none) (ha : PE X a (tE X.kw (evE cf ma))) (hb : PE X b (tE X.kw (evE cf mb))) (hs : starEach [a, b] X.env = (false, eval a X.env) :: starEach [b] X.env) (hs2 : starEach [b] X.env = (false, eval b X.env) :: starEach [] X.env)
    (hp : (backTo pos2 (starEach [b] X.env)).any (·.1) = false) :
    PE X (.Call (.Name "list" p) [.Call (.Name "range" p2) [a, b] [] pos2] [] pos) (tE X.kw (evE cf (.rngL2 false ma mb))) :=
  (pe_listRg hc hg hm (prg_2 hg2 hm2 ha hb hs hs2 hp)).imp (rngL2_imp (tu := false) (T := tLstRg) fun _ _ _ _ h => h)
theorem snd_tupRg2 {p p2 pos2 : Pos} (hc : X.calm = true) (hg : Gl X "tuple") (hm : X.mg "tuple" = none) (hg2 : Gl X "range") (hm2 : X.mg "range" = none) (ha : PE X a (tE X.kw (evE cf ma))) (hb : PE X b (tE X.kw (evE cf mb))) (hs : starEach [a, b] X.env = (false, eval a X.env) :: starEach [b] X.env) (hs2 : starEach [b] X.env = (false, eval b X.env) :: starEach [] X.env)
    (hp : (backTo pos2 (starEach [b] X.env)).any (·.1) = false) :
    PE X (.Call (.Name "tuple" p) [.Call (.Name "range" p2) [a, b] [] pos2] [] pos) (tE X.kw (evE cf (.rngL2 true ma mb))) :=
  (pe_tupRgU hc hg hm (prg_2 hg2 hm2 ha hb hs hs2 hp) (by rfl)).imp (rngL2_imp (tu := true) (T := tTupRgU) fun _ _ _ _ h => h)
end
/-! ### o[::-1] -/
section
variable {prog : Program} {w : World} {A : Around} {E : Value → Shared → Prop} {s : Shared}
theorem adjust_rev (n : Nat) : Builtin.Slice.sliceAdjust none none (-1) (n : Int) = ((n : Int) - 1, -1) := by
  have h1 : ((-1 : Int) < 0) := by omega
  unfold Builtin.Slice.sliceAdjust
  simp [h1]
theorem places_rev (n : Nat) : Builtin.Slice.slicePlaces ((n : Int) - 1) (-1) (-1) = n := by
  unfold Builtin.Slice.slicePlaces
  have h1 : ¬ ((-1 : Int) > 0) := by omega
  simp only [h1, if_false]
  split
  · rw [show ((n : Int) - 1 - -1 - 1) = (n : Int) - 1 by omega, show (- (-1 : Int)) = 1 by omega, Int.ediv_one]; omega
  · omega
theorem sliceApplied_rev {sl : Addr} {vs : Value} {n : Nat} {Q : Int × Int × Nat → Shared → Prop} (hs : s.heap.IsSliceOf sl .none .none vs) (ps : IsPart vs (some (-1)))
    (h : Q ((n : Int) - 1, -1, n) s) : wpAny (model prog w) A (Builtin.Slice.sliceApplied (.ref sl) (pure (n : Int))) Q E s := by
  obtain ⟨os, hos, hcs, hds⟩ := id hs
  unfold Builtin.Slice.sliceApplied Builtin.Slice.sliceFields
  refine wpAny_bind (wpAny_bind (wpAny_field hos hds (x := .none) rfl (wpAny_bind (wpAny_field hos hds (x := .none) rfl (wpAny_bind (wpAny_field hos hds (x := vs) rfl (wpAny_pure ?_)))))))
  refine wpAny_bind (HT.slicePart_ ps ?_)
  show wpAny _ _ (if ((-1 : Int) == 0) = true then _ else _) _ _ s
  rw [if_neg (by decide)]
  refine wpAny_bind (HT.slicePart_ .none (wpAny_bind (HT.slicePart_ .none (wpAny_bind (wpAny_pure ?_)))))
  show wpAny _ _ (match Builtin.Slice.sliceAdjust none none (-1) (n : Int) with | (lo, hi) => pure (lo, (-1 : Int), Builtin.Slice.slicePlaces lo hi (-1))) _ _ s
  rw [adjust_rev n]
  show wpAny _ _ (pure (((n : Int) - 1), (-1 : Int), Builtin.Slice.slicePlaces ((n : Int) - 1) (-1) (-1))) _ _ s
  rw [places_rev]
  exact wpAny_pure h
theorem pick_rev (xs : Array Value) : ((List.range xs.size).filterMap fun (m : Nat) => xs[(((xs.size : Int) - 1) + (m : Int) * (-1)).toNat]?).toArray = xs.toList.reverse.toArray := by
  congr 1
  have e1 : xs.toList.reverse = (List.range xs.size).filterMap fun (m : Nat) => xs[xs.size - 1 - m]? := by
    apply List.ext_getElem?
    intro i
    have hm : ∀ l : List Nat, (∀ m ∈ l, m < xs.size) → l.filterMap (fun (m : Nat) => xs[xs.size - 1 - m]?) = l.map fun m => xs.getD (xs.size - 1 - m) .none := by
      intro l
      induction l with
      | nil => intro _; rfl
      | cons m l ih =>
        intro h
        have h0 : m < xs.size := h m (by simp)
        have h1 : xs.size - 1 - m < xs.size := by omega
        rw [List.filterMap_cons, List.map_cons, ih fun m hm => h m (by simp [hm])]
        simp [Array.getD, h1]
    rw [hm _ fun m hm => by simpa using hm]
    rw [List.getElem?_map]
    by_cases hi : i < xs.size
    · rw [List.getElem?_reverse (by simpa using hi), List.getElem?_range hi]
      have h1 : xs.size - 1 - i < xs.size := by omega
      simp [Array.getD, h1]
    · rw [List.getElem?_eq_none (by simp; omega), List.getElem?_eq_none (by simp; omega)]; rfl
  rw [e1]
  have cg : ∀ l : List Nat, (∀ m ∈ l, m < xs.size) → l.filterMap (fun (m : Nat) => xs[(((xs.size : Int) - 1) + (m : Int) * (-1)).toNat]?) = l.filterMap fun (m : Nat) => xs[xs.size - 1 - m]? := by
    intro l
    induction l with
    | nil => intro _; rfl
    | cons m l ih =>
      intro h
      have h0 : m < xs.size := h m (by simp)
      have h1 : (((xs.size : Int) - 1) + (m : Int) * (-1)).toNat = xs.size - 1 - m := by omega
      rw [List.filterMap_cons, List.filterMap_cons, ih fun m hm => h m (by simp [hm]), h1]
  exact cg _ fun m hm => by simpa using hm
theorem getItem_tuple_rev {t sl : Addr} {items : Array Value} {vs : Value} {Q : Value → Shared → Prop} (ht : IsTup s.heap t items) (hs : s.heap.IsSliceOf sl .none .none vs) (ps : IsPart vs (some (-1)))
    (h : Q (.ref s.heap.objs.size) { s with heap := s.heap.push { cls := .type "tuple", data := .seq items.toList.reverse.toArray } })
    (hsz : items.size ≤ sizeLine) : wpAny (model prog w) A (getItem (.ref t) (.ref sl)) Q E s := by
  have htake : sizeOk (.seq items.toList.reverse.toArray) := by
    show items.toList.reverse.toArray.size ≤ sizeLine
    rw [List.size_toArray, List.length_reverse, Array.length_toList]
    exact hsz
  obtain ⟨os, hos, hcs, hds⟩ := id hs
  have hTs : s.TypeIs (.ref sl) "slice" := ⟨os, hos, hcs⟩
  unfold getItem
  try with_reducible refine wpAny_holding ?_
  first | refine wpAny_bind (wpAny_pure ?_) | skip
  refine wpAny_bind (wpAny_sequenceKey ht.typeIs (by decide) ?_)
  refine wpAny_bind (wpAny_callSpecial?_slot (name := Str.ofString "__getitem__") ht.typeIs PyProof.Rows.slot_tuple_getitem
    (wpAny_call_entry PyProof.Rows.slot_tuple_getitem ht.typeIs entry_tuple_getitem ?_ (args_tuple_getitem _ _)))
  show wpAny _ _ (Builtin.Tuple.tupleItemsOf (.ref t) >>= _) _ _ s
  refine wpAny_bind (tupleItemsOf_ ht ?_)
  refine wpAny_bind (wpAny_typeOf hTs ?_)
  rw [if_pos (by decide)]
  refine wpAny_bind (sliceApplied_rev hs ps ?_)
  have hno : ¬ ((((items.size : Int) - 1) == 0 && (-1 : Int) == 1 && items.size == items.size) = true) := by
    intro q
    rw [Bool.and_eq_true, Bool.and_eq_true] at q
    exact absurd q.1.2 (by decide)
  show wpAny _ _ (if (((items.size : Int) - 1) == 0 && (-1 : Int) == 1 && items.size == items.size) = true then _ else _) _ _ s
  rw [if_neg hno, pick_rev]
  first
    | exact wpAny_bind (m := Builtin.Tuple.tupleExact _) (wpAny_newObj_type (wpAny_pure ⟨_, rfl, wpAny_pure h⟩) htake)
    | exact wpAny_bind (m := Builtin.Tuple.tupleExact _) (wpAny_newObj_type (wpAny_bind (wpAny_pure (wpAny_pure ⟨_, rfl, wpAny_pure h⟩))) htake)
    | exact wpAny_bind (wpAny_bind (m := Builtin.Tuple.tupleExact _) (wpAny_newObj_type (wpAny_pure (wpAny_pure ⟨_, rfl, wpAny_pure h⟩)) htake))
    | exact wpAny_bind (wpAny_bind (m := Builtin.Tuple.tupleExact _) (wpAny_newObj_type (wpAny_pure ⟨_, rfl, wpAny_pure h⟩) htake))
end
section
variable {X : Cx} {cf : Nat → List Slot → CR} {k : Nat} {a b c : Expr} {ma mb mc : ME} {pos : Pos} {F F' H H' H0 F0 : Hp} {σ σ0 : S2} {e e0 e' : En} {v : V} {d : D}
def tRevA (K : KW) (te : TE) : TE := fun σ H Q => te σ H fun x H1 => (∃ a xs, x = .ref a ∧ SqL K H1 a xs ∧ ∀ p, H1 p = none → Q (.ref p) (upd H1 p (.lst xs.reverse))) ∨ (∃ a xs, x = .ref a ∧ SqT K H1 a xs ∧ NT H1 xs.reverse Q)
theorem pe_revA {e : Expr} {te : TE} {k : Nat} {p1 p2 p3 pos : Pos} (he : PE X e te) : PE X (.Subscript e (.Slice none none (some (.UnaryOp .USub (.Constant (.int 1) k p1) p2)) p3) pos) (tRevA X.kw te) := by
  refine ⟨fun pins s σ H Q I h => ?_⟩
  refine Subscript_ (thn (he.run pins s σ H _ I h) fun v s1 ⟨x, H1, I1, r1, q1⟩ => ?_)
  have hst : PO X (some (.UnaryOp .USub (.Constant (.int 1) k p1) p2)) (tPart (tUn (rU fun i => .int (-i)) (tC (.int 1)))) := po_some (pe_un un_neg pe_int)
  refine wpAny_Slice (thn (po_none.run pins s1 σ H1 (fun o H2 => o = none ∧ H2 = H1) I1 ⟨rfl, rfl⟩) fun vl s2 ⟨l, H2, I2, pl, el, e2⟩ => ?_)
  subst el e2
  refine thn (po_none.run pins s2 σ H2 (fun o H3 => o = none ∧ H3 = H2) I2 ⟨rfl, rfl⟩) fun vu s3 ⟨u, H3, I3, pu, eu, e3⟩ => ?_
  subst eu e3
  refine thn (hst.run pins s3 σ H3 (fun o H4 => o = some (-1) ∧ H4 = H3) I3 ⟨1, rfl, -1, rfl, rfl, rfl⟩) fun vs s4 ⟨o, H4, I4, ps, eo, e4⟩ => ?_
  subst eo e4
  have I5 : Inv X pins σ H4 { s4 with heap := s4.heap.push { cls := .type "slice", data := .fields #[vl, vu, vs] } } := I4.kept (t' := s4.toks) fun b ob q => Heap.get?_push_of_some _ q
  rcases q1 with ⟨a, xs, ex, hx, q⟩ | ⟨a, xs, ex, hx, q⟩
  · subst ex
    cases r1
    obtain ⟨its, r, ht, hz⟩ := I5.list hx
    have hlen := r.length
    show wpAny (model X.prog X.w) X.A (subscriptTail e (.Slice none none (some (.UnaryOp .USub (.Constant (.int 1) k p1) p2)) p3) (.ref a) (.ref s4.heap.objs.size)) (EP X pins σ Q) X.xe { s4 with heap := s4.heap.push { cls := .type "slice", data := .fields #[vl, vu, vs] } }
    refine tail_any (ops := [.ref a, .ref s4.heap.objs.size]) ht.isList.typeIs (PySem.slot_list_getitem.lookup) ?_ (by with_unfolding_all rfl)
    refine wpAny_getItem_list_slice ht.isList (Heap.IsSliceOf.new _ vl vu vs) pl pu ps (by decide) ?_ (by rw [List.size_toArray]; omega)
    rw [PySem.W.krv_pick]
    refine ⟨.ref _, _, I5.laid (t' := s4.toks) (o := .lst xs.reverse) (fun b ob q => Heap.get?_push_of_some _ q) (Nat.le_refl _) ?_, rfl, q _ (I5.hok.fresh (Nat.le_refl _))⟩
    exact ⟨by rw [List.length_reverse]; exact hz, _, 0, r.reverse, Heap.get?_push_size _ rfl⟩
  · subst ex
    cases r1
    cases pl
    cases pu
    obtain ⟨its, r, ht, hz⟩ := I5.tuple hx
    have hlen := r.length
    show wpAny (model X.prog X.w) X.A (subscriptTail e (.Slice none none (some (.UnaryOp .USub (.Constant (.int 1) k p1) p2)) p3) (.ref a) (.ref s4.heap.objs.size)) (EP X pins σ Q) X.xe { s4 with heap := s4.heap.push { cls := .type "slice", data := .fields #[.none, .none, vs] } }
    refine tail_any (ops := [.ref a, .ref s4.heap.objs.size]) ht.typeIs (PyProof.Rows.slot_tuple_getitem.lookup) ?_ (by with_unfolding_all rfl)
    refine getItem_tuple_rev ht (Heap.IsSliceOf.new _ .none .none vs) ps ?_ (by rw [List.size_toArray]; omega)
    exact ep_tup I5 (by rw [List.length_reverse]; exact hz) r.reverse q
theorem snd_rev {kk : Nat} {p1 p2 p3 : Pos} (ha : PE X a (tE X.kw (evE cf ma))) : PE X (.Subscript a (.Slice none none (some (.UnaryOp .USub (.Constant (.int 1) kk p1) p2)) p3) pos) (tE X.kw (evE cf (.rev ma))) :=
  (pe_revA ha).imp fun σ H Q ⟨F, e, o, e', R, q, w⟩ => by
    obtain ⟨x, e1, q1, q⟩ := bind_ok q
    obtain ⟨d, e3, q3, q⟩ := bind_ok q
    obtain ⟨p3, p3'⟩ := rdM_ok q3
    subst p3'
    obtain ⟨r, e5, q5, q⟩ := bind_ok q
    obtain ⟨p5, p5'⟩ := lift_ok q5
    subst p5'
    obtain ⟨p6, p6'⟩ := pure_ok q
    subst p6 p6'
    refine ⟨F, e, x, e1, R, q1, fun v1 F1 H1 R1 S1 O1 N1 => ?_⟩
    have l := rd_lt R1 O1 p3
    cases d with
    | list xs =>
      cases p5
      obtain ⟨a, vs, rfl, ha, ra⟩ := l.list R1.fz
      exact .inl ⟨a, vs, rfl, .of ha, fun p hp => fin_rv R1 S1 w _ _ _ (.lst R1.fz hp) ⟨p, rfl, R1.fz.none_ hp, _, upd_same, ra.reverse⟩ (fun a e => by cases e; exact hp)⟩
    | tuple xs =>
      cases p5
      obtain ⟨a, vs, rfl, ha, ra⟩ := l.tup R1.fz
      exact .inr ⟨a, vs, rfl, R1.fz.seqT ha, fun p ob hd hp => fin_rv R1 S1 w _ _ _ (.tup R1.fz hp) (.tup (.inl ⟨ob, upd_same, hd⟩) (RpAll.mono (same_upd (R1.fz.none_ hp)) _ _ ra.reverse)) trivial⟩
    | none => cases p5
    | bool _ => cases p5
    | int _ => cases p5
    | str _ => cases p5
    | dict _ => cases p5
/-! ### zip, reversed -/
def Small (K : KW) (H : Hp) : Prop := (∀ a xs, SqL K H a xs → xs.length ≤ sizeLine) ∧ ∀ a xs, SqT K H a xs → xs.length ≤ sizeLine
theorem small_of {pins : List (Addr × Obj)} {s : Shared} (I : Inv X pins σ H s) : Small X.kw H := ⟨fun a xs h => by obtain ⟨_, _, _, z⟩ := I.list h; exact z, fun a xs h => by obtain ⟨_, _, _, z⟩ := I.tuple h; exact z⟩
theorem pa_small {es : List Expr} {t : TA} (h : PA X es t) : PA X es fun σ H Q => t σ H fun vs H1 => Small X.kw H1 → Q vs H1 :=
  ⟨fun pos pins s σ H Q I q => thn (h.run pos pins s σ H _ I q) fun us s1 ⟨vs, H1, I1, r1, q1⟩ => ⟨vs, H1, I1, r1, q1 (small_of I1)⟩⟩
theorem pe_small {e : Expr} {t : TE} (h : PE X e t) : PE X e fun σ H Q => t σ H fun v H1 => Small X.kw H1 → Q v H1 :=
  ⟨fun pins s σ H Q I q => thn (h.run pins s σ H _ I q) fun us s1 ⟨vs, H1, I1, r1, q1⟩ => ⟨vs, H1, I1, r1, q1 (small_of I1)⟩⟩
theorem zip_at {α β : Type} {xs : List α} {ys : List β} {i : Nat} {p : α × β} (h : (xs.zip ys)[i]? = some p) : xs[i]? = some p.1 ∧ ys[i]? = some p.2 := by
  rw [List.getElem?_zip_eq_some] at h; exact h
theorem zip_walkL {K : KW} {a b : Addr} {vs ws : List V} {xs ys : List D} (ha : F a = some (.lst vs)) (hb : F b = some (.lst ws)) (ra : RpAll K F vs xs) (rb : RpAll K F ws ys) : Walk K F (ItzU (SqL K) a b) ((xs.zip ys).map fun p => .tuple [p.1, p.2]) := fun i F3 H3 s1 s2 => by
  have qa : SqL K H3 a vs := .of (s2 _ _ (s1 _ _ ha))
  have qb : SqL K H3 b ws := .of (s2 _ _ (s1 _ _ hb))
  refine ⟨fun d hd => ?_, fun hl => ?_⟩
  · rw [List.getElem?_map] at hd
    cases hz : (xs.zip ys)[i]? with
    | none => rw [hz] at hd; cases hd
    | some p =>
      rw [hz] at hd
      have hd : PyData.tuple [p.1, p.2] = d := Option.some.inj hd
      subst hd
      obtain ⟨h1, h2⟩ := zip_at hz
      obtain ⟨v1, e1, r1⟩ := ra.get h1
      obtain ⟨v2, e2, r2⟩ := rb.get h2
      refine ⟨⟨vs, ws, v1, v2, qa, qb, e1, e2⟩, fun x H' ⟨T, ob, x', y', hx, hd', hT, hH', hxx, hyy⟩ => ?_⟩
      have z1 := hxx _ qa
      have z2 := hyy _ qb
      rw [e1] at z1; cases z1
      rw [e2] at z2; cases z2
      subst hx hH'
      exact ⟨_, .tup s2 hT, .tup (.inl ⟨ob, upd_same, hd'⟩) (RpAll.mono (same_upd (s2.none_ hT)) _ _ (RpAll.mono s1 _ _ (.cons r1 (.cons r2 .nil))))⟩
  · refine ⟨vs, ws, qa, qb, ?_⟩
    rw [List.length_map, List.length_zip] at hl
    rw [ra.length, rb.length]; omega
theorem zip_walkT {K : KW} {a b : Addr} {vs ws : List V} {xs ys : List D} (ha : SqU K F a vs) (hb : SqU K F b ws) (ra : RpAll K F vs xs) (rb : RpAll K F ws ys) : Walk K F (ItzU (SqT K) a b) ((xs.zip ys).map fun p => .tuple [p.1, p.2]) := fun i F3 H3 s1 s2 => by
  have qa : SqT K H3 a vs := s2.seqT (s1.seqU ha)
  have qb : SqT K H3 b ws := s2.seqT (s1.seqU hb)
  refine ⟨fun d hd => ?_, fun hl => ?_⟩
  · rw [List.getElem?_map] at hd
    cases hz : (xs.zip ys)[i]? with
    | none => rw [hz] at hd; cases hd
    | some p =>
      rw [hz] at hd
      have hd : PyData.tuple [p.1, p.2] = d := Option.some.inj hd
      subst hd
      obtain ⟨h1, h2⟩ := zip_at hz
      obtain ⟨v1, e1, r1⟩ := ra.get h1
      obtain ⟨v2, e2, r2⟩ := rb.get h2
      refine ⟨⟨vs, ws, v1, v2, qa, qb, e1, e2⟩, fun x H' ⟨T, ob, x', y', hx, hd', hT, hH', hxx, hyy⟩ => ?_⟩
      have z1 := hxx _ qa
      have z2 := hyy _ qb
      rw [e1] at z1; cases z1
      rw [e2] at z2; cases z2
      subst hx hH'
      exact ⟨_, .tup s2 hT, .tup (.inl ⟨ob, upd_same, hd'⟩) (RpAll.mono (same_upd (s2.none_ hT)) _ _ (RpAll.mono s1 _ _ (.cons r1 (.cons r2 .nil))))⟩
  · refine ⟨vs, ws, qa, qb, ?_⟩
    rw [List.length_map, List.length_zip] at hl
    rw [ra.length, rb.length]; omega
theorem sni_zip {p tpos : Pos} {elts : List Expr} {kk : Nat} {ms : MEs} (hg : Gl X "zip") (hm : X.mg "zip" = none) (ha : PA X [a, b] (tA X.kw (evEs cf ms)))
    (hs : starEach [a, b] X.env = (false, eval a X.env) :: starEach [b] X.env) (hpl : (backTo pos (starEach [b] X.env)).any (·.1) = false) : PI X (.Tuple elts kk tpos) (.Call (.Name "zip" p) [a, b] [] pos) (tI X.kw (evI cf (.zip ms))) :=
  (pi_zipU hg hm (pa_small ha) hs hpl).imp fun σ H Rq ⟨F, e, ds, e', R, q, w⟩ => by
    obtain ⟨os, e1, q1, q⟩ := bind_ok q
    obtain ⟨dd, e2, q2, q⟩ := bind_ok q
    obtain ⟨p3, p3'⟩ := lift_ok q
    subst p3'
    refine ⟨F, e, os, e1, R, q1, fun vs F1 H1 R1 S1 O1 sm => ?_⟩
    obtain ⟨F2, R2, S2, r2, m2⟩ := escs_ok R1 S1 O1 q2
    unfold zipDs at p3
    split at p3
    · rename_i d1 d2
      obtain ⟨x, y, rfl, rx, ry⟩ := r2.two
      unfold zipD at p3
      split at p3
      · rename_i xs ys
        cases p3
        cases rx with
        | lst hx rx =>
        cases ry with
        | lst hy ry =>
          have q1 : SqL X.kw H1 _ _ := .of (R2.fz _ _ hx)
          have q2 : SqL X.kw H1 _ _ := .of (R2.fz _ _ hy)
          refine ⟨_, _, _, _, rfl, .inl ⟨q1, q2, w _ F2 H1 R2 S2 ?_ (zip_walkL hx hy rx ry)⟩⟩
          have := sm.1 _ _ q1
          have l1 := rx.length
          rw [List.length_map, List.length_zip]; omega
      · rename_i xs ys
        cases p3
        cases rx with
        | tup hx rx =>
        cases ry with
        | tup hy ry =>
          have q1 : SqT X.kw H1 _ _ := R2.fz.seqT hx
          have q2 : SqT X.kw H1 _ _ := R2.fz.seqT hy
          refine ⟨_, _, _, _, rfl, .inr ⟨q1, q2, w _ F2 H1 R2 S2 ?_ (zip_walkT hx hy rx ry)⟩⟩
          have := sm.2 _ _ q1
          have l1 := rx.length
          rw [List.length_map, List.length_zip]; omega
      · cases p3
    · cases p3
theorem rev_at {α : Type} {xs : List α} {i : Nat} {d : α} (h : xs.reverse[i]? = some d) : i < xs.length ∧ xs[xs.length - 1 - i]? = some d := by
  have hi : i < xs.length := by
    have := (List.getElem?_eq_some_iff.mp h).1
    simpa using this
  rw [List.getElem?_reverse hi] at h
  exact ⟨hi, h⟩
theorem sni_revd {tg l : Expr} {m : ME} {p : Pos} (hg : Gl X "reversed") (hm : X.mg "reversed" = none) (h : PE X l (tE X.kw (evE cf m))) (hs : starEach [l] X.env = (false, eval l X.env) :: starEach [] X.env) : PI X tg (.Call (.Name "reversed" p) [l] [] pos) (tI X.kw (evI cf (.revd m))) :=
  (RT.pi_revA hg hm (pe_small h) hs).imp fun σ H Rq ⟨F, e, ds, e', R, q, w⟩ => by
    obtain ⟨o, e1, q1, q⟩ := bind_ok q
    obtain ⟨d, e2, q2, q⟩ := bind_ok q
    obtain ⟨p3, p3'⟩ := lift_ok q
    subst p3'
    refine ⟨F, e, o, e1, R, q1, fun v F1 H1 R1 S1 O1 N1 sm => ?_⟩
    obtain ⟨F2, R2, S2, r2, m2, _⟩ := esc_ok R1 S1 O1 N1 q2
    cases d with
    | list xs =>
      cases p3
      cases r2 with
      | lst ha ra =>
        have qa : SqL X.kw H1 _ _ := .of (R2.fz _ _ ha)
        have hl := ra.length
        refine ⟨_, _, rfl, .inl ⟨qa, w _ F2 H1 R2 S2 (by have := sm.1 _ _ qa; rw [List.length_reverse]; omega) fun i F3 H3 s1 s2 => ⟨fun d hd => ?_, fun hl => ?_⟩⟩⟩
        · obtain ⟨hi, hd⟩ := rev_at hd
          obtain ⟨v, e1, e2⟩ := ra.get hd
          have qb : SqL X.kw H3 _ _ := .of (s2 _ _ (s1 _ _ ha))
          refine ⟨⟨by omega, _, v, qb, by rw [hl]; exact e1⟩, fun x H' ⟨y1, y2⟩ => ?_⟩
          subst y1
          have := y2 _ qb
          rw [hl, e1] at this; cases this
          exact ⟨F3, .refl s2, Rp.mono s1 _ _ e2⟩
        · rw [List.length_reverse] at hl
          show _ ≤ i
          omega
    | tuple xs =>
      cases p3
      cases r2 with
      | tup ha ra =>
        have qa : SqT X.kw H1 _ _ := R2.fz.seqT ha
        have hl := ra.length
        refine ⟨_, _, rfl, .inr ⟨qa, w _ F2 H1 R2 S2 (by have := sm.2 _ _ qa; rw [List.length_reverse]; omega) fun i F3 H3 s1 s2 => ⟨fun d hd => ?_, fun hl => ?_⟩⟩⟩
        · obtain ⟨hi, hd⟩ := rev_at hd
          obtain ⟨v, e1, e2⟩ := ra.get hd
          have qb : SqT X.kw H3 _ _ := s2.seqT (s1.seqU ha)
          refine ⟨⟨by omega, _, v, qb, by rw [hl]; exact e1⟩, fun x H' ⟨y1, y2⟩ => ?_⟩
          subst y1
          have := y2 _ qb
          rw [hl, e1] at this; cases this
          exact ⟨F3, .refl s2, Rp.mono s1 _ _ e2⟩
        · rw [List.length_reverse] at hl
          show _ ≤ i
          omega
    | none => cases p3
    | bool _ => cases p3
    | int _ => cases p3
    | str _ => cases p3
    | dict _ => cases p3
end
/-! ### sorted(xs, reverse=True) -/
section
variable {prog : Program} {w : World} {A : Around} {E : Value → Shared → Prop} {s : Shared}
theorem sorted_seqR {l : Addr} {o : Obj} {T : String} {n : Nat} {us : List Value} {ds : List D} {R : Value → D → Prop} {Q : Value → Shared → Prop} (hT : T = "list" ∨ T = "tuple") (ho : s.heap.get? l = some o) (hc : o.cls = .type T) (hd : o.data = .seq us.toArray n)
    (e : PySem.W.EachIs R us ds) (er : PySem.W.EachIs (fun v d => ∃ as, Reads s.heap v d as) us ds) (hal : PySem.W.AllAlike ds) (hk : PySem.W.Sortable ds) (hL : us.length ≤ sizeLine) (hu : ∀ d, d ∈ ds → A.units + 2 + d.depth < cLine)
    (h : ∀ (h1 h' : Heap) (out : List Value) (n : Nat), (∀ b o, s.heap.get? b = some o → h1.get? b = some o) → (∀ b o, h1.get? b = some o → h'.get? b = some o) → h'.get? h1.objs.size = some (seqObj "list" out.toArray n) → PySem.W.EachIs R out (ds.mergeSort geD) → Q (.ref h1.objs.size) { s with heap := h' }) :
    wpAny (model prog w) A (call (.builtin "sorted") [.ref l] [(Str.ofString "reverse", .bool true)]) Q E s := by
  refine call_function_entry_kw kind_sorted plain_sorted entry_sorted (args_sorted_rev _ _) ?_
  unfold Builtin.«sorted»
  refine wpAny_bind (m := checkCount "sorted" 1 1 _) (wpAny_pure ?_)
  refine wpAny_bind (wpAny_collect_seq l hT ho hc hd (fun h1 k1 => ?_) (by rw [List.size_toArray]; exact hL))
  have eT : us.toArray.toList = us := by simp
  rw [eT]
  refine wpAny_bind (wpAny_newList ?_ hL)
  have hoL : (h1.push (seqObj "list" us.toArray 0)).get? h1.objs.size = some (seqObj "list" us.toArray 0) := Heap.get?_push_size _ rfl
  have keep : ∀ b o, s.heap.get? b = some o → b ≠ h1.objs.size ∧ (h1.push (seqObj "list" us.toArray 0)).get? b = some o := fun b o q => by
    have hlt : b < h1.objs.size := Heap.lt_size (k1 b o q)
    exact ⟨Nat.ne_of_lt hlt, Heap.get?_push_of_some _ (k1 b o q)⟩
  have er' : PySem.W.EachIs (fun v d => ∃ as, Reads (PySem.W.sortingHeap (h1.push (seqObj "list" us.toArray 0)) h1.objs.size us) v d as) us ds := er.mono fun _ _ ⟨as, r⟩ => ⟨as, PyProof.Rows.Reads.keeps (fun b o q => PySem.W.sortingHeap_old (keep b o q).1 (keep b o q).2) r⟩
  refine wpAny_bind (wpAny_holding (wpAny_call_entry_kw slot_list_sort ⟨_, hoL, rfl⟩ entry_list_sort
    (PySem.W.list_sort_rev_vals (s := { s with heap := h1.push (seqObj "list" us.toArray 0) }) hoL (PySem.W.SortsAt.data (s := { s with heap := PySem.W.sortingHeap (h1.push (seqObj "list" us.toArray 0)) h1.objs.size us }) er' hal hk hu) hL ⟨_, rfl, ?_⟩) (args_list_sort_rev _ _)))
  refine wpAny_pure ⟨_, rfl, ?_⟩
  have hp : h1.objs.size < (h1.push (seqObj "list" us.toArray 0)).objs.size := by rw [size_push']; exact Nat.lt_succ_self _
  obtain ⟨n', hn'⟩ : ∃ n', (sortedHeap (h1.push (seqObj "list" us.toArray 0)) h1.objs.size us (PySem.W.sortVals (PySem.W.dataKind (PySem.W.sortingHeap (h1.push (seqObj "list" us.toArray 0)) h1.objs.size us) ds) true us us).toArray).get? h1.objs.size = some (seqObj "list" (PySem.W.sortVals (PySem.W.dataKind (PySem.W.sortingHeap (h1.push (seqObj "list" us.toArray 0)) h1.objs.size us) ds) true us us).toArray n') := by
    obtain ⟨e1, ho1⟩ : ∃ e1, ((h1.push (seqObj "list" us.toArray 0)).update h1.objs.size (Obj.mapSeq fun _ => #[])).get? h1.objs.size = some (seqObj "list" #[] e1) := ⟨_, get?_update_seq hoL (fun _ => #[])⟩
    exact ⟨_, get?_update_seq (Heap.get?_push_of_some _ (Heap.get?_push_of_some _ ho1)) (fun _ => _)⟩
  refine h h1 _ _ n' k1 (fun b o q => ?_) hn' ?_
  · have hlt : b < h1.objs.size := Heap.lt_size q
    have q2 : (h1.push (seqObj "list" us.toArray 0)).get? b = some o := Heap.get?_push_of_some _ q
    rw [sortedHeap_old (Nat.ne_of_lt hlt) (Heap.lt_size q2)]
    exact q2
  · have := PySem.W.sortVals_data (β := D) (enc := fun d => d) (R := R) true e (by simpa using er') (by simpa using hal)
    rw [List.map_id'] at this
    exact this
end
section
variable {X : Cx} {cf : Nat → List Slot → CR} {k : Nat} {a b c : Expr} {ma mb mc : ME} {pos : Pos} {F F' H H' H0 F0 : Hp} {σ σ0 : S2} {e e0 e' : En} {v : V} {d : D}
def rBiK (K : KW) (b : Bi) : List V → List V → Hp → VK → Prop := fun vs zs H Q => zs = [.bl true] ∧ rBi K b vs H Q
theorem bir_sortedRev (hr : Room k X.A) : CallRK X (.builtin "sorted") [Str.ofString "reverse"] (rBiK X.kw .sortedRev) := by
  intro pins s σ H vs zs us ws Q I r rz h
  obtain ⟨hz, F, ds, rv, fz, hv, e, q⟩ := h
  subst hz
  obtain ⟨w1, rfl, e1⟩ := vals1 rz
  obtain rfl : w1 = Value.bool true := e1
  have go : ∀ {T : String} {a : Addr} {vs : List V} {us : List Value} {o : Obj} {n : Nat} {xs : List D}, T = "list" ∨ T = "tuple" → Vals vs us → s.heap.get? a = some o → o.cls = .type T → o.data = .seq us.toArray n → us.length ≤ sizeLine → RpAll X.kw F vs xs → sortOk xs = true →
      (∀ v F' H', Ext F H F' H' → RvR X.kw F' H' v (.new (.lst (xs.mergeSort geD))) → Frs H v (.new (.lst (xs.mergeSort geD))) → Q v H') → wpAny (model X.prog X.w) X.A (call (.builtin "sorted") [.ref a] [(Str.ofString "reverse", .bool true)]) (EP X pins σ Q) X.xe s := fun {T a vs us o n xs} hT rv ho hc hd hz ra so q => by
    obtain ⟨h1, h2, h3, h4⟩ := sortOk_of so
    refine sorted_seqR hT ho hc hd (each_vd rv ra) (each_reads I fz h3 (each_vd rv ra)) h1 h2 hz (fun d hd => by have := depthAll_mem hd; have := hr.un; omega) fun hh h' out n' k1 k2 e' eo => ?_
    obtain ⟨ws, rw', rp⟩ := vd_each eo
    have I1 : Inv X pins σ H { s with heap := hh } := I.kept (t' := s.toks) k1
    have hp : H hh.objs.size = none := I1.hok.fresh (Nat.le_refl _)
    have hl : ws.length ≤ sizeLine := by rw [rp.length, (List.mergeSort_perm xs geD).length_eq, ← ra.length, rv.length]; exact hz
    refine ⟨.ref hh.objs.size, _, I1.laid (s := { s with heap := hh }) (t' := s.toks) k2 (Nat.le_refl _) (show ObjOk X.prog X.w _ h' _ (.lst ws) from ⟨hl, out, n', rw', e'⟩), rfl, ?_⟩
    exact q _ _ _ (.lst fz hp) ⟨_, rfl, fz.none_ hp, _, upd_same, rp⟩ (fun a e => by cases e; exact hp)
  unfold biD at e
  split at e <;> try (rename_i hh; cases hh)
  · obtain ⟨v, rfl, h⟩ := hv.one
    obtain ⟨a, vs, rfl, ha, ra⟩ := h.list fz
    split at e
    · rename_i so
      cases e
      obtain ⟨u, rfl, ru⟩ := vals1 r
      cases ru
      obtain ⟨us, o, n, rv, ho, hc, hd, hz⟩ := seqL_obj I (.of ha)
      exact go (.inl rfl) rv ho hc hd hz ra so q
    · cases e
  · obtain ⟨v, rfl, h⟩ := hv.one
    obtain ⟨a, vs, rfl, ha, ra⟩ := h.tup fz
    split at e
    · rename_i so
      cases e
      obtain ⟨u, rfl, ru⟩ := vals1 r
      cases ru
      obtain ⟨us, o, n, rv, ho, hc, hd, hz⟩ := seqT_obj I (fz.seqT ha)
      exact go (.inr rfl) rv ho hc hd hz ra so q
    · cases e
  · cases e
theorem snd_sortedRev (hr : Room k X.A) {p : Pos} {kp kp2 : Pos} {kk : Nat} (hg : Gl X "sorted") (hm : X.mg "sorted" = none) (ha : PA X [a] (tA X.kw (evEs cf (.cons ma .nil)))) (hs : starEach [a] X.env = (false, eval a X.env) :: starEach [] X.env) :
    PE X (.Call (.Name "sorted" p) [a] [⟨some "reverse", .Constant (.bool true) kk kp, kp2⟩] pos) (tE X.kw (evE cf (.bi .sortedRev (.cons ma .nil)))) := by
  refine (pe_callBK (bir_sortedRev hr) hg hm rfl ha (pk_cons pe_bl pk_nil) (he := ?_) (hpl := ?_)).imp fun σ H Q q => ?_
  · rw [hs]; rfl
  · rw [hs]; rfl
  · obtain ⟨F, e, os, e1, R, q1, w⟩ := bi_imp (X := X) σ H Q q
    exact ⟨F, e, os, e1, R, q1, fun vs F' H' R' S' O' => ⟨rfl, w vs F' H' R' S' O'⟩⟩
end
end Ev
/-! the text's translation is right: expressions -/
namespace Ev
open PySem PySem.Spec PyProof.Rows L2
theorem tE_mono {K : KW} {m : M Opd} {σ : S2} {H : Hp} {Q Q' : VK} (h : tE K m σ H Q) (w : ∀ v H, Q v H → Q' v H) : tE K m σ H Q' := by
  obtain ⟨F, e, o, e', R, q, z⟩ := h
  exact ⟨F, e, o, e', R, q, fun v F' H' R' S' O' N' => w _ _ (z v F' H' R' S' O' N')⟩
section
variable {G : Gs} {cf : Nat → List Slot → CR} {k : Nat} {fc : Str → Bool} {sc : Scope} {X : Cx}
theorem tA_nil {σ : S2} {H : Hp} {Q : List V → Hp → Prop} (h : tA X.kw (evEs cf .nil) σ H Q) : Q [] H := by
  obtain ⟨F, e, os, e', R, q, w⟩ := h
  obtain ⟨p6, p6'⟩ := pure_ok (show (pure [] : M (List Opd)) e = .ok os e' from q)
  subst p6 p6'
  exact w [] F H R .refl trivial
theorem bi_call (o : Okx G cf k fc sc X) {x : Str} {b : Bi} {a : Expr} {es : List Expr} {ms : MEs} {p pos : Pos} (h : biOf x = some b) (hg : Gl X x) (hm : X.mg x = none) (ha : PA X (a :: es) (tA X.kw (evEs cf ms))) (hst : (a :: es).all (fun a => !isStar a) = true) :
    PE X (.Call (.Name x p) (a :: es) [] pos) (tE X.kw (evE cf (.bi b ms))) := by
  have h2 : es.all (fun a => !isStar a) = true := by simp only [List.all_cons, Bool.and_eq_true] at hst; exact hst.2
  have h1 : isStar a = false := by simpa using (show (!isStar a) = true by simp only [List.all_cons, Bool.and_eq_true] at hst; exact hst.1)
  unfold biOf at h
  split at h
  · rename_i e; subst e; cases h
    exact (pe_callB bir_len hg hm rfl ha (by decide) (by decide) (star_cons h1) (star_plain h2)).imp bi_imp
  split at h
  · rename_i e; subst e; cases h
    exact (pe_callTy bir_tuple hg hm rfl ha (by decide) (by decide) (star_cons h1) (star_plain h2)).imp bi_imp
  split at h
  · rename_i e; subst e; cases h
    exact (pe_callTy bir_list hg hm rfl ha (by decide) (by decide) (star_cons h1) (star_plain h2)).imp bi_imp
  split at h
  · rename_i e; subst e; cases h
    exact (pe_callB (bir_sorted o.calm o.room) hg hm rfl ha (by decide) (by decide) (star_cons h1) (star_plain h2)).imp bi_imp
  split at h
  · rename_i e; subst e; cases h
    exact (pe_callB (bir_sum o.calm) hg hm rfl ha (by decide) (by decide) (star_cons h1) (star_plain h2)).imp bi_imp
  split at h
  · rename_i e; subst e; cases h
    exact (pe_callB (bir_min o.calm o.room) hg hm rfl ha (by decide) (by decide) (star_cons h1) (star_plain h2)).imp bi_imp
  split at h
  · rename_i e; subst e; cases h
    exact (pe_callB (bir_max o.calm o.room) hg hm rfl ha (by decide) (by decide) (star_cons h1) (star_plain h2)).imp bi_imp
  split at h
  · rename_i e; subst e; cases h
    exact (pe_callB bir_abs hg hm rfl ha (by decide) (by decide) (star_cons h1) (star_plain h2)).imp bi_imp
  split at h
  · rename_i e; subst e; cases h
    exact (pe_callTy bir_int hg hm rfl ha (by decide) (by decide) (star_cons h1) (star_plain h2)).imp bi_imp
  split at h
  · rename_i e; subst e; cases h
    exact (pe_callB (bir_all o.calm) hg hm rfl ha (by decide) (by decide) (star_cons h1) (star_plain h2)).imp bi_imp
  split at h
  · rename_i e; subst e; cases h
    exact (pe_callB (bir_any o.calm) hg hm rfl ha (by decide) (by decide) (star_cons h1) (star_plain h2)).imp bi_imp
  split at h
  · rename_i e; subst e; cases h
    exact (pe_callTy (bir_dict o.calm o.room) hg hm rfl ha (by decide) (by decide) (star_cons h1) (star_plain h2)).imp bi_imp
  · cases h
theorem ty_name (o : Okx G cf k fc sc X) {x : Str} {t : Ty} {pos : Pos} (h : tyOf x = some t) (hx : okN x = true) (hg : Gl X x) (hm : X.mg x = none) : PE X (.Name x pos) (tC (.ty (tyN t))) := by
  obtain ⟨q1, q2, q3⟩ := okN_ok hx
  unfold tyOf at h
  split at h
  · rename_i e; subst e; cases h; exact pe_bltn hg hm (u := .type "int") rfl rfl q3 q1
  split at h
  · rename_i e; subst e; cases h; exact pe_bltn hg hm (u := .type "bool") rfl rfl q3 q1
  split at h
  · rename_i e; subst e; cases h; exact pe_bltn hg hm (u := .type "str") rfl rfl q3 q1
  split at h
  · rename_i e; subst e; cases h; exact pe_bltn hg hm (u := .type "tuple") rfl rfl q3 q1
  split at h
  · rename_i e; subst e; cases h; exact pe_bltn hg hm (u := .type "list") rfl rfl q3 q1
  · cases h
theorem dict_name (o : Okx G cf k fc sc X) {pos : Pos} (hg : Gl X "dict") (hm : X.mg "dict" = none) : PE X (.Name "dict" pos) (tC (.ty "dict")) := by
  exact pe_bltn hg hm (u := .type "dict") rfl rfl (by decide) (by decide)
theorem isa_call (o : Okx G cf k fc sc X) {ty : Str} {t : Ty} {a : Expr} {ma : ME} {p p' pos : Pos} (h : tyOf ty = some t) (hx : okN ty = true) (hg' : Gl X ty) (hm' : X.mg ty = none) (hg : Gl X "isinstance") (hm : X.mg "isinstance" = none) (ha : PE X a (tE X.kw (evE cf ma))) (hst : isStar a = false) :
    PE X (.Call (.Name "isinstance" p) [a, .Name ty p'] [] pos) (tE X.kw (evE cf (.bi (.isa [t]) (.cons ma .nil)))) :=
  (pe_callB (bir_isa t) hg hm rfl (pa_cons ha (pa_cons (ty_name o h hx hg' hm') pa_nil (star_cons rfl)) (star_cons hst)) (by decide) (by decide) (star_cons hst) (star_plain rfl)).imp isa_imp
theorem mth_ok {x : Str} {n : Nat} {m : Mth} (h : mthOf x n = some m) : mname m = x ∧ (m.mut = true ∨ m.pur = true) := by
  unfold mthOf at h
  split at h
  · rename_i e; cases h; exact ⟨e.symm, .inl rfl⟩
  split at h
  · rename_i e; cases h; exact ⟨e.symm, .inl rfl⟩
  split at h
  · rename_i e; split at h <;> cases h <;> exact ⟨e.symm, .inl rfl⟩
  split at h
  · rename_i e; cases h; exact ⟨e.symm, .inl rfl⟩
  split at h
  · rename_i e; cases h; exact ⟨e.symm, .inr rfl⟩
  split at h
  · rename_i e; cases h; exact ⟨e.symm, .inr rfl⟩
  split at h
  · rename_i e; cases h; exact ⟨e.symm, .inl rfl⟩
  split at h
  · rename_i e; cases h; exact ⟨e.symm, .inl rfl⟩
  split at h
  · rename_i e; split at h <;> cases h <;> exact ⟨e.symm, .inr rfl⟩
  · cases h
theorem mth_imp (o : Okx G cf k fc sc X) {m : Mth} {mo : ME} {ms : MEs} (h : m.mut = true ∨ m.pur = true) : ∀ σ H Q, tE X.kw (evE cf (.meth m mo ms)) σ H Q → tMt X (mname m) (tE X.kw (evE cf mo)) (tA X.kw (evEs cf ms)) σ H Q :=
  h.elim (fun h => meth_mut_imp o.room h) fun h => pure_imp o.room h
theorem mth_call (o : Okx G cf k fc sc X) {x : Str} {m : Mth} {ob : Expr} {args : List Expr} {mo : ME} {ms : MEs} {apos pos : Pos} (h : mthOf x args.length = some m) (ho : PE X ob (tE X.kw (evE cf mo))) (ha : PA X args (tA X.kw (evEs cf ms))) (hn : args = [] → ms = .nil) (hst : args.all (fun a => !isStar a) = true)
    (hs : isSup ob = false) (hl : (apos.endLine == pos.line) = true) (h29 : args.length < 29) : PE X (.Call (.Attribute ob x apos) args [] pos) (tE X.kw (evE cf (.meth m mo ms))) := by
  obtain ⟨rfl, hk⟩ := mth_ok h
  cases args with
  | nil =>
    obtain rfl := hn rfl
    exact (pe_mt0 ho (sup_ok hs) hl).imp fun σ H Q q => tE_mono (mth_imp o hk σ H Q q) fun v H ⟨id, r, q1, q2, q3⟩ => ⟨id, r, q1, q2, tA_nil q3⟩
  | cons a es => exact (pe_mtc ho ha (sup_ok hs) (star_all hst) h29 hl).imp (mth_imp o hk)
theorem fn_call (o : Okx G cf k fc sc X) {x : Str} {j : Nat} {args : List Expr} {ms : MEs} {p pos : Pos} (h : G.fns.lookup x = some j) (hx : okN x = true) (hg : Gl X x) (ha : PA X args (tA X.kw (evEs cf ms))) (hn : args = [] → ms = .nil) (hst : args.all (fun a => !isStar a) = true) :
    PE X (.Call (.Name x p) args [] pos) (tE X.kw (evE cf (.call j ms))) := by
  obtain ⟨f, fd, ps, F, hm, kp, b⟩ := o.fns x j h
  obtain ⟨q1, q2, q3⟩ := okN_ok hx
  cases args with
  | nil =>
    obtain rfl := hn rfl
    exact (pe_call0 F o.room hg hm kp b .nil pass0 q1).imp fun σ H Q q => tA_nil (call_imp (E := E0) σ H Q q)
  | cons a es =>
    simp only [List.all_cons, Bool.and_eq_true, Bool.not_eq_true'] at hst
    exact (pe_call F o.room hg hm kp b .nil pass0 ha q1 (star_cons hst.1) (star_plain hst.2)).imp (call_imp (E := E0))
theorem keysC_ok : ∀ {ks : List (Option Expr)} {r : List Key}, keysC ks = some r → ks.all (·.isSome) = true ∧ r.length = ks.length
  | [], _, h => by cases h; exact ⟨rfl, rfl⟩
  | x :: ks, _, h => by
    obtain ⟨a, h1, h⟩ := obind h
    obtain ⟨r, h2, h⟩ := obind h
    cases opure h
    obtain ⟨q1, q2⟩ := keysC_ok h2
    refine ⟨?_, by simp [q2]⟩
    rw [List.all_cons, q1, Bool.and_true]
    cases x with
    | none => cases h1
    | some _ => rfl
theorem keyC_ok {x : Option Expr} {a : Key} (h : keyC x = some a) : ∃ e, x = some e ∧ PE X e (tC (kV a)) := by
  unfold keyC at h
  split at h
  · cases h; exact ⟨_, rfl, pe_int⟩
  · cases h; exact ⟨_, rfl, pe_str⟩
  · cases h
/-- what a translation is good for -/
structure Good (G : Gs) (cf : Nat → List Slot → CR) (k : Nat) (sc : Scope) (X : Cx) (n : Nat) : Prop where
  E : ∀ e m, trE G sc n e = some m → PE X e (tE X.kw (evE cf m))
  C : ∀ f args m, trC G sc n f args = some m → okN f = true → glB sc f = true → ∀ p pos, PE X (.Call (.Name f p) args [] pos) (tE X.kw (evE cf m))
  Es : ∀ es ms, trEs G sc n es = some ms → PA X es (tA X.kw (evEs cf ms)) ∧ es.all (fun a => !isStar a) = true ∧ (es = [] → ms = .nil) ∧ mlen ms = es.length
  D : ∀ ks es kk r, keysC ks = some kk → trD G sc n ks es = some r → (∀ pos, PPs X pos ks es (trsOf X.kw cf kk r.1)) ∧ mlen r.1 = ks.length ∧ ks.length = es.length
  O : ∀ e m, trO G sc n e = some m → PO X e (tO X.kw (evO cf m))
  V : ∀ op es m, trV G sc n op es = some m → ∀ pos, PE X (.BoolOp op es pos) (tE X.kw (evE cf m))
  T : ∀ e m, trT G sc n e = some m → PT X e (tT X.kw (evB cf m))
  W : ∀ op es m, trW G sc n op es = some m → ∀ pos, PW X (.BoolOp op es pos) (tT X.kw (evB cf m))
  If : ∀ es m, trIf G sc n es = some m → PTs X es (tT X.kw (evC cf m))
  I : ∀ tg e m, trI G sc n (isTupE tg) e = some m → PI X tg e (tI X.kw (evI cf m))
theorem good_zero : Good G cf k sc X 0 where
  E := fun _ _ h => by cases h
  C := fun _ _ _ h => by cases h
  Es := fun _ _ h => by cases h
  D := fun _ _ _ _ _ h => by cases h
  O := fun _ _ h => by cases h
  V := fun _ _ _ h => by cases h
  T := fun _ _ h => by cases h
  W := fun _ _ _ h => by cases h
  If := fun _ _ h => by cases h
  I := fun _ _ _ h => by cases h
theorem goodE {n : Nat} (ih : ∀ {fc : Str → Bool} {sc : Scope} {X : Cx}, Okx G cf k fc sc X → Good G cf k sc X n) (o : Okx G cf k fc sc X) : ∀ e m, trE G sc (n + 1) e = some m → PE X e (tE X.kw (evE cf m)) := by
  have g := ih o
  intro e m h
  unfold trE at h
  split at h
  · obtain ⟨d, h1, rfl⟩ := omap h; exact lit_ok h1
  · rename_i x p
    obtain ⟨h1, h⟩ := oif h
    split at h
    · rename_i h2
      obtain ⟨i, h3, rfl⟩ := omap h
      show PE X _ (tE X.kw (evE cf (if G.S.contains x then .shr (.v i) else .v i)))
      split
      · exact snd_shr (snd_name o h1 h2 h3)
      · exact snd_name o h1 h2 h3
    · obtain ⟨h2, h⟩ := oif h
      obtain ⟨d, h3, rfl⟩ := omap h
      obtain ⟨v, u, q1, q2, q3⟩ := o.consts _ _ h3
      exact snd_c q3 (pe_glob (o.gl h2) q1 q2 (okN_ok h1).1)
  · obtain ⟨a, h1, h⟩ := obind h
    obtain ⟨b, h2, h⟩ := obind h
    cases opure h
    exact snd_bin (g.E _ _ h1) (g.E _ _ h2)
  · obtain ⟨a, h1, h⟩ := obind h
    cases opure h
    exact snd_neg (g.E _ _ h1)
  · obtain ⟨a, h1, h⟩ := obind h
    cases opure h
    exact snd_not (g.E _ _ h1)
  · exact g.V _ _ _ h _
  · obtain ⟨hb, h⟩ := oifn h
    obtain ⟨a, h1, h⟩ := obind h
    obtain ⟨b, h2, h⟩ := obind h
    cases opure h
    exact snd_cmp o.room (g.E _ _ h1) (g.E _ _ h2) (by simpa using hb)
  · obtain ⟨hb, h⟩ := oifn h
    obtain ⟨a, h1, h⟩ := obind h
    obtain ⟨b, h2, h⟩ := obind h
    obtain ⟨c, h3, h⟩ := obind h
    cases opure h
    exact snd_chain o.room (g.E _ _ h1) (g.E _ _ h2) (g.E _ _ h3) (by simpa using hb)
  · obtain ⟨c, h1, h⟩ := obind h
    obtain ⟨a, h2, h⟩ := obind h
    obtain ⟨b, h3, h⟩ := obind h
    cases opure h
    exact snd_ite (g.T _ _ h1) (g.E _ _ h2) (g.E _ _ h3)
  · obtain ⟨es, h1, h⟩ := obind h
    cases opure h
    exact snd_tup (g.Es _ _ h1).1
  · obtain ⟨es, h1, h⟩ := obind h
    cases opure h
    exact snd_lst (g.Es _ _ h1).1
  · cases h; exact snd_dnew
  · rename_i k v pos
    split at h
    · obtain ⟨ks, h1, h⟩ := obind h
      obtain ⟨r, h2, h⟩ := obind h
      obtain ⟨⟨hl, h0, h15⟩, h⟩ := oif h
      cases opure h
      obtain ⟨q1, q2, q3⟩ := g.D _ _ _ _ h1 h2
      obtain ⟨q4, q5⟩ := keysC_ok h1
      exact snd_dct (q1 _) (q5.trans q2.symm) q4 q3 (by simp) (by simp)
    · obtain ⟨a, h1, h⟩ := obind h
      obtain ⟨b, h2, h⟩ := obind h
      cases opure h
      exact snd_dt1 o.room (g.E _ _ h1) (g.E _ _ h2)
  · rename_i keys es pos _ _
    obtain ⟨ks, h1, h⟩ := obind h
    obtain ⟨r, h2, h⟩ := obind h
    obtain ⟨⟨hl, h0, h15⟩, h⟩ := oif h
    cases opure h
    obtain ⟨q1, q2, q3⟩ := g.D _ _ _ _ h1 h2
    obtain ⟨q4, q5⟩ := keysC_ok h1
    exact snd_dct (q1 _) (q5.trans q2.symm) q4 q3 (by rintro rfl; simp at hl; omega) (by omega)
  · obtain ⟨a, h1, h⟩ := obind h
    cases opure h
    exact snd_rev (g.E _ _ h1)
  · obtain ⟨a, h1, h⟩ := obind h
    obtain ⟨b, h2, h⟩ := obind h
    obtain ⟨c, h3, h⟩ := obind h
    cases opure h
    exact snd_sl (g.E _ _ h1) (g.O _ _ h2) (g.O _ _ h3)
  · obtain ⟨hb, h⟩ := oifn h
    obtain ⟨a, h1, h⟩ := obind h
    obtain ⟨b, h2, h⟩ := obind h
    cases opure h
    exact snd_ix o.room (g.E _ _ h1) (g.E _ _ h2) (plain_ix (by simpa using hb))
  · obtain ⟨hb, h⟩ := oif h
    rw [Bool.and_eq_true] at hb
    exact g.C _ _ _ h hb.1 hb.2 _ _
  · obtain ⟨hf, h⟩ := oif h
    obtain ⟨hb, h⟩ := oif h
    obtain ⟨a, h1, h⟩ := obind h
    cases opure h
    simp only [Bool.and_eq_true, Bool.not_eq_true'] at hb
    obtain ⟨rfl, rfl⟩ := hf
    exact snd_sortedRev o.room (o.gl hb.1.1) (o.blt _ hb.1.2) (sna_cons (g.E _ _ h1) sna_nil (star_cons hb.2)) (star_cons hb.2)
  · obtain ⟨hb, h⟩ := oifn h
    obtain ⟨mt, h0, h⟩ := obind h
    obtain ⟨a, h1, h⟩ := obind h
    obtain ⟨ms, h2, h⟩ := obind h
    cases opure h
    simp only [Bool.or_eq_true, Bool.not_eq_true', decide_eq_false_iff_not, not_or, Bool.not_eq_true, Bool.not_eq_false, Decidable.not_not] at hb
    obtain ⟨q1, q2, q3, q4⟩ := g.Es _ _ h2
    exact mth_call o h0 (g.E _ _ h1) q1 q3 q2 hb.1.1 hb.1.2 hb.2
  · obtain ⟨hb, h⟩ := oif h
    rw [Bool.and_eq_true, Bool.not_eq_true'] at hb
    obtain ⟨it, h1, h⟩ := obind h
    obtain ⟨t, h2, h⟩ := obind h
    obtain ⟨c, h3, h⟩ := obind h
    obtain ⟨x, h4, h⟩ := obind h
    obtain ⟨h5, h⟩ := oif h
    cases opure h
    refine (pe_lc o.calm (by rw [o.hN]; exact o.nd) (g.I _ _ _ h1) (by rw [o.hN, o.hsc]; exact blkOk_by hb.1) (fun s H C cl fp => trG_ok (o.blk s H _ C cl fp) h2) (fun s H C cl fp => (ih (o.blk s H _ C cl fp)).If _ _ h3)
      (fun s H C cl fp => (ih (o.blk s H _ C cl fp)).E _ _ h4) (set_ok hb.2)).imp (lc_imp fun i hi => ?_)
    rw [List.all_eq_true] at h5
    have := h5 i (by rw [slots_eq]; exact hi)
    simpa using this
  · cases h
end
end Ev
/-! the text's translation is right: the rest of the expressions -/
namespace Ev
open PySem PySem.Spec PyProof.Rows L2
section
variable {G : Gs} {cf : Nat → List Slot → CR} {k : Nat} {fc : Str → Bool} {sc : Scope} {X : Cx}
theorem good_succ {n : Nat} (ih : ∀ {fc : Str → Bool} {sc : Scope} {X : Cx}, Okx G cf k fc sc X → Good G cf k sc X n) (o : Okx G cf k fc sc X) : Good G cf k sc X (n + 1) := by
  have g := ih o
  refine ⟨goodE ih o, ?_, ?_, ?_, ?_, ?_, ?_, ?_, ?_, ?_⟩
  · intro f args m h hf hg p pos
    unfold trC at h
    split at h
    · rename_i j hj
      obtain ⟨ms, h2, h⟩ := obind h
      cases opure h
      obtain ⟨q1, q2, q3, q4⟩ := g.Es _ _ h2
      exact fn_call o hj hf (o.gl hg) q1 q3 q2
    · obtain ⟨hb, h⟩ := oif h
      by_cases hi : f = "isinstance"
      · rw [if_pos hi] at h
        split at h
        · rename_i a ty p' _
          obtain ⟨hc, h⟩ := oif h
          simp only [Bool.and_eq_true] at hc
          have nst : ∀ {ma : ME}, trE G sc n a = some ma → isStar a = false := fun {ma} h2 => by
            cases a <;> first | rfl | skip
            cases n with
            | zero => cases h2
            | succ n => unfold trE at h2; cases h2
          by_cases hdt : ty = "dict"
          · rw [if_pos hdt] at h
            obtain ⟨ma, h2, h⟩ := obind h
            cases opure h
            subst hi hdt
            exact snd_isD (o.gl hg) (o.blt _ hb) (dict_name o (o.gl hc.1.2) (o.blt _ hc.2)) (nst h2) (g.E _ _ h2)
          rw [if_neg hdt] at h
          obtain ⟨t, h1, h⟩ := obind h
          obtain ⟨ma, h2, h⟩ := obind h
          cases opure h
          have hs := nst h2
          subst hi
          exact isa_call o h1 hc.1.1 (o.gl hc.1.2) (o.blt _ hc.2) (o.gl hg) (o.blt _ hb) (g.E _ _ h2) hs
        · cases h
      · rw [if_neg hi] at h
        have plain : ∀ (x : Expr) (es : List Expr) (m : ME), (do let b ← biOf f; let ms ← trEs G sc n (x :: es); pure (.bi b ms)) = some m → PE X (.Call (.Name f p) (x :: es) [] pos) (tE X.kw (evE cf m)) := fun x es m h => by
          obtain ⟨b, h1, h⟩ := obind h
          obtain ⟨ms, h2, h⟩ := obind h
          cases opure h
          obtain ⟨q1, q2, q3, q4⟩ := g.Es _ _ h2
          exact bi_call o h1 (o.gl hg) (o.blt _ hb) q1 q2
        split at h
        · cases h
        · rename_i r p2 a pos2 _
          by_cases hr : r = "range"
          · rw [if_pos hr] at h
            obtain ⟨⟨hf2, hgr, hbr, hs⟩, h⟩ := oif h
            obtain ⟨ma, h1, h⟩ := obind h
            cases opure h
            subst hr
            rcases hf2 with rfl | rfl
            · exact snd_listRg o.calm (o.gl hg) (o.blt _ hb) (o.gl hgr) (o.blt _ hbr) (g.E _ _ h1) (star_cons hs)
            · exact snd_tupRg o.calm (o.gl hg) (o.blt _ hb) (o.gl hgr) (o.blt _ hbr) (g.E _ _ h1) (star_cons hs)
          · rw [if_neg hr] at h
            by_cases hset : r = "set"
            · rw [if_pos hset] at h
              obtain ⟨⟨hf2, hgr, hbr, hs⟩, h⟩ := oif h
              obtain ⟨ma, h1, h⟩ := obind h
              cases opure h
              subst hset hf2
              exact snd_lenSet o.calm (o.gl hg) (o.blt _ hb) (o.gl hgr) (o.blt _ hbr) hs (g.E _ _ h1)
            · rw [if_neg hset] at h
              exact plain _ _ _ h
        · rename_i a nm apos cpos _
          split at h
          · rename_i hc
            obtain ⟨hb2, h⟩ := oifn h
            obtain ⟨ma, h1, h⟩ := obind h
            cases opure h
            obtain ⟨rfl, rfl⟩ := hc
            simp only [Bool.or_eq_true, Bool.not_eq_true', not_or, Bool.not_eq_true, Bool.not_eq_false] at hb2
            exact snd_SIt o.calm o.room (o.gl hg) (o.blt _ hb) (sup_ok hb2.1) hb2.2 (g.E _ _ h1)
          · exact plain _ _ _ h
        · rename_i r p2 a a' pos2 _
          by_cases hr : r = "range"
          · rw [if_pos hr] at h
            obtain ⟨⟨hf2, hgr, hbr, hs, hs2⟩, h⟩ := oif h
            obtain ⟨ma, h1, h⟩ := obind h
            obtain ⟨mb, h2, h⟩ := obind h
            cases opure h
            subst hr
            rcases hf2 with rfl | rfl
            · exact snd_listRg2 o.calm (o.gl hg) (o.blt _ hb) (o.gl hgr) (o.blt _ hbr) (g.E _ _ h1) (g.E _ _ h2) (star_cons hs) (star_cons hs2) (star_plain (by simp [hs2]))
            · exact snd_tupRg2 o.calm (o.gl hg) (o.blt _ hb) (o.gl hgr) (o.blt _ hbr) (g.E _ _ h1) (g.E _ _ h2) (star_cons hs) (star_cons hs2) (star_plain (by simp [hs2]))
          · rw [if_neg hr] at h
            exact plain _ _ _ h
        · exact plain _ _ _ h
  · intro es ms h
    unfold trEs at h
    split at h
    · cases h; exact ⟨sna_nil, rfl, fun _ => rfl, rfl⟩
    · rename_i e0 _
      obtain ⟨hb, h⟩ := oifn h
      obtain ⟨a, h1, h⟩ := obind h
      obtain ⟨r, h2, h⟩ := obind h
      cases opure h
      obtain ⟨q1, q2, q3, q4⟩ := g.Es _ _ h2
      have hb : isStar e0 = false := by simpa using hb
      exact ⟨sna_cons (g.E _ _ h1) q1 (star_cons hb), by rw [List.all_cons, q2, hb]; rfl, by simp, by simp [mlen, q4]⟩
  · intro ks es kk r h1 h
    unfold trD at h
    split at h
    · cases h; cases h1; exact ⟨fun _ => pps_nil, rfl, rfl⟩
    · rename_i x ks e es
      obtain ⟨a, h2, h⟩ := obind h
      obtain ⟨r', h3, h⟩ := obind h
      cases opure h
      obtain ⟨k1, h4, h1⟩ := obind h1
      obtain ⟨k2, h5, h1⟩ := obind h1
      cases opure h1
      obtain ⟨q1, q2, q3⟩ := g.D _ _ _ _ h5 h3
      obtain ⟨e', rfl, q4⟩ := keyC_ok h4
      exact ⟨fun pos => pps_cons q4 (g.E _ _ h2) (q1 pos), by simp [mlen, q2], by simp [q3]⟩
    · cases h
  · intro e m h
    unfold trO at h
    split at h
    · cases h; exact sno_none
    · obtain ⟨a, h1, h⟩ := obind h
      cases opure h
      exact sno_some (g.E _ _ h1)
  · intro op es m h pos
    unfold trV at h
    split at h
    · exact pe_one (g.E _ _ h)
    · obtain ⟨a, h1, h⟩ := obind h
      obtain ⟨r, h2, h⟩ := obind h
      cases opure h
      exact snd_and (g.E _ _ h1) (g.V _ _ _ h2 _)
    · obtain ⟨a, h1, h⟩ := obind h
      obtain ⟨r, h2, h⟩ := obind h
      cases opure h
      exact snd_or (g.E _ _ h1) (g.V _ _ _ h2 _)
    · cases h
  · intro e m h
    unfold trT at h
    split at h
    · obtain ⟨a, h1, h⟩ := obind h
      cases opure h
      exact snt_not (g.T _ _ h1)
    · exact (g.W _ _ _ h _).pt
    · obtain ⟨hb, h⟩ := oifn h
      obtain ⟨a, h1, h⟩ := obind h
      obtain ⟨b, h2, h⟩ := obind h
      cases opure h
      exact snt_cmp o.room (g.E _ _ h1) (g.E _ _ h2) (by simpa using hb)
    · obtain ⟨hb, h⟩ := oifn h
      obtain ⟨a, h1, h⟩ := obind h
      obtain ⟨b, h2, h⟩ := obind h
      obtain ⟨c, h3, h⟩ := obind h
      cases opure h
      exact snt_chain o.room (g.E _ _ h1) (g.E _ _ h2) (g.E _ _ h3) (by simpa using hb)
    · obtain ⟨hb, h⟩ := oif h
      obtain ⟨a, h1, h⟩ := obind h
      cases opure h
      exact snt_tr (g.E _ _ h1) (isTrue_val hb)
  · intro op es m h pos
    unfold trW at h
    split at h
    · cases op with
      | And => exact pw_and1 (g.T _ _ h)
      | Or => exact pw_or1 (g.T _ _ h)
    · obtain ⟨a, h1, h⟩ := obind h
      obtain ⟨r, h2, h⟩ := obind h
      cases opure h
      exact snt_and (g.T _ _ h1) (g.W _ _ _ h2 _)
    · obtain ⟨a, h1, h⟩ := obind h
      obtain ⟨r, h2, h⟩ := obind h
      cases opure h
      exact snt_or (g.T _ _ h1) (g.W _ _ _ h2 _)
    · cases h
  · intro es m h
    unfold trIf at h
    split at h
    · cases h; exact snc_none
    · obtain ⟨a, h1, h⟩ := obind h
      cases opure h
      exact snc_some (g.T _ _ h1)
    · cases h
  · intro tg e m h
    unfold trI at h
    split at h
    · rename_i f p a pos
      by_cases hf : f = "range"
      · rw [if_pos hf] at h
        obtain ⟨hb, h⟩ := oif h
        obtain ⟨ma, h1, h⟩ := obind h
        cases opure h
        simp only [Bool.and_eq_true, Bool.not_eq_true'] at hb
        subst hf
        exact sni_rng1 (o.gl hb.1.1) (o.blt _ hb.1.2) (sna_cons (g.E _ _ h1) sna_nil (star_cons hb.2)) (star_cons hb.2)
      by_cases hf2 : f = "reversed"
      · rw [if_neg hf, if_pos hf2] at h
        obtain ⟨hb, h⟩ := oif h
        obtain ⟨ma, h1, h⟩ := obind h
        cases opure h
        simp only [Bool.and_eq_true, Bool.not_eq_true'] at hb
        subst hf2
        exact sni_revd (o.gl hb.1.1) (o.blt _ hb.1.2) (g.E _ _ h1) (star_cons hb.2)
      · rw [if_neg hf, if_neg hf2] at h
        obtain ⟨a, h1, h⟩ := obind h
        cases opure h
        exact sni_seq (g.E _ _ h1)
    · rename_i f p a b pos
      by_cases hf : f = "range"
      · rw [if_pos hf] at h
        obtain ⟨hb, h⟩ := oif h
        obtain ⟨ma, h1, h⟩ := obind h
        obtain ⟨mb, h2, h⟩ := obind h
        cases opure h
        simp only [Bool.and_eq_true, Bool.not_eq_true'] at hb
        subst hf
        exact sni_rng2 (o.gl hb.1.1.1) (o.blt _ hb.1.1.2) (sna_cons (g.E _ _ h1) (sna_cons (g.E _ _ h2) sna_nil (star_cons hb.2)) (star_cons hb.1.2)) (by rw [star_cons hb.1.2, star_cons hb.2]; rfl) (star_cons hb.2)
      by_cases hf2 : f = "zip"
      · rw [if_neg hf, if_pos hf2] at h
        obtain ⟨hb, h⟩ := oif h
        obtain ⟨ma, h1, h⟩ := obind h
        obtain ⟨mb, h2, h⟩ := obind h
        cases opure h
        simp only [Bool.and_eq_true, Bool.not_eq_true'] at hb
        subst hf2
        obtain ⟨ts, kt, pt, rfl⟩ : ∃ ts kt pt, tg = .Tuple ts kt pt := by
          have := hb.1.1.1.1
          cases tg <;> first | (exact ⟨_, _, _, rfl⟩; done) | (cases this; done)
        exact sni_zip (o.gl hb.1.1.1.2) (o.blt _ hb.1.1.2) (sna_cons (g.E _ _ h1) (sna_cons (g.E _ _ h2) sna_nil (star_cons hb.2)) (star_cons hb.1.2)) (star_cons hb.1.2) (star_plain (by simp [hb.2]))
      · rw [if_neg hf, if_neg hf2] at h
        obtain ⟨a, h1, h⟩ := obind h
        cases opure h
        exact sni_seq (g.E _ _ h1)
    · rename_i f p a b c pos
      by_cases hf : f = "range"
      · rw [if_pos hf] at h
        obtain ⟨hb, h⟩ := oif h
        obtain ⟨ma, h1, h⟩ := obind h
        obtain ⟨mb, h2, h⟩ := obind h
        obtain ⟨mc, h3, h⟩ := obind h
        cases opure h
        simp only [Bool.and_eq_true, Bool.not_eq_true'] at hb
        subst hf
        exact sni_rng3 (o.gl hb.1.1.1.1) (o.blt _ hb.1.1.1.2) (sna_cons (g.E _ _ h1) (sna_cons (g.E _ _ h2) (sna_cons (g.E _ _ h3) sna_nil (star_cons hb.2)) (star_cons hb.1.2)) (star_cons hb.1.1.2)) (star_cons hb.1.1.2) (star_plain (by simp [hb.1.2, hb.2]))
      · rw [if_neg hf] at h
        obtain ⟨a, h1, h⟩ := obind h
        cases opure h
        exact sni_seq (g.E _ _ h1)
    · obtain ⟨a, h1, h⟩ := obind h
      cases opure h
      exact sni_seq (g.E _ _ h1)
theorem good : ∀ (n : Nat) {fc : Str → Bool} {sc : Scope} {X : Cx}, Okx G cf k fc sc X → Good G cf k sc X n
  | 0, _, _, _, _ => good_zero
  | n + 1, _, _, _, o => good_succ (good n) o
end
end Ev
/-! the text's translation is right: statements -/
namespace Ev
open PySem PySem.Spec PyProof.Rows L2
theorem swap_lc {elt : Expr} {gens : List Comprehension} {scope : Scope} {cpos p' : Pos} {x : Str} {line : Nat} {env : Env} : swapsWith (.ListComp elt gens scope cpos) (some (.Name x p')) line env = pure (env.blockKind == .function && env.kindOf x == some .local && p'.line == cpos.line && !(scope.names.any fun (n, k) => n == x && (k == .local || k == .cell))) := rfl
theorem any_star (vs : List Expr) : (vs.any fun | .Starred .. => true | _ => false) = vs.any isStar := by
  congr 1
theorem swap_names {env : Env} {sc : Scope} {ts : List Expr} (h2 : env.scope = sc) : (ts.filterMap fun
    | .Name id pos => if env.kindOf id == some .local && pos.line == (ts.head?.map (·.pos.line)).getD 0 then some id else none
    | _ => none) = swNames sc ts := by
  subst h2; rfl
theorem swapped_ok {sc : Scope} {ts vs : List Expr} {kt k2 : Nat} {pt p2 : Pos} {env : Env} {r : Option (List Str)} (h1 : env.blockKind = .function) (h2 : env.scope = sc) (h : swapQ sc ts vs = some r) :
    swappedStores [.Tuple ts kt pt] (.Tuple vs k2 p2) env = pure r := by
  unfold swapQ at h
  unfold swappedStores
  simp only []
  have hb : (env.blockKind != ScopeKind.function) = false := by rw [h1]; rfl
  rw [hb, Bool.or_false]
  subst h2
  by_cases c1 : (!(ts.length == 2 || ts.length == 3) || vs.length != ts.length) = true
  · rw [if_pos c1] at h
    cases h
    rw [if_pos c1]
  rw [if_neg c1] at h
  rw [if_neg c1]
  by_cases c2 : vs.any isStar = true
  · rw [if_pos c2] at h; cases h
  rw [if_neg c2] at h
  have key : (if vs.any isStar = true then pure none else if ((swNames env.scope ts).length != ts.length || (swNames env.scope ts).eraseDups.length != (swNames env.scope ts).length) = true then pure none
    else if vs.all (foldedForSure 8) = true then pure none
    else if vs.all (constantsAlone 8) = true then (do unsupported "assign.tuple-of-constant-expressions:order-of-the-stores"; pure (some (swNames env.scope ts)))
    else pure (some (swNames env.scope ts)) : Sem (Option (List Str))) = pure r := by
    rw [if_neg c2]
    split at h
    · rename_i c3; cases h; rw [if_pos c3]
    rename_i c3
    rw [if_neg c3]
    split at h
    · rename_i c4; cases h; rw [if_pos c4]
    rename_i c4
    rw [if_neg c4]
    split at h
    · cases h
    rename_i c5
    rw [if_neg c5]
    cases h
    rfl
  exact key

section
variable {G : Gs} {cf : Nat → List Slot → CR} {k : Nat} {sc : Scope} {X : Cx}
theorem sole_ok {t e : Expr} {line : Nat} {env : Env} : swapsWithSole [t] e line env = swapsWith e (some t) line env := by first | rfl | simp [swapsWithSole]
theorem trG_tup {fc : Str → Bool} {ts : List Expr} {kt : Nat} {pt : Pos} : trG G fc sc (.Tuple ts kt pt) = (trGs G fc sc ts).map .tup := rfl
theorem trE_lc {n : Nat} {elt : Expr} {gens : List Comprehension} {scope : Scope} {cpos : Pos} {m : ME} (h : trE G sc n (.ListComp elt gens scope cpos) = some m) : ∃ n' tg iter ifs t it c x, n = n' + 1 ∧ gens = [⟨tg, iter, ifs, 0⟩] ∧ (L2.blkC G.N sc scope (ownC G.N scope) && !(isSet iter)) = true ∧
    trI G sc n' (isTupE tg) iter = some it ∧ trG G (fcC scope) (L2.relS scope sc) tg = some t ∧ trIf G (L2.relS scope sc) n' ifs = some c ∧ trE G (L2.relS scope sc) n' elt = some x ∧ (mtSlots t).all (fun i => ((ownC G.N scope).map (·.2)).contains i) = true ∧ m = .comp ((ownC G.N scope).map (·.2)) t it c x := by
  cases n with
  | zero => cases h
  | succ n =>
    unfold trE at h
    split at h <;> first | (rename_i hh; cases hh; done) | skip
    all_goals first | (cases h; done) | skip
    rename_i hh
    cases hh
    obtain ⟨hb, h⟩ := oif h
    obtain ⟨it, h1, h⟩ := obind h
    obtain ⟨t, h2, h⟩ := obind h
    obtain ⟨c, h3, h⟩ := obind h
    obtain ⟨x, h4, h⟩ := obind h
    obtain ⟨h5, h⟩ := oif h
    cases opure h
    exact ⟨n, _, _, _, t, it, c, x, rfl, rfl, hb, h1, h2, h3, h4, h5, rfl⟩
theorem sns_name (o : Okx G cf k (fun _ => true) sc X) (hk : X.env.blockKind = .function) {n : Nat} {x : Str} {p' pos : Pos} {e : Expr} {i : Nat} {m : ME} (h1 : locB (fun _ => true) sc x = true) (h2 : ixN G.N x = some i) (h : trE G sc n e = some m) : PS X (.Assign [.Name x p'] e pos) (tS X.kw (evS cf (.asg (.name i) m))) := by
  obtain ⟨q1, q2⟩ := locB_ok h1
  have q1' : Loc X.env.scope x := by rw [o.hsc]; exact q1
  have hn : X.N.Nodup := by rw [o.hN]; exact o.nd
  have plain : swapsWith e (some (.Name x p')) pos.line X.env = pure false → PS X (.Assign [.Name x p'] e pos) (tS X.kw (evS cf (.asg (.name i) m))) := fun hs =>
    (ps_set hn (o.ix h2) q1' ((good n o).E _ _ h) hs (.inl (o.fn x rfl))).imp asg_imp
  cases hl : isLC e with
  | false => exact plain (pl_swap hl)
  | true =>
    cases e <;> first | (cases hl; done) | skip
    · rename_i elt gens scope cpos
      cases hb : (X.env.blockKind == .function && X.env.kindOf x == some .local && p'.line == cpos.line && !(scope.names.any fun (n, k) => n == x && (k == .local || k == .cell))) with
      | false => exact plain (by rw [swap_lc, hb])
      | true =>
        obtain ⟨n', tg, iter, ifs, t, it, c, y, rfl, rfl, h3, h4, h5, h6, h7, h8, rfl⟩ := trE_lc h
        rw [Bool.and_eq_true, Bool.not_eq_true'] at h3
        have g := good (cf := cf) (k := k) n' o
        have hloc : X.env.kindOf x = some .local := by
          simp only [Bool.and_eq_true] at hb
          simpa using hb.1.1.2
        have ps := ps_setLc (wi := tI X.kw (evI cf it)) (g := tG X.kw t) (tt := tT X.kw (evC cf c)) (te := tE X.kw (evE cf y)) (pos := cpos) (spos := pos) (py := p') (elt := elt) o.calm hn (o.ix h2) hloc (by rw [swap_lc, hb]) (g.I _ _ _ h4) (by rw [o.hN, o.hsc]; exact blkOk_by h3.1) (fun s H C cl fp => trG_ok (o.blk s H _ C cl fp) h5)
          (fun s H C cl fp => (good n' (o.blk s H _ C cl fp)).If _ _ h6) (fun s H C cl fp => (good n' (o.blk s H _ C cl fp)).E _ _ h7) (set_ok h3.2)
        refine ps.imp fun D σ H q => lc_imp (fun i hi => ?_) σ H _ (asg_imp D σ H q)
        rw [List.all_eq_true] at h8
        have := h8 i (by rw [slots_eq]; exact hi)
        simpa using this
    · cases n with
      | zero => cases h
      | succ n => unfold trE at h; cases h
    · cases n with
      | zero => cases h
      | succ n => unfold trE at h; cases h
theorem parNs_ok (o : Okx G cf k (fun _ => true) sc X) : ∀ {ts : List Expr} {is : List Nat}, parNs G sc ts = some is → PGs X ts (gAll is) ∧ ts.all (fun a => !isStar a) = true ∧ is.length = ts.length
  | [], is, h => by cases h; exact ⟨pgs_nil, rfl, rfl⟩
  | .Name x p :: r, is, h => by
    unfold parNs at h
    obtain ⟨h1, h⟩ := oif h
    obtain ⟨i, h2, h⟩ := obind h
    obtain ⟨is', h3, h⟩ := obind h
    obtain ⟨h4, h⟩ := oifn h
    cases opure h
    obtain ⟨q1, q2, q3⟩ := parNs_ok o h3
    obtain ⟨w1, w2⟩ := locB_ok h1
    refine ⟨pgs_cons (pg_name (by rw [o.hN]; exact o.nd) (o.ix h2) (by rw [o.hsc]; exact w1) (.inl (o.fn x rfl))) q1 (asg_cons rfl), by simpa [isStar] using q2, by simp [q3]⟩
theorem filterMap_all {α β : Type} {f : α → Option β} : ∀ {l : List α}, (l.filterMap f).length = l.length → ∀ x ∈ l, (f x).isSome = true
  | [], _, x, h => by simp at h
  | y :: l, hl, x, h => by
    have hle := List.length_filterMap_le f l
    cases hy : f y with
    | none =>
      rw [List.filterMap_cons_none hy] at hl
      simp only [List.length_cons] at hl; omega
    | some b =>
      rw [List.filterMap_cons_some hy] at hl
      simp only [List.length_cons] at hl
      rcases List.mem_cons.mp h with rfl | h
      · rw [hy]; rfl
      · exact filterMap_all (by omega) x h
theorem swap_loc {ts vs : List Expr} {ns : List Str} (hq : swapQ sc ts vs = some (some ns)) {x : Str} {p : Pos} (hx : Expr.Name x p ∈ ts) : sc.names.lookup x = some .local := by
  unfold swapQ at hq
  split at hq
  · cases hq
  split at hq
  · cases hq
  split at hq
  · cases hq
  rename_i c
  simp only [Bool.or_eq_true, not_or, Bool.not_eq_true, bne_eq_false_iff_eq] at c
  have := filterMap_all (show ((ts.filterMap _).length = ts.length) from c.1) _ hx
  simp only at this
  by_cases e : (sc.names.lookup x == some NameKind.local && p.line == (ts.head?.map (·.pos.line)).getD 0) = true
  · rw [Bool.and_eq_true] at e
    simpa using e.1
  · rw [if_neg e] at this; cases this
theorem trA_ok (o : Okx G cf k (fun _ => true) sc X) (hk : X.env.blockKind = .function) {n : Nat} {tg e : Expr} {s : MS} {pos : Pos} (h : trA G sc n tg e = some s) : PS X (.Assign [tg] e pos) (tS X.kw (evS cf s)) := by
  have g := good (cf := cf) (k := k) n o
  have hn : X.N.Nodup := by rw [o.hN]; exact o.nd
  unfold trA at h
  split at h
  · rename_i x p
    obtain ⟨h1, h⟩ := oif h
    obtain ⟨i, h2, h⟩ := obind h
    obtain ⟨m, h3, h⟩ := obind h
    cases opure h
    exact sns_name o hk h1 h2 h3
  · rename_i ts kt pt
    split at h
    · rename_i vs k2 p2
      split at h
      · rename_i hq
        split at h
        · rename_i is hp
          obtain ⟨es, h1, h⟩ := obind h
          obtain ⟨hz, h⟩ := oif h
          cases opure h
          obtain ⟨q1, q2, q3⟩ := parNs_ok o hp
          obtain ⟨q4, q5⟩ := asg_nostar (env := X.env) q2
          exact sns_parN (ps_parT o.calm (g.Es _ _ h1).1 hz.2 q1 (q4.trans q3.symm) q5 (by rw [sole_ok]; exact pl_swap rfl) (swapped_ok hk o.hsc hq) (asg_cons rfl))
        · obtain ⟨t, h1, h⟩ := obind h
          obtain ⟨m, h2, h⟩ := obind h
          cases opure h
          exact sns_asg_tup (g.E _ _ h2) (trG_ok o (by rw [trG_tup, h1]; rfl)) (by rw [sole_ok]; exact pl_swap rfl) (swapped_ok hk o.hsc hq) (asg_cons rfl)
      · rename_i ns hq
        split at h
        · rename_i x px y py a b
          obtain ⟨hns, h⟩ := oif h
          obtain ⟨is, h1, h⟩ := obind h
          obtain ⟨es, h2, h⟩ := obind h
          cases opure h
          have hw : swappedStores [.Tuple [.Name x px, .Name y py] kt pt] (.Tuple [a, b] k2 p2) X.env = pure (some [x, y]) := by rw [← hns]; exact swapped_ok hk o.hsc hq
          unfold parNs at h1
          obtain ⟨_, h1⟩ := oif h1
          obtain ⟨i, i1, h1⟩ := obind h1
          obtain ⟨is1, h3, h1⟩ := obind h1
          obtain ⟨c1, h1⟩ := oifn h1
          cases opure h1
          unfold parNs at h3
          obtain ⟨_, h3⟩ := oif h3
          obtain ⟨j, i2, h3⟩ := obind h3
          obtain ⟨is2, h4, h3⟩ := obind h3
          obtain ⟨c2, h3⟩ := oifn h3
          cases opure h3
          cases h4
          have hij : i ≠ j := by simpa using c1
          exact sns_parN (ps_parN2 (ps_par o.calm hn (o.ix i1) (o.ix i2) hij (by rw [o.hsc]; exact swap_loc hq (List.mem_cons_self ..)) (by rw [o.hsc]; exact swap_loc hq (List.mem_cons_of_mem _ (List.mem_cons_self ..))) (g.Es _ _ h2).1 hw (by rw [sole_ok]; exact pl_swap rfl)))
        · rename_i x px y py z pz a b c
          obtain ⟨hns, h⟩ := oif h
          obtain ⟨is, h1, h⟩ := obind h
          obtain ⟨es, h2, h⟩ := obind h
          cases opure h
          have hw : swappedStores [.Tuple [.Name x px, .Name y py, .Name z pz] kt pt] (.Tuple [a, b, c] k2 p2) X.env = pure (some [x, y, z]) := by rw [← hns]; exact swapped_ok hk o.hsc hq
          unfold parNs at h1
          obtain ⟨_, h1⟩ := oif h1
          obtain ⟨i, i1, h1⟩ := obind h1
          obtain ⟨is1, h3, h1⟩ := obind h1
          obtain ⟨c1, h1⟩ := oifn h1
          cases opure h1
          unfold parNs at h3
          obtain ⟨_, h3⟩ := oif h3
          obtain ⟨j, i2, h3⟩ := obind h3
          obtain ⟨is2, h4, h3⟩ := obind h3
          obtain ⟨c2, h3⟩ := oifn h3
          cases opure h3
          unfold parNs at h4
          obtain ⟨_, h4⟩ := oif h4
          obtain ⟨l, i3, h4⟩ := obind h4
          obtain ⟨is3, h5, h4⟩ := obind h4
          obtain ⟨c3, h4⟩ := oifn h4
          cases opure h4
          cases h5
          have hjl : j ≠ l := by simpa using c2
          have hil : i ≠ j ∧ i ≠ l := by simpa using c1
          exact sns_parN (ps_parN3 (ps_par3 o.calm hn (o.ix i1) (o.ix i2) (o.ix i3) hil.1 hil.2 hjl (by rw [o.hsc]; exact swap_loc hq (List.mem_cons_self ..)) (by rw [o.hsc]; exact swap_loc hq (List.mem_cons_of_mem _ (List.mem_cons_self ..))) (by rw [o.hsc]; exact swap_loc hq (List.mem_cons_of_mem _ (List.mem_cons_of_mem _ (List.mem_cons_self ..)))) (g.Es _ _ h2).1 hw (by rw [sole_ok]; exact pl_swap rfl)))
        · cases h
      · cases h
    · rename_i hne
      obtain ⟨t, h1, h⟩ := obind h
      obtain ⟨m, h2, h⟩ := obind h
      cases opure h
      refine sns_asg_tup (g.E _ _ h2) (trG_ok o (by rw [trG_tup, h1]; rfl)) ?_ ?_ (asg_cons rfl)
      · rw [sole_ok]
        unfold swapsWith
        cases e <;> rfl
      · unfold swappedStores
        cases e <;> first | rfl | skip
        exact absurd rfl (hne _ _ _)
  · rename_i x p i p'
    obtain ⟨h1, h⟩ := oif h
    obtain ⟨j, h2, h⟩ := obind h
    obtain ⟨mi, h3, h⟩ := obind h
    obtain ⟨m, h4, h⟩ := obind h
    cases opure h
    simp only [Bool.and_eq_true, Bool.not_eq_true'] at h1
    refine sns_asgIx o.room (g.E _ _ h4) (snd_name o h1.1.1 h1.1.2 h2) (g.E _ _ h3) (fun v => ?_) ?_ ?_ (asg_cons rfl)
    · cases i <;> first | rfl | (cases h1.2; done)
    · rw [sole_ok]
      unfold swapsWith
      cases e <;> rfl
    · rfl
  · cases h
/-- the statements of a body -/
theorem trS_ok (o : Okx G cf k (fun _ => true) sc X) (hk : X.env.blockKind = .function) : ∀ n : Nat, (∀ s m, trS G sc n s = some m → PS X s (tS X.kw (evS cf m))) ∧ (∀ ss m, trSs G sc n ss = some m → PSs X ss (tS X.kw (evSs cf m)))
  | 0 => ⟨fun _ _ h => (nomatch h), fun _ _ h => (nomatch h)⟩
  | n + 1 => by
    obtain ⟨ih1, ih2⟩ := trS_ok o hk n
    have g := good (cf := cf) (k := k) n o
    have hn : X.N.Nodup := by rw [o.hN]; exact o.nd
    refine ⟨fun s m h => ?_, fun ss m h => ?_⟩
    · unfold trS at h
      split at h
      · cases h
        exact ps_doc.imp fun D σ H ⟨F, e, fl, e', R, q, w⟩ => by
          obtain ⟨p1, p2⟩ := pure_ok (show (pure Fl.nx : M Fl) e = .ok fl e' from by unfold evS at q; exact q)
          subst p1 p2
          exact w σ F H R .refl
      · obtain ⟨hc, h⟩ := oif h
        obtain ⟨m, h1, h⟩ := obind h
        cases opure h
        exact sns_expr (g.E _ _ h1) (call_swap hc)
      · exact trA_ok o hk h
      · rename_i x p op e pos
        obtain ⟨h1, h⟩ := oif h
        obtain ⟨i, h2, h⟩ := obind h
        obtain ⟨m, h3, h⟩ := obind h
        cases opure h
        obtain ⟨q1, q2⟩ := locB_ok h1
        exact sns_aug (fun te ti ha hp => ps_aug hn (o.ix h2) (by rw [o.hsc]; exact q1) ha hp (.inl (o.fn x rfl))) (g.E _ _ h3)
      · rename_i x p i p' op e pos
        obtain ⟨h1, h⟩ := oif h
        obtain ⟨j, h2, h⟩ := obind h
        obtain ⟨mi, h3, h⟩ := obind h
        obtain ⟨m, h4, h⟩ := obind h
        cases opure h
        simp only [Bool.and_eq_true, Bool.not_eq_true'] at h1
        exact sns_augIx o.room (snd_name o h1.1.1 h1.1.2 h2) (g.E _ _ h3) (g.E _ _ h4) fun ov iv new => by cases i <;> first | rfl | (cases h1.2; done)
      · cases h; exact sns_retN
      · obtain ⟨m, h1, h⟩ := obind h
        cases opure h
        exact sns_ret (g.E _ _ h1)
      · obtain ⟨c, h1, h⟩ := obind h
        obtain ⟨a, h2, h⟩ := obind h
        obtain ⟨b, h3, h⟩ := obind h
        cases opure h
        exact sns_ife (g.T _ _ h1) (ih2 _ _ h2) (ih2 _ _ h3)
      · obtain ⟨hs, h⟩ := oifn h
        obtain ⟨t, h1, h⟩ := obind h
        obtain ⟨it, h2, h⟩ := obind h
        obtain ⟨b, h3, h⟩ := obind h
        cases opure h
        exact sns_for o.xe o.calm (g.I _ _ _ h2) (trG_ok o h1) (ih2 _ _ h3) (set_ok (by simpa using hs))
      · obtain ⟨c, h1, h⟩ := obind h
        obtain ⟨b, h3, h⟩ := obind h
        cases opure h
        exact sns_whl o.xe (g.T _ _ h1) (ih2 _ _ h3)
      · cases h; exact sns_brk
      · cases h; exact sns_cnt
      · cases h; exact sns_pass
      · cases h
    · unfold trSs at h
      split at h
      · cases h; exact sns_nil
      · obtain ⟨a, h1, h⟩ := obind h
        obtain ⟨r, h2, h⟩ := obind h
        cases opure h
        exact sns_cons (ih1 _ _ h1) (ih2 _ _ h2)
end
end Ev
/-! a def of the text does what the evaluator says -/
namespace Ev
open PySem PySem.Spec PyProof.Rows L2
section
variable {K : KW} {F F0 F' H H0 H' : Hp} {σ' : S2} {e e' as : En} {vs : List V} {v : V} {r : RV} {outs : List Slot} {n : Nat}
def σs (vs : List V) (n : Nat) : S2 := vs.map some ++ List.replicate n none
def es0 (as : En) (n : Nat) : En := as ++ List.replicate n .no
theorem es0_at {i : Nat} {s : Slot} (h : (es0 as n)[i]? = some s) : as[i]? = some s ∨ s = .no := by
  unfold es0 at h
  by_cases hi : i < as.length
  · rw [List.getElem?_append_left hi] at h; exact .inl h
  · rw [List.getElem?_append_right (by omega)] at h
    obtain ⟨_, h⟩ := List.getElem?_eq_some_iff.mp h
    right; rw [← h]; simp
theorem σs_at {i : Nat} (hi : i < vs.length) : (σs vs n)[i]? = (vs.map some)[i]? := by
  unfold σs
  rw [List.getElem?_append_left (by simpa using hi)]
theorem own_start (hl : as.length = vs.length) {i : Nat} {a : Addr} (h : OwnAt (σs vs n) (es0 as n) i a) : OwnAt (vs.map some) as i a := by
  obtain ⟨s, h1, h2, h3⟩ := h
  rcases es0_at h1 with h | rfl
  · have hi : i < as.length := (List.getElem?_eq_some_iff.mp h).1
    exact ⟨s, h, h2, by rw [σs_at (by omega)] at h3; exact h3⟩
  · cases h2
theorem rr_start (R : RR K F H (vs.map some) as) : RR K F H (σs vs n) (es0 as n) where
  fz := R.fz
  len := by have := R.len; simp only [List.length_map] at this; simp [es0, σs, this]
  dis := fun i j a hi hj => R.dis i j a (own_start (by simpa using R.len) hi) (own_start (by simpa using R.len) hj)
  at_ := fun i s h => by
    rcases es0_at h with h | rfl
    · have hi : i < as.length := (List.getElem?_eq_some_iff.mp h).1
      rw [σs_at (by have := R.len; simp only [List.length_map] at this; omega)]
      exact R.at_ i s h
    · trivial
theorem mask_at : ∀ {as e : En} {i : Nat} {ob : Ob}, (maskOuts as e)[i]? = some (.pa ob) → e[i]? = some (.pa ob)
  | [], _, _, _, h => by simp [maskOuts] at h
  | _ :: _, [], _, _, h => by
    rename_i s _ _ _
    cases s <;> simp [maskOuts] at h
  | s :: as, t :: e, 0, ob, h => by
    cases s <;> cases t <;> first | (simp [maskOuts] at h; done) | (simp [maskOuts] at h ⊢; exact h)
  | s :: as, t :: e, i + 1, ob, h => by
    have : (maskOuts as e)[i]? = some (.pa ob) := by
      cases s <;> cases t <;> simpa [maskOuts] using h
    simpa using mask_at this
theorem cp_make (R : RR K F H (vs.map some) as) (R' : RR K F' H' σ' e') (S : Stp (σs vs n) F H (es0 as n) σ' F' H' e') (res : RvR K F' H' v r) (frs : Frs H v r) : CP K F H vs as r (maskOuts as e') v F' H' := by
  have hl : as.length = vs.length := by simpa using R.len
  refine ⟨R'.fz, S.fr, fun b o h w => S.keep b o h fun i z => w i (own_start hl z), fun b o h => ?_, S.ex, res, frs, fun i ob ob' a h1 h2 h3 => ?_⟩
  · rcases S.nw b o h with z | z | ⟨i, z⟩
    · exact .inl z
    · exact .inr (.inl z)
    · exact .inr (.inr ⟨i, own_start hl z⟩)
  · have h4 := mask_at h3
    obtain ⟨o', _, h5⟩ := S.pas i ob' h4
    obtain ⟨b, e1, e2, e3⟩ := R'.at_ i _ h4
    have hi : i < as.length := (List.getElem?_eq_some_iff.mp h1).1
    rw [h5, σs_at (by omega), List.getElem?_map, h2] at e1
    cases e1
    exact ⟨e2, e3⟩
theorem fin_ok {o : Opd} {Q : VK} (now : ∀ (i : Nat) (o : Ob), as[i]? ≠ some (.ow o)) (R : RR K F H (vs.map some) as) (R' : RR K F' H' σ' e') (S : Stp (σs vs n) F H (es0 as n) σ' F' H' e') (h : OR K F' H' σ' e' v o) (hf : FrO H v o)
    (q : finish as o e' = .ok r outs) (w : ∀ v F' H', CP K F H vs as r outs v F' H' → Q v H') : Q v H' := by
  cases o with
  | val d => cases q; exact w _ _ _ (cp_make R R' S h trivial)
  | new b =>
    cases q
    obtain ⟨a, rfl, h1, h2, h3⟩ := h
    exact w _ _ _ (cp_make R R' S (r := .new b) ⟨a, rfl, h1, h3⟩ hf)
  | slot i =>
    have h0 : σ'[i]? = some (some v) := h
    have q : (match e'[i]? with
      | some (.sh d) => CR.ok (.val d) (maskOuts as e')
      | some (.ow b) => .ok (.new b) (maskOuts as e')
      | some (.pa (.lst xs)) => .ok (.val (.list xs)) (maskOuts as (e'.set i (.sh (.list xs))))
      | _ => .er .bad) = .ok r outs := q
    cases hs : e'[i]? with
    | none => rw [hs] at q; cases q
    | some s =>
      rw [hs] at q
      have at_ := R'.at_ i s hs
      cases s with
      | no => cases q
      | sh d =>
        cases q
        obtain ⟨v', e1, e2⟩ := at_
        rw [h0] at e1; cases e1
        exact w _ _ _ (cp_make R R' S (r := .val d) e2 trivial)
      | ow b =>
        cases q
        obtain ⟨a, e1, e2, e3⟩ := at_
        rw [h0] at e1; cases e1
        refine w _ _ _ (cp_make R R' S (r := .new b) ⟨a, rfl, e2, e3⟩ fun a' ha => ?_)
        cases ha
        rcases S.ows i a ⟨b, hs, h0⟩ with ⟨j, o2, z1, _⟩ | z
        · rcases es0_at z1 with z | z
          · exact absurd z (now j o2)
          · cases z
        · exact z
      | pa b =>
        cases b with
        | dct _ => cases q
        | dic _ => cases q
        | lst xs =>
          cases q
          have qe : escM (.slot i) e' = .ok (.list xs) (e'.set i (.sh (.list xs))) := by
            show (match e'[i]? with
              | some (.sh d) => Ev.R.ok d e'
              | some (.ow (.lst xs)) => .ok (.list xs) (e'.set i (.sh (.list xs)))
              | some (.pa (.lst xs)) => .ok (.list xs) (e'.set i (.sh (.list xs)))
              | _ => .er .bad e') = _
            rw [hs]
          obtain ⟨F2, R2, S2, r2, _, _⟩ := esc_ok R' S h hf qe
          exact w _ _ _ (cp_make R R2 S2 (r := .val (.list xs)) r2 trivial)
/-- a body, from its entry -/
theorem body_ok {cf : Nat → List Slot → CR} {fd : Fd} {Q : VK} (R : RR K F H (vs.map some) as) (now : ∀ (i : Nat) (o : Ob), as[i]? ≠ some (.ow o)) (q : runFd cf fd as = .ok r outs) (w : ∀ v F' H', CP K F H vs as r outs v F' H' → Q v H') :
    tS K (evSs cf fd.body) { nx := fun _ H' => Q .non H', rt := Q } (σs vs (fd.nv - fd.np)) H := by
  unfold runFd at q
  split at q
  · refine ⟨F, es0 as (fd.nv - fd.np), ?_⟩
    have q : (match evSs cf fd.body (es0 as (fd.nv - fd.np)) with
      | .ok .nx e => finish as (.val .none) e
      | .ok (.ret o) e => finish as o e
      | .ok _ _ => .er .bad
      | .er x _ => .er x) = .ok r outs := q
    cases hb : evSs cf fd.body (es0 as (fd.nv - fd.np)) with
    | er x e1 => rw [hb] at q; cases q
    | ok fl e1 =>
      rw [hb] at q
      refine ⟨fl, e1, rr_start R, rfl, ?_⟩
      cases fl with
      | nx => exact fun σ' F' H' R' S' => fin_ok now R R' S' (o := .val .none) .non trivial q w
      | brk => cases q
      | cnt => cases q
      | ret o => exact fun v σ' F' H' R' S' O N => fin_ok now R R' S' O N q w
  · cases q
end
/-- one def of the text: its place, its statement, what it turns into -/
structure DefT (K : PySem.W.Frag) (mg : Str → Option Value) (fs : List Fd) (G : Gs) (x : Str) (j : Nat) : Prop where
  ex : ∃ (st : Stmt) (f : Addr) (fd : FuncData) (N ps : List Str) (F : Fd) (fuel : Nat), Fun K x x st f fd ∧ mg x = some (.ref f) ∧ Binds K fd ps [] ∧ FnScope N ps (defScope st) ∧ fs[j]? = some F ∧ F.np = ps.length ∧ F.nv = N.length ∧
    trSs { G with N := N } (defScope st) fuel (defBody st) = some F.body
structure Prg (K : PySem.W.Frag) (mg : Str → Option Value) (fs : List Fd) (G : Gs) : Prop where
  defs : ∀ x j, G.fns.lookup x = some j → DefT K mg fs G x j
  consts : ∀ x d, G.consts.lookup x = some d → ∃ v u, mg x = some u ∧ RelV v u ∧ ∀ F, Rp K F v d
  blt : ∀ x, G.blt.contains x = true → mg x = none
theorem fn_of_body {P : Program} {w : World} {K : PySem.W.Frag} {mg : Str → Option Value} {base : Heap} {fs : List Fd} {G : Gs} {n j : Nat} {x : Str} {st : Stmt} {f : Addr} {fd : FuncData} {N ps : List Str} {F : Fd} {fuel : Nat}
    (hfs : ∀ (x : Str) (j : Nat), G.fns.lookup x = some j → ∃ (f : Addr) (fd : FuncData) (ps : List Str), FnOk P w K mg base CX0 n f fd ps (spE ⟨K, P, w⟩ (callN fs n j)) ∧ mg x = some (.ref f) ∧ PySem.W.keepIn K (.ref f) = true ∧ Binds K fd ps [])
    (p : Prg K mg fs G) (hf : Fun K x x st f fd) (hs : FnScope N ps (defScope st)) (hF : fs[j]? = some F) (hnp : F.np = ps.length) (hnv : F.nv = N.length) (ht : trSs { G with N := N } (defScope st) fuel (defBody st) = some F.body) :
    FnOk P w K mg base CX0 (n + 1) f fd ps (spE ⟨K, P, w⟩ (callN fs (n + 1) j)) := by
  have hc : ∀ as, callN fs (n + 1) j as = runFd (callN fs n) F as := fun as => callN_succ hF
  have hlen : ∀ {vs : List V} {H : Hp} {Q : VK} {E : XK}, spE ⟨K, P, w⟩ (callN fs (n + 1) j) vs H Q E → vs.length = ps.length := fun {vs H Q E} ⟨F1, as, r, outs, R, _, q, _⟩ => by
    rw [hc] at q
    unfold runFd at q
    split at q
    · have := R.len; simp only [List.length_map] at this; omega
    · cases q
  refine hf.ok hs (fun vs H Q E q => hlen q) fun cdv A outer s H vs Q E room sp => ?_
  have hl := hlen sp
  obtain ⟨F1, as, r, outs, R, now, q, wq⟩ := sp
  rw [hc] at q
  have o : Okx { G with N := N } (callN fs n) n (fun _ => true) (defScope st) (cxOf CX0 P w K mg base N x (defScope st) f cdv A outer s H E).nox :=
    ⟨rfl, hs.nd, rfl, rfl, rfl, room, fun _ _ => rfl, fun x j h => hfs x j h, p.consts, p.blt⟩
  have hk : (cxOf CX0 P w K mg base N x (defScope st) f cdv A outer s H E).nox.env.blockKind = .function := by
    show (if (defScope st).kind.isAnnotationScope then ScopeKind.function else (defScope st).kind) = _
    rw [hs.kind]; rfl
  refine ⟨_, (trS_ok o hk fuel).2 _ _ ht, ?_⟩
  have := body_ok R now q wq
  rw [hnv, hnp, ← hl] at this
  exact this
theorem fns_ok {P : Program} {w : World} {K : PySem.W.Frag} {mg : Str → Option Value} {base : Heap} {fs : List Fd} {G : Gs} (p : Prg K mg fs G) : ∀ (n : Nat) (x : Str) (j : Nat), G.fns.lookup x = some j →
    ∃ (f : Addr) (fd : FuncData) (ps : List Str), FnOk P w K mg base CX0 n f fd ps (spE ⟨K, P, w⟩ (callN fs n j)) ∧ mg x = some (.ref f) ∧ PySem.W.keepIn K (.ref f) = true ∧ Binds K fd ps []
  | 0, x, j, h => by
    obtain ⟨st, f, fd, N, ps, F, fuel, hf, hm, hb, _⟩ := (p.defs x j h).ex
    have no : ∀ vs H Q E, ¬ spE ⟨K, P, w⟩ (callN fs 0 j) vs H Q E := fun vs H Q E ⟨F, as, r, outs, _, _, q, _⟩ => by rw [callN_zero] at q; cases q
    exact ⟨f, fd, ps, ⟨fun vs H Q E q => absurd q (no vs H Q E), fun _ _ _ _ _ _ _ _ _ _ _ _ _ q => absurd q (no _ _ _ _)⟩, hm, hf.kp, hb⟩
  | n + 1, x, j, h => by
    obtain ⟨st, f, fd, N, ps, F, fuel, hf, hm, hb, hs, hF, hnp, hnv, ht⟩ := (p.defs x j h).ex
    exact ⟨f, fd, ps, fn_of_body (fns_ok p n) p hf hs hF hnp hnv ht, hm, hf.kp, hb⟩
end Ev
/-! a law at its end -/
namespace Ev
open PySem PySem.Spec PyProof.Rows L2
def scr (ns : List Int) : D := .dict (ns.map fun n => (.none, .int n))
def AllD (K : PySem.W.Frag) (mg : Str → Option Value) (fs : List Fd) (G : Gs) : List (Str × Nat) → Prop
  | [] => True
  | p :: r => DefT K mg fs G p.1 p.2 ∧ AllD K mg fs G r
theorem AllD.get {K : PySem.W.Frag} {mg : Str → Option Value} {fs : List Fd} {G : Gs} : ∀ {l : List (Str × Nat)}, AllD K mg fs G l → ∀ x j, l.lookup x = some j → DefT K mg fs G x j
  | [], _, x, j, h => by simp at h
  | (y, i) :: r, ⟨h1, h2⟩, x, j, h => by
    rw [List.lookup_cons] at h
    split at h
    · rename_i e
      cases h
      rw [beq_iff_eq.mp e]; exact h1
    · exact AllD.get h2 x j h
def AllC (K : PySem.W.Frag) (mg : Str → Option Value) : List (Str × D) → Prop
  | [] => True
  | p :: r => (∃ v u, mg p.1 = some u ∧ RelV v u ∧ ∀ F, Rp K F v p.2) ∧ AllC K mg r
theorem AllC.get {K : PySem.W.Frag} {mg : Str → Option Value} : ∀ {l : List (Str × D)}, AllC K mg l → ∀ x d, l.lookup x = some d → ∃ v u, mg x = some u ∧ RelV v u ∧ ∀ F, Rp K F v d
  | [], _, x, j, h => by simp at h
  | (y, i) :: r, ⟨h1, h2⟩, x, j, h => by
    rw [List.lookup_cons] at h
    split at h
    · rename_i e
      cases h
      rw [beq_iff_eq.mp e]; exact h1
    · exact AllC.get h2 x j h
def AllB (mg : Str → Option Value) : List Str → Prop
  | [] => True
  | x :: r => mg x = none ∧ AllB mg r
theorem AllB.get {mg : Str → Option Value} : ∀ {l : List Str}, AllB mg l → ∀ x, l.contains x = true → mg x = none
  | [], _, x, h => by simp at h
  | y :: r, ⟨h1, h2⟩, x, h => by
    rw [List.contains_cons, Bool.or_eq_true] at h
    rcases h with h | h
    · rw [beq_iff_eq.mp h]; exact h1
    · exact AllB.get h2 x h
theorem const_int {K : PySem.W.Frag} {mg : Str → Option Value} {x : Str} {i : Int} {t : Tok} (h : mg x = some (.int i t)) : ∃ v u, mg x = some u ∧ RelV v u ∧ ∀ F, Rp K F v (.int i) := ⟨.int i, _, h, ⟨t, rfl⟩, fun _ => .int i⟩
theorem const_str {K : PySem.W.Frag} {mg : Str → Option Value} {x i : Str} {t : Tok} (h : mg x = some (.str i t)) : ∃ v u, mg x = some u ∧ RelV v u ∧ ∀ F, Rp K F v (.str i) := ⟨.str i, _, h, ⟨t, rfl⟩, fun _ => .str i⟩
/-- what a constant's item is -/
def CItem (K : PySem.W.Frag) (u : Value) (d : D) : Prop := (∃ i t, u = .int i t ∧ d = .int i) ∨ (∃ i t, u = .str i t ∧ d = .str i) ∨ (∃ b, u = .bool b ∧ d = .bool b)
def CItems (K : PySem.W.Frag) : List Value → List D → Prop
  | [], [] => True
  | u :: us, d :: ds => CItem K u d ∧ CItems K us ds
  | _, _ => False
theorem citem_rel {K : PySem.W.Frag} {u : Value} {d : D} (h : CItem K u d) : ∃ v, RelV v u ∧ ∀ F, Rp K F v d := by
  rcases h with ⟨i, t, rfl, rfl⟩ | ⟨i, t, rfl, rfl⟩ | ⟨b, rfl, rfl⟩
  · exact ⟨.int i, ⟨t, rfl⟩, fun _ => .int i⟩
  · exact ⟨.str i, ⟨t, rfl⟩, fun _ => .str i⟩
  · exact ⟨.bl b, rfl, fun _ => .bl b⟩
theorem citems_rel {K : PySem.W.Frag} : ∀ {us : List Value} {ds : List D}, CItems K us ds → ∃ vs, Vals vs us ∧ ∀ F, RpAll K F vs ds
  | [], [], _ => ⟨[], .nil, fun _ => .nil⟩
  | u :: us, d :: ds, ⟨h1, h2⟩ => by
    obtain ⟨v, q1, q2⟩ := citem_rel h1
    obtain ⟨vs, q3, q4⟩ := citems_rel h2
    exact ⟨v :: vs, .cons q1 q3, fun F => .cons (q2 F) (q4 F)⟩
theorem const_tup {K : PySem.W.Frag} {mg : Str → Option Value} {x : Str} {a : Addr} {us : List Value} {n : Nat} {sl : Array (Option Value)} {ds : List D} (h : mg x = some (.ref a)) (hl : K.lookup a = some ⟨.type "tuple", none, .seq us.toArray n, sl⟩) (hz : us.length ≤ 1000) (hi : CItems K us ds) : ∃ v u, mg x = some u ∧ RelV v u ∧ ∀ F, Rp K F v (.tuple ds) := by
  obtain ⟨vs, q1, q2⟩ := citems_rel hi
  exact ⟨.ref a, _, h, rfl, fun F => .tup (.inr ⟨_, us.toArray, n, hl, rfl, rfl, rfl, by rw [List.size_toArray]; have := PySem.sizeLine_eq; omega, by simpa using q1⟩) (q2 F)⟩
theorem deft {K : PySem.W.Frag} {mg : Str → Option Value} {fs : List Fd} {G : Gs} {x : Str} {j : Nat} {st : Stmt} {f : Addr} {fd : FuncData} {N ps : List Str} {F : Fd} {fuel : Nat} (h1 : Fun K x x st f fd) (h2 : mg x = some (.ref f)) (h3 : Binds K fd ps []) (h4 : FnScope N ps (defScope st)) (h5 : fs[j]? = some F)
    (h6 : F.np = ps.length) (h7 : F.nv = N.length) (h8 : trSs { G with N := N } (defScope st) fuel (defBody st) = some F.body) : DefT K mg fs G x j := ⟨st, f, fd, N, ps, F, fuel, h1, h2, h3, h4, h5, h6, h7, h8⟩
theorem prg {K : PySem.W.Frag} {mg : Str → Option Value} {fs : List Fd} {G : Gs} (h1 : AllD K mg fs G G.fns) (h2 : AllC K mg G.consts) (h3 : AllB mg G.blt) : Prg K mg fs G := ⟨h1.get, h2.get, h3.get⟩
/-- the law's own def -/
theorem law_fn {P : Program} {w : World} {K : PySem.W.Frag} {mg : Str → Option Value} {base : Heap} {fs : List Fd} {G : Gs} {j : Nat} {st : Stmt} {f : Addr} {fd : FuncData} {N ps : List Str} {F : Fd} {fuel : Nat} (p : Prg K mg fs G) (n : Nat) (x : Str) (h1 : Fun K x x st f fd) (h4 : FnScope N ps (defScope st)) (h5 : fs[j]? = some F)
    (h6 : F.np = ps.length) (h7 : F.nv = N.length) (h8 : trSs { G with N := N } (defScope st) fuel (defBody st) = some F.body) : FnOk P w K mg base CX0 (n + 1) f fd ps (spE ⟨K, P, w⟩ (callN fs (n + 1) j)) := fn_of_body (fns_ok p n) p h1 h4 h5 h6 h7 h8
theorem law_sp {K : KW} {H : Hp} {a : Addr} {ns : List Int} {c : List Slot → CR} {outs : List Slot} {E : XK} (hS : SqL K H a (ns.map V.int)) (h : c [.sh (scr ns)] = .ok (.val (.bool true)) outs) : spE K c [.ref a] H (fun v _ => v = .bl true) E := by
  refine ⟨H, [.sh (scr ns)], .val (.bool true), outs, ⟨.refl _, rfl, fun i s hs => ?_, fun i j b hi hj => ?_⟩, fun i o hi => ?_, h, fun v F' H' c => ?_⟩
  · match i, hs with
    | 0, hs => cases hs; exact ⟨.ref a, rfl, .frz hS⟩
    | i + 1, hs => simp at hs
  · obtain ⟨s, h1, h2, _⟩ := hi
    match i, h1 with
    | 0, h1 => cases h1; cases h2
    | i + 1, h1 => simp at h1
  · match i, hi with
    | 0, hi => cases hi
    | i + 1, hi => simp at hi
  · have r : Rp K F' v (.bool true) := c.res
    cases r; rfl
end Ev
/-! words to reckon with the evaluator -/
namespace Ev
open PySem
def Ok {α : Type} (r : R α) (Q : α → En → Prop) : Prop := match r with
  | .ok a e => Q a e
  | .er _ _ => False
def COk (r : CR) (Q : RV → List Slot → Prop) : Prop := match r with
  | .ok a e => Q a e
  | .er _ => False
/-- there is a value, and it is so -/
def oS {α : Type} (o : Option α) (Q : α → Prop) : Prop := match o with
  | some a => Q a
  | none => False
section
variable {α β : Type} {Q : α → Prop}
@[simp] theorem oS_some {a : α} : oS (some a) Q = Q a := (rfl)
@[simp] theorem oS_none : oS none Q = False := (rfl)
@[simp] theorem oS_ite {c : Prop} [Decidable c] {x y : Option α} : oS (if c then x else y) Q = if c then oS x Q else oS y Q := by split <;> rfl
@[simp] theorem oS_map {o : Option β} {f : β → α} : oS (o.map f) Q = oS o fun a => Q (f a) := by cases o <;> rfl
@[simp] theorem oS_bind {o : Option β} {f : β → Option α} : oS (o.bind f) Q = oS o fun a => oS (f a) Q := by cases o <;> rfl
theorem oS_iff {o : Option α} : oS o Q ↔ ∃ a, o = some a ∧ Q a := by cases o <;> simp [oS]
theorem oS_of {o : Option α} {a : α} (h : o = some a) : oS o Q = Q a := by rw [h]; rfl
end
/-- there is a number -/
def oI (o : Option D) (Q : Int → Prop) : Prop := match o with
  | some (.int i) => Q i
  | _ => False
@[simp] theorem oI_int {i : Int} {Q : Int → Prop} : oI (some (.int i)) Q = Q i := (rfl)
section
variable {α β : Type} {Q : α → En → Prop} {e e' : En}
@[simp] theorem ok_ok {a : α} : Ok (.ok a e) Q = Q a e := (rfl)
@[simp] theorem ok_er {x : Err} : Ok (.er x e : R α) Q = False := (rfl)
theorem ok_iff {r : R α} : Ok r Q ↔ ∃ a e, r = .ok a e ∧ Q a e := by
  cases r with
  | ok a e => exact ⟨fun h => ⟨a, e, rfl, h⟩, fun ⟨_, _, h, q⟩ => by cases h; exact q⟩
  | er x e => exact ⟨fun h => h.elim, fun ⟨_, _, h, _⟩ => by cases h⟩
theorem Ok.mono {r : R α} {Q' : α → En → Prop} (h : Ok r Q) (w : ∀ a e, Q a e → Q' a e) : Ok r Q' := by
  cases r with
  | ok a e => exact w _ _ h
  | er x e => exact h
@[simp] theorem ok_bind {m : M β} {f : β → M α} : Ok ((m >>= f) e) Q = Ok (m e) fun a e' => Ok (f a e') Q := by
  show Ok (M.bind m f e) Q = _
  unfold M.bind
  cases m e <;> rfl
@[simp] theorem ok_pure {a : α} : Ok ((pure a : M α) e) Q = Q a e := (rfl)
@[simp] theorem ok_lift {o : Option α} : Ok (lift o e) Q = oS (o) fun a => Q a e := by
  cases o <;> simp [lift]
@[simp] theorem ok_guard {c : Prop} [Decidable c] {Q : Unit → En → Prop} : Ok (guardM c e) Q = (c ∧ Q () e) := by
  unfold guardM; split <;> simp [*]
@[simp] theorem ok_ite {c : Prop} [Decidable c] {m m' : M α} : Ok ((if c then m else m') e) Q = if c then Ok (m e) Q else Ok (m' e) Q := by split <;> rfl
@[simp] theorem ok_iteR {c : Prop} [Decidable c] {m m' : R α} : Ok (if c then m else m') Q = if c then Ok m Q else Ok m' Q := by split <;> rfl
@[simp] theorem ok_rd {o : Opd} {Q : D → En → Prop} : Ok (rdM o e) Q = oS ((vw o e).bind RV.d) fun d => Q d e := by unfold rdM; simp
@[simp] theorem ok_vw {o : Opd} {Q : RV → En → Prop} : Ok (vwM o e) Q = oS (vw o e) fun d => Q d e := by unfold vwM; simp
@[simp] theorem vw_val {d : D} : vw (.val d) e = some (.val d) := (rfl)
@[simp] theorem vw_new {o : Ob} : vw (.new o) e = some (.new o) := (rfl)
@[simp] theorem rvd_val {d : D} : RV.d (.val d) = some d := (rfl)
@[simp] theorem rvd_dct {kvs : List (D × D)} : RV.d (.new (.dct kvs)) = some (.dict kvs) := (rfl)
@[simp] theorem rvd_dic {kvs : List (D × D)} : RV.d (.new (.dic kvs)) = some (.dict kvs) := (rfl)
@[simp] theorem rvd_lst {xs : List D} : RV.d (.new (.lst xs)) = some (.list xs) := (rfl)
@[simp] theorem rvop_val {d : D} : RV.op (.val d) = .val d := (rfl)
@[simp] theorem rvop_new {o : Ob} : RV.op (.new o) = .new o := (rfl)
@[simp] theorem ok_set {i : Nat} {s : Slot} {Q : Unit → En → Prop} : Ok (setM i s e) Q = (i < e.length ∧ Q () (e.set i s)) := by unfold setM; split <;> simp [*]
@[simp] theorem ok_esc_val {d : D} {Q : D → En → Prop} : Ok (escM (.val d) e) Q = Q d e := (rfl)
@[simp] theorem ok_esc_new {xs : List D} {Q : D → En → Prop} : Ok (escM (.new (.lst xs)) e) Q = Q (.list xs) e := (rfl)
@[simp] theorem ok_rds_nil {Q : List D → En → Prop} : Ok (rdsM [] e) Q = Q [] e := (rfl)
@[simp] theorem ok_rds_cons {o : Opd} {os : List Opd} {Q : List D → En → Prop} : Ok (rdsM (o :: os) e) Q = Ok (rdM o e) fun d e1 => Ok (rdsM os e1) fun ds e2 => Q (d :: ds) e2 := by
  show Ok ((do let d ← rdM o; let ds ← rdsM os; pure (d :: ds) : M (List D)) e) Q = _
  simp
@[simp] theorem ok_escs_nil {Q : List D → En → Prop} : Ok (escsM [] e) Q = Q [] e := (rfl)
@[simp] theorem ok_escs_cons {o : Opd} {os : List Opd} {Q : List D → En → Prop} : Ok (escsM (o :: os) e) Q = Ok (escM o e) fun d e1 => Ok (escsM os e1) fun ds e2 => Q (d :: ds) e2 := by
  show Ok ((do let d ← escM o; let ds ← escsM os; pure (d :: ds) : M (List D)) e) Q = _
  simp
@[simp] theorem ok_tru_val {d : D} {Q : Bool → En → Prop} : Ok (truM (.val d) e) Q = oS (truD d) fun b => Q b e := by
  show Ok (lift (truD d) e) Q = _
  simp
@[simp] theorem ok_tru_lst {xs : List D} {Q : Bool → En → Prop} : Ok (truM (.new (.lst xs)) e) Q = Q (!xs.isEmpty) e := (rfl)
@[simp] theorem ok_sto_val {i : Nat} {d : D} {Q : Unit → En → Prop} : Ok (stO i (.val d) e) Q = (i < e.length ∧ Q () (e.set i (.sh d))) := by show Ok (setM i _ e) Q = _; simp
@[simp] theorem ok_sto_new {i : Nat} {d : Ob} {Q : Unit → En → Prop} : Ok (stO i (.new d) e) Q = (i < e.length ∧ Q () (e.set i (.ow d))) := by show Ok (setM i _ e) Q = _; simp
@[simp] theorem ok_sto_slot {i j : Nat} {Q : Unit → En → Prop} : Ok (stO i (.slot j) e) Q = Ok (escM (.slot j) e) fun d e1 => (i < e1.length ∧ Q () (e1.set i (.sh d))) := by
  show Ok ((do let d ← escM (.slot j); setM i (.sh d) : M Unit) e) Q = _
  simp
end
section
variable {cf : Nat → List Slot → CR} {e : En} {Q : Opd → En → Prop} {QF : Fl → En → Prop} {QB : Bool → En → Prop} {QL : List Opd → En → Prop} {QI : List D → En → Prop}
@[simp] theorem w_c {d : D} : Ok (evE cf (.c d) e) Q = Q (.val d) e := (rfl)
/-- what a name's reading gives -/
def rdSl (i : Nat) : Slot → Option Opd
  | .sh d => some (.val d)
  | .ow _ => some (.slot i)
  | .pa _ => some (.slot i)
  | .no => none
@[simp] theorem rdSl_sh {i : Nat} {d : D} : rdSl i (.sh d) = some (.val d) := (rfl)
@[simp] theorem rdSl_ow {i : Nat} {d : Ob} : rdSl i (.ow d) = some (.slot i) := (rfl)
@[simp] theorem rdSl_pa {i : Nat} {d : Ob} : rdSl i (.pa d) = some (.slot i) := (rfl)
@[simp] theorem w_v {i : Nat} : Ok (evE cf (.v i) e) Q = oS (e[i]?) fun s => oS (rdSl i s) fun o => Q o e := by
  show Ok (match e[i]? with
    | some (.sh d) => R.ok (.val d) e
    | some (.ow _) => .ok (.slot i) e
    | some (.pa _) => .ok (.slot i) e
    | _ => .er .bad e) Q = _
  cases h : e[i]? with
  | none => simp
  | some s => cases s <;> simp [rdSl]
/-- what an operand's slot holds -/
def slV : Slot → Option RV
  | .sh d => some (.val d)
  | .ow o => some (.new o)
  | .pa o => some (.new o)
  | .no => none
@[simp] theorem slV_sh {d : D} : slV (.sh d) = some (.val d) := (rfl)
@[simp] theorem slV_ow {d : Ob} : slV (.ow d) = some (.new d) := (rfl)
@[simp] theorem slV_pa {d : Ob} : slV (.pa d) = some (.new d) := (rfl)
@[simp] theorem vw_slot {i : Nat} : vw (.slot i) e = (e[i]?).bind slV := by
  show (match e[i]? with
    | some (.sh d) => some (RV.val d)
    | some (.ow o) => some (.new o)
    | some (.pa o) => some (.new o)
    | _ => none) = _
  cases h : e[i]? with
  | none => simp
  | some s => cases s <;> simp [slV]
@[simp] theorem w_bin {op : Operator} {a b : ME} : Ok (evE cf (.bin op a b) e) Q = Ok (evE cf a e) fun x e1 => Ok (evE cf b e1) fun y e2 => oS ((vw x e2).bind RV.d) fun d => oS ((vw y e2).bind RV.d) fun d' => oS (binD op d d') fun r => Q r.op e2 := by
  simp [evE]
@[simp] theorem w_neg {a : ME} : Ok (evE cf (.neg a) e) Q = Ok (evE cf a e) fun x e1 => oI ((vw x e1).bind RV.d) fun i => Q (.val (.int (-i))) e1 := by
  simp only [evE, ok_bind, ok_rd]
  congr 1; funext x e1
  cases (vw x e1).bind RV.d with
  | none => rfl
  | some d => cases d <;> rfl
@[simp] theorem w_cmp {op : CmpOp} {a b : ME} : Ok (evE cf (.cmp op a b) e) Q = Ok (evE cf a e) fun x e1 => Ok (evE cf b e1) fun y e2 => oS ((vw x e2).bind RV.d) fun d => oS (vw y e2) fun d' => oS (cmpR op d d') fun r => Q (.val (.bool r)) e2 := by
  simp [evE]
@[simp] theorem w_chain {op op' : CmpOp} {a b c : ME} : Ok (evE cf (.chain op op' a b c) e) Q = Ok (evE cf a e) fun x e1 => Ok (evE cf b e1) fun y e2 => oS ((vw x e2).bind RV.d) fun d => oS ((vw y e2).bind RV.d) fun d' => oS (cmpD op d d') fun r =>
    if r = true then Ok (evE cf c e2) fun z e3 => oS ((vw y e3).bind RV.d) fun d' => oS ((vw z e3).bind RV.d) fun d'' => oS (cmpD op' d' d'') fun r => Q (.val (.bool r)) e3 else Q (.val (.bool false)) e2 := by
  simp [evE]
@[simp] theorem w_andd {a b : ME} : Ok (evE cf (.andd a b) e) Q = Ok (evE cf a e) fun x e1 => Ok (truM x e1) fun t e2 => if t = true then Ok (evE cf b e2) Q else Q x e2 := by simp [evE]
@[simp] theorem w_orr {a b : ME} : Ok (evE cf (.orr a b) e) Q = Ok (evE cf a e) fun x e1 => Ok (truM x e1) fun t e2 => if t = true then Q x e2 else Ok (evE cf b e2) Q := by simp [evE]
@[simp] theorem w_nott {a : ME} : Ok (evE cf (.nott a) e) Q = Ok (evE cf a e) fun x e1 => Ok (truM x e1) fun t e2 => Q (.val (.bool (!t))) e2 := by simp [evE]
@[simp] theorem w_ite {c : MB} {a b : ME} : Ok (evE cf (.ite c a b) e) Q = Ok (evB cf c e) fun t e1 => if t = true then Ok (evE cf a e1) Q else Ok (evE cf b e1) Q := by simp [evE]
@[simp] theorem w_tup {es : MEs} : Ok (evE cf (.tup es) e) Q = Ok (evEs cf es e) fun os e1 => Ok (escsM os e1) fun ds e2 => ds.length ≤ sizeLine ∧ Q (.val (.tuple ds)) e2 := by
  simp only [evE, ok_bind, ok_ite, ok_pure, ok_lift]
  congr 1; funext os e1; congr 1; funext ds e2
  split <;> simp [*]
@[simp] theorem w_lst {es : MEs} : Ok (evE cf (.lst es) e) Q = Ok (evEs cf es e) fun os e1 => Ok (escsM os e1) fun ds e2 => ds.length ≤ sizeLine ∧ Q (.new (.lst ds)) e2 := by
  simp only [evE, ok_bind, ok_ite, ok_pure, ok_lift]
  congr 1; funext os e1; congr 1; funext ds e2
  split <;> simp [*]
@[simp] theorem w_dct {ks : List D} {es : MEs} : Ok (evE cf (.dct ks es) e) Q = Ok (evEs cf es e) fun os e1 => Ok (escsM os e1) fun ds e2 => (ks.length = ds.length ∧ ks.length ≤ 15) ∧ Q (.new (.dct ((ks.zip ds).foldl (fun acc p => dPut acc p.1 p.2) []))) e2 := by
  simp only [evE, ok_bind, ok_ite, ok_pure, ok_lift]
  congr 1; funext os e1; congr 1; funext ds e2
  split
  · rename_i h; exact propext ⟨fun q => ⟨h, q⟩, fun q => q.2⟩
  · rename_i h; exact propext ⟨fun q => q.elim, fun q => absurd q.1 h⟩
@[simp] theorem w_call {f : Nat} {es : MEs} : Ok (evE cf (.call f es) e) Q = Ok (evEs cf es e) fun os e1 => Ok (callM cf f os e1) Q := by simp [evE]
theorem ok_call {f : Nat} {os : List Opd} : Ok (callM cf f os e) Q = oS (argsOf os e) fun as => (moved os e).Nodup ∧ COk (cf f as) fun r outs => Q r.op (wb os outs e) := by
  unfold callM
  cases h : argsOf os e with
  | none => simp
  | some as =>
    by_cases hn : (moved os e).Nodup
    · simp only [hn, if_true, oS_some, true_and]
      cases cf f as <;> rfl
    · simp [hn]
@[simp] theorem w_bi {b : Bi} {es : MEs} : Ok (evE cf (.bi b es) e) Q = Ok (evEs cf es e) fun os e1 => Ok (rdsM os e1) fun ds e2 => oS (biD b ds) fun r => Q r.op e2 := by simp [evE]
@[simp] theorem w_ix {o i : ME} : Ok (evE cf (.ix o i) e) Q = Ok (evE cf o e) fun x e1 => Ok (evE cf i e1) fun y e2 => oS (vw x e2) fun r => oS ((vw y e2).bind RV.d) fun d => oS (ixR r d) fun z => Q (.val z) e2 := by simp [evE]
@[simp] theorem w_sl {o : ME} {lo hi : MO} : Ok (evE cf (.sl o lo hi) e) Q = Ok (evE cf o e) fun x e1 => Ok (evO cf lo e1) fun l e2 => Ok (evO cf hi e2) fun h e3 => oS ((vw x e3).bind RV.d) fun d => oS (slD d l h) fun r => Q r.op e3 := by simp [evE]
theorem w_comp {own : List Nat} {t : MT} {it : MI} {c : MC} {x : ME} : Ok (evE cf (.comp own t it c x) e) Q = Ok (evI cf it e) fun ds e1 => Ok (compM own (fun d => do
      bindT t d
      let b ← evC cf c
      if b then do let x ← evE cf x; let y ← escM x; pure (some y) else pure none) ds e1) Q := by simp [evE]
@[simp] theorem w_rngL {tu : Bool} {a : ME} : Ok (evE cf (.rngL tu a) e) Q = Ok (evE cf a e) fun x e1 => oS ((vw x e1).bind RV.d) fun d => oS (rngD [d]) fun l => Q (if tu then .val (.tuple l) else .new (.lst l)) e1 := by simp [evE]
@[simp] theorem w_rngL2 {tu : Bool} {a b : ME} : Ok (evE cf (.rngL2 tu a b) e) Q = Ok (evE cf a e) fun x e1 => Ok (evE cf b e1) fun y e2 => oS ((vw x e2).bind RV.d) fun d => oS ((vw y e2).bind RV.d) fun d' => oS (rngD [d, d']) fun l => Q (if tu then .val (.tuple l) else .new (.lst l)) e2 := by simp [evE]
@[simp] theorem w_shr {a : ME} : Ok (evE cf (.shr a) e) Q = Ok (evE cf a e) fun x e1 => Ok (escM x e1) fun d e2 => Q (.val d) e2 := by simp [evE]
@[simp] theorem w_rev {o : ME} : Ok (evE cf (.rev o) e) Q = Ok (evE cf o e) fun x e1 => oS ((vw x e1).bind RV.d) fun d => oS (revD d) fun r => Q r.op e1 := by simp [evE]
@[simp] theorem w_nil : Ok (evEs cf .nil e) QL = QL [] e := (rfl)
@[simp] theorem w_cons {a : ME} {es : MEs} : Ok (evEs cf (.cons a es) e) QL = Ok (evE cf a e) fun o e1 => Ok (evEs cf es e1) fun os e2 => QL (o :: os) e2 := by simp [evEs]
@[simp] theorem w_onone {QO : Option Int → En → Prop} : Ok (evO cf .none e) QO = QO none e := (rfl)
@[simp] theorem w_osome {a : ME} {QO : Option Int → En → Prop} : Ok (evO cf (.some a) e) QO = Ok (evE cf a e) fun x e1 => oI ((vw x e1).bind RV.d) fun i => QO (some i) e1 := by
  simp only [evO, ok_bind, ok_rd]
  congr 1; funext x e1
  cases (vw x e1).bind RV.d with
  | none => rfl
  | some d => cases d <;> rfl
@[simp] theorem w_cnone : Ok (evC cf .none e) QB = QB true e := (rfl)
@[simp] theorem w_csome {b : MB} : Ok (evC cf (.some b) e) QB = Ok (evB cf b e) QB := (rfl)
@[simp] theorem w_btr {a : ME} : Ok (evB cf (.tr a) e) QB = Ok (evE cf a e) fun x e1 => Ok (truM x e1) QB := by simp [evB]
@[simp] theorem w_band {a b : MB} : Ok (evB cf (.andd a b) e) QB = Ok (evB cf a e) fun t e1 => if t = true then Ok (evB cf b e1) QB else QB false e1 := by simp [evB]
@[simp] theorem w_bor {a b : MB} : Ok (evB cf (.orr a b) e) QB = Ok (evB cf a e) fun t e1 => if t = true then QB true e1 else Ok (evB cf b e1) QB := by simp [evB]
@[simp] theorem w_bnot {a : MB} : Ok (evB cf (.nott a) e) QB = Ok (evB cf a e) fun t e1 => QB (!t) e1 := by simp [evB]
@[simp] theorem w_iseq {a : ME} : Ok (evI cf (.seq a) e) QI = Ok (evE cf a e) fun x e1 => Ok (escM x e1) fun d e2 => oS (itemsD d) fun ds => QI ds e2 := by simp [evI]
@[simp] theorem w_irng {es : MEs} : Ok (evI cf (.rng es) e) QI = Ok (evEs cf es e) fun os e1 => Ok (rdsM os e1) fun ds e2 => oS (rngD ds) fun r => QI r e2 := by simp [evI]
@[simp] theorem w_izip {es : MEs} : Ok (evI cf (.zip es) e) QI = Ok (evEs cf es e) fun os e1 => Ok (escsM os e1) fun ds e2 => oS (zipDs ds) fun r => QI r e2 := by simp [evI]
@[simp] theorem w_irevd {a : ME} : Ok (evI cf (.revd a) e) QI = Ok (evE cf a e) fun x e1 => Ok (escM x e1) fun d e2 => oS ((itemsD d).map List.reverse) fun ds => QI ds e2 := by simp [evI]
@[simp] theorem w_sexpr {a : ME} : Ok (evS cf (.expr a) e) QF = Ok (evE cf a e) fun _ e1 => QF .nx e1 := by simp [evS]
@[simp] theorem w_asg {i : Nat} {a : ME} : Ok (evS cf (.asg (.name i) a) e) QF = Ok (evE cf a e) fun x e1 => Ok (stO i x e1) fun _ e2 => QF .nx e2 := by simp [evS]
@[simp] theorem w_asgT {ts : MTs} {a : ME} : Ok (evS cf (.asg (.tup ts) a) e) QF = Ok (evE cf a e) fun x e1 => Ok (escM x e1) fun d e2 => Ok (bindT (.tup ts) d e2) fun _ e3 => QF .nx e3 := by simp [evS]
@[simp] theorem ok_prep_val {d : D} {Q : Opd → En → Prop} : Ok (prepM (.val d) e) Q = Q (.val d) e := (rfl)
@[simp] theorem ok_prep_new {d : Ob} {Q : Opd → En → Prop} : Ok (prepM (.new d) e) Q = Q (.new d) e := (rfl)
@[simp] theorem ok_prep_slot {i : Nat} {Q : Opd → En → Prop} : Ok (prepM (.slot i) e) Q = Ok (escM (.slot i) e) fun d e1 => Q (.val d) e1 := by
  show Ok ((do let d ← escM (.slot i); pure (.val d) : M Opd) e) Q = _
  simp
@[simp] theorem ok_preps_nil {Q : List Opd → En → Prop} : Ok (prepsM [] e) Q = Q [] e := (rfl)
@[simp] theorem ok_preps_cons {o : Opd} {os : List Opd} {Q : List Opd → En → Prop} : Ok (prepsM (o :: os) e) Q = Ok (prepM o e) fun x e1 => Ok (prepsM os e1) fun xs e2 => Q (x :: xs) e2 := by
  show Ok ((do let o ← prepM o; let os ← prepsM os; pure (o :: os) : M (List Opd)) e) Q = _
  simp
@[simp] theorem ok_stos_nil {Q : Unit → En → Prop} : Ok (stosM [] [] e) Q = Q () e := (rfl)
@[simp] theorem ok_stos_cons {i : Nat} {is : List Nat} {o : Opd} {os : List Opd} {Q : Unit → En → Prop} : Ok (stosM (i :: is) (o :: os) e) Q = Ok (stO i o e) fun _ e1 => Ok (stosM is os e1) Q := by
  show Ok ((do stO i o; stosM is os : M Unit) e) Q = _
  simp
@[simp] theorem w_par {is : List Nat} {es : MEs} : Ok (evS cf (.parN is es) e) QF = Ok (evEs cf es e) fun os e1 => Ok (prepsM os e1) fun os e2 => Ok (stosM is os e2) fun _ e3 => QF .nx e3 := by
  simp [evS]
@[simp] theorem w_ret {a : ME} : Ok (evS cf (.ret a) e) QF = Ok (evE cf a e) fun x e1 => QF (.ret x) e1 := by simp [evS]
@[simp] theorem w_retN : Ok (evS cf .retN e) QF = QF (.ret (.val .none)) e := by simp [evS]
@[simp] theorem w_ife {c : MB} {a b : MSs} : Ok (evS cf (.ife c a b) e) QF = Ok (evB cf c e) fun t e1 => if t = true then Ok (evSs cf a e1) QF else Ok (evSs cf b e1) QF := by simp [evS]
theorem w_for {t : MT} {it : MI} {b : MSs} : Ok (evS cf (.for_ t it b) e) QF = Ok (evI cf it e) fun ds e1 => Ok (forLoop (fun d => do bindT t d; evSs cf b) ds e1) QF := by simp [evS]
@[simp] theorem w_brk : Ok (evS cf .brk e) QF = QF .brk e := by simp [evS]
@[simp] theorem w_cnt : Ok (evS cf .cnt e) QF = QF .cnt e := by simp [evS]
@[simp] theorem w_pass : Ok (evS cf .pass e) QF = QF .nx e := by simp [evS]
@[simp] theorem w_snil : Ok (evSs cf .nil e) QF = QF .nx e := by simp [evSs]
/-- the flow behind a statement -/
def andThen (QF : Fl → En → Prop) (k : En → Prop) : Fl → En → Prop
  | .nx, e => k e
  | f, e => QF f e
@[simp] theorem at_nx {k : En → Prop} : andThen QF k .nx e = k e := (rfl)
@[simp] theorem at_brk {k : En → Prop} : andThen QF k .brk e = QF .brk e := (rfl)
@[simp] theorem at_cnt {k : En → Prop} : andThen QF k .cnt e = QF .cnt e := (rfl)
@[simp] theorem at_ret {k : En → Prop} {o : Opd} : andThen QF k (.ret o) e = QF (.ret o) e := (rfl)
@[simp] theorem w_scons {s : MS} {ss : MSs} : Ok (evSs cf (.cons s ss) e) QF = Ok (evS cf s e) (andThen QF fun e1 => Ok (evSs cf ss e1) QF) := by
  show Ok ((match evS cf s e with
    | .ok .nx e' => evSs cf ss e'
    | r => r) : R Fl) QF = _
  cases h : evS cf s e with
  | er x e1 => rfl
  | ok f e1 => cases f <;> rfl
@[simp] theorem w_aug {i : Nat} {op : Operator} {a : ME} : Ok (evS cf (.aug i op a) e) QF = Ok (evE cf (.v i) e) fun x e1 => Ok (evE cf a e1) fun y e2 => oS ((vw x e2).bind RV.d) fun d => oS ((vw y e2).bind RV.d) fun d' => oS (ipD op d d') fun r => Ok (stO i r.op e2) fun _ e3 => QF .nx e3 := by
  simp only [evS, ok_bind, ok_rd, ok_lift, ok_pure]
@[simp] theorem ok_bindN {i : Nat} {d : D} {Q : Unit → En → Prop} : Ok (bindT (.name i) d e) Q = (i < e.length ∧ Q () (e.set i (.sh d))) := by unfold bindT; simp
@[simp] theorem ok_bindTT {ts : MTs} {ds : List D} {Q : Unit → En → Prop} : Ok (bindT (.tup ts) (.tuple ds) e) Q = Ok (bindTs ts ds e) Q := by unfold bindT; rfl
@[simp] theorem ok_bindT0 {Q : Unit → En → Prop} : Ok (bindTs .nil [] e) Q = Q () e := by unfold bindTs; simp
@[simp] theorem ok_bindTc {t : MT} {ts : MTs} {d : D} {ds : List D} {Q : Unit → En → Prop} : Ok (bindTs (.cons t ts) (d :: ds) e) Q = Ok (bindT t d e) fun _ e1 => Ok (bindTs ts ds e1) Q := by
  show Ok ((bindTs (.cons t ts) (d :: ds)) e) Q = _
  conv => lhs; unfold bindTs
  simp
end
/-! loops -/
section
variable {f : D → M Fl} {Q : Fl → En → Prop} {e : En}
/-- what a turn must come to -/
def turn (Q : Fl → En → Prop) (I : En → Prop) : Fl → En → Prop
  | .nx, e => I e
  | .cnt, e => I e
  | .brk, e => Q .nx e
  | .ret o, e => Q (.ret o) e
@[simp] theorem turn_nx {I : En → Prop} : turn Q I .nx e = I e := (rfl)
@[simp] theorem turn_cnt {I : En → Prop} : turn Q I .cnt e = I e := (rfl)
@[simp] theorem turn_brk {I : En → Prop} : turn Q I .brk e = Q .nx e := (rfl)
@[simp] theorem turn_ret {I : En → Prop} {o : Opd} : turn Q I (.ret o) e = Q (.ret o) e := (rfl)
theorem for_inv (I : List D → En → Prop) {ds : List D} (h : I ds e) (step : ∀ d ds e, I (d :: ds) e → Ok (f d e) (turn Q (I ds))) (fin : ∀ e, I [] e → Q .nx e) : Ok (forLoop f ds e) Q := by
  induction ds generalizing e with
  | nil => exact fin e h
  | cons d ds ih =>
    have s := step d ds e h
    unfold forLoop
    cases hf : f d e with
    | er x e1 => rw [hf] at s; exact s.elim
    | ok fl e1 =>
      rw [hf] at s
      cases fl with
      | nx => exact ih s
      | cnt => exact ih s
      | brk => exact s
      | ret o => exact s
theorem whl_inv {c : M Bool} {b : M Fl} (I : Nat → En → Prop) {n : Nat} (h : I n e) (step : ∀ n e, I n e → Ok (c e) fun t e1 => if t = true then ∃ n', n = n' + 1 ∧ Ok (b e1) (turn Q (I n')) else Q .nx e1) : ∀ {N : Nat}, n < N → Ok (whlLoop c b N e) Q := by
  intro N hN
  induction N generalizing n e with
  | zero => omega
  | succ N ih =>
    have s := step n e h
    unfold whlLoop
    cases hc : c e with
    | er x e1 => rw [hc] at s; exact s.elim
    | ok t e1 =>
      rw [hc] at s
      cases t with
      | false => simpa using s
      | true =>
        obtain ⟨n', rfl, s2⟩ : ∃ n', n = n' + 1 ∧ Ok (b e1) (turn Q (I n')) := by simpa using s
        show Ok (match b e1 with
          | .ok .nx e'' => whlLoop c b N e''
          | .ok .cnt e'' => whlLoop c b N e''
          | .ok .brk e'' => R.ok .nx e''
          | .ok (.ret o) e'' => .ok (.ret o) e''
          | .er x e'' => .er x e'') Q
        cases hb : b e1 with
        | er x e2 => rw [hb] at s2; exact s2.elim
        | ok fl e2 =>
          rw [hb] at s2
          cases fl with
          | nx => exact ih s2 (by omega)
          | cnt => exact ih s2 (by omega)
          | brk => exact s2
          | ret o => exact s2
theorem w_whl {cf : Nat → List Slot → CR} {c : MB} {b : MSs} : Ok (evS cf (.whl c b) e) Q = Ok (whlLoop (evB cf c) (evSs cf b) wfuel e) Q := by simp [evS]
end
/-! comprehensions -/
section
variable {e : En} {own : List Nat} {f : D → M (Option D)} {Q : Opd → En → Prop}
theorem comp_inv (I : List D → List D → En → Prop) {ds : List D} (hn : (own.all fun i => notOwned (e[i]?.getD .no)) = true) (h : I ds [] (wipeE e own))
    (step : ∀ d ds acc e, I (d :: ds) acc e → Ok (f d e) fun x e1 => I ds (match x with | some y => acc ++ [y] | none => acc) (wipeE e1 own)) (fin : ∀ acc e1, I [] acc e1 → Q (.new (.lst acc)) (restE e e1 own)) : Ok (compM own f ds e) Q := by
  have key : ∀ (ds acc : List D) (e1 : En), I ds acc e1 → Ok (compLoop own f ds acc e1) fun r e2 => I [] r e2 := by
    intro ds
    induction ds with
    | nil => intro acc e1 h; exact h
    | cons d ds ih =>
      intro acc e1 h
      have s := step d ds acc e1 h
      unfold compLoop
      cases hf : f d e1 with
      | er x e2 => rw [hf] at s; exact s.elim
      | ok x e2 =>
        rw [hf] at s
        cases x with
        | none => exact ih _ _ s
        | some y => exact ih _ _ s
  have k := key ds [] _ h
  unfold compM
  rw [if_pos hn]
  cases hc : compLoop own f ds [] (wipeE e own) with
  | er x e2 => rw [hc] at k; exact k.elim
  | ok r e2 => rw [hc] at k; exact fin r e2 k
theorem wipeE_len {e : En} : ∀ (own : List Nat), (wipeE e own).length = e.length
  | [] => rfl
  | v :: vs => by unfold wipeE; rw [List.length_set, wipeE_len]
theorem restE_self {e : En} : ∀ own : List Nat, restE e (wipeE e own) own = e := by
  have hin : ∀ (own : List Nat) (i : Nat) (x : En), i ∈ own → i < x.length → (restE e x own)[i]? = some (e[i]?.getD .no) := by
    intro own
    induction own with
    | nil => intro i x h; simp at h
    | cons v vs ih =>
      intro i x h hl
      unfold restE
      have hl2 : ∀ vs : List Nat, (restE e x vs).length = x.length := by
        intro vs
        induction vs with
        | nil => rfl
        | cons v vs ih => unfold restE; rw [List.length_set, ih]
      by_cases hv : v = i
      · subst hv
        rw [List.getElem?_set_self (by rw [hl2]; exact hl)]
      · rw [List.getElem?_set_ne hv]
        rcases List.mem_cons.mp h with z | z
        · exact absurd z.symm hv
        · exact ih i x z hl
  have hout : ∀ (own : List Nat) (i : Nat) (x : En), i ∉ own → (restE e x own)[i]? = x[i]? := by
    intro own
    induction own with
    | nil => intro i x h; rfl
    | cons v vs ih =>
      intro i x h
      unfold restE
      rw [List.getElem?_set_ne (by rintro rfl; exact h (List.mem_cons_self ..))]
      exact ih i x fun z => h (List.mem_cons_of_mem _ z)
  have wout : ∀ (own : List Nat) (i : Nat), i ∉ own → (wipeE e own)[i]? = e[i]? := by
    intro own
    induction own with
    | nil => intro i h; rfl
    | cons v vs ih =>
      intro i h
      unfold wipeE
      rw [List.getElem?_set_ne (by rintro rfl; exact h (List.mem_cons_self ..))]
      exact ih i fun z => h (List.mem_cons_of_mem _ z)
  intro own
  apply List.ext_getElem?
  intro i
  by_cases hi : i ∈ own
  · by_cases hl : i < e.length
    · rw [hin own i _ hi (by rw [wipeE_len]; exact hl), List.getElem?_eq_getElem hl]; rfl
    · have hlen : (restE e (wipeE e own) own).length = e.length := by
        have : ∀ (vs : List Nat) (x : En), (restE e x vs).length = x.length := by
          intro vs x
          induction vs with
          | nil => rfl
          | cons v vs ih => unfold restE; rw [List.length_set, ih]
        rw [this, wipeE_len]
      rw [List.getElem?_eq_none (by omega), List.getElem?_eq_none (by omega)]
  · rw [hout own i _ hi, wout own i hi]
/-- a comprehension without effects: x ↦ g x -/
theorem comp_map (g : D → Option D) {ds : List D} (hn : (own.all fun i => notOwned (e[i]?.getD .no)) = true) (step : ∀ d ∈ ds, Ok (f d (wipeE e own)) fun x e1 => x = g d ∧ wipeE e1 own = wipeE e own) (h : Q (.new (.lst (ds.filterMap g))) e) : Ok (compM own f ds e) Q := by
  refine comp_inv (fun rest acc e1 => ∃ pre, ds = pre ++ rest ∧ acc = pre.filterMap g ∧ e1 = wipeE e own) hn ⟨[], rfl, rfl, rfl⟩ ?_ ?_
  · rintro d rest acc e1 ⟨pre, h1, rfl, rfl⟩
    refine (step d (by rw [h1]; simp)).mono fun x e2 ⟨h2, h3⟩ => ⟨pre ++ [d], by rw [h1]; simp, ?_, h3⟩
    subst h2
    rw [List.filterMap_append]
    cases hg : g d <;> simp [List.filterMap_cons, hg]
  · rintro acc e1 ⟨pre, h1, rfl, rfl⟩
    rw [restE_self]
    rw [List.append_nil] at h1
    rw [← h1]; exact h
end
/-! methods, stores -/
section
variable {cf : Nat → List Slot → CR} {e : En} {Q : Opd → En → Prop} {QF : Fl → En → Prop}
/-- an object is changed -/
def updS {α : Type} (i : Nat) (s : Slot) (g : Ob → Option (α × Ob)) (e : En) (Q : α → En → Prop) : Prop := match s with
  | .ow b => oS (g b) fun r => Q r.1 (e.set i (.ow r.2))
  | .pa b => oS (g b) fun r => Q r.1 (e.set i (.pa r.2))
  | _ => False
@[simp] theorem updS_ow {α : Type} {i : Nat} {b : Ob} {g : Ob → Option (α × Ob)} {Q : α → En → Prop} : updS i (.ow b) g e Q = oS (g b) fun r => Q r.1 (e.set i (.ow r.2)) := (rfl)
@[simp] theorem updS_pa {α : Type} {i : Nat} {b : Ob} {g : Ob → Option (α × Ob)} {Q : α → En → Prop} : updS i (.pa b) g e Q = oS (g b) fun r => Q r.1 (e.set i (.pa r.2)) := (rfl)
@[simp] theorem ok_upd {α : Type} {i : Nat} {g : Ob → Option (α × Ob)} {Q : α → En → Prop} : Ok (updM (.slot i) g e) Q = oS (e[i]?) fun s => updS i s g e Q := by
  show Ok (match e[i]? with
    | some (.ow b) => match g b with
      | some (a, b') => R.ok a (e.set i (.ow b'))
      | none => .er .bad e
    | some (.pa b) => match g b with
      | some (a, b') => .ok a (e.set i (.pa b'))
      | none => .er .bad e
    | _ => .er .bad e) Q = _
  cases h : e[i]? with
  | none => rfl
  | some s =>
    cases s with
    | no => rfl
    | sh d => rfl
    | ow b => cases hg : g b with
      | none => simp [hg]
      | some r => simp [hg]
    | pa b => cases hg : g b with
      | none => simp [hg]
      | some r => simp [hg]
theorem w_pur {m : Mth} {o : ME} {es : MEs} (hm : m.mut = false) : Ok (evE cf (.meth m o es) e) Q = Ok (evE cf o e) fun x e1 => oS (vw x e1) fun r0 => Ok (evEs cf es e1) fun os e2 => oS (vw x e2) fun r => kindR r0 = kindR r ∧ Ok (rdsM os e2) fun ds e3 => oS (pureM m r ds) fun z => Q z.op e3 := by
  simp only [evE, ok_bind, ok_vw, hm, Bool.false_eq_true, if_false, ok_guard, ok_lift, ok_pure]
@[simp] theorem w_append {o : ME} {es : MEs} : Ok (evE cf (.meth .append o es) e) Q = Ok (evE cf o e) fun x e1 => oS (vw x e1) fun r0 => Ok (evEs cf es e1) fun os e2 => kindR r0 = .list ∧ Ok (escsM os e2) fun ds e3 => Ok (updM x (fun b => mutO .append b ds) e3) fun d e4 => Q (.val d) e4 := by simp only [evE, ok_bind, ok_vw, Mth.mut, if_true, ok_guard, ok_pure]
@[simp] theorem w_insert {o : ME} {es : MEs} : Ok (evE cf (.meth .insert o es) e) Q = Ok (evE cf o e) fun x e1 => oS (vw x e1) fun r0 => Ok (evEs cf es e1) fun os e2 => kindR r0 = .list ∧ Ok (escsM os e2) fun ds e3 => Ok (updM x (fun b => mutO .insert b ds) e3) fun d e4 => Q (.val d) e4 := by simp only [evE, ok_bind, ok_vw, Mth.mut, if_true, ok_guard, ok_pure]
@[simp] theorem w_extend {o : ME} {es : MEs} : Ok (evE cf (.meth .extend o es) e) Q = Ok (evE cf o e) fun x e1 => oS (vw x e1) fun r0 => Ok (evEs cf es e1) fun os e2 => kindR r0 = .list ∧ Ok (rdsM os e2) fun ds e3 => Ok (updM x (fun b => mutO .extend b ds) e3) fun d e4 => Q (.val d) e4 := by simp only [evE, ok_bind, ok_vw, Mth.mut, if_true, ok_guard, ok_pure]
@[simp] theorem w_pop {o : ME} {es : MEs} : Ok (evE cf (.meth .pop o es) e) Q = Ok (evE cf o e) fun x e1 => oS (vw x e1) fun r0 => Ok (evEs cf es e1) fun os e2 => kindR r0 = .list ∧ Ok (rdsM os e2) fun ds e3 => Ok (updM x (fun b => mutO .pop b ds) e3) fun d e4 => Q (.val d) e4 := by simp only [evE, ok_bind, ok_vw, Mth.mut, if_true, ok_guard, ok_pure]
@[simp] theorem w_popAt {o : ME} {es : MEs} : Ok (evE cf (.meth .popAt o es) e) Q = Ok (evE cf o e) fun x e1 => oS (vw x e1) fun r0 => Ok (evEs cf es e1) fun os e2 => kindR r0 = .list ∧ Ok (rdsM os e2) fun ds e3 => Ok (updM x (fun b => mutO .popAt b ds) e3) fun d e4 => Q (.val d) e4 := by simp only [evE, ok_bind, ok_vw, Mth.mut, if_true, ok_guard, ok_pure]
@[simp] theorem w_remove {o : ME} {es : MEs} : Ok (evE cf (.meth .remove o es) e) Q = Ok (evE cf o e) fun x e1 => oS (vw x e1) fun r0 => Ok (evEs cf es e1) fun os e2 => kindR r0 = .list ∧ Ok (rdsM os e2) fun ds e3 => Ok (updM x (fun b => mutO .remove b ds) e3) fun d e4 => Q (.val d) e4 := by simp only [evE, ok_bind, ok_vw, Mth.mut, if_true, ok_guard, ok_pure]
@[simp] theorem w_reverse {o : ME} {es : MEs} : Ok (evE cf (.meth .reverse o es) e) Q = Ok (evE cf o e) fun x e1 => oS (vw x e1) fun r0 => Ok (evEs cf es e1) fun os e2 => kindR r0 = .list ∧ Ok (rdsM os e2) fun ds e3 => Ok (updM x (fun b => mutO .reverse b ds) e3) fun d e4 => Q (.val d) e4 := by simp only [evE, ok_bind, ok_vw, Mth.mut, if_true, ok_guard, ok_pure]
@[simp] theorem w_index {o : ME} {es : MEs} : Ok (evE cf (.meth .index o es) e) Q = Ok (evE cf o e) fun x e1 => oS (vw x e1) fun r0 => Ok (evEs cf es e1) fun os e2 => oS (vw x e2) fun r => kindR r0 = kindR r ∧ Ok (rdsM os e2) fun ds e3 => oS (pureM .index r ds) fun z => Q z.op e3 := w_pur rfl
@[simp] theorem w_count {o : ME} {es : MEs} : Ok (evE cf (.meth .count o es) e) Q = Ok (evE cf o e) fun x e1 => oS (vw x e1) fun r0 => Ok (evEs cf es e1) fun os e2 => oS (vw x e2) fun r => kindR r0 = kindR r ∧ Ok (rdsM os e2) fun ds e3 => oS (pureM .count r ds) fun z => Q z.op e3 := w_pur rfl
@[simp] theorem w_get {o : ME} {es : MEs} : Ok (evE cf (.meth .get o es) e) Q = Ok (evE cf o e) fun x e1 => oS (vw x e1) fun r0 => Ok (evEs cf es e1) fun os e2 => oS (vw x e2) fun r => kindR r0 = kindR r ∧ Ok (rdsM os e2) fun ds e3 => oS (pureM .get r ds) fun z => Q z.op e3 := w_pur rfl
@[simp] theorem w_get2 {o : ME} {es : MEs} : Ok (evE cf (.meth .get2 o es) e) Q = Ok (evE cf o e) fun x e1 => oS (vw x e1) fun r0 => Ok (evEs cf es e1) fun os e2 => oS (vw x e2) fun r => kindR r0 = kindR r ∧ Ok (rdsM os e2) fun ds e3 => oS (pureM .get2 r ds) fun z => Q z.op e3 := w_pur rfl
@[simp] theorem w_asgIx {j : Nat} {i a : ME} : Ok (evS cf (.asgIx j i a) e) QF = Ok (evE cf a e) fun x e1 => Ok (evE cf (.v j) e1) fun o e2 => Ok (evE cf i e2) fun y e3 => oS ((vw y e3).bind RV.d) fun k => Ok (escM x e3) fun d e4 => Ok (updM o (fun b => (putO b k d).map fun b' => ((), b')) e4) fun _ e5 => QF .nx e5 := by
  simp only [evS, ok_bind, ok_rd, ok_pure]
@[simp] theorem w_augIx {j : Nat} {i a : ME} {op : Operator} : Ok (evS cf (.augIx j i op a) e) QF = Ok (evE cf (.v j) e) fun o e1 => Ok (evE cf i e1) fun y e2 => oS (vw o e2) fun r => isNewR r = true ∧ oS ((vw y e2).bind RV.d) fun k => oS (ixR r k) fun old => Ok (evE cf a e2) fun z e3 => oS ((vw z e3).bind RV.d) fun d' =>
    oS (ipD op old d') fun new => oS ((vw y e3).bind RV.d) fun k => Ok (escM new.op e3) fun nd e4 => Ok (updM o (fun b => (putO b k nd).map fun b' => ((), b')) e4) fun _ e5 => QF .nx e5 := by
  simp only [evS, ok_bind, ok_rd, ok_pure, ok_vw, ok_guard, ok_lift]
/-- an object is shared -/
def escS (i : Nat) (s : Slot) (e : En) (Q : D → En → Prop) : Prop := match s with
  | .sh d => Q d e
  | .ow (.lst xs) => Q (.list xs) (e.set i (.sh (.list xs)))
  | .pa (.lst xs) => Q (.list xs) (e.set i (.sh (.list xs)))
  | _ => False
@[simp] theorem escS_sh {i : Nat} {d : D} {Q : D → En → Prop} : escS i (.sh d) e Q = Q d e := (rfl)
@[simp] theorem escS_ow {i : Nat} {xs : List D} {Q : D → En → Prop} : escS i (.ow (.lst xs)) e Q = Q (.list xs) (e.set i (.sh (.list xs))) := (rfl)
@[simp] theorem escS_pa {i : Nat} {xs : List D} {Q : D → En → Prop} : escS i (.pa (.lst xs)) e Q = Q (.list xs) (e.set i (.sh (.list xs))) := (rfl)
@[simp] theorem ok_esc_slot {i : Nat} {Q : D → En → Prop} : Ok (escM (.slot i) e) Q = oS (e[i]?) fun s => escS i s e Q := by
  show Ok (match e[i]? with
    | some (.sh d) => R.ok d e
    | some (.ow (.lst xs)) => .ok (.list xs) (e.set i (.sh (.list xs)))
    | some (.pa (.lst xs)) => .ok (.list xs) (e.set i (.sh (.list xs)))
    | _ => .er .bad e) Q = _
  cases h : e[i]? with
  | none => rfl
  | some s =>
    cases s with
    | no => rfl
    | sh d => rfl
    | ow b => cases b <;> rfl
    | pa b => cases b <;> rfl
def truS (r : RV) (Q : Bool → Prop) : Prop := match r with
  | .val d => oS (truD d) Q
  | .new (.lst xs) => Q (!xs.isEmpty)
  | .new (.dct xs) => Q (!xs.isEmpty)
  | .new (.dic _) => False
@[simp] theorem truS_val {d : D} {Q : Bool → Prop} : truS (.val d) Q = oS (truD d) Q := (rfl)
@[simp] theorem truS_lst {xs : List D} {Q : Bool → Prop} : truS (.new (.lst xs)) Q = Q (!xs.isEmpty) := (rfl)
@[simp] theorem truS_dic {xs : List (D × D)} {Q : Bool → Prop} : truS (.new (.dic xs)) Q = False := (rfl)
@[simp] theorem truS_dct {xs : List (D × D)} {Q : Bool → Prop} : truS (.new (.dct xs)) Q = Q (!xs.isEmpty) := (rfl)
@[simp] theorem ok_tru_slot {i : Nat} {Q : Bool → En → Prop} : Ok (truM (.slot i) e) Q = oS (vw (.slot i) e) fun r => truS r fun b => Q b e := by
  show Ok (match vw (.slot i) e with
    | some (.val d) => lift (truD d) e
    | some (.new (.lst xs)) => .ok (!xs.isEmpty) e
    | some (.new (.dct kvs)) => .ok (!kvs.isEmpty) e
    | some (.new (.dic _)) => .er .bad e
    | none => .er .bad e) Q = _
  cases h : vw (.slot i) e with
  | none => rfl
  | some r =>
    cases r with
    | val d => simp
    | new o => cases o <;> rfl
end
/-! defs -/
section
variable {cf : Nat → List Slot → CR} {fs : List Fd} {as : List Slot} {Q : RV → List Slot → Prop}
theorem cok_iff {c : CR} : COk c Q ↔ ∃ r outs, c = .ok r outs ∧ Q r outs := by
  cases c with
  | ok a e => exact ⟨fun h => ⟨a, e, rfl, h⟩, fun ⟨_, _, h, q⟩ => by cases h; exact q⟩
  | er x => exact ⟨fun h => h.elim, fun ⟨_, _, h, _⟩ => by cases h⟩
theorem cok_eq {c : CR} {r : RV} {outs : List Slot} (h : COk c fun r' o' => r' = r ∧ o' = outs) : c = .ok r outs := by
  obtain ⟨r', o', h1, h2, h3⟩ := cok_iff.mp h
  rw [h1, h2, h3]
@[simp] theorem cok_ok {r : RV} {outs : List Slot} : COk (.ok r outs) Q = Q r outs := (rfl)
theorem COk.mono {c : CR} {Q' : RV → List Slot → Prop} (h : COk c Q) (w : ∀ r o, Q r o → Q' r o) : COk c Q' := by
  cases c with
  | ok a e => exact w _ _ h
  | er x => exact h
/-- what a body must come to -/
def endF (as : List Slot) (Q : RV → List Slot → Prop) : Fl → En → Prop
  | .nx, e => Q (.val .none) (maskOuts as e)
  | .ret o, e => COk (finish as o e) Q
  | _, _ => False
@[simp] theorem endF_nx {e : En} : endF as Q .nx e = Q (.val .none) (maskOuts as e) := (rfl)
@[simp] theorem endF_val {e : En} {d : D} : endF as Q (.ret (.val d)) e = Q (.val d) (maskOuts as e) := (rfl)
@[simp] theorem endF_new {e : En} {d : Ob} : endF as Q (.ret (.new d)) e = Q (.new d) (maskOuts as e) := (rfl)
theorem cok_run {f : Fd} (hl : as.length = f.np) (h : Ok (evSs cf f.body (as ++ List.replicate (f.nv - f.np) .no)) (endF as Q)) : COk (runFd cf f as) Q := by
  unfold runFd
  rw [if_pos hl]
  obtain ⟨fl, e, h1, h2⟩ := ok_iff.mp h
  rw [h1]
  cases fl with
  | nx => exact h2
  | brk => exact h2.elim
  | cnt => exact h2.elim
  | ret o => exact h2
theorem cok_call {n j : Nat} {f : Fd} (hf : fs[j]? = some f) (hl : as.length = f.np) (h : Ok (evSs (callN fs n) f.body (as ++ List.replicate (f.nv - f.np) .no)) (endF as Q)) : COk (callN fs (n + 1) j as) Q := by
  rw [callN_succ hf]
  exact cok_run hl h
/-- what a def hands back -/
def finS (as : List Slot) (i : Nat) (s : Slot) (e : En) (Q : RV → List Slot → Prop) : Prop := match s with
  | .sh d => Q (.val d) (maskOuts as e)
  | .ow b => Q (.new b) (maskOuts as e)
  | .pa (.lst xs) => Q (.val (.list xs)) (maskOuts as (e.set i (.sh (.list xs))))
  | _ => False
@[simp] theorem finS_sh {i : Nat} {d : D} {e : En} : finS as i (.sh d) e Q = Q (.val d) (maskOuts as e) := (rfl)
@[simp] theorem finS_ow {i : Nat} {d : Ob} {e : En} : finS as i (.ow d) e Q = Q (.new d) (maskOuts as e) := (rfl)
@[simp] theorem finS_pa {i : Nat} {xs : List D} {e : En} : finS as i (.pa (.lst xs)) e Q = Q (.val (.list xs)) (maskOuts as (e.set i (.sh (.list xs)))) := (rfl)
@[simp] theorem endF_slot {i : Nat} {e : En} : endF as Q (.ret (.slot i)) e = oS (e[i]?) fun s => finS as i s e Q := by
  show COk (match e[i]? with
    | some (.sh d) => CR.ok (.val d) (maskOuts as e)
    | some (.ow b) => .ok (.new b) (maskOuts as e)
    | some (.pa (.lst xs)) => .ok (.val (.list xs)) (maskOuts as (e.set i (.sh (.list xs))))
    | _ => .er .bad) Q = _
  cases h : e[i]? with
  | none => rfl
  | some s =>
    cases s with
    | no => rfl
    | sh d => rfl
    | ow b => rfl
    | pa b => cases b <;> rfl
end
end Ev
/-! words about data -/
namespace Ev
open PySem
@[simp] theorem eqv_int {i j : Int} : PyData.eqv (.int i) (.int j) = decide (i = j) := by unfold PyData.eqv; exact (Bool.beq_eq_decide_eq i j)
@[simp] theorem eqv_bool {i j : Bool} : PyData.eqv (.bool i) (.bool j) = (i == j) := by unfold PyData.eqv; rfl
@[simp] theorem eqv_str {i j : Str} : PyData.eqv (.str i) (.str j) = (i == j) := by unfold PyData.eqv; rfl
@[simp] theorem eqv_none : PyData.eqv .none .none = true := by unfold PyData.eqv; rfl
@[simp] theorem plain_int {i : Int} : PyData.plain (.int i) = true := (rfl)
@[simp] theorem plain_bool {i : Bool} : PyData.plain (.bool i) = true := (rfl)
@[simp] theorem plain_str {i : Str} : PyData.plain (.str i) = true := (rfl)
@[simp] theorem plain_none : PyData.plain .none = true := (rfl)
@[simp] theorem depth_int {i : Int} : PyData.depth (.int i) = 0 := by first | rfl | (unfold PyData.depth; rfl)
@[simp] theorem depth_bool {i : Bool} : PyData.depth (.bool i) = 0 := by first | rfl | (unfold PyData.depth; rfl)
@[simp] theorem depth_str {i : Str} : PyData.depth (.str i) = 0 := by first | rfl | (unfold PyData.depth; rfl)
@[simp] theorem depth_none : PyData.depth .none = 0 := by first | rfl | (unfold PyData.depth; rfl)
theorem sizeL : sizeLine = 16777216 := by decide +kernel
theorem str_inj {a b : String} (h : Str.ofString a = Str.ofString b) : a = b := by
  unfold Str.ofString at h
  rw [cpsOfBytes_string, cpsOfBytes_string] at h
  have h1 : (a.toList.map Char.toNat) = b.toList.map Char.toNat := by
    have := congrArg (fun s : Str => s.cps.toList) h
    simpa using this
  have h2 : a.toList = b.toList := (List.map_inj_right (fun x y e => by
    apply Char.ext
    exact UInt32.toNat_inj.mp e)).mp h1
  exact String.toList_injective h2
@[simp] theorem str_eq {a b : String} : (Str.ofString a = Str.ofString b) = (a = b) := propext ⟨str_inj, fun h => h ▸ rfl⟩
@[simp] theorem str_beq {a b : String} : (Str.ofString a == Str.ofString b) = (a == b) := by
  rw [Bool.beq_eq_decide_eq, Bool.beq_eq_decide_eq]; simp
@[simp] theorem atI_nat' {α : Type} {xs : List α} {a : Nat} (h : a < xs.length) : L2.atI xs (a : Int) = some xs[a] := L2.atI_nat (List.getElem?_eq_getElem h)
@[simp] theorem keyD_int {i : Int} : keyD (.int i) = some (.inl i) := (rfl)
@[simp] theorem keyD_tup {xs : List D} : keyD (.tuple xs) = none := (rfl)
@[simp] theorem keyD_str {i : Str} : keyD (.str i) = some (.inr i) := (rfl)
@[simp] theorem same_int {i j : Int} : sameKey (.int i) (.int j) = decide (i = j) := (rfl)
@[simp] theorem same_str {i j : Str} : sameKey (.str i) (.str j) = decide (i = j) := (rfl)
@[simp] theorem same_is {i : Int} {j : Str} : sameKey (.int i) (.str j) = false := (rfl)
@[simp] theorem same_si {i : Int} {j : Str} : sameKey (.str j) (.int i) = false := (rfl)
@[simp] theorem dGet_nil {k : D} : dGet [] k = none := (rfl)
@[simp] theorem dGet_cons {p : D × D} {kvs : List (D × D)} {k : D} : dGet (p :: kvs) k = if sameKey p.1 k = true then some p.2 else dGet kvs k := by
  unfold dGet
  rw [List.find?_cons]
  cases sameKey p.1 k <;> simp
@[simp] theorem dPut_nil {k v : D} : dPut [] k v = [(k, v)] := (rfl)
@[simp] theorem truD_bool {b : Bool} : truD (.bool b) = some b := (rfl)
@[simp] theorem truD_none : truD .none = some false := (rfl)
@[simp] theorem truD_int {i : Int} : truD (.int i) = some (decide (i ≠ 0)) := by show some (i != 0) = _; rw [Option.some.injEq]; by_cases h : i = 0 <;> simp [h]
@[simp] theorem truD_list {xs : List D} : truD (.list xs) = some (!xs.isEmpty) := (rfl)
@[simp] theorem truD_tuple {xs : List D} : truD (.tuple xs) = some (!xs.isEmpty) := (rfl)
@[simp] theorem add_int {i j : Int} : binD .Add (.int i) (.int j) = some (.val (.int (i + j))) := (rfl)
@[simp] theorem add_str {i j : Str} : binD .Add (.str i) (.str j) = if i.length + j.length ≤ sizeLine then some (.val (.str (i ++ j))) else none := (rfl)
@[simp] theorem add_tup {xs ys : List D} : binD .Add (.tuple xs) (.tuple ys) = if xs.length + ys.length ≤ sizeLine then some (.val (.tuple (xs ++ ys))) else none := (rfl)
@[simp] theorem add_lst {xs ys : List D} : binD .Add (.list xs) (.list ys) = if xs.length + ys.length ≤ sizeLine then some (.new (.lst (xs ++ ys))) else none := (rfl)
@[simp] theorem sub_int {i j : Int} : binD .Sub (.int i) (.int j) = some (.val (.int (i - j))) := (rfl)
@[simp] theorem mul_int {i j : Int} : binD .Mult (.int i) (.int j) = if (-(2 ^ 64) < i ∧ i < 2 ^ 64) ∨ (-(2 ^ 64) < j ∧ j < 2 ^ 64) then some (.val (.int (i * j))) else none := (rfl)
@[simp] theorem div_int {i j : Int} : binD .FloorDiv (.int i) (.int j) = if 0 < j ∧ j < 1073741824 then some (.val (.int (i / j))) else none := (rfl)
@[simp] theorem mod_int {i j : Int} : binD .Mod (.int i) (.int j) = if 0 < j then some (.val (.int (i % j))) else none := (rfl)
@[simp] theorem pow_int {i j : Int} : binD .Pow (.int i) (.int j) = if 0 ≤ j ∧ j ≤ 1000000 ∧ i.natAbs < 2 ^ 64 then some (.val (.int (i ^ j.toNat))) else none := (rfl)
@[simp] theorem and_int {i j : Int} : binD .BitAnd (.int i) (.int j) = some (.val (.int (Builtin.bitAnd i j))) := (rfl)
@[simp] theorem iadd_int {i j : Int} : ipD .Add (.int i) (.int j) = some (.val (.int (i + j))) := (rfl)
@[simp] theorem isub_int {i j : Int} : ipD .Sub (.int i) (.int j) = some (.val (.int (i - j))) := (rfl)
@[simp] theorem imul_int {i j : Int} : ipD .Mult (.int i) (.int j) = if (-(2 ^ 64) < i ∧ i < 2 ^ 64) ∨ (-(2 ^ 64) < j ∧ j < 2 ^ 64) then some (.val (.int (i * j))) else none := (rfl)
@[simp] theorem cmpR_val {op : CmpOp} {a d : D} : cmpR op a (.val d) = cmpD op a d := (rfl)
@[simp] theorem cmpR_lst {op : CmpOp} {a : D} {xs : List D} : cmpR op a (.new (.lst xs)) = cmpD op a (.list xs) := (rfl)
theorem eq_D {a b : D} : cmpD .Eq a b = if eqOk a b then some (PyData.eqv a b) else none := (rfl)
theorem ne_D {a b : D} : cmpD .NotEq a b = if eqOk a b then some (!PyData.eqv a b) else none := (rfl)
@[simp] theorem eqOk_ints {i j : Int} : eqOk (.int i) (.int j) = true := by simp [eqOk]
@[simp] theorem eqOk_bools {i j : Bool} : eqOk (.bool i) (.bool j) = true := by simp [eqOk]
@[simp] theorem eqOk_strs {i j : Str} : eqOk (.str i) (.str j) = true := by simp [eqOk]
@[simp] theorem eq_int {i j : Int} : cmpD .Eq (.int i) (.int j) = some (decide (i = j)) := by rw [eq_D]; simp
@[simp] theorem ne_int {i j : Int} : cmpD .NotEq (.int i) (.int j) = some (decide (i ≠ j)) := by rw [ne_D]; simp
@[simp] theorem eq_bool {i j : Bool} : cmpD .Eq (.bool i) (.bool j) = some (i == j) := by rw [eq_D]; simp
@[simp] theorem eq_str' {i j : Str} : cmpD .Eq (.str i) (.str j) = some (decide (i = j)) := by rw [eq_D]; simp [Bool.beq_eq_decide_eq]
@[simp] theorem ne_str' {i j : Str} : cmpD .NotEq (.str i) (.str j) = some (decide (i ≠ j)) := by rw [ne_D]; simp [Bool.beq_eq_decide_eq]
@[simp] theorem lt_int {i j : Int} : cmpD .Lt (.int i) (.int j) = some (decide (i < j)) := (rfl)
@[simp] theorem le_int {i j : Int} : cmpD .LtE (.int i) (.int j) = some (decide (i ≤ j)) := (rfl)
@[simp] theorem gt_int {i j : Int} : cmpD .Gt (.int i) (.int j) = some (decide (j < i)) := (rfl)
@[simp] theorem ge_int {i j : Int} : cmpD .GtE (.int i) (.int j) = some (decide (j ≤ i)) := (rfl)
@[simp] theorem is_none {a : D} : cmpD .Is a .none = some (isNoneD a) := by cases a <;> rfl
@[simp] theorem isnot_none {a : D} : cmpD .IsNot a .none = some (!isNoneD a) := by cases a <;> rfl
@[simp] theorem isN_none : isNoneD .none = true := (rfl)
@[simp] theorem isN_int {i : Int} : isNoneD (.int i) = false := (rfl)
@[simp] theorem isN_bool {i : Bool} : isNoneD (.bool i) = false := (rfl)
@[simp] theorem isN_str {i : Str} : isNoneD (.str i) = false := (rfl)
@[simp] theorem isN_tup {i : List D} : isNoneD (.tuple i) = false := (rfl)
@[simp] theorem isN_list {i : List D} : isNoneD (.list i) = false := (rfl)
theorem in_list {x : D} {xs : List D} : cmpD .In x (.list xs) = inD x xs := by cases x <;> rfl
theorem in_tup {x : D} {xs : List D} : cmpD .In x (.tuple xs) = inD x xs := by cases x <;> rfl
theorem nin_list {x : D} {xs : List D} : cmpD .NotIn x (.list xs) = (inD x xs).map not := by cases x <;> rfl
theorem nin_tup {x : D} {xs : List D} : cmpD .NotIn x (.tuple xs) = (inD x xs).map not := by cases x <;> rfl
@[simp] theorem ix_list {xs : List D} {i : Int} : ixR (.val (.list xs)) (.int i) = L2.atI xs i := (rfl)
@[simp] theorem ix_tup {xs : List D} {i : Int} : ixR (.val (.tuple xs)) (.int i) = L2.atI xs i := (rfl)
@[simp] theorem ix_lst {xs : List D} {i : Int} : ixR (.new (.lst xs)) (.int i) = L2.atI xs i := (rfl)
@[simp] theorem ix_scr {kvs : List (D × D)} {i : Int} : ixR (.val (.dict kvs)) (.int i) = L2.atI (kvs.map (·.2)) i := (rfl)
@[simp] theorem ix_dct {kvs : List (D × D)} {k : D} : ixR (.new (.dct kvs)) k = if (keyD k).isSome then dGet kvs k else none := by cases k <;> rfl
@[simp] theorem put_lst {xs : List D} {i : Int} {x : D} : putO (.lst xs) (.int i) x = (L2.ixN xs.length i).map fun j => .lst (xs.set j x) := (rfl)
@[simp] theorem put_dctI {kvs : List (D × D)} {i : Int} {x : D} : putO (.dct kvs) (.int i) x = if kvs.length < sizeLine then some (.dct (dPut kvs (.int i) x)) else none := by
  show (if (true && decide (kvs.length < sizeLine)) = true then some (Ob.dct (dPut kvs (.int i) x)) else none) = _
  by_cases h : kvs.length < sizeLine <;> simp [h]
@[simp] theorem put_dctS {kvs : List (D × D)} {i : Str} {x : D} : putO (.dct kvs) (.str i) x = if kvs.length < sizeLine then some (.dct (dPut kvs (.str i) x)) else none := by
  show (if (true && decide (kvs.length < sizeLine)) = true then some (Ob.dct (dPut kvs (.str i) x)) else none) = _
  by_cases h : kvs.length < sizeLine <;> simp [h]
@[simp] theorem put_dctT {kvs : List (D × D)} {ts : List D} {x : D} : putO (.dct kvs) (.tuple ts) x = if (keyT (.tuple ts)).isSome && kvs.isEmpty then some (.dic [(.tuple ts, x)]) else none := (rfl)
@[simp] theorem put_dic {kvs : List (D × D)} {k x : D} : putO (.dic kvs) k x = if (keyT k).isSome && decide (kvs.length < sizeLine) then some (.dic (tPut kvs k x)) else none := by cases k <;> rfl
@[simp] theorem ix_dic {kvs : List (D × D)} {k : D} : ixR (.new (.dic kvs)) k = if (keyT k).isSome then tGet kvs k else none := by cases k <;> rfl
@[simp] theorem len_list {xs : List D} : biD .len [.list xs] = some (.val (.int xs.length)) := (rfl)
@[simp] theorem len_tup {xs : List D} : biD .len [.tuple xs] = some (.val (.int xs.length)) := (rfl)
@[simp] theorem len_scr {xs : List (D × D)} : biD .len [.dict xs] = some (.val (.int xs.length)) := (rfl)
@[simp] theorem len_str {z : Str} : biD .len [.str z] = if z.length ≤ sizeLine then some (.val (.int z.length)) else none := (rfl)
@[simp] theorem tuple_list {xs : List D} : biD .tuple [.list xs] = some (.val (.tuple xs)) := (rfl)
@[simp] theorem tuple_tup {xs : List D} : biD .tuple [.tuple xs] = some (.val (.tuple xs)) := (rfl)
@[simp] theorem list_list {xs : List D} : biD .list [.list xs] = some (.new (.lst xs)) := (rfl)
@[simp] theorem list_tup {xs : List D} : biD .list [.tuple xs] = some (.new (.lst xs)) := (rfl)
theorem sorted_list {xs : List D} : biD .sorted [.list xs] = if sortOk xs then some (.new (.lst (xs.mergeSort leD))) else none := (rfl)
theorem sorted_tup {xs : List D} : biD .sorted [.tuple xs] = if sortOk xs then some (.new (.lst (xs.mergeSort leD))) else none := (rfl)
@[simp] theorem intsD_mp {L : List Int} : intsD (L.map .int) = some L := by
  induction L with
  | nil => rfl
  | cons x r ih => simp [intsD, ih]
@[simp] theorem sum_ints {xs : List D} : biD .sum [.list xs] = (intsD xs).map fun ns => .val (.int ns.sum) := (rfl)
@[simp] theorem min_ints {i j : Int} : biD .min [.int i, .int j] = some (.val (.int (if j < i then j else i))) := (rfl)
@[simp] theorem max_ints {i j : Int} : biD .max [.int i, .int j] = some (.val (.int (if j > i then j else i))) := (rfl)
@[simp] theorem abs_int {i : Int} : biD .abs [.int i] = some (.val (.int (i.natAbs : Int))) := by
  show some (RV.val (.int (if i < 0 then -i else i))) = _
  have : (if i < 0 then -i else i) = (i.natAbs : Int) := by split <;> omega
  rw [this]
@[simp] theorem int_int {i : Int} : biD .int [.int i] = some (.val (.int i)) := (rfl)
@[simp] theorem int_bool {b : Bool} : biD .int [.bool b] = some (.val (.int (if b then 1 else 0))) := (rfl)
@[simp] theorem isa_one {t : Ty} {x : D} : biD (.isa [t]) [x] = if isDictD x then none else some (.val (.bool (isaD t x))) := by
  show (if isDictD x then none else some (RV.val (.bool ([t].any fun t => isaD t x)))) = _
  rw [List.any_cons, List.any_nil, Bool.or_false]
@[simp] theorem isd_int {i : Int} : isDictD (.int i) = false := (rfl)
@[simp] theorem isd_bool {i : Bool} : isDictD (.bool i) = false := (rfl)
@[simp] theorem isd_str {i : Str} : isDictD (.str i) = false := (rfl)
@[simp] theorem isd_tup {i : List D} : isDictD (.tuple i) = false := (rfl)
@[simp] theorem isd_list {i : List D} : isDictD (.list i) = false := (rfl)
@[simp] theorem isd_none : isDictD .none = false := (rfl)
@[simp] theorem rev_list {xs : List D} : revD (.list xs) = some (.new (.lst xs.reverse)) := (rfl)
@[simp] theorem rev_tup {xs : List D} : revD (.tuple xs) = some (.val (.tuple xs.reverse)) := (rfl)
@[simp] theorem zip_list {xs ys : List D} : zipDs [.list xs, .list ys] = some ((xs.zip ys).map fun p => .tuple [p.1, p.2]) := (rfl)
@[simp] theorem zip_tup {xs ys : List D} : zipDs [.tuple xs, .tuple ys] = some ((xs.zip ys).map fun p => .tuple [p.1, p.2]) := (rfl)
@[simp] theorem sl_list {xs : List D} {lo hi : Option Int} : slD (.list xs) lo hi = some (.new (.lst (cutL xs lo hi))) := (rfl)
@[simp] theorem sl_tup {xs : List D} {lo hi : Option Int} : slD (.tuple xs) lo hi = some (.val (.tuple (cutL xs lo hi))) := (rfl)
@[simp] theorem items_list {xs : List D} : itemsD (.list xs) = some xs := (rfl)
@[simp] theorem items_tup {xs : List D} : itemsD (.tuple xs) = some xs := (rfl)
theorem rng1 {j : Int} : rngD [.int j] = if -(2 ^ 62) ≤ j ∧ j < 2 ^ 62 ∧ j ≤ sizeLine then some ((List.range j.toNat).map fun (k : Nat) => .int k) else none := (rfl)
theorem rng2 {i j : Int} : rngD [.int i, .int j] = if (-(2 ^ 62) ≤ i ∧ i < 2 ^ 62) ∧ (-(2 ^ 62) ≤ j ∧ j < 2 ^ 62) ∧ j - i ≤ sizeLine then some ((List.range (j - i).toNat).map fun (k : Nat) => .int (i + k)) else none := (rfl)
theorem rng3 {i j c : Int} : rngD [.int i, .int j, .int c] = if (-(2 ^ 62) ≤ i ∧ i < 2 ^ 62) ∧ (-(2 ^ 62) ≤ j ∧ j < 2 ^ 62) ∧ c = -1 ∧ i - j ≤ sizeLine then some ((List.range (i - j).toNat).map fun (k : Nat) => .int (i - k)) else
  if (-(2 ^ 62) ≤ i ∧ i < 2 ^ 62) ∧ (-(2 ^ 62) ≤ j ∧ j < 2 ^ 62) ∧ (0 < c ∧ c < 1073741824) ∧ j - i ≤ sizeLine then some ((List.range (stepN i j c)).map fun (k : Nat) => .int (i + k * c)) else none := (rfl)
/-- a range of a step above 0 -/
theorem rng3p {i j c : Int} (h : (-(2 ^ 62) ≤ i ∧ i < 2 ^ 62) ∧ (-(2 ^ 62) ≤ j ∧ j < 2 ^ 62) ∧ (0 < c ∧ c < 1073741824) ∧ j - i ≤ sizeLine) : rngD [.int i, .int j, .int c] = some ((List.range (stepN i j c)).map fun (k : Nat) => .int (i + k * c)) := by
  rw [rng3, if_neg (by omega), if_pos h]
@[simp] theorem mut_append {xs : List D} {x : D} : mutO .append (.lst xs) [x] = if xs.length < sizeLine then some (.none, .lst (xs ++ [x])) else none := (rfl)
@[simp] theorem mut_extend {xs ys : List D} : mutO .extend (.lst xs) [.list ys] = if xs.length + ys.length ≤ sizeLine then some (.none, .lst (xs ++ ys)) else none := (rfl)
@[simp] theorem mut_pop {xs : List D} : mutO .pop (.lst xs) [] = (xs[xs.length - 1]?).map fun x => (x, .lst xs.dropLast) := (rfl)
@[simp] theorem mut_popAt {xs : List D} {i : Int} : mutO .popAt (.lst xs) [.int i] = if -(2 ^ 63) ≤ i ∧ i < 2 ^ 63 then (L2.ixN xs.length i).bind fun k => (xs[k]?).map fun x => (x, .lst (xs.eraseIdx k)) else none := (rfl)
@[simp] theorem mut_reverse {xs : List D} : mutO .reverse (.lst xs) [] = some (.none, .lst xs.reverse) := (rfl)
@[simp] theorem get_dctI {kvs : List (D × D)} {i : Int} : pureM .get (.new (.dct kvs)) [.int i] = some (.val ((dGet kvs (.int i)).getD .none)) := (rfl)
@[simp] theorem get_dctS {kvs : List (D × D)} {i : Str} : pureM .get (.new (.dct kvs)) [.str i] = some (.val ((dGet kvs (.str i)).getD .none)) := (rfl)
@[simp] theorem get_dctT {kvs : List (D × D)} {ts : List D} : pureM .get (.new (.dct kvs)) [.tuple ts] = if (keyT (.tuple ts)).isSome && kvs.isEmpty then some (.val .none) else none := (rfl)
@[simp] theorem get_dic {kvs : List (D × D)} {k : D} : pureM .get (.new (.dic kvs)) [k] = if (keyT k).isSome then some (.val ((tGet kvs k).getD .none)) else none := (rfl)
@[simp] theorem get2_dctI {kvs : List (D × D)} {i : Int} {d : D} : pureM .get2 (.new (.dct kvs)) [.int i, d] = if !isListD d && !isDictD d then some (.val ((dGet kvs (.int i)).getD d)) else none := by
  cases d <;> rfl
@[simp] theorem get2_dctS {kvs : List (D × D)} {i : Str} {d : D} : pureM .get2 (.new (.dct kvs)) [.str i, d] = if !isListD d && !isDictD d then some (.val ((dGet kvs (.str i)).getD d)) else none := by
  cases d <;> rfl
@[simp] theorem get2_dctT {kvs : List (D × D)} {ts : List D} {d : D} : pureM .get2 (.new (.dct kvs)) [.tuple ts, d] = if (keyT (.tuple ts)).isSome && kvs.isEmpty && !isListD d && !isDictD d then some (.val d) else none := (rfl)
@[simp] theorem get2_dic {kvs : List (D × D)} {k d : D} : pureM .get2 (.new (.dic kvs)) [k, d] = if (keyT k).isSome && !isListD d && !isDictD d then some (.val ((tGet kvs k).getD d)) else none := (rfl)
@[simp] theorem isl_int {i : Int} : isListD (.int i) = false := (rfl)
@[simp] theorem isl_none : isListD .none = false := (rfl)
@[simp] theorem isl_tup {i : List D} : isListD (.tuple i) = false := (rfl)
@[simp] theorem isl_bool {i : Bool} : isListD (.bool i) = false := (rfl)
@[simp] theorem kind_lst {xs : List D} : kindR (.new (.lst xs)) = .list := (rfl)
@[simp] theorem kind_dct {xs : List (D × D)} : kindR (.new (.dct xs)) = .dict := (rfl)
@[simp] theorem kind_vlist {xs : List D} : kindR (.val (.list xs)) = .list := (rfl)
@[simp] theorem isNew_new {o : Ob} : isNewR (.new o) = true := (rfl)
/-! arguments -/
section
variable {e : En}
@[simp] theorem args_nil : argsOf [] e = some [] := (rfl)
@[simp] theorem args_cons {o : Opd} {os : List Opd} : argsOf (o :: os) e = (argOf o e).bind fun s => (argsOf os e).map (s :: ·) := (rfl)
@[simp] theorem arg_val {d : D} : argOf (.val d) e = some (.sh d) := (rfl)
@[simp] theorem arg_new {d : Ob} : argOf (.new d) e = some (.pa d) := (rfl)
/-- a name's object as an argument -/
def argS : Slot → Option Slot
  | .sh d => some (.sh d)
  | .ow o => some (.pa o)
  | .pa o => some (.pa o)
  | .no => none
@[simp] theorem argS_sh {d : D} : argS (.sh d) = some (.sh d) := (rfl)
@[simp] theorem argS_ow {d : Ob} : argS (.ow d) = some (.pa d) := (rfl)
@[simp] theorem argS_pa {d : Ob} : argS (.pa d) = some (.pa d) := (rfl)
@[simp] theorem arg_slot {i : Nat} : argOf (.slot i) e = (e[i]?).bind argS := by
  show (match e[i]? with
    | some (.sh d) => some (Slot.sh d)
    | some (.ow o) => some (.pa o)
    | some (.pa o) => some (.pa o)
    | _ => none) = _
  cases h : e[i]? with
  | none => rfl
  | some s => cases s <;> rfl
@[simp] theorem moved_nil : moved [] e = [] := (rfl)
@[simp] theorem moved_val {d : D} {os : List Opd} : moved (.val d :: os) e = moved os e := (rfl)
@[simp] theorem moved_new {d : Ob} {os : List Opd} : moved (.new d :: os) e = moved os e := (rfl)
def isOwS : Slot → Bool
  | .ow _ => true
  | .pa _ => true
  | _ => false
@[simp] theorem isOwS_ow {o : Ob} : isOwS (.ow o) = true := (rfl)
@[simp] theorem isOwS_pa {o : Ob} : isOwS (.pa o) = true := (rfl)
@[simp] theorem isOwS_sh {o : D} : isOwS (.sh o) = false := (rfl)
@[simp] theorem isOwS_no : isOwS .no = false := (rfl)
@[simp] theorem moved_slot {i : Nat} {os : List Opd} : moved (.slot i :: os) e = if ((e[i]?).map isOwS).getD false = true then i :: moved os e else moved os e := by
  show (match e[i]? with
    | some (.ow _) => i :: moved os e
    | some (.pa _) => i :: moved os e
    | _ => moved os e) = _
  cases h : e[i]? with
  | none => simp
  | some s => cases s <;> simp
@[simp] theorem wb_nil {ss : List Slot} : wb [] ss e = e := (rfl)
@[simp] theorem wb_val {d : D} {os : List Opd} {ss : List Slot} : wb (.val d :: os) ss e = wb os ss.tail e := (rfl)
@[simp] theorem wb_new {d : Ob} {os : List Opd} {ss : List Slot} : wb (.new d :: os) ss e = wb os ss.tail e := (rfl)
/-- a name's object behind a call -/
def wbS (i : Nat) (s : Slot) (r : Slot) (e : En) : En := match s with
  | .ow _ => e.set i (asOw r)
  | .pa _ => e.set i (asPa r)
  | _ => e
@[simp] theorem wbS_ow {i : Nat} {o o' : Ob} : wbS i (.ow o) (.pa o') e = e.set i (.ow o') := (rfl)
@[simp] theorem wbS_pa {i : Nat} {o o' : Ob} : wbS i (.pa o) (.pa o') e = e.set i (.pa o') := (rfl)
@[simp] theorem wbS_own {i : Nat} {o : Ob} : wbS i (.ow o) .no e = e.set i .no := (rfl)
@[simp] theorem wbS_pan {i : Nat} {o : Ob} : wbS i (.pa o) .no e = e.set i .no := (rfl)
@[simp] theorem wbS_sh {i : Nat} {o : D} {r : Slot} : wbS i (.sh o) r e = e := (rfl)
@[simp] theorem wb_slot {i : Nat} {os : List Opd} {ss : List Slot} : wb (.slot i :: os) ss e = wb os ss.tail (wbS i (e[i]?.getD .no) (ss.headD .no) e) := by
  show wb os ss.tail (match e[i]? with
    | some (.ow _) => e.set i (asOw (ss.headD .no))
    | some (.pa _) => e.set i (asPa (ss.headD .no))
    | _ => e) = _
  cases h : e[i]? with
  | none => rfl
  | some s => cases s <;> rfl
@[simp] theorem mask_nil {e : En} : maskOuts [] e = [] := by cases e <;> rfl
@[simp] theorem mask_sh {d : D} {as : List Slot} {s : Slot} : maskOuts (.sh d :: as) (s :: e) = .no :: maskOuts as e := by cases s <;> rfl
@[simp] theorem mask_papa {o o' : Ob} {as : List Slot} : maskOuts (.pa o :: as) (.pa o' :: e) = .pa o' :: maskOuts as e := (rfl)
@[simp] theorem mask_pash {o : Ob} {d : D} {as : List Slot} : maskOuts (.pa o :: as) (.sh d :: e) = .no :: maskOuts as e := (rfl)
@[simp] theorem mask_pano {o : Ob} {as : List Slot} : maskOuts (.pa o :: as) (.no :: e) = .no :: maskOuts as e := (rfl)
end
end Ev
/-! the words that all laws share -/
namespace Ev
open PySem
def bDraws : MSs := (.cons (.asg (.name 2) (.lst .nil))
  (.cons (.asg (.name 3) (.c (.int 7)))
  (.cons (.for_ (.name 4) (.rng (.cons (.bi .len (.cons (.v 0) .nil)) .nil)) (.cons (.asg (.name 5) (.bi .abs (.cons (.bi .int (.cons (.ix (.v 0) (.v 4)) .nil)) .nil)))
  (.cons (.asg (.name 3) (.bin .Mod (.bi .int (.cons (.bin .Add (.bin .Add (.bin .Mult (.v 3) (.c (.int 48271))) (.bin .Mod (.v 5) (.c (.int 1000003)))) (.v 4)) .nil)) (.c (.int 65537))))
  (.cons (.asg (.name 6) (.c (.int 0)))
  (.cons (.ife (.tr (.cmp .GtE (.v 5) (.bin .Pow (.c (.int 10)) (.c (.int 18))))) (.cons (.asg (.name 6) (.v 5))
  .nil) (.cons (.expr (.meth .append (.v 2) (.cons (.bin .Mod (.bi .int (.cons (.v 5) .nil)) (.c (.int 997))) .nil)))
  (.cons (.expr (.meth .append (.v 2) (.cons (.bin .Mod (.bin .Mod (.bi .int (.cons (.bin .Add (.bin .Mult (.v 3) (.c (.int 69621))) (.c (.int 5))) .nil)) (.c (.int 65521))) (.c (.int 997))) .nil)))
  .nil)))
  (.cons (.for_ (.name 7) (.rng (.cons (.c (.int 60)) .nil)) (.cons (.ife (.tr (.cmp .Gt (.v 6) (.c (.int 0)))) (.cons (.expr (.meth .append (.v 2) (.cons (.bin .Mod (.bi .int (.cons (.v 6) .nil)) (.c (.int 997))) .nil)))
  (.cons (.asg (.name 6) (.bin .FloorDiv (.v 6) (.c (.int 997))))
  .nil)) .nil)
  .nil))
  .nil))))))
  (.cons (.for_ (.name 4) (.rng (.cons (.v 1) .nil)) (.cons (.asg (.name 3) (.bin .Mod (.bi .int (.cons (.bin .Add (.bin .Add (.bin .Mult (.v 3) (.c (.int 16807))) (.v 4)) (.c (.int 1))) .nil)) (.c (.int 65537))))
  (.cons (.expr (.meth .append (.v 2) (.cons (.bin .Mod (.bi .int (.cons (.v 3) .nil)) (.c (.int 997))) .nil)))
  .nil)))
  (.cons (.ret (.sl (.v 2) .none (.some (.v 1))))
  .nil)))))
def bNext : MSs := (.cons (.augIx 0 (.c (.str "at")) .Add (.c (.int 1)))
  (.cons (.ife (.tr (.cmp .Gt (.ix (.v 0) (.c (.str "at"))) (.bi .len (.cons (.ix (.v 0) (.c (.str "draws"))) .nil)))) (.cons (.ret (.c (.int 0)))
  .nil) .nil)
  (.cons (.ret (.bin .Mod (.bi .int (.cons (.ix (.ix (.v 0) (.c (.str "draws"))) (.bin .Sub (.ix (.v 0) (.c (.str "at"))) (.c (.int 1)))) .nil)) (.v 1)))
  .nil)))
def bPick (j : Nat) : MSs := (.cons (.ret (.ix (.v 1) (.call j (.cons (.v 0) (.cons (.bi .len (.cons (.v 1) .nil)) .nil)))))
  .nil)
def bAlike (j : Nat) : MSs := (.cons (.ife (.tr (.bi (.isa [.tuple]) (.cons (.v 1) .nil))) (.cons (.ife (.orr (.nott (.tr (.bi (.isa [.tuple]) (.cons (.v 0) .nil)))) (.tr (.cmp .NotEq (.bi .len (.cons (.v 0) .nil)) (.bi .len (.cons (.v 1) .nil))))) (.cons (.ret (.c (.bool false)))
  .nil) .nil)
  (.cons (.ret (.cmp .Eq (.comp [2] (.name 2) (.rng (.cons (.bi .len (.cons (.v 1) .nil)) .nil)) (.some (.nott (.tr (.call j (.cons (.ix (.v 0) (.v 2)) (.cons (.ix (.v 1) (.v 2)) .nil)))))) (.v 2)) (.lst .nil)))
  .nil)) .nil)
  (.cons (.ife (.tr (.cmp .Is (.v 1) (.c .none))) (.cons (.ret (.cmp .Is (.v 0) (.c .none)))
  .nil) .nil)
  (.cons (.ife (.tr (.bi (.isa [.bool]) (.cons (.v 1) .nil))) (.cons (.ret (.andd (.bi (.isa [.bool]) (.cons (.v 0) .nil)) (.cmp .Eq (.v 0) (.v 1))))
  .nil) .nil)
  (.cons (.ife (.tr (.bi (.isa [.int]) (.cons (.v 1) .nil))) (.cons (.ret (.andd (.bi (.isa [.int]) (.cons (.v 0) .nil)) (.andd (.nott (.bi (.isa [.bool]) (.cons (.v 0) .nil))) (.cmp .Eq (.v 0) (.v 1)))))
  .nil) .nil)
  (.cons (.ret (.andd (.bi (.isa [.str]) (.cons (.v 0) .nil)) (.cmp .Eq (.v 0) (.v 1))))
  .nil)))))
/-- a script -/
def scrD (ns : List Int) : D := .dict (ns.map fun n => (.none, .int n))
/-! ### the draws -/
/-- the drawing box: rows of numbers and a place -/
def W (L : List Int) (a : Nat) : Ob := .dct [(.str "draws", .list (L.map .int)), (.str "at", .int a)]
def nxt (L : List Int) (a : Nat) (m : Int) : Int := if a + 1 ≤ L.length then L.getD a 0 % m else 0
theorem nxt_nonneg {L : List Int} {a : Nat} {m : Int} (h : 0 < m) : 0 ≤ nxt L a m := by
  unfold nxt; split
  · exact Int.emod_nonneg _ (by omega)
  · omega
theorem nxt_lt {L : List Int} {a : Nat} {m : Int} (h : 0 < m) : nxt L a m < m := by
  unfold nxt; split
  · exact Int.emod_lt_of_pos _ h
  · exact h
@[simp] theorem W_at {L : List Int} {a : Nat} : ixR (.new (W L a)) (.str "at") = some (.int a) := by simp [W]
@[simp] theorem W_draws {L : List Int} {a : Nat} : ixR (.new (W L a)) (.str "draws") = some (.list (L.map .int)) := by simp [W]
@[simp] theorem W_put {L : List Int} {a : Nat} : putO (W L a) (.str "at") (.int ((a : Int) + 1)) = some (W L (a + 1)) := by simp [W, sizeL, dPut]
section
variable {fs : List Fd} {n j : Nat}
theorem next_ok {L : List Int} {a : Nat} {m : Int} (hf : fs[j]? = some ⟨2, 2, bNext⟩) (hm : 0 < m) (hl : L.length ≤ 100000) : callN fs (n + 1) j [.pa (W L a), .sh (.int m)] = .ok (.val (.int (nxt L a m))) [.pa (W L (a + 1)), .no] := by
  refine cok_eq (cok_call hf rfl ?_)
  simp [bNext, ok_upd, isNewR]
  unfold nxt
  by_cases h : a + 1 ≤ L.length
  · have h1 : a < (L.map PyData.int).length := by simp; omega
    rw [if_neg (by omega), atI_nat' h1]
    simp [hm, if_pos h, List.getD_eq_getElem?_getD, List.getElem?_eq_getElem (show a < L.length by omega)]
  · rw [if_pos (by omega), if_neg h]
/-- one of the rows -/
def pck (xs : List D) (L : List Int) (a : Nat) : D := xs.getD (nxt L a xs.length).toNat .none
theorem pck_mem {xs : List D} {L : List Int} {a : Nat} (h : xs ≠ []) : pck xs L a ∈ xs := by
  have h0 : 0 < (xs.length : Int) := by have := List.length_pos_iff.mpr h; omega
  have h1 := nxt_nonneg (L := L) (a := a) h0
  have h2 := nxt_lt (L := L) (a := a) h0
  unfold pck
  rw [List.getD_eq_getElem?_getD, List.getElem?_eq_getElem (show (nxt L a xs.length).toNat < xs.length by omega)]
  simp
theorem pck_at {xs : List D} {L : List Int} {a : Nat} (h : xs ≠ []) : L2.atI xs (nxt L a xs.length) = some (pck xs L a) := by
  have h0 : 0 < (xs.length : Int) := by have := List.length_pos_iff.mpr h; omega
  have h1 := nxt_nonneg (L := L) (a := a) h0
  have h2 := nxt_lt (L := L) (a := a) h0
  have e : nxt L a xs.length = ((nxt L a xs.length).toNat : Int) := by omega
  unfold pck
  rw [List.getD_eq_getElem?_getD]
  rw [e, atI_nat' (show (nxt L a xs.length).toNat < xs.length by omega), ← e, List.getElem?_eq_getElem (show (nxt L a xs.length).toNat < xs.length by omega)]
  rfl
section
variable {jn : Nat} {L : List Int} {a : Nat} {xs : List D}
theorem pick_list (hf : fs[j]? = some ⟨2, 2, bPick jn⟩) (hn : fs[jn]? = some ⟨2, 2, bNext⟩) (hx : xs ≠ []) (hl : L.length ≤ 100000) : callN fs (n + 2) j [.pa (W L a), .sh (.list xs)] = .ok (.val (pck xs L a)) [.pa (W L (a + 1)), .no] := by
  have h0 : 0 < (xs.length : Int) := by have := List.length_pos_iff.mpr hx; omega
  refine cok_eq (cok_call (n := n + 1) hf rfl ?_)
  simp [bPick, ok_call, next_ok hn h0 hl, pck_at hx]
theorem pick_tup (hf : fs[j]? = some ⟨2, 2, bPick jn⟩) (hn : fs[jn]? = some ⟨2, 2, bNext⟩) (hx : xs ≠ []) (hl : L.length ≤ 100000) : callN fs (n + 2) j [.pa (W L a), .sh (.tuple xs)] = .ok (.val (pck xs L a)) [.pa (W L (a + 1)), .no] := by
  have h0 : 0 < (xs.length : Int) := by have := List.length_pos_iff.mpr hx; omega
  refine cok_eq (cok_call (n := n + 1) hf rfl ?_)
  simp [bPick, ok_call, next_ok hn h0 hl, pck_at hx]
theorem pick_pa (hf : fs[j]? = some ⟨2, 2, bPick jn⟩) (hn : fs[jn]? = some ⟨2, 2, bNext⟩) (hx : xs ≠ []) (hl : L.length ≤ 100000) : callN fs (n + 2) j [.pa (W L a), .pa (.lst xs)] = .ok (.val (pck xs L a)) [.pa (W L (a + 1)), .pa (.lst xs)] := by
  have h0 : 0 < (xs.length : Int) := by have := List.length_pos_iff.mpr hx; omega
  refine cok_eq (cok_call (n := n + 1) hf rfl ?_)
  simp [bPick, ok_call, next_ok hn h0 hl, pck_at hx]
end
/-- data that _law_alike can look at -/
def tame : Nat → D → Bool
  | _, .none => true
  | _, .bool _ => true
  | _, .int _ => true
  | _, .str _ => true
  | n + 1, .tuple xs => decide (xs.length ≤ sizeLine) && xs.all (tame n)
  | _, _ => false
theorem alike_ok (hf : fs[j]? = some ⟨2, 3, bAlike j⟩) : ∀ (m k : Nat) (d : D), m < k → tame m d = true → callN fs k j [.sh d, .sh d] = .ok (.val (.bool true)) [.no, .no] := by
  have leaf : ∀ (k : Nat) (d : D), (d = .none ∨ (∃ b, d = .bool b) ∨ (∃ i, d = .int i) ∨ ∃ s, d = .str s) → callN fs (k + 1) j [.sh d, .sh d] = .ok (.val (.bool true)) [.no, .no] := by
    intro k d h
    refine cok_eq (cok_call hf rfl ?_)
    rcases h with rfl | ⟨b, rfl⟩ | ⟨i, rfl⟩ | ⟨s, rfl⟩
    · simp [bAlike, isaD]
    · simp [bAlike, isaD]
    · simp [bAlike, isaD]
    · simp [bAlike, isaD]
  intro m
  induction m with
  | zero =>
    intro k d hk h
    obtain ⟨k, rfl⟩ : ∃ k', k = k' + 1 := ⟨k - 1, by omega⟩
    apply leaf
    cases d <;> first | (simp [tame] at h; done) | simp
  | succ m ih =>
    intro k d hk h
    obtain ⟨k, rfl⟩ : ∃ k', k = k' + 1 := ⟨k - 1, by omega⟩
    cases d with
    | tuple xs =>
      simp only [tame, Bool.and_eq_true, decide_eq_true_eq, List.all_eq_true] at h
      refine cok_eq (cok_call hf rfl ?_)
      have hs := sizeL
      have e1 : (-(2 ^ 62) : Int) ≤ xs.length := by omega
      have e2 : (xs.length : Int) < 2 ^ 62 := by omega
      have e3 : (xs.length : Int) ≤ sizeLine := by omega
      simp [bAlike, isaD, w_comp, e1, e2, e3, rng1]
      refine ⟨by omega, ?_⟩
      refine comp_map (fun _ => none) ?_ (fun d hd => ?_) ?_
      · simp [notOwned]
      · obtain ⟨i, hi, rfl⟩ := List.mem_map.mp hd
        have hi : i < xs.length := by simpa using hi
        have hx := ih k xs[i] (by omega) (h.2 _ (List.getElem_mem hi))
        simp [wipeE, atI_nat' hi, ok_call, hx]
      · have hnil : ∀ l : List D, l.filterMap (fun _ => (none : Option D)) = [] := fun l => by induction l <;> simp_all
        rw [hnil]
        simp [eq_D, eqOk, PyData.plain, PyData.plainAll, PyData.eqv, PyData.eqvAll, PyData.depth, PyData.depthAll]
    | list xs => simp [tame] at h
    | dict xs => simp [tame] at h
    | none => exact leaf _ _ (.inl rfl)
    | bool b => exact leaf _ _ (.inr (.inl ⟨b, rfl⟩))
    | int i => exact leaf _ _ (.inr (.inr (.inl ⟨i, rfl⟩)))
    | str s => exact leaf _ _ (.inr (.inr (.inr ⟨s, rfl⟩)))
end
end Ev
namespace Ev
open PySem
section
variable {fs : List Fd} {n j : Nat}
theorem cut_len {α : Type} {xs : List α} {lo hi : Option Int} : (cutL xs lo hi).length ≤ xs.length := by
  unfold cutL
  rw [List.length_take, List.length_drop]; omega
theorem cut_map {L : List Int} {lo hi : Option Int} : cutL (L.map PyData.int) lo hi = (cutL L lo hi).map .int := by
  unfold cutL
  rw [List.length_map, List.map_take, List.map_drop]
def drIn : MSs := .cons (.ife (.tr (.cmp .Gt (.v 6) (.c (.int 0)))) (.cons (.expr (.meth .append (.v 2) (.cons (.bin .Mod (.bi .int (.cons (.v 6) .nil)) (.c (.int 997))) .nil))) (.cons (.asg (.name 6) (.bin .FloorDiv (.v 6) (.c (.int 997)))) .nil)) .nil) .nil
theorem inner_ok {cf : Nat → List Slot → CR} (s0 s1 s3 s4 s5 s7 : Slot) (L : List Int) (x6 : Int) (hL : L.length ≤ 4000) :
    Ok (forLoop (fun d => do
      bindT (.name 7) d
      evSs cf drIn) ((List.range 60).map fun (k : Nat) => PyData.int k) [s0, s1, .ow (.lst (L.map .int)), s3, s4, s5, .sh (.int x6), s7]) fun fl e => fl = .nx ∧ ∃ (L' : List Int) (x6 : Int) (s7 : Slot), L'.length ≤ L.length + 60 ∧ e = [s0, s1, .ow (.lst (L'.map .int)), s3, s4, s5, .sh (.int x6), s7] := by
  have hs := sizeL
  refine for_inv (fun rest e => ∃ (L' : List Int) (x6 : Int) (s7 : Slot), e = [s0, s1, .ow (.lst (L'.map .int)), s3, s4, s5, .sh (.int x6), s7] ∧ L'.length + rest.length ≤ L.length + 60) ⟨L, x6, s7, rfl, by simp⟩ ?_ ?_
  · rintro d rest e ⟨L', x6, s7, rfl, hl⟩
    simp only [List.length_cons] at hl
    have h3 : L'.length < sizeLine := by omega
    simp [h3, drIn]
    split
    · exact ⟨L' ++ [x6 % 997], by simp, by simp; omega⟩
    · exact ⟨L', rfl, by omega⟩
  · rintro e ⟨L', x6, s7, rfl, hl⟩
    exact ⟨rfl, L', x6, s7, by simpa using hl, rfl⟩
def drOut : MSs := (.cons (.asg (.name 5) (.bi .abs (.cons (.bi .int (.cons (.ix (.v 0) (.v 4)) .nil)) .nil)))
  (.cons (.asg (.name 3) (.bin .Mod (.bi .int (.cons (.bin .Add (.bin .Add (.bin .Mult (.v 3) (.c (.int 48271))) (.bin .Mod (.v 5) (.c (.int 1000003)))) (.v 4)) .nil)) (.c (.int 65537))))
  (.cons (.asg (.name 6) (.c (.int 0)))
  (.cons (.ife (.tr (.cmp .GtE (.v 5) (.bin .Pow (.c (.int 10)) (.c (.int 18))))) (.cons (.asg (.name 6) (.v 5))
  .nil) (.cons (.expr (.meth .append (.v 2) (.cons (.bin .Mod (.bi .int (.cons (.v 5) .nil)) (.c (.int 997))) .nil)))
  (.cons (.expr (.meth .append (.v 2) (.cons (.bin .Mod (.bin .Mod (.bi .int (.cons (.bin .Add (.bin .Mult (.v 3) (.c (.int 69621))) (.c (.int 5))) .nil)) (.c (.int 65521))) (.c (.int 997))) .nil)))
  .nil)))
  (.cons (.for_ (.name 7) (.rng (.cons (.c (.int 60)) .nil)) drIn)
  .nil)))))
def drEnd : MSs := (.cons (.asg (.name 3) (.bin .Mod (.bi .int (.cons (.bin .Add (.bin .Add (.bin .Mult (.v 3) (.c (.int 16807))) (.v 4)) (.c (.int 1))) .nil)) (.c (.int 65537))))
  (.cons (.expr (.meth .append (.v 2) (.cons (.bin .Mod (.bi .int (.cons (.v 3) .nil)) (.c (.int 997))) .nil)))
  .nil))
theorem bDraws_eq : bDraws = .cons (.asg (.name 2) (.lst .nil)) (.cons (.asg (.name 3) (.c (.int 7))) (.cons (.for_ (.name 4) (.rng (.cons (.bi .len (.cons (.v 0) .nil)) .nil)) drOut) (.cons (.for_ (.name 4) (.rng (.cons (.v 1) .nil)) drEnd) (.cons (.ret (.sl (.v 2) .none (.some (.v 1)))) .nil)))) := rfl
theorem outer_ok {cf : Nat → List Slot → CR} {ns : List Int} (hn : ns.length ≤ 63) (s1 s4 s5 s6 s7 : Slot) (x3 : Int) :
    Ok (forLoop (fun d => do
      bindT (.name 4) d
      evSs cf drOut) ((List.range ns.length).map fun (k : Nat) => PyData.int k) [.sh (scrD ns), s1, .ow (.lst []), .sh (.int x3), s4, s5, s6, s7]) fun fl e => fl = .nx ∧ ∃ (L : List Int) (x3 : Int) (s4 s5 s6 s7 : Slot), L.length ≤ 4000 ∧ e = [.sh (scrD ns), s1, .ow (.lst (L.map .int)), .sh (.int x3), s4, s5, s6, s7] := by
  have hs := sizeL
  have r60 : (60 : Int) ≤ (sizeLine : Int) := by omega
  refine for_inv (fun rest e => (∀ d ∈ rest, ∃ k : Nat, k < ns.length ∧ d = .int k) ∧ ∃ (L : List Int) (x3 : Int) (s4 s5 s6 s7 : Slot), e = [.sh (scrD ns), s1, .ow (.lst (L.map .int)), .sh (.int x3), s4, s5, s6, s7] ∧ L.length + 62 * rest.length ≤ 4000) ?_ ?_ ?_
  · refine ⟨fun d hd => ?_, [], x3, _, _, _, _, rfl, by simp; omega⟩
    obtain ⟨k, hk, rfl⟩ := List.mem_map.mp hd
    exact ⟨k, by simpa using hk, rfl⟩
  · rintro d rest e ⟨hr, L, x3, s4, s5, s6, s7, rfl, hL⟩
    obtain ⟨k, hk, rfl⟩ := hr d (List.mem_cons_self ..)
    have hat : ixR (.val (scrD ns)) (.int k) = some (.int ns[k]) := by
      unfold scrD
      rw [ix_scr, List.map_map, atI_nat' (by simpa using hk)]; simp
    simp only [List.length_cons] at hL
    have h1 : L.length < sizeLine := by omega
    have h2 : L.length + 1 < sizeLine := by omega
    have hr' : ∀ d ∈ rest, ∃ k : Nat, k < ns.length ∧ d = .int k := fun d hd => hr d (List.mem_cons_of_mem _ hd)
    simp [drOut, hat, w_for, h1, h2, r60, rng1]
    split
    · refine (inner_ok _ _ _ _ _ _ L _ (by omega)).mono ?_
      rintro fl e ⟨rfl, L', x6, s7, hl, rfl⟩
      simp
      exact ⟨hr', L', rfl, by omega⟩
    · have e : ∀ a b : Int, L.map PyData.int ++ [PyData.int a, PyData.int b] = (L ++ [a, b]).map PyData.int := fun a b => by simp
      rw [e]
      refine (inner_ok _ _ _ _ _ _ _ _ (by simp; omega)).mono ?_
      rintro fl e ⟨rfl, L', x6, s7, hl, rfl⟩
      simp at hl
      simp
      exact ⟨hr', L', rfl, by omega⟩
  · rintro e ⟨_, L, x3, s4, s5, s6, s7, rfl, hL⟩
    exact ⟨rfl, L, x3, s4, s5, s6, s7, by omega, rfl⟩
theorem drEnd_ok {cf : Nat → List Slot → CR} (m : Nat) (hm : m ≤ 10000) (s0 s1 s4 s5 s6 s7 : Slot) (L : List Int) (x3 : Int) (hL : L.length ≤ 4000) :
    Ok (forLoop (fun d => do
      bindT (.name 4) d
      evSs cf drEnd) ((List.range m).map fun (k : Nat) => PyData.int k) [s0, s1, .ow (.lst (L.map .int)), .sh (.int x3), s4, s5, s6, s7]) fun fl e => fl = .nx ∧ ∃ (L : List Int) (x3 : Int) (s4 : Slot), L.length ≤ 14000 ∧ e = [s0, s1, .ow (.lst (L.map .int)), .sh (.int x3), s4, s5, s6, s7] := by
  have hs := sizeL
  refine for_inv (fun rest e => (∀ d ∈ rest, ∃ k : Nat, d = .int k) ∧ ∃ (L : List Int) (x3 : Int) (s4 : Slot), e = [s0, s1, .ow (.lst (L.map .int)), .sh (.int x3), s4, s5, s6, s7] ∧ L.length + rest.length ≤ 14000) ?_ ?_ ?_
  · refine ⟨fun d hd => ?_, L, x3, _, rfl, by simp; omega⟩
    obtain ⟨k, hk, rfl⟩ := List.mem_map.mp hd
    exact ⟨k, rfl⟩
  · rintro d rest e ⟨hr, L, x3, s4, rfl, hL⟩
    obtain ⟨k, rfl⟩ := hr d (List.mem_cons_self ..)
    simp only [List.length_cons] at hL
    have h1 : L.length < sizeLine := by omega
    simp [drEnd, h1]
    exact ⟨fun d hd => hr d (List.mem_cons_of_mem _ hd), L ++ [_], by simp; rfl, by simp; omega⟩
  · rintro e ⟨_, L, x3, s4, rfl, hL⟩
    exact ⟨rfl, L, x3, s4, by simpa using hL, rfl⟩
theorem draws_ok {ns : List Int} {m : Nat} (hf : fs[j]? = some ⟨2, 8, bDraws⟩) (hn : ns.length ≤ 63) (hm : m ≤ 10000) :
    ∃ L : List Int, L.length ≤ 100000 ∧ callN fs (n + 1) j [.sh (scrD ns), .sh (.int m)] = .ok (.new (.lst (L.map .int))) [.no, .no] := by
  have hs := sizeL
  have : COk (callN fs (n + 1) j [.sh (scrD ns), .sh (.int m)]) fun r o => ∃ L : List Int, L.length ≤ 100000 ∧ r = .new (.lst (L.map .int)) ∧ o = [.no, .no] := by
    refine cok_call hf rfl ?_
    have hlen : biD .len [scrD ns] = some (.val (.int ns.length)) := by unfold scrD; rw [len_scr, List.length_map]
    have z1 : -(2 ^ 62 : Int) ≤ (ns.length : Int) ∧ (ns.length : Int) < 2 ^ 62 ∧ (ns.length : Int) ≤ sizeLine := by omega
    have z2 : -(2 ^ 62 : Int) ≤ (m : Int) ∧ (m : Int) < 2 ^ 62 ∧ (m : Int) ≤ sizeLine := by omega
    have hr1 : rngD [.int (ns.length : Int)] = some ((List.range ns.length).map fun (k : Nat) => PyData.int k) := by rw [rng1, if_pos z1]; simp
    have hr2 : rngD [.int (m : Int)] = some ((List.range m).map fun (k : Nat) => PyData.int k) := by rw [rng1, if_pos z2]; simp
    simp [bDraws_eq, w_for, hlen, hr1]
    refine (outer_ok hn _ _ _ _ _ _).mono ?_
    rintro fl e ⟨rfl, L, x3, s4, s5, s6, s7, hL, rfl⟩
    simp [hr2]
    refine (drEnd_ok m hm _ _ _ _ _ _ L _ hL).mono ?_
    rintro fl e ⟨rfl, L, x3, s4, hL, rfl⟩
    simp [cut_map]
    exact ⟨_, Nat.le_trans cut_len (by omega), rfl⟩
  obtain ⟨r, o, h1, L, h2, h3, h4⟩ := cok_iff.mp this
  exact ⟨L, h2, by rw [h1, h3, h4]⟩
end
end Ev
namespace Ev
open PySem
theorem for_list {f : D → M Fl} {Q : Fl → En → Prop} {e : En} (J : Nat → En → Prop) {ds : List D} (h : J 0 e) (step : ∀ i d e, ds[i]? = some d → J i e → Ok (f d e) (turn Q (J (i + 1)))) (fin : ∀ e, J ds.length e → Q .nx e) : Ok (forLoop f ds e) Q := by
  refine for_inv (fun rest e => ∃ i, rest = ds.drop i ∧ i ≤ ds.length ∧ J i e) ⟨0, rfl, Nat.zero_le _, h⟩ ?_ ?_
  · rintro d rest e ⟨i, hr, hi, hJ⟩
    have hlt : i < ds.length := by
      have := congrArg List.length hr
      rw [List.length_drop, List.length_cons] at this; omega
    have hd : ds[i]? = some d := by
      have := congrArg (fun l => l[0]?) hr
      simp only [List.getElem?_cons_zero, List.getElem?_drop, Nat.add_zero] at this
      exact this.symm
    have hr2 : rest = ds.drop (i + 1) := by
      have := congrArg List.tail hr
      rw [List.tail_cons, List.tail_drop] at this; exact this
    refine (step i d e hd hJ).mono fun fl e1 h => ?_
    cases fl with
    | nx => exact ⟨i + 1, hr2, hlt, h⟩
    | cnt => exact ⟨i + 1, hr2, hlt, h⟩
    | brk => exact h
    | ret o => exact h
  · rintro e ⟨i, hr, hi, hJ⟩
    have : i = ds.length := by
      have := congrArg List.length hr
      rw [List.length_drop, List.length_nil] at this; omega
    subst this
    exact fin e hJ
theorem for_range {f : D → M Fl} {Q : Fl → En → Prop} {e : En} (J : Nat → En → Prop) {n : Nat} (h : J 0 e) (step : ∀ i e, i < n → J i e → Ok (f (.int (i : Int)) e) (turn Q (J (i + 1)))) (fin : ∀ e, J n e → Q .nx e) : Ok (forLoop f ((List.range n).map fun (k : Nat) => PyData.int k) e) Q := by
  refine for_list J h (fun i d e hd hJ => ?_) (fun e hJ => fin e (by simpa using hJ))
  rw [List.getElem?_map] at hd
  cases hr : (List.range n)[i]? with
  | none => rw [hr] at hd; cases hd
  | some k =>
    rw [hr] at hd
    cases hd
    obtain ⟨h1, h2⟩ := List.getElem?_eq_some_iff.mp hr
    rw [List.getElem_range] at h2
    subst h2
    exact step _ e (by simpa using h1) hJ
end Ev
/-! data with types; loops and comprehensions over them -/
namespace Ev
open PySem PySem.W
/-! ### order -/
section
variable {α : Type} [DecidableEq α] [DatumOrd α]
theorem lt_irr (a : α) : DatumOrd.lt a a = false := by rw [← DatumOrd.lt_eq]; exact dataLt_self _
theorem lt_tr {a b c : α} (h : DatumOrd.lt a b = true) (k : DatumOrd.lt b c = true) : DatumOrd.lt a c = true := by
  rw [← DatumOrd.lt_eq] at *
  exact PyProof.Rows.lex_trans _ _ _ h k
theorem lt_tot {a b : α} (h : DatumOrd.lt a b = false) (k : DatumOrd.lt b a = false) : a = b := by
  rw [← DatumOrd.lt_eq] at h k
  have e := PyProof.Rows.lex_total _ _ h k
  have t := toks_eqv (Datum.toD a) (Datum.toD b) (DatumOrd.alike a b)
  by_cases q : a = b
  · exact q
  · have z : PyData.eqv (Datum.toD a) (Datum.toD b) = false := by rw [Datum.eqv]; simp [q]
    have y := t.2 z [.inl 0] [.inl 1]
    have y2 := t.2 z [.inl 1] [.inl 0]
    have h0 : PyProof.Rows.lexLt PyProof.Rows.itemOrd [.inl 0] [.inl 1] = true := by decide
    have h1 : PyProof.Rows.lexLt PyProof.Rows.itemOrd [.inl 1] [.inl 0] = false := by decide
    rw [e, lex_pre, PyProof.Rows.lex_irrefl] at y y2
    rw [h0] at y; rw [h1] at y2
    first | (cases y; done) | (cases y2; done) | exact absurd (y.trans y2.symm) (by decide)
theorem lt_asym {a b : α} (h : DatumOrd.lt a b = true) : DatumOrd.lt b a = false := by
  cases k : DatumOrd.lt b a with
  | false => rfl
  | true => have := lt_tr h k; rw [lt_irr] at this; exact absurd this (by decide)
theorem lt_neg {a b : α} (h : DatumOrd.lt a b = false) : a = b ∨ DatumOrd.lt b a = true := by
  cases k : DatumOrd.lt b a with
  | true => exact .inr rfl
  | false => exact .inl (lt_tot h k)
def leT (a b : α) : Bool := !DatumOrd.lt b a
theorem leT_tot (a b : α) : (leT a b || leT b a) = true := by
  unfold leT
  cases h : DatumOrd.lt b a with
  | false => rfl
  | true => rw [lt_asym h]; rfl
theorem leT_tr (a b c : α) (h : leT a b = true) (k : leT b c = true) : leT a c = true := by
  unfold leT at *
  simp only [Bool.not_eq_true'] at *
  rcases lt_neg h with rfl | h
  · exact k
  · rcases lt_neg k with rfl | k
    · exact lt_asym h
    · exact lt_asym (lt_tr h k)
theorem leT_anti {a b : α} (h : leT a b = true) (k : leT b a = true) : a = b := by
  unfold leT at *
  simp only [Bool.not_eq_true'] at *
  exact lt_tot k h
/-- sorted -/
def srt (xs : List α) : List α := xs.mergeSort leT
theorem srt_perm (xs : List α) : (srt xs).Perm xs := List.mergeSort_perm xs leT
theorem srt_len (xs : List α) : (srt xs).length = xs.length := List.length_mergeSort xs
theorem srt_mem {xs : List α} {x : α} : x ∈ srt xs ↔ x ∈ xs := (srt_perm xs).mem_iff
theorem srt_nodup {xs : List α} : (srt xs).Nodup ↔ xs.Nodup := (srt_perm xs).nodup_iff
theorem srt_pw (xs : List α) : (srt xs).Pairwise fun a b => leT a b = true := List.pairwise_mergeSort leT_tr leT_tot xs
theorem pw_uni : ∀ {xs ys : List α}, xs.Perm ys → xs.Pairwise (fun a b => leT a b = true) → ys.Pairwise (fun a b => leT a b = true) → xs = ys
  | [], ys, p, _, _ => by rw [List.nil_perm] at p; exact p.symm
  | x :: xs, [], p, _, _ => by simp at p
  | x :: xs, y :: ys, p, hx, hy => by
    rw [List.pairwise_cons] at hx hy
    have e : x = y := by
      have h1 : x ∈ y :: ys := p.mem_iff.mp (List.mem_cons_self ..)
      have h2 : y ∈ x :: xs := p.mem_iff.mpr (List.mem_cons_self ..)
      rcases List.mem_cons.mp h1 with q | q
      · exact q
      · rcases List.mem_cons.mp h2 with r | r
        · exact r.symm
        · exact leT_anti (hx.1 _ r) (hy.1 _ q)
    subst e
    rw [pw_uni (List.Perm.cons_inv p) hx.2 hy.2]
theorem srt_uni {xs ys : List α} (h : xs.Perm ys) : srt xs = srt ys := pw_uni (((srt_perm xs).trans h).trans (srt_perm ys).symm) (srt_pw _) (srt_pw _)
theorem srt_of {xs : List α} (h : xs.Pairwise fun a b => leT a b = true) : srt xs = xs := pw_uni (srt_perm xs) (srt_pw _) h
theorem pw_lt {xs : List α} (h : xs.Pairwise fun a b => DatumOrd.lt a b = true) : xs.Pairwise fun a b => leT a b = true := h.imp fun q => by unfold leT; rw [lt_asym q]; rfl
theorem pw_nd {xs : List α} (h : xs.Pairwise fun a b => leT a b = true) (n : xs.Nodup) : xs.Pairwise fun a b => DatumOrd.lt a b = true := by
  induction xs with
  | nil => exact .nil
  | cons x xs ih =>
    rw [List.pairwise_cons] at h
    rw [List.nodup_cons] at n
    refine List.pairwise_cons.mpr ⟨fun y hy => ?_, ih h.2 n.2⟩
    have := h.1 y hy
    unfold leT at this
    rw [Bool.not_eq_true'] at this
    rcases lt_neg this with e | e
    · subst e; exact absurd hy n.1
    · exact e
end
/-! ### what the evaluator says of such data -/
section
variable {α : Type} [DecidableEq α] [Datum α]
@[simp] theorem eq_T {a b : α} (hd : Datum.depth α ≤ 60 := by decide) : cmpD .Eq (Datum.toD a) (Datum.toD b) = some (decide (a = b)) := by
  have := Datum.depth_le a
  rw [eq_D, if_pos (by unfold eqOk; simp only [Datum.plain, Bool.and_self, Bool.true_and, decide_eq_true_eq]; omega), Datum.eqv]
@[simp] theorem ne_T {a b : α} (hd : Datum.depth α ≤ 60 := by decide) : cmpD .NotEq (Datum.toD a) (Datum.toD b) = some (decide (a ≠ b)) := by
  have := Datum.depth_le a
  rw [ne_D, if_pos (by unfold eqOk; simp only [Datum.plain, Bool.and_self, Bool.true_and, decide_eq_true_eq]; omega), Datum.eqv]
  simp
theorem eq_TL {a b : List α} (hd : Datum.depth α ≤ 59 := by decide) : cmpD .Eq (.list (a.map Datum.toD)) (.list (b.map Datum.toD)) = some (decide (a = b)) := eq_T (α := List α) (Nat.succ_le_succ hd)
theorem ne_TL {a b : List α} (hd : Datum.depth α ≤ 59 := by decide) : cmpD .NotEq (.list (a.map Datum.toD)) (.list (b.map Datum.toD)) = some (decide (a ≠ b)) := ne_T (α := List α) (Nat.succ_le_succ hd)
theorem eq_TT {a b : List α} (hd : Datum.depth α ≤ 59 := by decide) : cmpD .Eq (.tuple (a.map Datum.toD)) (.tuple (b.map Datum.toD)) = some (decide (a = b)) := by
  refine (eq_T (a := (⟨a⟩ : Tup α)) (b := ⟨b⟩) (Nat.succ_le_succ hd)).trans ?_
  simp
theorem ne_TT {a b : List α} (hd : Datum.depth α ≤ 59 := by decide) : cmpD .NotEq (.tuple (a.map Datum.toD)) (.tuple (b.map Datum.toD)) = some (decide (a ≠ b)) := by
  refine (ne_T (a := (⟨a⟩ : Tup α)) (b := ⟨b⟩) (Nat.succ_le_succ hd)).trans ?_
  simp
theorem any_T {x : α} : ∀ {xs : List α}, ((xs.map Datum.toD).any fun z => PyData.eqv z (Datum.toD x)) = decide (x ∈ xs)
  | [] => rfl
  | y :: ys => by
    rw [List.map_cons, List.any_cons, any_T, Datum.eqv]
    by_cases e : y = x
    · simp [e]
    · have e' : ¬ x = y := fun z => e z.symm
      simp [e, e']
theorem inD_T {x : α} {xs : List α} [inst : Decidable (x ∈ xs)] (hd : Datum.depth α ≤ 60 := by decide) : inD (Datum.toD x) (xs.map Datum.toD) = some (decide (x ∈ xs)) := by
  have := Datum.depth_le x
  unfold inD
  rw [if_pos (by simp only [plainAll_map, Datum.plain, Bool.and_self, Bool.true_and, decide_eq_true_eq]; omega), any_T]
  congr
theorem in_TL {x : α} {xs : List α} [inst : Decidable (x ∈ xs)] (hd : Datum.depth α ≤ 60 := by decide) : cmpD .In (Datum.toD x) (.list (xs.map Datum.toD)) = some (decide (x ∈ xs)) := by rw [in_list, inD_T hd]
theorem in_TT {x : α} {xs : List α} [inst : Decidable (x ∈ xs)] (hd : Datum.depth α ≤ 60 := by decide) : cmpD .In (Datum.toD x) (.tuple (xs.map Datum.toD)) = some (decide (x ∈ xs)) := by rw [in_tup, inD_T hd]
theorem nin_TL {x : α} {xs : List α} [inst : Decidable (x ∉ xs)] (hd : Datum.depth α ≤ 60 := by decide) : cmpD .NotIn (Datum.toD x) (.list (xs.map Datum.toD)) = some (decide (x ∉ xs)) := by rw [nin_list, inD_T hd]; simp
theorem nin_TT {x : α} {xs : List α} [inst : Decidable (x ∉ xs)] (hd : Datum.depth α ≤ 60 := by decide) : cmpD .NotIn (Datum.toD x) (.tuple (xs.map Datum.toD)) = some (decide (x ∉ xs)) := by rw [nin_tup, inD_T hd]; simp
theorem place_T {x : α} {xs : List α} (h : x ∈ xs) : PySem.SeqAt.dataPlace (xs.map Datum.toD) (Datum.toD x) = some (xs.idxOf x) := by
  unfold PySem.SeqAt.dataPlace
  induction xs with
  | nil => simp at h
  | cons y S ih =>
    rw [List.map_cons, List.findIdx?_cons, Datum.eqv, List.idxOf_cons]
    by_cases e : y = x
    · simp [e]
    · have h' : x ∈ S := by
        rcases List.mem_cons.mp h with z | z
        · exact absurd z.symm e
        · exact z
      rw [ih h', beq_eq_false_iff_ne.mpr e]
      simp [e]
theorem map_eraseIdx {β : Type} (f : α → β) : ∀ (S : List α) (i : Nat), (S.map f).eraseIdx i = (S.eraseIdx i).map f
  | [], _ => rfl
  | _ :: _, 0 => rfl
  | x :: S, i + 1 => by
    show f x :: (S.map f).eraseIdx i = f x :: (S.eraseIdx i).map f
    rw [map_eraseIdx f S i]
theorem rem_T {x : α} {xs : List α} (h : x ∈ xs) (hd : Datum.depth α ≤ 60 := by decide) : mutO .remove (.lst (xs.map Datum.toD)) [Datum.toD x] = some (.none, .lst ((xs.erase x).map Datum.toD)) := by
  have := Datum.depth_le x
  show (if PyData.plainAll (xs.map Datum.toD) && (Datum.toD x).plain && decide (min (PyData.depthAll (xs.map Datum.toD)) (Datum.toD x).depth ≤ 60) then (PySem.SeqAt.dataPlace (xs.map Datum.toD) (Datum.toD x)).map fun (j : Nat) => (PyData.none, Ob.lst ((xs.map Datum.toD).eraseIdx j)) else none) = _
  rw [if_pos (by simp only [plainAll_map, Datum.plain, Bool.and_self, Bool.true_and, decide_eq_true_eq]; omega), place_T h, Option.map_some, List.erase_eq_eraseIdx_of_idxOf rfl, map_eraseIdx]
theorem idx_T {x : α} {xs : List α} (h : x ∈ xs) (hd : Datum.depth α ≤ 60 := by decide) : pureM .index (.new (.lst (xs.map Datum.toD))) [Datum.toD x] = some (.val (.int (xs.idxOf x : Nat))) := by
  have := Datum.depth_le x
  show (if PyData.plainAll (xs.map Datum.toD) && (Datum.toD x).plain && decide (min (PyData.depthAll (xs.map Datum.toD)) (Datum.toD x).depth ≤ 60) then (PySem.SeqAt.dataPlace (xs.map Datum.toD) (Datum.toD x)).map fun (j : Nat) => RV.val (.int j) else none) = _
  rw [if_pos (by simp only [plainAll_map, Datum.plain, Bool.and_self, Bool.true_and, decide_eq_true_eq]; omega), place_T h, Option.map_some]
theorem pop_T {xs : List α} {i : Nat} (h : i < xs.length) (hS : xs.length ≤ 100000000) : mutO .popAt (.lst (xs.map Datum.toD)) [.int (i : Int)] = some (Datum.toD xs[i], .lst ((xs.eraseIdx i).map Datum.toD)) := by
  have z : -(2 ^ 63 : Int) ≤ (i : Int) ∧ (i : Int) < 2 ^ 63 := by omega
  have e : L2.ixN (xs.map Datum.toD).length (i : Int) = some i := by
    unfold L2.ixN
    rw [List.length_map, if_pos (by omega), if_pos (by omega)]; simp
  rw [mut_popAt, if_pos z, e]
  show ((xs.map Datum.toD)[i]?).map _ = _
  rw [List.getElem?_map, List.getElem?_eq_getElem h, map_eraseIdx]
  rfl
theorem count_T {x : α} : ∀ {xs : List α}, ((xs.map Datum.toD).countP fun y => PyData.eqv y (Datum.toD x)) = xs.count x
  | [] => rfl
  | y :: ys => by
    rw [List.map_cons, List.countP_cons, count_T, Datum.eqv, List.count_cons]
    by_cases e : y = x <;> simp [e]
end
/-- sorts of data that can be sorted -/
class DatumS (α : Type) [DecidableEq α] [DatumOrd α] where
  ok : (∀ a : α, isTupC (Datum.toD a) = true) ∨ (∀ a : α, notTup (Datum.toD a) = true)
instance : DatumS Int := ⟨.inr fun _ => rfl⟩
instance : DatumS Bool := ⟨.inr fun _ => rfl⟩
instance : DatumS Str := ⟨.inr fun _ => rfl⟩
instance {α β : Type} [DecidableEq α] [DatumOrd α] [DecidableEq β] [DatumOrd β] : DatumS (α × β) := ⟨.inl fun _ => rfl⟩
section
variable {α : Type} [DecidableEq α] [DatumOrd α] [DatumS α]
theorem sortOk_T {xs : List α} (hd : Datum.depth α ≤ 60) : sortOk (xs.map Datum.toD) = true := by
  have := depthAll_map xs
  unfold sortOk
  simp only [Bool.and_eq_true, decide_eq_true_eq, plainAll_map, true_and, and_true, List.all_eq_true, List.mem_map, Bool.or_eq_true]
  refine ⟨⟨?_, ?_⟩, by omega⟩
  · rintro _ ⟨a, _, rfl⟩ _ ⟨b, _, rfl⟩; exact DatumOrd.alike a b
  · rcases DatumS.ok (α := α) with h | h
    · left; rintro _ ⟨a, _, rfl⟩; exact h a
    · right; rintro _ ⟨a, _, rfl⟩; exact h a
theorem ms_T {xs : List α} : (xs.map Datum.toD).mergeSort leD = (srt xs).map Datum.toD :=
  (List.map_mergeSort (fun a _ b _ => by unfold leT leD; rw [DatumOrd.lt_eq])).symm
theorem srt_L {xs : List α} (hd : Datum.depth α ≤ 60 := by decide) : biD .sorted [.list (xs.map Datum.toD)] = some (.new (.lst ((srt xs).map Datum.toD))) := by
  rw [sorted_list, if_pos (sortOk_T hd), ms_T]
theorem srt_TT {xs : List α} (hd : Datum.depth α ≤ 60 := by decide) : biD .sorted [.tuple (xs.map Datum.toD)] = some (.new (.lst ((srt xs).map Datum.toD))) := by
  rw [sorted_tup, if_pos (sortOk_T hd), ms_T]
end
/-! ### ordered comparisons -/
section
variable {α : Type} [DecidableEq α] [DatumOrd α]
theorem ordOk_T {a b : α} (hd : Datum.depth α ≤ 60) : ordOk (Datum.toD a) (Datum.toD b) = true := by
  have := Datum.depth_le a
  have hn : isNoneD (Datum.toD a) = false := by
    have := DatumOrd.notNone a
    cases h : Datum.toD a <;> first | rfl | exact absurd h this
  unfold ordOk
  simp only [Datum.plain, DatumOrd.alike, hn, Bool.and_self, Bool.not_false, Bool.true_and, decide_eq_true_eq]
  omega
end
@[simp] theorem W_inj {L : List Int} {a b : Nat} : (W L a = W L b) = (a = b) := propext ⟨fun h => by unfold W at h; simp at h; omega, fun h => h ▸ rfl⟩
/-! ### loops and comprehensions over typed rows -/
section
variable {α : Type} {f : D → M Fl} {Q : Fl → En → Prop} {e : En}
theorem for_pre {en : α → D} {xs : List α} (J : List α → En → Prop) (h : J [] e) (step : ∀ pre x suf e, xs = pre ++ x :: suf → J pre e → Ok (f (en x) e) (turn Q (J (pre ++ [x])))) (fin : ∀ e, J xs e → Q .nx e) : Ok (forLoop f (xs.map en) e) Q := by
  refine for_inv (fun rest e => ∃ pre suf, xs = pre ++ suf ∧ rest = suf.map en ∧ J pre e) ⟨[], xs, rfl, rfl, h⟩ ?_ ?_
  · rintro d rest e ⟨pre, suf, h1, h2, h3⟩
    cases suf with
    | nil => simp at h2
    | cons x suf =>
      rw [List.map_cons] at h2
      obtain ⟨rfl, rfl⟩ := List.cons.inj h2
      refine (step pre x suf e h1 h3).mono fun fl e1 q => ?_
      have e1 : xs = (pre ++ [x]) ++ suf := by rw [h1]; simp
      cases fl with
      | nx => exact ⟨pre ++ [x], suf, e1, rfl, q⟩
      | cnt => exact ⟨pre ++ [x], suf, e1, rfl, q⟩
      | brk => exact q
      | ret o => exact q
  · rintro e ⟨pre, suf, h1, h2, h3⟩
    cases suf with
    | cons x suf => simp at h2
    | nil => rw [List.append_nil] at h1; subst h1; exact fin e h3
/-- for x in xs: the state goes by a function -/
theorem for_fold {σ : Type} {en : α → D} {xs : List α} (E : σ → En) (g : σ → α → σ) (s : σ) (he : e = E s) (P : σ → Prop) (h0 : P s) (step : ∀ s x, x ∈ xs → P s → P (g s x) ∧ Ok (f (en x) (E s)) fun fl e1 => fl = .nx ∧ e1 = E (g s x)) (fin : P (xs.foldl g s) → Q .nx (E (xs.foldl g s))) : Ok (forLoop f (xs.map en) e) Q := by
  subst he
  refine for_pre (fun pre e => e = E (pre.foldl g s) ∧ P (pre.foldl g s)) ⟨rfl, h0⟩ ?_ ?_
  · rintro pre x suf e h ⟨rfl, h2⟩
    obtain ⟨h3, h4⟩ := step _ x (by rw [h]; simp) h2
    refine h4.mono ?_
    rintro fl e1 ⟨rfl, rfl⟩
    rw [turn_nx, List.foldl_append]
    exact ⟨rfl, h3⟩
  · rintro e ⟨rfl, h2⟩
    exact fin h2
end
section
variable {α β : Type} {e : En} {own : List Nat} {f : D → M (Option D)} {Q : Opd → En → Prop}
theorem comp_pre {en : α → D} {xs : List α} (J : List α → List D → En → Prop) (hn : (own.all fun i => notOwned (e[i]?.getD .no)) = true) (h : J [] [] (wipeE e own))
    (step : ∀ pre x suf acc e, xs = pre ++ x :: suf → J pre acc e → Ok (f (en x) e) fun y e1 => J (pre ++ [x]) (match y with | some z => acc ++ [z] | none => acc) (wipeE e1 own)) (fin : ∀ acc e1, J xs acc e1 → Q (.new (.lst acc)) (restE e e1 own)) : Ok (compM own f (xs.map en) e) Q := by
  refine comp_inv (fun rest acc e => ∃ pre suf, xs = pre ++ suf ∧ rest = suf.map en ∧ J pre acc e) hn ⟨[], xs, rfl, rfl, h⟩ ?_ ?_
  · rintro d rest acc e ⟨pre, suf, h1, h2, h3⟩
    cases suf with
    | nil => simp at h2
    | cons x suf =>
      rw [List.map_cons] at h2
      obtain ⟨rfl, rfl⟩ := List.cons.inj h2
      refine (step pre x suf acc e h1 h3).mono fun y e1 q => ?_
      exact ⟨pre ++ [x], suf, by rw [h1]; simp, rfl, q⟩
  · rintro acc e1 ⟨pre, suf, h1, h2, h3⟩
    cases suf with
    | cons x suf => simp at h2
    | nil => rw [List.append_nil] at h1; subst h1; exact fin acc e1 h3
/-- [h x for x in xs if p x], nothing changed -/
theorem comp_fm {en : α → D} {xs : List α} (p : α → Bool) (h : α → D) (hn : (own.all fun i => notOwned (e[i]?.getD .no)) = true) (step : ∀ x ∈ xs, Ok (f (en x) (wipeE e own)) fun y e1 => y = (if p x = true then some (h x) else none) ∧ wipeE e1 own = wipeE e own) (fin : Q (.new (.lst ((xs.filter p).map h))) e) : Ok (compM own f (xs.map en) e) Q := by
  refine comp_pre (fun pre acc e1 => acc = (pre.filter p).map h ∧ e1 = wipeE e own) hn ⟨rfl, rfl⟩ ?_ ?_
  · rintro pre x suf acc e1 hx ⟨rfl, rfl⟩
    refine (step x (by rw [hx]; simp)).mono ?_
    rintro y e2 ⟨rfl, h2⟩
    refine ⟨?_, h2⟩
    rw [List.filter_append, List.map_append]
    cases hp : p x <;> simp [hp]
  · rintro acc e1 ⟨rfl, rfl⟩
    rw [restE_self]; exact fin
/-- [h x for x in xs], nothing changed -/
theorem comp_mp {en : α → D} {xs : List α} (h : α → D) (hn : (own.all fun i => notOwned (e[i]?.getD .no)) = true) (step : ∀ x ∈ xs, Ok (f (en x) (wipeE e own)) fun y e1 => y = some (h x) ∧ wipeE e1 own = wipeE e own) (fin : Q (.new (.lst (xs.map h))) e) : Ok (compM own f (xs.map en) e) Q := by
  refine comp_fm (fun _ => true) h hn (fun x hx => (step x hx).mono fun y e1 q => ⟨by simpa using q.1, q.2⟩) ?_
  have : xs.filter (fun _ => true) = xs := by simp
  rw [this]; exact fin
/-- [x for x in xs if p x], nothing changed -/
theorem comp_fl {en : α → D} {xs : List α} (p : α → Bool) (hn : (own.all fun i => notOwned (e[i]?.getD .no)) = true) (step : ∀ x ∈ xs, Ok (f (en x) (wipeE e own)) fun y e1 => y = (if p x = true then some (en x) else none) ∧ wipeE e1 own = wipeE e own) (fin : Q (.new (.lst ((xs.filter p).map en))) e) : Ok (compM own f (xs.map en) e) Q := comp_fm p en hn step fin
end
end Ev
namespace Ev
open PySem
/-- without(things, thing) -/
def B_without : MSs := (.cons (.ret (.bi .tuple (.cons (.comp [2] (.name 2) (.seq (.v 0)) (.some (.tr (.cmp .NotEq (.v 2) (.v 1)))) (.v 2)) .nil)))
  .nil)
abbrev F_without : Fd := ⟨2, 3, B_without⟩
/-- exchanged(things, k, thing) -/
def B_exchanged : MSs := (.cons (.ret (.bin .Add (.bin .Add (.sl (.v 0) .none (.some (.v 1))) (.tup (.cons (.v 2) .nil))) (.sl (.v 0) (.some (.bin .Add (.v 1) (.c (.int 1)))) .none)))
  .nil)
abbrev F_exchanged : Fd := ⟨3, 3, B_exchanged⟩
/-- legal(hand, table) -/
def B_legal : MSs := (.cons (.ife (.tr (.cmp .Eq (.v 1) (.tup .nil))) (.cons (.ret (.v 0))
  .nil) .nil)
  (.cons (.asg (.name 2) (.bi .tuple (.cons (.comp [3] (.name 3) (.seq (.v 0)) (.some (.tr (.cmp .Eq (.ix (.v 3) (.c (.int 0))) (.ix (.ix (.v 1) (.c (.int 0))) (.c (.int 0)))))) (.v 3)) .nil)))
  (.cons (.ret (.ite (.tr (.cmp .NotEq (.v 2) (.tup .nil))) (.v 2) (.v 0)))
  .nil)))
abbrev F_legal : Fd := ⟨2, 4, B_legal⟩
/-- strength(card, led, trump) -/
def B_strength : MSs := (.cons (.ife (.tr (.cmp .Eq (.ix (.v 0) (.c (.int 0))) (.v 2))) (.cons (.ret (.tup (.cons (.c (.int 2)) (.cons (.ix (.v 0) (.c (.int 1))) .nil))))
  .nil) .nil)
  (.cons (.ret (.ite (.tr (.cmp .Eq (.ix (.v 0) (.c (.int 0))) (.v 1))) (.tup (.cons (.c (.int 1)) (.cons (.ix (.v 0) (.c (.int 1))) .nil))) (.tup (.cons (.c (.int 0)) (.cons (.c (.int 0)) .nil)))))
  .nil))
abbrev F_strength : Fd := ⟨3, 3, B_strength⟩
/-- winner_at(table, trump) -/
def B_winner_at (j_strength : Nat) : MSs := (.cons (.asg (.name 2) (.ix (.ix (.v 0) (.c (.int 0))) (.c (.int 0))))
  (.cons (.asg (.name 3) (.c (.int 0)))
  (.cons (.for_ (.name 4) (.rng (.cons (.c (.int 1)) (.cons (.bi .len (.cons (.v 0) .nil)) .nil))) (.cons (.ife (.tr (.cmp .Gt (.call j_strength (.cons (.ix (.v 0) (.v 4)) (.cons (.v 2) (.cons (.v 1) .nil)))) (.call j_strength (.cons (.ix (.v 0) (.v 3)) (.cons (.v 2) (.cons (.v 1) .nil)))))) (.cons (.asg (.name 3) (.v 4))
  .nil) .nil)
  .nil))
  (.cons (.ret (.v 3))
  .nil))))
abbrev F_winner_at (j_strength : Nat) : Fd := ⟨2, 5, B_winner_at j_strength⟩
/-- to_play(state) -/
def B_to_play : MSs := (.cons (.asg (.tup (.cons (.name 1) (.cons (.name 2) (.cons (.name 3) .nil)))) (.v 0))
  (.cons (.ret (.bin .Mod (.bin .Add (.v 2) (.bi .len (.cons (.v 3) .nil))) (.bi .len (.cons (.v 1) .nil))))
  .nil))
abbrev F_to_play : Fd := ⟨1, 4, B_to_play⟩
/-- played(state, card, trump) -/
def B_played (j_to_play : Nat) (j_exchanged : Nat) (j_without : Nat) (j_winner_at : Nat) : MSs := (.cons (.asg (.tup (.cons (.name 3) (.cons (.name 4) (.cons (.name 5) .nil)))) (.v 0))
  (.cons (.asg (.name 6) (.call j_to_play (.cons (.v 0) .nil)))
  (.cons (.asg (.name 3) (.call j_exchanged (.cons (.v 3) (.cons (.v 6) (.cons (.call j_without (.cons (.ix (.v 3) (.v 6)) (.cons (.v 1) .nil))) .nil)))))
  (.cons (.asg (.name 5) (.bin .Add (.v 5) (.tup (.cons (.v 1) .nil))))
  (.cons (.ife (.tr (.cmp .Lt (.bi .len (.cons (.v 5) .nil)) (.bi .len (.cons (.v 3) .nil)))) (.cons (.ret (.tup (.cons (.tup (.cons (.v 3) (.cons (.v 4) (.cons (.v 5) .nil)))) (.cons (.c .none) .nil))))
  .nil) .nil)
  (.cons (.asg (.name 7) (.bin .Mod (.bin .Add (.v 4) (.call j_winner_at (.cons (.v 5) (.cons (.v 2) .nil)))) (.bi .len (.cons (.v 3) .nil))))
  (.cons (.ret (.tup (.cons (.tup (.cons (.v 3) (.cons (.v 7) (.cons (.tup .nil) .nil)))) (.cons (.v 7) .nil))))
  .nil)))))))
abbrev F_played (j_to_play : Nat) (j_exchanged : Nat) (j_without : Nat) (j_winner_at : Nat) : Fd := ⟨3, 8, B_played j_to_play j_exchanged j_without j_winner_at⟩
/-- begin(deal, leader) -/
def B_begin : MSs := (.cons (.ret (.tup (.cons (.v 0) (.cons (.v 1) (.cons (.tup .nil) .nil)))))
  .nil)
abbrev F_begin : Fd := ⟨2, 2, B_begin⟩
/-- is_over(state) -/
def B_is_over : MSs := (.cons (.ret (.andd (.cmp .Eq (.ix (.v 0) (.c (.int 2))) (.tup .nil)) (.bi .all (.cons (.comp [1] (.name 1) (.seq (.ix (.v 0) (.c (.int 0)))) .none (.cmp .Eq (.v 1) (.tup .nil))) .nil))))
  .nil)
abbrev F_is_over : Fd := ⟨1, 2, B_is_over⟩
/-- _law_cards(pack) -/
def B_law_cards : MSs := (.cons (.asg (.name 1) (.lst .nil))
  (.cons (.for_ (.name 2) (.rng (.cons (.ix (.v 0) (.c (.int 0))) .nil)) (.cons (.asg (.name 1) (.bin .Add (.v 1) (.comp [3] (.name 3) (.rng (.cons (.ix (.v 0) (.c (.int 1))) .nil)) .none (.tup (.cons (.v 2) (.cons (.v 3) .nil))))))
  .nil))
  (.cons (.ret (.v 1))
  .nil)))
abbrev F_law_cards : Fd := ⟨1, 4, B_law_cards⟩
/-- _law_deal(w, pack, players, size) -/
def B_law_deal (j_law_cards : Nat) (j_law_next : Nat) : MSs := (.cons (.asg (.name 4) (.call j_law_cards (.cons (.v 1) .nil)))
  (.cons (.asg (.name 5) (.lst .nil))
  (.cons (.for_ (.name 6) (.rng (.cons (.v 2) .nil)) (.cons (.asg (.name 7) (.lst .nil))
  (.cons (.for_ (.name 8) (.rng (.cons (.v 3) .nil)) (.cons (.asg (.name 9) (.ix (.v 4) (.call j_law_next (.cons (.v 0) (.cons (.bi .len (.cons (.v 4) .nil)) .nil)))))
  (.cons (.asg (.name 7) (.bin .Add (.v 7) (.lst (.cons (.v 9) .nil))))
  (.cons (.asg (.name 4) (.comp [10] (.name 10) (.seq (.v 4)) (.some (.tr (.cmp .NotEq (.v 10) (.v 9)))) (.v 10)))
  .nil))))
  (.cons (.expr (.meth .append (.v 5) (.cons (.bi .tuple (.cons (.bi .sorted (.cons (.v 7) .nil)) .nil)) .nil)))
  .nil))))
  (.cons (.ret (.bi .tuple (.cons (.v 5) .nil)))
  .nil))))
abbrev F_law_deal (j_law_cards : Nat) (j_law_next : Nat) : Fd := ⟨4, 11, B_law_deal j_law_cards j_law_next⟩
/-- _law_legal(hand, table) -/
def B_law_legal : MSs := (.cons (.asg (.name 2) (.bi .tuple (.cons (.comp [3] (.name 3) (.seq (.v 0)) (.some (.andd (.tr (.cmp .NotEq (.v 1) (.tup .nil))) (.tr (.cmp .Eq (.ix (.v 3) (.c (.int 0))) (.ix (.ix (.v 1) (.c (.int 0))) (.c (.int 0))))))) (.v 3)) .nil)))
  (.cons (.ret (.ite (.tr (.cmp .NotEq (.v 2) (.tup .nil))) (.v 2) (.v 0)))
  .nil))
abbrev F_law_legal : Fd := ⟨2, 4, B_law_legal⟩
/-- _law_winner(table, trump) -/
def B_law_winner : MSs := (.cons (.asg (.name 2) (.comp [4] (.name 4) (.rng (.cons (.bi .len (.cons (.v 0) .nil)) .nil)) (.some (.tr (.cmp .Eq (.ix (.ix (.v 0) (.v 4)) (.c (.int 0))) (.v 1)))) (.v 4)))
  (.cons (.asg (.name 3) (.ite (.tr (.cmp .NotEq (.v 2) (.lst .nil))) (.v 2) (.comp [4] (.name 4) (.rng (.cons (.bi .len (.cons (.v 0) .nil)) .nil)) (.some (.tr (.cmp .Eq (.ix (.ix (.v 0) (.v 4)) (.c (.int 0))) (.ix (.ix (.v 0) (.c (.int 0))) (.c (.int 0)))))) (.v 4))))
  (.cons (.ret (.ix (.comp [4] (.name 4) (.seq (.v 3)) (.some (.tr (.cmp .Eq (.comp [5] (.name 5) (.seq (.v 3)) (.some (.tr (.cmp .Gt (.ix (.ix (.v 0) (.v 5)) (.c (.int 1))) (.ix (.ix (.v 0) (.v 4)) (.c (.int 1)))))) (.v 5)) (.lst .nil)))) (.v 4)) (.c (.int 0))))
  .nil)))
abbrev F_law_winner : Fd := ⟨2, 6, B_law_winner⟩
/-- _law_played(state, card, trump) -/
def B_law_played (j_law_winner : Nat) : MSs := (.cons (.asg (.tup (.cons (.name 3) (.cons (.name 4) (.cons (.name 5) .nil)))) (.v 0))
  (.cons (.asg (.name 6) (.bin .Mod (.bi .int (.cons (.bin .Add (.v 4) (.bi .len (.cons (.v 5) .nil))) .nil)) (.bi .len (.cons (.v 3) .nil))))
  (.cons (.asg (.name 3) (.bi .tuple (.cons (.comp [8] (.name 8) (.rng (.cons (.bi .len (.cons (.v 3) .nil)) .nil)) .none (.bi .tuple (.cons (.comp [9] (.name 9) (.seq (.ix (.v 3) (.v 8))) (.some (.orr (.tr (.cmp .NotEq (.v 8) (.v 6))) (.tr (.cmp .NotEq (.v 9) (.v 1))))) (.v 9)) .nil))) .nil)))
  (.cons (.asg (.name 5) (.bin .Add (.v 5) (.tup (.cons (.v 1) .nil))))
  (.cons (.ife (.tr (.cmp .Lt (.bi .len (.cons (.v 5) .nil)) (.bi .len (.cons (.v 3) .nil)))) (.cons (.ret (.tup (.cons (.tup (.cons (.v 3) (.cons (.v 4) (.cons (.v 5) .nil)))) (.cons (.c .none) .nil))))
  .nil) .nil)
  (.cons (.asg (.name 7) (.bin .Mod (.bi .int (.cons (.bin .Add (.v 4) (.call j_law_winner (.cons (.v 5) (.cons (.v 2) .nil)))) .nil)) (.bi .len (.cons (.v 3) .nil))))
  (.cons (.ret (.tup (.cons (.tup (.cons (.v 3) (.cons (.v 7) (.cons (.tup .nil) .nil)))) (.cons (.v 7) .nil))))
  .nil)))))))
abbrev F_law_played (j_law_winner : Nat) : Fd := ⟨3, 10, B_law_played j_law_winner⟩
/-- _law_turn(state) -/
def B_law_turn : MSs := (.cons (.ret (.bin .Mod (.bi .int (.cons (.bin .Add (.ix (.v 0) (.c (.int 1))) (.bi .len (.cons (.ix (.v 0) (.c (.int 2))) .nil))) .nil)) (.bi .len (.cons (.ix (.v 0) (.c (.int 0))) .nil))))
  .nil)
abbrev F_law_turn : Fd := ⟨1, 1, B_law_turn⟩
/-- _law_random_play(w, deal, leader, trump, most) -/
def B_law_random_play (j_law_legal : Nat) (j_law_turn : Nat) (j_law_next : Nat) (j_law_played : Nat) : MSs := (.cons (.parN [5, 6] (.cons (.tup (.cons (.v 1) (.cons (.v 2) (.cons (.tup .nil) .nil)))) (.cons (.tup .nil) .nil)))
  (.cons (.for_ (.name 7) (.rng (.cons (.v 4) .nil)) (.cons (.asg (.name 8) (.call j_law_legal (.cons (.ix (.ix (.v 5) (.c (.int 0))) (.call j_law_turn (.cons (.v 5) .nil))) (.cons (.ix (.v 5) (.c (.int 2))) .nil))))
  (.cons (.ife (.tr (.cmp .Eq (.v 8) (.tup .nil))) (.cons (.ret (.v 6))
  .nil) .nil)
  (.cons (.asg (.name 9) (.ix (.v 8) (.call j_law_next (.cons (.v 0) (.cons (.bi .len (.cons (.v 8) .nil)) .nil)))))
  (.cons (.asg (.name 6) (.bin .Add (.v 6) (.tup (.cons (.v 9) .nil))))
  (.cons (.asg (.name 5) (.ix (.call j_law_played (.cons (.v 5) (.cons (.v 9) (.cons (.v 3) .nil)))) (.c (.int 0))))
  .nil))))))
  (.cons (.ret (.v 6))
  .nil)))
abbrev F_law_random_play (j_law_legal : Nat) (j_law_turn : Nat) (j_law_next : Nat) (j_law_played : Nat) : Fd := ⟨5, 10, B_law_random_play j_law_legal j_law_turn j_law_next j_law_played⟩
end Ev
/-! cards, hands, deals as data -/
namespace Ev
open PySem PySem.W
abbrev Card := Int × Int
abbrev nI (k : Nat) : D := .int (k : Int)
theorem rng_nat {n : Nat} (h : n ≤ 10000000) : rngD [.int (n : Int)] = some ((List.range n).map nI) := by
  have := sizeL
  rw [rng1, if_pos (by omega)]; simp
theorem rng_int {i : Int} (h : i ≤ 10000000) (h0 : -1000000000 ≤ i) : rngD [.int i] = some ((List.range i.toNat).map nI) := by
  have := sizeL
  rw [rng1, if_pos (by omega)]
theorem rng_nat2 {a b : Nat} (h : b ≤ 10000000) (h2 : a ≤ 10000000) : rngD [.int (a : Int), .int (b : Int)] = some ((List.range' a (b - a)).map nI) := by
  have := sizeL
  rw [rng2, if_pos (by omega)]
  have e : ((b : Int) - (a : Int)).toNat = b - a := by omega
  rw [e, List.range'_eq_map_range, List.map_map]
  congr 1
theorem ints_nat {xs : List Nat} : intsD (xs.map nI) = some (xs.map fun (k : Nat) => (k : Int)) := by
  induction xs with
  | nil => rfl
  | cons x xs ih => rw [List.map_cons, intsD, ih]; rfl
/-! ### encodings -/
def cd (c : Card) : D := .tuple [.int c.1, .int c.2]
def hd (h : List Card) : D := .tuple (h.map cd)
def dl (d : List (List Card)) : D := .tuple (d.map hd)
def oi : Option Int → D
  | none => .none
  | some i => .int i
theorem cd_toD : cd = Datum.toD (α := Card) := rfl
@[simp] theorem cd_fold {a b : Int} : PyData.tuple [.int a, .int b] = cd (a, b) := (rfl)
@[simp] theorem hd_fold {h : List Card} : PyData.tuple (h.map cd) = hd h := (rfl)
@[simp] theorem dl_fold {h : List (List Card)} : PyData.tuple (h.map hd) = dl h := (rfl)
theorem hd_nil : hd [] = .tuple [] := rfl
@[simp] theorem nil_fold : PyData.tuple [] = hd [] := (rfl)
@[simp] theorem cd0 {c : Card} : ixR (.val (cd c)) (.int 0) = some (.int c.1) := (rfl)
@[simp] theorem cd1 {c : Card} : ixR (.val (cd c)) (.int 1) = some (.int c.2) := (rfl)
@[simp] theorem items_hd {h : List Card} : itemsD (hd h) = some (h.map cd) := (rfl)
@[simp] theorem items_dl {h : List (List Card)} : itemsD (dl h) = some (h.map hd) := (rfl)
@[simp] theorem len_hd {h : List Card} : biD .len [hd h] = some (.val (.int h.length)) := by show some (RV.val (.int (h.map cd).length)) = _; rw [List.length_map]
@[simp] theorem len_dl {h : List (List Card)} : biD .len [dl h] = some (.val (.int h.length)) := by show some (RV.val (.int (h.map hd).length)) = _; rw [List.length_map]
@[simp] theorem tup_hd {h : List Card} : biD .tuple [.list (h.map cd)] = some (.val (hd h)) := (rfl)
@[simp] theorem tup_dl {h : List (List Card)} : biD .tuple [.list (h.map hd)] = some (.val (dl h)) := (rfl)
@[simp] theorem bind_cd {cf : Nat → List Slot → CR} {i j : Nat} {c : Card} {e : En} {Q : Unit → En → Prop} : Ok (bindT (.tup (.cons (.name i) (.cons (.name j) .nil))) (cd c) e) Q = Ok (bindT (.tup (.cons (.name i) (.cons (.name j) .nil))) (.tuple [.int c.1, .int c.2]) e) Q := (rfl)
@[simp] theorem isd_hd {h : List Card} : isDictD (hd h) = false := (rfl)
@[simp] theorem isd_cd {h : Card} : isDictD (cd h) = false := (rfl)
@[simp] theorem isd_dl {h : List (List Card)} : isDictD (dl h) = false := (rfl)
theorem add_hd {a b : List Card} (h : a.length + b.length ≤ 1000000) : binD .Add (hd a) (hd b) = some (.val (hd (a ++ b))) := by
  have := sizeL
  unfold hd
  rw [add_tup, if_pos (by simp; omega), List.map_append]
theorem add_dl {a b : List (List Card)} (h : a.length + b.length ≤ 1000000) : binD .Add (dl a) (dl b) = some (.val (dl (a ++ b))) := by
  have := sizeL
  unfold dl
  rw [add_tup, if_pos (by simp; omega), List.map_append]
@[simp] theorem hd_one {c : Card} : PyData.tuple [cd c] = hd [c] := (rfl)
@[simp] theorem dl_one {c : List Card} : PyData.tuple [hd c] = dl [c] := (rfl)
theorem hd_at {h : List Card} {k : Nat} (hk : k < h.length) : ixR (.val (hd h)) (.int (k : Int)) = some (cd h[k]) := by
  unfold hd
  rw [ix_tup, atI_nat' (by simpa using hk), List.getElem_map]
theorem dl_at {h : List (List Card)} {k : Nat} (hk : k < h.length) : ixR (.val (dl h)) (.int (k : Int)) = some (hd h[k]) := by
  unfold dl
  rw [ix_tup, atI_nat' (by simpa using hk), List.getElem_map]
theorem hd_at0 {c : Card} {h : List Card} : ixR (.val (hd (c :: h))) (.int 0) = some (cd c) := by
  show L2.atI (cd c :: h.map cd) (((0 : Nat) : Int)) = _
  rw [atI_nat' (by simp)]; rfl
theorem lst_at {α : Type} {en : α → D} {h : List α} {k : Nat} (hk : k < h.length) : ixR (.new (.lst (h.map en))) (.int (k : Int)) = some (en h[k]) := by
  rw [ix_lst, atI_nat' (by simpa using hk), List.getElem_map]
theorem vlst_at {α : Type} {en : α → D} {h : List α} {k : Nat} (hk : k < h.length) : ixR (.val (.list (h.map en))) (.int (k : Int)) = some (en h[k]) := by
  rw [ix_list, atI_nat' (by simpa using hk), List.getElem_map]
/-! ### equal, in, less -/
@[simp] theorem eq_cd {a b : Card} : cmpD .Eq (cd a) (cd b) = some (decide (a = b)) := eq_T (α := Card)
@[simp] theorem ne_cd {a b : Card} : cmpD .NotEq (cd a) (cd b) = some (decide (a ≠ b)) := ne_T (α := Card)
@[simp] theorem eq_hd {a b : List Card} : cmpD .Eq (hd a) (hd b) = some (decide (a = b)) := eq_TT (α := Card)
@[simp] theorem ne_hd {a b : List Card} : cmpD .NotEq (hd a) (hd b) = some (decide (a ≠ b)) := ne_TT (α := Card)
@[simp] theorem eq_lcd {a b : List Card} : cmpD .Eq (.list (a.map cd)) (.list (b.map cd)) = some (decide (a = b)) := eq_TL (α := Card)
theorem eq_nil {xs : List D} (h : PyData.plainAll xs = true) : cmpD .Eq (.list xs) (.list []) = some (decide (xs = [])) := by
  rw [eq_D, if_pos (by unfold eqOk; simp [PyData.plain, h, PyData.plainAll, PyData.depth, PyData.depthAll])]
  cases xs <;> simp [PyData.eqv, PyData.eqvAll]
theorem ne_nil {xs : List D} (h : PyData.plainAll xs = true) : cmpD .NotEq (.list xs) (.list []) = some (decide (xs ≠ [])) := by
  rw [ne_D, if_pos (by unfold eqOk; simp [PyData.plain, h, PyData.plainAll, PyData.depth, PyData.depthAll])]
  cases xs <;> simp [PyData.eqv, PyData.eqvAll]
theorem plain_map {α : Type} {en : α → D} (h : ∀ a, (en a).plain = true) : ∀ xs : List α, PyData.plainAll (xs.map en) = true
  | [] => rfl
  | x :: xs => by rw [List.map_cons, PyData.plainAll, h x, plain_map h xs]; rfl
theorem pl_cd (c : Card) : (cd c).plain = true := Datum.plain (α := Card) c
theorem pl_hd (c : List Card) : (hd c).plain = true := Datum.plain (α := Tup Card) ⟨c⟩
@[simp] theorem eq_cds_nil {xs : List Card} : cmpD .Eq (.list (xs.map cd)) (.list []) = some (decide (xs = [])) := by rw [eq_nil (plain_map pl_cd _)]; simp
@[simp] theorem ne_cds_nil {xs : List Card} : cmpD .NotEq (.list (xs.map cd)) (.list []) = some (decide (xs ≠ [])) := by rw [ne_nil (plain_map pl_cd _)]; simp
@[simp] theorem eq_hds_nil {xs : List (List Card)} : cmpD .Eq (.list (xs.map hd)) (.list []) = some (decide (xs = [])) := by rw [eq_nil (plain_map pl_hd _)]; simp
@[simp] theorem ne_hds_nil {xs : List (List Card)} : cmpD .NotEq (.list (xs.map hd)) (.list []) = some (decide (xs ≠ [])) := by rw [ne_nil (plain_map pl_hd _)]; simp
@[simp] theorem eq_nats_nil {xs : List Nat} : cmpD .Eq (.list (xs.map nI)) (.list []) = some (decide (xs = [])) := by rw [eq_nil (plain_map (fun _ => rfl) _)]; simp
@[simp] theorem ne_nats_nil {xs : List Nat} : cmpD .NotEq (.list (xs.map nI)) (.list []) = some (decide (xs ≠ [])) := by rw [ne_nil (plain_map (fun _ => rfl) _)]; simp
theorem in_hd {c : Card} {h : List Card} [Decidable (c ∈ h)] : cmpD .In (cd c) (hd h) = some (decide (c ∈ h)) := in_TT (α := Card)
theorem nin_hd {c : Card} {h : List Card} [Decidable (c ∉ h)] : cmpD .NotIn (cd c) (hd h) = some (decide (c ∉ h)) := nin_TT (α := Card)
theorem in_lcd {c : Card} {h : List Card} [Decidable (c ∈ h)] : cmpD .In (cd c) (.list (h.map cd)) = some (decide (c ∈ h)) := in_TL (α := Card)
theorem nin_lcd {c : Card} {h : List Card} [Decidable (c ∉ h)] : cmpD .NotIn (cd c) (.list (h.map cd)) = some (decide (c ∉ h)) := nin_TL (α := Card)
theorem in_nats {c : Nat} {h : List Nat} [Decidable (c ∈ h)] : cmpD .In (.int (c : Int)) (.list (h.map nI)) = some (decide (c ∈ h)) := by
  have e : h.map nI = (h.map fun (k : Nat) => (k : Int)).map (Datum.toD (α := Int)) := by rw [List.map_map]; rfl
  rw [e]
  refine (in_TL (α := Int) (x := (c : Int))).trans ?_
  simp only [List.mem_map, Option.some.injEq, decide_eq_decide]
  exact ⟨fun ⟨a, h1, h2⟩ => by rw [← Int.ofNat_inj.mp h2]; exact h1, fun h => ⟨c, h, rfl⟩⟩
@[simp] theorem eq_oi {i : Int} {o : Option Int} : cmpD .Eq (.int i) (oi o) = some (decide (some i = o)) := by
  cases o with
  | none => rw [eq_D, if_pos (by simp [oi, eqOk])]; simp [oi, PyData.eqv]
  | some j => simp [oi]
@[simp] theorem ne_oi {i : Int} {o : Option Int} : cmpD .NotEq (.int i) (oi o) = some (decide (some i ≠ o)) := by
  cases o with
  | none => rw [ne_D, if_pos (by simp [oi, eqOk])]; simp [oi, PyData.eqv]
  | some j => simp [oi]
@[simp] theorem isN_oi {o : Option Int} : isNoneD (oi o) = o.isNone := by cases o <;> rfl
@[simp] theorem isN_hd {o : List Card} : isNoneD (hd o) = false := (rfl)
/-- one card below another -/
def clt (a b : Card) : Bool := DatumOrd.lt a b
theorem clt_eq (a b : Card) : clt a b = if a.1 = b.1 then decide (a.2 < b.2) else decide (a.1 < b.1) := rfl
@[simp] theorem lt_cd {a b : Card} : cmpD .Lt (cd a) (cd b) = some (clt a b) := by
  show (if ordOk (cd a) (cd b) then some (dataLt (cd a) (cd b)) else none) = _
  rw [if_pos (show ordOk (cd a) (cd b) = true from ordOk_T (α := Card) (by decide))]
  exact congrArg some (DatumOrd.lt_eq (α := Card) a b)
@[simp] theorem gt_cd {a b : Card} : cmpD .Gt (cd a) (cd b) = some (clt b a) := by
  show (if ordOk (cd a) (cd b) then some (dataLt (cd b) (cd a)) else none) = _
  rw [if_pos (show ordOk (cd a) (cd b) = true from ordOk_T (α := Card) (by decide))]
  exact congrArg some (DatumOrd.lt_eq (α := Card) b a)
@[simp] theorem ge_cd {a b : Card} : cmpD .GtE (cd a) (cd b) = some (!clt a b) := by
  show (if ordOk (cd a) (cd b) then some (!dataLt (cd a) (cd b)) else none) = _
  rw [if_pos (show ordOk (cd a) (cd b) = true from ordOk_T (α := Card) (by decide))]
  exact congrArg some (congrArg not (DatumOrd.lt_eq (α := Card) a b))
@[simp] theorem srt_cds {h : List Card} : biD .sorted [.list (h.map cd)] = some (.new (.lst ((srt h).map cd))) := srt_L (α := Card)
@[simp] theorem srt_hd {h : List Card} : biD .sorted [hd h] = some (.new (.lst ((srt h).map cd))) := srt_TT (α := Card)
/-! ### what can be told -/
theorem tame_cd (c : Card) : tame 1 (cd c) = true := by
  have := sizeL
  show (decide (([PyData.int c.1, .int c.2] : List D).length ≤ sizeLine) && ([PyData.int c.1, .int c.2] : List D).all (tame 0)) = true
  rw [Bool.and_eq_true, decide_eq_true_eq]
  exact ⟨by show 2 ≤ sizeLine; rw [sizeL]; decide, rfl⟩
theorem tame_mono : ∀ {n m : Nat} {d : D}, tame n d = true → n ≤ m → tame m d = true
  | _, _, .none, _, _ => by simp [tame]
  | _, _, .bool _, _, _ => by simp [tame]
  | _, _, .int _, _, _ => by simp [tame]
  | _, _, .str _, _, _ => by simp [tame]
  | 0, _, .tuple _, h, _ => by simp [tame] at h
  | n + 1, 0, .tuple _, _, h => by omega
  | n + 1, m + 1, .tuple xs, h, hm => by
    simp only [tame, Bool.and_eq_true, List.all_eq_true] at h ⊢
    exact ⟨h.1, fun x hx => tame_mono (h.2 x hx) (by omega)⟩
  | _, _, .list _, h, _ => by simp [tame] at h
  | _, _, .dict _, h, _ => by simp [tame] at h
theorem tame_tup {α : Type} {en : α → D} {n : Nat} {xs : List α} (h : ∀ x ∈ xs, tame n (en x) = true) (hl : xs.length ≤ 1000000) : tame (n + 1) (.tuple (xs.map en)) = true := by
  have := sizeL
  simp only [tame, List.length_map, Bool.and_eq_true, decide_eq_true_eq, List.all_eq_true, List.mem_map]
  refine ⟨by omega, ?_⟩
  rintro _ ⟨x, hx, rfl⟩
  exact h x hx
theorem tame_hd {h : List Card} (hl : h.length ≤ 1000000) : tame 2 (hd h) = true := tame_tup (fun x _ => tame_cd x) hl
theorem tame_dl {h : List (List Card)} (hl : h.length ≤ 1000000) (hh : ∀ x ∈ h, x.length ≤ 1000000) : tame 3 (dl h) = true := tame_tup (fun x hx => tame_hd (hh x hx)) hl
end Ev
/-! tricks: what the defs do -/
namespace Ev
open PySem PySem.W
section
variable {fs : List Fd} {n j : Nat}
theorem without_ok (hf : fs[j]? = some F_without) {h : List Card} {c : Card} : callN fs (n + 1) j [.sh (hd h), .sh (cd c)] = .ok (.val (hd (h.filter fun x => decide (x ≠ c)))) [.no, .no] := by
  refine cok_eq (cok_call hf rfl ?_)
  simp [B_without, w_comp]
  refine comp_fl (fun x => decide (x ≠ c)) rfl (fun x hx => ?_) ?_
  · simp [wipeE]
  · simp
theorem take_cut {α : Type} {xs : List α} {k : Nat} (hk : k ≤ xs.length) : cutL xs none (some (k : Int)) = xs.take k := by
  unfold cutL
  have e : HT.sIx xs.length xs.length (some (k : Int)) = k := by
    show (if (k : Int) < 0 then ((k : Int) + (xs.length : Int)).toNat else min (k : Int).toNat xs.length) = k
    rw [if_neg (by omega)]; omega
  rw [e]
  show (xs.drop 0).take (k - 0) = _
  rw [List.drop_zero, Nat.sub_zero]
theorem drop_cut {α : Type} {xs : List α} {k : Nat} (hk : k ≤ xs.length) : cutL xs (some (k : Int)) none = xs.drop k := by
  unfold cutL
  have e : HT.sIx xs.length 0 (some (k : Int)) = k := by
    show (if (k : Int) < 0 then ((k : Int) + (xs.length : Int)).toNat else min (k : Int).toNat xs.length) = k
    rw [if_neg (by omega)]; omega
  rw [e]
  show (xs.drop k).take (xs.length - k) = _
  rw [List.take_of_length_le (by simp)]
theorem sl_dl_to {d : List (List Card)} {k : Nat} (hk : k ≤ d.length) : slD (dl d) none (some (k : Int)) = some (.val (dl (d.take k))) := by
  unfold dl
  rw [sl_tup, take_cut (by simpa using hk), List.map_take]
theorem sl_dl_from {d : List (List Card)} {k : Nat} (hk : k ≤ d.length) : slD (dl d) (some (k : Int)) none = some (.val (dl (d.drop k))) := by
  unfold dl
  rw [sl_tup, drop_cut (by simpa using hk), List.map_drop]
theorem sl_hd_to {d : List Card} {k : Nat} (hk : k ≤ d.length) : slD (hd d) none (some (k : Int)) = some (.val (hd (d.take k))) := by
  unfold hd
  rw [sl_tup, take_cut (by simpa using hk), List.map_take]
theorem sl_hd_from {d : List Card} {k : Nat} (hk : k ≤ d.length) : slD (hd d) (some (k : Int)) none = some (.val (hd (d.drop k))) := by
  unfold hd
  rw [sl_tup, drop_cut (by simpa using hk), List.map_drop]
theorem exchanged_ok (hf : fs[j]? = some F_exchanged) {d : List (List Card)} {h : List Card} {k : Nat} (hk : k < d.length) (hd' : d.length ≤ 10000) : callN fs (n + 1) j [.sh (dl d), .sh (.int (k : Int)), .sh (hd h)] = .ok (.val (dl (d.set k h))) [.no, .no, .no] := by
  refine cok_eq (cok_call hf rfl ?_)
  have e1 : (k : Int) + 1 = ((k + 1 : Nat) : Int) := by omega
  have a1 : binD .Add (dl (d.take k)) (dl [h]) = some (.val (dl (d.take k ++ [h]))) := add_dl (by simp; omega)
  have a2 : binD .Add (dl (d.take k ++ [h])) (dl (d.drop (k + 1))) = some (.val (dl (d.take k ++ [h] ++ d.drop (k + 1)))) := add_dl (by simp; omega)
  have e2 : d.set k h = d.take k ++ [h] ++ d.drop (k + 1) := by
    rw [List.set_eq_take_append_cons_drop, if_pos hk]; simp
  simp [B_exchanged, sl_dl_to (Nat.le_of_lt hk), e1, sl_dl_from hk, a1, a2, sizeL, e2, -List.append_assoc, -Int.natCast_add]
/-- the cards that can be played -/
def lgl (h t : List Card) : List Card := match t with
  | [] => h
  | c :: _ => if h.filter (fun x => decide (x.1 = c.1)) ≠ [] then h.filter (fun x => decide (x.1 = c.1)) else h
theorem legal_ok (hf : fs[j]? = some F_legal) {h t : List Card} : callN fs (n + 1) j [.sh (hd h), .sh (hd t)] = .ok (.val (hd (lgl h t))) [.no, .no] := by
  refine cok_eq (cok_call hf rfl ?_)
  cases t with
  | nil => simp [B_legal, lgl]
  | cons c t =>
    simp [B_legal, w_comp]
    refine comp_fl (fun x => decide (x.1 = c.1)) rfl (fun x hx => ?_) ?_
    · simp [wipeE, hd_at0]
    · simp only [lgl]
      generalize h.filter (fun x => decide (x.1 = c.1)) = s
      by_cases hs : s = []
      · simp [hs]
      · simp [hs]
theorem llegal_ok (hf : fs[j]? = some F_law_legal) {h t : List Card} : callN fs (n + 1) j [.sh (hd h), .sh (hd t)] = .ok (.val (hd (lgl h t))) [.no, .no] := by
  refine cok_eq (cok_call hf rfl ?_)
  simp [B_law_legal, w_comp]
  cases t with
  | nil =>
    refine comp_fl (fun _ => false) rfl (fun x hx => ?_) ?_
    · simp [wipeE]
    · simp [lgl]
  | cons c t =>
    refine comp_fl (fun x => decide (x.1 = c.1)) rfl (fun x hx => ?_) ?_
    · simp [wipeE, hd_at0]
    · simp only [lgl]
      generalize h.filter (fun x => decide (x.1 = c.1)) = s
      by_cases hs : s = []
      · simp [hs]
      · simp [hs]
/-- how strong a card is -/
def strg (c : Card) (led : Int) (tr : Option Int) : Card := if some c.1 = tr then (2, c.2) else if c.1 = led then (1, c.2) else (0, 0)
theorem strength_ok (hf : fs[j]? = some F_strength) {c : Card} {led : Int} {tr : Option Int} : callN fs (n + 1) j [.sh (cd c), .sh (.int led), .sh (oi tr)] = .ok (.val (cd (strg c led tr))) [.no, .no, .no] := by
  refine cok_eq (cok_call hf rfl ?_)
  simp [B_strength, strg, sizeL]
  split
  · simp
  · split <;> simp
/-- the k-th -/
def nth {α : Type} (t : List α) (k : Nat) (d : α) : α := (t[k]?).getD d
theorem getD_at {α : Type} {t : List α} {k : Nat} {d : α} (hk : k < t.length) : t[k] = nth t k d := by
  unfold nth
  rw [List.getElem?_eq_getElem hk]; rfl
theorem nth0 {α : Type} {c d : α} {r : List α} : nth (c :: r) 0 d = c := rfl
/-- the place of the winning card -/
def win (t : List Card) (tr : Option Int) : Nat :=
  (List.range' 1 (t.length - 1)).foldl (fun b k => if clt (strg (nth t b (0, 0)) (nth t 0 (0, 0)).1 tr) (strg (nth t k (0, 0)) (nth t 0 (0, 0)).1 tr) then k else b) 0
def wiB (js : Nat) : MSs := (.cons (.ife (.tr (.cmp .Gt (.call js (.cons (.ix (.v 0) (.v 4)) (.cons (.v 2) (.cons (.v 1) .nil)))) (.call js (.cons (.ix (.v 0) (.v 3)) (.cons (.v 2) (.cons (.v 1) .nil)))))) (.cons (.asg (.name 3) (.v 4))
  .nil) .nil)
  .nil)
theorem B_winner_eq (js : Nat) : B_winner_at js = (.cons (.asg (.name 2) (.ix (.ix (.v 0) (.c (.int 0))) (.c (.int 0))))
  (.cons (.asg (.name 3) (.c (.int 0)))
  (.cons (.for_ (.name 4) (.rng (.cons (.c (.int 1)) (.cons (.bi .len (.cons (.v 0) .nil)) .nil))) (wiB js))
  (.cons (.ret (.v 3))
  .nil)))) := rfl
theorem winner_ok {js : Nat} (hf : fs[j]? = some (F_winner_at js)) (hs : fs[js]? = some F_strength) {t : List Card} {tr : Option Int} (ht : t ≠ []) (hl : t.length ≤ 10000) : callN fs (n + 2) j [.sh (hd t), .sh (oi tr)] = .ok (.val (.int (win t tr : Nat))) [.no, .no] := by
  refine cok_eq (cok_call (n := n + 1) hf rfl ?_)
  obtain ⟨c, r, rfl⟩ : ∃ c r, t = c :: r := by
    cases t with
    | nil => exact absurd rfl ht
    | cons c r => exact ⟨c, r, rfl⟩
  have hr : rngD [.int 1, .int (((c :: r).length : Nat) : Int)] = some ((List.range' 1 ((c :: r).length - 1)).map nI) := rng_nat2 (a := 1) (by omega) (by omega)
  simp only [List.length_cons] at hr hl
  simp only [Nat.add_sub_cancel] at hr
  simp at hr
  simp [B_winner_eq, w_for, hd_at0, hr]
  refine for_fold (fun (s : Nat × Slot) => [.sh (hd (c :: r)), .sh (oi tr), .sh (.int c.1), .sh (nI s.1), s.2]) (fun s k => (if clt (strg (nth (c :: r) s.1 (0, 0)) c.1 tr) (strg (nth (c :: r) k (0, 0)) c.1 tr) then k else s.1, .sh (nI k))) (0, .no) rfl (fun s => s.1 < (c :: r).length) (by simp) ?_ ?_
  · rintro ⟨b, s4⟩ k hk hb
    have hk : k < (c :: r).length := by
      simp only [List.mem_range'_1] at hk
      simp; omega
    refine ⟨by simp only []; split <;> assumption, ?_⟩
    simp only [] at hb
    simp [wiB, ok_call, hd_at hk, hd_at hb, strength_ok hs, getD_at (d := ((0, 0) : Card)) hk, getD_at (d := ((0, 0) : Card)) hb]
    split <;> simp
  · intro _
    simp [win, nth0]
    have : ∀ (l : List Nat) (s : Nat × Slot), (l.foldl (fun (s : Nat × Slot) k => (if clt (strg (nth (c :: r) s.1 (0, 0)) c.1 tr) (strg (nth (c :: r) k (0, 0)) c.1 tr) then k else s.1, Slot.sh (nI k))) s).1 = l.foldl (fun b k => if clt (strg (nth (c :: r) b (0, 0)) c.1 tr) (strg (nth (c :: r) k (0, 0)) c.1 tr) then k else b) s.1 := by
      intro l
      induction l with
      | nil => intro s; rfl
      | cons k l ih => intro s; rw [List.foldl_cons, List.foldl_cons, ih]
    have := this (List.range' 1 r.length) (0, .no)
    simp at this
    rw [this]
    first | done | rfl
/-! ### states -/
structure Sta where
  hands : List (List Card)
  leader : Nat
  table : List Card
  deriving DecidableEq
def stD (s : Sta) : D := .tuple [dl s.hands, .int (s.leader : Int), hd s.table]
theorem stD_fold {d : List (List Card)} {l : Nat} {t : List Card} : PyData.tuple [dl d, .int (l : Int), hd t] = stD ⟨d, l, t⟩ := rfl
@[simp] theorem st0 {s : Sta} : ixR (.val (stD s)) (.int 0) = some (dl s.hands) := (rfl)
@[simp] theorem st1 {s : Sta} : ixR (.val (stD s)) (.int 1) = some (.int (s.leader : Int)) := (rfl)
@[simp] theorem st2 {s : Sta} : ixR (.val (stD s)) (.int 2) = some (hd s.table) := (rfl)
@[simp] theorem bind_st {i j k : Nat} {s : Sta} {e : En} {Q : Unit → En → Prop} : Ok (bindT (.tup (.cons (.name i) (.cons (.name j) (.cons (.name k) .nil)))) (stD s) e) Q = Ok (bindT (.tup (.cons (.name i) (.cons (.name j) (.cons (.name k) .nil)))) (.tuple [dl s.hands, .int (s.leader : Int), hd s.table]) e) Q := (rfl)
def Sta.turn (s : Sta) : Nat := (s.leader + s.table.length) % s.hands.length
theorem mod_nat {a b : Nat} (h : 0 < b) : binD .Mod (.int (a : Int)) (.int (b : Int)) = some (.val (.int ((a % b : Nat) : Int))) := by
  rw [mod_int, if_pos (by omega)]; simp
theorem to_play_ok (hf : fs[j]? = some F_to_play) {s : Sta} (h : s.hands ≠ []) : callN fs (n + 1) j [.sh (stD s)] = .ok (.val (.int (s.turn : Nat))) [.no] := by
  have hl := List.length_pos_iff.mpr h
  refine cok_eq (cok_call hf rfl ?_)
  have := mod_nat (a := s.leader + s.table.length) hl
  simp [-mod_int] at this
  simp [B_to_play, this, -mod_int, Sta.turn]
theorem lturn_ok (hf : fs[j]? = some F_law_turn) {s : Sta} (h : s.hands ≠ []) : callN fs (n + 1) j [.sh (stD s)] = .ok (.val (.int (s.turn : Nat))) [.no] := by
  have hl := List.length_pos_iff.mpr h
  refine cok_eq (cok_call hf rfl ?_)
  have := mod_nat (a := s.leader + s.table.length) hl
  simp [-mod_int] at this
  simp [B_law_turn, this, -mod_int, Sta.turn]
/-- the state behind a card, and who has won a trick -/
def Sta.play (s : Sta) (c : Card) (tr : Option Int) : Sta × Option Nat :=
  if s.table.length + 1 < s.hands.length then (⟨s.hands.set s.turn ((nth s.hands s.turn []).filter fun x => decide (x ≠ c)), s.leader, s.table ++ [c]⟩, none)
  else (⟨s.hands.set s.turn ((nth s.hands s.turn []).filter fun x => decide (x ≠ c)), (s.leader + win (s.table ++ [c]) tr) % s.hands.length, []⟩, some ((s.leader + win (s.table ++ [c]) tr) % s.hands.length))
def oN : Option Nat → D
  | none => .none
  | some k => .int (k : Int)
def plD (r : Sta × Option Nat) : D := .tuple [stD r.1, oN r.2]
@[simp] theorem pl0 {s : Sta × Option Nat} : ixR (.val (plD s)) (.int 0) = some (stD s.1) := (rfl)
@[simp] theorem pl1 {s : Sta × Option Nat} : ixR (.val (plD s)) (.int 1) = some (oN s.2) := (rfl)
@[simp] theorem isN_oN {o : Option Nat} : isNoneD (oN o) = o.isNone := by cases o <;> rfl
theorem turn_lt {s : Sta} (h : s.hands ≠ []) : s.turn < s.hands.length := Nat.mod_lt _ (List.length_pos_iff.mpr h)
theorem played_ok {jt je jw jn : Nat} (hf : fs[j]? = some (F_played jt je jw jn)) (h1 : fs[jt]? = some F_to_play) (h2 : fs[je]? = some F_exchanged) (h3 : fs[jw]? = some F_without) {js : Nat} (h4 : fs[jn]? = some (F_winner_at js)) (h5 : fs[js]? = some F_strength)
    {s : Sta} {c : Card} {tr : Option Int} (h : s.hands ≠ []) (hl : s.hands.length ≤ 1000) (ht : s.table.length ≤ 1000) : callN fs (n + 3) j [.sh (stD s), .sh (cd c), .sh (oi tr)] = .ok (.val (plD (s.play c tr))) [.no, .no, .no] := by
  have hz := sizeL
  have hlp := List.length_pos_iff.mpr h
  have htl := turn_lt h
  have w := winner_ok (n := n) (tr := tr) h4 h5 (t := s.table ++ [c]) (by simp) (by simp; omega)
  have a1 : binD .Add (hd s.table) (hd [c]) = some (.val (hd (s.table ++ [c]))) := add_hd (by simp; omega)
  have tp := to_play_ok (n := n + 1) h1 h
  have ex := exchanged_ok (n := n + 1) h2 (d := s.hands) (h := (nth s.hands s.turn []).filter fun x => decide (x ≠ c)) htl (by omega)
  have wo := without_ok (n := n + 1) h3 (h := s.hands[s.turn]) (c := c)
  rw [getD_at (d := ([] : List Card)) htl] at wo
  have da := dl_at htl
  rw [getD_at (d := ([] : List Card)) htl] at da
  have md := mod_nat (a := s.leader + win (s.table ++ [c]) tr) (b := s.hands.length) hlp
  simp only [decide_not] at ex wo
  simp [-mod_int] at md
  refine cok_eq (cok_call (n := n + 2) hf rfl ?_)
  simp [B_played, ok_call, tp, da, wo, ex, a1, sizeL]
  by_cases hc : s.table.length + 1 < s.hands.length
  · have hc' : (s.table.length : Int) + 1 < (s.hands.length : Int) := by omega
    simp [hc', Sta.play, hc, stD_fold, plD, oN]
  · have hc' : ¬ (s.table.length : Int) + 1 < (s.hands.length : Int) := by omega
    simp [hc', Sta.play, hc, ok_call, w, md, -mod_int]
    simp [plD, stD, oN]
theorem begin_ok (hf : fs[j]? = some F_begin) {d : List (List Card)} {l : Nat} : callN fs (n + 1) j [.sh (dl d), .sh (.int (l : Int))] = .ok (.val (stD ⟨d, l, []⟩)) [.no, .no] := by
  refine cok_eq (cok_call hf rfl ?_)
  simp [B_begin, sizeL, stD_fold]
def Sta.over (s : Sta) : Bool := decide (s.table = []) && s.hands.all fun h => decide (h = [])
theorem bools_map {α : Type} {f : α → Bool} : ∀ {xs : List α}, boolsD (xs.map fun x => PyData.bool (f x)) = some (xs.map f)
  | [] => rfl
  | x :: xs => by rw [List.map_cons, boolsD, bools_map]; rfl
@[simp] theorem all_lst {xs : List D} : biD .all [.list xs] = (boolsD xs).map fun bs => .val (.bool (bs.all id)) := (rfl)
@[simp] theorem any_lst {xs : List D} : biD .any [.list xs] = (boolsD xs).map fun bs => .val (.bool (bs.any id)) := (rfl)
theorem is_over_ok (hf : fs[j]? = some F_is_over) {s : Sta} : callN fs (n + 1) j [.sh (stD s)] = .ok (.val (.bool s.over)) [.no] := by
  refine cok_eq (cok_call hf rfl ?_)
  simp [B_is_over, w_comp]
  by_cases ht : s.table = []
  · simp [ht, w_comp]
    refine comp_mp (fun h => .bool (decide (h = []))) rfl (fun x hx => ?_) ?_
    · simp [wipeE]
    · simp [bools_map, Sta.over, ht, List.all_map, Function.comp_def]
  · simp [ht, Sta.over]
end
end Ev
/-! tricks: the laws' own defs -/
namespace Ev
open PySem PySem.W
/-! ### the winning card, told twice -/
theorem win_spec {g : Nat → Card} (m : Nat) : let b := (List.range' 1 m).foldl (fun b k => if clt (g b) (g k) then k else b) 0
    b ≤ m ∧ (∀ k, k ≤ m → clt (g b) (g k) = false) ∧ ∀ k, k < b → clt (g k) (g b) = true := by
  induction m with
  | zero => exact ⟨Nat.le_refl _, fun k hk => by obtain rfl : k = 0 := by omega
                                                 exact lt_irr _, fun k hk => by simp at hk⟩
  | succ m ih =>
    obtain ⟨h1, h2, h3⟩ := ih
    rw [List.range'_concat, List.foldl_append]
    simp only [List.foldl_cons, List.foldl_nil]
    generalize (List.range' 1 m).foldl (fun b k => if clt (g b) (g k) then k else b) 0 = b at *
    have e : 1 + 1 * m = m + 1 := by omega
    rw [e]
    cases h : clt (g b) (g (m + 1)) with
    | true =>
      simp only [if_true]
      refine ⟨Nat.le_refl _, fun k hk => ?_, fun k hk => ?_⟩
      · rcases Nat.lt_or_ge k (m + 1) with q | q
        · cases z : clt (g (m + 1)) (g k) with
          | false => rfl
          | true =>
            have := h2 k (by omega)
            rw [show clt (g b) (g k) = true from lt_tr h z] at this
            cases this
        · obtain rfl : k = m + 1 := by omega
          exact lt_irr _
      · have := h2 k (by omega)
        rcases lt_neg (show DatumOrd.lt (g b) (g k) = false from this) with e2 | e2
        · rw [← e2]; exact h
        · exact lt_tr e2 h
    | false =>
      simp only [Bool.false_eq_true, if_false]
      refine ⟨by omega, fun k hk => ?_, h3⟩
      rcases Nat.lt_or_ge k (m + 1) with q | q
      · exact h2 k (by omega)
      · obtain rfl : k = m + 1 := by omega
        exact h
/-- the first of those that none beats -/
def lwin (t : List Card) (tr : Option Int) : List Nat :=
  let tm := (List.range t.length).filter fun k => decide (some (nth t k (0, 0)).1 = tr)
  let ab := if tm ≠ [] then tm else (List.range t.length).filter fun k => decide ((nth t k (0, 0)).1 = (nth t 0 (0, 0)).1)
  ab.filter fun k => decide (ab.filter (fun j => decide ((nth t k (0, 0)).2 < (nth t j (0, 0)).2)) = [])
theorem filter_first {p : Nat → Bool} : ∀ {l : List Nat} {b : Nat}, l.Pairwise (· < ·) → b ∈ l → p b = true → (∀ k ∈ l, k < b → p k = false) → ∃ r, l.filter p = b :: r
  | [], _, _, h, _, _ => by simp at h
  | x :: l, b, hp, hb, hpb, hk => by
    rw [List.pairwise_cons] at hp
    rcases List.mem_cons.mp hb with rfl | hb
    · exact ⟨l.filter p, by rw [List.filter_cons_of_pos hpb]⟩
    · have hx : p x = false := hk x (List.mem_cons_self ..) (hp.1 b hb)
      obtain ⟨r, h⟩ := filter_first hp.2 hb hpb fun k h1 h2 => hk k (List.mem_cons_of_mem _ h1) h2
      exact ⟨r, by rw [List.filter_cons_of_neg (by rw [hx]; decide)]; exact h⟩
theorem range_pw (n : Nat) : (List.range n).Pairwise (· < ·) := List.pairwise_lt_range
theorem lwin_first {t : List Card} {tr : Option Int} (ht : t ≠ []) : ∃ r, lwin t tr = win t tr :: r := by
  have hl := List.length_pos_iff.mpr ht
  obtain ⟨h1, h2, h3⟩ := win_spec (g := fun k => strg (nth t k (0, 0)) (nth t 0 (0, 0)).1 tr) (t.length - 1)
  have hw : (List.range' 1 (t.length - 1)).foldl (fun b k => if clt (strg (nth t b (0, 0)) (nth t 0 (0, 0)).1 tr) (strg (nth t k (0, 0)) (nth t 0 (0, 0)).1 tr) then k else b) 0 = win t tr := rfl
  rw [hw] at h1 h2 h3
  generalize win t tr = b at *
  unfold lwin
  simp only []
  have hbl : b < t.length := by omega
  -- the greatest is one of those that can win
  by_cases htm : (List.range t.length).filter (fun k => decide (some (nth t k (0, 0)).1 = tr)) = []
  · have no : ∀ k, k < t.length → some (nth t k (0, 0)).1 ≠ tr := by
      intro k hk e
      have : k ∈ (List.range t.length).filter (fun k => decide (some (nth t k (0, 0)).1 = tr)) := List.mem_filter.mpr ⟨by simpa using hk, by simpa using e⟩
      rw [htm] at this; simp at this
    rw [htm]
    simp only [ne_eq, not_true_eq_false, if_false]
    have s1 : ∀ k, k < t.length → strg (nth t k (0, 0)) (nth t 0 (0, 0)).1 tr = if (nth t k (0, 0)).1 = (nth t 0 (0, 0)).1 then (1, (nth t k (0, 0)).2) else (0, 0) := fun k hk => by
      unfold strg; rw [if_neg (no k hk)]
    have hb1 : (nth t b (0, 0)).1 = (nth t 0 (0, 0)).1 := by
      by_cases e : (nth t b (0, 0)).1 = (nth t 0 (0, 0)).1
      · exact e
      · have := h2 0 (by omega)
        rw [s1 b hbl, s1 0 (by omega), if_neg e, if_pos rfl, clt_eq] at this
        simp at this
    have lt1 : ∀ i k, i < t.length → k < t.length → (nth t i (0, 0)).1 = (nth t 0 (0, 0)).1 → (nth t k (0, 0)).1 = (nth t 0 (0, 0)).1 → clt (strg (nth t i (0, 0)) (nth t 0 (0, 0)).1 tr) (strg (nth t k (0, 0)) (nth t 0 (0, 0)).1 tr) = decide ((nth t i (0, 0)).2 < (nth t k (0, 0)).2) := fun i k hi hk e1 e2 => by
      rw [s1 i hi, s1 k hk, if_pos e1, if_pos e2, clt_eq]; simp
    refine filter_first ((range_pw _).filter _) (List.mem_filter.mpr ⟨by simpa using hbl, by simpa using hb1⟩) ?_ ?_
    · rw [decide_eq_true_eq, List.filter_eq_nil_iff]
      intro k hk
      obtain ⟨k1, k2⟩ := List.mem_filter.mp hk
      have k1 : k < t.length := by simpa using k1
      have k2 : (nth t k (0, 0)).1 = (nth t 0 (0, 0)).1 := by simpa using k2
      have := h2 k (by omega)
      rw [lt1 b k hbl k1 hb1 k2] at this
      rw [this]; decide
    · intro k hk hkb
      obtain ⟨k1, k2⟩ := List.mem_filter.mp hk
      have k1 : k < t.length := by simpa using k1
      have k2 : (nth t k (0, 0)).1 = (nth t 0 (0, 0)).1 := by simpa using k2
      have := h3 k hkb
      rw [lt1 k b k1 hbl k2 hb1] at this
      rw [decide_eq_false_iff_not]
      intro hn
      rw [List.filter_eq_nil_iff] at hn
      exact hn b (List.mem_filter.mpr ⟨by simpa using hbl, by simpa using hb1⟩) this
  · obtain ⟨q, hq⟩ := List.exists_mem_of_ne_nil _ htm
    obtain ⟨q1, q2⟩ := List.mem_filter.mp hq
    have q1 : q < t.length := by simpa using q1
    have q2 : some (nth t q (0, 0)).1 = tr := by simpa using q2
    simp only [ne_eq, htm, not_false_eq_true, if_true]
    have s1 : ∀ k, some (nth t k (0, 0)).1 = tr → strg (nth t k (0, 0)) (nth t 0 (0, 0)).1 tr = (2, (nth t k (0, 0)).2) := fun k hk => by
      unfold strg; rw [if_pos hk]
    have hb1 : some (nth t b (0, 0)).1 = tr := by
      by_cases e : some (nth t b (0, 0)).1 = tr
      · exact e
      · have := h2 q (by omega)
        have sb : strg (nth t b (0, 0)) (nth t 0 (0, 0)).1 tr = if (nth t b (0, 0)).1 = (nth t 0 (0, 0)).1 then (1, (nth t b (0, 0)).2) else (0, 0) := by unfold strg; rw [if_neg e]
        rw [s1 q q2, sb, clt_eq] at this
        by_cases e2 : (nth t b (0, 0)).1 = (nth t 0 (0, 0)).1
        · simp [e2] at this
        · simp [e2] at this
    have lt1 : ∀ i k, some (nth t i (0, 0)).1 = tr → some (nth t k (0, 0)).1 = tr → clt (strg (nth t i (0, 0)) (nth t 0 (0, 0)).1 tr) (strg (nth t k (0, 0)) (nth t 0 (0, 0)).1 tr) = decide ((nth t i (0, 0)).2 < (nth t k (0, 0)).2) := fun i k e1 e2 => by
      rw [s1 i e1, s1 k e2, clt_eq]; simp
    refine filter_first ((range_pw _).filter _) (List.mem_filter.mpr ⟨by simpa using hbl, by simpa using hb1⟩) ?_ ?_
    · rw [decide_eq_true_eq, List.filter_eq_nil_iff]
      intro k hk
      obtain ⟨k1, k2⟩ := List.mem_filter.mp hk
      have k1 : k < t.length := by simpa using k1
      have k2 : some (nth t k (0, 0)).1 = tr := by simpa using k2
      have := h2 k (by omega)
      rw [lt1 b k hb1 k2] at this
      rw [this]; decide
    · intro k hk hkb
      obtain ⟨k1, k2⟩ := List.mem_filter.mp hk
      have k1 : k < t.length := by simpa using k1
      have k2 : some (nth t k (0, 0)).1 = tr := by simpa using k2
      have := h3 k hkb
      rw [lt1 k b k2 hb1] at this
      rw [decide_eq_false_iff_not]
      intro hn
      rw [List.filter_eq_nil_iff] at hn
      exact hn b (List.mem_filter.mpr ⟨by simpa using hbl, by simpa using hb1⟩) this
section
variable {fs : List Fd} {n j : Nat}
theorem lwinner_ok (hf : fs[j]? = some F_law_winner) {t : List Card} {tr : Option Int} (ht : t ≠ []) (hl : t.length ≤ 10000) : callN fs (n + 1) j [.sh (hd t), .sh (oi tr)] = .ok (.val (.int (win t tr : Nat))) [.no, .no] := by
  obtain ⟨r, hw⟩ := lwin_first (tr := tr) ht
  refine cok_eq (cok_call hf rfl ?_)
  have hlp := List.length_pos_iff.mpr ht
  have hr : rngD [.int (t.length : Int)] = some ((List.range t.length).map nI) := rng_nat (by omega)
  have at_ : ∀ k : Nat, k < t.length → ixR (.val (hd t)) (.int (k : Int)) = some (cd (nth t k (0, 0))) := fun k hk => by rw [hd_at hk, getD_at hk]
  have at0 := at_ 0 hlp
  simp at at0
  have hwl : win t tr < t.length := by
    have : win t tr ∈ lwin t tr := by rw [hw]; simp
    unfold lwin at this
    obtain ⟨h1, _⟩ := List.mem_filter.mp this
    split at h1
    · simpa using (List.mem_filter.mp h1).1
    · simpa using (List.mem_filter.mp h1).1
  simp [B_law_winner, w_comp, hr]
  refine comp_fl (fun k => decide (some (nth t k (0, 0)).1 = tr)) rfl (fun k hk => ?_) ?_
  · have hk : k < t.length := by simpa using hk
    simp [wipeE, at_ k hk]
  · simp only [lwin] at hw
    generalize htm : (List.range t.length).filter (fun k => decide (some (nth t k (0, 0)).1 = tr)) = tm at *
    have key : ∀ (ab : List Nat) (s2 s4 s5 : Slot), notOwned s4 = true → notOwned s5 = true → (∀ k ∈ ab, k < t.length) → (∃ r, ab.filter (fun k => decide (ab.filter (fun j => decide ((nth t k (0, 0)).2 < (nth t j (0, 0)).2)) = [])) = win t tr :: r) →
        ∀ s3, (s3 = .ow (.lst (ab.map nI)) ∨ s3 = .sh (.list (ab.map nI))) →
        Ok (evSs (callN fs n) (.cons (.ret (.ix (.comp [4] (.name 4) (.seq (.v 3)) (.some (.tr (.cmp .Eq (.comp [5] (.name 5) (.seq (.v 3)) (.some (.tr (.cmp .Gt (.ix (.ix (.v 0) (.v 5)) (.c (.int 1))) (.ix (.ix (.v 0) (.v 4)) (.c (.int 1)))))) (.v 5)) (.lst .nil)))) (.v 4)) (.c (.int 0)))) .nil) [.sh (hd t), .sh (oi tr), s2, s3, s4, s5])
          (endF [.sh (hd t), .sh (oi tr)] fun r' o' => r' = .val (.int (win t tr : Nat)) ∧ o' = [.no, .no]) := by
      intro ab s2 s4 s5 h4 h5 hab ⟨r, hr⟩ s3 h3
      have go : ∀ s3, s3 = Slot.sh (.list (ab.map nI)) → Ok (compM [4] (fun d => do
          bindT (.name 4) d
          let b ← evC (callN fs n) (.some (.tr (.cmp .Eq (.comp [5] (.name 5) (.seq (.v 3)) (.some (.tr (.cmp .Gt (.ix (.ix (.v 0) (.v 5)) (.c (.int 1))) (.ix (.ix (.v 0) (.v 4)) (.c (.int 1)))))) (.v 5)) (.lst .nil))))
          if b then do let x ← evE (callN fs n) (.v 4); let y ← escM x; pure (some y) else pure none) (ab.map nI) [.sh (hd t), .sh (oi tr), s2, s3, s4, s5]) (fun x e1 => x = .new (.lst ((win t tr :: r).map nI)) ∧ e1 = [.sh (hd t), .sh (oi tr), s2, s3, s4, s5]) := by
        rintro s3 rfl
        rw [← hr]
        refine comp_fl (fun k => decide (ab.filter (fun j => decide ((nth t k (0, 0)).2 < (nth t j (0, 0)).2)) = [])) (by simp [h4]) (fun k hk => ?_) ⟨rfl, rfl⟩
        have hkl := hab k hk
        simp [wipeE, w_comp]
        refine comp_fl (fun j => decide ((nth t k (0, 0)).2 < (nth t j (0, 0)).2)) (by simp [h5]) (fun j hj => ?_) ?_
        · have hjl := hab j hj
          simp [wipeE, at_ k hkl, at_ j hjl]
        · simp
      rcases h3 with rfl | rfl
      · simp [w_comp]
        refine (go _ rfl).mono ?_
        rintro x e1 ⟨rfl, rfl⟩
        have : ixR (.new (.lst ((win t tr :: r).map nI))) (.int ((0 : Nat) : Int)) = some (nI (win t tr)) := lst_at (by simp)
        simp at this
        simp [this]
      · simp [w_comp]
        refine (go _ rfl).mono ?_
        rintro x e1 ⟨rfl, rfl⟩
        have : ixR (.new (.lst ((win t tr :: r).map nI))) (.int ((0 : Nat) : Int)) = some (nI (win t tr)) := lst_at (by simp)
        simp at this
        simp [this]
    by_cases hn : tm = []
    · rw [hn] at hw ⊢
      simp only [ne_eq, not_true_eq_false, if_false] at hw
      simp [w_comp, hr]
      refine comp_fl (fun k => decide ((nth t k (0, 0)).1 = (nth t 0 (0, 0)).1)) rfl (fun k hk => ?_) ?_
      · have hk : k < t.length := by simpa using hk
        simp [wipeE, at_ k hk, at0]
      · have kk := key ((List.range t.length).filter (fun k => decide ((nth t k (0, 0)).1 = (nth t 0 (0, 0)).1))) (.ow (.lst [])) .no .no rfl rfl (fun k hk => by simpa using (List.mem_filter.mp hk).1) ⟨r, hw⟩ _ (.inl rfl)
        simp at kk ⊢
        exact kk
    · simp only [ne_eq, hn, not_false_eq_true, if_true] at hw
      have kk := key tm (.sh (.list (tm.map nI))) .no .no rfl rfl (fun k hk => by rw [← htm] at hk; simpa using (List.mem_filter.mp hk).1) ⟨r, hw⟩ _ (.inr rfl)
      simp [hn] at kk ⊢
      exact kk
theorem filter_tt {α : Type} {l : List α} : l.filter (fun _ => true) = l := List.filter_eq_self.mpr fun _ _ => rfl
theorem set_map {α : Type} {f : α → α} {d : α} : ∀ {xs : List α} {k : Nat}, k < xs.length → xs.set k (f (nth xs k d)) = (List.range xs.length).map fun i => if i = k then f (nth xs i d) else nth xs i d := by
  intro xs k hk
  apply List.ext_getElem
  · simp
  · intro i h1 h2
    have hi : i < xs.length := by simpa using h1
    rw [List.getElem_map, List.getElem_range, List.getElem_set]
    by_cases e : k = i
    · subst e; simp
    · have e' : ¬ i = k := fun z => e z.symm
      simp [e, e', ← getD_at hi]
theorem lplayed_ok {jw : Nat} (hf : fs[j]? = some (F_law_played jw)) (h4 : fs[jw]? = some F_law_winner)
    {s : Sta} {c : Card} {tr : Option Int} (h : s.hands ≠ []) (hl : s.hands.length ≤ 1000) (ht : s.table.length ≤ 1000) : callN fs (n + 2) j [.sh (stD s), .sh (cd c), .sh (oi tr)] = .ok (.val (plD (s.play c tr))) [.no, .no, .no] := by
  have hz := sizeL
  have hlp := List.length_pos_iff.mpr h
  have htl := turn_lt h
  have w := lwinner_ok (n := n) (tr := tr) h4 (t := s.table ++ [c]) (by simp) (by simp; omega)
  have a1 : binD .Add (hd s.table) (hd [c]) = some (.val (hd (s.table ++ [c]))) := add_hd (by simp; omega)
  have m1 := mod_nat (a := s.leader + s.table.length) (b := s.hands.length) hlp
  have md := mod_nat (a := s.leader + win (s.table ++ [c]) tr) (b := s.hands.length) hlp
  simp [-mod_int] at md m1
  have hr : rngD [.int (s.hands.length : Int)] = some ((List.range s.hands.length).map nI) := rng_nat (by omega)
  have et : ((s.leader : Int) + (s.table.length : Int)) % (s.hands.length : Int) = (s.turn : Nat) := by simp [Sta.turn]
  rw [et] at m1
  have hset := set_map (f := fun h : List Card => h.filter fun x => decide (x ≠ c)) (d := []) htl
  refine cok_eq (cok_call (n := n + 1) hf rfl ?_)
  simp [B_law_played, ok_call, m1, w_comp, hr, -mod_int]
  refine comp_mp (fun i => hd (if i = s.turn then (nth s.hands i []).filter (fun x => decide (x ≠ c)) else nth s.hands i [])) rfl (fun i hi => ?_) ?_
  · have hi : i < s.hands.length := by simpa using hi
    have di := dl_at hi
    rw [getD_at (d := ([] : List Card)) hi] at di
    simp [wipeE, di, w_comp]
    refine comp_fl (fun x => decide (i ≠ s.turn) || decide (x ≠ c)) rfl (fun x hx => ?_) ?_
    · simp [wipeE]
      by_cases e : (i : Int) = (s.turn : Int)
      · have e' : i = s.turn := by omega
        simp [e']
      · have e' : ¬ i = s.turn := by omega
        simp [e, e']
    · by_cases e : i = s.turn
      · simp [e]
      · simp [e, filter_tt]
  · have e2 : (List.range s.hands.length).map (fun i => hd (if i = s.turn then (nth s.hands i []).filter (fun x => decide (x ≠ c)) else nth s.hands i [])) = (s.hands.set s.turn ((nth s.hands s.turn []).filter fun x => decide (x ≠ c))).map hd := by
      rw [hset, List.map_map]; rfl
    rw [e2]
    have hle : (s.hands.set s.turn ((nth s.hands s.turn []).filter fun x => decide (x ≠ c))).length = s.hands.length := by simp
    have hp : s.play c tr = if s.table.length + 1 < s.hands.length then (⟨s.hands.set s.turn ((nth s.hands s.turn []).filter fun x => decide (x ≠ c)), s.leader, s.table ++ [c]⟩, none)
      else (⟨s.hands.set s.turn ((nth s.hands s.turn []).filter fun x => decide (x ≠ c)), (s.leader + win (s.table ++ [c]) tr) % s.hands.length, []⟩, some ((s.leader + win (s.table ++ [c]) tr) % s.hands.length)) := rfl
    rw [hp]
    generalize s.hands.set s.turn ((nth s.hands s.turn []).filter fun x => decide (x ≠ c)) = q at *
    simp [a1, sizeL, hle]
    by_cases hc : s.table.length + 1 < s.hands.length
    · have hc' : (s.table.length : Int) + 1 < (s.hands.length : Int) := by omega
      simp [hc', hc, stD_fold, plD, oN]
    · have hc' : ¬ (s.table.length : Int) + 1 < (s.hands.length : Int) := by omega
      simp [hc', hc, ok_call, w, hle, md, -mod_int]
      simp [plD, stD, oN]
/-! ### cards and deals that are drawn -/
def cards (m n : Nat) : List Card := (List.range m).flatMap fun (s : Nat) => (List.range n).map fun (r : Nat) => ((s : Int), (r : Int))
theorem cards_len (m n : Nat) : (cards m n).length = m * n := by
  unfold cards
  rw [List.length_flatMap]
  simp [List.map_const', List.sum_replicate_nat]
theorem mem_cards {m n : Nat} {c : Card} : c ∈ cards m n ↔ ∃ s r : Nat, s < m ∧ r < n ∧ c = ((s : Int), (r : Int)) := by
  unfold cards
  simp only [List.mem_flatMap, List.mem_range, List.mem_map]
  constructor
  · rintro ⟨s, hs, r, hr, rfl⟩; exact ⟨s, r, hs, hr, rfl⟩
  · rintro ⟨s, r, hs, hr, rfl⟩; exact ⟨s, hs, r, hr, rfl⟩
theorem cards_pw (m n : Nat) : (cards m n).Pairwise fun a b => clt a b = true := by
  unfold cards
  rw [List.pairwise_flatMap]
  refine ⟨fun s hs => ?_, ?_⟩
  · rw [List.pairwise_map]
    refine (range_pw n).imp fun {a b} h => ?_
    rw [clt_eq]; simp; omega
  · refine (range_pw m).imp fun {a b} h => ?_
    intro x hx y hy
    simp only [List.mem_map, List.mem_range] at hx hy
    obtain ⟨r, _, rfl⟩ := hx
    obtain ⟨r', _, rfl⟩ := hy
    rw [clt_eq]
    have : ¬ (a : Int) = (b : Int) := by omega
    simp [this]; omega
theorem nodup_of_pw {xs : List Card} (h : xs.Pairwise fun a b => clt a b = true) : xs.Nodup := h.imp fun {a b} q e => by
  subst e
  rw [show clt a a = false from lt_irr a] at q
  cases q
theorem cards_nodup (m n : Nat) : (cards m n).Nodup := nodup_of_pw (cards_pw m n)
theorem lcards_ok (hf : fs[j]? = some F_law_cards) {m k : Nat} (hm : m ≤ 100) (hk : k ≤ 100) : callN fs (n + 1) j [.sh (cd ((m : Int), (k : Int)))] = .ok (.new (.lst ((cards m k).map cd))) [.no] := by
  have hz := sizeL
  have hr : rngD [.int (m : Int)] = some ((List.range m).map nI) := rng_nat (by omega)
  have hr2 : rngD [.int (k : Int)] = some ((List.range k).map nI) := rng_nat (by omega)
  refine cok_eq (cok_call hf rfl ?_)
  simp [B_law_cards, w_for, hr]
  refine for_pre (fun pre e => ∃ s2 s3, notOwned s3 = true ∧ e = [.sh (cd ((m : Int), (k : Int))), .ow (.lst ((pre.flatMap fun (s : Nat) => (List.range k).map fun (r : Nat) => ((s : Int), (r : Int))).map cd)), s2, s3]) ⟨_, _, rfl, rfl⟩ ?_ ?_
  · rintro pre s suf e hx ⟨s2, s3, h3, rfl⟩
    simp [w_comp, hr2]
    refine comp_mp (fun r => cd ((s : Int), (r : Int))) (by simp [h3]) (fun r hr => ?_) ?_
    · simp [wipeE, sizeL]
    · have hpl : pre.length + suf.length + 1 = m := by
        have := congrArg List.length hx
        simp at this; omega
      have h1 : (pre.flatMap fun (s : Nat) => (List.range k).map fun (r : Nat) => ((s : Int), (r : Int))).length = pre.length * k := by
        rw [List.length_flatMap]; simp [List.map_const', List.sum_replicate_nat]
      have h2 : pre.length * k ≤ 100 * 100 := Nat.mul_le_mul (by omega) hk
      generalize hA : (pre.flatMap fun (s : Nat) => (List.range k).map fun (r : Nat) => ((s : Int), (r : Int))) = A at *
      have a2 : binD .Add (.list (A.map cd)) (.list ((List.range k).map fun (r : Nat) => cd ((s : Int), (r : Int)))) = some (.new (.lst (A.map cd ++ (List.range k).map fun (r : Nat) => cd ((s : Int), (r : Int))))) := by
        rw [add_lst, if_pos (by simp; omega)]
      simp only [ok_ok, vw_slot, a2, List.getElem?_cons_succ, List.getElem?_cons_zero, Option.bind_some, slV_ow, rvd_lst, oS_some, rvop_new, vw_new, ok_sto_new]
      refine ⟨by simp, ?_⟩
      refine ⟨.sh (nI s), s3, h3, ?_⟩
      first | rfl | simp [Function.comp_def]
  · rintro e ⟨s2, s3, h3, rfl⟩
    simp [cards]
end
end Ev
/-! deals that are drawn, plays that are drawn -/
namespace Ev
open PySem PySem.W
/-- a deal out of a pack: hands of one size, ascending, without a common card -/
structure GoodDeal (m k players size : Nat) (d : List (List Card)) : Prop where
  len : d.length = players
  size_ : ∀ h ∈ d, h.length = size
  pw : ∀ h ∈ d, h.Pairwise fun a b => clt a b = true
  perm : ∃ r, (d.flatten ++ r).Perm (cards m k)
theorem GoodDeal.nodup {m k p z : Nat} {d : List (List Card)} (g : GoodDeal m k p z d) : d.flatten.Nodup := by
  obtain ⟨r, h⟩ := g.perm
  exact (List.nodup_append.mp (h.nodup_iff.mpr (cards_nodup m k))).1
theorem GoodDeal.mem {m k p z : Nat} {d : List (List Card)} (g : GoodDeal m k p z d) {h : List Card} {c : Card} (hh : h ∈ d) (hc : c ∈ h) : c ∈ cards m k := by
  obtain ⟨r, q⟩ := g.perm
  exact q.mem_iff.mp (List.mem_append.mpr (.inl (List.mem_flatten.mpr ⟨h, hh, hc⟩)))
section
variable {fs : List Fd} {n j : Nat}
theorem nxt_nat {L : List Int} {a k : Nat} (h : 0 < k) : ∃ i : Nat, i < k ∧ nxt L a (k : Int) = (i : Int) := by
  have h1 := nxt_nonneg (L := L) (a := a) (m := (k : Int)) (by omega)
  have h2 := nxt_lt (L := L) (a := a) (m := (k : Int)) (by omega)
  exact ⟨(nxt L a (k : Int)).toNat, by omega, by omega⟩
def ldI (jn : Nat) : MSs := (.cons (.asg (.name 9) (.ix (.v 4) (.call jn (.cons (.v 0) (.cons (.bi .len (.cons (.v 4) .nil)) .nil)))))
  (.cons (.asg (.name 7) (.bin .Add (.v 7) (.lst (.cons (.v 9) .nil))))
  (.cons (.asg (.name 4) (.comp [10] (.name 10) (.seq (.v 4)) (.some (.tr (.cmp .NotEq (.v 10) (.v 9)))) (.v 10)))
  .nil)))
def ldO (jn : Nat) : MSs := (.cons (.asg (.name 7) (.lst .nil))
  (.cons (.for_ (.name 8) (.rng (.cons (.v 3) .nil)) (ldI jn))
  (.cons (.expr (.meth .append (.v 5) (.cons (.bi .tuple (.cons (.bi .sorted (.cons (.v 7) .nil)) .nil)) .nil)))
  .nil)))
theorem B_law_deal_eq (jc jn : Nat) : B_law_deal jc jn = (.cons (.asg (.name 4) (.call jc (.cons (.v 1) .nil)))
  (.cons (.asg (.name 5) (.lst .nil))
  (.cons (.for_ (.name 6) (.rng (.cons (.v 2) .nil)) (ldO jn))
  (.cons (.ret (.bi .tuple (.cons (.v 5) .nil)))
  .nil)))) := rfl
theorem filter_ne {xs : List Card} (h : xs.Nodup) (c : Card) : xs.filter (fun x => decide (x ≠ c)) = xs.erase c := by
  rw [h.erase_eq_filter]
  congr 1
  funext x
  by_cases e : x = c <;> simp [e]
theorem ldI_ok {jn : Nat} (hn : fs[jn]? = some ⟨2, 2, bNext⟩) {L : List Int} (hL : L.length ≤ 100000) (s1 s2 s3 s5 s6 s8 s9 s10 : Slot) (a size : Nat) (Lf : List Card) (h10 : notOwned s10 = true) (hz : size ≤ Lf.length) (hl : Lf.length ≤ 10000) (hnd : Lf.Nodup) :
    Ok (forLoop (fun d => do
      bindT (.name 8) d
      evSs (callN fs (n + 1)) (ldI jn)) ((List.range size).map nI) [.pa (W L a), s1, s2, s3, .ow (.lst (Lf.map cd)), s5, s6, .ow (.lst []), s8, s9, s10]) fun fl e => fl = .nx ∧ ∃ (H Lf' : List Card) (s8 s9 s10 : Slot), notOwned s10 = true ∧ H.length = size ∧ (H ++ Lf').Perm Lf ∧
        e = [.pa (W L (a + size)), s1, s2, s3, .ow (.lst (Lf'.map cd)), s5, s6, .ow (.lst (H.map cd)), s8, s9, s10] := by
  have hzz := sizeL
  refine for_pre (fun pre e => ∃ (H Lf' : List Card) (s8 s9 s10 : Slot), (notOwned s10 = true ∧ H.length = pre.length ∧ (H ++ Lf').Perm Lf) ∧
        e = [.pa (W L (a + pre.length)), s1, s2, s3, .ow (.lst (Lf'.map cd)), s5, s6, .ow (.lst (H.map cd)), s8, s9, s10]) ⟨[], Lf, s8, s9, s10, ⟨h10, rfl, .refl _⟩, rfl⟩ ?_ ?_
  · rintro pre x suf e hx ⟨H, Lf', s8, s9, s10, ⟨q1, q2, q3⟩, rfl⟩
    have hpl : pre.length < size := by
      have := congrArg List.length hx
      simp at this; omega
    have hlen := q3.length_eq
    rw [List.length_append] at hlen
    obtain ⟨i, hi, hnx⟩ := nxt_nat (L := L) (a := a + pre.length) (k := Lf'.length) (by omega)
    have nx := next_ok (n := n) (m := (Lf'.length : Int)) (a := a + pre.length) hn (by omega) hL
    rw [hnx] at nx
    have at_ := lst_at (en := cd) hi
    have z : H.length + 1 ≤ sizeLine := by omega
    have hnd' : Lf'.Nodup := (List.nodup_append.mp (q3.nodup_iff.mpr hnd)).2.1
    simp [ldI, ok_call, nx, at_, z, w_comp, sizeL, show H.length + 1 ≤ 16777216 by omega, -ix_lst]
    refine comp_fl (fun y => decide (y ≠ Lf'[i])) (by simp [q1]) (fun y hy => ?_) ?_
    · simp [wipeE]
    · simp
      refine ⟨H ++ [Lf'[i]], Lf'.filter (fun y => !decide (y = Lf'[i])), .sh (nI x), .sh (cd Lf'[i]), s10, ⟨q1, by simp [q2], ?_⟩, by simp [Nat.add_assoc]⟩
      · have e1 := filter_ne hnd' Lf'[i]
        simp only [decide_not, ne_eq] at e1
        rw [e1]
        have p1 := List.perm_cons_erase (List.getElem_mem hi)
        refine List.Perm.trans ?_ q3
        rw [List.append_assoc]
        exact List.Perm.append_left H p1.symm
  · rintro e ⟨H, Lf', s8, s9, s10, ⟨q1, q2, q3⟩, rfl⟩
    rw [List.length_range] at q2 ⊢
    exact ⟨rfl, H, Lf', s8, s9, s10, q1, q2, q3, rfl⟩
theorem ldeal_ok {jc jn : Nat} (hf : fs[j]? = some (F_law_deal jc jn)) (hc : fs[jc]? = some F_law_cards) (hn : fs[jn]? = some ⟨2, 2, bNext⟩) {L : List Int} (hL : L.length ≤ 100000) (a m k players size : Nat) (hm : m ≤ 100) (hk : k ≤ 100) (hs : players * size ≤ m * k) (hp : players ≤ 1000) (hz1 : size ≤ 1000) :
    ∃ d : List (List Card), GoodDeal m k players size d ∧ callN fs (n + 2) j [.pa (W L a), .sh (cd ((m : Int), (k : Int))), .sh (.int (players : Int)), .sh (.int (size : Int))] = .ok (.val (dl d)) [.pa (W L (a + players * size)), .no, .no, .no] := by
  have hzz := sizeL
  have hr : rngD [.int (players : Int)] = some ((List.range players).map nI) := rng_nat (by omega)
  have hr2 : rngD [.int (size : Int)] = some ((List.range size).map nI) := rng_nat (by omega)
  have lc := lcards_ok (n := n) hc hm hk
  have hcl := cards_len m k
  have hmk : m * k ≤ 100 * 100 := Nat.mul_le_mul hm hk
  have key : COk (callN fs (n + 2) j [.pa (W L a), .sh (cd ((m : Int), (k : Int))), .sh (.int (players : Int)), .sh (.int (size : Int))]) fun r o => ∃ d, GoodDeal m k players size d ∧ r = .val (dl d) ∧ o = [.pa (W L (a + players * size)), .no, .no, .no] := by
    refine cok_call (n := n + 1) hf rfl ?_
    simp [B_law_deal_eq, w_for, hr, ok_call, lc]
    refine for_pre (fun pre e => ∃ (D : List (List Card)) (Lf : List Card) (s6 s7 s8 s9 s10 : Slot), (notOwned s10 = true ∧ D.length = pre.length ∧ (∀ h ∈ D, h.length = size) ∧ (∀ h ∈ D, h.Pairwise fun a b => clt a b = true) ∧ (D.flatten ++ Lf).Perm (cards m k) ∧ Lf.length + pre.length * size = m * k) ∧
      e = [.pa (W L (a + pre.length * size)), .sh (cd ((m : Int), (k : Int))), .sh (.int (players : Int)), .sh (.int (size : Int)), .ow (.lst (Lf.map cd)), .ow (.lst (D.map hd)), s6, s7, s8, s9, s10])
      ⟨[], cards m k, .no, .no, .no, .no, .no, ⟨rfl, rfl, by simp, by simp, by simp, by simp [hcl]⟩, by simp⟩ ?_ ?_
    · rintro pre x suf e hx ⟨D, Lf, s6, s7, s8, s9, s10, ⟨q1, q2, q3, q4, q5, q6⟩, rfl⟩
      have hpl : pre.length + 1 ≤ players := by
        have := congrArg List.length hx
        simp at this; omega
      have hmul : (pre.length + 1) * size ≤ players * size := Nat.mul_le_mul_right _ hpl
      rw [Nat.succ_mul] at hmul
      have hnd : Lf.Nodup := (List.nodup_append.mp (q5.nodup_iff.mpr (cards_nodup m k))).2.1
      simp [ldO, w_for, hr2, sizeL]
      refine (ldI_ok (n := n) hn hL _ _ _ _ _ _ _ _ (a + pre.length * size) size Lf q1 (by omega) (by omega) hnd).mono ?_
      rintro fl e ⟨rfl, H, Lf', s8, s9, s10, h1, h2, h3, rfl⟩
      have z : D.length < 16777216 := by omega
      simp [sizeL, z]
      have hlen := h3.length_eq
      rw [List.length_append] at hlen
      have e1 : W L (a + pre.length * size + size) = W L (a + (pre.length + 1) * size) := by rw [Nat.succ_mul, Nat.add_assoc]
      refine ⟨D ++ [srt H], Lf', .sh (nI x), .ow (.lst (H.map cd)), s8, s9, s10, ⟨h1, by simp [q2], ?_, ?_, ?_, ?_⟩, ?_⟩
      · intro h hh
        rcases List.mem_append.mp hh with q | q
        · exact q3 h q
        · simp at q; subst q; rw [srt_len, h2]
      · intro h hh
        rcases List.mem_append.mp hh with q | q
        · exact q4 h q
        · simp at q; subst q
          exact pw_nd (srt_pw H) (srt_nodup.mpr (List.nodup_append.mp (h3.nodup_iff.mpr hnd)).1)
      · rw [List.flatten_append, List.append_assoc]
        refine List.Perm.trans (List.Perm.append_left _ ?_) q5
        simp
        exact ((srt_perm H).append_right _).trans h3
      · rw [Nat.succ_mul]; omega
      · simp [Nat.succ_mul, Nat.add_assoc]
    · rintro e ⟨D, Lf, s6, s7, s8, s9, s10, ⟨q1, q2, q3, q4, q5, q6⟩, rfl⟩
      rw [List.length_range] at q2
      simp
      exact ⟨D, ⟨q2, q3, q4, Lf, q5⟩, rfl⟩
  obtain ⟨r, o, h1, d, h2, h3, h4⟩ := cok_iff.mp key
  exact ⟨d, h2, by rw [h1, h3, h4]⟩
end
end Ev
/-! plays that are drawn -/
namespace Ev
open PySem PySem.W
/-- a state of so many players with few cards -/
structure Sta.Small (s : Sta) (p : Nat) : Prop where
  len : s.hands.length = p
  pos : 0 < p
  few : p ≤ 1000
  tab : s.table.length < p
theorem Sta.Small.ne {s : Sta} {p : Nat} (h : s.Small p) : s.hands ≠ [] := fun e => by
  have h1 := h.len
  have h2 := h.pos
  rw [e] at h1; simp at h1; omega
theorem Sta.Small.play {s : Sta} {p : Nat} (h : s.Small p) (c : Card) (tr : Option Int) : (s.play c tr).1.Small p := by
  have h1 := h.len
  have h2 := h.tab
  have h3 := h.pos
  unfold Sta.play
  split
  · exact ⟨by simp [h1], h.pos, h.few, by simp; omega⟩
  · exact ⟨by simp [h1], h.pos, h.few, by simp; omega⟩
section
variable {fs : List Fd} {n j : Nat}
def rpB (jl jt jn jp : Nat) : MSs := (.cons (.asg (.name 8) (.call jl (.cons (.ix (.ix (.v 5) (.c (.int 0))) (.call jt (.cons (.v 5) .nil))) (.cons (.ix (.v 5) (.c (.int 2))) .nil))))
  (.cons (.ife (.tr (.cmp .Eq (.v 8) (.tup .nil))) (.cons (.ret (.v 6))
  .nil) .nil)
  (.cons (.asg (.name 9) (.ix (.v 8) (.call jn (.cons (.v 0) (.cons (.bi .len (.cons (.v 8) .nil)) .nil)))))
  (.cons (.asg (.name 6) (.bin .Add (.v 6) (.tup (.cons (.v 9) .nil))))
  (.cons (.asg (.name 5) (.ix (.call jp (.cons (.v 5) (.cons (.v 9) (.cons (.v 3) .nil)))) (.c (.int 0))))
  .nil)))))
theorem B_rp_eq (jl jt jn jp : Nat) : B_law_random_play jl jt jn jp = (.cons (.parN [5, 6] (.cons (.tup (.cons (.v 1) (.cons (.v 2) (.cons (.tup .nil) .nil)))) (.cons (.tup .nil) .nil)))
  (.cons (.for_ (.name 7) (.rng (.cons (.v 4) .nil)) (rpB jl jt jn jp))
  (.cons (.ret (.v 6))
  .nil))) := rfl
/-- a play that can be, from a state -/
inductive Plays (tr : Option Int) : Sta → List Card → Sta → Prop
  | nil (s : Sta) : Plays tr s [] s
  | snoc {s s1 : Sta} {cs : List Card} {c : Card} : Plays tr s cs s1 → c ∈ lgl (nth s1.hands s1.turn []) s1.table → Plays tr s (cs ++ [c]) (s1.play c tr).1
theorem rplay_ok {jl jt jn jp jw : Nat} (hf : fs[j]? = some (F_law_random_play jl jt jn jp)) (h1 : fs[jl]? = some F_law_legal) (h2 : fs[jt]? = some F_law_turn) (h3 : fs[jn]? = some ⟨2, 2, bNext⟩) (h4 : fs[jp]? = some (F_law_played jw)) (h5 : fs[jw]? = some F_law_winner)
    {L : List Int} (hL : L.length ≤ 100000) (a : Nat) {d : List (List Card)} {l most : Nat} {tr : Option Int} (hd1 : 0 < d.length) (hd2 : d.length ≤ 1000) (hm : most ≤ 10000) :
    ∃ (cs : List Card) (s : Sta) (a' : Nat), Plays tr ⟨d, l, []⟩ cs s ∧ cs.length ≤ most ∧ callN fs (n + 3) j [.pa (W L a), .sh (dl d), .sh (.int (l : Int)), .sh (oi tr), .sh (.int (most : Int))] = .ok (.val (hd cs)) [.pa (W L a'), .no, .no, .no, .no] := by
  have hzz := sizeL
  have hr : rngD [.int (most : Int)] = some ((List.range most).map nI) := rng_nat (by omega)
  have key : ∀ Q : RV → List Slot → Prop, (∀ (cs : List Card) (s : Sta) (a' : Nat), Plays tr ⟨d, l, []⟩ cs s → cs.length ≤ most → Q (.val (hd cs)) [.pa (W L a'), .no, .no, .no, .no]) → COk (callN fs (n + 3) j [.pa (W L a), .sh (dl d), .sh (.int (l : Int)), .sh (oi tr), .sh (.int (most : Int))]) Q := by
    intro Q hQ
    refine cok_call (n := n + 2) hf rfl ?_
    simp [B_rp_eq, w_for, hr, sizeL, stD_fold]
    obtain ⟨J, hJ⟩ : ∃ J : List Nat → En → Prop, ∀ pre e, J pre e ↔ ∃ (cs : List Card) (s : Sta) (a' : Nat) (s7 s8 s9 : Slot), (Plays tr ⟨d, l, []⟩ cs s ∧ cs.length = pre.length ∧ s.Small d.length) ∧
      e = [.pa (W L a'), .sh (dl d), .sh (.int (l : Int)), .sh (oi tr), .sh (.int (most : Int)), .sh (stD s), .sh (hd cs), s7, s8, s9] := ⟨_, fun _ _ => Iff.rfl⟩
    refine for_pre J ((hJ _ _).mpr ⟨[], ⟨d, l, []⟩, a, .no, .no, .no, ⟨.nil _, rfl, ⟨rfl, hd1, hd2, hd1⟩⟩, rfl⟩) (fun pre x suf e hx hj => ?_) (fun e hj => ?_)
    · obtain ⟨cs, s, a', s7, s8, s9, ⟨q1, q2, q3⟩, rfl⟩ := (hJ _ _).mp hj
      have hpl : pre.length < most := by
        have := congrArg List.length hx
        simp at this; omega
      have hne := q3.ne
      have tl := turn_lt hne
      have lt := lturn_ok (n := n + 1) h2 hne
      have da := dl_at tl
      rw [getD_at (d := ([] : List Card)) tl] at da
      have ll := llegal_ok (n := n + 1) h1 (h := nth s.hands s.turn []) (t := s.table)
      simp [rpB, ok_call, lt, da, ll]
      generalize hA : lgl (nth s.hands s.turn []) s.table = A at *
      by_cases hA0 : A = []
      · simp [hA0]
        exact hQ cs s a' q1 (by omega)
      · have hAl := List.length_pos_iff.mpr hA0
        obtain ⟨i, hi, hnx⟩ := nxt_nat (L := L) (a := a') (k := A.length) hAl
        have nx := next_ok (n := n + 1) (m := (A.length : Int)) (a := a') h3 (by omega) hL
        rw [hnx] at nx
        have at_ := hd_at hi
        have ad : binD .Add (hd cs) (hd [A[i]]) = some (.val (hd (cs ++ [A[i]]))) := add_hd (by simp; omega)
        have h7 := q3.len
        have h8 := q3.few
        have h9 := q3.tab
        have lp := lplayed_ok (n := n) (c := A[i]) (tr := tr) h4 h5 hne (by omega) (by omega)
        simp [hA0, ok_call, nx, at_, ad, lp, sizeL]
        exact (hJ _ _).mpr ⟨cs ++ [A[i]], (s.play A[i] tr).1, a' + 1, _, _, _, ⟨.snoc q1 (by rw [hA]; exact List.getElem_mem hi), by simp [q2], q3.play _ _⟩, rfl⟩
    · obtain ⟨cs, s, a', s7, s8, s9, ⟨q1, q2, q3⟩, rfl⟩ := (hJ _ _).mp hj
      rw [List.length_range] at q2
      simp
      exact hQ cs s a' q1 (by omega)
  obtain ⟨r, o, h1, cs, s, a', h2, h3, h4, h5⟩ := cok_iff.mp (key (fun r o => ∃ (cs : List Card) (s : Sta) (a' : Nat), Plays tr ⟨d, l, []⟩ cs s ∧ cs.length ≤ most ∧ r = .val (hd cs) ∧ o = [.pa (W L a'), .no, .no, .no, .no]) fun cs s a' h1 h2 => ⟨cs, s, a', h1, h2, rfl, rfl⟩)
  exact ⟨cs, s, a', h2, h3, by rw [h1, h4, h5]⟩
end
end Ev
/-! whole plays: how many cards each has -/
namespace Ev
open PySem PySem.W
/-- how far a player sits behind the leader -/
def off (p l i : Nat) : Nat := if l ≤ i then i - l else i + p - l
theorem mod_off {p l t : Nat} (h1 : l < p) (h2 : t < p) : off p l ((l + t) % p) = t := by
  unfold off
  by_cases h : l + t < p
  · rw [Nat.mod_eq_of_lt h]; split <;> omega
  · have : (l + t) % p = l + t - p := by
      rw [Nat.mod_eq_sub_mod (by omega), Nat.mod_eq_of_lt (by omega)]
    rw [this]; split <;> omega
theorem off_inj {p l i j : Nat} (h1 : l < p) (h2 : i < p) (h3 : j < p) (h : off p l i = off p l j) : i = j := by
  unfold off at h
  split at h <;> split at h <;> omega
theorem off_lt {p l i : Nat} (h1 : l < p) (h2 : i < p) : off p l i < p := by
  unfold off; split <;> omega
structure Sta.Fair (s : Sta) (p z : Nat) : Prop where
  small : s.Small p
  lead : s.leader < p
  nd : ∀ i, i < p → (nth s.hands i []).Nodup
  len : ∀ i, i < p → (nth s.hands i []).length + (if off p s.leader i < s.table.length then 1 else 0) = z
theorem nth_set {α : Type} {xs : List α} {k i : Nat} {x d : α} (hk : k < xs.length) : nth (xs.set k x) i d = if i = k then x else nth xs i d := by
  unfold nth
  by_cases e : k = i
  · subst e; rw [List.getElem?_set_self hk]; simp
  · rw [List.getElem?_set_ne e]
    have e' : ¬ i = k := fun z => e z.symm
    simp [e']
theorem lgl_sub {h t : List Card} {c : Card} (hc : c ∈ lgl h t) : c ∈ h := by
  unfold lgl at hc
  split at hc
  · exact hc
  · split at hc
    · exact (List.mem_filter.mp hc).1
    · exact hc
theorem lgl_ne {h t : List Card} (hh : h ≠ []) : lgl h t ≠ [] := by
  unfold lgl
  split
  · exact hh
  · split
    · assumption
    · exact hh
theorem lgl_len {h t : List Card} : (lgl h t).length ≤ h.length := by
  unfold lgl
  split
  · exact Nat.le_refl _
  · split
    · exact List.length_filter_le _ _
    · exact Nat.le_refl _
theorem Sta.Fair.turn_len {s : Sta} {p z : Nat} (f : s.Fair p z) : s.turn < p ∧ (nth s.hands s.turn []).length = z := by
  have h1 := f.small.len
  have h2 := turn_lt f.small.ne
  rw [h1] at h2
  refine ⟨h2, ?_⟩
  have := f.len s.turn h2
  have e : off p s.leader s.turn = s.table.length := by
    unfold Sta.turn; rw [h1]; exact mod_off f.lead f.small.tab
  rw [e, if_neg (Nat.lt_irrefl _)] at this
  exact this
theorem filter_len1 {h : List Card} {c : Card} (hn : h.Nodup) (hc : c ∈ h) : (h.filter fun x => decide (x ≠ c)).length = h.length - 1 := by
  rw [filter_ne hn, List.length_erase_of_mem hc]
theorem Sta.Fair.play {s : Sta} {p z : Nat} (f : s.Fair p z) {c : Card} (tr : Option Int) (hc : c ∈ nth s.hands s.turn []) :
    ∃ z', (s.play c tr).1.Fair p z' ∧ z' + (if s.table.length + 1 < p then 0 else 1) = z := by
  obtain ⟨t1, t2⟩ := f.turn_len
  have hl := f.small.len
  have htl : s.turn < s.hands.length := by omega
  have hz : 0 < z := by rw [← t2]; exact List.length_pos_of_mem hc
  have fl := filter_len1 (f.nd _ t1) hc
  have sm := f.small.play c tr
  have eo : off p s.leader s.turn = s.table.length := by
    unfold Sta.turn; rw [hl]; exact mod_off f.lead f.small.tab
  unfold Sta.play at sm ⊢
  by_cases hlt : s.table.length + 1 < s.hands.length
  · rw [if_pos hlt] at sm ⊢
    refine ⟨z, ⟨sm, f.lead, fun i hi => ?_, fun i hi => ?_⟩, by rw [if_pos (by omega)]; omega⟩
    · simp only []
      rw [nth_set htl]
      split
      · exact (f.nd _ t1).filter _
      · exact f.nd i hi
    · simp only [List.length_append, List.length_cons, List.length_nil]
      rw [nth_set htl]
      have := f.len i hi
      by_cases e : i = s.turn
      · subst e
        rw [if_pos rfl, fl, eo, if_pos (by omega)]; omega
      · rw [if_neg e, ← this]
        congr 1
        have ne : off p s.leader i ≠ s.table.length := fun q => e (off_inj f.lead hi t1 (q.trans eo.symm))
        by_cases q : off p s.leader i < s.table.length
        · rw [if_pos q, if_pos (by omega)]
        · rw [if_neg q, if_neg (by omega)]
  · rw [if_neg hlt] at sm ⊢
    have ht := f.small.tab
    refine ⟨z - 1, ⟨sm, ?_, fun i hi => ?_, fun i hi => ?_⟩, by rw [if_neg (by omega)]; omega⟩
    · simp only []
      rw [hl]; exact Nat.mod_lt _ f.small.pos
    · simp only []
      rw [nth_set htl]
      split
      · exact (f.nd _ t1).filter _
      · exact f.nd i hi
    · simp only [List.length_nil, Nat.not_lt_zero, if_false, Nat.add_zero]
      rw [nth_set htl]
      have := f.len i hi
      by_cases e : i = s.turn
      · subst e
        rw [if_pos rfl, fl, t2]
      · rw [if_neg e]
        have ne : off p s.leader i ≠ s.table.length := fun q => e (off_inj f.lead hi t1 (q.trans eo.symm))
        have := off_lt f.lead hi
        rw [if_pos (by omega)] at *
        omega
/-- how many cards are left -/
def Sta.left (s : Sta) : Nat := (s.hands.map List.length).sum
theorem sum_set : ∀ {xs : List Nat} {k x : Nat} (hk : k < xs.length), (xs.set k x).sum + xs[k] = xs.sum + x
  | [], _, _, hk => by simp at hk
  | y :: xs, 0, x, _ => by simp; omega
  | y :: xs, k + 1, x, hk => by
    have := sum_set (xs := xs) (k := k) (x := x) (by simpa using hk)
    simp at this ⊢; omega
theorem Sta.left_play {s : Sta} {p z : Nat} (f : s.Fair p z) {c : Card} (tr : Option Int) (hc : c ∈ nth s.hands s.turn []) : (s.play c tr).1.left + 1 = s.left := by
  obtain ⟨t1, t2⟩ := f.turn_len
  have hl := f.small.len
  have htl : s.turn < s.hands.length := by omega
  have fl := filter_len1 (f.nd _ t1) hc
  have hpos := List.length_pos_of_mem hc
  have e : (s.play c tr).1.hands = s.hands.set s.turn ((nth s.hands s.turn []).filter fun x => decide (x ≠ c)) := by unfold Sta.play; split <;> rfl
  unfold Sta.left
  rw [e, List.map_set]
  have := sum_set (xs := s.hands.map List.length) (k := s.turn) (x := ((nth s.hands s.turn []).filter fun x => decide (x ≠ c)).length) (by simpa using htl)
  rw [List.getElem_map, getD_at (d := ([] : List Card)) htl] at this
  omega
theorem sum_zero : ∀ {xs : List (List Card)}, (xs.map List.length).sum = 0 ↔ ∀ x ∈ xs, x = []
  | [] => by simp
  | x :: xs => by
    rw [List.map_cons, List.sum_cons]
    have := sum_zero (xs := xs)
    constructor
    · intro h
      have h1 : x = [] := List.eq_nil_of_length_eq_zero (by omega)
      intro y hy
      rcases List.mem_cons.mp hy with rfl | hy
      · exact h1
      · exact (this.mp (by omega)) y hy
    · intro h
      have h1 := this.mpr fun y hy => h y (List.mem_cons_of_mem _ hy)
      have h2 : x = [] := h x (List.mem_cons_self ..)
      rw [h2]; simp; omega
theorem Sta.Fair.over {s : Sta} {p z : Nat} (f : s.Fair p z) : s.over = decide (s.left = 0) := by
  unfold Sta.over
  by_cases h : s.left = 0
  · have h1 := sum_zero.mp h
    obtain ⟨t1, t2⟩ := f.turn_len
    have hl := f.small.len
    have h2 : (nth s.hands s.turn []) = [] := by
      rw [← getD_at (d := ([] : List Card)) (show s.turn < s.hands.length by omega)]
      exact h1 _ (List.getElem_mem _)
    have hz : z = 0 := by rw [← t2, h2]; rfl
    have ht : s.table = [] := by
      apply List.eq_nil_of_length_eq_zero
      have h3 := f.len s.leader f.lead
      have : off p s.leader s.leader = 0 := by unfold off; rw [if_pos (Nat.le_refl _)]; omega
      rw [this] at h3
      split at h3 <;> omega
    simp only [ht, h, decide_true, Bool.true_and, List.all_eq_true, decide_eq_true_eq]
    exact h1
  · simp only [h, decide_false, Bool.and_eq_false_iff, decide_eq_false_iff_not]
    right
    rw [List.all_eq_false]
    have : ¬ ∀ x ∈ s.hands, x = [] := fun q => h (sum_zero.mpr q)
    simp at this
    obtain ⟨x, h1, h2⟩ := this
    exact ⟨x, h1, by simpa using h2⟩
theorem nth_mem {d : List (List Card)} {i : Nat} (h : i < d.length) : nth d i [] ∈ d := by
  rw [← getD_at (d := ([] : List Card)) h]; exact List.getElem_mem h
theorem GoodDeal.nd {m k p z : Nat} {d : List (List Card)} (g : GoodDeal m k p z d) {h : List Card} (hh : h ∈ d) : h.Nodup := nodup_of_pw (g.pw h hh)
theorem GoodDeal.fair {m k p z l : Nat} {d : List (List Card)} (g : GoodDeal m k p z d) (hp : 0 < p) (hp2 : p ≤ 1000) (hl : l < p) : (Sta.mk d l []).Fair p z :=
  ⟨⟨g.len, hp, hp2, hp⟩, hl, fun i hi => g.nd (nth_mem (by rw [g.len]; exact hi)), fun i hi => by
    rw [g.size_ _ (nth_mem (by rw [g.len]; exact hi))]; simp⟩
theorem GoodDeal.left {m k p z l : Nat} {d : List (List Card)} (g : GoodDeal m k p z d) : (Sta.mk d l []).left = p * z := by
  unfold Sta.left
  have : d.map List.length = List.replicate d.length z := by
    rw [List.eq_replicate_iff]
    refine ⟨by simp, fun x hx => ?_⟩
    obtain ⟨h, h1, rfl⟩ := List.mem_map.mp hx
    exact g.size_ h h1
  rw [this, g.len]; simp [List.sum_replicate_nat]
end Ev
/-! draws as whole numbers from 0 on; what is told of states -/
namespace Ev
open PySem PySem.W
section
variable {fs : List Fd} {n j : Nat} {L : List Int}
theorem drw (hf : fs[j]? = some ⟨2, 2, bNext⟩) (hl : L.length ≤ 100000) (a : Nat) {m : Int} (k : Nat) (hm : m = (k : Int)) (hk : 0 < k) : ∃ i : Nat, i < k ∧ callN fs (n + 1) j [.pa (W L a), .sh (.int m)] = .ok (.val (.int (i : Int))) [.pa (W L (a + 1)), .no] := by
  subst hm
  obtain ⟨i, h1, h2⟩ := nxt_nat (L := L) (a := a) hk
  refine ⟨i, h1, ?_⟩
  rw [← h2]
  exact next_ok hf (by omega) hl
theorem pck_map {α : Type} {en : α → D} {xs : List α} {a : Nat} (h : xs ≠ []) : ∃ x ∈ xs, pck (xs.map en) L a = en x := by
  have hp := List.length_pos_iff.mpr h
  obtain ⟨i, hi, hnx⟩ := nxt_nat (L := L) (a := a) (k := xs.length) hp
  refine ⟨xs[i], List.getElem_mem hi, ?_⟩
  unfold pck
  rw [List.length_map, hnx]
  simp [hi]
theorem pickP {jn : Nat} (hf : fs[j]? = some ⟨2, 2, bPick jn⟩) (hn : fs[jn]? = some ⟨2, 2, bNext⟩) (hl : L.length ≤ 100000) (a : Nat) {α : Type} (en : α → D) {xs : List α} (h : xs ≠ []) : ∃ x ∈ xs, callN fs (n + 2) j [.pa (W L a), .pa (.lst (xs.map en))] = .ok (.val (en x)) [.pa (W L (a + 1)), .pa (.lst (xs.map en))] := by
  obtain ⟨x, h1, h2⟩ := pck_map (en := en) (L := L) (a := a) h
  refine ⟨x, h1, ?_⟩
  rw [← h2]
  exact pick_pa hf hn (by simpa using h) hl
theorem pickL {jn : Nat} (hf : fs[j]? = some ⟨2, 2, bPick jn⟩) (hn : fs[jn]? = some ⟨2, 2, bNext⟩) (hl : L.length ≤ 100000) (a : Nat) {α : Type} (en : α → D) {xs : List α} (h : xs ≠ []) : ∃ x ∈ xs, callN fs (n + 2) j [.pa (W L a), .sh (.list (xs.map en))] = .ok (.val (en x)) [.pa (W L (a + 1)), .no] := by
  obtain ⟨x, h1, h2⟩ := pck_map (en := en) (L := L) (a := a) h
  refine ⟨x, h1, ?_⟩
  rw [← h2]
  exact pick_list hf hn (by simpa using h) hl
theorem pickT {jn : Nat} (hf : fs[j]? = some ⟨2, 2, bPick jn⟩) (hn : fs[jn]? = some ⟨2, 2, bNext⟩) (hl : L.length ≤ 100000) (a : Nat) {α : Type} (en : α → D) {xs : List α} (h : xs ≠ []) : ∃ x ∈ xs, callN fs (n + 2) j [.pa (W L a), .sh (.tuple (xs.map en))] = .ok (.val (en x)) [.pa (W L (a + 1)), .no] := by
  obtain ⟨x, h1, h2⟩ := pck_map (en := en) (L := L) (a := a) h
  refine ⟨x, h1, ?_⟩
  rw [← h2]
  exact pick_tup hf hn (by simpa using h) hl
/-- None and the suits -/
def trs (m : Nat) : List (Option Int) := none :: (List.range m).map fun (k : Nat) => some (k : Int)
theorem trs_map (m : Nat) : PyData.none :: (List.range m).map nI = (trs m).map oi := by
  unfold trs
  rw [List.map_cons, List.map_map]; rfl
theorem trs_add {m : Nat} (h : m ≤ 1000) : binD .Add (.list [.none]) (.list ((List.range m).map nI)) = some (.new (.lst ((trs m).map oi))) := by
  have := sizeL
  rw [add_lst, if_pos (by simp; omega), ← trs_map]; rfl
end
theorem tame_st {s : Sta} (h1 : s.hands.length ≤ 1000) (h2 : ∀ h ∈ s.hands, h.length ≤ 1000) (h3 : s.table.length ≤ 1000) : tame 4 (stD s) = true := by
  have a1 := tame_mono (tame_dl (h := s.hands) (by omega) (fun x hx => by have := h2 x hx; omega)) (Nat.le_refl 3)
  have a2 := tame_mono (m := 3) (tame_hd (h := s.table) (by omega)) (by omega)
  have a3 : tame 3 (.int (s.leader : Int)) = true := rfl
  show (decide (([dl s.hands, .int (s.leader : Int), hd s.table] : List D).length ≤ sizeLine) && ([dl s.hands, .int (s.leader : Int), hd s.table] : List D).all (tame 3)) = true
  rw [Bool.and_eq_true, decide_eq_true_eq, sizeL]
  exact ⟨by show 3 ≤ 16777216; decide, by simp only [List.all_cons, List.all_nil, a1, a2, a3, Bool.and_self]⟩
theorem tame_pl {r : Sta × Option Nat} (h : tame 4 (stD r.1) = true) : tame 5 (plD r) = true := by
  have a3 : tame 4 (oN r.2) = true := by cases r.2 <;> rfl
  show (decide (([stD r.1, oN r.2] : List D).length ≤ sizeLine) && ([stD r.1, oN r.2] : List D).all (tame 4)) = true
  rw [Bool.and_eq_true, decide_eq_true_eq, sizeL]
  exact ⟨by show 2 ≤ 16777216; decide, by simp only [List.all_cons, List.all_nil, h, a3, Bool.and_self]⟩
/-- hands of a state stay small -/
theorem play_small {s : Sta} {c : Card} {tr : Option Int} (h2 : ∀ h ∈ s.hands, h.length ≤ 1000) (hne : s.hands ≠ []) : ∀ h ∈ (s.play c tr).1.hands, h.length ≤ 1000 := by
  have e : (s.play c tr).1.hands = s.hands.set s.turn ((nth s.hands s.turn []).filter fun x => decide (x ≠ c)) := by unfold Sta.play; split <;> rfl
  rw [e]
  intro h hh
  rcases List.mem_or_eq_of_mem_set hh with q | q
  · exact h2 h q
  · rw [q]
    exact Nat.le_trans (List.length_filter_le _ _) (h2 _ (nth_mem (turn_lt hne)))
/-- the law's box at its start -/
theorem W_start {L : List Int} : Ob.dct (dPut (dPut [] (.str "draws") (.list (L.map .int))) (.str "at") (.int 0)) = W L 0 := by
  simp [W, dPut]
end Ev
/-! data of any kind, without dicts; sorted the other way -/
namespace Ev
open PySem PySem.W
/-- no dict; tuples are short, and not deeper than n -/
def fr (L : Nat) : Nat → D → Bool
  | _, .none => true
  | _, .bool _ => true
  | _, .int _ => true
  | _, .str _ => true
  | _, .list xs => PyData.plainAll xs
  | n + 1, .tuple xs => decide (xs.length ≤ L) && xs.all (fr L n)
  | _, _ => false
theorem plainAll_iff : ∀ {xs : List D}, PyData.plainAll xs = true ↔ ∀ x ∈ xs, x.plain = true
  | [] => by simp [PyData.plainAll]
  | x :: xs => by rw [PyData.plainAll, Bool.and_eq_true, plainAll_iff]; simp
theorem fr_plain {L : Nat} : ∀ {n : Nat} {d : D}, fr L n d = true → d.plain = true
  | _, .none, _ => rfl
  | _, .bool _, _ => rfl
  | _, .int _, _ => rfl
  | _, .str _, _ => rfl
  | 0, .list xs, h => by
    have h : PyData.plainAll xs = true := h
    rw [PyData.plain]; exact h
  | _ + 1, .list xs, h => by
    have h : PyData.plainAll xs = true := h
    rw [PyData.plain]; exact h
  | n + 1, .tuple xs, h => by
    simp only [fr, Bool.and_eq_true, List.all_eq_true] at h
    rw [PyData.plain, plainAll_iff]
    exact fun x hx => fr_plain (h.2 x hx)
  | 0, .tuple xs, h => by simp [fr] at h
  | 0, .dict xs, h => by simp [fr] at h
  | _ + 1, .dict xs, h => by simp [fr] at h
theorem fr_isd {L n : Nat} {d : D} (h : fr L n d = true) : isDictD d = false := by
  cases d <;> first | rfl | (cases n <;> simp [fr] at h)
theorem fr_mono {L M : Nat} (hl : L ≤ M) : ∀ {n m : Nat} {d : D}, fr L n d = true → n ≤ m → fr M m d = true
  | _, _, .none, _, _ => by simp [fr]
  | _, _, .bool _, _, _ => by simp [fr]
  | _, _, .int _, _, _ => by simp [fr]
  | _, _, .str _, _, _ => by simp [fr]
  | 0, 0, .list xs, h, _ => h
  | 0, _ + 1, .list xs, h, _ => h
  | _ + 1, 0, .list xs, h, _ => h
  | _ + 1, _ + 1, .list xs, h, _ => h
  | n + 1, m + 1, .tuple xs, h, hm => by
    simp only [fr, Bool.and_eq_true, List.all_eq_true, decide_eq_true_eq] at h ⊢
    exact ⟨by omega, fun x hx => fr_mono hl (h.2 x hx) (by omega)⟩
  | n + 1, 0, .tuple xs, h, hm => by omega
  | 0, _, .tuple xs, h, _ => by simp [fr] at h
  | 0, _, .dict xs, h, _ => by simp [fr] at h
  | _ + 1, _, .dict xs, h, _ => by simp [fr] at h
theorem fr_cd (c : Card) : fr 2 1 (cd c) = true := rfl
theorem fr_hd {h : List Card} {L : Nat} (hl : h.length ≤ L) (h2 : 2 ≤ L) : fr L 2 (hd h) = true := by
  show (decide ((h.map cd).length ≤ L) && (h.map cd).all (fr L 1)) = true
  rw [Bool.and_eq_true, decide_eq_true_eq, List.length_map, List.all_eq_true]
  refine ⟨hl, fun x hx => ?_⟩
  obtain ⟨c, _, rfl⟩ := List.mem_map.mp hx
  exact fr_mono h2 (fr_cd c) (Nat.le_refl _)
theorem ne_nilT {xs : List D} (h : PyData.plainAll xs = true) : cmpD .NotEq (.tuple xs) (.tuple []) = some (decide (xs ≠ [])) := by
  rw [ne_D, if_pos (by unfold eqOk; simp [PyData.plain, h, PyData.plainAll, PyData.depth, PyData.depthAll])]
  cases xs <;> simp [PyData.eqv, PyData.eqvAll]
/-! ### sorted the other way -/
section
variable {α : Type} [DecidableEq α] [DatumOrd α] [DatumS α]
theorem srt_rev (xs : List α) : xs.mergeSort (fun a b => leT b a) = (srt xs).reverse := by
  have h1 : (xs.mergeSort (fun a b => leT b a)).Pairwise fun a b => leT b a = true :=
    List.pairwise_mergeSort (le := fun a b => leT b a) (fun a b c h k => leT_tr c b a k h) (fun a b => by rw [Bool.or_comm]; exact leT_tot a b) xs
  have h2 := List.pairwise_reverse.mpr h1
  have h3 : (xs.mergeSort (fun a b => leT b a)).reverse.Perm (srt xs) := ((List.reverse_perm _).trans (List.mergeSort_perm xs _)).trans (srt_perm xs).symm
  have h4 := pw_uni h3 (h2.imp fun h => h) (srt_pw xs)
  rw [← h4, List.reverse_reverse]
theorem ms_R {xs : List α} : (xs.map Datum.toD).mergeSort geD = (srt xs).reverse.map Datum.toD := by
  rw [← srt_rev]
  exact (List.map_mergeSort (fun a _ b _ => by unfold leT geD; rw [DatumOrd.lt_eq])).symm
theorem srtR_T {xs : List α} (hd : Datum.depth α ≤ 60 := by decide) : biD .sortedRev [.tuple (xs.map Datum.toD)] = some (.new (.lst ((srt xs).reverse.map Datum.toD))) := by
  show (if sortOk (xs.map Datum.toD) then some (RV.new (.lst ((xs.map Datum.toD).mergeSort geD))) else none) = _
  rw [if_pos (sortOk_T hd), ms_R]
theorem srtR_L {xs : List α} (hd : Datum.depth α ≤ 60 := by decide) : biD .sortedRev [.list (xs.map Datum.toD)] = some (.new (.lst ((srt xs).reverse.map Datum.toD))) := by
  show (if sortOk (xs.map Datum.toD) then some (RV.new (.lst ((xs.map Datum.toD).mergeSort geD))) else none) = _
  rw [if_pos (sortOk_T hd), ms_R]
end
/-- rows of whole numbers from 0 on, sorted -/
theorem nI_int (xs : List Nat) : xs.map nI = (xs.map fun (k : Nat) => (k : Int)).map (Datum.toD (α := Int)) := by rw [List.map_map]; rfl
end Ev
/-! the greatest and the least of typed rows; index and count of tuples; slices of any row -/
namespace Ev
open PySem PySem.W
section
variable {α : Type} [DecidableEq α] [DatumOrd α]
def maxL (x : α) (xs : List α) : α := xs.foldl (fun m y => if DatumOrd.lt m y then y else m) x
def minL (x : α) (xs : List α) : α := xs.foldl (fun m y => if DatumOrd.lt y m then y else m) x
theorem alikeB_T {xs : List α} (hd : Datum.depth α ≤ 60) : alikeB (xs.map Datum.toD) = true := by
  have := depthAll_map xs
  unfold alikeB
  simp only [Bool.and_eq_true, decide_eq_true_eq, plainAll_map, true_and, and_true, List.all_eq_true, List.mem_map, Bool.not_eq_true']
  refine ⟨⟨?_, ?_⟩, by omega⟩
  · rintro _ ⟨a, _, rfl⟩ _ ⟨b, _, rfl⟩; exact DatumOrd.alike a b
  · rintro _ ⟨a, _, rfl⟩
    have := DatumOrd.notNone a
    cases h : Datum.toD a <;> first | rfl | exact absurd h this
theorem maxD_T : ∀ (xs : List α) (x : α), maxD (Datum.toD x) (xs.map Datum.toD) = Datum.toD (maxL x xs)
  | [], x => rfl
  | y :: ys, x => by
    have e : maxD (Datum.toD x) ((y :: ys).map Datum.toD) = maxD (if dataLt (Datum.toD x) (Datum.toD y) then Datum.toD y else Datum.toD x) (ys.map Datum.toD) := rfl
    have e2 : maxL x (y :: ys) = maxL (if DatumOrd.lt x y then y else x) ys := rfl
    rw [e, e2, DatumOrd.lt_eq]
    split <;> exact maxD_T ys _
theorem minD_T : ∀ (xs : List α) (x : α), minD (Datum.toD x) (xs.map Datum.toD) = Datum.toD (minL x xs)
  | [], x => rfl
  | y :: ys, x => by
    have e : minD (Datum.toD x) ((y :: ys).map Datum.toD) = minD (if dataLt (Datum.toD y) (Datum.toD x) then Datum.toD y else Datum.toD x) (ys.map Datum.toD) := rfl
    have e2 : minL x (y :: ys) = minL (if DatumOrd.lt y x then y else x) ys := rfl
    rw [e, e2, DatumOrd.lt_eq]
    split <;> exact minD_T ys _
theorem max_TL {x : α} {xs : List α} (hd : Datum.depth α ≤ 60 := by decide) : biD .max [.list ((x :: xs).map Datum.toD)] = some (.val (Datum.toD (maxL x xs))) := by
  rw [← maxD_T]
  exact if_pos (alikeB_T (xs := x :: xs) hd)
theorem max_TT {x : α} {xs : List α} (hd : Datum.depth α ≤ 60 := by decide) : biD .max [.tuple ((x :: xs).map Datum.toD)] = some (.val (Datum.toD (maxL x xs))) := by
  rw [← maxD_T]
  exact if_pos (alikeB_T (xs := x :: xs) hd)
theorem min_TL {x : α} {xs : List α} (hd : Datum.depth α ≤ 60 := by decide) : biD .min [.list ((x :: xs).map Datum.toD)] = some (.val (Datum.toD (minL x xs))) := by
  rw [← minD_T]
  exact if_pos (alikeB_T (xs := x :: xs) hd)
theorem min_TT {x : α} {xs : List α} (hd : Datum.depth α ≤ 60 := by decide) : biD .min [.tuple ((x :: xs).map Datum.toD)] = some (.val (Datum.toD (minL x xs))) := by
  rw [← minD_T]
  exact if_pos (alikeB_T (xs := x :: xs) hd)
theorem maxL_mem : ∀ (xs : List α) (x : α), maxL x xs ∈ x :: xs
  | [], x => by simp [maxL]
  | y :: ys, x => by
    have e2 : maxL x (y :: ys) = maxL (if DatumOrd.lt x y then y else x) ys := rfl
    rw [e2]
    split
    · exact List.mem_cons_of_mem _ (maxL_mem ys y)
    · rcases List.mem_cons.mp (maxL_mem ys x) with h | h
      · rw [h]; exact List.mem_cons_self ..
      · exact List.mem_cons_of_mem _ (List.mem_cons_of_mem _ h)
theorem maxL_ge : ∀ (xs : List α) (x : α), ∀ y ∈ x :: xs, DatumOrd.lt (maxL x xs) y = false
  | [], x, y, h => by
    obtain rfl : y = x := by simpa using h
    exact lt_irr _
  | z :: zs, x, y, h => by
    have e2 : maxL x (z :: zs) = maxL (if DatumOrd.lt x z then z else x) zs := rfl
    rw [e2]
    have self := maxL_ge zs (if DatumOrd.lt x z then z else x) _ (List.mem_cons_self ..)
    rcases List.mem_cons.mp h with rfl | h
    · split at self
      · rename_i hl
        rw [if_pos hl]
        cases q : DatumOrd.lt (maxL z zs) y with
        | false => rfl
        | true => rw [lt_tr q hl] at self; exact self
      · rename_i hl
        rw [if_neg hl]; exact self
    · rcases List.mem_cons.mp h with rfl | h
      · split at self
        · rename_i hl; rw [if_pos hl]; exact self
        · rename_i hl
          rw [if_neg hl]
          rcases lt_neg (Bool.eq_false_iff.mpr hl) with e | e
          · rw [← e]; exact self
          · cases q : DatumOrd.lt (maxL x zs) y with
            | false => rfl
            | true => rw [lt_tr q e] at self; exact self
      · exact maxL_ge zs _ y (List.mem_cons_of_mem _ h)
/-- the greatest of whole numbers -/
theorem maxL_int {xs : List Int} {x : Int} : ∀ y ∈ x :: xs, y ≤ maxL x xs := fun y hy => by
  have := maxL_ge xs x y hy
  have : decide (maxL x xs < y) = false := this
  rw [decide_eq_false_iff_not] at this
  omega
end
section
variable {α : Type} [DecidableEq α] [Datum α]
theorem idx_TT {x : α} {xs : List α} (h : x ∈ xs) (hd : Datum.depth α ≤ 60 := by decide) : pureM .index (.val (.tuple (xs.map Datum.toD))) [Datum.toD x] = some (.val (.int (xs.idxOf x : Nat))) := by
  have := Datum.depth_le x
  show (if PyData.plainAll (xs.map Datum.toD) && (Datum.toD x).plain && decide (min (PyData.depthAll (xs.map Datum.toD)) (Datum.toD x).depth ≤ 60) then (PySem.SeqAt.dataPlace (xs.map Datum.toD) (Datum.toD x)).map fun (j : Nat) => RV.val (.int j) else none) = _
  rw [if_pos (by simp only [plainAll_map, Datum.plain, Bool.and_self, Bool.true_and, decide_eq_true_eq]; omega), place_T h, Option.map_some]
theorem cnt_TT {x : α} {xs : List α} (hd : Datum.depth α ≤ 60 := by decide) : pureM .count (.val (.tuple (xs.map Datum.toD))) [Datum.toD x] = some (.val (.int (xs.count x : Nat))) := by
  have := Datum.depth_le x
  show (if PyData.plainAll (xs.map Datum.toD) && (Datum.toD x).plain && decide (min (PyData.depthAll (xs.map Datum.toD)) (Datum.toD x).depth ≤ 60) then some (RV.val (.int ((xs.map Datum.toD).countP fun y => PyData.eqv y (Datum.toD x) : Nat))) else none) = _
  rw [if_pos (by simp only [plainAll_map, Datum.plain, Bool.and_self, Bool.true_and, decide_eq_true_eq]; omega), count_T]
theorem cnt_TL {x : α} {xs : List α} (hd : Datum.depth α ≤ 60 := by decide) : pureM .count (.new (.lst (xs.map Datum.toD))) [Datum.toD x] = some (.val (.int (xs.count x : Nat))) := by
  have := Datum.depth_le x
  show (if PyData.plainAll (xs.map Datum.toD) && (Datum.toD x).plain && decide (min (PyData.depthAll (xs.map Datum.toD)) (Datum.toD x).depth ≤ 60) then some (RV.val (.int ((xs.map Datum.toD).countP fun y => PyData.eqv y (Datum.toD x) : Nat))) else none) = _
  rw [if_pos (by simp only [plainAll_map, Datum.plain, Bool.and_self, Bool.true_and, decide_eq_true_eq]; omega), count_T]
end
@[simp] theorem kind_vtup {xs : List D} : kindR (.val (.tuple xs)) = .tuple := (rfl)
/-- the first of the rows with the greatest first part -/
def grt {β : Type} (r : Int × β) (rs : List (Int × β)) : Int × β := rs.foldl (fun b r => if b.1 < r.1 then r else b) r
theorem grt_max {β : Type} : ∀ (rs : List (Int × β)) (r : Int × β), (grt r rs).1 = maxL r.1 (rs.map (·.1))
  | [], r => rfl
  | q :: rs, r => by
    have e1 : grt r (q :: rs) = grt (if r.1 < q.1 then q else r) rs := rfl
    have e2 : maxL r.1 ((q :: rs).map (·.1)) = maxL (if DatumOrd.lt r.1 q.1 then q.1 else r.1) (rs.map (·.1)) := rfl
    rw [e1, e2, grt_max]
    have : DatumOrd.lt r.1 q.1 = decide (r.1 < q.1) := rfl
    rw [this]
    by_cases h : r.1 < q.1 <;> simp [h]
theorem grt_ge {β : Type} (rs : List (Int × β)) (r : Int × β) : ∀ q ∈ r :: rs, q.1 ≤ (grt r rs).1 := fun q hq => by
  rw [grt_max]
  refine maxL_int _ ?_
  rcases List.mem_cons.mp hq with rfl | h
  · exact List.mem_cons_self ..
  · exact List.mem_cons_of_mem _ (List.mem_map_of_mem h)
theorem grt_first {β : Type} : ∀ (rs : List (Int × β)) (r : Int × β), ∃ t, (r :: rs).filter (fun q => decide (q.1 = (grt r rs).1)) = grt r rs :: t
  | [], r => ⟨[], by simp [grt]⟩
  | q :: rs, r => by
    have e1 : grt r (q :: rs) = grt (if r.1 < q.1 then q else r) rs := rfl
    rw [e1]
    by_cases h : r.1 < q.1
    · rw [if_pos h]
      obtain ⟨t, ht⟩ := grt_first rs q
      have := grt_ge rs q q (List.mem_cons_self ..)
      refine ⟨t, ?_⟩
      rw [List.filter_cons, if_neg (by simp; omega), ht]
    · rw [if_neg h]
      obtain ⟨t, ht⟩ := grt_first rs r
      by_cases e : r.1 = (grt r rs).1
      · rw [List.filter_cons, if_pos (by simpa using e)] at ht ⊢
        obtain ⟨h1, h2⟩ := List.cons.inj ht
        refine ⟨(q :: rs).filter fun x => decide (x.1 = (grt r rs).1), ?_⟩
        rw [← h1]
      · rw [List.filter_cons, if_neg (by simpa using e)] at ht ⊢
        have := grt_ge rs r r (List.mem_cons_self ..)
        refine ⟨t, ?_⟩
        rw [List.filter_cons, if_neg (by simp; omega), ht]
@[simp] theorem bind_cdS {i j : Nat} {c : Card} {e : En} {Q : Unit → En → Prop} : Ok (bindT (.tup (.cons (.name i) (.cons (.name j) .nil))) (cd c) e) Q = (i < e.length ∧ j < (e.set i (.sh (.int c.1))).length ∧ Q () ((e.set i (.sh (.int c.1))).set j (.sh (.int c.2)))) := by
  show Ok (bindT (.tup (.cons (.name i) (.cons (.name j) .nil))) (.tuple [.int c.1, .int c.2]) e) Q = _
  simp only [ok_bindTT, ok_bindTc, ok_bindN, ok_bindT0]
theorem ints_fn {α : Type} {f : α → Int} : ∀ xs : List α, intsD (xs.map fun x => .int (f x)) = some (xs.map f)
  | [] => rfl
  | x :: xs => by rw [List.map_cons, intsD, ints_fn xs]; rfl
theorem cnt_VL {α : Type} [DecidableEq α] [Datum α] {x : α} {xs : List α} (hd : Datum.depth α ≤ 60 := by decide) : pureM .count (.val (.list (xs.map Datum.toD))) [Datum.toD x] = some (.val (.int (xs.count x : Nat))) := cnt_TL hd
theorem idx_VL {α : Type} [DecidableEq α] [Datum α] {x : α} {xs : List α} (h : x ∈ xs) (hd : Datum.depth α ≤ 60 := by decide) : pureM .index (.val (.list (xs.map Datum.toD))) [Datum.toD x] = some (.val (.int (xs.idxOf x : Nat))) := idx_T h hd
/-- a loop turn by turn -/
theorem for_cons {f : D → M Fl} {Q : Fl → En → Prop} {d : D} {ds : List D} {e : En} : Ok (forLoop f (d :: ds) e) Q = Ok (f d e) (turn Q fun e1 => Ok (forLoop f ds e1) Q) := by
  have : forLoop f (d :: ds) e = (match f d e with
    | .ok .nx e' => forLoop f ds e'
    | .ok .cnt e' => forLoop f ds e'
    | .ok .brk e' => .ok .nx e'
    | .ok (.ret o) e' => .ok (.ret o) e'
    | .er x e' => .er x e') := rfl
  rw [this]
  cases f d e with
  | er x e1 => rfl
  | ok fl e1 => cases fl <;> rfl
theorem for_nil {f : D → M Fl} {Q : Fl → En → Prop} {e : En} : Ok (forLoop f [] e) Q = Q .nx e := (rfl)
/-! ### comprehensions that draw -/
theorem rest_set {e : En} {own : List Nat} {i : Nat} {s : Slot} (h : i ∉ own) : restE e ((wipeE e own).set i s) own = e.set i s := by
  have hin : ∀ (vs : List Nat) (x : En) (j : Nat), (restE e (x.set i s) vs)[j]? = if j ∈ vs ∧ j < x.length then some (e[j]?.getD .no) else (x.set i s)[j]? := by
    intro vs
    induction vs with
    | nil => intro x j; simp [restE]
    | cons v vs ih =>
      intro x j
      have hl : ∀ (ws : List Nat) (x : En), (restE e x ws).length = x.length := by
        intro ws x
        induction ws with
        | nil => rfl
        | cons w ws ih => unfold restE; rw [List.length_set, ih]
      unfold restE
      rw [List.getElem?_set, ih, hl, List.length_set]
      by_cases hv : v = j
      · subst hv
        by_cases hj : v < x.length
        · simp [hj]
        · simp [hj]
      · rw [if_neg hv]
        have : (j ∈ v :: vs ∧ j < x.length) ↔ (j ∈ vs ∧ j < x.length) := by
          rw [List.mem_cons]
          exact ⟨fun ⟨q1, q2⟩ => ⟨q1.resolve_left fun z => hv z.symm, q2⟩, fun ⟨q1, q2⟩ => ⟨.inr q1, q2⟩⟩
        by_cases h1 : j ∈ vs ∧ j < x.length
        · rw [if_pos h1, if_pos (this.mpr h1)]
        · rw [if_neg h1, if_neg (fun z => h1 (this.mp z))]
  have wl : ∀ (ws : List Nat), (wipeE e ws).length = e.length := by
    intro ws
    induction ws with
    | nil => rfl
    | cons w ws ih => unfold wipeE; rw [List.length_set, ih]
  have wout : ∀ (ws : List Nat) (j : Nat), j ∉ ws → (wipeE e ws)[j]? = e[j]? := by
    intro ws
    induction ws with
    | nil => intro j _; rfl
    | cons w ws ih =>
      intro j hj
      unfold wipeE
      rw [List.getElem?_set_ne (by rintro rfl; exact hj (List.mem_cons_self ..))]
      exact ih j fun z => hj (List.mem_cons_of_mem _ z)
  apply List.ext_getElem?
  intro j
  rw [hin, wl]
  by_cases hj : j ∈ own ∧ j < e.length
  · rw [if_pos hj, List.getElem?_set_ne (by rintro rfl; exact h hj.1), List.getElem?_eq_getElem hj.2]; rfl
  · rw [if_neg hj]
    by_cases hi : i = j
    · subst hi
      rw [List.getElem?_set, List.getElem?_set, wl]; simp
    · rw [List.getElem?_set_ne hi, List.getElem?_set_ne hi]
      by_cases ho : j ∈ own
      · have : ¬ j < e.length := fun z => hj ⟨ho, z⟩
        rw [List.getElem?_eq_none (by rw [wl]; omega), List.getElem?_eq_none (by omega)]
      · exact wout own j ho
/-- [.. for x in xs], each turn draws from the box at i -/
theorem comp_dr {α β : Type} {en : α → D} {dn : β → D} {xs : List α} {L : List Int} {a : Nat} {e : En} {own : List Nat} {f : D → M (Option D)} {Q : Opd → En → Prop} (i : Nat) (P : α → β → Prop) (hn : (own.all fun i => notOwned (e[i]?.getD .no)) = true) (hi : i ∉ own) (he : (wipeE e own)[i]? = some (.ow (W L a)))
    (step : ∀ x ∈ xs, ∀ a, Ok (f (en x) ((wipeE e own).set i (.ow (W L a)))) fun y e1 => ∃ (a' : Nat) (z : β), P x z ∧ y = some (dn z) ∧ wipeE e1 own = (wipeE e own).set i (.ow (W L a')))
    (fin : ∀ a (zs : List β), zs.length = xs.length → (∀ k (h : k < xs.length) (h2 : k < zs.length), P xs[k] zs[k]) → Q (.new (.lst (zs.map dn))) (e.set i (.ow (W L a)))) : Ok (compM own f (xs.map en) e) Q := by
  have self : (wipeE e own).set i (.ow (W L a)) = wipeE e own := by
    apply List.ext_getElem?
    intro j
    by_cases h : i = j
    · subst h
      rw [List.getElem?_set_self (List.getElem?_eq_some_iff.mp he).1, he]
    · rw [List.getElem?_set_ne h]
  refine comp_pre (fun pre acc e1 => ∃ (a : Nat) (zs : List β), zs.length = pre.length ∧ (∀ k (h : k < pre.length) (h2 : k < zs.length), P pre[k] zs[k]) ∧ acc = zs.map dn ∧ e1 = (wipeE e own).set i (.ow (W L a))) hn ⟨a, [], rfl, fun k h => by simp at h, rfl, self.symm⟩ ?_ ?_
  · rintro pre x suf acc e1 hx ⟨a, zs, h1, h2, rfl, rfl⟩
    refine (step x (by rw [hx]; simp) a).mono ?_
    rintro y e2 ⟨a', z, hp, rfl, h3⟩
    refine ⟨a', zs ++ [z], by simp [h1], fun k hk hk2 => ?_, by simp, h3⟩
    by_cases hkk : k < pre.length
    · rw [List.getElem_append_left hkk, List.getElem_append_left (by omega)]
      exact h2 k hkk _
    · have : k = pre.length := by simp at hk; omega
      subst this
      rw [List.getElem_append_right (by omega), List.getElem_append_right (by omega)]
      simpa [h1] using hp
  · rintro acc e1 ⟨a, zs, h1, h2, rfl, rfl⟩
    rw [rest_set hi]
    exact fin a zs h1 h2
theorem range_split' {N : Nat} {pre suf : List Nat} {x : Nat} (h : List.range N = pre ++ x :: suf) : x = pre.length ∧ x < N ∧ pre = List.range x := by
  have h1 : (List.range N)[pre.length]? = some x := by rw [h, List.getElem?_append_right (Nat.le_refl _)]; simp
  have h2 : pre.length < N := by
    have := congrArg List.length h
    simp at this; omega
  rw [List.getElem?_range h2] at h1
  simp at h1
  refine ⟨h1.symm, by omega, ?_⟩
  have := congrArg (List.take pre.length) h
  rw [List.take_left', List.take_range] at this
  · rw [← this, ← h1]; congr 1; omega
  · rfl
end Ev
/-! dicts and sets in plain words -/
namespace Ev
open PySem PySem.W
section
variable {α : Type} [DecidableEq α]
/-- each once, by its first place -/
def dedup (xs : List α) : List α := xs.foldl (fun acc x => if x ∈ acc then acc else acc ++ [x]) []
theorem dedup_acc : ∀ (xs acc : List α), acc.Nodup → (xs.foldl (fun acc x => if x ∈ acc then acc else acc ++ [x]) acc).Nodup ∧ (∀ y, y ∈ xs.foldl (fun acc x => if x ∈ acc then acc else acc ++ [x]) acc ↔ y ∈ acc ∨ y ∈ xs)
  | [], acc, h => ⟨h, fun y => by simp⟩
  | x :: xs, acc, h => by
    rw [List.foldl_cons]
    split
    · rename_i hx
      obtain ⟨h1, h2⟩ := dedup_acc xs acc h
      refine ⟨h1, fun y => ?_⟩
      rw [h2, List.mem_cons]
      constructor
      · rintro (q | q)
        · exact .inl q
        · exact .inr (.inr q)
      · rintro (q | rfl | q)
        · exact .inl q
        · exact .inl hx
        · exact .inr q
    · rename_i hx
      obtain ⟨h1, h2⟩ := dedup_acc xs (acc ++ [x]) (by
        rw [List.nodup_append]
        refine ⟨h, by simp, fun a ha b hb => ?_⟩
        simp at hb
        subst hb
        rintro rfl
        exact hx ha)
      refine ⟨h1, fun y => ?_⟩
      rw [h2, List.mem_append, List.mem_singleton, List.mem_cons, or_assoc]
theorem dedup_nodup (xs : List α) : (dedup xs).Nodup := (dedup_acc xs [] .nil).1
theorem mem_dedup {xs : List α} {y : α} : y ∈ dedup xs ↔ y ∈ xs := by
  have := (dedup_acc xs [] .nil).2 y
  simpa [dedup] using this
theorem dedup_of : ∀ (xs acc : List α), (acc ++ xs).Nodup → xs.foldl (fun acc x => if x ∈ acc then acc else acc ++ [x]) acc = acc ++ xs
  | [], acc, _ => by simp
  | x :: xs, acc, h => by
    have hx : x ∉ acc := fun q => by
      rw [List.nodup_append] at h
      exact h.2.2 x q x List.mem_cons_self rfl
    rw [List.foldl_cons, if_neg hx, dedup_of xs (acc ++ [x]) (by simpa using h)]
    simp
theorem dedup_id {xs : List α} (h : xs.Nodup) : dedup xs = xs := by simpa [dedup] using dedup_of xs [] (by simpa using h)
theorem dedup_le : ∀ (xs acc : List α), (xs.foldl (fun acc x => if x ∈ acc then acc else acc ++ [x]) acc).length ≤ acc.length + xs.length
  | [], acc => by simp
  | x :: xs, acc => by
    rw [List.foldl_cons]
    split
    · have := dedup_le xs acc; simp; omega
    · have := dedup_le xs (acc ++ [x]); simp at this ⊢; omega
theorem dedup_lt : ∀ (xs acc : List α), ¬ (acc ++ xs).Nodup → acc.Nodup → (xs.foldl (fun acc x => if x ∈ acc then acc else acc ++ [x]) acc).length < acc.length + xs.length
  | [], acc, h, h' => absurd (by simpa using h') h
  | x :: xs, acc, h, h' => by
    rw [List.foldl_cons]
    split
    · have := dedup_le xs acc; simp; omega
    · rename_i hx
      have := dedup_lt xs (acc ++ [x]) (by simpa using h) (by
        rw [List.nodup_append]
        refine ⟨h', by simp, fun a ha b hb => ?_⟩
        simp at hb
        subst hb
        rintro rfl
        exact hx ha)
      simp at this ⊢; omega
/-- a row's things are all different just if none is lost -/
theorem dedup_len {xs : List α} : (dedup xs).length = xs.length ↔ xs.Nodup := by
  constructor
  · intro h
    refine Classical.byContradiction fun q => ?_
    have := dedup_lt xs [] (by simpa using q) .nil
    simp [dedup] at h this
    omega
  · intro h; rw [dedup_id h]
end
theorem setLen_eq {ns : List Int} : setLen ns = (dedup ns).length := by
  unfold setLen PyProof.Rows.firstMet dedup
  have e : (List.range ns.length).map (fun i => ns.getD i 0) = ns := by
    apply List.ext_getElem
    · simp
    · intro i h1 h2; simp [h2]
  rw [e]
  congr 1
  congr 1
  funext acc x
  unfold PyProof.Rows.step_dedup
  have : acc.any (· == x) = decide (x ∈ acc) := by
    rw [Bool.eq_iff_iff]; simp
  rw [this]
  simp
/-! dict([(x, v) ..]) -/
theorem pairsD_map {α : Type} {en : α → D} {v : D} : ∀ xs : List α, pairsD (xs.map fun x => .tuple [en x, v]) = some (xs.map fun x => (en x, v))
  | [] => rfl
  | x :: xs => by rw [List.map_cons, pairsD, pairsD_map xs]; rfl
theorem put_all {α : Type} [DecidableEq α] {v : D} {put : List (D × D) → D → D → List (D × D)} {en : α → D} (h1 : ∀ acc : List α, ∀ x, put (acc.map fun x => (en x, v)) (en x) v = (if x ∈ acc then acc else acc ++ [x]).map fun x => (en x, v)) :
    ∀ (xs acc : List α), (xs.map fun x => (en x, v)).foldl (fun acc p => put acc p.1 p.2) (acc.map fun x => (en x, v)) = (xs.foldl (fun acc x => if x ∈ acc then acc else acc ++ [x]) acc).map fun x => (en x, v)
  | [], _ => rfl
  | x :: xs, acc => by
    rw [List.map_cons, List.foldl_cons, List.foldl_cons, ← put_all h1 xs]
    rw [h1]
theorem dput_const {α : Type} [DecidableEq α] {v : D} {en : α → D} (h : ∀ x y, sameKey (en x) (en y) = decide (x = y)) (acc : List α) (x : α) : dPut (acc.map fun x => (en x, v)) (en x) v = (if x ∈ acc then acc else acc ++ [x]).map fun x => (en x, v) := by
  unfold dPut
  have e : ((acc.map fun x => (en x, v)).any fun p => sameKey p.1 (en x)) = decide (x ∈ acc) := by
    rw [List.any_map, Bool.eq_iff_iff]
    simp [h]
  rw [e]
  by_cases q : x ∈ acc
  · simp [q, List.map_map, Function.comp_def]
  · simp [q]
theorem tput_const {α : Type} [DecidableEq α] {v : D} {en : α → D} (h : ∀ x y, (keyT (en x) = keyT (en y)) ↔ x = y) (acc : List α) (x : α) : tPut (acc.map fun x => (en x, v)) (en x) v = (if x ∈ acc then acc else acc ++ [x]).map fun x => (en x, v) := by
  unfold tPut
  have e : ((acc.map fun x => (en x, v)).any fun p => decide (keyT p.1 = keyT (en x))) = decide (x ∈ acc) := by
    rw [List.any_map, Bool.eq_iff_iff]
    simp [h]
  rw [e]
  by_cases q : x ∈ acc
  · simp [q, List.map_map, Function.comp_def]
  · simp [q]
theorem dict_I {ns : List Int} {v : D} : biD .dict [.list (ns.map fun n => .tuple [.int n, v])] = some (.new (.dct ((dedup ns).map fun n => (.int n, v)))) := by
  show (dictP _).map RV.new = _
  unfold dictP
  rw [pairsD_map]
  show (if ((ns.map fun n => (PyData.int n, v)).all fun p => (keyD p.1).isSome) = true then _ else _ : Option Ob).map RV.new = _
  rw [if_pos (by simp [List.all_map])]
  have := put_all (put := dPut) (dput_const (α := Int) (v := v) (en := .int) (fun x y => rfl)) ns []
  rw [List.map_nil] at this
  rw [this]; rfl
theorem dict_fI {α : Type} {xs : List α} {v : D} (f : α → Int) : biD .dict [.list (xs.map fun x => .tuple [.int (f x), v])] = some (.new (.dct ((dedup (xs.map f)).map fun n => (.int n, v)))) := by
  rw [← dict_I (ns := xs.map f), List.map_map]; rfl
theorem sorted_dI {ks : List Int} {v : D} : biD .sorted [.dict (ks.map fun n => (.int n, v))] = some (.new (.lst ((srt ks).map .int))) := by
  show (if sortOk ((ks.map fun n => (PyData.int n, v)).map (·.1)) = true then some (RV.new (.lst (((ks.map fun n => (PyData.int n, v)).map (·.1)).mergeSort leD))) else none) = _
  have e : (ks.map fun n => (PyData.int n, v)).map (·.1) = ks.map (Datum.toD (α := Int)) := by rw [List.map_map]; rfl
  rw [e, if_pos (sortOk_T (by decide)), ms_T]; rfl
theorem dict_T {α : Type} [DecidableEq α] {xs : List α} {en : α → D} {v : D} (hne : xs ≠ []) (hk : ∀ x, (keyT (en x)).isSome = true) (hd : ∀ x, keyD (en x) = none) (h : ∀ x y, (keyT (en x) = keyT (en y)) ↔ x = y) : biD .dict [.list (xs.map fun x => .tuple [en x, v])] = some (.new (.dic ((dedup xs).map fun x => (en x, v)))) := by
  show (dictP _).map RV.new = _
  unfold dictP
  rw [pairsD_map]
  show (if ((xs.map fun n => (en n, v)).all fun p => (keyD p.1).isSome) = true then _ else if ((xs.map fun n => (en n, v)).all fun p => (keyT p.1).isSome) = true then _ else _ : Option Ob).map RV.new = _
  rw [if_neg (by cases xs with | nil => exact absurd rfl hne | cons x xs => simp [hd]), if_pos (by simp [List.all_map, hk])]
  have := put_all (put := tPut) (tput_const (v := v) h) xs []
  rw [List.map_nil] at this
  rw [this]; rfl
section
variable {cf : Nat → List Slot → CR} {e : En} {Q : Opd → En → Prop}
@[simp] theorem w_fn {f : Fn} {a : ME} : Ok (evE cf (.fn f a) e) Q = Ok (evE cf a e) fun x e1 => oS (vw x e1) fun r => oS (fnR f r) fun rv => Q rv.op e1 := by simp [evE]
@[simp] theorem w_dnew : Ok (evE cf .dnew e) Q = Q (.new (.dct [])) e := by simp [evE]
@[simp] theorem fn_lenSet {xs : List D} : fnR .lenSet (.new (.lst xs)) = (intsD xs).bind fun ns => if ns.length ≤ 4000 then some (.val (.int (setLen ns))) else none := (rfl)
@[simp] theorem fn_lenSetV {xs : List D} : fnR .lenSet (.val (.list xs)) = (intsD xs).bind fun ns => if ns.length ≤ 4000 then some (.val (.int (setLen ns))) else none := (rfl)
@[simp] theorem fn_isd1 {kvs : List (D × D)} : fnR .isDict (.new (.dct kvs)) = some (.val (.bool true)) := (rfl)
@[simp] theorem fn_isd2 {kvs : List (D × D)} : fnR .isDict (.new (.dic kvs)) = some (.val (.bool true)) := (rfl)
@[simp] theorem len_dict {kvs : List (D × D)} : biD .len [.dict kvs] = some (.val (.int kvs.length)) := (rfl)
end
end Ev
namespace Lw
open PySem Ev
def B_cards_out_1 : MSs := (.cons (.ife (.tr (.cmp .NotEq (.v 4) (.v 2))) (.cons (.expr (.meth .extend (.v 3) (.cons (.comp [5] (.name 5) (.seq (.ix (.v 0) (.v 4))) (.some (.tr (.cmp .NotIn (.v 5) (.v 1)))) (.v 5)) .nil))) .nil) .nil) .nil)
/-- cards_out(deal, cards, player) -/
def B_cards_out : MSs := (.cons (.asg (.name 3) (.lst .nil)) (.cons (.for_ (.name 4) (.rng (.cons (.bi .len (.cons (.v 0) .nil)) .nil)) B_cards_out_1) (.cons (.ret (.bi .tuple (.cons (.bi .sorted (.cons (.v 3) .nil)) .nil))) .nil)))
/-- is_master(card, out) -/
def B_is_master : MSs := (.cons (.ret (.cmp .Eq (.comp [2] (.name 2) (.seq (.v 1)) (.some (.andd (.tr (.cmp .Eq (.ix (.v 2) (.c (.int 0))) (.ix (.v 0) (.c (.int 0))))) (.tr (.cmp .Gt (.ix (.v 2) (.c (.int 1))) (.ix (.v 0) (.c (.int 1))))))) (.v 2)) (.lst .nil))) .nil)
/-- masters(hand, out) -/
def B_masters (j_is_master : Nat) : MSs := (.cons (.ret (.bi .tuple (.cons (.comp [2] (.name 2) (.seq (.v 0)) (.some (.tr (.call j_is_master (.cons (.v 2) (.cons (.v 1) .nil))))) (.v 2)) .nil))) .nil)
/-- long_cards(hand, out) -/
def B_long_cards : MSs := (.cons (.ret (.bi .tuple (.cons (.comp [2] (.name 2) (.seq (.v 0)) (.some (.tr (.cmp .Eq (.comp [3] (.name 3) (.seq (.v 1)) (.some (.tr (.cmp .Eq (.ix (.v 3) (.c (.int 0))) (.ix (.v 2) (.c (.int 0)))))) (.v 3)) (.lst .nil)))) (.v 2)) .nil))) .nil)
/-- rounds_to_clear(hand, out, suit) -/
def B_rounds_to_clear : MSs := (.cons (.asg (.name 3) (.bi .len (.cons (.comp [5] (.name 5) (.seq (.v 0)) (.some (.tr (.cmp .Eq (.ix (.v 5) (.c (.int 0))) (.v 2)))) (.v 5)) .nil))) (.cons (.asg (.name 4) (.bi .len (.cons (.comp [5] (.name 5) (.seq (.v 1)) (.some (.tr (.cmp .Eq (.ix (.v 5) (.c (.int 0))) (.v 2)))) (.v 5)) .nil))) (.cons (.ret (.ite (.tr (.cmp .LtE (.v 4) (.v 3))) (.v 4) (.c .none))) .nil)))
/-- sure_long(hand, out, suit) -/
def B_sure_long : MSs := (.cons (.asg (.name 3) (.bi .len (.cons (.comp [5] (.name 5) (.seq (.v 0)) (.some (.tr (.cmp .Eq (.ix (.v 5) (.c (.int 0))) (.v 2)))) (.v 5)) .nil))) (.cons (.asg (.name 4) (.bi .len (.cons (.comp [5] (.name 5) (.seq (.v 1)) (.some (.tr (.cmp .Eq (.ix (.v 5) (.c (.int 0))) (.v 2)))) (.v 5)) .nil))) (.cons (.ret (.bi .max (.cons (.c (.int 0)) (.cons (.bin .Sub (.v 3) (.v 4)) .nil)))) .nil)))
def B_runs_of_masters_1 : MSs := (.cons (.asg (.name 4) (.bi .sortedRev (.cons (.comp [7, 8] (.tup (.cons (.name 7) (.cons (.name 8) .nil))) (.seq (.v 0)) (.some (.tr (.cmp .Eq (.v 7) (.v 3)))) (.v 8)) .nil))) (.cons (.asg (.name 5) (.bi .max (.cons (.bin .Add (.lst (.cons (.neg (.c (.int 1))) .nil)) (.comp [7, 8] (.tup (.cons (.name 7) (.cons (.name 8) .nil))) (.seq (.v 1)) (.some (.tr (.cmp .Eq (.v 7) (.v 3)))) (.v 8))) .nil))) (.cons (.expr (.meth .append (.v 2) (.cons (.tup (.cons (.v 3) (.cons (.bi .len (.cons (.comp [8] (.name 8) (.seq (.v 4)) (.some (.tr (.cmp .Gt (.v 8) (.v 5)))) (.v 8)) .nil)) .nil))) .nil))) .nil)))
/-- runs_of_masters(hand, out) -/
def B_runs_of_masters : MSs := (.cons (.asg (.name 2) (.lst .nil)) (.cons (.for_ (.name 3) (.seq (.bi .sorted (.cons (.bi .dict (.cons (.comp [6] (.name 6) (.seq (.v 0)) .none (.tup (.cons (.ix (.v 6) (.c (.int 0))) (.cons (.c (.bool true)) .nil)))) .nil)) .nil))) B_runs_of_masters_1) (.cons (.ret (.bi .tuple (.cons (.v 2) .nil))) .nil)))
def B_law_1 : MSs := (.cons (.asg (.name 9) (.bin .Add (.v 9) (.comp [17] (.name 17) (.seq (.ix (.v 6) (.v 10))) (.some (.andd (.tr (.cmp .NotEq (.v 10) (.v 8))) (.tr (.cmp .NotIn (.v 17) (.v 7))))) (.v 17)))) .nil)
def B_law_2 : MSs := (.cons (.asg (.name 14) (.comp [17] (.name 17) (.seq (.v 11)) (.some (.tr (.cmp .Eq (.ix (.v 17) (.c (.int 0))) (.v 13)))) (.v 17))) (.cons (.asg (.name 15) (.comp [17] (.name 17) (.seq (.v 9)) (.some (.tr (.cmp .Eq (.ix (.v 17) (.c (.int 0))) (.v 13)))) (.v 17))) (.cons (.ife (.tr (.cmp .NotEq (.v 14) (.lst .nil))) (.cons (.expr (.meth .append (.v 12) (.cons (.tup (.cons (.v 13) (.cons (.bi .len (.cons (.comp [17] (.name 17) (.seq (.v 14)) (.some (.orr (.tr (.cmp .Eq (.v 15) (.lst .nil))) (.tr (.cmp .Gt (.v 17) (.bi .max (.cons (.v 15) .nil)))))) (.v 17)) .nil)) .nil))) .nil))) .nil) .nil) (.cons (.ife (.orr (.nott (.tr (.call 10 (.cons (.call 5 (.cons (.v 11) (.cons (.v 9) (.cons (.v 13) .nil)))) (.cons (.bi .max (.cons (.c (.int 0)) (.cons (.bin .Sub (.bi .len (.cons (.v 14) .nil)) (.bi .len (.cons (.v 15) .nil))) .nil))) .nil))))) (.nott (.tr (.call 10 (.cons (.call 4 (.cons (.v 11) (.cons (.v 9) (.cons (.v 13) .nil)))) (.cons (.ite (.tr (.cmp .LtE (.bi .len (.cons (.v 15) .nil)) (.bi .len (.cons (.v 14) .nil)))) (.bi .len (.cons (.v 15) .nil)) (.c .none)) .nil)))))) (.cons (.ret (.c (.bool false))) .nil) .nil) (.cons (.asg (.name 16) (.comp [17] (.name 17) (.seq (.v 14)) (.some (.orr (.tr (.cmp .Eq (.v 15) (.lst .nil))) (.tr (.cmp .Gt (.v 17) (.bi .max (.cons (.v 15) .nil)))))) (.v 17))) (.cons (.ife (.tr (.cmp .NotEq (.comp [17] (.name 17) (.seq (.v 16)) (.some (.tr (.cmp .NotIn (.v 17) (.call 2 (.cons (.v 11) (.cons (.v 9) .nil)))))) (.v 17)) (.lst .nil))) (.cons (.ret (.c (.bool false))) .nil) .nil) .nil))))))
def B_law_3 : MSs := (.cons (.asg (.name 3) (.tup (.cons (.bin .Add (.c (.int 1)) (.call 8 (.cons (.v 1) (.cons (.c (.int 4)) .nil)))) (.cons (.bin .Add (.c (.int 4)) (.call 8 (.cons (.v 1) (.cons (.c (.int 4)) .nil)))) .nil)))) (.cons (.asg (.name 4) (.bin .Add (.c (.int 2)) (.call 8 (.cons (.v 1) (.cons (.c (.int 3)) .nil))))) (.cons (.asg (.name 5) (.bin .Add (.c (.int 1)) (.call 8 (.cons (.v 1) (.cons (.bin .FloorDiv (.bin .Mult (.ix (.v 3) (.c (.int 0))) (.ix (.v 3) (.c (.int 1)))) (.v 4)) .nil))))) (.cons (.asg (.name 6) (.call 12 (.cons (.v 1) (.cons (.v 3) (.cons (.v 4) (.cons (.v 5) .nil)))))) (.cons (.asg (.name 7) (.call 17 (.cons (.v 1) (.cons (.v 6) (.cons (.c (.int 0)) (.cons (.c .none) (.cons (.call 8 (.cons (.v 1) (.cons (.bin .Add (.bin .Mult (.v 4) (.v 5)) (.c (.int 1))) .nil))) .nil))))))) (.cons (.asg (.name 8) (.call 8 (.cons (.v 1) (.cons (.v 4) .nil)))) (.cons (.asg (.name 9) (.lst .nil)) (.cons (.for_ (.name 10) (.rng (.cons (.v 4) .nil)) B_law_1) (.cons (.asg (.name 9) (.bi .tuple (.cons (.bi .sorted (.cons (.v 9) .nil)) .nil))) (.cons (.asg (.name 11) (.bi .tuple (.cons (.comp [17] (.name 17) (.seq (.ix (.v 6) (.v 8))) (.some (.tr (.cmp .NotIn (.v 17) (.v 7)))) (.v 17)) .nil))) (.cons (.ife (.nott (.tr (.call 10 (.cons (.call 0 (.cons (.v 6) (.cons (.v 7) (.cons (.v 8) .nil)))) (.cons (.v 9) .nil))))) (.cons (.ret (.c (.bool false))) .nil) .nil) (.cons (.ife (.nott (.tr (.call 10 (.cons (.call 2 (.cons (.v 11) (.cons (.v 9) .nil))) (.cons (.bi .tuple (.cons (.comp [17] (.name 17) (.seq (.v 11)) (.some (.tr (.cmp .Eq (.comp [18] (.name 18) (.seq (.v 9)) (.some (.andd (.tr (.cmp .Eq (.ix (.v 18) (.c (.int 0))) (.ix (.v 17) (.c (.int 0))))) (.tr (.cmp .Gt (.ix (.v 18) (.c (.int 1))) (.ix (.v 17) (.c (.int 1))))))) (.v 18)) (.lst .nil)))) (.v 17)) .nil)) .nil))))) (.cons (.ret (.c (.bool false))) .nil) .nil) (.cons (.ife (.nott (.tr (.call 10 (.cons (.call 3 (.cons (.v 11) (.cons (.v 9) .nil))) (.cons (.bi .tuple (.cons (.comp [17] (.name 17) (.seq (.v 11)) (.some (.tr (.cmp .NotIn (.ix (.v 17) (.c (.int 0))) (.comp [18] (.name 18) (.seq (.v 9)) .none (.ix (.v 18) (.c (.int 0))))))) (.v 17)) .nil)) .nil))))) (.cons (.ret (.c (.bool false))) .nil) .nil) (.cons (.asg (.name 12) (.lst .nil)) (.cons (.for_ (.name 13) (.rng (.cons (.ix (.v 3) (.c (.int 0))) .nil)) B_law_2) (.cons (.ife (.nott (.tr (.call 10 (.cons (.call 6 (.cons (.v 11) (.cons (.v 9) .nil))) (.cons (.bi .tuple (.cons (.v 12) .nil)) .nil))))) (.cons (.ret (.c (.bool false))) .nil) .nil) .nil))))))))))))))))
/-- law(script) -/
def B_law : MSs := (.cons (.asg (.name 1) (.dct [(.str "draws"), (.str "at")] (.cons (.call 7 (.cons (.v 0) (.cons (.c (.int 600)) .nil))) (.cons (.c (.int 0)) .nil)))) (.cons (.for_ (.name 2) (.rng (.cons (.c (.int 8)) .nil)) B_law_3) (.cons (.ret (.c (.bool true))) .nil)))
/-- cards_out -/
def b0 : MSs := B_cards_out
/-- is_master -/
def b1 : MSs := B_is_master
/-- masters -/
def b2 : MSs := (B_masters 1)
/-- long_cards -/
def b3 : MSs := B_long_cards
/-- rounds_to_clear -/
def b4 : MSs := B_rounds_to_clear
/-- sure_long -/
def b5 : MSs := B_sure_long
/-- runs_of_masters -/
def b6 : MSs := B_runs_of_masters
/-- _law_draws -/
def b7 : MSs := bDraws
/-- _law_next -/
def b8 : MSs := bNext
/-- _law_pick -/
def b9 : MSs := (bPick 8)
/-- _law_alike -/
def b10 : MSs := (bAlike 10)
/-- _law_cards -/
def b11 : MSs := B_law_cards
/-- _law_deal -/
def b12 : MSs := (B_law_deal 11 8)
/-- _law_legal -/
def b13 : MSs := B_law_legal
/-- _law_winner -/
def b14 : MSs := B_law_winner
/-- _law_played -/
def b15 : MSs := (B_law_played 14)
/-- _law_turn -/
def b16 : MSs := B_law_turn
/-- _law_random_play -/
def b17 : MSs := (B_law_random_play 13 16 8 15)
/-- law -/
def b18 : MSs := B_law
def fs : List Fd := [⟨3, 6, b0⟩, ⟨2, 3, b1⟩, ⟨2, 3, b2⟩, ⟨2, 4, b3⟩, ⟨3, 6, b4⟩, ⟨3, 6, b5⟩, ⟨2, 9, b6⟩, ⟨2, 8, b7⟩, ⟨2, 2, b8⟩, ⟨2, 2, b9⟩, ⟨2, 3, b10⟩, ⟨1, 4, b11⟩, ⟨4, 11, b12⟩, ⟨2, 4, b13⟩, ⟨2, 6, b14⟩, ⟨3, 10, b15⟩, ⟨1, 1, b16⟩, ⟨5, 10, b17⟩, ⟨1, 19, b18⟩]
theorem f_cards_out : fs[0]? = some ⟨3, 6, b0⟩ := rfl
theorem f_is_master : fs[1]? = some ⟨2, 3, b1⟩ := rfl
theorem f_masters : fs[2]? = some ⟨2, 3, b2⟩ := rfl
theorem f_long_cards : fs[3]? = some ⟨2, 4, b3⟩ := rfl
theorem f_rounds_to_clear : fs[4]? = some ⟨3, 6, b4⟩ := rfl
theorem f_sure_long : fs[5]? = some ⟨3, 6, b5⟩ := rfl
theorem f_runs_of_masters : fs[6]? = some ⟨2, 9, b6⟩ := rfl
theorem f_law_draws : fs[7]? = some ⟨2, 8, b7⟩ := rfl
theorem f_law_next : fs[8]? = some ⟨2, 2, b8⟩ := rfl
theorem f_law_pick : fs[9]? = some ⟨2, 2, b9⟩ := rfl
theorem f_law_alike : fs[10]? = some ⟨2, 3, b10⟩ := rfl
theorem f_law_cards : fs[11]? = some ⟨1, 4, b11⟩ := rfl
theorem f_law_deal : fs[12]? = some ⟨4, 11, b12⟩ := rfl
theorem f_law_legal : fs[13]? = some ⟨2, 4, b13⟩ := rfl
theorem f_law_winner : fs[14]? = some ⟨2, 6, b14⟩ := rfl
theorem f_law_played : fs[15]? = some ⟨3, 10, b15⟩ := rfl
theorem f_law_turn : fs[16]? = some ⟨1, 1, b16⟩ := rfl
theorem f_law_random_play : fs[17]? = some ⟨5, 10, b17⟩ := rfl
theorem f_law : fs[18]? = some ⟨1, 19, b18⟩ := rfl
end Lw
namespace Lw
open PySem PySem.W Ev
section
variable {n : Nat} {L : List Int}
/-! ### the program's own -/
def grp (d : List (List Card)) (cs : List Card) (p k : Nat) : List Card := if k = p then [] else (nth d k []).filter fun c => decide (c ∉ cs)
theorem grp_len {d : List (List Card)} {cs : List Card} {p k z : Nat} (hd : ∀ h ∈ d, h.length ≤ z) : (grp d cs p k).length ≤ z := by
  unfold grp
  split
  · simp
  · refine Nat.le_trans (List.length_filter_le _ _) ?_
    unfold nth
    cases q : d[k]? with
    | none => simp
    | some h => exact hd h (List.mem_of_getElem? q)
theorem fm_len {α : Type} {f : Nat → List α} {z : Nat} (h : ∀ k, (f k).length ≤ z) : ∀ xs : List Nat, (xs.flatMap f).length ≤ xs.length * z
  | [] => by simp
  | x :: xs => by
    rw [List.flatMap_cons, List.length_append, List.length_cons, Nat.add_mul]
    have := h x
    have := fm_len h xs
    omega
def outC (d : List (List Card)) (cs : List Card) (p : Nat) : List Card := (List.range d.length).flatMap (grp d cs p)
theorem ne_nat {a b : Nat} : cmpD .NotEq (.int (a : Int)) (.int (b : Int)) = some (decide (a ≠ b)) := by
  rw [ne_int]; congr 1; rw [decide_eq_decide]; omega
@[irreducible] def lC1 : MSs := B_cards_out_1
theorem lC1_eq : lC1 = B_cards_out_1 := by with_unfolding_all rfl
theorem cards_out_ok {d : List (List Card)} {cs : List Card} {p : Nat} (hl : d.length ≤ 100) (hd1 : ∀ h ∈ d, h.length ≤ 100) : callN fs (n + 1) 0 [.sh (dl d), .sh (hd cs), .sh (nI p)] = .ok (.val (hd (srt (outC d cs p)))) [.no, .no, .no] := by
  have hr : rngD [.int (d.length : Int)] = some ((List.range d.length).map nI) := rng_nat (by omega)
  have hz := sizeL
  have gl := fun k => grp_len (cs := cs) (p := p) (k := k) hd1
  refine cok_eq (cok_call f_cards_out rfl ?_)
  simp [b0, B_cards_out, w_for, hr, hz]
  simp only [← lC1_eq]
  obtain ⟨J, hJ⟩ : ∃ J : List Nat → En → Prop, ∀ pre e, J pre e ↔ ∃ s4, e = [.sh (dl d), .sh (hd cs), .sh (nI p), .ow (.lst ((pre.flatMap (grp d cs p)).map cd)), s4, .no] := ⟨_, fun _ _ => Iff.rfl⟩
  refine for_pre J ((hJ _ _).mpr ⟨_, rfl⟩) ?_ ?_
  · intro pre k suf e hx hj
    obtain ⟨s4, rfl⟩ := (hJ _ _).mp hj
    have hk0 := (range_split' hx).1
    have hk1 := (range_split' hx).2.1
    have ik := dl_at hk1
    rw [Ev.getD_at hk1 (d := [])] at ik
    have nn := ne_nat (a := k) (b := p)
    have hlen : ((pre.flatMap (grp d cs p)).map cd).length + (grp d cs p k).length ≤ 16777216 := by
      have h1 := fm_len gl pre
      have h2 := gl k
      rw [List.length_map]
      have : pre.length ≤ 100 := by omega
      have : pre.length * 100 ≤ 100 * 100 := Nat.mul_le_mul_right _ this
      omega
    rw [lC1_eq]
    by_cases q : k = p
    · have : grp d cs p k = [] := by simp [grp, q]
      simp [B_cards_out_1, nI] at nn ⊢
      simp [nn, q]
      rw [q] at this
      exact (hJ _ _).mpr ⟨.sh (nI p), by rw [List.flatMap_append]; simp [this, nI]⟩
    · have eg : grp d cs p k = (nth d k []).filter fun c => decide (c ∉ cs) := by simp [grp, q]
      simp [B_cards_out_1, nI] at nn ⊢
      simp [nn, q, w_comp, ik]
      refine comp_fl (en := cd) (fun c => decide (c ∉ cs)) (by simp; rfl) (fun c hc => ?_) ?_
      · simp [wipeE, nin_hd]
      · rw [← eg]
        rw [List.length_map] at hlen
        simp [hz, hlen, -List.map_flatMap, -List.length_flatMap]
        exact (hJ _ _).mpr ⟨.sh (nI k), by rw [List.flatMap_append]; simp [nI]⟩
  · intro e hj
    obtain ⟨s4, rfl⟩ := (hJ _ _).mp hj
    simp [outC, -List.map_flatMap]
def mst (out : List Card) (c : Card) : Bool := decide (out.filter (fun o => decide (o.1 = c.1) && decide (c.2 < o.2)) = [])
theorem is_master_ok {c : Card} {out : List Card} : callN fs (n + 1) 1 [.sh (cd c), .sh (hd out)] = .ok (.val (.bool (mst out c))) [.no, .no] := by
  refine cok_eq (cok_call f_is_master rfl ?_)
  simp [b1, B_is_master, w_comp]
  refine comp_fl (en := cd) (fun o => decide (o.1 = c.1) && decide (c.2 < o.2)) (by simp; rfl) (fun o ho => ?_) ?_
  · by_cases q : o.1 = c.1
    · by_cases q2 : c.2 < o.2 <;> simp [wipeE, q, q2]
    · simp [wipeE, q]
  · simp [mst]
theorem masters_ok {h out : List Card} : callN fs (n + 2) 2 [.sh (hd h), .sh (hd out)] = .ok (.val (hd (h.filter (mst out)))) [.no, .no] := by
  refine cok_eq (cok_call f_masters rfl ?_)
  simp [b2, B_masters, w_comp]
  refine comp_fl (en := cd) (mst out) (by simp; rfl) (fun o ho => ?_) ?_
  · have m1 := is_master_ok (n := n) (c := o) (out := out)
    by_cases q : mst out o = true <;> simp [wipeE, ok_call, m1, q]
  · simp
def ofS (h : List Card) (s : Int) : List Card := h.filter fun o => decide (o.1 = s)
theorem long_ok {h out : List Card} : callN fs (n + 1) 3 [.sh (hd h), .sh (hd out)] = .ok (.val (hd (h.filter fun c => decide (ofS out c.1 = [])))) [.no, .no] := by
  refine cok_eq (cok_call f_long_cards rfl ?_)
  simp [b3, B_long_cards, w_comp]
  refine comp_fl (en := cd) (fun c => decide (ofS out c.1 = [])) (by simp; rfl) (fun c hc => ?_) ?_
  · simp [wipeE, w_comp]
    refine comp_fl (en := cd) (fun o => decide (o.1 = c.1)) (by simp; rfl) (fun o ho => ?_) ?_
    · simp [wipeE]
    · have : out.filter (fun o => decide (o.1 = c.1)) = ofS out c.1 := rfl
      rw [this]
      simp [-List.map_eq_nil_iff]
  · simp
def rtc (h out : List Card) (s : Int) : D := if (ofS out s).length ≤ (ofS h s).length then nI (ofS out s).length else .none
theorem le_nat {a b : Nat} : cmpD .LtE (.int (a : Int)) (.int (b : Int)) = some (decide (a ≤ b)) := by
  rw [le_int]; congr 1; rw [decide_eq_decide]; omega
theorem rounds_ok {h out : List Card} {s : Int} : callN fs (n + 1) 4 [.sh (hd h), .sh (hd out), .sh (.int s)] = .ok (.val (rtc h out s)) [.no, .no, .no] := by
  refine cok_eq (cok_call f_rounds_to_clear rfl ?_)
  simp [b4, B_rounds_to_clear, w_comp]
  refine comp_fl (en := cd) (fun o => decide (o.1 = s)) (by simp; rfl) (fun c hc => by simp [wipeE]) ?_
  simp [w_comp]
  refine comp_fl (en := cd) (fun o => decide (o.1 = s)) (by simp; rfl) (fun c hc => by simp [wipeE]) ?_
  have e1 : out.filter (fun o => decide (o.1 = s)) = ofS out s := rfl
  have e2 : h.filter (fun o => decide (o.1 = s)) = ofS h s := rfl
  have ll := le_nat (a := (ofS out s).length) (b := (ofS h s).length)
  rw [e1, e2]
  by_cases q : (ofS out s).length ≤ (ofS h s).length
  · simp [q] at ll; simp [ll, rtc, q, nI]
  · simp [q] at ll; simp [ll, rtc, q]
def slg (h out : List Card) (s : Int) : Int := if ((ofS h s).length : Int) - (ofS out s).length > 0 then ((ofS h s).length : Int) - (ofS out s).length else 0
theorem sure_ok {h out : List Card} {s : Int} : callN fs (n + 1) 5 [.sh (hd h), .sh (hd out), .sh (.int s)] = .ok (.val (.int (slg h out s))) [.no, .no, .no] := by
  refine cok_eq (cok_call f_sure_long rfl ?_)
  simp [b5, B_sure_long, w_comp]
  refine comp_fl (en := cd) (fun o => decide (o.1 = s)) (by simp; rfl) (fun c hc => by simp [wipeE]) ?_
  simp [w_comp]
  refine comp_fl (en := cd) (fun o => decide (o.1 = s)) (by simp; rfl) (fun c hc => by simp [wipeE]) ?_
  simp [slg, ofS]
end
end Lw
namespace Lw
open PySem PySem.W Ev
section
variable {n : Nat} {L : List Int}
/-- the greatest rank that is out, -1 if none is -/
def most (out : List Card) (s : Int) : Int := maxL (-1) ((ofS out s).map (·.2))
def rmn (h out : List Card) (s : Int) : Nat := ((ofS h s).filter fun c => decide (most out s < c.2)).length
def runs (h out : List Card) : List Card := (srt (dedup (h.map (·.1)))).map fun s => (s, (rmn h out s : Int))
theorem bind_cd2 {i j : Nat} {c : Card} {e : En} {Q : Unit → En → Prop} : Ok (bindT (.tup (.cons (.name i) (.cons (.name j) .nil))) (cd c) e) Q = (i < e.length ∧ j < (e.set i (.sh (.int c.1))).length ∧ Q () ((e.set i (.sh (.int c.1))).set j (.sh (.int c.2)))) := bind_cdS
@[irreducible] def lR1 : MSs := B_runs_of_masters_1
theorem lR1_eq : lR1 = B_runs_of_masters_1 := by with_unfolding_all rfl
theorem max_ints {x : Int} {xs : List Int} : biD .max [.list ((x :: xs).map .int)] = some (.val (.int (maxL x xs))) := max_TL (α := Int)
theorem filt_len {xs : List Int} {m : Int} {h : List Card} {s : Int} (e : xs.Perm ((ofS h s).map (·.2))) : (xs.filter fun r => decide (m < r)).length = ((ofS h s).filter fun c => decide (m < c.2)).length := by
  rw [(e.filter _).length_eq, List.filter_map, List.length_map]; rfl
theorem runs_ok {h out : List Card} (hl : h.length ≤ 100000) (hlo : out.length ≤ 100000) : callN fs (n + 1) 6 [.sh (hd h), .sh (hd out)] = .ok (.val (hd (runs h out))) [.no, .no] := by
  have hz := sizeL
  have d1 := dict_fI (xs := h) (v := .bool true) (fun c : Card => c.1)
  have d2 := sorted_dI (ks := dedup (h.map fun c : Card => c.1)) (v := .bool true)
  refine cok_eq (cok_call f_runs_of_masters rfl ?_)
  simp [b6, B_runs_of_masters, w_for, w_comp]
  refine comp_mp (en := cd) (fun c => .tuple [.int c.1, .bool true]) (by simp; rfl) (fun c hc => by simp [wipeE, hz]) ?_
  simp [d1, d2, -List.map_map]
  simp only [← lR1_eq]
  obtain ⟨J, hJ⟩ : ∃ J : List Int → En → Prop, ∀ pre e, J pre e ↔ ∃ (acc : List Card) (s3 s4 s5 : Slot), acc = (pre.map fun s => (s, (rmn h out s : Int))) ∧ e = [.sh (hd h), .sh (hd out), .ow (.lst (acc.map cd)), s3, s4, s5, .no, .no, .no] := ⟨_, fun _ _ => Iff.rfl⟩
  refine for_pre J ((hJ _ _).mpr ⟨[], .no, .no, .no, rfl, rfl⟩) ?_ ?_
  · intro pre s suf e hx hj
    obtain ⟨acc, s3, s4, s5, hacc, rfl⟩ := (hJ _ _).mp hj
    have hal : acc.length = pre.length := by rw [hacc]; simp
    rw [lR1_eq]
    have e1 : h.filter (fun o => decide (o.1 = s)) = ofS h s := rfl
    have e2 : out.filter (fun o => decide (o.1 = s)) = ofS out s := rfl
    have hpl : pre.length < 16777216 := by
      have h1 := congrArg List.length hx
      have h2 := (srt_perm (dedup (h.map fun c : Card => c.1))).length_eq
      have h3 := dedup_le (h.map fun c : Card => c.1) []
      simp [dedup] at h1 h2 h3
      omega
    simp [B_runs_of_masters_1, w_comp]
    refine comp_fm (en := cd) (fun o => decide (o.1 = s)) (fun o => .int o.2) (by simp; rfl) (fun c hc => by simp [wipeE, bind_cd2, -bind_cd]) ?_
    have sr := srtR_L (α := Int) (xs := (ofS h s).map (·.2))
    have e3 : (ofS h s).map (fun o => PyData.int o.2) = ((ofS h s).map (·.2)).map Datum.toD := by rw [List.map_map]; rfl
    rw [e1, e3]
    simp [sr, w_comp, hz, -List.map_map, -List.map_reverse]
    refine comp_fm (en := cd) (fun o => decide (o.1 = s)) (fun o => .int o.2) (by simp; rfl) (fun c hc => by simp [wipeE, bind_cd2, -bind_cd]) ?_
    have e4 : PyData.int (-1) :: (ofS out s).map (fun o => PyData.int o.2) = (((-1 : Int)) :: (ofS out s).map (·.2)).map .int := by rw [List.map_cons, List.map_map]; rfl
    have mx := max_ints (x := -1) (xs := (ofS out s).map (·.2))
    rw [e2]
    have ml : (ofS out s).length + 1 ≤ 16777216 := by have : (ofS out s).length ≤ out.length := List.length_filter_le _ _; omega
    have ad : binD .Add (.list [.int (-1)]) (.list ((ofS out s).map fun o => PyData.int o.2)) = some (.new (.lst (((-1 : Int) :: (ofS out s).map (·.2)).map .int))) := by
      rw [add_lst, if_pos (by simp [hz]; omega), ← e4]; rfl
    simp [hz, ad, mx, -List.map_map, -List.map_reverse, -List.map_cons, -add_lst]
    refine comp_fl (en := fun r : Int => .int r) (fun r => decide (most out s < r)) (by simp; rfl) (fun r hr => by
      unfold most
      by_cases q : maxL (-1) ((ofS out s).map (·.2)) < r <;> simp [wipeE, q]) ?_
    have fl := filt_len (m := most out s) (xs := srt ((ofS h s).map (·.2))) (srt_perm _)
    simp [fl, hz, hal, hpl, -List.map_map]
    exact (hJ _ _).mpr ⟨acc ++ [(s, (rmn h out s : Int))], .sh (.int s), _, _, by rw [hacc, List.map_append]; rfl, by rw [List.map_append]; rfl⟩
  · intro e hj
    obtain ⟨acc, s3, s4, s5, hacc, rfl⟩ := (hJ _ _).mp hj
    simp [runs, ← hacc]
end
end Lw
namespace Lw
open PySem PySem.W Ev
def V : MSs := (.cons (.asg (.name 16) (.comp [17] (.name 17) (.seq (.v 14)) (.some (.orr (.tr (.cmp .Eq (.v 15) (.lst .nil))) (.tr (.cmp .Gt (.v 17) (.bi .max (.cons (.v 15) .nil)))))) (.v 17))) (.cons (.ife (.tr (.cmp .NotEq (.comp [17] (.name 17) (.seq (.v 16)) (.some (.tr (.cmp .NotIn (.v 17) (.call 2 (.cons (.v 11) (.cons (.v 9) .nil)))))) (.v 17)) (.lst .nil))) (.cons (.ret (.c (.bool false))) .nil) .nil) .nil))
def U : MSs := (.cons (.ife (.orr (.nott (.tr (.call 10 (.cons (.call 5 (.cons (.v 11) (.cons (.v 9) (.cons (.v 13) .nil)))) (.cons (.bi .max (.cons (.c (.int 0)) (.cons (.bin .Sub (.bi .len (.cons (.v 14) .nil)) (.bi .len (.cons (.v 15) .nil))) .nil))) .nil))))) (.nott (.tr (.call 10 (.cons (.call 4 (.cons (.v 11) (.cons (.v 9) (.cons (.v 13) .nil)))) (.cons (.ite (.tr (.cmp .LtE (.bi .len (.cons (.v 15) .nil)) (.bi .len (.cons (.v 14) .nil)))) (.bi .len (.cons (.v 15) .nil)) (.c .none)) .nil)))))) (.cons (.ret (.c (.bool false))) .nil) .nil) V)
theorem B_law_2_eq : B_law_2 = (.cons (.asg (.name 14) (.comp [17] (.name 17) (.seq (.v 11)) (.some (.tr (.cmp .Eq (.ix (.v 17) (.c (.int 0))) (.v 13)))) (.v 17))) (.cons (.asg (.name 15) (.comp [17] (.name 17) (.seq (.v 9)) (.some (.tr (.cmp .Eq (.ix (.v 17) (.c (.int 0))) (.v 13)))) (.v 17))) (.cons (.ife (.tr (.cmp .NotEq (.v 14) (.lst .nil))) (.cons (.expr (.meth .append (.v 12) (.cons (.tup (.cons (.v 13) (.cons (.bi .len (.cons (.comp [17] (.name 17) (.seq (.v 14)) (.some (.orr (.tr (.cmp .Eq (.v 15) (.lst .nil))) (.tr (.cmp .Gt (.v 17) (.bi .max (.cons (.v 15) .nil)))))) (.v 17)) .nil)) .nil))) .nil))) .nil) .nil) U))) := rfl
@[irreducible] def lU : MSs := U
theorem lU_eq : lU = U := by with_unfolding_all rfl
@[irreducible] def lV : MSs := V
theorem lV_eq : lV = V := by with_unfolding_all rfl
def T4 : MSs := (.cons (.asg (.name 12) (.lst .nil)) (.cons (.for_ (.name 13) (.rng (.cons (.ix (.v 3) (.c (.int 0))) .nil)) B_law_2) (.cons (.ife (.nott (.tr (.call 10 (.cons (.call 6 (.cons (.v 11) (.cons (.v 9) .nil))) (.cons (.bi .tuple (.cons (.v 12) .nil)) .nil))))) (.cons (.ret (.c (.bool false))) .nil) .nil) .nil)))
def T3 : MSs := (.cons (.ife (.nott (.tr (.call 10 (.cons (.call 3 (.cons (.v 11) (.cons (.v 9) .nil))) (.cons (.bi .tuple (.cons (.comp [17] (.name 17) (.seq (.v 11)) (.some (.tr (.cmp .NotIn (.ix (.v 17) (.c (.int 0))) (.comp [18] (.name 18) (.seq (.v 9)) .none (.ix (.v 18) (.c (.int 0))))))) (.v 17)) .nil)) .nil))))) (.cons (.ret (.c (.bool false))) .nil) .nil) T4)
def T2 : MSs := (.cons (.asg (.name 11) (.bi .tuple (.cons (.comp [17] (.name 17) (.seq (.ix (.v 6) (.v 8))) (.some (.tr (.cmp .NotIn (.v 17) (.v 7)))) (.v 17)) .nil))) (.cons (.ife (.nott (.tr (.call 10 (.cons (.call 0 (.cons (.v 6) (.cons (.v 7) (.cons (.v 8) .nil)))) (.cons (.v 9) .nil))))) (.cons (.ret (.c (.bool false))) .nil) .nil) (.cons (.ife (.nott (.tr (.call 10 (.cons (.call 2 (.cons (.v 11) (.cons (.v 9) .nil))) (.cons (.bi .tuple (.cons (.comp [17] (.name 17) (.seq (.v 11)) (.some (.tr (.cmp .Eq (.comp [18] (.name 18) (.seq (.v 9)) (.some (.andd (.tr (.cmp .Eq (.ix (.v 18) (.c (.int 0))) (.ix (.v 17) (.c (.int 0))))) (.tr (.cmp .Gt (.ix (.v 18) (.c (.int 1))) (.ix (.v 17) (.c (.int 1))))))) (.v 18)) (.lst .nil)))) (.v 17)) .nil)) .nil))))) (.cons (.ret (.c (.bool false))) .nil) .nil) T3)))
def T1 : MSs := (.cons (.asg (.name 7) (.call 17 (.cons (.v 1) (.cons (.v 6) (.cons (.c (.int 0)) (.cons (.c .none) (.cons (.call 8 (.cons (.v 1) (.cons (.bin .Add (.bin .Mult (.v 4) (.v 5)) (.c (.int 1))) .nil))) .nil))))))) (.cons (.asg (.name 8) (.call 8 (.cons (.v 1) (.cons (.v 4) .nil)))) (.cons (.asg (.name 9) (.lst .nil)) (.cons (.for_ (.name 10) (.rng (.cons (.v 4) .nil)) B_law_1) (.cons (.asg (.name 9) (.bi .tuple (.cons (.bi .sorted (.cons (.v 9) .nil)) .nil))) T2)))))
theorem B_law_3_eq : B_law_3 = (.cons (.asg (.name 3) (.tup (.cons (.bin .Add (.c (.int 1)) (.call 8 (.cons (.v 1) (.cons (.c (.int 4)) .nil)))) (.cons (.bin .Add (.c (.int 4)) (.call 8 (.cons (.v 1) (.cons (.c (.int 4)) .nil)))) .nil)))) (.cons (.asg (.name 4) (.bin .Add (.c (.int 2)) (.call 8 (.cons (.v 1) (.cons (.c (.int 3)) .nil))))) (.cons (.asg (.name 5) (.bin .Add (.c (.int 1)) (.call 8 (.cons (.v 1) (.cons (.bin .FloorDiv (.bin .Mult (.ix (.v 3) (.c (.int 0))) (.ix (.v 3) (.c (.int 1)))) (.v 4)) .nil))))) (.cons (.asg (.name 6) (.call 12 (.cons (.v 1) (.cons (.v 3) (.cons (.v 4) (.cons (.v 5) .nil)))))) T1)))) := rfl
@[irreducible] def lT1 : MSs := T1
theorem lT1_eq : lT1 = T1 := by with_unfolding_all rfl
@[irreducible] def lT2 : MSs := T2
theorem lT2_eq : lT2 = T2 := by with_unfolding_all rfl
@[irreducible] def lT3 : MSs := T3
theorem lT3_eq : lT3 = T3 := by with_unfolding_all rfl
@[irreducible] def lT4 : MSs := T4
theorem lT4_eq : lT4 = T4 := by with_unfolding_all rfl
/-! ### the law's own words for it -/
def topB (left : List Card) (c : Card) : Bool := match left with
  | [] => true
  | x :: xs => clt (maxL x xs) c
theorem ofS_mem {h : List Card} {s : Int} {c : Card} : c ∈ ofS h s ↔ c ∈ h ∧ c.1 = s := by simp [ofS]
theorem top_iff {out : List Card} {s : Int} {c : Card} (hp : 0 ≤ c.2) (hc : c.1 = s) : topB (ofS out s) c = decide (most out s < c.2) := by
  have hm : ∀ o ∈ ofS out s, o.1 = s := fun o ho => (ofS_mem.mp ho).2
  unfold most
  cases q : ofS out s with
  | nil => simp [topB, maxL]; omega
  | cons x xs =>
    rw [q] at hm
    have g1 := maxL_mem xs x
    have g2 := maxL_ge xs x
    have k1 := maxL_mem ((x :: xs).map (·.2)) (-1)
    have k2 := maxL_int (xs := (x :: xs).map (·.2)) (x := -1)
    show clt (maxL x xs) c = _
    rw [clt_eq, if_pos ((hm _ g1).trans hc.symm), decide_eq_decide]
    constructor
    · intro h
      rcases List.mem_cons.mp k1 with k1 | k1
      · rw [k1]; omega
      · obtain ⟨o, ho, eo⟩ := List.mem_map.mp k1
        have := g2 o ho
        have : clt (maxL x xs) o = false := this
        rw [clt_eq, if_pos ((hm _ g1).trans (hm o ho).symm), decide_eq_false_iff_not] at this
        rw [← eo]
        show o.2 < c.2
        omega
    · intro h
      have := k2 (maxL x xs).2 (List.mem_cons_of_mem _ (List.mem_map.mpr ⟨_, g1, rfl⟩))
      omega
theorem top_mst {out : List Card} {c : Card} (hp : 0 ≤ c.2) (h : topB (ofS out c.1) c = true) : mst out c = true := by
  rw [top_iff hp rfl, decide_eq_true_eq] at h
  unfold mst
  rw [decide_eq_true_eq, List.filter_eq_nil_iff]
  intro o ho
  simp
  intro e
  have := maxL_int (xs := (ofS out c.1).map (·.2)) (x := -1) o.2 (List.mem_cons_of_mem _ (List.mem_map.mpr ⟨o, ofS_mem.mpr ⟨ho, e⟩, rfl⟩))
  unfold most at h
  omega
/-- the cards of a pack -/
def Cds (m : Nat) (h : List Card) : Prop := ∀ c ∈ h, 0 ≤ c.1 ∧ c.1 < (m : Int) ∧ 0 ≤ c.2
def row (h out : List Card) (s : Nat) : Card := ((s : Int), (((ofS h s).filter (topB (ofS out s))).length : Int))
def lruns (h out : List Card) (xs : List Nat) : List Card := (xs.filter fun s : Nat => decide (ofS h s ≠ [])).map (row h out)
theorem runs_eq {m : Nat} {h out : List Card} (hc : Cds m h) : runs h out = lruns h out (List.range m) := by
  have e : srt (dedup (h.map (·.1))) = ((List.range m).filter fun s : Nat => decide (ofS h s ≠ [])).map fun (s : Nat) => (s : Int) := by
    have pw : (((List.range m).filter fun s : Nat => decide (ofS h s ≠ [])).map fun (s : Nat) => (s : Int)).Pairwise fun a b => a < b := by
      rw [List.pairwise_map]
      exact (List.pairwise_lt_range.filter _).imp fun h => by omega
    refine pw_uni ?_ (srt_pw _) (pw.imp fun {a b} h => ?_)
    · rw [List.perm_ext_iff_of_nodup (srt_nodup.mpr (dedup_nodup _)) (pw.imp fun h => by omega)]
      intro s
      rw [srt_mem, mem_dedup, List.mem_map, List.mem_map]
      constructor
      · rintro ⟨c, hcm, rfl⟩
        obtain ⟨h1, h2, _⟩ := hc c hcm
        refine ⟨c.1.toNat, ?_, by omega⟩
        rw [List.mem_filter, List.mem_range, decide_eq_true_eq]
        refine ⟨by omega, ?_⟩
        have : ((c.1.toNat : Nat) : Int) = c.1 := by omega
        rw [this]
        exact List.ne_nil_of_mem (ofS_mem.mpr ⟨hcm, rfl⟩)
      · rintro ⟨k, hk, rfl⟩
        rw [List.mem_filter, List.mem_range, decide_eq_true_eq] at hk
        obtain ⟨c, hcm⟩ := List.exists_mem_of_ne_nil _ hk.2
        obtain ⟨h1, h2⟩ := ofS_mem.mp hcm
        exact ⟨c, h1, h2⟩
    · unfold leT
      show (!decide (b < a)) = true
      simp; omega
  unfold runs lruns
  rw [e, List.map_map]
  refine List.map_congr_left fun s _ => ?_
  show ((s : Int), (rmn h out s : Int)) = row h out s
  unfold rmn row
  congr 3
  refine List.filter_congr fun c hcm => ?_
  obtain ⟨h1, h2⟩ := ofS_mem.mp hcm
  exact (top_iff (hc c h1).2.2 h2).symm
section
variable {n : Nat} {L : List Int}
theorem al_ok {d : D} (h : tame 3 d = true) : callN fs (n + 5) 10 [.sh d, .sh d] = .ok (.val (.bool true)) [.no, .no] := alike_ok f_law_alike 3 (n + 5) d (by omega) h
theorem max_cds {x : Card} {xs : List Card} : biD .max [.list (cd x :: xs.map cd)] = some (.val (cd (maxL x xs))) := max_TL (α := Card)
/-- the cards above all that are out -/
theorem top_comp {h out : List Card} {s : Int} (s0 s1 s2 s3 s4 s5 s6 s7 s8 s9 s10 s11 s12 s13 s14 s16 s17 s18 : Slot) (h17 : notOwned s17 = true) (cf : Nat → List Slot → CR) {Q : Opd → En → Prop}
    (hQ : Q (.new (.lst (((ofS h s).filter (topB (ofS out s))).map cd))) [s0, s1, s2, s3, s4, s5, s6, s7, s8, s9, s10, s11, s12, s13, s14, .ow (.lst ((ofS out s).map cd)), s16, s17, s18]) :
    Ok (compM [17] (fun d => do
      bindT (.name 17) d
      let b ← evC cf (.some (.orr (.tr (.cmp .Eq (.v 15) (.lst .nil))) (.tr (.cmp .Gt (.v 17) (.bi .max (.cons (.v 15) .nil))))))
      if b then do let x ← evE cf (.v 17); let y ← escM x; pure (some y) else pure none) ((ofS h s).map cd) [s0, s1, s2, s3, s4, s5, s6, s7, s8, s9, s10, s11, s12, s13, s14, .ow (.lst ((ofS out s).map cd)), s16, s17, s18]) Q := by
  have hz := sizeL
  refine comp_fl (en := cd) (topB (ofS out s)) (by simp [h17]) (fun c hc => ?_) hQ
  cases q : ofS out s with
  | nil =>
    have e0 : cmpD .Eq (.list []) (.list []) = some true := by decide +kernel
    simp [wipeE, topB, e0, hz]
  | cons x xs =>
    have e0 : cmpD .Eq (.list (cd x :: xs.map cd)) (.list []) = some false := by
      have := eq_cds_nil (xs := x :: xs)
      simpa using this
    have mx := max_cds (x := x) (xs := xs)
    by_cases g : clt (maxL x xs) c = true
    · simp [wipeE, topB, e0, mx, hz, g]
    · simp [wipeE, topB, e0, mx, hz, g]
theorem U_ok {h out : List Card} {s : Nat} {m : Nat} (hc : Cds m h) (hl : h.length ≤ 1000) (s0 s1 s2 s3 s4 s5 s6 s7 s8 s10 s12 s14 s16 s17 s18 : Slot) (h14 : s14 = .ow (.lst ((ofS h s).map cd)) ∨ s14 = .sh (.list ((ofS h s).map cd))) (h17 : notOwned s17 = true) (Q : Fl → En → Prop)
    (hQ : ∀ s14 s15 s16, Q .nx [s0, s1, s2, s3, s4, s5, s6, s7, s8, .sh (hd out), s10, .sh (hd h), s12, .sh (nI s), s14, s15, s16, s17, s18]) :
    Ok (evSs (callN fs (n + 5)) U [s0, s1, s2, s3, s4, s5, s6, s7, s8, .sh (hd out), s10, .sh (hd h), s12, .sh (nI s), s14, .ow (.lst ((ofS out s).map cd)), s16, s17, s18]) Q := by
  have hz := sizeL
  have u1 := sure_ok (n := n + 4) (h := h) (out := out) (s := s)
  have u2 := rounds_ok (n := n + 4) (h := h) (out := out) (s := s)
  have a1 := al_ok (n := n) (d := .int (slg h out s)) rfl
  have a2 := al_ok (n := n) (d := rtc h out s) (by unfold rtc; split <;> rfl)
  have ll := le_nat (a := (ofS out s).length) (b := (ofS h s).length)
  have mx : biD .max [.int 0, .int (((ofS h s).length : Int) - ((ofS out s).length : Int))] = some (.val (.int (slg h out s))) := rfl
  have er : rtc h out s = if (ofS out s).length ≤ (ofS h s).length then nI (ofS out s).length else .none := rfl
  have tail : Ok (evSs (callN fs (n + 5)) V [s0, s1, s2, s3, s4, s5, s6, s7, s8, .sh (hd out), s10, .sh (hd h), s12, .sh (nI s), s14, .ow (.lst ((ofS out s).map cd)), s16, s17, s18]) Q := by
    have fin : ∀ s14, Ok (evSs (callN fs (n + 5)) (.cons (.ife (.tr (.cmp .NotEq (.comp [17] (.name 17) (.seq (.v 16)) (.some (.tr (.cmp .NotIn (.v 17) (.call 2 (.cons (.v 11) (.cons (.v 9) .nil)))))) (.v 17)) (.lst .nil))) (.cons (.ret (.c (.bool false))) .nil) .nil) .nil) [s0, s1, s2, s3, s4, s5, s6, s7, s8, .sh (hd out), s10, .sh (hd h), s12, .sh (nI s), s14, .ow (.lst ((ofS out s).map cd)), .ow (.lst (((ofS h s).filter (topB (ofS out s))).map cd)), s17, s18]) Q := fun s14 => by
      have m1 := masters_ok (n := n + 3) (h := h) (out := out)
      simp [w_comp]
      refine comp_fl (en := cd) (fun _ => false) (by simp [h17]) (fun c hcm => ?_) ?_
      · have hcm' : c ∈ ofS h s ∧ topB (ofS out s) c = true := List.mem_filter.mp hcm
        obtain ⟨g1, g2⟩ := ofS_mem.mp hcm'.1
        have hm : mst out c = true := top_mst (hc c g1).2.2 (by rw [g2]; exact hcm'.2)
        have hin : c ∈ h.filter (mst out) := List.mem_filter.mpr ⟨g1, hm⟩
        simp [wipeE, ok_call, m1, nin_hd, hin]
      · have ef : ((ofS h s).filter (topB (ofS out s))).filter (fun _ => false) = [] := by simp
        rw [ef]
        have e0 : cmpD .NotEq (.list []) (.list []) = some false := by decide +kernel
        simp [e0, hz]
        exact hQ _ _ _
    unfold V
    rcases h14 with rfl | rfl
    · simp [w_comp]
      refine top_comp _ _ _ _ _ _ _ _ _ _ _ _ _ _ _ _ _ _ h17 _ ?_
      have := fin (.sh (.list ((ofS h s).map cd)))
      simpa [w_comp] using this
    · simp [w_comp]
      refine top_comp _ _ _ _ _ _ _ _ _ _ _ _ _ _ _ _ _ _ h17 _ ?_
      have := fin (.sh (.list ((ofS h s).map cd)))
      simpa [w_comp] using this
  unfold U
  have hv : ∀ V', V' = V → Ok (evSs (callN fs (n + 5)) V' [s0, s1, s2, s3, s4, s5, s6, s7, s8, .sh (hd out), s10, .sh (hd h), s12, .sh (nI s), s14, .ow (.lst ((ofS out s).map cd)), s16, s17, s18]) Q := fun V' e => by subst e; exact tail
  obtain ⟨V', hV'⟩ : ∃ V', V' = V := ⟨_, rfl⟩
  rw [← hV']
  have tl := hv V' hV'
  simp only [nI] at *
  rw [er] at a2 u2
  rcases h14 with rfl | rfl
  · by_cases q : (ofS out s).length ≤ (ofS h s).length
    · rw [if_pos q] at a2 u2; simp [q] at ll
      simp [ok_call, u1, u2, a1, a2, ll, mx, nI, -Ev.max_ints]
      rw [if_pos q]; exact tl
    · rw [if_neg q] at a2 u2; simp [q] at ll
      simp [ok_call, u1, u2, a1, a2, ll, mx, -Ev.max_ints]
      rw [if_neg q]; exact tl
  · by_cases q : (ofS out s).length ≤ (ofS h s).length
    · rw [if_pos q] at a2 u2; simp [q] at ll
      simp [ok_call, u1, u2, a1, a2, ll, mx, nI, -Ev.max_ints]
      rw [if_pos q]; exact tl
    · rw [if_neg q] at a2 u2; simp [q] at ll
      simp [ok_call, u1, u2, a1, a2, ll, mx, -Ev.max_ints]
      rw [if_neg q]; exact tl
end
end Lw
namespace Lw
open PySem PySem.W Ev
@[irreducible] def lB2 : MSs := B_law_2
theorem lB2_eq : lB2 = B_law_2 := by with_unfolding_all rfl
@[irreducible] def lB1 : MSs := B_law_1
theorem lB1_eq : lB1 = B_law_1 := by with_unfolding_all rfl
@[irreducible] def lB3 : MSs := B_law_3
theorem lB3_eq : lB3 = B_law_3 := by with_unfolding_all rfl
section
variable {n : Nat} {L : List Int}
theorem ofS_len (h : List Card) (s : Int) : (ofS h s).length ≤ h.length := List.length_filter_le _ _
theorem T4_ok {h out : List Card} {m k : Nat} (hc : Cds m h) (hl : h.length ≤ 1000) (hlo : out.length ≤ 1000) (hm : m ≤ 100) (s0 s1 s2 s4 s5 s6 s7 s8 s10 s12 s13 s14 s15 s16 s17 s18 : Slot) (h17 : notOwned s17 = true) (Q : Fl → En → Prop)
    (hQ : ∀ s12 s13 s14 s15 s16, Q .nx [s0, s1, s2, .sh (cd ((m : Int), (k : Int))), s4, s5, s6, s7, s8, .sh (hd out), s10, .sh (hd h), s12, s13, s14, s15, s16, s17, s18]) :
    Ok (evSs (callN fs (n + 5)) lT4 [s0, s1, s2, .sh (cd ((m : Int), (k : Int))), s4, s5, s6, s7, s8, .sh (hd out), s10, .sh (hd h), s12, s13, s14, s15, s16, s17, s18]) Q := by
  have hz := sizeL
  have hr := rng_nat (n := m) (by omega)
  have ru := runs_ok (n := n + 4) (h := h) (out := out) (by omega) (by omega)
  rw [runs_eq hc] at ru
  have rl : (lruns h out (List.range m)).length ≤ 100 := by
    unfold lruns
    rw [List.length_map]
    have := List.length_filter_le (fun s : Nat => decide (ofS h s ≠ [])) (List.range m)
    rw [List.length_range] at this
    omega
  have a1 := al_ok (n := n) (tame_mono (tame_hd (h := lruns h out (List.range m)) (by omega)) (show 2 ≤ 3 by omega))
  rw [lT4_eq]
  simp [T4, w_for, hr]
  simp only [← lB2_eq]
  obtain ⟨J, hJ⟩ : ∃ J : List Nat → En → Prop, ∀ pre e, J pre e ↔ ∃ (acc : List Card) (s13 s14 s15 s16 : Slot), acc = lruns h out pre ∧ e = [s0, s1, s2, .sh (cd ((m : Int), (k : Int))), s4, s5, s6, s7, s8, .sh (hd out), s10, .sh (hd h), .ow (.lst (acc.map cd)), s13, s14, s15, s16, s17, s18] := ⟨_, fun _ _ => Iff.rfl⟩
  refine for_pre J ((hJ _ _).mpr ⟨[], _, _, _, _, rfl, rfl⟩) ?_ ?_
  · intro pre s suf e hx hj
    obtain ⟨acc, s13, s14, s15, s16, hacc, rfl⟩ := (hJ _ _).mp hj
    have hk0 := (range_split' hx).1
    have hk1 := (range_split' hx).2.1
    have hal : acc.length < 16777216 := by
      rw [hacc]; unfold lruns
      rw [List.length_map]
      have := List.length_filter_le (fun s : Nat => decide (ofS h s ≠ [])) pre
      omega
    have e1 : h.filter (fun o => decide (o.1 = (s : Int))) = ofS h s := rfl
    have e2 : out.filter (fun o => decide (o.1 = (s : Int))) = ofS out s := rfl
    rw [lB2_eq, B_law_2_eq]
    simp [w_comp]
    refine comp_fl (en := cd) (fun o => decide (o.1 = (s : Int))) (by simp [h17]) (fun c hc => by simp [wipeE]) ?_
    simp [w_comp]
    refine comp_fl (en := cd) (fun o => decide (o.1 = (s : Int))) (by simp [h17]) (fun c hc => by simp [wipeE]) ?_
    rw [e1, e2]
    simp only [← lU_eq]
    by_cases q : ofS h s = []
    · have ap : lruns h out (pre ++ [s]) = lruns h out pre := by simp [lruns, q]
      have nn : cmpD .NotEq (.list ((ofS h s).map cd)) (.list []) = some false := by rw [ne_cds_nil]; simp [q]
      simp [nn, hz, -ne_cds_nil]
      rw [lU_eq]
      refine U_ok hc hl _ _ _ _ _ _ _ _ _ _ _ _ _ _ _ (.inl rfl) h17 _ fun s14 s15 s16 => ?_
      exact (hJ _ _).mpr ⟨acc, _, _, _, _, by rw [ap]; exact hacc, rfl⟩
    · have ap : lruns h out (pre ++ [s]) = lruns h out pre ++ [row h out s] := by simp [lruns, q]
      have nn : cmpD .NotEq (.list ((ofS h s).map cd)) (.list []) = some true := by rw [ne_cds_nil]; simp [q]
      simp [nn, hz, w_comp, -ne_cds_nil]
      refine top_comp _ _ _ _ _ _ _ _ _ _ _ _ _ _ _ _ _ _ h17 _ ?_
      simp [hz, hal]
      rw [lU_eq]
      refine U_ok hc hl _ _ _ _ _ _ _ _ _ _ _ _ _ _ _ (.inr rfl) h17 _ fun s14 s15 s16 => ?_
      exact (hJ _ _).mpr ⟨acc ++ [row h out s], _, _, _, _, by rw [ap, hacc], by rw [List.map_append]; rfl⟩
  · intro e hj
    obtain ⟨acc, s13, s14, s15, s16, hacc, rfl⟩ := (hJ _ _).mp hj
    rw [← hacc] at ru a1
    simp [ok_call, ru, a1]
    exact hQ _ _ _ _ _
theorem T3_ok {h out : List Card} {m k : Nat} (hc : Cds m h) (hl : h.length ≤ 1000) (hlo : out.length ≤ 1000) (hm : m ≤ 100) (s0 s1 s2 s4 s5 s6 s7 s8 s10 s12 s13 s14 s15 s16 s17 s18 : Slot) (h17 : notOwned s17 = true) (h18 : notOwned s18 = true) (Q : Fl → En → Prop)
    (hQ : ∀ s12 s13 s14 s15 s16, Q .nx [s0, s1, s2, .sh (cd ((m : Int), (k : Int))), s4, s5, s6, s7, s8, .sh (hd out), s10, .sh (hd h), s12, s13, s14, s15, s16, s17, s18]) :
    Ok (evSs (callN fs (n + 5)) lT3 [s0, s1, s2, .sh (cd ((m : Int), (k : Int))), s4, s5, s6, s7, s8, .sh (hd out), s10, .sh (hd h), s12, s13, s14, s15, s16, s17, s18]) Q := by
  have hz := sizeL
  have lo := long_ok (n := n + 4) (h := h) (out := out)
  have fl : (h.filter fun c => decide (ofS out c.1 = [])).length ≤ 1000 := Nat.le_trans (List.length_filter_le _ _) hl
  have a1 := al_ok (n := n) (tame_mono (tame_hd (h := h.filter fun c => decide (ofS out c.1 = [])) (by omega)) (show 2 ≤ 3 by omega))
  have nm : ∀ c : Card, (c.1 ∉ out.map (·.1)) ↔ ofS out c.1 = [] := fun c => by
    unfold ofS
    rw [List.filter_eq_nil_iff, List.mem_map]
    constructor
    · intro h o ho e; exact h ⟨o, ho, by simpa using e⟩
    · rintro h ⟨o, ho, e⟩; exact h o ho (by simpa using e)
  rw [lT3_eq]
  simp [T3, ok_call, lo, w_comp]
  refine comp_fl (en := cd) (fun c => decide (ofS out c.1 = [])) (by simp [h17]) (fun c hcm => ?_) ?_
  · simp [wipeE, w_comp]
    refine comp_mp (en := cd) (fun o => .int o.1) (by simp [h18]) (fun o ho => by simp [wipeE]) ?_
    have nt := nin_TL (α := Int) (x := c.1) (xs := out.map (·.1))
    have e1 : out.map (fun o => PyData.int o.1) = (out.map (·.1)).map Datum.toD := by rw [List.map_map]; rfl
    have nt' : cmpD .NotIn (.int c.1) (.list ((out.map (·.1)).map Datum.toD)) = some (decide (ofS out c.1 = [])) := by
      rw [show (PyData.int c.1) = Datum.toD c.1 from rfl, nt]; congr 1; rw [decide_eq_decide]; exact nm c
    rw [e1]
    simp [nt', -List.map_map]
  · simp [a1]
    simp only [← lT4_eq]
    exact T4_ok hc hl hlo hm _ _ _ _ _ _ _ _ _ _ _ _ _ _ _ _ h17 _ fun s12 s13 s14 s15 s16 => hQ _ _ _ _ _
def hnd (d : List (List Card)) (cs : List Card) (p : Nat) : List Card := (nth d p []).filter fun c => decide (c ∉ cs)
theorem T2_ok {d : List (List Card)} {cs : List Card} {m k p : Nat} (hc : Cds m (hnd d cs p)) (hp : p < d.length) (hd0 : d.length ≤ 10) (hd1 : ∀ h ∈ d, h.length ≤ 100) (hm : m ≤ 100) (s0 s1 s2 s4 s5 s10 s11 s12 s13 s14 s15 s16 s17 s18 : Slot) (h17 : notOwned s17 = true) (h18 : notOwned s18 = true) (Q : Fl → En → Prop)
    (hQ : ∀ s11 s12 s13 s14 s15 s16, Q .nx [s0, s1, s2, .sh (cd ((m : Int), (k : Int))), s4, s5, .sh (dl d), .sh (hd cs), .sh (nI p), .sh (hd (srt (outC d cs p))), s10, s11, s12, s13, s14, s15, s16, s17, s18]) :
    Ok (evSs (callN fs (n + 5)) lT2 [s0, s1, s2, .sh (cd ((m : Int), (k : Int))), s4, s5, .sh (dl d), .sh (hd cs), .sh (nI p), .sh (hd (srt (outC d cs p))), s10, s11, s12, s13, s14, s15, s16, s17, s18]) Q := by
  have hz := sizeL
  have co := cards_out_ok (n := n + 4) (d := d) (cs := cs) (p := p) (by omega) hd1
  have hlo : (srt (outC d cs p)).length ≤ 1000 := by
    rw [srt_len]
    have := fm_len (f := grp d cs p) (z := 100) (fun k => grp_len hd1) (List.range d.length)
    rw [List.length_range] at this
    unfold outC
    omega
  have hlh : (hnd d cs p).length ≤ 1000 := by
    unfold hnd
    refine Nat.le_trans (List.length_filter_le _ _) ?_
    have := hd1 _ (nth_mem hp)
    omega
  generalize ho : srt (outC d cs p) = out at *
  generalize hh : hnd d cs p = h at *
  have ih := dl_at hp
  rw [Ev.getD_at hp (d := [])] at ih
  have a1 := al_ok (n := n) (tame_mono (tame_hd (h := out) (by omega)) (show 2 ≤ 3 by omega))
  have ms := masters_ok (n := n + 3) (h := h) (out := out)
  have ml : (h.filter (mst out)).length ≤ 1000 := Nat.le_trans (List.length_filter_le _ _) hlh
  have a2 := al_ok (n := n) (tame_mono (tame_hd (h := h.filter (mst out)) (by omega)) (show 2 ≤ 3 by omega))
  rw [lT2_eq]
  simp only [nI] at *
  simp [T2, w_comp, ih]
  refine comp_fl (en := cd) (fun c => decide (c ∉ cs)) (by simp [h17]) (fun c hcm => by simp [wipeE, nin_hd]) ?_
  have e1 : (nth d p []).filter (fun c => decide (c ∉ cs)) = h := hh
  rw [e1]
  simp [ok_call, co, a1, ms, w_comp]
  refine comp_fl (en := cd) (mst out) (by simp [h17]) (fun c hcm => ?_) ?_
  · simp [wipeE, w_comp]
    refine comp_fl (en := cd) (fun o => decide (o.1 = c.1) && decide (c.2 < o.2)) (by simp [h18]) (fun o ho => ?_) ?_
    · by_cases q : o.1 = c.1
      · by_cases q2 : c.2 < o.2 <;> simp [wipeE, q, q2]
      · simp [wipeE, q]
    · have em : mst out c = decide (out.filter (fun o => decide (o.1 = c.1) && decide (c.2 < o.2)) = []) := rfl
      have eq0 := eq_cds_nil (xs := out.filter fun o => decide (o.1 = c.1) && decide (c.2 < o.2))
      rw [← em] at eq0
      by_cases q : mst out c = true <;> simp [eq0, hz, q, -eq_cds_nil]
  · simp [a2]
    simp only [← lT3_eq]
    exact T3_ok hc hlh hlo hm _ _ _ _ _ _ _ _ _ _ _ _ _ _ _ _ h17 h18 _ fun s12 s13 s14 s15 s16 => hQ _ _ _ _ _ _
end
end Lw
namespace Lw
open PySem PySem.W Ev
section
variable {n : Nat} {L : List Int}
theorem T1_ok (hL : L.length ≤ 100000) {a m k p z : Nat} {d : List (List Card)} (g : GoodDeal m k p z d) (hp2 : 2 ≤ p) (hp : p ≤ 10) (hz1 : z ≤ 100) (hm : m ≤ 100) (s0 s2 s7 s8 s9 s10 s11 s12 s13 s14 s15 s16 s17 s18 : Slot) (h17 : notOwned s17 = true) (h18 : notOwned s18 = true) (Q : Fl → En → Prop)
    (hQ : ∀ a s7 s8 s9 s10 s11 s12 s13 s14 s15 s16, Q .nx [s0, .ow (W L a), s2, .sh (cd ((m : Int), (k : Int))), .sh (nI p), .sh (nI z), .sh (dl d), s7, s8, s9, s10, s11, s12, s13, s14, s15, s16, s17, s18]) :
    Ok (evSs (callN fs (n + 5)) lT1 [s0, .ow (W L a), s2, .sh (cd ((m : Int), (k : Int))), .sh (nI p), .sh (nI z), .sh (dl d), s7, s8, s9, s10, s11, s12, s13, s14, s15, s16, s17, s18]) Q := by
  have hz := sizeL
  have hdl : d.length = p := g.len
  have hd1 : ∀ h ∈ d, h.length ≤ 100 := fun h hh => by rw [g.size_ h hh]; exact hz1
  have hpz : p * z ≤ 10 * 100 := Nat.mul_le_mul hp hz1
  obtain ⟨i, hi, n1⟩ := drw (n := n + 4) f_law_next hL a (p * z + 1) rfl (by omega)
  have mul : binD .Mult (.int (p : Int)) (.int (z : Int)) = some (.val (.int ((p * z : Nat) : Int))) := by rw [mul_int, if_pos (by omega)]; simp
  have e1 : ((p * z : Nat) : Int) + 1 = ((p * z + 1 : Nat) : Int) := by omega
  obtain ⟨cs, st, a2, _, _, rp⟩ := rplay_ok (n := n + 2) f_law_random_play f_law_legal f_law_turn f_law_next f_law_played f_law_winner hL (a + 1) (d := d) (l := 0) (most := i) (tr := none) (by omega) (by omega) (by omega)
  have rp' : callN fs (n + 5) 17 [.pa (W L (a + 1)), .sh (dl d), .sh (.int 0), .sh .none, .sh (.int (i : Int))] = _ := rp
  obtain ⟨q, hq, n2⟩ := drw (n := n + 4) f_law_next hL a2 p rfl (by omega)
  have hr := rng_nat (n := p) (by omega)
  have hc : Cds m (hnd d cs q) := fun c hcm => by
    obtain ⟨s, r, q1, q2, rfl⟩ := mem_cards.mp (g.mem (nth_mem (show q < d.length by omega)) (List.mem_filter.mp hcm).1)
    exact ⟨by simp, by simpa using q1, by simp⟩
  have gl := fun k => grp_len (cs := cs) (p := q) (k := k) hd1
  rw [lT1_eq]
  simp only [nI] at *
  simp [T1, ok_call, mul, e1, n1, rp', n2, hz, w_for, hr, -mul_int, -Int.natCast_mul, -Int.natCast_add]
  simp only [← lB1_eq, ← lT2_eq]
  obtain ⟨J, hJ⟩ : ∃ J : List Nat → En → Prop, ∀ pre e, J pre e ↔ ∃ (acc : List Card) (s10 : Slot), acc = pre.flatMap (grp d cs q) ∧ e = [s0, .ow (W L (a2 + 1)), s2, .sh (cd ((m : Int), (k : Int))), .sh (.int (p : Int)), .sh (.int (z : Int)), .sh (dl d), .sh (hd cs), .sh (.int (q : Int)), .ow (.lst (acc.map cd)), s10, s11, s12, s13, s14, s15, s16, s17, s18] := ⟨_, fun _ _ => Iff.rfl⟩
  refine for_pre (en := fun (k : Nat) => .int (k : Int)) J ((hJ _ _).mpr ⟨[], _, rfl, rfl⟩) ?_ ?_
  · intro pre x suf e hx hj
    obtain ⟨acc, s10, hacc, rfl⟩ := (hJ _ _).mp hj
    have hk0 := (range_split' hx).1
    have hk1 : x < d.length := by rw [hdl]; exact (range_split' hx).2.1
    have ik := dl_at hk1
    rw [Ev.getD_at hk1 (d := [])] at ik
    have nn := ne_nat (a := x) (b := q)
    have hal : acc.length ≤ 1000 := by
      rw [hacc]
      have h1 := fm_len gl pre
      have : pre.length * 100 ≤ 10 * 100 := Nat.mul_le_mul_right _ (by omega)
      omega
    have hg := gl x
    have eg : (nth d x []).filter (fun c => decide (x ≠ q) && decide (c ∉ cs)) = grp d cs q x := by
      unfold grp
      by_cases e : x = q
      · simp [e]
      · simp [e]
    rw [lB1_eq]
    simp [B_law_1, w_comp, ik]
    refine comp_fl (en := cd) (fun c => decide (x ≠ q) && decide (c ∉ cs)) (by simp [h17]) (fun c hcm => ?_) ?_
    · by_cases e : x = q
      · simp [e] at nn
        simp [wipeE, nn, e]
      · simp [e] at nn
        by_cases e2 : c ∈ cs <;> simp [wipeE, nn, e, nin_hd, e2]
    · rw [eg]
      have ad : binD .Add (.list (acc.map cd)) (.list ((grp d cs q x).map cd)) = some (.new (.lst ((acc ++ grp d cs q x).map cd))) := by
        rw [add_lst, if_pos (by simp [hz]; omega), List.map_append]
      simp [ad, -add_lst]
      exact (hJ _ _).mpr ⟨acc ++ grp d cs q x, .sh (.int (x : Int)), by rw [hacc, List.flatMap_append]; simp, by simp⟩
  · intro e hj
    obtain ⟨acc, s10, hacc, rfl⟩ := (hJ _ _).mp hj
    have ea : acc = outC d cs q := by rw [hacc]; unfold outC; rw [hdl]
    rw [ea]
    simp
    exact T2_ok hc (by omega) (by omega) hd1 hm _ _ _ _ _ _ _ _ _ _ _ _ _ _ h17 h18 _ fun s11 s12 s13 s14 s15 s16 => hQ _ _ _ _ _ _ _ _ _ _ _
theorem turn_ok (hl : L.length ≤ 100000) (a : Nat) (s0 s2 s3 s4 s5 s6 s7 s8 s9 s10 s11 s12 s13 s14 s15 s16 s17 s18 : Slot) (h17 : notOwned s17 = true) (h18 : notOwned s18 = true) (Q : Fl → En → Prop)
    (hQ : ∀ a s3 s4 s5 s6 s7 s8 s9 s10 s11 s12 s13 s14 s15 s16, Q .nx [s0, .ow (W L a), s2, s3, s4, s5, s6, s7, s8, s9, s10, s11, s12, s13, s14, s15, s16, s17, s18]) :
    Ok (evSs (callN fs (n + 5)) lB3 [s0, .ow (W L a), s2, s3, s4, s5, s6, s7, s8, s9, s10, s11, s12, s13, s14, s15, s16, s17, s18]) Q := by
  have hz := sizeL
  obtain ⟨i0, h0, n0⟩ := drw (n := n + 4) f_law_next hl a (m := 4) 4 rfl (by omega)
  obtain ⟨i1, h1, n1⟩ := drw (n := n + 4) f_law_next hl (a + 1) (m := 4) 4 rfl (by omega)
  obtain ⟨i2, h2, n2⟩ := drw (n := n + 4) f_law_next hl (a + 1 + 1) (m := 3) 3 rfl (by omega)
  obtain ⟨m, hm⟩ : ∃ m : Nat, m = 1 + i0 := ⟨_, rfl⟩
  obtain ⟨k, hk⟩ : ∃ k : Nat, k = 4 + i1 := ⟨_, rfl⟩
  obtain ⟨p, hp⟩ : ∃ p : Nat, p = 2 + i2 := ⟨_, rfl⟩
  have em : (1 : Int) + (i0 : Int) = (m : Int) := by omega
  have ek : (4 : Int) + (i1 : Int) = (k : Int) := by omega
  have ep : (2 : Int) + (i2 : Int) = (p : Int) := by omega
  have mul : binD .Mult (.int (m : Int)) (.int (k : Int)) = some (.val (.int ((m * k : Nat) : Int))) := by rw [mul_int, if_pos (by omega)]; simp
  have dv : binD .FloorDiv (.int ((m * k : Nat) : Int)) (.int (p : Int)) = some (.val (.int ((m * k / p : Nat) : Int))) := by rw [div_int, if_pos (by omega)]; simp
  have hmk : 4 ≤ m * k := by
    have := Nat.mul_le_mul (show 1 ≤ m by omega) (show 4 ≤ k by omega); omega
  have hmk2 : m * k ≤ 28 := by
    have := Nat.mul_le_mul (show m ≤ 4 by omega) (show k ≤ 7 by omega); omega
  have hd1 : 1 ≤ m * k / p := by
    rw [Nat.le_div_iff_mul_le (by omega)]; omega
  obtain ⟨mx, hmx⟩ : ∃ mx : Nat, mx = m * k / p := ⟨_, rfl⟩
  rw [← hmx] at dv hd1
  obtain ⟨i3, h3, n3⟩ := drw (n := n + 4) f_law_next hl (a + 1 + 1 + 1) mx rfl (by omega)
  obtain ⟨z, hzd⟩ : ∃ z : Nat, z = 1 + i3 := ⟨_, rfl⟩
  have ez : (1 : Int) + (i3 : Int) = (z : Int) := by omega
  have hpz : p * z ≤ m * k := by
    have : z ≤ m * k / p := by omega
    exact Nat.le_trans (Nat.mul_le_mul_left _ this) (Nat.mul_div_le _ _)
  have hz28 : z ≤ 28 := by
    have : m * k / p ≤ m * k := Nat.div_le_self _ _
    omega
  obtain ⟨d, gd, hdeal⟩ := ldeal_ok (n := n + 3) f_law_deal f_law_cards f_law_next hl (a + 1 + 1 + 1 + 1) m k p z (by omega) (by omega) hpz (by omega) (by omega)
  rw [lB3_eq, B_law_3_eq]
  simp [ok_call, n0, n1, n2, em, ek, ep, mul, dv, n3, ez, hdeal, hz, -mul_int, -div_int, -Int.natCast_mul, -Int.natCast_ediv]
  simp only [← lT1_eq]
  exact T1_ok hl gd (by omega) (by omega) (by omega) (by omega) _ _ _ _ _ _ _ _ _ _ _ _ _ _ h17 h18 _ fun a s7 s8 s9 s10 s11 s12 s13 s14 s15 s16 => hQ _ _ _ _ _ _ _ _ _ _ _ _ _ _ _
theorem law_true (n : Nat) (ns : List Int) (h : ns.length ≤ 63) : ∃ outs, callN fs (n + 6) 18 [.sh (scrD ns)] = .ok (.val (.bool true)) outs := by
  have hz := sizeL
  obtain ⟨L, hl, hdr⟩ := draws_ok (n := n + 4) (m := 600) f_law_draws h (by omega)
  have hd' : callN fs (n + 5) 7 [.sh (scrD ns), .sh (.int 600)] = _ := hdr
  have hr : rngD [.int 8] = some ((List.range 8).map nI) := rng_nat (n := 8) (by omega)
  have hw := W_start (L := L)
  simp at hw
  refine ⟨[.no], cok_eq (cok_call (n := n + 5) (f := ⟨1, 19, b18⟩) rfl rfl ?_)⟩
  simp [b18, B_law, ok_call, hd', w_for, hr, hw, hz]
  simp only [← lB3_eq]
  obtain ⟨J, hJ⟩ : ∃ J : List Nat → En → Prop, ∀ pre e, J pre e ↔ ∃ a s2 s3 s4 s5 s6 s7 s8 s9 s10 s11 s12 s13 s14 s15 s16, e = [.sh (scrD ns), .ow (W L a), s2, s3, s4, s5, s6, s7, s8, s9, s10, s11, s12, s13, s14, s15, s16, .no, .no] := ⟨_, fun _ _ => Iff.rfl⟩
  refine for_pre J ((hJ _ _).mpr ⟨_, _, _, _, _, _, _, _, _, _, _, _, _, _, _, _, rfl⟩) ?_ ?_
  · intro pre x suf e hx hj
    obtain ⟨a, s2, s3, s4, s5, s6, s7, s8, s9, s10, s11, s12, s13, s14, s15, s16, rfl⟩ := (hJ _ _).mp hj
    simp
    refine turn_ok hl a _ _ _ _ _ _ _ _ _ _ _ _ _ _ _ _ _ _ rfl rfl _ fun a s3 s4 s5 s6 s7 s8 s9 s10 s11 s12 s13 s14 s15 s16 => ?_
    exact (hJ _ _).mpr ⟨a, _, _, _, _, _, _, _, _, _, _, _, _, _, _, _, rfl⟩
  · intro e hj
    obtain ⟨a, s2, s3, s4, s5, s6, s7, s8, s9, s10, s11, s12, s13, s14, s15, s16, rfl⟩ := (hJ _ _).mp hj
    simp
end
end Lw
namespace Lw
open PySem PySem.Spec PyProof.Rows L2 Ev
def topS (i : Nat) : Stmt := PySem.Challenge.pw_trickward_k07_what_is_still_out.main.body.getD i (.Pass ⟨0, 0, 0, 0⟩)
def G0 : Gs := ⟨[("cards_out", 0), ("is_master", 1), ("masters", 2), ("long_cards", 3), ("rounds_to_clear", 4), ("sure_long", 5), ("runs_of_masters", 6), ("_law_draws", 7), ("_law_next", 8), ("_law_alike", 10), ("_law_cards", 11), ("_law_deal", 12), ("_law_legal", 13), ("_law_winner", 14), ("_law_played", 15), ("_law_turn", 16), ("_law_random_play", 17), ("law", 18)], [], ["range", "len", "tuple", "sorted", "max", "dict", "abs", "int", "isinstance", "bool", "str"], [], []⟩
theorem sc0 : FnScope ["deal", "cards", "player", "found", "k", "card"] ["deal", "cards", "player"] (defScope (topS 1)) := ⟨rfl, rfl, rfl, by decide +kernel, rfl, by decide +kernel, by decide +kernel⟩
theorem t0 : trSs { G0 with N := ["deal", "cards", "player", "found", "k", "card"] } (defScope (topS 1)) 60 (defBody (topS 1)) = some b0 := by with_unfolding_all rfl
theorem sc1 : FnScope ["card", "out", "one"] ["card", "out"] (defScope (topS 2)) := ⟨rfl, rfl, rfl, by decide +kernel, rfl, by decide +kernel, by decide +kernel⟩
theorem t1 : trSs { G0 with N := ["card", "out", "one"] } (defScope (topS 2)) 60 (defBody (topS 2)) = some b1 := by with_unfolding_all rfl
theorem sc2 : FnScope ["hand", "out", "card"] ["hand", "out"] (defScope (topS 3)) := ⟨rfl, rfl, rfl, by decide +kernel, rfl, by decide +kernel, by decide +kernel⟩
theorem t2 : trSs { G0 with N := ["hand", "out", "card"] } (defScope (topS 3)) 60 (defBody (topS 3)) = some b2 := by with_unfolding_all rfl
theorem sc3 : FnScope ["hand", "out", "card", "one"] ["hand", "out"] (defScope (topS 4)) := ⟨rfl, rfl, rfl, by decide +kernel, rfl, by decide +kernel, by decide +kernel⟩
theorem t3 : trSs { G0 with N := ["hand", "out", "card", "one"] } (defScope (topS 4)) 60 (defBody (topS 4)) = some b3 := by with_unfolding_all rfl
theorem sc4 : FnScope ["hand", "out", "suit", "own", "left", "card"] ["hand", "out", "suit"] (defScope (topS 5)) := ⟨rfl, rfl, rfl, by decide +kernel, rfl, by decide +kernel, by decide +kernel⟩
theorem t4 : trSs { G0 with N := ["hand", "out", "suit", "own", "left", "card"] } (defScope (topS 5)) 60 (defBody (topS 5)) = some b4 := by with_unfolding_all rfl
theorem sc5 : FnScope ["hand", "out", "suit", "own", "left", "card"] ["hand", "out", "suit"] (defScope (topS 6)) := ⟨rfl, rfl, rfl, by decide +kernel, rfl, by decide +kernel, by decide +kernel⟩
theorem t5 : trSs { G0 with N := ["hand", "out", "suit", "own", "left", "card"] } (defScope (topS 6)) 60 (defBody (topS 6)) = some b5 := by with_unfolding_all rfl
theorem sc6 : FnScope ["hand", "out", "found", "suit", "ranks", "most", "card", "own", "rank"] ["hand", "out"] (defScope (topS 7)) := ⟨rfl, rfl, rfl, by decide +kernel, rfl, by decide +kernel, by decide +kernel⟩
theorem t6 : trSs { G0 with N := ["hand", "out", "found", "suit", "ranks", "most", "card", "own", "rank"] } (defScope (topS 7)) 60 (defBody (topS 7)) = some b6 := by with_unfolding_all rfl
theorem sc7 : FnScope ["script", "many", "draws", "mixed", "k", "cell", "rest", "turn"] ["script", "many"] (defScope (topS 9)) := ⟨rfl, rfl, rfl, by decide +kernel, rfl, by decide +kernel, by decide +kernel⟩
theorem t7 : trSs { G0 with N := ["script", "many", "draws", "mixed", "k", "cell", "rest", "turn"] } (defScope (topS 9)) 60 (defBody (topS 9)) = some b7 := by with_unfolding_all rfl
theorem sc8 : FnScope ["w", "many"] ["w", "many"] (defScope (topS 10)) := ⟨rfl, rfl, rfl, by decide +kernel, rfl, by decide +kernel, by decide +kernel⟩
theorem t8 : trSs { G0 with N := ["w", "many"] } (defScope (topS 10)) 60 (defBody (topS 10)) = some b8 := by with_unfolding_all rfl
theorem sc10 : FnScope ["told", "due", "k"] ["told", "due"] (defScope (topS 12)) := ⟨rfl, rfl, rfl, by decide +kernel, rfl, by decide +kernel, by decide +kernel⟩
theorem t10 : trSs { G0 with N := ["told", "due", "k"] } (defScope (topS 12)) 60 (defBody (topS 12)) = some b10 := by with_unfolding_all rfl
theorem sc11 : FnScope ["pack", "found", "suit", "rank"] ["pack"] (defScope (topS 13)) := ⟨rfl, rfl, rfl, by decide +kernel, rfl, by decide +kernel, by decide +kernel⟩
theorem t11 : trSs { G0 with N := ["pack", "found", "suit", "rank"] } (defScope (topS 13)) 60 (defBody (topS 13)) = some b11 := by with_unfolding_all rfl
theorem sc12 : FnScope ["w", "pack", "players", "size", "left", "hands", "player", "hand", "k", "card", "one"] ["w", "pack", "players", "size"] (defScope (topS 14)) := ⟨rfl, rfl, rfl, by decide +kernel, rfl, by decide +kernel, by decide +kernel⟩
theorem t12 : trSs { G0 with N := ["w", "pack", "players", "size", "left", "hands", "player", "hand", "k", "card", "one"] } (defScope (topS 14)) 60 (defBody (topS 14)) = some b12 := by with_unfolding_all rfl
theorem sc13 : FnScope ["hand", "table", "same", "card"] ["hand", "table"] (defScope (topS 15)) := ⟨rfl, rfl, rfl, by decide +kernel, rfl, by decide +kernel, by decide +kernel⟩
theorem t13 : trSs { G0 with N := ["hand", "table", "same", "card"] } (defScope (topS 15)) 60 (defBody (topS 15)) = some b13 := by with_unfolding_all rfl
theorem sc14 : FnScope ["table", "trump", "trumps", "able", "k", "j"] ["table", "trump"] (defScope (topS 16)) := ⟨rfl, rfl, rfl, by decide +kernel, rfl, by decide +kernel, by decide +kernel⟩
theorem t14 : trSs { G0 with N := ["table", "trump", "trumps", "able", "k", "j"] } (defScope (topS 16)) 60 (defBody (topS 16)) = some b14 := by with_unfolding_all rfl
theorem sc15 : FnScope ["state", "card", "trump", "hands", "leader", "table", "player", "won", "k", "one"] ["state", "card", "trump"] (defScope (topS 17)) := ⟨rfl, rfl, rfl, by decide +kernel, rfl, by decide +kernel, by decide +kernel⟩
theorem t15 : trSs { G0 with N := ["state", "card", "trump", "hands", "leader", "table", "player", "won", "k", "one"] } (defScope (topS 17)) 60 (defBody (topS 17)) = some b15 := by with_unfolding_all rfl
theorem sc16 : FnScope ["state"] ["state"] (defScope (topS 18)) := ⟨rfl, rfl, rfl, by decide +kernel, rfl, by decide +kernel, by decide +kernel⟩
theorem t16 : trSs { G0 with N := ["state"] } (defScope (topS 18)) 60 (defBody (topS 18)) = some b16 := by with_unfolding_all rfl
theorem sc17 : FnScope ["w", "deal", "leader", "trump", "most", "state", "found", "k", "able", "card"] ["w", "deal", "leader", "trump", "most"] (defScope (topS 19)) := ⟨rfl, rfl, rfl, by decide +kernel, rfl, by decide +kernel, by decide +kernel⟩
theorem t17 : trSs { G0 with N := ["w", "deal", "leader", "trump", "most", "state", "found", "k", "able", "card"] } (defScope (topS 19)) 60 (defBody (topS 19)) = some b17 := by with_unfolding_all rfl
theorem sc18 : FnScope ["script", "w", "turn", "pack", "players", "size", "deal", "cards", "player", "out", "k", "hand", "runs", "suit", "own", "left", "top", "card", "one"] ["script"] (defScope (topS 20)) := ⟨rfl, rfl, rfl, by decide +kernel, rfl, by decide +kernel, by decide +kernel⟩
theorem t18 : trSs { G0 with N := ["script", "w", "turn", "pack", "players", "size", "deal", "cards", "player", "out", "k", "hand", "runs", "suit", "own", "left", "top", "card", "one"] } (defScope (topS 20)) 60 (defBody (topS 20)) = some b18 := by with_unfolding_all rfl
theorem prg_mk {K : PySem.W.Frag} {h : Heap} {mg : Str → Option Value} (X : K.In h) (G : h.Ns mainGlobals mg)
  {od0 an0 : Option Addr} {sl0 : Array (Option Value)} {oc0 kV0 dc0 pm0 cd0 ct0 : Value} {f0 : Addr}
  {od1 an1 : Option Addr} {sl1 : Array (Option Value)} {oc1 kV1 dc1 pm1 cd1 ct1 : Value} {f1 : Addr}
  {od2 an2 : Option Addr} {sl2 : Array (Option Value)} {oc2 kV2 dc2 pm2 cd2 ct2 : Value} {f2 : Addr}
  {od3 an3 : Option Addr} {sl3 : Array (Option Value)} {oc3 kV3 dc3 pm3 cd3 ct3 : Value} {f3 : Addr}
  {od4 an4 : Option Addr} {sl4 : Array (Option Value)} {oc4 kV4 dc4 pm4 cd4 ct4 : Value} {f4 : Addr}
  {od5 an5 : Option Addr} {sl5 : Array (Option Value)} {oc5 kV5 dc5 pm5 cd5 ct5 : Value} {f5 : Addr}
  {od6 an6 : Option Addr} {sl6 : Array (Option Value)} {oc6 kV6 dc6 pm6 cd6 ct6 : Value} {f6 : Addr}
  {od7 an7 : Option Addr} {sl7 : Array (Option Value)} {oc7 kV7 dc7 pm7 cd7 ct7 : Value} {f7 : Addr}
  {od8 an8 : Option Addr} {sl8 : Array (Option Value)} {oc8 kV8 dc8 pm8 cd8 ct8 : Value} {f8 : Addr}
  {od10 an10 : Option Addr} {sl10 : Array (Option Value)} {oc10 kV10 dc10 pm10 cd10 ct10 : Value} {f10 : Addr}
  {od11 an11 : Option Addr} {sl11 : Array (Option Value)} {oc11 kV11 dc11 pm11 cd11 ct11 : Value} {f11 : Addr}
  {od12 an12 : Option Addr} {sl12 : Array (Option Value)} {oc12 kV12 dc12 pm12 cd12 ct12 : Value} {f12 : Addr}
  {od13 an13 : Option Addr} {sl13 : Array (Option Value)} {oc13 kV13 dc13 pm13 cd13 ct13 : Value} {f13 : Addr}
  {od14 an14 : Option Addr} {sl14 : Array (Option Value)} {oc14 kV14 dc14 pm14 cd14 ct14 : Value} {f14 : Addr}
  {od15 an15 : Option Addr} {sl15 : Array (Option Value)} {oc15 kV15 dc15 pm15 cd15 ct15 : Value} {f15 : Addr}
  {od16 an16 : Option Addr} {sl16 : Array (Option Value)} {oc16 kV16 dc16 pm16 cd16 ct16 : Value} {f16 : Addr}
  {od17 an17 : Option Addr} {sl17 : Array (Option Value)} {oc17 kV17 dc17 pm17 cd17 ct17 : Value} {f17 : Addr}
  {od18 an18 : Option Addr} {sl18 : Array (Option Value)} {oc18 kV18 dc18 pm18 cd18 ct18 : Value} {f18 : Addr}
  (a0 : PySem.W.nsIn K mainGlobals "cards_out" = some (some (.ref f0)))
  (l0 : K.lookup f0 = some ⟨oc0, od0, .func (PySem.W.fnOf "cards_out" "cards_out" (defArgs (topS 1)) (defBody (topS 1)) (defScope (topS 1)) .none kV0 dc0 pm0 an0 cd0 ct0), sl0⟩)
  (c0 : PySem.W.codeIn K cd0 "cards_out" = true)
  (k0 : PySem.W.keepIn K (.ref f0) = true)
  (a1 : PySem.W.nsIn K mainGlobals "is_master" = some (some (.ref f1)))
  (l1 : K.lookup f1 = some ⟨oc1, od1, .func (PySem.W.fnOf "is_master" "is_master" (defArgs (topS 2)) (defBody (topS 2)) (defScope (topS 2)) .none kV1 dc1 pm1 an1 cd1 ct1), sl1⟩)
  (c1 : PySem.W.codeIn K cd1 "is_master" = true)
  (k1 : PySem.W.keepIn K (.ref f1) = true)
  (a2 : PySem.W.nsIn K mainGlobals "masters" = some (some (.ref f2)))
  (l2 : K.lookup f2 = some ⟨oc2, od2, .func (PySem.W.fnOf "masters" "masters" (defArgs (topS 3)) (defBody (topS 3)) (defScope (topS 3)) .none kV2 dc2 pm2 an2 cd2 ct2), sl2⟩)
  (c2 : PySem.W.codeIn K cd2 "masters" = true)
  (k2 : PySem.W.keepIn K (.ref f2) = true)
  (a3 : PySem.W.nsIn K mainGlobals "long_cards" = some (some (.ref f3)))
  (l3 : K.lookup f3 = some ⟨oc3, od3, .func (PySem.W.fnOf "long_cards" "long_cards" (defArgs (topS 4)) (defBody (topS 4)) (defScope (topS 4)) .none kV3 dc3 pm3 an3 cd3 ct3), sl3⟩)
  (c3 : PySem.W.codeIn K cd3 "long_cards" = true)
  (k3 : PySem.W.keepIn K (.ref f3) = true)
  (a4 : PySem.W.nsIn K mainGlobals "rounds_to_clear" = some (some (.ref f4)))
  (l4 : K.lookup f4 = some ⟨oc4, od4, .func (PySem.W.fnOf "rounds_to_clear" "rounds_to_clear" (defArgs (topS 5)) (defBody (topS 5)) (defScope (topS 5)) .none kV4 dc4 pm4 an4 cd4 ct4), sl4⟩)
  (c4 : PySem.W.codeIn K cd4 "rounds_to_clear" = true)
  (k4 : PySem.W.keepIn K (.ref f4) = true)
  (a5 : PySem.W.nsIn K mainGlobals "sure_long" = some (some (.ref f5)))
  (l5 : K.lookup f5 = some ⟨oc5, od5, .func (PySem.W.fnOf "sure_long" "sure_long" (defArgs (topS 6)) (defBody (topS 6)) (defScope (topS 6)) .none kV5 dc5 pm5 an5 cd5 ct5), sl5⟩)
  (c5 : PySem.W.codeIn K cd5 "sure_long" = true)
  (k5 : PySem.W.keepIn K (.ref f5) = true)
  (a6 : PySem.W.nsIn K mainGlobals "runs_of_masters" = some (some (.ref f6)))
  (l6 : K.lookup f6 = some ⟨oc6, od6, .func (PySem.W.fnOf "runs_of_masters" "runs_of_masters" (defArgs (topS 7)) (defBody (topS 7)) (defScope (topS 7)) .none kV6 dc6 pm6 an6 cd6 ct6), sl6⟩)
  (c6 : PySem.W.codeIn K cd6 "runs_of_masters" = true)
  (k6 : PySem.W.keepIn K (.ref f6) = true)
  (a7 : PySem.W.nsIn K mainGlobals "_law_draws" = some (some (.ref f7)))
  (l7 : K.lookup f7 = some ⟨oc7, od7, .func (PySem.W.fnOf "_law_draws" "_law_draws" (defArgs (topS 9)) (defBody (topS 9)) (defScope (topS 9)) .none kV7 dc7 pm7 an7 cd7 ct7), sl7⟩)
  (c7 : PySem.W.codeIn K cd7 "_law_draws" = true)
  (k7 : PySem.W.keepIn K (.ref f7) = true)
  (a8 : PySem.W.nsIn K mainGlobals "_law_next" = some (some (.ref f8)))
  (l8 : K.lookup f8 = some ⟨oc8, od8, .func (PySem.W.fnOf "_law_next" "_law_next" (defArgs (topS 10)) (defBody (topS 10)) (defScope (topS 10)) .none kV8 dc8 pm8 an8 cd8 ct8), sl8⟩)
  (c8 : PySem.W.codeIn K cd8 "_law_next" = true)
  (k8 : PySem.W.keepIn K (.ref f8) = true)
  (a10 : PySem.W.nsIn K mainGlobals "_law_alike" = some (some (.ref f10)))
  (l10 : K.lookup f10 = some ⟨oc10, od10, .func (PySem.W.fnOf "_law_alike" "_law_alike" (defArgs (topS 12)) (defBody (topS 12)) (defScope (topS 12)) .none kV10 dc10 pm10 an10 cd10 ct10), sl10⟩)
  (c10 : PySem.W.codeIn K cd10 "_law_alike" = true)
  (k10 : PySem.W.keepIn K (.ref f10) = true)
  (a11 : PySem.W.nsIn K mainGlobals "_law_cards" = some (some (.ref f11)))
  (l11 : K.lookup f11 = some ⟨oc11, od11, .func (PySem.W.fnOf "_law_cards" "_law_cards" (defArgs (topS 13)) (defBody (topS 13)) (defScope (topS 13)) .none kV11 dc11 pm11 an11 cd11 ct11), sl11⟩)
  (c11 : PySem.W.codeIn K cd11 "_law_cards" = true)
  (k11 : PySem.W.keepIn K (.ref f11) = true)
  (a12 : PySem.W.nsIn K mainGlobals "_law_deal" = some (some (.ref f12)))
  (l12 : K.lookup f12 = some ⟨oc12, od12, .func (PySem.W.fnOf "_law_deal" "_law_deal" (defArgs (topS 14)) (defBody (topS 14)) (defScope (topS 14)) .none kV12 dc12 pm12 an12 cd12 ct12), sl12⟩)
  (c12 : PySem.W.codeIn K cd12 "_law_deal" = true)
  (k12 : PySem.W.keepIn K (.ref f12) = true)
  (a13 : PySem.W.nsIn K mainGlobals "_law_legal" = some (some (.ref f13)))
  (l13 : K.lookup f13 = some ⟨oc13, od13, .func (PySem.W.fnOf "_law_legal" "_law_legal" (defArgs (topS 15)) (defBody (topS 15)) (defScope (topS 15)) .none kV13 dc13 pm13 an13 cd13 ct13), sl13⟩)
  (c13 : PySem.W.codeIn K cd13 "_law_legal" = true)
  (k13 : PySem.W.keepIn K (.ref f13) = true)
  (a14 : PySem.W.nsIn K mainGlobals "_law_winner" = some (some (.ref f14)))
  (l14 : K.lookup f14 = some ⟨oc14, od14, .func (PySem.W.fnOf "_law_winner" "_law_winner" (defArgs (topS 16)) (defBody (topS 16)) (defScope (topS 16)) .none kV14 dc14 pm14 an14 cd14 ct14), sl14⟩)
  (c14 : PySem.W.codeIn K cd14 "_law_winner" = true)
  (k14 : PySem.W.keepIn K (.ref f14) = true)
  (a15 : PySem.W.nsIn K mainGlobals "_law_played" = some (some (.ref f15)))
  (l15 : K.lookup f15 = some ⟨oc15, od15, .func (PySem.W.fnOf "_law_played" "_law_played" (defArgs (topS 17)) (defBody (topS 17)) (defScope (topS 17)) .none kV15 dc15 pm15 an15 cd15 ct15), sl15⟩)
  (c15 : PySem.W.codeIn K cd15 "_law_played" = true)
  (k15 : PySem.W.keepIn K (.ref f15) = true)
  (a16 : PySem.W.nsIn K mainGlobals "_law_turn" = some (some (.ref f16)))
  (l16 : K.lookup f16 = some ⟨oc16, od16, .func (PySem.W.fnOf "_law_turn" "_law_turn" (defArgs (topS 18)) (defBody (topS 18)) (defScope (topS 18)) .none kV16 dc16 pm16 an16 cd16 ct16), sl16⟩)
  (c16 : PySem.W.codeIn K cd16 "_law_turn" = true)
  (k16 : PySem.W.keepIn K (.ref f16) = true)
  (a17 : PySem.W.nsIn K mainGlobals "_law_random_play" = some (some (.ref f17)))
  (l17 : K.lookup f17 = some ⟨oc17, od17, .func (PySem.W.fnOf "_law_random_play" "_law_random_play" (defArgs (topS 19)) (defBody (topS 19)) (defScope (topS 19)) .none kV17 dc17 pm17 an17 cd17 ct17), sl17⟩)
  (c17 : PySem.W.codeIn K cd17 "_law_random_play" = true)
  (k17 : PySem.W.keepIn K (.ref f17) = true)
  (a18 : PySem.W.nsIn K mainGlobals "law" = some (some (.ref f18)))
  (l18 : K.lookup f18 = some ⟨oc18, od18, .func (PySem.W.fnOf "law" "law" (defArgs (topS 20)) (defBody (topS 20)) (defScope (topS 20)) .none kV18 dc18 pm18 an18 cd18 ct18), sl18⟩)
  (c18 : PySem.W.codeIn K cd18 "law" = true)
  (k18 : PySem.W.keepIn K (.ref f18) = true)
  (z0 : PySem.W.nsIn K mainGlobals "range" = some none)
  (z1 : PySem.W.nsIn K mainGlobals "len" = some none)
  (z2 : PySem.W.nsIn K mainGlobals "tuple" = some none)
  (z3 : PySem.W.nsIn K mainGlobals "sorted" = some none)
  (z4 : PySem.W.nsIn K mainGlobals "max" = some none)
  (z5 : PySem.W.nsIn K mainGlobals "dict" = some none)
  (z6 : PySem.W.nsIn K mainGlobals "abs" = some none)
  (z7 : PySem.W.nsIn K mainGlobals "int" = some none)
  (z8 : PySem.W.nsIn K mainGlobals "isinstance" = some none)
  (z9 : PySem.W.nsIn K mainGlobals "bool" = some none)
  (z10 : PySem.W.nsIn K mainGlobals "str" = some none) :
    Prg K mg fs G0 := by
  have F0 := fun_mk (st := topS 1) l0 c0 k0
  have B0 := F0.binds (ps := ["deal", "cards", "player"]) fun _ _ _ _ _ _ us hl => match us, hl with | [_, _, _], _ => rfl
  have F1 := fun_mk (st := topS 2) l1 c1 k1
  have B1 := F1.binds (ps := ["card", "out"]) fun _ _ _ _ _ _ us hl => match us, hl with | [_, _], _ => rfl
  have F2 := fun_mk (st := topS 3) l2 c2 k2
  have B2 := F2.binds (ps := ["hand", "out"]) fun _ _ _ _ _ _ us hl => match us, hl with | [_, _], _ => rfl
  have F3 := fun_mk (st := topS 4) l3 c3 k3
  have B3 := F3.binds (ps := ["hand", "out"]) fun _ _ _ _ _ _ us hl => match us, hl with | [_, _], _ => rfl
  have F4 := fun_mk (st := topS 5) l4 c4 k4
  have B4 := F4.binds (ps := ["hand", "out", "suit"]) fun _ _ _ _ _ _ us hl => match us, hl with | [_, _, _], _ => rfl
  have F5 := fun_mk (st := topS 6) l5 c5 k5
  have B5 := F5.binds (ps := ["hand", "out", "suit"]) fun _ _ _ _ _ _ us hl => match us, hl with | [_, _, _], _ => rfl
  have F6 := fun_mk (st := topS 7) l6 c6 k6
  have B6 := F6.binds (ps := ["hand", "out"]) fun _ _ _ _ _ _ us hl => match us, hl with | [_, _], _ => rfl
  have F7 := fun_mk (st := topS 9) l7 c7 k7
  have B7 := F7.binds (ps := ["script", "many"]) fun _ _ _ _ _ _ us hl => match us, hl with | [_, _], _ => rfl
  have F8 := fun_mk (st := topS 10) l8 c8 k8
  have B8 := F8.binds (ps := ["w", "many"]) fun _ _ _ _ _ _ us hl => match us, hl with | [_, _], _ => rfl
  have F10 := fun_mk (st := topS 12) l10 c10 k10
  have B10 := F10.binds (ps := ["told", "due"]) fun _ _ _ _ _ _ us hl => match us, hl with | [_, _], _ => rfl
  have F11 := fun_mk (st := topS 13) l11 c11 k11
  have B11 := F11.binds (ps := ["pack"]) fun _ _ _ _ _ _ us hl => match us, hl with | [_], _ => rfl
  have F12 := fun_mk (st := topS 14) l12 c12 k12
  have B12 := F12.binds (ps := ["w", "pack", "players", "size"]) fun _ _ _ _ _ _ us hl => match us, hl with | [_, _, _, _], _ => rfl
  have F13 := fun_mk (st := topS 15) l13 c13 k13
  have B13 := F13.binds (ps := ["hand", "table"]) fun _ _ _ _ _ _ us hl => match us, hl with | [_, _], _ => rfl
  have F14 := fun_mk (st := topS 16) l14 c14 k14
  have B14 := F14.binds (ps := ["table", "trump"]) fun _ _ _ _ _ _ us hl => match us, hl with | [_, _], _ => rfl
  have F15 := fun_mk (st := topS 17) l15 c15 k15
  have B15 := F15.binds (ps := ["state", "card", "trump"]) fun _ _ _ _ _ _ us hl => match us, hl with | [_, _, _], _ => rfl
  have F16 := fun_mk (st := topS 18) l16 c16 k16
  have B16 := F16.binds (ps := ["state"]) fun _ _ _ _ _ _ us hl => match us, hl with | [_], _ => rfl
  have F17 := fun_mk (st := topS 19) l17 c17 k17
  have B17 := F17.binds (ps := ["w", "deal", "leader", "trump", "most"]) fun _ _ _ _ _ _ us hl => match us, hl with | [_, _, _, _, _], _ => rfl
  have F18 := fun_mk (st := topS 20) l18 c18 k18
  have B18 := F18.binds (ps := ["script"]) fun _ _ _ _ _ _ us hl => match us, hl with | [_], _ => rfl
  exact prg ⟨deft F0 (PySem.W.mg_of X G a0) B0 sc0 rfl rfl rfl t0, deft F1 (PySem.W.mg_of X G a1) B1 sc1 rfl rfl rfl t1, deft F2 (PySem.W.mg_of X G a2) B2 sc2 rfl rfl rfl t2, deft F3 (PySem.W.mg_of X G a3) B3 sc3 rfl rfl rfl t3, deft F4 (PySem.W.mg_of X G a4) B4 sc4 rfl rfl rfl t4, deft F5 (PySem.W.mg_of X G a5) B5 sc5 rfl rfl rfl t5, deft F6 (PySem.W.mg_of X G a6) B6 sc6 rfl rfl rfl t6, deft F7 (PySem.W.mg_of X G a7) B7 sc7 rfl rfl rfl t7, deft F8 (PySem.W.mg_of X G a8) B8 sc8 rfl rfl rfl t8, deft F10 (PySem.W.mg_of X G a10) B10 sc10 rfl rfl rfl t10, deft F11 (PySem.W.mg_of X G a11) B11 sc11 rfl rfl rfl t11, deft F12 (PySem.W.mg_of X G a12) B12 sc12 rfl rfl rfl t12, deft F13 (PySem.W.mg_of X G a13) B13 sc13 rfl rfl rfl t13, deft F14 (PySem.W.mg_of X G a14) B14 sc14 rfl rfl rfl t14, deft F15 (PySem.W.mg_of X G a15) B15 sc15 rfl rfl rfl t15, deft F16 (PySem.W.mg_of X G a16) B16 sc16 rfl rfl rfl t16, deft F17 (PySem.W.mg_of X G a17) B17 sc17 rfl rfl rfl t17, deft F18 (PySem.W.mg_of X G a18) B18 sc18 rfl rfl rfl t18, trivial⟩ trivial ⟨PySem.W.mg_none_of X G z0, PySem.W.mg_none_of X G z1, PySem.W.mg_none_of X G z2, PySem.W.mg_none_of X G z3, PySem.W.mg_none_of X G z4, PySem.W.mg_none_of X G z5, PySem.W.mg_none_of X G z6, PySem.W.mg_none_of X G z7, PySem.W.mg_none_of X G z8, PySem.W.mg_none_of X G z9, PySem.W.mg_none_of X G z10, trivial⟩
theorem all_mk {P : Program} {w : World} {K : PySem.W.Frag} {h : Heap} {mg : Str → Option Value} {fa : Addr} (X : K.In h) (G : h.Ns mainGlobals mg) (hfa : mg "law" = some (.ref fa))
  {od0 an0 : Option Addr} {sl0 : Array (Option Value)} {oc0 kV0 dc0 pm0 cd0 ct0 : Value} {f0 : Addr}
  {od1 an1 : Option Addr} {sl1 : Array (Option Value)} {oc1 kV1 dc1 pm1 cd1 ct1 : Value} {f1 : Addr}
  {od2 an2 : Option Addr} {sl2 : Array (Option Value)} {oc2 kV2 dc2 pm2 cd2 ct2 : Value} {f2 : Addr}
  {od3 an3 : Option Addr} {sl3 : Array (Option Value)} {oc3 kV3 dc3 pm3 cd3 ct3 : Value} {f3 : Addr}
  {od4 an4 : Option Addr} {sl4 : Array (Option Value)} {oc4 kV4 dc4 pm4 cd4 ct4 : Value} {f4 : Addr}
  {od5 an5 : Option Addr} {sl5 : Array (Option Value)} {oc5 kV5 dc5 pm5 cd5 ct5 : Value} {f5 : Addr}
  {od6 an6 : Option Addr} {sl6 : Array (Option Value)} {oc6 kV6 dc6 pm6 cd6 ct6 : Value} {f6 : Addr}
  {od7 an7 : Option Addr} {sl7 : Array (Option Value)} {oc7 kV7 dc7 pm7 cd7 ct7 : Value} {f7 : Addr}
  {od8 an8 : Option Addr} {sl8 : Array (Option Value)} {oc8 kV8 dc8 pm8 cd8 ct8 : Value} {f8 : Addr}
  {od10 an10 : Option Addr} {sl10 : Array (Option Value)} {oc10 kV10 dc10 pm10 cd10 ct10 : Value} {f10 : Addr}
  {od11 an11 : Option Addr} {sl11 : Array (Option Value)} {oc11 kV11 dc11 pm11 cd11 ct11 : Value} {f11 : Addr}
  {od12 an12 : Option Addr} {sl12 : Array (Option Value)} {oc12 kV12 dc12 pm12 cd12 ct12 : Value} {f12 : Addr}
  {od13 an13 : Option Addr} {sl13 : Array (Option Value)} {oc13 kV13 dc13 pm13 cd13 ct13 : Value} {f13 : Addr}
  {od14 an14 : Option Addr} {sl14 : Array (Option Value)} {oc14 kV14 dc14 pm14 cd14 ct14 : Value} {f14 : Addr}
  {od15 an15 : Option Addr} {sl15 : Array (Option Value)} {oc15 kV15 dc15 pm15 cd15 ct15 : Value} {f15 : Addr}
  {od16 an16 : Option Addr} {sl16 : Array (Option Value)} {oc16 kV16 dc16 pm16 cd16 ct16 : Value} {f16 : Addr}
  {od17 an17 : Option Addr} {sl17 : Array (Option Value)} {oc17 kV17 dc17 pm17 cd17 ct17 : Value} {f17 : Addr}
  {od18 an18 : Option Addr} {sl18 : Array (Option Value)} {oc18 kV18 dc18 pm18 cd18 ct18 : Value} {f18 : Addr}
  (a0 : PySem.W.nsIn K mainGlobals "cards_out" = some (some (.ref f0)))
  (l0 : K.lookup f0 = some ⟨oc0, od0, .func (PySem.W.fnOf "cards_out" "cards_out" (defArgs (topS 1)) (defBody (topS 1)) (defScope (topS 1)) .none kV0 dc0 pm0 an0 cd0 ct0), sl0⟩)
  (c0 : PySem.W.codeIn K cd0 "cards_out" = true)
  (k0 : PySem.W.keepIn K (.ref f0) = true)
  (a1 : PySem.W.nsIn K mainGlobals "is_master" = some (some (.ref f1)))
  (l1 : K.lookup f1 = some ⟨oc1, od1, .func (PySem.W.fnOf "is_master" "is_master" (defArgs (topS 2)) (defBody (topS 2)) (defScope (topS 2)) .none kV1 dc1 pm1 an1 cd1 ct1), sl1⟩)
  (c1 : PySem.W.codeIn K cd1 "is_master" = true)
  (k1 : PySem.W.keepIn K (.ref f1) = true)
  (a2 : PySem.W.nsIn K mainGlobals "masters" = some (some (.ref f2)))
  (l2 : K.lookup f2 = some ⟨oc2, od2, .func (PySem.W.fnOf "masters" "masters" (defArgs (topS 3)) (defBody (topS 3)) (defScope (topS 3)) .none kV2 dc2 pm2 an2 cd2 ct2), sl2⟩)
  (c2 : PySem.W.codeIn K cd2 "masters" = true)
  (k2 : PySem.W.keepIn K (.ref f2) = true)
  (a3 : PySem.W.nsIn K mainGlobals "long_cards" = some (some (.ref f3)))
  (l3 : K.lookup f3 = some ⟨oc3, od3, .func (PySem.W.fnOf "long_cards" "long_cards" (defArgs (topS 4)) (defBody (topS 4)) (defScope (topS 4)) .none kV3 dc3 pm3 an3 cd3 ct3), sl3⟩)
  (c3 : PySem.W.codeIn K cd3 "long_cards" = true)
  (k3 : PySem.W.keepIn K (.ref f3) = true)
  (a4 : PySem.W.nsIn K mainGlobals "rounds_to_clear" = some (some (.ref f4)))
  (l4 : K.lookup f4 = some ⟨oc4, od4, .func (PySem.W.fnOf "rounds_to_clear" "rounds_to_clear" (defArgs (topS 5)) (defBody (topS 5)) (defScope (topS 5)) .none kV4 dc4 pm4 an4 cd4 ct4), sl4⟩)
  (c4 : PySem.W.codeIn K cd4 "rounds_to_clear" = true)
  (k4 : PySem.W.keepIn K (.ref f4) = true)
  (a5 : PySem.W.nsIn K mainGlobals "sure_long" = some (some (.ref f5)))
  (l5 : K.lookup f5 = some ⟨oc5, od5, .func (PySem.W.fnOf "sure_long" "sure_long" (defArgs (topS 6)) (defBody (topS 6)) (defScope (topS 6)) .none kV5 dc5 pm5 an5 cd5 ct5), sl5⟩)
  (c5 : PySem.W.codeIn K cd5 "sure_long" = true)
  (k5 : PySem.W.keepIn K (.ref f5) = true)
  (a6 : PySem.W.nsIn K mainGlobals "runs_of_masters" = some (some (.ref f6)))
  (l6 : K.lookup f6 = some ⟨oc6, od6, .func (PySem.W.fnOf "runs_of_masters" "runs_of_masters" (defArgs (topS 7)) (defBody (topS 7)) (defScope (topS 7)) .none kV6 dc6 pm6 an6 cd6 ct6), sl6⟩)
  (c6 : PySem.W.codeIn K cd6 "runs_of_masters" = true)
  (k6 : PySem.W.keepIn K (.ref f6) = true)
  (a7 : PySem.W.nsIn K mainGlobals "_law_draws" = some (some (.ref f7)))
  (l7 : K.lookup f7 = some ⟨oc7, od7, .func (PySem.W.fnOf "_law_draws" "_law_draws" (defArgs (topS 9)) (defBody (topS 9)) (defScope (topS 9)) .none kV7 dc7 pm7 an7 cd7 ct7), sl7⟩)
  (c7 : PySem.W.codeIn K cd7 "_law_draws" = true)
  (k7 : PySem.W.keepIn K (.ref f7) = true)
  (a8 : PySem.W.nsIn K mainGlobals "_law_next" = some (some (.ref f8)))
  (l8 : K.lookup f8 = some ⟨oc8, od8, .func (PySem.W.fnOf "_law_next" "_law_next" (defArgs (topS 10)) (defBody (topS 10)) (defScope (topS 10)) .none kV8 dc8 pm8 an8 cd8 ct8), sl8⟩)
  (c8 : PySem.W.codeIn K cd8 "_law_next" = true)
  (k8 : PySem.W.keepIn K (.ref f8) = true)
  (a10 : PySem.W.nsIn K mainGlobals "_law_alike" = some (some (.ref f10)))
  (l10 : K.lookup f10 = some ⟨oc10, od10, .func (PySem.W.fnOf "_law_alike" "_law_alike" (defArgs (topS 12)) (defBody (topS 12)) (defScope (topS 12)) .none kV10 dc10 pm10 an10 cd10 ct10), sl10⟩)
  (c10 : PySem.W.codeIn K cd10 "_law_alike" = true)
  (k10 : PySem.W.keepIn K (.ref f10) = true)
  (a11 : PySem.W.nsIn K mainGlobals "_law_cards" = some (some (.ref f11)))
  (l11 : K.lookup f11 = some ⟨oc11, od11, .func (PySem.W.fnOf "_law_cards" "_law_cards" (defArgs (topS 13)) (defBody (topS 13)) (defScope (topS 13)) .none kV11 dc11 pm11 an11 cd11 ct11), sl11⟩)
  (c11 : PySem.W.codeIn K cd11 "_law_cards" = true)
  (k11 : PySem.W.keepIn K (.ref f11) = true)
  (a12 : PySem.W.nsIn K mainGlobals "_law_deal" = some (some (.ref f12)))
  (l12 : K.lookup f12 = some ⟨oc12, od12, .func (PySem.W.fnOf "_law_deal" "_law_deal" (defArgs (topS 14)) (defBody (topS 14)) (defScope (topS 14)) .none kV12 dc12 pm12 an12 cd12 ct12), sl12⟩)
  (c12 : PySem.W.codeIn K cd12 "_law_deal" = true)
  (k12 : PySem.W.keepIn K (.ref f12) = true)
  (a13 : PySem.W.nsIn K mainGlobals "_law_legal" = some (some (.ref f13)))
  (l13 : K.lookup f13 = some ⟨oc13, od13, .func (PySem.W.fnOf "_law_legal" "_law_legal" (defArgs (topS 15)) (defBody (topS 15)) (defScope (topS 15)) .none kV13 dc13 pm13 an13 cd13 ct13), sl13⟩)
  (c13 : PySem.W.codeIn K cd13 "_law_legal" = true)
  (k13 : PySem.W.keepIn K (.ref f13) = true)
  (a14 : PySem.W.nsIn K mainGlobals "_law_winner" = some (some (.ref f14)))
  (l14 : K.lookup f14 = some ⟨oc14, od14, .func (PySem.W.fnOf "_law_winner" "_law_winner" (defArgs (topS 16)) (defBody (topS 16)) (defScope (topS 16)) .none kV14 dc14 pm14 an14 cd14 ct14), sl14⟩)
  (c14 : PySem.W.codeIn K cd14 "_law_winner" = true)
  (k14 : PySem.W.keepIn K (.ref f14) = true)
  (a15 : PySem.W.nsIn K mainGlobals "_law_played" = some (some (.ref f15)))
  (l15 : K.lookup f15 = some ⟨oc15, od15, .func (PySem.W.fnOf "_law_played" "_law_played" (defArgs (topS 17)) (defBody (topS 17)) (defScope (topS 17)) .none kV15 dc15 pm15 an15 cd15 ct15), sl15⟩)
  (c15 : PySem.W.codeIn K cd15 "_law_played" = true)
  (k15 : PySem.W.keepIn K (.ref f15) = true)
  (a16 : PySem.W.nsIn K mainGlobals "_law_turn" = some (some (.ref f16)))
  (l16 : K.lookup f16 = some ⟨oc16, od16, .func (PySem.W.fnOf "_law_turn" "_law_turn" (defArgs (topS 18)) (defBody (topS 18)) (defScope (topS 18)) .none kV16 dc16 pm16 an16 cd16 ct16), sl16⟩)
  (c16 : PySem.W.codeIn K cd16 "_law_turn" = true)
  (k16 : PySem.W.keepIn K (.ref f16) = true)
  (a17 : PySem.W.nsIn K mainGlobals "_law_random_play" = some (some (.ref f17)))
  (l17 : K.lookup f17 = some ⟨oc17, od17, .func (PySem.W.fnOf "_law_random_play" "_law_random_play" (defArgs (topS 19)) (defBody (topS 19)) (defScope (topS 19)) .none kV17 dc17 pm17 an17 cd17 ct17), sl17⟩)
  (c17 : PySem.W.codeIn K cd17 "_law_random_play" = true)
  (k17 : PySem.W.keepIn K (.ref f17) = true)
  (a18 : PySem.W.nsIn K mainGlobals "law" = some (some (.ref f18)))
  (l18 : K.lookup f18 = some ⟨oc18, od18, .func (PySem.W.fnOf "law" "law" (defArgs (topS 20)) (defBody (topS 20)) (defScope (topS 20)) .none kV18 dc18 pm18 an18 cd18 ct18), sl18⟩)
  (c18 : PySem.W.codeIn K cd18 "law" = true)
  (k18 : PySem.W.keepIn K (.ref f18) = true)
  (z0 : PySem.W.nsIn K mainGlobals "range" = some none)
  (z1 : PySem.W.nsIn K mainGlobals "len" = some none)
  (z2 : PySem.W.nsIn K mainGlobals "tuple" = some none)
  (z3 : PySem.W.nsIn K mainGlobals "sorted" = some none)
  (z4 : PySem.W.nsIn K mainGlobals "max" = some none)
  (z5 : PySem.W.nsIn K mainGlobals "dict" = some none)
  (z6 : PySem.W.nsIn K mainGlobals "abs" = some none)
  (z7 : PySem.W.nsIn K mainGlobals "int" = some none)
  (z8 : PySem.W.nsIn K mainGlobals "isinstance" = some none)
  (z9 : PySem.W.nsIn K mainGlobals "bool" = some none)
  (z10 : PySem.W.nsIn K mainGlobals "str" = some none) :
    ∃ fd : FuncData, (∀ (s : Shared) (v : Value), BindsTo s fd ⟨[v], []⟩ [("script", v)]) ∧ ∀ base : Heap, K.In base → base.Ns mainGlobals mg → FnOk P w K mg base CX0 6 fa fd ["script"] (spE ⟨K, P, w⟩ (callN fs 6 18)) := by
  have e := hfa.symm.trans (PySem.W.mg_of X G a18)
  cases e
  exact ⟨_, fun s v => .of_eq rfl, fun base _ _ => law_fn (prg_mk X G a0 l0 c0 k0 a1 l1 c1 k1 a2 l2 c2 k2 a3 l3 c3 k3 a4 l4 c4 k4 a5 l5 c5 k5 a6 l6 c6 k6 a7 l7 c7 k7 a8 l8 c8 k8 a10 l10 c10 k10 a11 l11 c11 k11 a12 l12 c12 k12 a13 l13 c13 k13 a14 l14 c14 k14 a15 l15 c15 k15 a16 l16 c16 k16 a17 l17 c17 k17 a18 l18 c18 k18 z0 z1 z2 z3 z4 z5 z6 z7 z8 z9 z10) 5 "law" (fun_mk (st := topS 20) l18 c18 k18) sc18 rfl rfl rfl t18⟩
end Lw
open PySem PySem.W PyProof.Rows
set_option maxHeartbeats 0 in
theorem PySem.Challenge.cw_trickward_k07_what_is_still_out_holds : PySem.Challenge.rw_trickward_k07_what_is_still_out.Holds := by
  w_on; o_law; k_head; (case hw => w_witness2)
  k_fill
  refine L2.walk_of (l := PySem.Challenge.rw_trickward_k07_what_is_still_out) (n := 63) (k := 6) (x := "script") (CX := fun _ => L2.CX0) (sp := fun w => Ev.spE ⟨_, PySem.Challenge.rw_trickward_k07_what_is_still_out.prog, w⟩ (Ev.callN Lw.fs 6 18)) rfl (by decide) rfl ⟨rfl, by decide, by decide⟩ (fun w h Y => PySem.W.kIn_of Y) ?F (fun _ _ a ns hl _ hS => (Lw.law_true 0 ns hl).elim fun outs e => Ev.law_sp hS e) (fun _ _ _ _ _ h => h)
  case F =>
    intro w mg fa h KX G hmg
    refine' Lw.all_mk KX G hmg ?a0 ?l0 ?c0 ?k0 ?a1 ?l1 ?c1 ?k1 ?a2 ?l2 ?c2 ?k2 ?a3 ?l3 ?c3 ?k3 ?a4 ?l4 ?c4 ?k4 ?a5 ?l5 ?c5 ?k5 ?a6 ?l6 ?c6 ?k6 ?a7 ?l7 ?c7 ?k7 ?a8 ?l8 ?c8 ?k8 ?a10 ?l10 ?c10 ?k10 ?a11 ?l11 ?c11 ?k11 ?a12 ?l12 ?c12 ?k12 ?a13 ?l13 ?c13 ?k13 ?a14 ?l14 ?c14 ?k14 ?a15 ?l15 ?c15 ?k15 ?a16 ?l16 ?c16 ?k16 ?a17 ?l17 ?c17 ?k17 ?a18 ?l18 ?c18 ?k18 ?z0 ?z1 ?z2 ?z3 ?z4 ?z5 ?z6 ?z7 ?z8 ?z9 ?z10
    (case a0 => k_is)
    (case l0 => k_is)
    (case c0 => k_is)
    (case k0 => k_is)
    (case a1 => k_is)
    (case l1 => k_is)
    (case c1 => k_is)
    (case k1 => k_is)
    (case a2 => k_is)
    (case l2 => k_is)
    (case c2 => k_is)
    (case k2 => k_is)
    (case a3 => k_is)
    (case l3 => k_is)
    (case c3 => k_is)
    (case k3 => k_is)
    (case a4 => k_is)
    (case l4 => k_is)
    (case c4 => k_is)
    (case k4 => k_is)
    (case a5 => k_is)
    (case l5 => k_is)
    (case c5 => k_is)
    (case k5 => k_is)
    (case a6 => k_is)
    (case l6 => k_is)
    (case c6 => k_is)
    (case k6 => k_is)
    (case a7 => k_is)
    (case l7 => k_is)
    (case c7 => k_is)
    (case k7 => k_is)
    (case a8 => k_is)
    (case l8 => k_is)
    (case c8 => k_is)
    (case k8 => k_is)
    (case a10 => k_is)
    (case l10 => k_is)
    (case c10 => k_is)
    (case k10 => k_is)
    (case a11 => k_is)
    (case l11 => k_is)
    (case c11 => k_is)
    (case k11 => k_is)
    (case a12 => k_is)
    (case l12 => k_is)
    (case c12 => k_is)
    (case k12 => k_is)
    (case a13 => k_is)
    (case l13 => k_is)
    (case c13 => k_is)
    (case k13 => k_is)
    (case a14 => k_is)
    (case l14 => k_is)
    (case c14 => k_is)
    (case k14 => k_is)
    (case a15 => k_is)
    (case l15 => k_is)
    (case c15 => k_is)
    (case k15 => k_is)
    (case a16 => k_is)
    (case l16 => k_is)
    (case c16 => k_is)
    (case k16 => k_is)
    (case a17 => k_is)
    (case l17 => k_is)
    (case c17 => k_is)
    (case k17 => k_is)
    (case a18 => k_is)
    (case l18 => k_is)
    (case c18 => k_is)
    (case k18 => k_is)
    (case z0 => k_is)
    (case z1 => k_is)
    (case z2 => k_is)
    (case z3 => k_is)
    (case z4 => k_is)
    (case z5 => k_is)
    (case z6 => k_is)
    (case z7 => k_is)
    (case z8 => k_is)
    (case z9 => k_is)
    (case z10 => k_is)

