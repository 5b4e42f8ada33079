import PyProof.Rows.All
import Wide.All
import OpenK.AllK
import Wide.FinOn
import HandS.ForMost
import HandS.ForExc
import HandS.Walk
import HandS.Zip
import HandS.Wide
import HandS.Lambda
import HandS.HeadHook1
import HandS.TupAny
import HandS.TupMul
import HandS.Deep
import HandS.Style
import HandS.IsInst
import HandS.Conv
import HandS.SortInts
import HandS.TryOnly
import HandS.Strs
import HandS.SortRule
import KE.KDictSum
import HandS.Set
import HandS.TupSets
import HandS.Iter
import HandS.DictComp
import KE.KDictPairs
import KE.KDictDisplayH
import PyProof.Rows.TupDisplay
import HandS.SetFor
import HandS.NoneIn
import KE.DataMinMax
import KE.SortData
import OpenK.KOps
import KE.GoesMore
import HandS.HeadHook2
import HandS.HeadEnd
import HandS.ExcIs
import HandS.Codes
import HandS.NamedTupSort
import HandS.SortKw
import KE.SortKeyHeap
import KE.KNestM
import HandS.HeadWalk
import KE.KStateDown
import HandS.Head0
import HandS.Head1
import HandS.Head2
import PySem.Challenge.RW_panestacks_k58_whole_placing
set_option Elab.async false
set_option linter.all false
set_option maxRecDepth 100000
set_option autoImplicit false
namespace Pan
open PySem L2
/-- data -/
inductive D where
  | non
  | bl (b : Bool)
  | int (i : Int)
  | str (x : Str)
  | tup (xs : List D)
  | lst (xs : List D)
  /-- a pair that a walk has just made -/
  | prs (xs : List D)
  /-- a dict; whether its keys are tuples -/
  | dic (t : Bool) (kvs : List (D × D))
  | ty (n : String)
  /-- the law's script -/
  | scr (ns : List Int)
  deriving Inhabited
/-- an answer: a value, an exception of the program's own (by its number), or nothing that is told -/
inductive R (α : Type) where
  | ok (a : α)
  | exc (c : Nat)
  | bad
  deriving Inhabited
def R.bind {α β : Type} : R α → (α → R β) → R β
  | .ok a, f => f a
  | .exc c, _ => .exc c
  | .bad, _ => .bad
instance : Monad R where
  pure := .ok
  bind := R.bind
@[simp] theorem bind_ok {α β : Type} (a : α) (f : α → R β) : (R.ok a >>= f) = f a := rfl
@[simp] theorem bind_exc {α β : Type} (c : Nat) (f : α → R β) : ((R.exc c : R α) >>= f) = .exc c := rfl
@[simp] theorem bind_bad {α β : Type} (f : α → R β) : ((R.bad : R α) >>= f) = .bad := rfl
@[simp] theorem pure_ok {α : Type} (a : α) : (pure a : R α) = .ok a := rfl
/-- what may not be raised here is not told -/
def R.calm {α : Type} : R α → R α
  | .ok a => .ok a
  | _ => .bad
@[simp] theorem calm_ok {α : Type} (a : α) : (R.ok a).calm = .ok a := rfl
/-- a desktop: its windows, its order, what undo and redo keep -/
structure Ob where
  p : D
  n : D
  dn : List D
  un : List D
  deriving Inhabited
/-- a local name's place: empty, data that stays, or a list or dict that this def alone holds and may change -/
inductive Slot where
  | no
  | val (d : D)
  | own (d : D)
  /-- an exception of the class c, at a -/
  | held (c a : Nat)
  /-- a desktop that no other name holds; whether the def was given it -/
  | obj (home : Bool) (o : Ob)
  deriving Inhabited
abbrev Env := List Slot
def wipeE (e : Env) : List Nat → Env
  | [] => e
  | v :: vs => (wipeE e vs).set v .no
def b2i (b : Bool) : Int := if b then 1 else 0
mutual
def eqv : D → D → Bool
  | .non, .non => true
  | .bl a, .bl b => a == b
  | .bl a, .int j => b2i a == j
  | .int i, .bl b => i == b2i b
  | .int i, .int j => i == j
  | .str x, .str y => x == y
  | .lst xs, .lst ys => eqvs xs ys
  | .tup xs, .tup ys => eqvs xs ys
  | _, _ => false
def eqvs : List D → List D → Bool
  | [], [] => true
  | x :: xs, y :: ys => eqv x y && eqvs xs ys
  | _, _ => false
end
/-- no dict, no class, not deeper than n -/
def okd : Nat → D → Bool
  | _, .non => true
  | _, .bl _ => true
  | _, .int _ => true
  | _, .str x => PyData.strOk x
  | n + 1, .tup xs => xs.all (okd n)
  | n + 1, .lst xs => xs.all (okd n)
  | _, _ => false
/-- flat: no tuple, list, dict -/
def flatD : D → Bool
  | .non => true
  | .bl _ => true
  | .int _ => true
  | .str _ => true
  | _ => false
def cutL {α : Type} (xs : List α) (lo hi : Option Int) : List α := (xs.drop (HT.sIx xs.length 0 lo)).take (HT.sIx xs.length xs.length hi - HT.sIx xs.length 0 lo)
def fitL {α : Type} (xs : List α) (k : List α → D) : R D := if xs.length ≤ sizeLine then .ok (k xs) else .bad
def divS (i j : Int) : R D := if 0 < j ∧ j < 2 ^ 64 then .ok (.int (i / j)) else .bad
def mulS (i j : Int) : R D := if (-(2 ^ 64) < i ∧ i < 2 ^ 64) ∨ (-(2 ^ 64) < j ∧ j < 2 ^ 64) then .ok (.int (i * j)) else .bad
def binS : Operator → D → D → R D
  | .Add, .int i, .int j => .ok (.int (i + j))
  | .Add, .str x, .str y => if x.length + y.length ≤ sizeLine then .ok (.str (x ++ y)) else .bad
  | .Add, .tup xs, .tup ys => fitL (xs ++ ys) .tup
  | .Add, .lst xs, .lst ys => fitL (xs ++ ys) .lst
  | .Sub, .int i, .int j => .ok (.int (i - j))
  | .Mult, .int i, .int j => mulS i j
  | .Mult, .tup xs, .int k => if 0 ≤ k ∧ k ≤ 1000 ∧ xs.length ≤ 1000 ∧ 0 < xs.length then .ok (.tup (List.replicate k.toNat xs).flatten) else .bad
  | .Mult, .lst xs, .int k => if 0 ≤ k ∧ k ≤ 1000 ∧ xs.length ≤ 1000 then .ok (.lst (List.replicate k.toNat xs).flatten) else .bad
  | .FloorDiv, .int i, .int j => divS i j
  | .Mod, .int i, .int j => if 0 < j then .ok (.int (i % j)) else .bad
  | .Pow, .int i, .int j => if 0 ≤ j ∧ j ≤ 1000 ∧ i.natAbs < 2 ^ 64 then .ok (.int (i ^ j.toNat)) else .bad
  | _, _, _ => .bad
def intsOf : List D → Option (List Int)
  | [] => some []
  | .int i :: r => (intsOf r).map (i :: ·)
  | _ => none
def dlook (k : D) : List (D × D) → Option D
  | [] => none
  | (a, v) :: r => if eqv a k then some v else dlook k r
def dput (k v : D) (kvs : List (D × D)) : List (D × D) :=
  if kvs.any (fun p => eqv p.1 k) then kvs.map (fun p => if eqv p.1 k then (p.1, v) else p) else kvs ++ [(k, v)]
/-- of one kind: ints; tuples of ints -/
def isIntD : D → Bool
  | .int _ => true
  | _ => false
/-- a dict's key: an int or a text, or a tuple of ints -/
def keyD : D → Bool
  | .int _ => true
  | .str _ => true
  | _ => false
def keyT : D → Bool
  | .tup xs => xs.all isIntD
  | _ => false
def keyOf (t : Bool) (d : D) : Bool := if t then keyT d else keyD d
def inS (a : D) : D → R Bool
  | .tup xs => if flatD a && xs.all flatD then .ok (xs.any (eqv · a)) else .bad
  | .lst xs => if okd 8 a && xs.all (okd 8) then .ok (xs.any (eqv · a)) else .bad
  | .dic t kvs => if keyOf t a then .ok (dlook a kvs).isSome else .bad
  | .str z => match a with
    | .str y => (match y.cps.toList with
      | [c] => .ok (decide (c ∈ z.cps.toList))
      | _ => .bad)
    | _ => .bad
  | _ => .bad
def isS (a : D) : D → R Bool
  | .non => match a with
    | .non => .ok true
    | _ => .ok false
  | .bl b => match a with
    | .bl c => .ok (c == b)
    | .non => .ok false
    | _ => .bad
  | _ => .bad
def ltS : D → D → R Bool
  | .int i, .int j => .ok (decide (i < j))
  | .tup xs, .tup ys => match intsOf xs, intsOf ys with
    | some ns, some ms => .ok (HT.lexLt ns ms)
    | _, _ => .bad
  | _, _ => .bad
def cmpS : CmpOp → D → D → R Bool
  | .Eq, .scr ns, .lst [] => .ok ns.isEmpty
  | .NotEq, .scr ns, .lst [] => .ok (!ns.isEmpty)
  | .Eq, a, b => if okd 8 a && okd 8 b then .ok (eqv a b) else .bad
  | .NotEq, a, b => if okd 8 a && okd 8 b then .ok (!eqv a b) else .bad
  | .Lt, a, b => ltS a b
  | .LtE, .int i, .int j => .ok (decide (i ≤ j))
  | .Gt, .int i, .int j => .ok (decide (j < i))
  | .GtE, .int i, .int j => .ok (decide (j ≤ i))
  | .In, a, b => inS a b
  | .NotIn, a, b => do let r ← inS a b; .ok (!r)
  | .Is, a, b => isS a b
  | .IsNot, a, b => do let r ← isS a b; .ok (!r)
  | _, _, _ => .bad
def ixS : D → D → R D
  | .scr ns, .int i => match atI ns i with
    | some d => .ok (.int d)
    | none => .bad
  | .lst xs, .int i => match atI xs i with
    | some d => .ok d
    | none => .bad
  | .tup xs, .int i => match atI xs i with
    | some d => .ok d
    | none => .bad
  | .str z, .int i => if z.length ≤ sizeLine then (match atI z.cps.toList i with
    | some c => .ok (.str ⟨#[c]⟩)
    | none => .bad) else .bad
  | .dic t kvs, k => if keyOf t k then (match dlook k kvs with
    | some v => .ok v
    | none => .bad) else .bad
  | _, _ => .bad
def slS : D → Option Int → Option Int → R D
  | .lst xs, lo, hi => .ok (.lst (cutL xs lo hi))
  | .tup xs, lo, hi => .ok (.tup (cutL xs lo hi))
  | .str z, lo, hi => if z.length ≤ sizeLine then .ok (.str (cutS z lo hi)) else .bad
  | _, _, _ => .bad
def revS : D → R D
  | .lst xs => .ok (.lst xs.reverse)
  | _ => .bad
inductive Bi where
  | len | max | min | abs | all | any | sum | tuple | list | sorted | str | int | isinst | dict | sortset | lenset | lrange
  deriving DecidableEq
inductive Mt where
  | index | count | split | join
  deriving DecidableEq
/-- what is walked: a list or tuple, range(n), range(a, b), enumerate, zip, a dict's keys -/
inductive IK where
  | seq | rng1 | rng2 | enum | zip | keys
  deriving DecidableEq
def rangeD (lo : Int) (n : Nat) : List D := (List.range n).map fun (i : Nat) => .int (lo + i)
def enumD (xs : List D) : List D := xs.mapIdx fun i d => .prs [.int (i : Nat), d]
def zipD (xs ys : List D) : List D := (xs.zip ys).map fun p => .prs [p.1, p.2]
/-- a text's signs -/
def chrs (z : Str) : List D := z.cps.toList.map fun c => .str ⟨#[c]⟩
def smallI (i : Int) : Bool := decide (-(2 ^ 62) ≤ i) && decide (i < 2 ^ 62)
def itS : IK → List D → R (List D)
  | .seq, [.lst xs] => .ok xs
  | .seq, [.tup xs] => .ok xs
  | .seq, [.str z] => if z.length ≤ sizeLine then .ok (chrs z) else .bad
  | .rng1, [.int n] => if smallI n && decide (n ≤ sizeLine) then .ok (rangeD 0 n.toNat) else .bad
  | .rng2, [.int a, .int b] => if smallI a && smallI b && decide (b - a ≤ sizeLine) then .ok (rangeD a (b - a).toNat) else .bad
  | .enum, [.lst xs] => .ok (enumD xs)
  | .enum, [.tup xs] => .ok (enumD xs)
  | .zip, [.lst xs, .lst ys] => .ok (zipD xs ys)
  | .zip, [.tup xs, .tup ys] => .ok (zipD xs ys)
  | .keys, [.dic _ kvs] => .ok (kvs.map (·.1))
  | _, _ => .bad
def strsOf : List D → Option (List Str)
  | [] => some []
  | .str x :: r => (strsOf r).map (x :: ·)
  | _ => none
def boolsOf : List D → Option (List Bool)
  | [] => some []
  | .bl b :: r => (boolsOf r).map (b :: ·)
  | _ => none
/-- an item's rank: ints, tuples of ints, pairs of an int and a tuple of ints -/
def kL : D → List Int
  | .int i => [i]
  | .tup [.int n, .tup xs] => n :: (intsOf xs).getD []
  | .tup xs => (intsOf xs).getD []
  | _ => []
/-- d goes behind all that are not greater -/
def insD (d : D) : List D → List D
  | [] => [d]
  | e :: r => if HT.lexLt (kL d) (kL e) then d :: e :: r else e :: insD d r
def sortD (xs : List D) : List D := xs.foldl (fun acc d => insD d acc) []
def isTupI : D → Bool
  | .tup xs => !xs.isEmpty && xs.all isIntD
  | _ => false
def isTupN : D → Bool
  | .tup [.int _, .tup xs] => xs.all isIntD
  | _ => false
def sortable (xs : List D) : Bool := xs.all isIntD || (xs.all isTupI || xs.all isTupN)
def sortS (xs : List D) : R D := if sortable xs then .ok (.lst (sortD xs)) else .bad
def dedupD : List D → List D → List D
  | [], acc => acc
  | d :: r, acc => if acc.any (eqv · d) then dedupD r acc else dedupD r (acc ++ [d])
/-- None or an int -/
def isOptI : D → Bool
  | .non => true
  | .int _ => true
  | _ => false
/-- a tuple of such -/
def tupK : D → Bool
  | .tup xs => xs.all isOptI
  | _ => false
/-- what a set is made of: ints; tuples, less than 64 different ones -/
def setable (xs : List D) : Bool := (xs.all isIntD && decide (xs.length < 4000)) || (xs.all isTupI && (decide (xs.length < 64) || decide ((dedupD xs []).length < 299)))
/-- pairs whose keys are tuples of ints -/
def pairsOf : List D → Option (List (D × D))
  | [] => some []
  | .tup [k, v] :: r => if keyT k then (pairsOf r).map ((k, v) :: ·) else none
  | _ => none
def dictS (xs : List D) : R D := match pairsOf xs with
  | some ps => .ok (.dic true (ps.foldl (fun acc p => dput p.1 p.2 acc) []))
  | none => .bad
def classes : List String := ["int", "bool", "str", "tuple", "list"]
def isInstS : D → String → Bool
  | .int _, n => n == "int"
  | .bl _, n => n == "int" || n == "bool"
  | .str _, n => n == "str"
  | .tup _, n => n == "tuple"
  | .lst _, n => n == "list"
  | _, _ => false
def maxI (n : Int) (ns : List Int) : Int := ns.foldl (fun a b => if b > a then b else a) n
def minI (n : Int) (ns : List Int) : Int := ns.foldl (fun a b => if b < a then b else a) n
/-- an int and a pair of ints -/
def isTr : D → Bool
  | .tup [.int _, .tup [.int _, .int _]] => true
  | _ => false
/-- the first of the least of such -/
def minT (x : D) (xs : List D) : D := xs.foldl (fun a y => if HT.lexLt (kL y) (kL a) then y else a) x
def minTS : List D → R D
  | x :: r => if (x :: r).all isTr then .ok (minT x r) else .bad
  | [] => .bad
def biS : Bi → List D → R D
  | .len, [.scr ns] => .ok (.int ns.length)
  | .len, [.lst xs] => .ok (.int xs.length)
  | .len, [.tup xs] => .ok (.int xs.length)
  | .len, [.str z] => if z.length ≤ sizeLine then .ok (.int z.length) else .bad
  | .max, [.int i, .int j] => .ok (.int (if j > i then j else i))
  | .min, [.int i, .int j] => .ok (.int (if j < i then j else i))
  | .max, [.lst xs] => match intsOf xs with
    | some (n :: ns) => .ok (.int (maxI n ns))
    | _ => .bad
  | .min, [.lst xs] => match intsOf xs with
    | some (n :: ns) => .ok (.int (minI n ns))
    | _ => minTS xs
  | .max, [.tup xs] => match intsOf xs with
    | some (n :: ns) => .ok (.int (maxI n ns))
    | _ => .bad
  | .min, [.tup xs] => match intsOf xs with
    | some (n :: ns) => .ok (.int (minI n ns))
    | _ => .bad
  | .abs, [.int i] => .ok (.int (if i < 0 then -i else i))
  | .all, [.lst xs] => match boolsOf xs with
    | some bs => .ok (.bl (bs.all id))
    | none => .bad
  | .any, [.lst xs] => match boolsOf xs with
    | some bs => .ok (.bl (bs.any id))
    | none => .bad
  | .sum, [.lst xs] => match intsOf xs with
    | some ns => .ok (.int ns.sum)
    | none => .bad
  | .tuple, [.lst xs] => .ok (.tup xs)
  | .tuple, [.tup xs] => .ok (.tup xs)
  | .list, [.lst xs] => .ok (.lst xs)
  | .list, [.tup xs] => .ok (.lst xs)
  | .lrange, [.int n] => if smallI n && decide (n ≤ sizeLine) then .ok (.lst (rangeD 0 n.toNat)) else .bad
  | .sorted, [.lst xs] => sortS xs
  | .sorted, [.tup xs] => sortS xs
  | .sorted, [.dic _ kvs] => sortS (kvs.map (·.1))
  | .sortset, [.lst xs] => if setable xs then sortS (dedupD xs []) else .bad
  | .lenset, [.lst xs] => if xs.all tupK && decide ((dedupD xs []).length < 299) then .ok (.int (dedupD xs []).length) else .bad
  | .dict, [.lst xs] => dictS xs
  | .str, [.int i] => if i.natAbs.log2 < 1920 then .ok (.str (toString i)) else .bad
  | .int, [.int i] => .ok (.int i)
  | .int, [.str a] => if a.length ≤ 640 then (match PySem.intText? a with
    | some n => .ok (.int n)
    | none => .bad) else .bad
  | .isinst, [d, .ty n] => if okd 8 d && classes.contains n then .ok (.bl (isInstS d n)) else .bad
  | _, _ => .bad
/-- what has such a method -/
def mtOk : Mt → D → Bool
  | .index, .tup _ => true
  | .index, .lst _ => true
  | .count, .lst _ => true
  | .split, .str _ => true
  | .join, .str _ => true
  | _, _ => false
def mtS : Mt → D → List D → R D
  | .index, .tup xs, [d] => if okd 4 d && xs.all (okd 4) then (match xs.findIdx? (eqv · d) with
    | some i => .ok (.int i)
    | none => .bad) else .bad
  | .index, .lst xs, [d] => if okd 4 d && xs.all (okd 4) then (match xs.findIdx? (eqv · d) with
    | some i => .ok (.int i)
    | none => .bad) else .bad
  | .count, .lst xs, [d] => if okd 4 d && xs.all (okd 4) then .ok (.int (xs.countP (eqv · d))) else .bad
  | .split, .str a, [.str b] => if (b.length == 0) = false ∧ a.length + 2 ≤ sizeLine then .ok (.lst ((Txt.split a b).map .str)) else .bad
  | .join, .str a, [.lst xs] => match strsOf xs with
    | some ys => if (ys.map (·.length)).sum + ys.length * a.length ≤ 16777216 then .ok (.str (Txt.join a ys)) else .bad
    | none => .bad
  | _, _, _ => .bad
/-- where an item goes: one name, or the names of a tuple -/
inductive G where
  | name (i : Nat)
  | tup (is : List Nat)
  /-- a list unpacked -/
  | lun (is : List Nat)
mutual
inductive E where
  | var (i : Nat)
  | ovar (i : Nat)
  | lit (d : D)
  /-- {} ; whether its keys will be tuples -/
  | dnew (t : Bool)
  | bin (o : Operator) (a b : E)
  | neg (a : E)
  | not (a : E)
  | and (es : Es)
  | or (es : Es)
  | cmp (o : CmpOp) (a b : E)
  | chain (o p : CmpOp) (a b c : E)
  | ife (c a b : E)
  | tup (es : Es)
  | lst (es : Es)
  | ix (a b : E)
  | sl (a : E) (lo hi : O)
  | rev (a : E)
  | call (f : Nat) (es : Es)
  /-- [f, g, ..][w](..) -/
  | callx (fs : List Nat) (w : E) (es : Es)
  | bi (b : Bi) (es : Es)
  | mt (m : Mt) (o : E) (es : Es)
  | lc (vs : List Nat) (g : G) (k : IK) (src : Es) (t : O) (e : E)
  /-- {k: v}, the key a tuple -/
  | dsp (kx vx : E)
  | dc (vs : List Nat) (g : G) (k : IK) (src : Es) (t : O) (kx vx : E)
  | lc2 (vs : List Nat) (g : G) (k : IK) (src : Es) (t : O) (vs1 : List Nat) (g1 : G) (k1 : IK) (src1 : Es) (t1 : O) (e : E)
  /-- x.panes, x.now -/
  | fld (b : Bool) (i : Nat)
  /-- x.done, x.undone, looked at -/
  | fldl (b : Bool) (i : Nat)
  /-- x.windows(), x.order() -/
  | omt (b : Bool) (i : Nat)
  /-- len(x) -/
  | olen (i : Nat)
  /-- x == y, x != y -/
  | oeq (ne : Bool) (i j : Nat)
  /-- x == e, e no desktop -/
  | oeqd (i : Nat) (e : E)
inductive Es where
  | nil
  | cons (e : E) (r : Es)
inductive O where
  | none
  | some (e : E)
end
def set1 (e : Env) (i : Nat) (d : D) : Env := e.set i (.val d)
def sets (e : Env) : List Nat → List D → Option Env
  | [], [] => some e
  | i :: r, d :: ds => sets (set1 e i d) r ds
  | _, _ => none
def asgG : G → D → Env → R Env
  | .name i, d, e => .ok (set1 e i d)
  | .tup is, .tup xs, e => match sets e is xs with
    | some e' => .ok e'
    | none => .bad
  | .tup is, .prs xs, e => match sets e is xs with
    | some e' => .ok e'
    | none => .bad
  | .lun is, .lst xs, e => match sets e is xs with
    | some e' => .ok e'
    | none => .bad
  | _, _, _ => .bad
def asB : D → R Bool
  | .bl b => .ok b
  | _ => .bad
def asI : D → R Int
  | .int i => .ok i
  | _ => .bad
def lcM : List D → (D → R (List D)) → R (List D)
  | [], _ => .ok []
  | d :: ds, f => do
    let xs ← f d
    let ys ← lcM ds f
    .ok (xs ++ ys)
/-- pairs put into a dict -/
def putAll : List D → List (D × D) → List (D × D)
  | [], acc => acc
  | .prs [k, v] :: r, acc => putAll r (dput k v acc)
  | _ :: r, acc => putAll r acc
def getV (e : Env) (i : Nat) : R D := match e[i]? with
  | some (.val d) => .ok d
  | _ => .bad
def getO (e : Env) (i : Nat) : R D := match e[i]? with
  | some (.val d) => .ok d
  | some (.own d) => .ok d
  | _ => .bad
def getOb (e : Env) (i : Nat) : R Ob := match e[i]? with
  | some (.obj _ o) => .ok o
  | _ => .bad
def lenOb (o : Ob) : R D := match o.p with
  | .tup xs => .ok (.int xs.length)
  | _ => .bad
def eqOb (ne : Bool) (o q : Ob) : R D := if okd 8 o.p && okd 8 o.n && okd 8 q.p && okd 8 q.n then .ok (.bl (if eqv o.p q.p && eqv o.n q.n then !ne else ne)) else .bad
def pickF (fs : List Nat) : D → R Nat
  | .int i => if 0 ≤ i then (match fs[i.toNat]? with
    | some f => .ok f
    | none => .bad) else .bad
  | _ => .bad
mutual
def ev (Φ : Nat → List D → R D) : E → Env → R D
  | .var i, e => getV e i
  | .ovar i, e => getO e i
  | .lit d, _ => .ok d
  | .dnew t, _ => .ok (.dic t [])
  | .bin o a b, e => do let x ← ev Φ a e; let y ← ev Φ b e; binS o x y
  | .neg a, e => do let x ← ev Φ a e; let i ← asI x; .ok (.int (-i))
  | .not a, e => do let x ← ev Φ a e; let b ← asB x; .ok (.bl (!b))
  | .and es, e => evAnd Φ es e
  | .or es, e => evOr Φ es e
  | .cmp o a b, e => do let x ← ev Φ a e; let y ← ev Φ b e; let r ← cmpS o x y; .ok (.bl r)
  | .chain o p a b c, e => do
    let x ← ev Φ a e
    let y ← ev Φ b e
    let r ← cmpS o x y
    if r then do let z ← ev Φ c e; let q ← cmpS p y z; .ok (.bl q) else .ok (.bl false)
  | .ife c a b, e => do let x ← ev Φ c e; let t ← asB x; if t then ev Φ a e else ev Φ b e
  | .tup es, e => do let xs ← evs Φ es e; fitL xs .tup
  | .lst es, e => do let xs ← evs Φ es e; fitL xs .lst
  | .ix a b, e => do let x ← ev Φ a e; let y ← ev Φ b e; ixS x y
  | .sl a lo hi, e => do let x ← ev Φ a e; let l ← evO Φ lo e; let h ← evO Φ hi e; slS x l h
  | .rev a, e => do let x ← ev Φ a e; revS x
  | .call f es, e => do let xs ← evs Φ es e; Φ f xs
  | .callx fs w es, e => do let x ← ev Φ w e; let f ← pickF fs x; let xs ← evs Φ es e; Φ f xs
  | .bi b es, e => do let xs ← evs Φ es e; biS b xs
  | .mt m o es, e => do let x ← ev Φ o e; if mtOk m x then do let xs ← evs Φ es e; mtS m x xs else .bad
  | .lc vs g k src t b, e => do
    let ss ← evs Φ src e
    let ds ← itS k ss
    let r ← (lcM ds fun d => do
      let e1 ← asgG g d (wipeE e vs)
      let c ← evT Φ t e1
      if c then do let y ← ev Φ b e1; .ok [y] else .ok []).calm
    .ok (.lst r)
  | .dsp kx vx, e => do let k ← ev Φ kx e; let v ← ev Φ vx e; if keyT k then .ok (.dic true [(k, v)]) else .bad
  | .dc vs g k src t kx vx, e => do
    let ss ← evs Φ src e
    let ds ← itS k ss
    let r ← (lcM ds fun d => do
      let e1 ← asgG g d (wipeE e vs)
      let c ← evT Φ t e1
      if c then do let y ← ev Φ kx e1; let z ← ev Φ vx e1; if keyD y then .ok [.prs [y, z]] else .bad else .ok []).calm
    .ok (.dic false (putAll r []))
  | .lc2 vs g k src t vs1 g1 k1 src1 t1 b, e => do
    let ss ← evs Φ src e
    let ds ← itS k ss
    let r ← (lcM ds fun d => do
      let e1 ← asgG g d (wipeE e vs)
      let c ← evT Φ t e1
      if c then do
        let ss1 ← evs Φ src1 e1
        let ds1 ← itS k1 ss1
        lcM ds1 fun d1 => do
          let e2 ← asgG g1 d1 (wipeE e1 vs1)
          let c1 ← evT Φ t1 e2
          if c1 then do let y ← ev Φ b e2; .ok [y] else .ok []
      else .ok []).calm
    fitL r .lst
  | .fld b i, e => do let o ← getOb e i; .ok (if b then o.n else o.p)
  | .fldl b i, e => do let o ← getOb e i; .ok (.lst (if b then o.un else o.dn))
  | .omt b i, e => do let o ← getOb e i; .ok (if b then o.n else o.p)
  | .olen i, e => do let o ← getOb e i; lenOb o
  | .oeq ne i j, e => do let o ← getOb e i; let q ← getOb e j; eqOb ne o q
  | .oeqd i a, e => do let _ ← getOb e i; let d ← ev Φ a e; if okd 8 d then .ok (.bl false) else .bad
def evs (Φ : Nat → List D → R D) : Es → Env → R (List D)
  | .nil, _ => .ok []
  | .cons a r, e => do let x ← ev Φ a e; let xs ← evs Φ r e; .ok (x :: xs)
def evAnd (Φ : Nat → List D → R D) : Es → Env → R D
  | .nil, _ => .bad
  | .cons a .nil, e => ev Φ a e
  | .cons a r, e => do let x ← ev Φ a e; let c ← asB x; if c then evAnd Φ r e else .ok (.bl false)
def evOr (Φ : Nat → List D → R D) : Es → Env → R D
  | .nil, _ => .bad
  | .cons a .nil, e => ev Φ a e
  | .cons a r, e => do let x ← ev Φ a e; let c ← asB x; if c then .ok (.bl true) else evOr Φ r e
def evO (Φ : Nat → List D → R D) : O → Env → R (Option Int)
  | .none, _ => .ok none
  | .some a, e => do let x ← ev Φ a e; let i ← asI x; .ok (some i)
def evT (Φ : Nat → List D → R D) : O → Env → R Bool
  | .none, _ => .ok true
  | .some a, e => do let x ← ev Φ a e; asB x
end
/-- how a statement ends -/
inductive Fl where
  | nx (e : Env)
  | rt (d : D)
  | ex (c : Nat) (e : Env)
mutual
inductive S where
  /-- a ghost: what the name holds is not changed any more -/
  | frz (i : Nat)
  | asg (g : G) (e : E)
  /-- a new list or dict that this def may change -/
  | mk (i : Nat) (e : E)
  | par (os : List Bool) (is : List Nat) (es : Es)
  | expr (e : E)
  | app (i : Nat) (e : E)
  | ext (i : Nat) (e : E)
  | apop (i j : Nat) (e : E)
  | put (i : Nat) (k v : E)
  | ife (c : E) (a b : Ss)
  | whl (n : Nat) (c : E) (b : Ss)
  | for_ (g : G) (k : IK) (src : Es) (b : Ss)
  | ret (e : E)
  | raise (c : Nat)
inductive Ss where
  | nil
  | cons (s : S) (r : Ss)
end
def lift {α : Type} (r : R α) (e : Env) (k : α → R Fl) : R Fl := match r with
  | .ok a => k a
  | .exc c => .ok (.ex c e)
  | .bad => .bad
@[simp] theorem lift_ok {α : Type} (a : α) (e : Env) (k : α → R Fl) : lift (.ok a) e k = k a := rfl
@[simp] theorem lift_exc {α : Type} (c : Nat) (e : Env) (k : α → R Fl) : lift (.exc c : R α) e k = .ok (.ex c e) := rfl
@[simp] theorem lift_bad {α : Type} (e : Env) (k : α → R Fl) : lift (.bad : R α) e k = .bad := rfl
/-- on, if the statement goes on -/
def andThen (r : R Fl) (k : Env → R Fl) : R Fl := match r with
  | .ok (.nx e) => k e
  | x => x
@[simp] theorem andThen_nx (e : Env) (k : Env → R Fl) : andThen (.ok (.nx e)) k = k e := rfl
@[simp] theorem andThen_rt (d : D) (k : Env → R Fl) : andThen (.ok (.rt d)) k = .ok (.rt d) := rfl
@[simp] theorem andThen_ex (c : Nat) (e : Env) (k : Env → R Fl) : andThen (.ok (.ex c e)) k = .ok (.ex c e) := rfl
@[simp] theorem andThen_bad (k : Env → R Fl) : andThen .bad k = .bad := rfl
def frzE (e : Env) (i : Nat) : Env := match e[i]? with
  | some (.own d) => e.set i (.val d)
  | _ => e
def forM (f : D → Env → R Fl) : List D → Env → R Fl
  | [], e => .ok (.nx e)
  | d :: ds, e => andThen (f d e) (forM f ds)
def whlM (c : Env → R D) (b : Env → R Fl) : Nat → Env → R Fl
  | 0, _ => .bad
  | n + 1, e => lift (c e) e fun x => match x with
    | .bl true => andThen (b e) (whlM c b n)
    | .bl false => .ok (.nx e)
    | _ => .bad
def parE (e : Env) : List Bool → List Nat → List D → R Fl
  | [], [], [] => .ok (.nx e)
  | o :: os, i :: is, d :: ds => parE (e.set i (if o then .own d else .val d)) os is ds
  | _, _, _ => .bad
mutual
def xs (Φ : Nat → List D → R D) : S → Env → R Fl
  | .frz i, e => .ok (.nx (frzE e i))
  | .asg g a, e => lift (ev Φ a e) e fun d => lift (asgG g d e) e fun e' => .ok (.nx e')
  | .mk i a, e => lift (ev Φ a e) e fun d => .ok (.nx (e.set i (.own d)))
  | .par os is es, e => lift (evs Φ es e) e fun ds => parE e os is ds
  | .expr a, e => lift (ev Φ a e) e fun _ => .ok (.nx e)
  | .app i a, e => match e[i]? with
    | some (.own (.lst l)) => lift (ev Φ a e) e fun d => if l.length < sizeLine then .ok (.nx (e.set i (.own (.lst (l ++ [d]))))) else .bad
    | _ => .bad
  | .ext i a, e => match e[i]? with
    | some (.own (.lst l)) => lift (ev Φ a e) e fun d => match d with
      | .lst m => if l.length + m.length ≤ sizeLine then .ok (.nx (e.set i (.own (.lst (l ++ m))))) else .bad
      | _ => .bad
    | _ => .bad
  | .apop i j a, e => match e[i]?, e[j]? with
    | some (.own (.lst l)), some (.own (.lst m)) => lift (ev Φ a e) e fun d => match d with
      | .int k => if 0 ≤ k then (match m[k.toNat]? with
        | some x => if l.length < sizeLine then .ok (.nx ((e.set j (.own (.lst (m.eraseIdx k.toNat)))).set i (.own (.lst (l ++ [x]))))) else .bad
        | none => .bad) else .bad
      | _ => .bad
    | _, _ => .bad
  | .put i k v, e => lift (ev Φ v e) e fun dv => match e[i]? with
    | some (.own (.dic t kvs)) => lift (ev Φ k e) e fun dk =>
      if keyOf t dk && decide (kvs.length < sizeLine) then .ok (.nx (e.set i (.own (.dic t (dput dk dv kvs))))) else .bad
    | _ => .bad
  | .ife c a b, e => lift (ev Φ c e) e fun d => match d with
    | .bl true => xss Φ a e
    | .bl false => xss Φ b e
    | _ => .bad
  | .whl n c b, e => whlM (ev Φ c) (xss Φ b) n e
  | .for_ g k src b, e => lift (evs Φ src e) e fun ss => lift (itS k ss) e fun ds =>
    forM (fun d e1 => lift (asgG g d e1) e1 fun e2 => xss Φ b e2) ds e
  | .ret a, e => lift (ev Φ a e) e fun d => .ok (.rt d)
  | .raise c, e => .ok (.ex c e)
def xss (Φ : Nat → List D → R D) : Ss → Env → R Fl
  | .nil, e => .ok (.nx e)
  | .cons s r, e => andThen (xs Φ s e) (xss Φ r)
end
/-- a def's answer -/
def runF (Φ : Nat → List D → R D) (n : Nat) (b : Ss) (ds : List D) : R D :=
  match xss Φ b (ds.map Slot.val ++ List.replicate (n - ds.length) .no) with
  | .ok (.nx _) => .ok .non
  | .ok (.rt d) => .ok d
  | .ok (.ex c _) => .exc c
  | .bad => .bad
  | .exc _ => .bad
end Pan
namespace Pan
open PySem PySem.Spec L2
open PyProof.Rows hiding St
/-- the tables of code objects that the program's lambdas write -/
class TabsIn where
  T : List (Addr × Str)
variable [TabsIn]
def isDic : HO → Prop
  | .dK _ => True
  | .ext _ => True
  | _ => False
def nT : HO → Bool
  | .tbl _ => false
  | _ => true
/-- all but the tables is as it was; the tables are tables still -/
structure SameT (H H' : Hp) : Prop where
  at_ : ∀ b o, H b = some o → nT o = true → H' b = some o
  tb : ∀ b ps, H b = some (.tbl ps) → ∃ ps', H' b = some (.tbl ps')
  tabs : LamX.Tabs TabsIn.T H → LamX.Tabs TabsIn.T H'
theorem SameT.at {H H' : Hp} (s : SameT H H') {b : Addr} {o : HO} (e : H b = some o) (n : nT o = true := by rfl) : H' b = some o := s.at_ b o e n
theorem SameT.of {H H' : Hp} (s : Same H H') : SameT H H' := ⟨fun b o e _ => s b o e, fun b ps e => ⟨ps, s b _ e⟩, fun t => t.ext s⟩
theorem SameT.refl (H : Hp) : SameT H H := .of (Same.refl H)
theorem SameT.trans {H H1 H2 : Hp} (a : SameT H H1) (b : SameT H1 H2) : SameT H H2 := ⟨fun c o e n => b.at_ c o (a.at_ c o e n) n, fun c ps e => by
  obtain ⟨ps', e'⟩ := a.tb c ps e
  exact b.tb c ps' e', fun t => b.tabs (a.tabs t)⟩
theorem SameT.free {H H' : Hp} (s : SameT H H') {a : Addr} (h : H' a = none) : H a = none := by
  cases q : H a with
  | none => rfl
  | some o =>
    cases hn : nT o with
    | true => rw [s.at_ a o q hn] at h; cases h
    | false =>
      cases o <;> simp only [nT] at hn <;> try cases hn
      obtain ⟨ps', e'⟩ := s.tb a _ q
      rw [h] at e'; cases e'
/-- what F tells stands in H; a dict may be locked there -/
structure Sub (F H : Hp) : Prop where
  at_ : ∀ a u, F a = some u → nT u = true ∧ (H a = some u ∨ (isDic u ∧ ∃ o, H a = some (.frz o u)))
  tabs : LamX.Tabs TabsIn.T H
theorem Sub.at {F H : Hp} (s : Sub F H) {a : Addr} {u : HO} (e : F a = some u) : H a = some u ∨ (isDic u ∧ ∃ o, H a = some (.frz o u)) := (s.at_ a u e).2
theorem Sub.trans {F G H : Hp} (a : Sub F G) (b : Sub G H) : Sub F H := ⟨fun x u e => ⟨(a.at_ x u e).1, by
  rcases a.at e with q | ⟨m, o, q⟩
  · exact b.at q
  · rcases b.at q with q' | ⟨m', _⟩
    · exact .inr ⟨m, o, q'⟩
    · exact m'.elim⟩, b.tabs⟩
theorem Sub.same {F H H' : Hp} (a : Sub F H) (s : SameT H H') : Sub F H' := ⟨fun x u e => ⟨(a.at_ x u e).1, by
  rcases a.at e with q | ⟨m, o, q⟩
  · exact .inl (s.at q (a.at_ x u e).1)
  · exact .inr ⟨m, o, s.at q⟩⟩, s.tabs a.tabs⟩
theorem Sub.none {F H : Hp} (a : Sub F H) {p : Addr} (h : H p = none) : F p = none := by
  cases q : F p with
  | none => rfl
  | some u =>
    rcases a.at q with z | ⟨_, o, z⟩ <;> rw [h] at z <;> cases z
def kD : Key → D
  | .inl i => .int i
  | .inr x => .str x
/-- a tuple: its object is known, and has no dict of its own -/
def IsT (F : Hp) (a : Addr) (xs : List V) : Prop := ∃ o : Obj, o.dict = none ∧ F a = some (.frz o (.tup xs))
theorem IsT.sq {K : PySem.W.Frag} {H : Hp} {a : Addr} {xs : List V} (h : IsT H a xs) : SqT K H a xs := by
  obtain ⟨o, _, e⟩ := h
  exact .inl (.inr ⟨o, e⟩)
theorem IsT.mono {F F' : Hp} {a : Addr} {xs : List V} (g : Same F F') (h : IsT F a xs) : IsT F' a xs := by
  obtain ⟨o, d, e⟩ := h
  exact ⟨o, d, g _ _ e⟩
theorem IsT.new {F : Hp} {a : Addr} {xs : List V} {o : Obj} (h : o.dict = none) : IsT (upd F a (.frz o (.tup xs))) a xs := ⟨o, h, upd_same⟩
/-- a row of a dict whose keys are tuples of ints: the key, where its tuple lies, the value -/
abbrev Row := List Int × Addr × V
def hT (k : List Int) : Int := reduceHash (Builtin.Tuple.tupleHashOf (k.map hashInt))
abbrev RowR (p : Row) (q : List Int × Addr × Value) : Prop := p.1 = q.1 ∧ p.2.1 = q.2.1 ∧ RelV p.2.2 q.2.2
def dRaw (a : Addr) (rows : List Row) (h : Heap) : Prop := rows.length ≤ sizeLine ∧ (a == sysModules) = false ∧ ∃ xs : List (List Int × Addr × Value), Paired RowR rows xs ∧
  ∃ o es ep, h.get? a = some o ∧ o.ExactDict ∧ o.data = .dict es ep ∧ es.toList = xs.map (fun x => (⟨hT x.1, .ref x.2.1, x.2.2⟩ : DictEntry)) ∧ (xs.map (·.1)).Nodup
/-- a dict whose keys are tuples of ints -/
def dO (a : Addr) (rows : List Row) : HO := .ext (dRaw a rows)
/-- no code object -/
def nC (u : HO) : Prop := ∀ c q, u ≠ LamX.CodeO c q
theorem nC_dO (a : Addr) (rows : List Row) : nC (dO a rows) := fun c q e => by
  unfold dO LamX.CodeO at e
  injection e with e
  have h2 := congrFun e (⟨Array.replicate (c + 1) ⟨.none, none, .fields #[.none, .str q 0], #[]⟩, {}⟩ : Heap)
  have at_ : ∀ (b : Addr) (o : Obj), (⟨Array.replicate (c + 1) ⟨.none, none, .fields #[.none, .str q 0], #[]⟩, {}⟩ : Heap).get? b = some o → o.data = .fields #[.none, .str q 0] := by
    intro b o hb
    unfold Heap.get? at hb
    by_cases hlt : b < c + 1
    · simp [hlt] at hb
      rw [← hb]
    · simp [hlt] at hb
  have h3 : dRaw a rows (⟨Array.replicate (c + 1) ⟨.none, none, .fields #[.none, .str q 0], #[]⟩, {}⟩ : Heap) := by
    rw [h2]
    refine ⟨⟨.none, none, .fields #[.none, .str q 0], #[]⟩, _, 0, ?_, rfl, rfl⟩
    unfold Heap.get?
    simp
  obtain ⟨_, _, _, _, o, es, ep, g, _, d, _⟩ := h3
  rw [at_ a o g] at d
  cases d
theorem tabs_upd {T : List (Addr × Str)} {H : Hp} {p : Addr} {u o : HO} (t : LamX.Tabs T H) (hu : H p = some u) (nt : nT u = true) (hn : nC u) : LamX.Tabs T (upd H p o) := fun q hq => by
  obtain ⟨ps, h1, h2, h3⟩ := t q hq
  have np : q.1 ≠ p := fun z => by
    rw [z, hu] at h1
    cases h1
    cases nt
  refine ⟨ps, by rw [upd_ne np]; exact h1, h2, fun pos cv hc => ?_⟩
  obtain ⟨c, e1, e2⟩ := h3 pos cv hc
  refine ⟨c, e1, ?_⟩
  rw [upd_ne fun z => ?_]
  · exact e2
  · rw [z, hu] at e2
    exact hn _ _ (Option.some.inj e2)
theorem nC_of {u : HO} (h : ∀ φ, u ≠ .ext φ) : nC u := fun c q e => h _ e
mutual
/-- the value v is the data d, as F tells -/
inductive Rp (K : PySem.W.Frag) (F : Hp) : V → D → Prop
  | non : Rp K F .non .non
  | bl (b : Bool) : Rp K F (.bl b) (.bl b)
  | int (i : Int) : Rp K F (.int i) (.int i)
  | str (x : Str) : Rp K F (.str x) (.str x)
  | ty (n : String) : Rp K F (.ty n) (.ty n)
  | scr {a : Addr} {ns : List Int} : SqL K F a (ns.map V.int) → Rp K F (.ref a) (.scr ns)
  | tup {a : Addr} {xs : List V} {ds : List D} : IsT F a xs → Rps K F xs ds → Rp K F (.ref a) (.tup ds)
  | prs {a : Addr} {xs : List V} {ds : List D} : F a = some (.tup xs) → Rps K F xs ds → Rp K F (.ref a) (.prs ds)
  | lst {a : Addr} {xs : List V} {ds : List D} : F a = some (.lst xs) → Rps K F xs ds → Rp K F (.ref a) (.lst ds)
  | dK {a : Addr} {kvs : List (Key × V)} {es : List (D × D)} : Rd F a (.dK kvs) → RkK K F kvs es → Rp K F (.ref a) (.dic false es)
  | dT {a : Addr} {kvs : List Row} {es : List (D × D)} : Rd F a (dO a kvs) → RkT K F kvs es → Rp K F (.ref a) (.dic true es)
inductive Rps (K : PySem.W.Frag) (F : Hp) : List V → List D → Prop
  | nil : Rps K F [] []
  | cons {v : V} {vs : List V} {d : D} {ds : List D} : Rp K F v d → Rps K F vs ds → Rps K F (v :: vs) (d :: ds)
inductive RkK (K : PySem.W.Frag) (F : Hp) : List (Key × V) → List (D × D) → Prop
  | nil : RkK K F [] []
  | cons {k : Key} {v : V} {r : List (Key × V)} {d : D} {es : List (D × D)} : Rp K F v d → RkK K F r es → RkK K F ((k, v) :: r) ((kD k, d) :: es)
inductive RkT (K : PySem.W.Frag) (F : Hp) : List Row → List (D × D) → Prop
  | nil : RkT K F [] []
  | cons {k : List Int} {q : Addr} {v : V} {r : List Row} {d : D} {es : List (D × D)} : IsT F q (k.map V.int) → Rp K F v d → RkT K F r es → RkT K F ((k, q, v) :: r) ((.tup (k.map D.int), d) :: es)
end
theorem Sub.seq {K : PySem.W.Frag} {F H : Hp} {a : Addr} {xs : List V} (s : Sub F H) (h : SqL K F a xs) : SqL K H a xs := by
  rcases h with (h | ⟨o, h⟩) | h
  · rcases s.at h with q | ⟨_, o, q⟩
    · exact .inl (.inl q)
    · exact .inl (.inr ⟨o, q⟩)
  · rcases s.at h with q | ⟨m, _⟩
    · exact .inl (.inr ⟨o, q⟩)
    · exact m.elim
  · exact .inr h
theorem Sub.lst {F H : Hp} {a : Addr} {xs : List V} (s : Sub F H) (h : F a = some (.lst xs)) : H a = some (.lst xs) := by
  rcases s.at h with q | ⟨m, _⟩
  · exact q
  · exact m.elim
theorem Sub.tup {F H : Hp} {a : Addr} {xs : List V} (s : Sub F H) (h : IsT F a xs) : IsT H a xs := by
  obtain ⟨o, d, e⟩ := h
  rcases s.at e with q | ⟨m, _⟩
  · exact ⟨o, d, q⟩
  · exact m.elim
theorem Sub.prs {F H : Hp} {a : Addr} {xs : List V} (s : Sub F H) (h : F a = some (.tup xs)) : H a = some (.tup xs) := by
  rcases s.at h with q | ⟨m, _⟩
  · exact q
  · exact m.elim
theorem Sub.dK {F H : Hp} {a : Addr} {xs : List (Key × V)} (s : Sub F H) (h : Rd F a (.dK xs)) : Rd H a (.dK xs) := by
  rcases h with h | ⟨o, h⟩
  · rcases s.at h with q | ⟨_, o, q⟩
    · exact .inl q
    · exact .inr ⟨o, q⟩
  · rcases s.at h with q | ⟨m, _⟩
    · exact .inr ⟨o, q⟩
    · exact m.elim
theorem Sub.dT {F H : Hp} {a : Addr} {xs : List Row} (s : Sub F H) (h : Rd F a (dO a xs)) : Rd H a (dO a xs) := by
  rcases h with h | ⟨o, h⟩
  · rcases s.at h with q | ⟨_, o, q⟩
    · exact .inl q
    · exact .inr ⟨o, q⟩
  · rcases s.at h with q | ⟨m, _⟩
    · exact .inr ⟨o, q⟩
    · exact m.elim
theorem rd_mono {F F' : Hp} {a : Addr} {u : HO} (g : Same F F') (h : Rd F a u) : Rd F' a u := by
  rcases h with h | ⟨o, h⟩
  · exact .inl (g _ _ h)
  · exact .inr ⟨o, g _ _ h⟩
theorem Same.seq' {K : PySem.W.Frag} {F F' : Hp} {a : Addr} {xs : List V} (s : Same F F') (h : SqL K F a xs) : SqL K F' a xs := by
  rcases h with (h | ⟨o, h⟩) | h
  · exact .inl (.inl (s _ _ h))
  · exact .inl (.inr ⟨o, s _ _ h⟩)
  · exact .inr h
mutual
theorem Rp.mono {K : PySem.W.Frag} {F F' : Hp} (g : Same F F') : ∀ {v : V} {d : D}, Rp K F v d → Rp K F' v d
  | _, _, .non => .non
  | _, _, .bl b => .bl b
  | _, _, .int i => .int i
  | _, _, .str x => .str x
  | _, _, .ty n => .ty n
  | _, _, .scr h => .scr (Same.seq' g h)
  | _, _, .tup h r => .tup (h.mono g) (Rps.mono g r)
  | _, _, .prs h r => .prs (g _ _ h) (Rps.mono g r)
  | _, _, .lst h r => .lst (g _ _ h) (Rps.mono g r)
  | _, _, .dK h r => .dK (rd_mono g h) (RkK.mono g r)
  | _, _, .dT h r => .dT (rd_mono g h) (RkT.mono g r)
theorem Rps.mono {K : PySem.W.Frag} {F F' : Hp} (g : Same F F') : ∀ {vs : List V} {ds : List D}, Rps K F vs ds → Rps K F' vs ds
  | _, _, .nil => .nil
  | _, _, .cons h r => .cons (Rp.mono g h) (Rps.mono g r)
theorem RkK.mono {K : PySem.W.Frag} {F F' : Hp} (g : Same F F') : ∀ {kvs : List (Key × V)} {es : List (D × D)}, RkK K F kvs es → RkK K F' kvs es
  | _, _, .nil => .nil
  | _, _, .cons h r => .cons (Rp.mono g h) (RkK.mono g r)
theorem RkT.mono {K : PySem.W.Frag} {F F' : Hp} (g : Same F F') : ∀ {kvs : List Row} {es : List (D × D)}, RkT K F kvs es → RkT K F' kvs es
  | _, _, .nil => .nil
  | _, _, .cons t h r => .cons (t.mono g) (Rp.mono g h) (RkT.mono g r)
end
section
variable {K : PySem.W.Frag} {F F' H H' : Hp}
theorem Rps.length : ∀ {vs : List V} {ds : List D}, Rps K F vs ds → vs.length = ds.length
  | _, _, .nil => rfl
  | _, _, .cons _ r => by simp [Rps.length r]
theorem Rps.get : ∀ {vs : List V} {ds : List D} {i : Nat} {d : D}, Rps K F vs ds → ds[i]? = some d → ∃ v, vs[i]? = some v ∧ Rp K F v d
  | _, _, _, _, .nil, e => by simp at e
  | _, _, 0, _, .cons h _, e => by simp at e; subst e; exact ⟨_, rfl, h⟩
  | _, _, i + 1, _, .cons _ r, e => by
    obtain ⟨v, a, b⟩ := Rps.get (i := i) r (by simpa using e)
    exact ⟨v, by simpa using a, b⟩
theorem Rps.getV : ∀ {vs : List V} {ds : List D} {i : Nat} {v : V}, Rps K F vs ds → vs[i]? = some v → ∃ d, ds[i]? = some d ∧ Rp K F v d
  | _, _, _, _, .nil, e => by simp at e
  | _, _, 0, _, .cons h _, e => by simp at e; subst e; exact ⟨_, rfl, h⟩
  | _, _, i + 1, _, .cons _ r, e => by
    obtain ⟨v, a, b⟩ := Rps.getV (i := i) r (by simpa using e)
    exact ⟨v, by simpa using a, b⟩
theorem Rps.append : ∀ {vs ws : List V} {ds es : List D}, Rps K F vs ds → Rps K F ws es → Rps K F (vs ++ ws) (ds ++ es)
  | _, _, _, _, .nil, s => s
  | _, _, _, _, .cons h r, s => .cons h (Rps.append r s)
theorem Rps.take : ∀ {vs : List V} {ds : List D} (n : Nat), Rps K F vs ds → Rps K F (vs.take n) (ds.take n)
  | _, _, 0, _ => .nil
  | _, _, _ + 1, .nil => .nil
  | _, _, n + 1, .cons h r => .cons h (Rps.take n r)
theorem Rps.drop : ∀ {vs : List V} {ds : List D} (n : Nat), Rps K F vs ds → Rps K F (vs.drop n) (ds.drop n)
  | _, _, 0, r => r
  | _, _, _ + 1, .nil => .nil
  | _, _, n + 1, .cons _ r => Rps.drop n r
theorem Rps.reverse : ∀ {vs : List V} {ds : List D}, Rps K F vs ds → Rps K F vs.reverse ds.reverse
  | _, _, .nil => .nil
  | _, _, .cons h r => by
    rw [List.reverse_cons, List.reverse_cons]
    exact Rps.append (Rps.reverse r) (.cons h .nil)
theorem Rps.eraseIdx : ∀ {vs : List V} {ds : List D} (i : Nat), Rps K F vs ds → Rps K F (vs.eraseIdx i) (ds.eraseIdx i)
  | _, _, _, .nil => .nil
  | _, _, 0, .cons _ r => r
  | _, _, i + 1, .cons h r => .cons h (Rps.eraseIdx i r)
theorem Rps.rep {vs : List V} {ds : List D} (r : Rps K F vs ds) : ∀ n : Nat, Rps K F (List.replicate n vs).flatten (List.replicate n ds).flatten
  | 0 => .nil
  | n + 1 => by
    rw [List.replicate_succ, List.replicate_succ, List.flatten_cons, List.flatten_cons]
    exact r.append (Rps.rep r n)
theorem Rps.cut {vs : List V} {ds : List D} (r : Rps K F vs ds) (lo hi : Option Int) : Rps K F (cutV vs lo hi) (cutL ds lo hi) := by
  unfold cutV cutL
  rw [r.length]
  exact (r.drop _).take _
theorem Rps.ints : ∀ {vs : List V} {ds : List D} {ns : List Int}, Rps K F vs ds → intsOf ds = some ns → vs = ns.map V.int
  | _, _, _, .nil, e => by simp [intsOf] at e; subst e; rfl
  | _, _, _, .cons h r, e => by
    cases h <;> simp [intsOf] at e
    obtain ⟨ms, e1, e2⟩ := e
    subst e2
    rw [Rps.ints r e1]
    rfl
theorem Rps.bools : ∀ {vs : List V} {ds : List D} {bs : List Bool}, Rps K F vs ds → boolsOf ds = some bs → vs = bs.map V.bl
  | _, _, _, .nil, e => by simp [boolsOf] at e; subst e; rfl
  | _, _, _, .cons h r, e => by
    cases h <;> simp [boolsOf] at e
    obtain ⟨ms, e1, e2⟩ := e
    subst e2
    rw [Rps.bools r e1]
    rfl
/-- nothing that was tracked has changed; F' tells more, of new things alone -/
structure Ext (F H F' H' : Hp) : Prop where
  same : SameT H H'
  grow : Same F F'
  sub : Sub F' H'
  new : ∀ a u, F' a = some u → F a = some u ∨ H a = none ∨ ∃ ys, u = .tup ys
theorem Ext.refl (s : Sub F H) : Ext F H F H := ⟨SameT.refl _, Same.refl _, s, fun _ _ e => .inl e⟩
theorem Ext.trans {F1 H1 F2 H2 : Hp} (a : Ext F H F1 H1) (b : Ext F1 H1 F2 H2) : Ext F H F2 H2 :=
  ⟨a.same.trans b.same, a.grow.trans b.grow, b.sub, fun x u e => by
    rcases b.new x u e with q | q | q
    · exact a.new x u q
    · exact .inr (.inl (a.same.free q))
    · exact .inr (.inr q)⟩
theorem same_upd {p : Addr} {o : HO} (h : H p = none) : Same H (upd H p o) := fun b x e => by
  rw [upd_ne (ne_of_none e h)]
  exact e
/-- a new object that stays -/
theorem Ext.laid {p : Addr} (o : HO) (s : Sub F H) (h : H p = none) (nt : nT o = true := by rfl) : Ext F H (upd F p o) (upd H p o) where
  same := .of (same_upd h)
  grow := same_upd (s.none h)
  sub := ⟨fun a u e => by
    by_cases q : a = p
    · subst q
      rw [upd_same] at e ⊢
      cases e
      exact ⟨nt, .inl rfl⟩
    · rw [upd_ne q] at e ⊢
      exact s.at_ a u e, s.tabs.ext (same_upd h)⟩
  new := fun a u e => by
    by_cases q : a = p
    · subst q
      exact .inr (.inl h)
    · rw [upd_ne q] at e
      exact .inl e
/-- a new object that may change -/
theorem Ext.made {p : Addr} (o : HO) (s : Sub F H) (h : H p = none) : Ext F H F (upd H p o) where
  same := .of (same_upd h)
  grow := Same.refl _
  sub := s.same (.of (same_upd h))
  new := fun a u e => .inl e
/-- the class of the desktops -/
def deskC (K : PySem.W.Frag) : Addr := He.ga K "Desktop"
abbrev deskF (pv nv : V) (da ua : Addr) : List (Str × V) := [("panes", pv), ("now", nv), ("done", .ref da), ("undone", .ref ua)]
/-- a desktop that stands at a, with its parts; what changes in it is unknown to F -/
structure ObAt (K : PySem.W.Frag) (F H : Hp) (o : Ob) (a dx da ua : Addr) (pv nv : V) (ds us : List V) : Prop where
  fa : F a = none
  fd : F da = none
  fu : F ua = none
  ha : H a = some (.ins (deskC K) dx (deskF pv nv da ua))
  hd : H da = some (.lst ds)
  hu : H ua = some (.lst us)
  ne : da ≠ ua
  rp : Rp K F pv o.p
  rn : Rp K F nv o.n
  rd : Rps K F ds o.dn
  ru : Rps K F us o.un
def ObR (K : PySem.W.Frag) (F H : Hp) (o : Ob) (a : Addr) : Prop := ∃ dx da ua pv nv ds us, ObAt K F H o a dx da ua pv nv ds us
/-- a name's place -/
def SlotR (K : PySem.W.Frag) (F H : Hp) : Slot → Option V → Prop
  | .no, _ => True
  | .val d, some v => Rp K F v d
  | .own (.lst ds), some (.ref a) => F a = none ∧ ∃ xs, H a = some (.lst xs) ∧ Rps K F xs ds
  | .own (.dic false es), some (.ref a) => F a = none ∧ ∃ kvs, H a = some (.dK kvs) ∧ RkK K F kvs es
  | .own (.dic true es), some (.ref a) => F a = none ∧ ∃ kvs, H a = some (dO a kvs) ∧ RkT K F kvs es
  | .held _ a, some v => v = .ref a
  | .obj _ o, some (.ref a) => ObR K F H o a
  | _, _ => False
/-- an address that only this def holds stays unknown to F -/
theorem Ext.keepNone {a : Addr} {o : HO} (x : Ext F H F' H') (h : F a = none) (h' : H a = some o) (hn : ∀ ys, o ≠ .tup ys) : F' a = none := by
  cases q : F' a with
  | none => rfl
  | some u =>
    rcases x.new a u q with z | z | ⟨ys, z⟩
    · rw [h] at z; cases z
    · rw [h'] at z; cases z
    · subst z
      have e1 := x.sub.prs q
      cases hn' : nT o with
      | true => rw [x.same.at h' hn'] at e1; exact absurd (Option.some.inj e1) (hn ys)
      | false =>
        cases o <;> simp only [nT] at hn' <;> try cases hn'
        obtain ⟨ps', e'⟩ := x.same.tb _ _ h'
        rw [e'] at e1; cases e1
theorem ObR.mono (x : Ext F H F' H') {o : Ob} {a : Addr} (h : ObR K F H o a) : ObR K F' H' o a := by
  obtain ⟨dx, da, ua, pv, nv, ds, us, z⟩ := h
  exact ⟨dx, da, ua, pv, nv, ds, us, x.keepNone z.fa z.ha (by intro _ z; cases z), x.keepNone z.fd z.hd (by intro _ z; cases z), x.keepNone z.fu z.hu (by intro _ z; cases z), x.same.at z.ha, x.same.at z.hd, x.same.at z.hu, z.ne, z.rp.mono x.grow, z.rn.mono x.grow, z.rd.mono x.grow, z.ru.mono x.grow⟩
theorem SlotR.mono (x : Ext F H F' H') : ∀ {s : Slot} {o : Option V}, SlotR K F H s o → SlotR K F' H' s o
  | .no, _, _ => trivial
  | .val d, some v, h => Rp.mono x.grow h
  | .own (.lst ds), some (.ref a), ⟨n, xs, e, r⟩ => ⟨x.keepNone n e (by intro _ z; cases z), xs, x.same.at e, r.mono x.grow⟩
  | .own (.dic false es), some (.ref a), ⟨n, kvs, e, r⟩ => ⟨x.keepNone n e (by intro _ z; cases z), kvs, x.same.at e, r.mono x.grow⟩
  | .own (.dic true es), some (.ref a), ⟨n, kvs, e, r⟩ => ⟨x.keepNone n e (by intro _ z; cases z), kvs, x.same.at e, r.mono x.grow⟩
  | .held _ a, some v, h => h
  | .obj _ _, some (.ref a), h => ObR.mono x h
structure VR (K : PySem.W.Frag) (e : Env) (σ : St) (F H : Hp) : Prop where
  sub : Sub F H
  len : e.length = σ.length
  slot : ∀ (i : Nat) (s : Slot) (o : Option V), e[i]? = some s → σ[i]? = some o → SlotR K F H s o
theorem VR.mono {e : Env} {σ : St} (v : VR K e σ F H) (x : Ext F H F' H') : VR K e σ F' H' := ⟨x.sub, v.len, fun i s o a b => (v.slot i s o a b).mono x⟩
theorem VR.set {e : Env} {σ : St} {i : Nat} {s : Slot} {o : Option V} (v : VR K e σ F H) (h : SlotR K F H s o) : VR K (e.set i s) (σ.set i o) F H := by
  refine ⟨v.sub, by simp [v.len], fun j s' o' a b => ?_⟩
  rw [List.getElem?_set] at a b
  by_cases q : i = j
  · rw [if_pos q] at a b
    split at a
    · split at b
      · cases a; cases b; exact h
      · cases b
    · cases a
  · rw [if_neg q] at a b
    exact v.slot j s' o' a b
theorem VR.wipe {e : Env} {σ : St} (v : VR K e σ F H) : ∀ vs : List Nat, VR K (wipeE e vs) (wipe σ vs) F H
  | [] => v
  | i :: vs => VR.set (s := .no) (o := none) (VR.wipe v vs) trivial
theorem VR.get {e : Env} {σ : St} {i : Nat} {d : D} (v : VR K e σ F H) (h : e[i]? = some (.val d)) : ∃ x, σ[i]? = some (some x) ∧ Rp K F x d := by
  have hl : i < e.length := (List.getElem?_eq_some_iff.mp h).1
  have hl2 : i < σ.length := v.len ▸ hl
  have e2 : σ[i]? = some σ[i] := List.getElem?_eq_getElem hl2
  have q := v.slot i _ _ h e2
  cases z : σ[i] with
  | none => rw [z] at q; exact q.elim
  | some x => rw [z] at q e2; exact ⟨x, e2, q⟩
theorem VR.getOwn {e : Env} {σ : St} {i : Nat} {d : D} (v : VR K e σ F H) (h : e[i]? = some (.own d)) : ∃ a, σ[i]? = some (some (.ref a)) ∧ SlotR K F H (.own d) (some (.ref a)) := by
  have hl : i < e.length := (List.getElem?_eq_some_iff.mp h).1
  have hl2 : i < σ.length := v.len ▸ hl
  have e2 : σ[i]? = some σ[i] := List.getElem?_eq_getElem hl2
  have q := v.slot i _ _ h e2
  cases z : σ[i] with
  | none => rw [z] at q; cases d <;> first | exact q.elim | (rename_i t _; cases t <;> exact q.elim)
  | some x =>
    rw [z] at q e2
    cases x with
    | ref a => exact ⟨a, e2, q⟩
    | _ => cases d <;> first | exact q.elim | (rename_i t _; cases t <;> exact q.elim)
/-- the wish for an answer r: P of its value, W of its exception -/
def Wp {α : Type} (W : WX) (cl : Nat → Value) (r : R α) (σ : St) (F H : Hp) (P : α → Hp → Hp → Prop) : Prop := match r with
  | .ok a => ∀ F' H', Ext F H F' H' → P a F' H'
  | .exc c => ∀ F' H', Ext F H F' H' → W (cl c) none σ H'
  | .bad => False
variable {W : WX} {cl : Nat → Value} {α β : Type} {σ : St}
theorem Wp.bind {r : R α} {f : α → R β} {P : β → Hp → Hp → Prop} (h : Wp W cl (r >>= f) σ F H P) : Wp W cl r σ F H fun a F' H' => Wp W cl (f a) σ F' H' P := by
  cases r with
  | ok a =>
    intro F' H' x
    have h : Wp W cl (f a) σ F H P := h
    show Wp W cl (f a) σ F' H' P
    cases q : f a with
    | ok b => rw [q] at h; exact fun F2 H2 y => h F2 H2 (x.trans y)
    | exc c => rw [q] at h; exact fun F2 H2 y => h F2 H2 (x.trans y)
    | bad => rw [q] at h; exact h.elim
  | exc c => exact h
  | bad => exact h.elim
theorem Wp.mono {r : R α} {P P' : α → Hp → Hp → Prop} (h : Wp W cl r σ F H P) (i : ∀ a F' H', Ext F H F' H' → P a F' H' → P' a F' H') : Wp W cl r σ F H P' := by
  cases r with
  | ok a => exact fun F' H' x => i a F' H' x (h F' H' x)
  | exc c => exact h
  | bad => exact h.elim
theorem Wp.now {a : α} {P : α → Hp → Hp → Prop} (s : Sub F H) (h : Wp W cl (.ok a) σ F H P) : P a F H := h F H (Ext.refl s)
theorem Wp.step {r : R α} {P : α → Hp → Hp → Prop} (h : Wp W cl r σ F H P) (x : Ext F H F' H') : Wp W cl r σ F' H' P := by
  cases r with
  | ok a => exact fun F2 H2 y => h F2 H2 (x.trans y)
  | exc c => exact fun F2 H2 y => h F2 H2 (x.trans y)
  | bad => exact h.elim
end
/-- an expression's wish -/
def tE (K : PySem.W.Frag) (W : WX) (cl : Nat → Value) (r : Env → R D) : TE := fun σ H Q => ∃ e F, VR K e σ F H ∧ Wp W cl (r e) σ F H fun d F' H' => ∀ v, Rp K F' v d → Q v H'
/-- .. of a value that is looked at now alone -/
def tW (K : PySem.W.Frag) (W : WX) (cl : Nat → Value) (r : Env → R D) : TE := fun σ H Q => ∃ e F, VR K e σ F H ∧ Wp W cl (r e) σ F H fun d F' H' => ∀ v G, Sub G H' → Rp K G v d → Q v H'
/-- .. of a new list or dict that is not yet known to others -/
def NewR (K : PySem.W.Frag) (F H : Hp) (H0 : Hp) (a : Addr) (d : D) : Prop := H0 a = none ∧ SlotR K F H (.own d) (some (.ref a))
def tN (K : PySem.W.Frag) (W : WX) (cl : Nat → Value) (r : Env → R D) : TE := fun σ H Q => ∃ e F, VR K e σ F H ∧ Wp W cl (r e) σ F H fun d F' H' => ∀ a, NewR K F' H' H a d → Q (.ref a) H'
/-- a test's wish -/
def tT (K : PySem.W.Frag) (W : WX) (cl : Nat → Value) (r : Env → R Bool) : TT := fun σ H Q => ∃ e F, VR K e σ F H ∧ Wp W cl (r e) σ F H fun b F' H' => Q b H'
/-- arguments -/
def tA (K : PySem.W.Frag) (W : WX) (cl : Nat → Value) (r : Env → R (List D)) : TA := fun σ H Q => ∃ e F, VR K e σ F H ∧ Wp W cl (r e) σ F H fun ds F' H' => ∀ vs, Rps K F' vs ds → Q vs H'
def tAW (K : PySem.W.Frag) (W : WX) (cl : Nat → Value) (r : Env → R (List D)) : TA := fun σ H Q => ∃ e F, VR K e σ F H ∧ Wp W cl (r e) σ F H fun ds F' H' => ∀ vs G, Sub G H' → Rps K G vs ds → Q vs H'
/-- what the heap always tells: lists and tuples have a length -/
structure Good (K : PySem.W.Frag) (H : Hp) : Prop where
  lst : ∀ a xs, SqL K H a xs → xs.length ≤ sizeLine
  tup : ∀ a xs, SqT K H a xs → xs.length ≤ sizeLine
  dK : ∀ a kvs, Rd H a (.dK kvs) → kvs.length ≤ sizeLine
  dT : ∀ a kvs, Rd H a (dO a kvs) → kvs.length ≤ sizeLine
  ins : ∀ a C dx fs, H a = some (.ins C dx fs) → H dx = some (.own a)
section
variable {X : Cx}
theorem Inv.good {pins : List (Addr × Obj)} {σ : St} {H : Hp} {s : Shared} (I : Inv X pins σ H s) : Good X.K H :=
  ⟨fun a xs h => (let ⟨_, _, _, z⟩ := I.list h; z), fun a xs h => (let ⟨_, _, _, z⟩ := I.tuple h; z), fun a kvs h => (dk_rd I.hok h).1, fun a kvs h => (show ObjOk X.prog X.w H s.heap a (dO a kvs) from rd_of I.hok h).1.1, fun a C dx fs h => (I.hok a _ h).1⟩
theorem PE.imp {e : Expr} {t t' : TE} (h : PE X e t) (i : ∀ σ H Q, Good X.K H → t' σ H Q → t σ H Q) : PE X e t' :=
  ⟨fun pins s σ H Q I q => h.run pins s σ H Q I (i σ H Q (Inv.good I) q)⟩
theorem PT.imp {e : Expr} {t t' : TT} (h : PT X e t) (i : ∀ σ H Q, Good X.K H → t' σ H Q → t σ H Q) : PT X e t' :=
  ⟨fun pins s σ H Q I q => h.run pins s σ H Q I (i σ H Q (Inv.good I) q)⟩
theorem PW.imp {e : Expr} {t t' : TT} (h : PW X e t) (i : ∀ σ H Q, Good X.K H → t' σ H Q → t σ H Q) : PW X e t' :=
  ⟨fun wh pins s σ H Q I q => h.run wh pins s σ H Q I (i σ H Q (Inv.good I) q)⟩
theorem PA.imp {es : List Expr} {t t' : TA} (h : PA X es t) (i : ∀ σ H Q, Good X.K H → t' σ H Q → t σ H Q) : PA X es t' :=
  ⟨fun pos pins s σ H Q I q => h.run pos pins s σ H Q I (i σ H Q (Inv.good I) q)⟩
theorem PS.imp {st : Stmt} {t t' : TS} (h : PS X st t) (i : ∀ D σ H, Good X.K H → t' D σ H → t D σ H) : PS X st t' :=
  ⟨fun pins s σ H D I q => h.run pins s σ H D I (i D σ H (Inv.good I) q)⟩
theorem PSs.imp {st : List Stmt} {t t' : TS} (h : PSs X st t) (i : ∀ D σ H, Good X.K H → t' D σ H → t D σ H) : PSs X st t' :=
  ⟨fun pins s σ H D I q => h.run pins s σ H D I (i D σ H (Inv.good I) q)⟩
theorem PI.imp {tg e : Expr} {t t' : TI} (h : PI X tg e t) (i : ∀ σ H R, Good X.K H → t' σ H R → t σ H R) : PI X tg e t' :=
  ⟨fun pins s σ H R I q => h.run pins s σ H R I (i σ H R (Inv.good I) q)⟩
/-- what is known of the heap when the iterator has come -/
theorem PI.good {tg e : Expr} {t : TI} (h : PI X tg e t) : PI X tg e (fun σ H R => t σ H fun J H' => Good X.K H' → R J H') :=
  ⟨fun pins s σ H R I q => thn (h.run pins s σ H _ I q) fun v s1 h1 => thn h1 fun itv s2 h2 => by
    obtain ⟨it, fp, tn, J, H', e, I2, T, st, f, r⟩ := h2
    exact ⟨it, fp, tn, J, H', e, I2, T, st, f, r (Inv.good I2)⟩⟩
theorem PI.or {tg e : Expr} {t t' : TI} (h : PI X tg e t) (h' : PI X tg e t') : PI X tg e (fun σ H R => t σ H R ∨ t' σ H R) :=
  ⟨fun pins s σ H R I q => q.elim (h.run pins s σ H R I) (h'.run pins s σ H R I)⟩
theorem PS.or {st : Stmt} {t t' : TS} (h : PS X st t) (h' : PS X st t') : PS X st (fun D σ H => t D σ H ∨ t' D σ H) :=
  ⟨fun pins s σ H D I q => q.elim (fun z => h.run pins s σ H D I z) fun z => h'.run pins s σ H D I z⟩
theorem PE.or {e : Expr} {t t' : TE} (h : PE X e t) (h' : PE X e t') : PE X e (fun σ H Q => t σ H Q ∨ t' σ H Q) :=
  ⟨fun pins s σ H Q I q => q.elim (h.run pins s σ H Q I) (h'.run pins s σ H Q I)⟩
theorem OpR.imp {f : Value → Value → Sem Value} {r r' : R2} (h : OpR X f r) (i : ∀ x y H Q, Good X.K H → r' x y H Q → r x y H Q) : OpR X f r' :=
  fun pins s σ H x y v u Q I rx ry q => h pins s σ H x y v u Q I rx ry (i x y H Q (Inv.good I) q)
theorem CallR.imp {f : Value} {r r' : List V → Hp → VK → Prop} (h : CallR X f r) (i : ∀ xs H Q, Good X.K H → r' xs H Q → r xs H Q) : CallR X f r' :=
  fun pins s σ H xs us Q I rx q => h pins s σ H xs us Q I rx (i xs H Q (Inv.good I) q)
theorem MtR.imp {id : String} {r r' : V → List V → Hp → VK → Prop} (h : MtR X id r) (i : ∀ x xs H Q, Good X.K H → r' x xs H Q → r x xs H Q) : MtR X id r' :=
  fun pins s σ H x xs v us Q I rx rs q => h pins s σ H x xs v us Q I rx rs (i x xs H Q (Inv.good I) q)
theorem IxR.imp {r r' : R2} (h : IxR X r) (i : ∀ x y H Q, Good X.K H → r' x y H Q → r x y H Q) : IxR X r' :=
  fun a b pins s σ H x y v u Q I rx ry q => h a b pins s σ H x y v u Q I rx ry (i x y H Q (Inv.good I) q)
end
end Pan
namespace Pan
open PySem PySem.Spec L2
open PyProof.Rows hiding St
variable [TabsIn]
/-- whatever new tuple xs: -/
abbrev NewT (H : Hp) (xs : List V) (Q : VK) : Prop := ∀ (p : Addr) (o : Obj), H p = none → o.dict = none → Q (.ref p) (upd H p (.frz o (.tup xs)))
section
variable {X : Cx}
theorem put_tup {pins : List (Addr × Obj)} {σ : St} {H : Hp} {s : Shared} {h1 : Heap} {xs : List V} {its : List Value} {Q : VK} {tk : Nat} (J : Inv X pins σ H { s with heap := h1, toks := tk }) (r : Vals xs its) (hz : xs.length ≤ sizeLine) (q : NewT H xs Q) :
    ∃ (x : V) (H' : Hp), Inv X pins σ H' { s with heap := h1.push { cls := .type "tuple", data := .seq its.toArray }, toks := tk } ∧ RelV x (.ref h1.objs.size) ∧ Q x H' :=
  ⟨.ref h1.objs.size, upd H h1.objs.size (.frz { cls := .type "tuple", data := .seq its.toArray } (.tup xs)),
    J.laid (t' := tk) (fun b ob z => Heap.get?_push_of_some _ z) (Nat.le_refl _) ⟨Heap.get?_push_size _ rfl, hz, its, r, IsTup.new _ _⟩, rfl, q _ _ (J.hok.fresh (Nat.le_refl _)) rfl⟩
def tTupF (t : TA) : TE := fun σ H Q => t σ H fun xs H1 => xs.length ≤ sizeLine ∧ NewT H1 xs Q
theorem pe_tupF {es : List Expr} {t : TA} {pos : Pos} {k : Nat} (h : PA X es t) : PE X (.Tuple es k pos) (tTupF t) := by
  refine ⟨fun pins s σ H Q I hq => ?_⟩
  refine wpAny_Tuple_spliced (thn (h.run pos pins s σ H _ I hq) fun us s1 ⟨xs, H1, I1, r, z, q⟩ => ⟨by rw [← r.length]; exact z, ?_⟩)
  exact put_tup (s := s1) (h1 := s1.heap) (tk := s1.toks) I1 r z q
def rCatF (K : PySem.W.Frag) : R2 := fun x y H Q => ∃ a b xs ys, x = .ref a ∧ y = .ref b ∧ SqT K H a xs ∧ SqT K H b ys ∧ xs.length + ys.length ≤ sizeLine ∧
  (xs = [] → Q (.ref b) H) ∧ (xs ≠ [] → ys = [] → Q (.ref a) H) ∧ (xs ≠ [] → ys ≠ [] → NewT H (xs ++ ys) Q)
theorem op_catF : OpR X (binaryOp .Add) (rCatF X.K) := by
  intro pins s σ H x y v u Q I rx ry h
  obtain ⟨a, b, xs, ys, rfl, rfl, ha, hb, hz, q0, q1, q2⟩ := h
  cases rx
  cases ry
  obtain ⟨its, r1, p1, _⟩ := I.tuple ha
  obtain ⟨its2, r2, p2, _⟩ := I.tuple hb
  by_cases hx : xs = []
  · subst hx
    cases r1
    exact cat_tup0 p1 p2 ⟨.ref b, H, I, rfl, q0 rfl⟩
  · refine HT.cat_tup p1 p2 (fun z => hx (r1.nil_iff.mp z)) (fun z => ⟨.ref a, H, I, rfl, q1 hx (r2.nil_iff.mp z)⟩) (fun z => ?_) (by rw [← r1.length, ← r2.length]; exact hz)
    exact put_tup (s := s) (h1 := s.heap) (tk := s.toks) I (r1.append r2) (by rw [List.length_append]; exact hz) (q2 hx fun w => z (r2.nil_iff.mpr w))
def rSlF (K : PySem.W.Frag) : V → Option Int → Option Int → Hp → VK → Prop := fun x lo hi H Q => ∃ a xs, x = .ref a ∧ SqT K H a xs ∧
  (HT.sIx xs.length 0 lo = 0 ∧ HT.sIx xs.length xs.length hi = xs.length → Q (.ref a) H) ∧ (¬ (HT.sIx xs.length 0 lo = 0 ∧ HT.sIx xs.length xs.length hi = xs.length) → NewT H (cutV xs lo hi) Q)
theorem sl_tupF : SlR X (rSlF X.K) := by
  intro pins s σ H x v vl vu lo hi sl Q I rx hs pl pu h
  obtain ⟨a, xs, rfl, hx, q1, q2⟩ := h
  cases rx
  obtain ⟨its, r, ht, hz⟩ := I.tuple hx
  have hlen : its.toArray.size = xs.length := by rw [List.size_toArray]; exact r.length.symm
  refine ⟨"tuple", _, PyProof.Rows.slot_tuple_getitem.lookup, ht.typeIs, ?_⟩
  by_cases hw : HT.sIx xs.length 0 lo = 0 ∧ HT.sIx xs.length xs.length hi = xs.length
  · exact getItem_tuple_whole ht hs pl pu (by rw [hlen]; exact hw) ⟨.ref a, H, I, rfl, q1 hw⟩
  · refine HT.getItem_tuple_cut ht hs pl pu (by rw [hlen]; exact hw) ?_ (by rw [hlen]; exact hz)
    rw [hlen]
    exact put_tup (s := s) (h1 := s.heap) (tk := s.toks) I ((r.drop (HT.sIx xs.length 0 lo)).take (HT.sIx xs.length xs.length hi - HT.sIx xs.length 0 lo)) (Nat.le_trans (cutV_length xs lo hi) hz) (q2 hw)
theorem call_tupF : CallR X (.type "tuple") (fun xs H Q => ∃ p ys, xs = [.ref p] ∧ ((SqL X.K H p ys ∧ NewT H ys Q) ∨ (SqT X.K H p ys ∧ Q (.ref p) H))) := by
  intro pins s σ H xs us Q I r h
  obtain ⟨p, ys, rfl, h⟩ := h
  obtain ⟨u, rfl, rx⟩ := vals1 r
  cases rx
  rcases h with ⟨hq, q⟩ | ⟨hq, q⟩
  · obtain ⟨its, r', pl, hz⟩ := I.list hq
    have hlen := r'.length
    refine call_tuple_list pl.isList (fun h' kp => ?_) (by simp only [List.size_toArray] <;> omega)
    exact put_tup (s := s) (h1 := h') (tk := s.toks) (I.kept (t' := s.toks) kp) r' hz q
  · obtain ⟨its, r', pl, hz⟩ := I.tuple hq
    exact call_tuple_same pl ⟨.ref p, H, I, rfl, q⟩
def rRepF (K : PySem.W.Frag) : R2 := fun x y H Q => ∃ (l : Addr) (k : Int) (xs : List V), x = .ref l ∧ y = .int k ∧ SqT K H l xs ∧ xs ≠ [] ∧ 2 ≤ k ∧ k ≤ 1000 ∧ xs.length ≤ 1000 ∧ NewT H (List.replicate k.toNat xs).flatten Q
theorem op_repF : OpR X (binaryOp .Mult) (rRepF X.K) := by
  intro pins s σ H x y v u Q I rx ry h
  obtain ⟨l, k, xs, rfl, rfl, hT, hne, h1, h2, hz, q⟩ := h
  cases rx
  obtain ⟨t, rfl⟩ := ry
  obtain ⟨its, r, ⟨⟨cls, dd, data, sl⟩, ho, hc, n, hd⟩, hs⟩ := I.tuple hT
  simp only at hc hd
  subst hc hd
  have len : its.length = xs.length := r.length.symm
  have hi : its.toArray.isEmpty = false := by
    cases its with
    | nil => exact absurd (List.eq_nil_of_length_eq_zero len.symm) hne
    | cons a b => rfl
  have sz : its.toArray.size = xs.length := by rw [List.size_toArray, len]
  have prod : k.toNat * xs.length ≤ 1000 * 1000 := Nat.mul_le_mul (by omega) hz
  have prodI : ((its.toArray.size : Nat) : Int) * k ≤ 1000000 := by
    have e1 : ((xs.length : Nat) : Int) * k ≤ 1000 * k := Int.mul_le_mul_of_nonneg_right (by omega) (by omega)
    rw [sz]
    omega
  have fl : (List.replicate k.toNat its).flatten.length ≤ sizeLine := by
    rw [PyProof.Rows.lm_len_rep_flat, len, sizeLine_eq]
    omega
  have b0 : (decide (k < -(2 ^ 63)) || decide (k ≥ 2 ^ 63)) = false := by
    rw [decide_eq_false (by omega), decide_eq_false (by omega)]
    rfl
  have b1 : (its.toArray.isEmpty || k == 1) = false := by
    rw [hi, Bool.false_or]
    exact beq_eq_false_iff_ne.mpr (by omega)
  have b2 : (decide (k ≤ 0) || its.toArray.isEmpty) = false := by
    rw [hi, Bool.or_false]
    exact decide_eq_false (by omega)
  have b4 : Builtin.Tuple.tupleTooMany (((its.toArray.size : Nat) : Int) * k) = false := by
    unfold Builtin.Tuple.tupleTooMany
    rw [sizeLine_eq]
    exact decide_eq_false (by omega)
  refine wpAny_binaryOp_repeat_ref (T := "tuple") (U := "int") (by decide) ⟨_, ho, rfl⟩ (fun s' => typeIs_int s' k t) noFill_tuple_mul F.fills_int_mul F.slot_int_rmul repeat_tuple F.slot_int_index.lookup
    (call_meets F.slot_int_rmul (typeIs_int s k t) F.entry_int_rmul (F.args_int_rmul_2 _ _) (int_rmul_tuple k t l its.toArray n dd sl)
      ⟨ho, rfl, ⟨_, ho, rfl⟩, call_meets F.slot_tuple_mul ⟨_, ho, rfl⟩ F.entry_tuple_mul (F.args_tuple_mul_2 _ _) (tuple_mulW l its.toArray n dd sl k t b0 b1 b2 (by omega) b4 (by rw [size_rep, List.size_toArray]; exact fl)) ⟨ho, ?_⟩⟩)
  rw [size_rep]
  exact put_tup (s := s) (h1 := s.heap) (tk := s.toks) I (r.rep k.toNat) (by rw [PyProof.Rows.lm_len_rep_flat, sizeLine_eq]; omega) q
theorem times_none (l : Addr) (items : Array Value) (n : Nat) (dd : Option Addr) (sl : Array (Option Value)) (u : Tok) (c1 : (items.isEmpty || (0 : Int) == 1) = false) :
    Meets (Builtin.«tuple.__mul__» ⟨[.ref l, .int 0 u], []⟩) (fun _ R s => s.heap.get? l = some { cls := .type "tuple", dict := dd, data := .seq items n, slots := sl } ∧
      R (.ok (.ret (Value.ref s.heap.objs.size))) { s with heap := s.heap.push { cls := Value.type "tuple", data := Data.seq #[] }, toks := s.toks }) :=
  .of_wp fun prog w A R s h => by
    obtain ⟨hp, g, d, tk, os⟩ := s
    obtain ⟨hl, h⟩ := h
    have f1 := AutoSeq1.idx_int
    wp_walk using wpAny_loadPart' hl
    repeat (first
      | (refine wpAny_ite_false (decide_eq_false (by rw [c1]; exact Bool.false_ne_true)) ?_; wp_walk using wpAny_loadPart' hl))
    exact ⟨_, rfl, h⟩
theorem times_one (l : Addr) (items : Array Value) (n : Nat) (dd : Option Addr) (sl : Array (Option Value)) (u : Tok) :
    Meets (Builtin.«tuple.__mul__» ⟨[.ref l, .int 1 u], []⟩) (fun _ R s => s.heap.get? l = some { cls := .type "tuple", dict := dd, data := .seq items n, slots := sl } ∧
      R (.ok (.ret (Value.ref l))) s) :=
  .of_wp fun prog w A R s h => by
    obtain ⟨hp, g, d, tk, os⟩ := s
    obtain ⟨hl, h⟩ := h
    have f1 := AutoSeq1.idx_int
    have c1 : (items.isEmpty || (1 : Int) == 1) = true := by cases items.isEmpty <;> rfl
    wp_walk using wpAny_loadPart' hl
    repeat (first
      | (refine wpAny_ite_true (decide_eq_true c1) ?_; wp_walk using wpAny_loadPart' hl))
    exact ⟨_, rfl, h⟩
/-- a tuple, no or one time -/
def rRep0 (K : PySem.W.Frag) : R2 := fun x y H Q => ∃ (l : Addr) (xs : List V), x = .ref l ∧ SqT K H l xs ∧ xs ≠ [] ∧ ((y = .int 0 ∧ NewT H [] Q) ∨ (y = .int 1 ∧ Q (.ref l) H))
theorem op_rep0 : OpR X (binaryOp .Mult) (rRep0 X.K) := by
  intro pins s σ H x y v u Q I rx ry h
  obtain ⟨l, xs, rfl, hT, hne, h⟩ := h
  cases rx
  obtain ⟨its, r, ⟨⟨cls, dd, data, sl⟩, ho, hc, n, hd⟩, hs⟩ := I.tuple hT
  simp only at hc hd
  subst hc hd
  have len : its.length = xs.length := r.length.symm
  have hi : its.toArray.isEmpty = false := by
    cases its with
    | nil => exact absurd (List.eq_nil_of_length_eq_zero len.symm) hne
    | cons a b => rfl
  rcases h with ⟨rfl, q⟩ | ⟨rfl, q⟩
  · obtain ⟨t, rfl⟩ := ry
    refine wpAny_binaryOp_repeat_ref (T := "tuple") (U := "int") (by decide) ⟨_, ho, rfl⟩ (fun s' => typeIs_int s' 0 t) noFill_tuple_mul F.fills_int_mul F.slot_int_rmul repeat_tuple F.slot_int_index.lookup
      (call_meets F.slot_int_rmul (typeIs_int s 0 t) F.entry_int_rmul (F.args_int_rmul_2 _ _) (int_rmul_tuple 0 t l its.toArray n dd sl)
        ⟨ho, rfl, ⟨_, ho, rfl⟩, call_meets F.slot_tuple_mul ⟨_, ho, rfl⟩ F.entry_tuple_mul (F.args_tuple_mul_2 _ _) (times_none l its.toArray n dd sl t (by rw [hi]; rfl)) ⟨ho, ?_⟩⟩)
    exact put_tup (s := s) (h1 := s.heap) (tk := s.toks) I (its := []) .nil (by simp) q
  · obtain ⟨t, rfl⟩ := ry
    refine wpAny_binaryOp_repeat_ref (T := "tuple") (U := "int") (by decide) ⟨_, ho, rfl⟩ (fun s' => typeIs_int s' 1 t) noFill_tuple_mul F.fills_int_mul F.slot_int_rmul repeat_tuple F.slot_int_index.lookup
      (call_meets F.slot_int_rmul (typeIs_int s 1 t) F.entry_int_rmul (F.args_int_rmul_2 _ _) (int_rmul_tuple 1 t l its.toArray n dd sl)
        ⟨ho, rfl, ⟨_, ho, rfl⟩, call_meets F.slot_tuple_mul ⟨_, ho, rfl⟩ F.entry_tuple_mul (F.args_tuple_mul_2 _ _) (times_one l its.toArray n dd sl t) ⟨ho, ?_⟩⟩)
    exact ⟨.ref l, H, I, rfl, q⟩
end
section
variable {X : Cx} {pins : List (Addr × Obj)} {σ : St} {H : Hp} {s : Shared}
theorem items_ints {P : Program} {w : World} : ∀ {k : List Int} {us : List Value}, Vals (k.map V.int) us → ItemsAre (intKind P w) k us
  | [], _, .nil => .nil
  | n :: k, _, .cons r t => by
    obtain ⟨tk, rfl⟩ := r
    exact .cons (intKind_is P w n tk) (items_ints t)
theorem keyOfT (I : Inv X pins σ H s) {b : Addr} {k : List Int} (h : SqT X.K H b (k.map V.int)) : (tupleKind (intKind X.prog X.w)).is s.heap k b := by
  obtain ⟨its, r, ⟨o, ho, hc, n, hd⟩, _⟩ := I.tuple h
  exact ⟨o, its.toArray, n, ho, hc, hd, by simpa using items_ints r⟩
/-- the keys' tuples stand -/
def KeysIn (H : Hp) (rows : List Row) : Prop := ∀ r ∈ rows, IsT H r.2.1 (r.1.map V.int)
theorem paired_mem {α β : Type} {R : α → β → Prop} {l : List α} {m : List β} (p : Paired R l m) {y : β} (h : y ∈ m) : ∃ x ∈ l, R x y := by
  induction p with
  | nil => cases h
  | cons q _ ih =>
    rcases List.mem_cons.mp h with e | h
    · exact ⟨_, List.mem_cons_self, e ▸ q⟩
    · obtain ⟨x, hx, r⟩ := ih h
      exact ⟨x, List.mem_cons_of_mem _ hx, r⟩
theorem dict_of (I : Inv X pins σ H s) {a : Addr} {rows : List Row} (h : Rd H a (dO a rows)) (hk : KeysIn H rows) :
    rows.length ≤ sizeLine ∧ (a == sysModules) = false ∧ ∃ xs, Paired RowR rows xs ∧ s.heap.DictOfH (tupleKind (intKind X.prog X.w)) a xs := by
  obtain ⟨z, y, xs, r, o, es, ep, h1, h2, h3, h4, h5⟩ := (show ObjOk X.prog X.w H s.heap a (dO a rows) from rd_of I.hok h).1
  refine ⟨z, y, xs, r, o, es, ep, h1, h2, h3, h4, fun x hx => ?_, h5⟩
  obtain ⟨p, hp, e1, e2, _⟩ := paired_mem r hx
  rw [← e1, ← e2]
  exact keyOfT I (hk p hp).sq
def rval (rows : List Row) (k : List Int) : Option V := (rows.find? fun r => decide (r.1 = k)).map (·.2.2)
theorem rows_val {rows : List Row} {xs : List (List Int × Addr × Value)} (r : Paired RowR rows xs) (k : List Int) : RelO (rval rows k) ((atKey xs k).map (·.2)) := by
  induction r with
  | nil => exact True.intro
  | @cons p q ps qs h t ih =>
    obtain ⟨h1, _, h2⟩ := h
    by_cases e : p.1 = k
    · have e' : q.1 = k := h1.symm.trans e
      have b : atKey (q :: qs) k = some q.2 := by simp [atKey, List.find?_cons, e']
      have c : rval (p :: ps) k = some p.2.2 := by simp [rval, List.find?_cons, e]
      rw [b, c]
      exact h2
    · have e' : ¬ q.1 = k := fun z => e (h1.trans z)
      have b : atKey (q :: qs) k = atKey qs k := by simp [atKey, List.find?_cons, e']
      have c : rval (p :: ps) k = rval ps k := by simp [rval, List.find?_cons, e]
      rw [b, c]
      exact ih
def rput (rows : List Row) (k : List Int) (b : Addr) (v : V) : List Row := if (rval rows k).isSome then rows.map fun r => if r.1 = k then (r.1, r.2.1, v) else r else rows ++ [(k, b, v)]
theorem rows_put {rows : List Row} {xs : List (List Int × Addr × Value)} (r : Paired RowR rows xs) (k : List Int) (b : Addr) {v : V} {u : Value} (rv : RelV v u) : Paired RowR (rput rows k b v) (storedH xs k b u) := by
  have e : (rval rows k).isSome = (atKey xs k).isSome := by
    rw [(rows_val r k).isSome_eq, Option.isSome_map]
  unfold rput storedH
  rw [e]
  split
  · clear e
    induction r with
    | nil => exact .nil
    | @cons p q ps qs h t ih =>
      rename_i hh
      rw [List.map_cons, List.map_cons]
      obtain ⟨h1, h2, h3⟩ := h
      refine .cons ?_ ?_
      · unfold putAt
        by_cases e : p.1 = k
        · rw [if_pos e, if_pos (h1.symm.trans e)]; exact ⟨h1, h2, rv⟩
        · rw [if_neg e, if_neg (fun z => e (h1.trans z))]; exact ⟨h1, h2, h3⟩
      · have all : ∀ {l : List Row} {m : List (List Int × Addr × Value)}, Paired RowR l m → Paired RowR (l.map fun r => if r.1 = k then (r.1, r.2.1, v) else r) (m.map (putAt k u)) := by
          intro l m pr
          induction pr with
          | nil => exact .nil
          | @cons p q ps qs h t ih =>
            obtain ⟨h1, h2, h3⟩ := h
            rw [List.map_cons, List.map_cons]
            refine .cons ?_ ih
            unfold putAt
            by_cases e : p.1 = k
            · rw [if_pos e, if_pos (h1.symm.trans e)]; exact ⟨h1, h2, rv⟩
            · rw [if_neg e, if_neg (fun z => e (h1.trans z))]; exact ⟨h1, h2, h3⟩
        exact all t
  · exact Paired.snoc r ⟨rfl, rfl, rv⟩
theorem rput_len (rows : List Row) (k : List Int) (b : Addr) (v : V) : (rput rows k b v).length ≤ rows.length + 1 := by
  unfold rput
  split
  · rw [List.length_map]; omega
  · rw [List.length_append]; exact Nat.le_refl _
/-- the dict at a holds at the tuple y: -/
def TGet (K : PySem.W.Frag) (H : Hp) (a : Addr) (y : V) (r : Option V) : Prop := ∃ rows k b, Rd H a (dO a rows) ∧ KeysIn H rows ∧ y = .ref b ∧ SqT K H b (k.map V.int) ∧ r = rval rows k
variable {a : Addr} {y v : V} {u r : Value} {o : Option V} {A : Around} {E : Value → Shared → Prop}
theorem t_getItem {Q : Value → Shared → Prop} (hu : A.units + 1 < cLine) (I : Inv X pins σ H s) (g : TGet X.K H a y (some v)) (ry : RelV y u) (h : ∀ w' s', Inv X pins σ H s' → RelV v w' → Q w' s') : wpAny (model X.prog X.w) A (getItem (.ref a) u) Q E s := by
  obtain ⟨rows, k, b, e, hk, rfl, eb, l⟩ := g
  cases (show u = Value.ref b from ry)
  obtain ⟨z, hd, xs, rel, dd⟩ := dict_of I e hk
  obtain ⟨w', hw, rw'⟩ := RelO.some_of (v := v) (o := (atKey xs k).map (·.2)) (by rw [l]; exact rows_val rel k)
  obtain ⟨p, hp, hp2⟩ := Option.map_eq_some_iff.mp hw
  refine wpAny_getItem_heap (tupleKind_room_in1 hu) (keyOfT I eb) dd hp ?_
  rw [hp2]
  exact h w' _ (I.tok _) rw'
theorem t_in {Q : Value → Shared → Prop} (hu : A.units + 1 < cLine) (I : Inv X pins σ H s) (g : TGet X.K H a y o) (ry : RelV y u) (h : ∀ s', Inv X pins σ H s' → Q (.bool o.isSome) s') : wpAny (model X.prog X.w) A (compareOp .In u (.ref a)) Q E s := by
  obtain ⟨rows, k, b, e, hk, rfl, eb, l⟩ := g
  cases (show u = Value.ref b from ry)
  obtain ⟨z, hd, xs, rel, dd⟩ := dict_of I e hk
  refine wpAny_in_heap (tupleKind_room_in1 hu) (keyOfT I eb) hd dd ?_
  have q := (rows_val rel k).isSome_eq
  rw [Option.isSome_map, ← l] at q
  rw [← q]
  exact h _ (I.tok _)
theorem t_notIn {Q : Value → Shared → Prop} (hu : A.units + 1 < cLine) (I : Inv X pins σ H s) (g : TGet X.K H a y o) (ry : RelV y u) (h : ∀ s', Inv X pins σ H s' → Q (.bool (!o.isSome)) s') : wpAny (model X.prog X.w) A (compareOp .NotIn u (.ref a)) Q E s := by
  obtain ⟨rows, k, b, e, hk, rfl, eb, l⟩ := g
  cases (show u = Value.ref b from ry)
  obtain ⟨z, hd, xs, rel, dd⟩ := dict_of I e hk
  refine wpAny_notIn_heap (tupleKind_room_in1 hu) (keyOfT I eb) hd dd ?_
  have q := (rows_val rel k).isSome_eq
  rw [Option.isSome_map, ← l] at q
  rw [← q]
  exact h _ (I.tok _)
theorem dO_ok {P : Program} {w : World} {H' : Hp} {h' : Heap} {rows : List Row} (h : dRaw a rows h') : ObjOk P w H' h' a (dO a rows) := by
  refine ⟨h, ?_, fun h1 h2 p kp => ?_⟩
  · obtain ⟨_, _, _, _, o, _, _, e, _⟩ := h
    exact ⟨o, e⟩
  · obtain ⟨z, y, xs, r, o, es, ep, e1, e2, e3, e4, e5⟩ := p
    exact ⟨z, y, xs, r, o, es, ep, kp o e1, e2, e3, e4, e5⟩
/-- d[t] = v -/
theorem t_setItem {rows : List Row} {k : List Int} {b : Addr} {Q : Unit → Shared → Prop} (hu : A.units + 1 < cLine) (I : Inv X pins σ H s) (e : H a = some (dO a rows)) (hk : KeysIn H rows) (eb : SqT X.K H b (k.map V.int)) (hl : rows.length < sizeLine) (rv : RelV v r)
    (h : ∀ s', Inv X pins σ (upd H a (dO a (rput rows k b v))) s' → Q () s') : wpAny (model X.prog X.w) A (setItem (.ref a) (.ref b) r) Q E s := by
  obtain ⟨z, hd, xs, rel, dd⟩ := dict_of I (.inl e) hk
  have hz : xs.length ≤ sizeLine := by rw [← Paired.length rel]; exact z
  refine wpAny_setItem_heap (hsz := hz) (tupleKind_room_in1 hu) (keyOfT I eb) dd fun h' dd' hs => h _ ?_
  obtain ⟨q, es, ep, hq, h2, h3, h4, _, h5⟩ := dd'
  refine d_write I (by rw [e]; exact True.intro) hs ⟨q, hq⟩ (dO_ok ⟨?_, hd, _, rows_put rel k b rv, q, es, ep, hq, h2, h3, h4, h5⟩)
  have := rput_len rows k b v
  omega
end
def sTPut (K : PySem.W.Frag) (td ty tv : TE) : TS := fun D σ H => tv σ H fun v H1 => td σ H1 fun x H2 => ty σ H2 fun y H3 => ∃ a rows k b, x = .ref a ∧ y = .ref b ∧ H3 a = some (dO a rows) ∧ KeysIn H3 rows ∧ SqT K H3 b (k.map V.int) ∧ rows.length < sizeLine ∧ D.nx σ (upd H3 a (dO a (rput rows k b v)))
def tTNew : TE := fun _ H Q => ∀ p, H p = none → Q (.ref p) (upd H p (dO p []))
section
variable {X : Cx} {o i value : Expr} {pos pos' : Pos} {td ty tv : TE}
theorem tdict_type {pins : List (Addr × Obj)} {σ : St} {H : Hp} {s : Shared} {a : Addr} {y : V} {r : Option V} (I : Inv X pins σ H s) (g : TGet X.K H a y r) : s.TypeIs (.ref a) "dict" := by
  obtain ⟨rows, k, b, e, hk, _, _, _⟩ := g
  obtain ⟨_, _, xs, _, dd⟩ := dict_of I e hk
  exact dd.typeIs
theorem ps_tput (hu : X.A.units + 1 < cLine) (ho : PE X o td) (hi : PE X i ty) (hv : PE X value tv) (hs : swapsWith value (some (.Subscript o i pos')) pos.line X.env = pure false) : PS X (.Assign [.Subscript o i pos'] value pos) (sTPut X.K td ty tv) := by
  refine ⟨fun pins s σ H D I h => ?_⟩
  refine wpAny_Assign_Subscript (thn (hv.run pins s σ H _ I h) fun r s1 ⟨v, H1, I1, rv, q1⟩ => thn (ho.run pins s1 σ H1 _ I1 q1) fun u s2 ⟨x, H2, I2, rx, q2⟩ => thn (hi.run pins s2 σ H2 _ I2 q2) fun iv s3 ⟨y, H3, I3, ry, a, rows, k, b, ex, ey, e, hk, eb, hl, q3⟩ => ?_) hs
  subst ex ey
  cases (show u = Value.ref a from rx)
  cases (show iv = Value.ref b from ry)
  exact t_setItem hu I3 e hk eb hl rv fun s4 I4 => ⟨σ, _, I4, q3⟩
theorem dO_empty {P : Program} {w : World} {H : Hp} (h : Heap) (hb : sysModules < h.objs.size) : ObjOk P w H (h.push { cls := .type "dict", data := .dict #[] }) h.objs.size (dO h.objs.size []) :=
  dO_ok ⟨Nat.zero_le _, beq_eq_false_iff_ne.mpr (Ne.symm (Nat.ne_of_lt hb)), [], .nil, _, #[], 0, Heap.get?_push_size _ rfl, ⟨rfl, rfl, rfl⟩, rfl, rfl, List.nodup_nil⟩
theorem pe_tnew : PE X (.Dict [] [] pos) tTNew := ⟨fun pins s σ H Q I h =>
  wpAny_Dict_empty ⟨.ref s.heap.objs.size, _, I.laid (a := s.heap.objs.size) (o := dO s.heap.objs.size []) (t' := s.toks) (fun _ _ q => Heap.get?_push_of_some _ q) (Nat.le_refl _) (dO_empty s.heap I.big), rfl, h _ (I.hok.fresh (Nat.le_refl _))⟩⟩
end
/-- a dict of either kind -/
def AGet (K : PySem.W.Frag) (H : Hp) (a : Addr) (y : V) (r : Option V) : Prop := DGet H a y r ∨ TGet K H a y r
def tAGet (K : PySem.W.Frag) (td ty : TE) : TE := fun σ H Q => td σ H fun x H1 => ty σ H1 fun y H2 => ∃ a v, x = .ref a ∧ AGet K H2 a y (some v) ∧ Q v H2
section
variable {X : Cx} {o i : Expr} {pos : Pos} {td ty : TE}
theorem pe_aget (hu : X.A.units + 1 < cLine) (ho : PE X o td) (hi : PE X i ty) (hs : NoSl i) : PE X (.Subscript o i pos) (tAGet X.K td ty) := by
  refine ⟨fun pins s σ H Q I h => ?_⟩
  refine subD_of PySem.F.slot_dict_getitem.lookup hs (thn (ho.run pins s σ H _ I h) fun u s1 ⟨x, H1, I1, rx, q1⟩ => thn (hi.run pins s1 σ H1 _ I1 q1) fun iv s2 ⟨y, H2, I2, ry, a, v, ex, g, q2⟩ => ?_)
  subst ex
  cases (show u = Value.ref a from rx)
  rcases g with g | g
  · exact ⟨dict_typeIs I2 g, d_getItem hu I2 g ry fun w' s3 I3 rw' => ⟨v, H2, I3, rw', q2⟩⟩
  · exact ⟨tdict_type I2 g, t_getItem hu I2 g ry fun w' s3 I3 rw' => ⟨v, H2, I3, rw', q2⟩⟩
end
end Pan
namespace Pan
open PySem PySem.Spec L2
open PyProof.Rows hiding St
variable [TabsIn]
mutual
def toPy : D → PyData
  | .non => .none
  | .bl b => .bool b
  | .int i => .int i
  | .str x => .str x
  | .tup xs => .tuple (toPys xs)
  | .lst xs => .list (toPys xs)
  | _ => .none
def toPys : List D → List PyData
  | [] => []
  | d :: r => toPy d :: toPys r
end
theorem toPys_map : ∀ xs : List D, toPys xs = xs.map toPy
  | [] => by rw [toPys, List.map_nil]
  | d :: r => by rw [toPys, toPys_map r, List.map_cons]
theorem okd_canLay : ∀ (n : Nat) (d : D), okd n d = true → (toPy d).canLay0 = true := by
  have all : ∀ (n : Nat) (xs : List D), (∀ d, okd n d = true → (toPy d).canLay0 = true) → xs.all (okd n) = true → PyData.canLayAll0 (toPys xs) = true := by
    intro n xs ih
    induction xs with
    | nil => intro _; rw [toPys, PyData.canLayAll0]
    | cons d r i =>
      intro h
      rw [List.all_cons, Bool.and_eq_true] at h
      rw [toPys, PyData.canLayAll0, ih d h.1, i h.2]
      rfl
  intro n
  induction n with
  | zero => intro d h; cases d <;> simp [okd] at h <;> simp [toPy, PyData.canLay0, h]
  | succ n ih =>
    intro d h
    cases d <;> simp only [okd] at h <;> first | (simp only [toPy, PyData.canLay0, h]; done) | (simp only [toPy, PyData.canLay0]; exact all n _ ih h) | cases h
theorem okd_depth : ∀ (n : Nat) (d : D), okd n d = true → (toPy d).depth ≤ n := by
  have all : ∀ (n : Nat) (xs : List D), (∀ d, okd n d = true → (toPy d).depth ≤ n) → xs.all (okd n) = true → PyData.depthAll (toPys xs) ≤ n := by
    intro n xs ih
    induction xs with
    | nil => intro _; rw [toPys, PyData.depthAll]; exact Nat.zero_le _
    | cons d r i =>
      intro h
      rw [List.all_cons, Bool.and_eq_true] at h
      rw [toPys, PyData.depthAll]
      exact Nat.max_le.mpr ⟨ih d h.1, i h.2⟩
  intro n
  induction n with
  | zero => intro d h; cases d <;> simp [okd] at h <;> simp [toPy, PyData.depth]
  | succ n ih =>
    intro d h
    cases d <;> simp only [okd] at h <;> first | (simp only [toPy, PyData.depth]; exact Nat.zero_le _) | (simp only [toPy, PyData.depth]; exact Nat.succ_le_succ (all n _ ih h)) | cases h
theorem okd_shaped {n : Nat} {d : D} (hn : n ≤ 64) (h : okd n d = true) : SeqAt.shaped (toPy d) = true := by
  unfold SeqAt.shaped
  rw [okd_canLay n d h, decide_eq_true (Nat.le_trans (okd_depth n d h) hn)]
  rfl
theorem eqv_py : ∀ (n : Nat) (a b : D), okd n a = true → okd n b = true → PyData.eqv (toPy a) (toPy b) = eqv a b := by
  have all : ∀ (n : Nat), (∀ a b : D, okd n a = true → okd n b = true → PyData.eqv (toPy a) (toPy b) = eqv a b) → ∀ (xs ys : List D), xs.all (okd n) = true → ys.all (okd n) = true → PyData.eqvAll (toPys xs) (toPys ys) = eqvs xs ys := by
    intro n ih xs
    induction xs with
    | nil => intro ys _ _; cases ys <;> simp [toPys, PyData.eqvAll, eqvs]
    | cons d r i =>
      intro ys h1 h2
      cases ys with
      | nil => simp [toPys, PyData.eqvAll, eqvs]
      | cons y ys =>
        rw [List.all_cons, Bool.and_eq_true] at h1 h2
        simp only [toPys, PyData.eqvAll, eqvs]
        rw [ih d y h1.1 h2.1, i ys h1.2 h2.2]
  intro n
  induction n with
  | zero => intro a b ha hb; cases a <;> cases b <;> simp [okd] at ha hb <;> simp [toPy, PyData.eqv, eqv, b2i]
  | succ n ih =>
    intro a b ha hb
    cases a <;> cases b <;> simp only [okd] at ha hb <;> first | (simp only [toPy, PyData.eqv, eqv, b2i]; done) | (simp only [toPy, PyData.eqv, eqv]; exact all n ih _ _ ha hb) | (cases ha; done) | (cases hb; done)
section
variable {K : PySem.W.Frag} {F H : Hp}
theorem Rp.dp (s : Sub F H) : ∀ (n : Nat) {v : V} {d : D}, Rp K F v d → okd n d = true → Dp K H v (toPy d) := by
  have all : ∀ (n : Nat), (∀ {v : V} {d : D}, Rp K F v d → okd n d = true → Dp K H v (toPy d)) → ∀ {vs : List V} {ds : List D}, Rps K F vs ds → ds.all (okd n) = true → DpAll K H vs (toPys ds) := by
    intro n ih vs ds r
    induction ds generalizing vs with
    | nil => intro _; cases r; rw [toPys]; exact .nil
    | cons d ds i =>
      intro h
      cases r with
      | cons h1 h2 =>
        rw [List.all_cons, Bool.and_eq_true] at h
        rw [toPys]
        exact .cons (ih h1 h.1) (i h2 h.2)
  intro n
  induction n with
  | zero =>
    intro v d r h
    cases r <;> simp [okd] at h <;> simp only [toPy]
    · exact .non
    · exact .bl _
    · exact .int _
    · exact .str _
  | succ n ih =>
    intro v d r h
    cases r with
    | non => rw [toPy]; exact .non
    | bl b => rw [toPy]; exact .bl _
    | int i => rw [toPy]; exact .int _
    | str x => rw [toPy]; exact .str _
    | ty _ => simp [okd] at h
    | scr _ => simp [okd] at h
    | dK _ _ => simp [okd] at h
    | dT _ _ => simp [okd] at h
    | prs _ _ => simp [okd] at h
    | tup e r => rw [toPy]; exact .tup ((s.tup e).sq) (all n ih r (by simpa only [okd] using h))
    | lst e r => rw [toPy]; exact .lst (SqL.of (s.lst e)) (all n ih r (by simpa only [okd] using h))
/-- flat things -/
theorem Rp.flat {v : V} {d : D} (r : Rp K F v d) (h : flatD d = true) : flatV v = true := by
  cases r <;> first | rfl | simp [flatD] at h
theorem Rps.flat : ∀ {vs : List V} {ds : List D}, Rps K F vs ds → ds.all flatD = true → vs.all flatV = true
  | _, _, .nil, _ => rfl
  | _, _, .cons h r, e => by
    rw [List.all_cons, Bool.and_eq_true] at e
    rw [List.all_cons, h.flat e.1, Rps.flat r e.2]
    rfl
theorem Rp.eqV {F F' : Hp} {v w : V} {d e : D} (r : Rp K F v d) (q : Rp K F' w e) (hd : flatD d = true) (he : flatD e = true) : L2.eqV v w = eqv d e := by
  cases r <;> cases q <;> first | rfl | simp [flatD] at hd | simp [flatD] at he | simp [L2.eqV, eqv, b2i]
theorem Rps.inV {F F' : Hp} {w : V} {e : D} (q : Rp K F' w e) (he : flatD e = true) : ∀ {vs : List V} {ds : List D}, Rps K F vs ds → ds.all flatD = true → L2.inV w vs = ds.any (eqv · e)
  | _, _, .nil, _ => rfl
  | _, _, .cons h r, z => by
    rw [List.all_cons, Bool.and_eq_true] at z
    have ih := Rps.inV q he r z.2
    unfold L2.inV at ih ⊢
    rw [List.any_cons, List.any_cons, ih, h.eqV q z.1 he]
end
/-- the answer d of data, as values -/
abbrev Gives (K : PySem.W.Frag) (F H : Hp) (d : D) (Q : VK) : Prop := ∀ v F' H', Ext F H F' H' → Rp K F' v d → Q v H'
def rBin (K : PySem.W.Frag) (op : Operator) : R2 := fun x y H Q => ∃ F a b d, Sub F H ∧ Rp K F x a ∧ Rp K F y b ∧ binS op a b = .ok d ∧ Gives K F H d Q
section
variable {X : Cx}
theorem Gives.int {K : PySem.W.Frag} {F H : Hp} {i : Int} {Q : VK} (s : Sub F H) (g : Gives K F H (.int i) Q) : Q (.int i) H := g _ _ _ (Ext.refl s) (.int i)
theorem Gives.bl {K : PySem.W.Frag} {F H : Hp} {i : Bool} {Q : VK} (s : Sub F H) (g : Gives K F H (.bl i) Q) : Q (.bl i) H := g _ _ _ (Ext.refl s) (.bl i)
theorem Gives.str {K : PySem.W.Frag} {F H : Hp} {i : Str} {Q : VK} (s : Sub F H) (g : Gives K F H (.str i) Q) : Q (.str i) H := g _ _ _ (Ext.refl s) (.str i)
theorem Gives.was {K : PySem.W.Frag} {F H : Hp} {d : D} {v : V} {Q : VK} (s : Sub F H) (r : Rp K F v d) (g : Gives K F H d Q) : Q v H := g _ _ _ (Ext.refl s) r
theorem Gives.tup {K : PySem.W.Frag} {F H : Hp} {ds : List D} {vs : List V} {Q : VK} (s : Sub F H) (r : Rps K F vs ds) (g : Gives K F H (.tup ds) Q) : NewT H vs Q := fun p o hp ho =>
  have x := Ext.laid (.frz o (.tup vs)) s hp
  g _ _ _ x (.tup (.new ho) (r.mono x.grow))
theorem Gives.lst {K : PySem.W.Frag} {F H : Hp} {ds : List D} {vs : List V} {Q : VK} (s : Sub F H) (r : Rps K F vs ds) (g : Gives K F H (.lst ds) Q) : ∀ p, H p = none → Q (.ref p) (upd H p (.lst vs)) := fun p hp =>
  have x := Ext.laid (.lst vs) s hp
  g _ _ _ x (.lst upd_same (r.mono x.grow))
theorem fitL_ok {α : Type} {xs : List α} {k : List α → D} {d : D} (h : fitL xs k = .ok d) : xs.length ≤ sizeLine ∧ d = k xs := by
  unfold fitL at h
  split at h
  · cases h; exact ⟨by assumption, rfl⟩
  · cases h
theorem bin_add : OpR X (binaryOp .Add) (rBin X.K .Add) := by
  refine OpR.imp (((op_add (X := X)).or op_add_str).or (op_catF.or op_cat)) fun x y H Q _ h => ?_
  obtain ⟨F, a, b, d, s, ra, rb, e, g⟩ := h
  cases ra <;> cases rb <;> simp only [binS] at e <;> try cases e
  · exact .inl (.inl ⟨_, _, rfl, rfl, g.int s⟩)
  · split at e
    · cases e
      exact .inl (.inr ⟨_, _, rfl, rfl, by assumption, g.str s⟩)
    · cases e
  · rename_i a xs ds ea r1 b ys es eb r2
    obtain ⟨hl, rfl⟩ := fitL_ok e
    refine .inr (.inl ⟨a, b, xs, ys, rfl, rfl, (s.tup ea).sq, (s.tup eb).sq, ?_, fun z => ?_, fun _ z => ?_, fun _ _ => g.tup s (r1.append r2)⟩)
    · rw [r1.length, r2.length, ← List.length_append]; exact hl
    · subst z; cases r1; exact g.was s (.tup eb r2)
    · subst z
      cases r2
      rw [List.append_nil] at g
      exact g.was s (.tup ea r1)
  · rename_i a xs ds ea r1 b ys es eb r2
    obtain ⟨hl, rfl⟩ := fitL_ok e
    refine .inr (.inr ⟨a, b, xs, ys, rfl, rfl, s.lst ea, s.lst eb, ?_, g.lst s (r1.append r2)⟩)
    rw [r1.length, r2.length, ← List.length_append]; exact hl
theorem bin_sub : OpR X (binaryOp .Sub) (rBin X.K .Sub) := by
  refine OpR.imp (op_sub (X := X)) fun x y H Q _ h => ?_
  obtain ⟨F, a, b, d, s, ra, rb, e, g⟩ := h
  cases ra <;> cases rb <;> simp only [binS] at e <;> try cases e
  exact ⟨_, _, rfl, rfl, g.int s⟩
theorem bin_mod : OpR X (binaryOp .Mod) (rBin X.K .Mod) := by
  refine OpR.imp (op_mod (X := X)) fun x y H Q _ h => ?_
  obtain ⟨F, a, b, d, s, ra, rb, e, g⟩ := h
  cases ra <;> cases rb <;> simp only [binS] at e <;> try cases e
  split at e
  · cases e
    exact ⟨_, _, rfl, rfl, by assumption, g.int s⟩
  · cases e
theorem bin_fdiv : OpR X (binaryOp .FloorDiv) (rBin X.K .FloorDiv) := by
  refine OpR.imp (op_fdivW (X := X)) fun x y H Q _ h => ?_
  obtain ⟨F, a, b, d, s, ra, rb, e, g⟩ := h
  cases ra <;> cases rb <;> simp only [binS, divS] at e <;> try cases e
  split at e
  · rename_i h
    cases e
    exact ⟨_, _, rfl, rfl, wide_div h.1 (b := 64) (by omega) (by decide) (by decide), g.int s⟩
  · cases e
theorem bin_pow : OpR X (binaryOp .Pow) (rBin X.K .Pow) := by
  refine OpR.imp (op_pow (X := X)) fun x y H Q _ h => ?_
  obtain ⟨F, a, b, d, s, ra, rb, e, g⟩ := h
  cases ra <;> cases rb <;> simp only [binS] at e <;> try cases e
  split at e
  · rename_i h
    cases e
    exact ⟨_, _, rfl, rfl, ⟨h.1, by omega, h.2.2⟩, g.int s⟩
  · cases e
theorem bin_mul : OpR X (binaryOp .Mult) (rBin X.K .Mult) := by
  refine OpR.imp ((op_mul (X := X)).or (op_repF.or (op_rep.or op_rep0))) fun x y H Q _ h => ?_
  obtain ⟨F, a, b, d, s, ra, rb, e, g⟩ := h
  cases ra <;> cases rb <;> simp only [binS, mulS] at e <;> try cases e
  · split at e
    · rename_i h
      cases e
      exact .inl ⟨_, _, rfl, rfl, h, g.int s⟩
    · cases e
  · rename_i a xs ds ea r1 k
    split at e
    · rename_i hk
      cases e
      have ne : xs ≠ [] := fun z => by
        subst z
        cases r1
        exact absurd hk.2.2.2 (by decide)
      by_cases k0 : k = 0
      · subst k0
        exact .inr (.inr (.inr ⟨a, xs, rfl, (s.tup ea).sq, ne, .inl ⟨rfl, g.tup s .nil⟩⟩))
      · by_cases k1 : k = 1
        · subst k1
          have e1 : (List.replicate (1 : Int).toNat ds).flatten = ds := by simp
          rw [e1] at g
          exact .inr (.inr (.inr ⟨a, xs, rfl, (s.tup ea).sq, ne, .inr ⟨rfl, g.was s (.tup ea r1)⟩⟩))
        · exact .inr (.inl ⟨a, k, xs, rfl, rfl, (s.tup ea).sq, ne, by omega, hk.2.1, by rw [r1.length]; exact hk.2.2.1, g.tup s (r1.rep _)⟩)
    · cases e
  · rename_i a xs ds ea r1 k
    split at e
    · rename_i hk
      cases e
      refine .inr (.inr (.inl ⟨a, k, xs, rfl, rfl, s.lst ea, by omega, by omega, ?_, g.lst s (r1.rep _)⟩))
      have : ds.length * k.toNat ≤ 1000 * 1000 := Nat.mul_le_mul hk.2.2 (by omega)
      rw [r1.length]
      exact Nat.le_trans this (by decide)
    · cases e
/-- an operator that has a rule here -/
def binOk : Operator → Bool
  | .Add => true
  | .Sub => true
  | .Mult => true
  | .FloorDiv => true
  | .Mod => true
  | .Pow => true
  | _ => false
theorem bin_any {op : Operator} (h : binOk op = true) : OpR X (binaryOp op) (rBin X.K op) := by
  cases op <;> first | exact bin_add | exact bin_sub | exact bin_mul | exact bin_fdiv | exact bin_mod | exact bin_pow | cases h
def rCmp (K : PySem.W.Frag) (op : CmpOp) : R2 := fun x y H Q => ∃ F G a b c, Sub F H ∧ Sub G H ∧ Rp K F x a ∧ Rp K G y b ∧ cmpS op a b = .ok c ∧ Q (.bl c) H
theorem cmp_lt (hu : X.A.units < cLine) : OpR X (compareOp .Lt) (rCmp X.K .Lt) := by
  refine OpR.imp ((op_lt (X := X)).or (op_ltT hu)) fun x y H Q _ h => ?_
  obtain ⟨F, G, a, b, d, s, s', ra, rb, e, g⟩ := h
  cases ra <;> cases rb <;> simp only [cmpS, ltS] at e <;> try cases e
  · exact .inl ⟨_, _, rfl, rfl, g⟩
  · rename_i a xs ds ea r1 b ys es eb r2
    split at e
    · rename_i ns ms e1 e2
      cases e
      have q1 := r1.ints e1
      have q2 := r2.ints e2
      subst q1 q2
      exact .inr ⟨a, b, ns, ms, rfl, rfl, (s.tup ea).sq, (s'.tup eb).sq, g⟩
    · cases e
theorem cmp_le : OpR X (compareOp .LtE) (rCmp X.K .LtE) := by
  refine OpR.imp (op_le (X := X)) fun x y H Q _ h => ?_
  obtain ⟨F, G, a, b, d, s, s', ra, rb, e, g⟩ := h
  cases ra <;> cases rb <;> simp only [cmpS] at e <;> try cases e
  exact ⟨_, _, rfl, rfl, g⟩
theorem cmp_gt : OpR X (compareOp .Gt) (rCmp X.K .Gt) := by
  refine OpR.imp (op_gt (X := X)) fun x y H Q _ h => ?_
  obtain ⟨F, G, a, b, d, s, s', ra, rb, e, g⟩ := h
  cases ra <;> cases rb <;> simp only [cmpS] at e <;> try cases e
  exact ⟨_, _, rfl, rfl, g⟩
theorem cmp_ge : OpR X (compareOp .GtE) (rCmp X.K .GtE) := by
  refine OpR.imp (op_ge (X := X)) fun x y H Q _ h => ?_
  obtain ⟨F, G, a, b, d, s, s', ra, rb, e, g⟩ := h
  cases ra <;> cases rb <;> simp only [cmpS] at e <;> try cases e
  exact ⟨_, _, rfl, rfl, g⟩
theorem isEmpty_of_beq (ns : List Int) : PyData.eqv (.list (ns.map PyData.int)) (.list []) = ns.isEmpty := by
  cases ns <;> simp [PyData.eqv, PyData.eqvAll]
theorem scr_lay : ∀ ns : List Int, PyData.canLayAll0 (ns.map PyData.int) = true
  | [] => by rw [List.map_nil, PyData.canLayAll0]
  | n :: ns => by rw [List.map_cons, PyData.canLayAll0, scr_lay ns, PyData.canLay0]; rfl
theorem scr_depth : ∀ ns : List Int, PyData.depthAll (ns.map PyData.int) = 0
  | [] => by rw [List.map_nil, PyData.depthAll]
  | n :: ns => by rw [List.map_cons, PyData.depthAll, scr_depth ns, PyData.depth]; rfl
theorem scr_dp {K : PySem.W.Frag} {H : Hp} : ∀ ns : List Int, DpAll K H (ns.map V.int) (ns.map PyData.int)
  | [] => .nil
  | n :: ns => .cons (.int n) (scr_dp ns)
theorem scr_shaped (ns : List Int) : SeqAt.shaped (.list (ns.map PyData.int)) = true := by
  unfold SeqAt.shaped
  rw [PyData.canLay0, scr_lay, PyData.depth, scr_depth]
  rfl
theorem cmp_eq (hu : X.A.units + 64 < cLine) : OpR X (compareOp .Eq) (rCmp X.K .Eq) := by
  refine OpR.imp (op_eqD hu) fun x y H Q _ h => ?_
  obtain ⟨F, G, a, b, d, s, s', ra, rb, e, g⟩ := h
  by_cases hz : ∃ ns, a = .scr ns ∧ b = .lst []
  · obtain ⟨ns, rfl, rfl⟩ := hz
    cases ra with
    | scr hs =>
      cases rb with
      | lst eb r2 =>
        cases r2
        simp only [cmpS] at e
        cases e
        refine ⟨_, _, .lst (s.seq hs) (scr_dp ns), .lst (SqL.of (s'.lst eb)) .nil, scr_shaped ns, by decide, ?_⟩
        rw [isEmpty_of_beq]
        exact g
  · have e' : (if okd 8 a && okd 8 b then R.ok (eqv a b) else .bad) = R.ok d := by
      rw [← e]
      unfold cmpS
      split <;> first | rfl | (exfalso; exact hz ⟨_, rfl, rfl⟩) | simp_all
    split at e'
    · rename_i h
      rw [Bool.and_eq_true] at h
      cases e'
      refine ⟨_, _, ra.dp s 8 h.1, rb.dp s' 8 h.2, okd_shaped (by decide) h.1, okd_shaped (by decide) h.2, ?_⟩
      rw [eqv_py 8 a b h.1 h.2]
      exact g
    · cases e'
theorem cmp_ne (hu : X.A.units + 64 < cLine) : OpR X (compareOp .NotEq) (rCmp X.K .NotEq) := by
  refine OpR.imp (op_neD hu) fun x y H Q _ h => ?_
  obtain ⟨F, G, a, b, d, s, s', ra, rb, e, g⟩ := h
  by_cases hz : ∃ ns, a = .scr ns ∧ b = .lst []
  · obtain ⟨ns, rfl, rfl⟩ := hz
    cases ra with
    | scr hs =>
      cases rb with
      | lst eb r2 =>
        cases r2
        simp only [cmpS] at e
        cases e
        refine ⟨_, _, .lst (s.seq hs) (scr_dp ns), .lst (SqL.of (s'.lst eb)) .nil, scr_shaped ns, by decide, ?_⟩
        rw [isEmpty_of_beq]
        exact g
  · have e' : (if okd 8 a && okd 8 b then R.ok (!eqv a b) else .bad) = R.ok d := by
      rw [← e]
      unfold cmpS
      split <;> first | rfl | (exfalso; exact hz ⟨_, rfl, rfl⟩) | simp_all
    split at e'
    · rename_i h
      rw [Bool.and_eq_true] at h
      cases e'
      refine ⟨_, _, ra.dp s 8 h.1, rb.dp s' 8 h.2, okd_shaped (by decide) h.1, okd_shaped (by decide) h.2, ?_⟩
      rw [eqv_py 8 a b h.1 h.2]
      exact g
    · cases e'
end
end Pan
namespace Pan
open PySem PySem.Spec L2
open PyProof.Rows hiding St
variable [TabsIn]
section
variable {K : PySem.W.Frag} {F G H : Hp}
theorem eqv_kD (a b : Key) : eqv (kD a) (kD b) = decide (a = b) := by
  rcases a with a | a <;> rcases b with b | b <;> simp only [kD, eqv]
  · by_cases h : a = b <;> simp [h]
  · simp
  · simp
  · by_cases h : a = b <;> simp [h]
theorem keyD_of {v : V} {d : D} (r : Rp K F v d) (h : keyD d = true) : ∃ k, d = kD k ∧ v = kV k := by
  cases r <;> simp [keyD] at h
  · exact ⟨.inl _, rfl, rfl⟩
  · exact ⟨.inr _, rfl, rfl⟩
theorem intsD_of : ∀ {vs : List V} {ds : List D}, Rps K F vs ds → ds.all isIntD = true → ∃ ks : List Int, ds = ks.map D.int ∧ vs = ks.map V.int
  | _, _, .nil, _ => ⟨[], rfl, rfl⟩
  | _, _, .cons h r, e => by
    rw [List.all_cons, Bool.and_eq_true] at e
    obtain ⟨ks, rfl, rfl⟩ := intsD_of r e.2
    cases h <;> simp only [isIntD] at e <;> first | exact absurd e.1 Bool.false_ne_true | exact ⟨_ :: ks, rfl, rfl⟩
theorem keyT_of {v : V} {d : D} (r : Rp K F v d) (h : keyT d = true) : ∃ (b : Addr) (ks : List Int), v = .ref b ∧ d = .tup (ks.map D.int) ∧ IsT F b (ks.map V.int) := by
  cases r <;> simp only [keyT] at h <;> try cases h
  rename_i a xs ds e r
  obtain ⟨ks, rfl, rfl⟩ := intsD_of r h
  exact ⟨a, ks, rfl, rfl, e⟩
theorem eqvs_ints : ∀ a b : List Int, eqvs (a.map D.int) (b.map D.int) = decide (a = b)
  | [], [] => by simp [eqvs]
  | [], _ :: _ => by simp [eqvs]
  | _ :: _, [] => by simp [eqvs]
  | x :: xs, y :: ys => by
    rw [List.map_cons, List.map_cons, eqvs, eqv, eqvs_ints xs ys]
    by_cases h : x = y <;> by_cases h' : xs = ys <;> simp [h, h']
theorem RkT.keys (s : Sub F H) : ∀ {rows : List Row} {es : List (D × D)}, RkT K F rows es → KeysIn H rows
  | _, _, .nil => fun r h => by cases h
  | _, _, .cons t _ q => fun r h => by
    rcases List.mem_cons.mp h with e | h
    · subst e; exact s.tup t
    · exact RkT.keys s q r h
theorem RkK.val (k : Key) : ∀ {kvs : List (Key × V)} {es : List (D × D)}, RkK K F kvs es → (valV kvs k = none ∧ dlook (kD k) es = none) ∨ ∃ v d, valV kvs k = some v ∧ dlook (kD k) es = some d ∧ Rp K F v d
  | _, _, .nil => .inl ⟨rfl, rfl⟩
  | _, _, .cons (k := j) h r => by
    rw [dlook, eqv_kD]
    by_cases e : j = k
    · rw [valV_pos e, decide_eq_true e]
      exact .inr ⟨_, _, rfl, rfl, h⟩
    · rw [valV_neg e, decide_eq_false e]
      exact RkK.val k r
theorem RkT.val (k : List Int) : ∀ {kvs : List Row} {es : List (D × D)}, RkT K F kvs es → (rval kvs k = none ∧ dlook (.tup (k.map D.int)) es = none) ∨ ∃ v d, rval kvs k = some v ∧ dlook (.tup (k.map D.int)) es = some d ∧ Rp K F v d
  | _, _, .nil => .inl ⟨rfl, rfl⟩
  | _, _, .cons (k := j) (r := rr) t h r => by
    rw [dlook, eqv, eqvs_ints]
    by_cases e : j = k
    · rw [decide_eq_true e]
      exact .inr ⟨_, _, by simp [rval, List.find?_cons, e], rfl, h⟩
    · rw [decide_eq_false e]
      have c : ∀ z : Addr × V, rval ((j, z) :: rr) k = rval rr k := fun z => by simp [rval, List.find?_cons, e]
      rw [c]
      exact RkT.val k r
/-- what the dict holds at a key -/
theorem dic_get {t : Bool} {es : List (D × D)} {v w : V} {d : D} (s : Sub F H) (s' : Sub G H) (r : Rp K F v (.dic t es)) (q : Rp K G w d) (h : keyOf t d = true) :
    ∃ a o, v = .ref a ∧ AGet K H a w o ∧ ((o = none ∧ dlook d es = none) ∨ ∃ u e, o = some u ∧ dlook d es = some e ∧ Rp K F u e) := by
  cases r with
  | dK e r =>
    obtain ⟨k, rfl, rfl⟩ := keyD_of q h
    exact ⟨_, _, rfl, .inl (.inl ⟨_, k, s.dK e, rfl, rfl⟩), (RkK.val k r)⟩
  | dT e r =>
    obtain ⟨b, ks, rfl, rfl, eb⟩ := keyT_of q h
    exact ⟨_, _, rfl, .inr ⟨_, ks, b, s.dT e, r.keys s, rfl, (s'.tup eb).sq, rfl⟩, (RkT.val ks r)⟩
end
section
variable {X : Cx}
theorem op_in_dic (hu : X.A.units + 1 < cLine) : OpR X (compareOp .In) (fun x y H Q => ∃ a o, y = .ref a ∧ AGet X.K H a x o ∧ Q (.bl o.isSome) H) := by
  intro pins s σ H x y v u Q I rx ry h
  obtain ⟨a, o, rfl, g, q⟩ := h
  cases ry
  rcases g with g | g
  · exact d_in hu I g rx fun s' I' => ⟨.bl _, H, I', rfl, q⟩
  · exact t_in hu I g rx fun s' I' => ⟨.bl _, H, I', rfl, q⟩
theorem op_notIn_dic (hu : X.A.units + 1 < cLine) : OpR X (compareOp .NotIn) (fun x y H Q => ∃ a o, y = .ref a ∧ AGet X.K H a x o ∧ Q (.bl (!o.isSome)) H) := by
  intro pins s σ H x y v u Q I rx ry h
  obtain ⟨a, o, rfl, g, q⟩ := h
  cases ry
  rcases g with g | g
  · exact d_notIn hu I g rx fun s' I' => ⟨.bl _, H, I', rfl, q⟩
  · exact t_notIn hu I g rx fun s' I' => ⟨.bl _, H, I', rfl, q⟩
theorem any_py (n : Nat) {d : D} (h : okd n d = true) : ∀ (ds : List D), ds.all (okd n) = true → ((toPys ds).any fun z => PyData.eqv z (toPy d)) = ds.any (eqv · d)
  | [], _ => by rw [toPys]; rfl
  | e :: r, z => by
    rw [List.all_cons, Bool.and_eq_true] at z
    rw [toPys, List.any_cons, List.any_cons, any_py n h r z.2, eqv_py n e d z.1 h]
theorem cmp_in (hu : X.A.units + 65 < cLine) : OpR X (compareOp .In) (rCmp X.K .In) := by
  refine OpR.imp (((op_in_seq (X := X)).or (op_inD hu)).or ((op_in_dic (by omega)).or op_in_sign)) fun x y H Q _ h => ?_
  obtain ⟨F, G, a, b, c, s, s', ra, rb, e, g⟩ := h
  cases rb <;> simp only [cmpS, inS] at e <;> try cases e
  · cases ra <;> simp only at e <;> try cases e
    rename_i y
    obtain ⟨y⟩ := y
    split at e
    · rename_i c0 hc
      cases e
      have : y = #[c0] := by
        have := congrArg List.toArray hc
        simpa using this
      subst this
      exact .inr (.inr ⟨_, _, rfl, rfl, g⟩)
    · cases e
  · rename_i p xs ds eb r
    split at e
    · rename_i z
      rw [Bool.and_eq_true] at z
      cases e
      refine .inl (.inl ⟨p, xs, rfl, .inr ((s'.tup eb).sq), ra.flat z.1, r.flat z.2, ?_⟩)
      rw [if_neg (by decide), Rps.inV ra z.1 r z.2]
      exact g
    · cases e
  · rename_i p xs ds eb r
    split at e
    · rename_i z
      rw [Bool.and_eq_true] at z
      cases e
      refine .inl (.inr ⟨toPy a, toPys ds, ra.dp s 8 z.1, ?_, okd_shaped (by decide) z.1, ?_, ?_⟩)
      · have := (Rp.lst eb r).dp s' 9 (by rw [okd]; exact z.2)
        rw [toPy] at this
        exact this
      · have := okd_shaped (n := 9) (d := .lst ds) (by decide) (by rw [okd]; exact z.2)
        rw [toPy] at this
        exact this
      · rw [any_py 8 z.1 ds z.2]
        exact g
    · cases e
  all_goals
    split at e
    · rename_i z
      cases e
      obtain ⟨q, o, e1, dg, ho⟩ := dic_get s' s (by first | exact Rp.dK (by assumption) (by assumption) | exact Rp.dT (by assumption) (by assumption)) ra z
      cases e1
      refine .inr (.inl ⟨_, o, rfl, dg, ?_⟩)
      rcases ho with ⟨h1, h2⟩ | ⟨u, e', h1, h2, _⟩
      · rw [h1]; rw [h2] at g; exact g
      · rw [h1]; rw [h2] at g; exact g
    · cases e
theorem not_ok {r : R Bool} {c : Bool} (h : (do let x ← r; R.ok (!x)) = R.ok c) : ∃ x, r = .ok x ∧ c = !x := by
  cases r with
  | ok x => exact ⟨x, rfl, by cases h; rfl⟩
  | exc _ => cases h
  | bad => cases h
theorem cmp_notIn (hu : X.A.units + 65 < cLine) : OpR X (compareOp .NotIn) (rCmp X.K .NotIn) := by
  refine OpR.imp (((op_notIn_seq (X := X)).or (op_notInD hu)).or ((op_notIn_dic (by omega)).or op_notIn_sign)) fun x y H Q _ h => ?_
  obtain ⟨F, G, a, b, c, s, s', ra, rb, e, g⟩ := h
  rw [cmpS] at e
  obtain ⟨c', e2, rfl⟩ := not_ok e
  clear e
  have e := e2
  clear e2
  cases rb <;> simp only [inS] at e <;> try cases e
  · cases ra <;> simp only at e <;> try cases e
    rename_i y
    obtain ⟨y⟩ := y
    split at e
    · rename_i c0 hc
      cases e
      have : y = #[c0] := by
        have := congrArg List.toArray hc
        simpa using this
      subst this
      exact .inr (.inr ⟨_, _, rfl, rfl, g⟩)
    · cases e
  · rename_i p xs ds eb r
    split at e
    · rename_i z
      rw [Bool.and_eq_true] at z
      cases e
      refine .inl (.inl ⟨p, xs, rfl, .inr ((s'.tup eb).sq), ra.flat z.1, r.flat z.2, ?_⟩)
      rw [if_pos rfl, Rps.inV ra z.1 r z.2]
      exact g
    · cases e
  · rename_i p xs ds eb r
    split at e
    · rename_i z
      rw [Bool.and_eq_true] at z
      cases e
      refine .inl (.inr ⟨toPy a, toPys ds, ra.dp s 8 z.1, ?_, okd_shaped (by decide) z.1, ?_, ?_⟩)
      · have := (Rp.lst eb r).dp s' 9 (by rw [okd]; exact z.2)
        rw [toPy] at this
        exact this
      · have := okd_shaped (n := 9) (d := .lst ds) (by decide) (by rw [okd]; exact z.2)
        rw [toPy] at this
        exact this
      · rw [any_py 8 z.1 ds z.2]
        exact g
    · cases e
  all_goals
    split at e
    · rename_i z
      cases e
      obtain ⟨q, o, e1, dg, ho⟩ := dic_get s' s (by first | exact Rp.dK (by assumption) (by assumption) | exact Rp.dT (by assumption) (by assumption)) ra z
      cases e1
      refine .inr (.inl ⟨_, o, rfl, dg, ?_⟩)
      rcases ho with ⟨h1, h2⟩ | ⟨u, e', h1, h2, _⟩
      · rw [h1]; rw [h2] at g; exact g
      · rw [h1]; rw [h2] at g; exact g
    · cases e
/-- is True, is False, where the left one is None -/
theorem op_is_nb : OpR X (compareOp .Is) (fun x y H Q => ∃ b, x = .non ∧ y = .bl b ∧ Q (.bl false) H) := by
  intro pins s σ H x y v u Q I rx ry h
  obtain ⟨b, rfl, rfl, q⟩ := h
  cases (show v = Value.none from rx)
  cases (show u = Value.bool b from ry)
  exact wpAny_is_other rfl (fun z => nomatch z) ⟨.bl false, H, I, rfl, q⟩
theorem op_not_nb : OpR X (compareOp .IsNot) (fun x y H Q => ∃ b, x = .non ∧ y = .bl b ∧ Q (.bl true) H) := by
  intro pins s σ H x y v u Q I rx ry h
  obtain ⟨b, rfl, rfl, q⟩ := h
  cases (show v = Value.none from rx)
  cases (show u = Value.bool b from ry)
  exact wpAny_isNot_other rfl (fun z => nomatch z) ⟨.bl true, H, I, rfl, q⟩
theorem cmp_is : OpR X (compareOp .Is) (rCmp X.K .Is) := by
  refine OpR.imp ((op_isN (X := X)).or (op_isBl.or op_is_nb)) fun x y H Q _ h => ?_
  obtain ⟨F, G, a, b, c, s, s', ra, rb, e, g⟩ := h
  cases rb <;> simp only [cmpS, isS] at e <;> try cases e
  · refine .inl ⟨rfl, ?_⟩
    cases ra <;> simp only [R.ok.injEq] at e <;> subst e <;> exact g
  · cases ra <;> simp only [R.ok.injEq, reduceCtorEq] at e <;> subst e
    · exact .inr (.inr ⟨_, rfl, rfl, g⟩)
    · rename_i b' b
      refine .inr (.inl ⟨b, b', rfl, rfl, ?_⟩)
      have : decide (b = b') = (b == b') := by cases b <;> cases b' <;> rfl
      rw [this]
      exact g
theorem cmp_isNot : OpR X (compareOp .IsNot) (rCmp X.K .IsNot) := by
  refine OpR.imp ((op_notN (X := X)).or (op_notBl.or op_not_nb)) fun x y H Q _ h => ?_
  obtain ⟨F, G, a, b, c, s, s', ra, rb, e, g⟩ := h
  rw [cmpS] at e
  obtain ⟨c', e2, rfl⟩ := not_ok e
  clear e
  have e := e2
  clear e2
  cases rb <;> simp only [isS] at e <;> try cases e
  · refine .inl ⟨rfl, ?_⟩
    cases ra <;> simp only [R.ok.injEq] at e <;> subst e <;> exact g
  · cases ra <;> simp only [R.ok.injEq, reduceCtorEq] at e <;> subst e
    · exact .inr (.inr ⟨_, rfl, rfl, g⟩)
    · rename_i b' b
      refine .inr (.inl ⟨b, b', rfl, rfl, ?_⟩)
      have : decide (b = b') = (b == b') := by cases b <;> cases b' <;> rfl
      rw [this]
      exact g
theorem cmp_any (hu : X.A.units + 65 < cLine) (op : CmpOp) : OpR X (compareOp op) (rCmp X.K op) := by
  cases op with
  | Eq => exact cmp_eq (by omega)
  | NotEq => exact cmp_ne (by omega)
  | Lt => exact cmp_lt (by omega)
  | LtE => exact cmp_le
  | Gt => exact cmp_gt
  | GtE => exact cmp_ge
  | In => exact cmp_in hu
  | NotIn => exact cmp_notIn hu
  | Is => exact cmp_is
  | IsNot => exact cmp_isNot
end
end Pan
namespace Pan
open PySem PySem.Spec L2
open PyProof.Rows hiding St
variable [TabsIn]
theorem RkK.any {K : PySem.W.Frag} {F : Hp} (key : Key) : ∀ {kvs : List (Key × V)} {es : List (D × D)}, RkK K F kvs es → (es.any fun p => eqv p.1 (kD key)) = kvs.any fun kv => decide (kv.1 = key)
  | _, _, .nil => rfl
  | _, _, .cons h r => by rw [List.any_cons, List.any_cons, RkK.any key r, eqv_kD]
theorem RkT.any {K : PySem.W.Frag} {F : Hp} (key : List Int) : ∀ {kvs : List Row} {es : List (D × D)}, RkT K F kvs es → (es.any fun p => eqv p.1 (.tup (key.map D.int))) = (rval kvs key).isSome
  | _, _, .nil => rfl
  | _, _, .cons (k := j) (r := rr) t h r => by
    rw [List.any_cons, RkT.any key r, eqv, eqvs_ints]
    by_cases e : j = key
    · simp [rval, List.find?_cons, e]
    · have c : ∀ z : Addr × V, rval ((j, z) :: rr) key = rval rr key := fun z => by simp [rval, List.find?_cons, e]
      rw [c, decide_eq_false e, Bool.false_or]
theorem RkK.mapPut {K : PySem.W.Frag} {F : Hp} (key : Key) {v : V} {d : D} (rv : Rp K F v d) : ∀ {kvs : List (Key × V)} {es : List (D × D)}, RkK K F kvs es → RkK K F (kvs.map fun kv => if kv.1 = key then (kv.1, v) else kv) (es.map fun p => if eqv p.1 (kD key) then (p.1, d) else p)
  | _, _, .nil => .nil
  | _, _, .cons (k := j) h r => by
    rw [List.map_cons, List.map_cons]
    dsimp only
    rw [eqv_kD]
    by_cases e : j = key
    · rw [if_pos e, decide_eq_true e, if_pos rfl]
      exact .cons rv (RkK.mapPut key rv r)
    · rw [if_neg e, decide_eq_false e, if_neg (by decide)]
      exact .cons h (RkK.mapPut key rv r)
theorem RkT.mapPut {K : PySem.W.Frag} {F : Hp} (key : List Int) {v : V} {d : D} (rv : Rp K F v d) : ∀ {kvs : List Row} {es : List (D × D)}, RkT K F kvs es → RkT K F (kvs.map fun r => if r.1 = key then (r.1, r.2.1, v) else r) (es.map fun p => if eqv p.1 (.tup (key.map D.int)) then (p.1, d) else p)
  | _, _, .nil => .nil
  | _, _, .cons (k := j) t h r => by
    rw [List.map_cons, List.map_cons]
    dsimp only
    rw [eqv, eqvs_ints]
    by_cases e : j = key
    · rw [if_pos e, decide_eq_true e, if_pos rfl]
      exact .cons t rv (RkT.mapPut key rv r)
    · rw [if_neg e, decide_eq_false e, if_neg (by decide)]
      exact .cons t h (RkT.mapPut key rv r)
theorem RkK.snoc {K : PySem.W.Frag} {F : Hp} (key : Key) {v : V} {d : D} (rv : Rp K F v d) : ∀ {kvs : List (Key × V)} {es : List (D × D)}, RkK K F kvs es → RkK K F (kvs ++ [(key, v)]) (es ++ [(kD key, d)])
  | _, _, .nil => .cons rv .nil
  | _, _, .cons h r => .cons h (RkK.snoc key rv r)
theorem RkT.snoc {K : PySem.W.Frag} {F : Hp} (key : List Int) {q : Addr} (tq : IsT F q (key.map V.int)) {v : V} {d : D} (rv : Rp K F v d) : ∀ {kvs : List Row} {es : List (D × D)}, RkT K F kvs es → RkT K F (kvs ++ [(key, q, v)]) (es ++ [(.tup (key.map D.int), d)])
  | _, _, .nil => .cons tq rv .nil
  | _, _, .cons t h r => .cons t h (RkT.snoc key tq rv r)
theorem dput_K {K : PySem.W.Frag} {F : Hp} (key : Key) {v : V} {d : D} (rv : Rp K F v d) {kvs : List (Key × V)} {es : List (D × D)} (r : RkK K F kvs es) : RkK K F (putK kvs key v) (dput (kD key) d es) := by
  unfold putK dput
  rw [r.any key]
  split
  · exact r.mapPut key rv
  · exact r.snoc key rv
theorem dput_T {K : PySem.W.Frag} {F : Hp} (key : List Int) {q : Addr} (tq : IsT F q (key.map V.int)) {v : V} {d : D} (rv : Rp K F v d) {kvs : List Row} {es : List (D × D)} (r : RkT K F kvs es) : RkT K F (rput kvs key q v) (dput (.tup (key.map D.int)) d es) := by
  unfold rput dput
  rw [r.any key]
  split
  · exact r.mapPut key rv
  · exact r.snoc key tq rv
theorem RkK.length {K : PySem.W.Frag} {F : Hp} : ∀ {kvs : List (Key × V)} {es : List (D × D)}, RkK K F kvs es → kvs.length = es.length
  | _, _, .nil => rfl
  | _, _, .cons _ r => by simp [RkK.length r]
theorem RkT.length {K : PySem.W.Frag} {F : Hp} : ∀ {kvs : List Row} {es : List (D × D)}, RkT K F kvs es → kvs.length = es.length
  | _, _, .nil => rfl
  | _, _, .cons _ _ r => by simp [RkT.length r]
theorem dput_len (k v : D) (es : List (D × D)) : (dput k v es).length ≤ es.length + 1 := by
  unfold dput
  split
  · rw [List.length_map]; omega
  · rw [List.length_append]; exact Nat.le_refl _
end Pan
namespace Pan
open PySem PySem.Spec L2
open PyProof.Rows hiding St
variable [TabsIn]
section
variable {K : PySem.W.Frag} {W : WX} {cl : Nat → Value} {F H F' H' : Hp} {σ : St}
theorem tE_tW {r : Env → R D} {Q : VK} (h : tW K W cl r σ H Q) : tE K W cl r σ H Q := by
  obtain ⟨e, F, v, w⟩ := h
  exact ⟨e, F, v, w.mono fun d F' H' x p v r => p v F' x.sub r⟩
/-- what is told of a new object may be told for good -/
theorem Ext.tell {a : Addr} {o : HO} (x : Ext F H F' H') (s : Sub F H) (h : H a = none) (h' : H' a = some o) (nt : nT o = true := by rfl) : Ext F H (upd F' a o) H' where
  same := x.same
  grow := fun b u e => by
    by_cases q : b = a
    · subst q; rw [s.none h] at e; cases e
    · rw [upd_ne q]; exact x.grow b u e
  sub := ⟨fun b u e => by
    by_cases q : b = a
    · subst q; rw [upd_same] at e; cases e; exact ⟨nt, .inl h'⟩
    · rw [upd_ne q] at e; exact x.sub.at_ b u e, x.sub.tabs⟩
  new := fun b u e => by
    by_cases q : b = a
    · subst q; exact .inr (.inl h)
    · rw [upd_ne q] at e; exact x.new b u e
theorem same_tell {a : Addr} {o : HO} (h : F a = none) : Same F (upd F a o) := same_upd h
/-- a new thing, told for good -/
theorem NewR.told {a : Addr} {d : D} (x : Ext F H F' H') (s : Sub F H) (n : NewR K F' H' H a d) : ∃ F2, Ext F H F2 H' ∧ Rp K F2 (.ref a) d := by
  obtain ⟨h, n⟩ := n
  cases d with
  | lst ds =>
    obtain ⟨n, xs, e, r⟩ := n
    exact ⟨_, x.tell s h e, .lst upd_same (r.mono (same_tell n))⟩
  | dic t es =>
    cases t with
    | false =>
      obtain ⟨n, xs, e, r⟩ := n
      exact ⟨_, x.tell s h e, .dK (.inl upd_same) (r.mono (same_tell n))⟩
    | true =>
      obtain ⟨n, xs, e, r⟩ := n
      exact ⟨_, x.tell s h e, .dT (.inl upd_same) (r.mono (same_tell n))⟩
  | _ => exact n.elim
theorem tN_tE {r : Env → R D} {Q : VK} (h : tE K W cl r σ H Q) : tN K W cl r σ H Q := by
  obtain ⟨e, F, v, w⟩ := h
  refine ⟨e, F, v, ?_⟩
  cases q : r e with
  | ok d =>
    rw [q] at w
    intro F' H' x a n
    obtain ⟨F2, x2, rp⟩ := n.told x v.sub
    exact w F2 H' x2 _ rp
  | exc c => rw [q] at w; exact w
  | bad => rw [q] at w; exact w
end
section
variable {X : Cx} {W : WX} {cl : Nat → Value} {a b c : Expr} {ra rb rc : Env → R D} {pos : Pos}
theorem ce_weak (h : PE X a (tE X.K W cl ra)) : PE X a (tW X.K W cl ra) := PE.imp h fun _ _ _ _ q => tE_tW q
theorem ce_new (h : PE X a (tN X.K W cl ra)) : PE X a (tE X.K W cl ra) := PE.imp h fun _ _ _ _ q => tN_tE q
theorem ce_var {i : Nat} {x : Str} (hN : X.N[i]? = some x) (hv : Vis X.env.scope x) (hd : (x == ("__debug__" : Str)) = false) (hcd : (x == ("__classdict__" : Str)) = false) : PE X (.Name x pos) (tE X.K W cl fun e => getV e i) := by
  refine PE.imp (pe_var hN hv hd hcd) fun σ H Q _ h => ?_
  obtain ⟨e, F, v, w⟩ := h
  dsimp only [getV] at w
  split at w
  · rename_i d hd
    obtain ⟨x, e1, r⟩ := v.get hd
    exact ⟨x, e1, w.now v.sub x r⟩
  · exact w.elim
theorem ce_ovar {i : Nat} {x : Str} (hN : X.N[i]? = some x) (hv : Vis X.env.scope x) (hd : (x == ("__debug__" : Str)) = false) (hcd : (x == ("__classdict__" : Str)) = false) : PE X (.Name x pos) (tW X.K W cl fun e => getO e i) := by
  refine PE.imp (pe_var hN hv hd hcd) fun σ H Q _ h => ?_
  obtain ⟨e, F, v, w⟩ := h
  dsimp only [getO] at w
  split at w
  · rename_i d hd
    obtain ⟨x, e1, r⟩ := v.get hd
    exact ⟨x, e1, w.now v.sub x F v.sub r⟩
  · rename_i d hd
    obtain ⟨a, e1, r⟩ := v.getOwn hd
    refine ⟨.ref a, e1, ?_⟩
    have w := w.now v.sub
    cases d with
    | lst ds =>
      obtain ⟨n, xs, e, r⟩ := r
      exact w _ (upd F a (.lst xs)) (⟨fun b u q => by
        by_cases z : b = a
        · subst z; rw [upd_same] at q; cases q; exact ⟨rfl, .inl e⟩
        · rw [upd_ne z] at q; exact v.sub.at_ b u q, v.sub.tabs⟩) (.lst upd_same (r.mono (same_tell n)))
    | dic t es =>
      cases t with
      | false =>
        obtain ⟨n, xs, e, r⟩ := r
        exact w _ (upd F a (.dK xs)) (⟨fun b u q => by
          by_cases z : b = a
          · subst z; rw [upd_same] at q; cases q; exact ⟨rfl, .inl e⟩
          · rw [upd_ne z] at q; exact v.sub.at_ b u q, v.sub.tabs⟩) (.dK (.inl upd_same) (r.mono (same_tell n)))
      | true =>
        obtain ⟨n, xs, e, r⟩ := r
        exact w _ (upd F a (dO a xs)) (⟨fun b u q => by
          by_cases z : b = a
          · subst z; rw [upd_same] at q; cases q; exact ⟨rfl, .inl e⟩
          · rw [upd_ne z] at q; exact v.sub.at_ b u q, v.sub.tabs⟩) (.dT (.inl upd_same) (r.mono (same_tell n)))
    | _ => exact r.elim
  · exact w.elim
theorem ce_lit {v : V} {d : D} (h : PE X a (tC v)) (r : ∀ F, Rp X.K F v d) : PE X a (tE X.K W cl fun _ => .ok d) := by
  refine PE.imp h fun σ H Q _ q => ?_
  obtain ⟨e, F, vr, w⟩ := q
  exact w.now vr.sub v (r F)
theorem ce_bin {op : Operator} (ho : binOk op = true) (ha : PE X a (tE X.K W cl ra)) (hb : PE X b (tE X.K W cl rb)) : PE X (.BinOp a op b pos) (tE X.K W cl fun e => do let x ← ra e; let y ← rb e; binS op x y) := by
  refine PE.imp (pe_op (bin_any ho) ha hb) fun σ H Q _ q => ?_
  obtain ⟨e, F, vr, w⟩ := q
  refine ⟨e, F, vr, w.bind.mono fun x F1 H1 x1 w1 vx rx => ⟨e, F1, vr.mono x1, w1.bind.mono fun y F2 H2 x2 w2 vy ry => ?_⟩⟩
  cases hz : binS op x y with
  | ok d => rw [hz] at w2; exact ⟨F2, x, y, d, x2.sub, rx.mono x2.grow, ry, hz, fun v F' H' x3 r => w2 F' H' x3 v r⟩
  | bad => rw [hz] at w2; exact w2.elim
  | exc c => exact absurd hz (by cases op <;> cases x <;> cases y <;> simp [binS, mulS, divS, fitL] <;> (try split) <;> simp)
theorem ce_neg (ha : PE X a (tE X.K W cl ra)) : PE X (.UnaryOp .USub a pos) (tE X.K W cl fun e => do let x ← ra e; let i ← asI x; .ok (.int (-i))) := by
  refine PE.imp (pe_un un_neg ha) fun σ H Q _ q => ?_
  obtain ⟨e, F, vr, w⟩ := q
  refine ⟨e, F, vr, w.bind.mono fun x F1 H1 x1 w1 vx rx => ?_⟩
  cases rx <;> simp only [asI] at w1 <;> first | exact w1.elim | exact ⟨_, rfl, w1.now x1.sub _ (.int _)⟩
theorem ce_not (ha : PE X a (tE X.K W cl ra)) : PE X (.UnaryOp .Not a pos) (tE X.K W cl fun e => do let x ← ra e; let i ← asB x; .ok (.bl (!i))) := by
  refine PE.imp (pe_not ha) fun σ H Q _ q => ?_
  obtain ⟨e, F, vr, w⟩ := q
  refine ⟨e, F, vr, w.bind.mono fun x F1 H1 x1 w1 vx rx => ?_⟩
  cases rx <;> simp only [asB] at w1 <;> first | exact w1.elim | exact ⟨_, rfl, w1.now x1.sub _ (.bl _)⟩
/-- a value that is True or False, as a test -/
theorem ct_val (ha : PE X a (tE X.K W cl ra)) (he : ∀ whole, isTrue a X.env whole = (do let v ← whole; standAt a.pos; holding [v] (truthy v))) : PT X a (tT X.K W cl fun e => do let x ← ra e; asB x) := by
  refine PT.imp (pt_val ha he) fun σ H Q _ q => ?_
  obtain ⟨e, F, vr, w⟩ := q
  refine ⟨e, F, vr, w.bind.mono fun x F1 H1 x1 w1 vx rx => ?_⟩
  cases rx <;> simp only [asB] at w1 <;> first | exact w1.elim | exact ⟨_, rfl, w1.now x1.sub⟩
/-- two operands that are looked at -/
theorem two {op : CmpOp} {σ : St} {H : Hp} {Q : VK} {k : Bool → R D} (h : tE X.K W cl (fun e => do let x ← ra e; let y ← rb e; let r ← cmpS op x y; k r) σ H Q) :
    tOp (fun x y H Q => ∃ F e, VR X.K e σ F H ∧ ∃ r a b G G', Sub G H ∧ Sub G' H ∧ Rp X.K G x a ∧ Rp X.K G' y b ∧ cmpS op a b = .ok r ∧ Wp W cl (k r) σ F H fun d F' H' => ∀ v, Rp X.K F' v d → Q v H') (tW X.K W cl ra) (tW X.K W cl rb) σ H Q := by
  obtain ⟨e, F, vr, w⟩ := h
  refine ⟨e, F, vr, w.bind.mono fun x F1 H1 x1 w1 vx G sg rx => ⟨e, F1, vr.mono x1, w1.bind.mono fun y F2 H2 x2 w2 vy G' sg' ry => ?_⟩⟩
  cases hz : cmpS op x y with
  | ok r => rw [hz] at w2; exact ⟨F2, e, (vr.mono x1).mono x2, r, x, y, G, G', sg.same x2.same, sg', rx, ry, hz, w2⟩
  | bad => rw [hz] at w2; exact w2.elim
  | exc c => exact absurd hz (by
      cases op <;> cases x <;> cases y <;> simp only [cmpS, ltS, inS, isS] <;> (try split) <;> (try simp) <;> (try split) <;> simp)
theorem ce_cmp {op : CmpOp} (hu : X.A.units + 65 < cLine) (hm : behindInMarks op b = false) (ha : PE X a (tW X.K W cl ra)) (hb : PE X b (tW X.K W cl rb)) : PE X (.Compare a [op] [b] pos) (tE X.K W cl fun e => do let x ← ra e; let y ← rb e; let r ← cmpS op x y; .ok (.bl r)) := by
  refine PE.imp (pe_cmpR (cmp_any hu op) ha hb hm) fun σ H Q _ q => ?_
  obtain ⟨e, F, vr, w⟩ := two (W := W) (cl := cl) q
  refine ⟨e, F, vr, w.mono fun x F1 H1 x1 w1 vx G sg rx => ?_⟩
  obtain ⟨e2, F2, vr2, w2⟩ := w1 vx G sg rx
  refine ⟨e2, F2, vr2, w2.mono fun y F3 H3 x3 w3 vy G' sg' ry => ?_⟩
  obtain ⟨F4, e4, vr4, r, a, b, G1, G2, s1, s2, r1, r2, e5, w5⟩ := w3 vy G' sg' ry
  exact ⟨G1, G2, a, b, r, s1, s2, r1, r2, e5, w5.now vr4.sub _ (.bl _)⟩
end
end Pan
namespace Pan
open PySem PySem.Spec L2
open PyProof.Rows hiding St
variable [TabsIn]
theorem R_assoc {α β γ : Type} (m : R α) (f : α → R β) (g : β → R γ) : (m >>= f) >>= g = m >>= fun x => f x >>= g := by cases m <;> rfl
abbrev tst (r : Env → R D) : Env → R Bool := fun e => r e >>= asB
section
variable {K : PySem.W.Frag} {W : WX} {cl : Nat → Value} {σ : St} {H : Hp} {r ra rb rc : Env → R D}
theorem tE_of_tT {Q : Bool → Hp → Prop} (h : tT K W cl (tst r) σ H Q) : tE K W cl r σ H fun x H' => ∃ k, x = .bl k ∧ Q k H' := by
  obtain ⟨e, F, vr, w⟩ := h
  refine ⟨e, F, vr, w.bind.mono fun x F1 H1 x1 w1 vx rx => ?_⟩
  cases rx <;> simp only [asB] at w1 <;> first | exact w1.elim | exact ⟨_, rfl, w1.now x1.sub⟩
theorem imp_cmp {op : CmpOp} {Q : VK} (q : tE K W cl (fun e => do let x ← ra e; let y ← rb e; let r ← cmpS op x y; .ok (.bl r)) σ H Q) : tOp (rCmp K op) (tW K W cl ra) (tW K W cl rb) σ H Q := by
  obtain ⟨e, F, vr, w⟩ := q
  refine ⟨e, F, vr, w.bind.mono fun x F1 H1 x1 w1 vx G sg rx => ⟨e, F1, vr.mono x1, w1.bind.mono fun y F2 H2 x2 w2 vy G' sg' ry => ?_⟩⟩
  cases hz : cmpS op x y with
  | ok r => rw [hz] at w2; exact ⟨G, G', x, y, r, sg.same x2.same, sg', rx, ry, hz, w2.now x2.sub _ (.bl _)⟩
  | bad => rw [hz] at w2; exact w2.elim
  | exc c => exact absurd hz (by
      cases op <;> cases x <;> cases y <;> simp only [cmpS, ltS, inS, isS] <;> (try split) <;> (try simp) <;> (try split) <;> simp)
theorem cmpS_noexc {op : CmpOp} {x y : D} {c : Nat} : cmpS op x y ≠ .exc c := by
  cases op <;> cases x <;> cases y <;> simp only [cmpS, ltS, inS, isS] <;> (try split) <;> (try simp) <;> (try split) <;> simp
theorem imp_chain {op op' : CmpOp} {Q : VK} (q : tE K W cl (fun e => do
      let x ← ra e
      let y ← rb e
      let r ← cmpS op x y
      if r then do let z ← rc e; let q ← cmpS op' y z; .ok (.bl q) else .ok (.bl false)) σ H Q) : tChain (rCmp K op) (rCmp K op') (tW K W cl ra) (tW K W cl rb) (tW K W cl rc) σ H Q := by
  obtain ⟨e, F, vr, w⟩ := q
  refine ⟨e, F, vr, w.bind.mono fun x F1 H1 x1 w1 vx G sg rx => ⟨e, F1, vr.mono x1, w1.bind.mono fun y F2 H2 x2 w2 vy G' sg' ry => ?_⟩⟩
  cases hz : cmpS op x y with
  | ok r =>
    rw [hz] at w2
    refine ⟨G, G', x, y, r, sg.same x2.same, sg', rx, ry, hz, r, rfl, ?_⟩
    cases r with
    | false => exact iteF (w2.now x2.sub _ (.bl _))
    | true =>
      refine iteT ⟨e, F2, (vr.mono x1).mono x2, ?_⟩
      have w3 : Wp W cl (rc e >>= fun z => cmpS op' y z >>= fun q => R.ok (D.bl q)) σ F2 H2 _ := w2
      refine w3.bind.mono fun z F3 H3 x3 w4 vz G3 sg3 rz => ?_
      cases hy : cmpS op' y z with
      | ok k => rw [hy] at w4; exact ⟨G', G3, y, z, k, sg'.same x3.same, sg3, ry, rz, hy, w4.now x3.sub _ (.bl _)⟩
      | bad => rw [hy] at w4; exact w4.elim
      | exc c => exact absurd hy cmpS_noexc
  | bad => rw [hz] at w2; exact w2.elim
  | exc c => exact absurd hz cmpS_noexc
end
section
variable {X : Cx} {W : WX} {cl : Nat → Value} {a b c : Expr} {r ra rb rc : Env → R D} {pos : Pos}
theorem ct_cmp {op : CmpOp} (hu : X.A.units + 65 < cLine) (hm : behindInMarks op b = false) (ha : PE X a (tW X.K W cl ra)) (hb : PE X b (tW X.K W cl rb)) : PT X (.Compare a [op] [b] pos) (tT X.K W cl (tst fun e => do let x ← ra e; let y ← rb e; let r ← cmpS op x y; .ok (.bl r))) :=
  PT.imp (pt_cmpR (cmp_any hu op) ha hb hm) fun σ H Q _ q => imp_cmp (tE_of_tT q)
theorem ce_chain {op op' : CmpOp} (hu : X.A.units + 65 < cLine) (hm : lastMarks [op, op'] [b, c] = false) (ha : PE X a (tW X.K W cl ra)) (hb : PE X b (tW X.K W cl rb)) (hc : PE X c (tW X.K W cl rc)) : PE X (.Compare a [op, op'] [b, c] pos) (tE X.K W cl fun e => do
      let x ← ra e
      let y ← rb e
      let r ← cmpS op x y
      if r then do let z ← rc e; let q ← cmpS op' y z; .ok (.bl q) else .ok (.bl false)) :=
  PE.imp (pe_chain (cmp_any hu op) (cmp_any hu op') ha hb hc hm) fun σ H Q _ q => imp_chain q
theorem ct_chain {op op' : CmpOp} (hu : X.A.units + 65 < cLine) (hm : lastMarks [op, op'] [b, c] = false) (ha : PE X a (tW X.K W cl ra)) (hb : PE X b (tW X.K W cl rb)) (hc : PE X c (tW X.K W cl rc)) : PT X (.Compare a [op, op'] [b, c] pos) (tT X.K W cl (tst fun e => do
      let x ← ra e
      let y ← rb e
      let r ← cmpS op x y
      if r then do let z ← rc e; let q ← cmpS op' y z; .ok (.bl q) else .ok (.bl false))) :=
  PT.imp (pt_chain (cmp_any hu op) (cmp_any hu op') ha hb hc hm) fun σ H Q _ q => imp_chain (tE_of_tT q)
theorem ct_not' (ha : PT X a (tT X.K W cl (tst ra))) : PT X (.UnaryOp .Not a pos) (tT X.K W cl (tst fun e => do let x ← ra e; let i ← asB x; .ok (.bl (!i)))) := by
  refine PT.imp (pt_not ha) fun σ H Q _ q => ?_
  obtain ⟨e, F, vr, w⟩ := q
  have w2 : Wp W cl (tst ra e >>= fun i => asB (.bl (!i))) σ F H fun b F' H' => Q b H' := by
    have : (tst (fun e => do let x ← ra e; let i ← asB x; R.ok (.bl (!i))) e) = (tst ra e >>= fun i => asB (.bl (!i))) := by
      show ((ra e >>= fun x => asB x >>= fun i => R.ok (.bl (!i))) >>= asB) = ((ra e >>= asB) >>= fun i => asB (.bl (!i)))
      rw [R_assoc, R_assoc]
      congr 1
      funext x
      rw [R_assoc]
      rfl
    rw [this] at w
    exact w
  exact ⟨e, F, vr, w2.bind.mono fun x F1 H1 x1 w1 => w1.now x1.sub⟩
variable {es : List Expr}
theorem ce_and (ha : PE X a (tE X.K W cl ra)) (hb : PE X (.BoolOp .And (b :: es) pos) (tE X.K W cl rb)) : PE X (.BoolOp .And (a :: b :: es) pos) (tE X.K W cl fun e => do let x ← ra e; let c ← asB x; if c then rb e else .ok (.bl false)) := by
  refine PE.imp (pe_and ha hb) fun σ H Q _ q => ?_
  obtain ⟨e, F, vr, w⟩ := q
  refine ⟨e, F, vr, w.bind.mono fun x F1 H1 x1 w1 vx rx => ?_⟩
  cases rx <;> simp only [asB] at w1 <;> try exact w1.elim
  rename_i k
  refine ⟨k, rfl, ?_⟩
  cases k with
  | true => exact iteT ⟨e, F1, vr.mono x1, w1⟩
  | false => exact iteF (w1.now x1.sub _ (.bl _))
theorem ce_or (ha : PE X a (tE X.K W cl ra)) (hb : PE X (.BoolOp .Or (b :: es) pos) (tE X.K W cl rb)) : PE X (.BoolOp .Or (a :: b :: es) pos) (tE X.K W cl fun e => do let x ← ra e; let c ← asB x; if c then .ok (.bl true) else rb e) := by
  refine PE.imp (pe_or ha hb) fun σ H Q _ q => ?_
  obtain ⟨e, F, vr, w⟩ := q
  refine ⟨e, F, vr, w.bind.mono fun x F1 H1 x1 w1 vx rx => ?_⟩
  cases rx <;> simp only [asB] at w1 <;> try exact w1.elim
  rename_i k
  refine ⟨k, rfl, ?_⟩
  cases k with
  | true => exact iteT (w1.now x1.sub _ (.bl _))
  | false => exact iteF ⟨e, F1, vr.mono x1, w1⟩
theorem cw_and (ha : PT X a (tT X.K W cl (tst ra))) (hb : PW X (.BoolOp .And (b :: es) pos) (tT X.K W cl (tst rb))) : PW X (.BoolOp .And (a :: b :: es) pos) (tT X.K W cl (tst fun e => do let x ← ra e; let c ← asB x; if c then rb e else .ok (.bl false))) := by
  refine PW.imp (pw_and ha hb) fun σ H Q _ q => ?_
  obtain ⟨e, F, vr, w⟩ := q
  have w2 : Wp W cl (tst ra e >>= fun c => (if c then rb e else .ok (.bl false)) >>= asB) σ F H fun b F' H' => Q b H' := by
    have : (tst (fun e => do let x ← ra e; let c ← asB x; if c then rb e else .ok (.bl false)) e) = (tst ra e >>= fun c => (if c then rb e else .ok (.bl false)) >>= asB) := by
      show ((ra e >>= fun x => asB x >>= fun c => if c then rb e else .ok (.bl false)) >>= asB) = ((ra e >>= asB) >>= _)
      rw [R_assoc, R_assoc]
      congr 1
      funext x
      rw [R_assoc]
    rw [this] at w
    exact w
  refine ⟨e, F, vr, w2.bind.mono fun k F1 H1 x1 w1 => ?_⟩
  cases k with
  | true => exact iteT ⟨e, F1, vr.mono x1, w1⟩
  | false => exact iteF (w1.now x1.sub)
theorem cw_or (ha : PT X a (tT X.K W cl (tst ra))) (hb : PW X (.BoolOp .Or (b :: es) pos) (tT X.K W cl (tst rb))) : PW X (.BoolOp .Or (a :: b :: es) pos) (tT X.K W cl (tst fun e => do let x ← ra e; let c ← asB x; if c then .ok (.bl true) else rb e)) := by
  refine PW.imp (pw_or ha hb) fun σ H Q _ q => ?_
  obtain ⟨e, F, vr, w⟩ := q
  have w2 : Wp W cl (tst ra e >>= fun c => (if c then .ok (.bl true) else rb e) >>= asB) σ F H fun b F' H' => Q b H' := by
    have : (tst (fun e => do let x ← ra e; let c ← asB x; if c then .ok (.bl true) else rb e) e) = (tst ra e >>= fun c => (if c then .ok (.bl true) else rb e) >>= asB) := by
      show ((ra e >>= fun x => asB x >>= fun c => if c then .ok (.bl true) else rb e) >>= asB) = ((ra e >>= asB) >>= _)
      rw [R_assoc, R_assoc]
      congr 1
      funext x
      rw [R_assoc]
    rw [this] at w
    exact w
  refine ⟨e, F, vr, w2.bind.mono fun k F1 H1 x1 w1 => ?_⟩
  cases k with
  | true => exact iteT (w1.now x1.sub)
  | false => exact iteF ⟨e, F1, vr.mono x1, w1⟩
theorem ce_ife (hc : PT X c (tT X.K W cl (tst rc))) (ha : PE X a (tE X.K W cl ra)) (hb : PE X b (tE X.K W cl rb)) : PE X (.IfExp c a b pos) (tE X.K W cl fun e => do let x ← rc e; let t ← asB x; if t then ra e else rb e) := by
  refine PE.imp (pe_ifExp hc ha hb) fun σ H Q _ q => ?_
  obtain ⟨e, F, vr, w⟩ := q
  have w2 : Wp W cl (tst rc e >>= fun t => if t then ra e else rb e) σ F H fun d F' H' => ∀ v, Rp X.K F' v d → Q v H' := by
    have : (rc e >>= fun x => asB x >>= fun t => if t then ra e else rb e) = (tst rc e >>= fun t => if t then ra e else rb e) := by
      show _ = ((rc e >>= asB) >>= _)
      rw [R_assoc]
    rw [← this]
    exact w
  refine ⟨e, F, vr, w2.bind.mono fun k F1 H1 x1 w1 => ?_⟩
  cases k with
  | true => exact iteT ⟨e, F1, vr.mono x1, w1⟩
  | false => exact iteF ⟨e, F1, vr.mono x1, w1⟩
theorem ca_nil : PA X [] (tA X.K W cl fun _ => .ok []) := by
  refine PA.imp pa_nil fun σ H Q _ q => ?_
  obtain ⟨e, F, vr, w⟩ := q
  exact w.now vr.sub [] .nil
theorem ca_cons {rs : Env → R (List D)} (ha : PE X a (tE X.K W cl ra)) (hr : PA X es (tA X.K W cl rs)) (hs : starEach (a :: es) X.env = (false, eval a X.env) :: starEach es X.env) : PA X (a :: es) (tA X.K W cl fun e => do let x ← ra e; let xs ← rs e; .ok (x :: xs)) := by
  refine PA.imp (pa_cons ha hr hs) fun σ H Q _ q => ?_
  obtain ⟨e, F, vr, w⟩ := q
  refine ⟨e, F, vr, w.bind.mono fun x F1 H1 x1 w1 vx rx => ⟨e, F1, vr.mono x1, w1.bind.mono fun xs F2 H2 x2 w2 vs rs => ?_⟩⟩
  exact w2.now x2.sub _ (.cons (rx.mono x2.grow) rs)
/-- one argument that is looked at -/
theorem caw_one (ha : PE X a (tW X.K W cl ra)) (hs : starEach [a] X.env = (false, eval a X.env) :: starEach [] X.env) : PA X [a] (tAW X.K W cl fun e => do let x ← ra e; .ok [x]) := by
  refine PA.imp (pa_cons ha pa_nil hs) fun σ H Q _ q => ?_
  obtain ⟨e, F, vr, w⟩ := q
  refine ⟨e, F, vr, w.bind.mono fun x F1 H1 x1 w1 vx G sg rx => ?_⟩
  exact w1.now x1.sub _ G sg (.cons rx .nil)
theorem ce_tup {k : Nat} {rs : Env → R (List D)} (h : PA X es (tA X.K W cl rs)) : PE X (.Tuple es k pos) (tE X.K W cl fun e => do let xs ← rs e; fitL xs .tup) := by
  refine PE.imp (pe_tupF h) fun σ H Q _ q => ?_
  obtain ⟨e, F, vr, w⟩ := q
  refine ⟨e, F, vr, w.bind.mono fun xs F1 H1 x1 w1 vs rs => ?_⟩
  unfold fitL at w1
  split at w1
  · rename_i hl
    refine ⟨by rw [rs.length]; exact hl, fun p o hp ho => ?_⟩
    have x2 := Ext.laid (.frz o (.tup vs)) x1.sub hp
    exact w1 _ _ x2 _ (.tup (.new ho) (rs.mono x2.grow))
  · exact w1.elim
theorem cn_lst {rs : Env → R (List D)} (h : PA X es (tA X.K W cl rs)) : PE X (.List es pos) (tN X.K W cl fun e => do let xs ← rs e; fitL xs .lst) := by
  refine PE.imp (pe_lst h) fun σ H Q _ q => ?_
  obtain ⟨e, F, vr, w⟩ := q
  refine ⟨e, F, vr, w.bind.mono fun xs F1 H1 x1 w1 vs rs => ?_⟩
  unfold fitL at w1
  split at w1
  · rename_i hl
    refine ⟨by rw [rs.length]; exact hl, fun p hp => ?_⟩
    have x2 := Ext.made (.lst vs) x1.sub hp
    exact w1 _ _ x2 p ⟨x1.same.free hp, x1.sub.none hp, vs, upd_same, rs⟩
  · exact w1.elim
theorem atI_rps {K : PySem.W.Frag} {F : Hp} {vs : List V} {ds : List D} {i : Int} {d : D} (r : Rps K F vs ds) (h : atI ds i = some d) : ∃ v, atI vs i = some v ∧ Rp K F v d := by
  unfold atI at h ⊢
  rw [r.length]
  cases q : ixN ds.length i with
  | none => rw [q] at h; cases h
  | some j =>
    rw [q] at h
    exact r.get h
def isDicD : D → Bool
  | .dic _ _ => true
  | _ => false
theorem ix_seqD {K : PySem.W.Frag} {x y : V} {H F G : Hp} {Q : VK} {a b d : D} (hd : isDicD a = false) (s : Sub F H) (s' : Sub G H) (ra : Rp K F x a) (rb : Rp K G y b) (e : ixS a b = .ok d) (g : ∀ v, Rp K F v d → Q v H) : rIx K x y H Q := by
  cases ra with
  | str z =>
    cases rb <;> simp only [ixS] at e <;> try cases e
    rename_i i
    split at e
    · split at e
      · rename_i hz _ c hc
        cases e
        exact (.inr (.inr ⟨z, i, c, rfl, rfl, hz, hc, g _ (.str _)⟩))
      · cases e
    · cases e
  | scr hs =>
    cases rb <;> simp only [ixS] at e <;> try cases e
    rename_i ns i
    split at e
    · rename_i n hn
      cases e
      have : atI (ns.map V.int) i = some (.int n) := by
        unfold atI at hn ⊢
        rw [List.length_map]
        cases q : ixN ns.length i with
        | none => rw [q] at hn; cases hn
        | some j =>
          rw [q] at hn
          have hn' : ns[j]? = some n := hn
          show (ns.map V.int)[j]? = some (.int n)
          rw [List.getElem?_map, hn']
          rfl
      exact (.inl ⟨_, _, i, _, rfl, rfl, s.seq hs, this, g _ (.int _)⟩)
    · cases e
  | tup ea r =>
    cases rb <;> simp only [ixS] at e <;> try cases e
    split at e
    · rename_i d' hd
      cases e
      obtain ⟨v, h1, h2⟩ := atI_rps r hd
      exact (.inr (.inl ⟨_, _, _, v, rfl, rfl, (s.tup ea).sq, h1, g v h2⟩))
    · cases e
  | lst ea r =>
    cases rb <;> simp only [ixS] at e <;> try cases e
    split at e
    · rename_i d' hd
      cases e
      obtain ⟨v, h1, h2⟩ := atI_rps r hd
      exact (.inl ⟨_, _, _, v, rfl, rfl, SqL.of (s.lst ea), h1, g v h2⟩)
    · cases e
  | dK ea r => cases hd
  | dT ea r => cases hd
  | prs ea r => simp only [ixS] at e; cases e
  | non => simp only [ixS] at e; cases e
  | bl _ => simp only [ixS] at e; cases e
  | int _ => simp only [ixS] at e; cases e
  | ty _ => simp only [ixS] at e; cases e
theorem ix_dicD {K : PySem.W.Frag} {x y : V} {H F G : Hp} {Q : VK} {t : Bool} {es : List (D × D)} {b d : D} (s : Sub F H) (s' : Sub G H) (ra : Rp K F x (.dic t es)) (rb : Rp K G y b) (e : ixS (.dic t es) b = .ok d) (g : ∀ v, Rp K F v d → Q v H) : ∃ a v, x = .ref a ∧ AGet K H a y (some v) ∧ Q v H := by
  simp only [ixS] at e
  split at e
  · rename_i hk
    split at e
    · rename_i d' hd
      cases e
      obtain ⟨p, o, e1, dg, ho⟩ := dic_get s s' ra rb hk
      rcases ho with ⟨_, h2⟩ | ⟨u, e', h1, h2, h3⟩
      · rw [hd] at h2; cases h2
      · rw [hd] at h2; cases h2; subst h1
        exact ⟨p, u, e1, dg, g u h3⟩
    · cases e
  · cases e
theorem ixS_noexc {x y : D} {c : Nat} : ixS x y ≠ .exc c := by
  cases x <;> cases y <;> simp only [ixS] <;> (try split) <;> (try simp) <;> (try split) <;> simp
theorem ce_ix (hu : X.A.units + 1 < cLine) (hs : PlainIx b) (ha : PE X a (tE X.K W cl ra)) (hb : PE X b (tE X.K W cl rb)) : PE X (.Subscript a b pos) (tE X.K W cl fun e => do let x ← ra e; let y ← rb e; ixS x y) := by
  refine PE.imp (PE.or (pe_ix ix_seq ha hb hs) (pe_aget hu ha hb hs)) fun σ H Q _ q => ?_
  obtain ⟨e, F, vr, w⟩ := q
  dsimp only at w
  cases hx : ra e with
  | bad => rw [hx] at w; exact w.elim
  | exc c => rw [hx] at w; exact .inl ⟨e, F, vr, by rw [hx]; exact w⟩
  | ok x =>
    rw [hx] at w
    have w1 : Wp W cl (rb e >>= fun y => ixS x y) σ F H fun d F' H' => ∀ v, Rp X.K F' v d → Q v H' := w
    cases hd : isDicD x with
    | false =>
      refine .inl ⟨e, F, vr, by
        rw [hx]
        refine fun F1 H1 x1 vx rx => ⟨e, F1, vr.mono x1, (w1.step x1).bind.mono fun y F2 H2 x2 w2 vy ry => ?_⟩
        cases hz : ixS x y with
        | bad => rw [hz] at w2; exact w2.elim
        | exc c => exact absurd hz ixS_noexc
        | ok d => rw [hz] at w2; exact ix_seqD hd x2.sub x2.sub (rx.mono x2.grow) ry hz fun v r => w2.now x2.sub v r⟩
    | true =>
      cases x <;> simp only [isDicD] at hd <;> try cases hd
      refine .inr ⟨e, F, vr, by
        rw [hx]
        refine fun F1 H1 x1 vx rx => ⟨e, F1, vr.mono x1, (w1.step x1).bind.mono fun y F2 H2 x2 w2 vy ry => ?_⟩
        cases hz : ixS (.dic _ _) y with
        | bad => rw [hz] at w2; exact w2.elim
        | exc c => exact absurd hz ixS_noexc
        | ok d => rw [hz] at w2; exact ix_dicD x2.sub x2.sub (rx.mono x2.grow) ry hz fun v r => w2.now x2.sub v r⟩
/-- a subscript of a list or dict that this def alone holds -/
theorem ce_oix {i : Nat} {x : Str} {p : Pos} (hu : X.A.units + 1 < cLine) (hs : PlainIx b) (hN : X.N[i]? = some x) (hv : Vis X.env.scope x) (hd : (x == ("__debug__" : Str)) = false) (hcd : (x == ("__classdict__" : Str)) = false) (hb : PE X b (tE X.K W cl rb)) :
    PE X (.Subscript (.Name x p) b pos) (tE X.K W cl fun e => do let x ← getO e i; let y ← rb e; ixS x y) := by
  have ha : PE X (.Name x p) (tVar i) := pe_var hN hv hd hcd
  refine PE.imp (PE.or (PE.or (pe_ix ix_seq ha hb hs) (pe_aget hu ha hb hs)) (ce_ix hu hs (ce_var (W := W) (cl := cl) hN hv hd hcd) hb)) fun σ H Q _ q => ?_
  obtain ⟨e, F, vr, w⟩ := q
  by_cases ho : ∃ d, e[i]? = some (.own d)
  · obtain ⟨d, ho⟩ := ho
    obtain ⟨p', e1, sl⟩ := vr.getOwn ho
    have hg : getO e i = .ok d := by unfold getO; rw [ho]
    dsimp only at w
    rw [hg] at w
    have w1 : Wp W cl (rb e >>= fun y => ixS d y) σ F H fun d F' H' => ∀ v, Rp X.K F' v d → Q v H' := w
    cases d with
    | lst ds =>
      obtain ⟨n, xs, eh, r⟩ := sl
      refine .inl (.inl ⟨.ref p', e1, ⟨e, F, vr, w1.bind.mono fun y F2 H2 x2 w2 vy ry => ?_⟩⟩)
      cases ry <;> simp only [ixS] at w2 <;> try exact w2.elim
      split at w2
      · rename_i d' hd
        obtain ⟨v, h1, h2⟩ := atI_rps r hd
        exact .inl ⟨p', xs, _, v, rfl, rfl, SqL.of (x2.same.at eh), h1, w2.now x2.sub v (h2.mono x2.grow)⟩
      · exact w2.elim
    | dic t es =>
      refine .inl (.inr ⟨.ref p', e1, ⟨e, F, vr, w1.bind.mono fun y F2 H2 x2 w2 vy ry => ?_⟩⟩)
      have sl2 := sl.mono x2
      cases hz : ixS (.dic t es) y with
      | bad => rw [hz] at w2; exact w2.elim
      | exc c => exact absurd hz ixS_noexc
      | ok d =>
        rw [hz] at w2
        simp only [ixS] at hz
        split at hz
        · rename_i hk
          split at hz
          · rename_i d' hd
            cases hz
            cases t with
            | false =>
              obtain ⟨n, kvs, eh, r⟩ := sl2
              obtain ⟨k, rfl, rfl⟩ := keyD_of ry hk
              rcases RkK.val k r with ⟨_, h2⟩ | ⟨u, e', h1, h2, h3⟩
              · rw [hd] at h2; cases h2
              · rw [hd] at h2; cases h2
                exact ⟨p', u, rfl, .inl (.inl ⟨kvs, k, .inl eh, rfl, h1.symm⟩), w2.now x2.sub u h3⟩
            | true =>
              obtain ⟨n, kvs, eh, r⟩ := sl2
              obtain ⟨b, ks, rfl, rfl, eb⟩ := keyT_of ry hk
              rcases RkT.val ks r with ⟨_, h2⟩ | ⟨u, e', h1, h2, h3⟩
              · rw [hd] at h2; cases h2
              · rw [hd] at h2; cases h2
                exact ⟨p', u, rfl, .inr ⟨kvs, ks, b, .inl eh, r.keys x2.sub, rfl, (x2.sub.tup eb).sq, h1.symm⟩, w2.now x2.sub u h3⟩
          · cases hz
        · cases hz
    | _ => exact sl.elim
  · refine .inr ⟨e, F, vr, ?_⟩
    have : getO e i = getV e i := by
      unfold getO getV
      cases q : e[i]? with
      | none => rfl
      | some s =>
        cases s with
        | own d => exact absurd ⟨d, q⟩ ho
        | _ => rfl
    dsimp only at w ⊢
    rw [← this]
    exact w
def rSlD (K : PySem.W.Frag) : V → Option Int → Option Int → Hp → VK → Prop := fun x lo hi H Q => ∃ F a d, Sub F H ∧ Rp K F x a ∧ slS a lo hi = .ok d ∧ Gives K F H d Q
theorem SlR.imp {r r' : V → Option Int → Option Int → Hp → VK → Prop} (h : SlR X r) (i : ∀ x lo hi H Q, r' x lo hi H Q → r x lo hi H Q) : SlR X r' :=
  fun pins s σ H x v vl vu lo hi sl Q I rx hs pl pu q => h pins s σ H x v vl vu lo hi sl Q I rx hs pl pu (i _ _ _ _ _ q)
theorem sl_any : SlR X (rSlD X.K) := by
  refine SlR.imp ((sl_list (X := X)).or (sl_tupF.or sl_str)) fun x lo hi H Q h => ?_
  obtain ⟨F, a, d, s, ra, e, g⟩ := h
  cases ra <;> simp only [slS] at e <;> try cases e
  · split at e
    · cases e
      exact .inr (.inr ⟨_, rfl, by assumption, g.str s⟩)
    · cases e
  · rename_i p xs ds ea r
    refine .inr (.inl ⟨p, xs, rfl, (s.tup ea).sq, fun hw => ?_, fun _ => g.tup s (r.cut lo hi)⟩)
    have : cutL ds lo hi = ds := by
      unfold cutL
      rw [← r.length, hw.1, hw.2, List.drop_zero, Nat.sub_zero, r.length, List.take_length]
    rw [this] at g
    exact g.was s (.tup ea r)
  · rename_i p xs ds ea r
    exact .inl ⟨p, xs, rfl, SqL.of (s.lst ea), g.lst s (r.cut lo hi)⟩
end
end Pan
namespace Pan
open PySem PySem.Spec L2
open PyProof.Rows hiding St
variable [TabsIn]
/-- a part of a slice -/
def tP (K : PySem.W.Frag) (W : WX) (cl : Nat → Value) (r : Env → R (Option Int)) : TO := fun σ H Q => ∃ e F, VR K e σ F H ∧ Wp W cl (r e) σ F H fun o F' H' => Q o H'
section
variable {X : Cx} {W : WX} {cl : Nat → Value} {a b c : Expr} {r ra rb rc : Env → R D} {pos p2 : Pos} {lo hi : Option Expr} {rl rh : Env → R (Option Int)}
theorem PO.imp {t t' : TO} (h : PO X lo t) (i : ∀ σ H Q, t' σ H Q → t σ H Q) : PO X lo t' := ⟨fun pins s σ H Q I q => h.run pins s σ H Q I (i σ H Q q)⟩
theorem cp_none : PO X none (tP X.K W cl fun _ => .ok none) := PO.imp po_none fun σ H Q q => by
  obtain ⟨e, F, vr, w⟩ := q
  exact w.now vr.sub
theorem cp_some (ha : PE X a (tE X.K W cl ra)) : PO X (some a) (tP X.K W cl fun e => do let x ← ra e; let i ← asI x; .ok (some i)) := PO.imp (po_some ha) fun σ H Q q => by
  obtain ⟨e, F, vr, w⟩ := q
  refine ⟨e, F, vr, w.bind.mono fun x F1 H1 x1 w1 vx rx => ?_⟩
  cases rx <;> simp only [asI] at w1 <;> first | exact w1.elim | exact ⟨_, rfl, w1.now x1.sub⟩
theorem slS_noexc {x : D} {l h : Option Int} {c : Nat} : slS x l h ≠ .exc c := by
  cases x <;> simp only [slS] <;> (try split) <;> simp
theorem ce_sl (ha : PE X a (tE X.K W cl ra)) (hl : PO X lo (tP X.K W cl rl)) (hh : PO X hi (tP X.K W cl rh)) : PE X (.Subscript a (.Slice lo hi none p2) pos) (tE X.K W cl fun e => do let x ← ra e; let l ← rl e; let h ← rh e; slS x l h) := by
  refine PE.imp (pe_slice sl_any ha hl hh) fun σ H Q _ q => ?_
  obtain ⟨e, F, vr, w⟩ := q
  refine ⟨e, F, vr, w.bind.mono fun x F1 H1 x1 w1 vx rx => ⟨e, F1, vr.mono x1, w1.bind.mono fun l F2 H2 x2 w2 => ⟨e, F2, (vr.mono x1).mono x2, w2.bind.mono fun h F3 H3 x3 w3 => ?_⟩⟩⟩
  cases hz : slS x l h with
  | bad => rw [hz] at w3; exact w3.elim
  | exc c => exact absurd hz slS_noexc
  | ok d => rw [hz] at w3; exact ⟨F3, x, d, x3.sub, (rx.mono x2.grow).mono x3.grow, hz, fun v F' H' x r => w3 F' H' x v r⟩
theorem ce_rev {k : Nat} {p1 p3 p4 : Pos} (ha : PE X a (tE X.K W cl ra)) : PE X (.Subscript a (.Slice none none (some (.UnaryOp .USub (.Constant (.int 1) k p1) p2)) p3) pos) (tE X.K W cl fun e => do let x ← ra e; revS x) := by
  refine PE.imp (pe_revL ha) fun σ H Q _ q => ?_
  obtain ⟨e, F, vr, w⟩ := q
  refine ⟨e, F, vr, w.bind.mono fun x F1 H1 x1 w1 vx rx => ?_⟩
  cases rx <;> simp only [revS] at w1 <;> try exact w1.elim
  rename_i p xs ds ea r
  exact ⟨p, xs, rfl, SqL.of (x1.sub.lst ea), Gives.lst x1.sub r.reverse fun v F' H' x r => w1 F' H' x v r⟩
/-- the promise: f of the arguments' data -/
def spOf (K : PySem.W.Frag) (cl : Nat → Value) (n : Nat) (f : List D → R D) : Sp := fun vs H Q E => ∃ F ds, ds.length = n ∧ Sub F H ∧ Rps K F vs ds ∧ match f ds with
  | .ok d => ∀ v F' H', Ext F H F' H' → Rp K F' v d → Q v H'
  | .exc c => ∀ H', SameT H H' → E (cl c) none H'
  | .bad => False
theorem spOf_len {K : PySem.W.Frag} {n : Nat} {f : List D → R D} {ps : List Str} (h : ps.length = n) (vs : List V) (H : Hp) (Q : VK) (E : XK) (q : spOf K cl n f vs H Q E) : vs.length = ps.length := by
  obtain ⟨F, ds, hl, s, r, _⟩ := q
  rw [r.length, hl, h]
/-- f, of n arguments alone -/
def arity (n : Nat) (f : List D → R D) (ds : List D) : R D := if ds.length = n then f ds else .bad
/-- where a def stands, and what it answers -/
structure FnR where
  name : Str
  n : Nat
  sem : List D → R D
structure FnX (X : Cx) (cl : Nat → Value) (j : Nat) (r : FnR) : Prop where
  ex : ∃ (f : Addr) (fd : FuncData) (ps : List Str) (k : Nat), ps.length = r.n ∧ k ≤ j ∧ FnOk X.prog X.w X.K X.mg X.base (L2.CX X.prog X.w) k f fd ps (spOf X.K cl r.n r.sem) ∧ X.mg r.name = some (.ref f) ∧ PySem.W.keepIn X.K (.ref f) = true ∧ Binds X.K fd ps []
theorem Ext.same_of {F H H' : Hp} (s : Sub F H) (e : SameT H H') : Ext F H F H' := ⟨e, Same.refl _, s.same e, fun _ _ q => .inl q⟩
theorem sp_of_wp {K : PySem.W.Frag} {n : Nat} {f : List D → R D} {F H : Hp} {σ : St} {ds : List D} {vs : List V} {Q : VK} (s : Sub F H) (r : Rps K F vs ds) (w : Wp W cl (arity n f ds) σ F H fun d F' H' => ∀ v, Rp K F' v d → Q v H') : spOf K cl n f vs H Q (WE W σ) := by
  unfold arity at w
  split at w
  · rename_i hl
    refine ⟨F, ds, hl, s, r, ?_⟩
    cases hz : f ds with
    | ok d => rw [hz] at w; exact fun v F' H' x r => w F' H' x v r
    | exc c => rw [hz] at w; exact fun H' e => w F H' (Ext.same_of s e)
    | bad => rw [hz] at w; exact w.elim
  · exact w.elim
variable {es : List Expr}
theorem ce_call {x : Str} {p : Pos} {j : Nat} {fr : FnR} {rs : Env → R (List D)} (fx : FnX X cl j fr) (hr : Room j X.A) (tk : Takes X W) (hx : x = fr.name) (hg : Gl X x) (ha : PA X (a :: es) (tA X.K W cl rs)) (hdb : (x == ("__debug__" : Str)) = false)
    (he : starEach (a :: es) X.env = (false, eval a X.env) :: starEach es X.env) (hpl : (backTo pos (starEach es X.env)).any (·.1) = false) : PE X (.Call (.Name x p) (a :: es) [] pos) (tE X.K W cl fun e => do let xs ← rs e; arity fr.n fr.sem xs) := by
  obtain ⟨f, fd, ps, k, hn, hk, F, hm, kp, hb⟩ := fx.ex
  subst hx
  refine PE.imp (pe_callS F (hr.mono hk) hg hm kp hb (fun σ => passAt tk σ) ha hdb he hpl) fun σ H Q _ q => ?_
  obtain ⟨e, F, vr, w⟩ := q
  exact ⟨e, F, vr, w.bind.mono fun xs F1 H1 x1 w1 vs rs => sp_of_wp x1.sub rs w1⟩
theorem ce_call0 {x : Str} {p : Pos} {j : Nat} {fr : FnR} (fx : FnX X cl j fr) (hr : Room j X.A) (tk : Takes X W) (hx : x = fr.name) (hg : Gl X x) (hdb : (x == ("__debug__" : Str)) = false) :
    PE X (.Call (.Name x p) [] [] pos) (tE X.K W cl fun e => arity fr.n fr.sem []) := by
  obtain ⟨f, fd, ps, k, hn, hk, F, hm, kp, hb⟩ := fx.ex
  subst hx
  refine ⟨fun pins s σ H Q I h => ?_⟩
  obtain ⟨e, G, vr, w⟩ := h
  refine wpAny_Call_Name_kw (ld_glob I hg hm ?_ hdb)
  exact PySem.W.callWith_K0 I.kIn kp (run_fnS (us := []) (vs := []) (E := fun σ => WE W σ) F (hr.mono hk) hb (passAt tk σ) I .nil (sp_of_wp vr.sub .nil w))
def rBi (K : PySem.W.Frag) (b : Bi) : List V → Hp → VK → Prop := fun vs H Q => ∃ F ds d, Sub F H ∧ Rps K F vs ds ∧ biS b ds = .ok d ∧ Gives K F H d Q
theorem minTS_noexc {xs : List D} {c : Nat} : minTS xs ≠ .exc c := by
  cases xs with
  | nil => intro h; cases h
  | cons x r =>
    show (if (x :: r).all isTr then R.ok (minT x r) else .bad) ≠ .exc c
    split <;> (intro h; cases h)
theorem biS_noexc {b : Bi} {ds : List D} {c : Nat} : biS b ds ≠ .exc c := by
  unfold biS
  repeat' split
  all_goals first
    | (intro h; cases h; done)
    | (unfold sortS; split <;> (intro h; cases h; done))
    | (unfold dictS; split <;> (intro h; cases h; done))
    | exact minTS_noexc
theorem ce_biB {x : Str} {p : Pos} {id : String} {k : Bi} {rs : Env → R (List D)} (hc : CallR X (.builtin id) (rBi X.K k)) (hg : Gl X x) (hm : X.mg x = none) (hv : bootBuiltins x = some (.builtin id)) (hn : x ≠ "__name__") (ha : PA X (a :: es) (tA X.K W cl rs)) (hdb : (x == ("__debug__" : Str)) = false)
    (he : starEach (a :: es) X.env = (false, eval a X.env) :: starEach es X.env) (hpl : (backTo pos (starEach es X.env)).any (·.1) = false) : PE X (.Call (.Name x p) (a :: es) [] pos) (tE X.K W cl fun e => do let xs ← rs e; biS k xs) := by
  refine PE.imp (pe_callB hc hg hm hv ha hn hdb he hpl) fun σ H Q _ q => ?_
  obtain ⟨e, F, vr, w⟩ := q
  refine ⟨e, F, vr, w.bind.mono fun xs F1 H1 x1 w1 vs rs => ?_⟩
  cases hz : biS k xs with
  | bad => rw [hz] at w1; exact w1.elim
  | exc c => exact absurd hz biS_noexc
  | ok d => rw [hz] at w1; exact ⟨F1, xs, d, x1.sub, rs, hz, fun v F' H' x r => w1 F' H' x v r⟩
theorem ce_biT {x : Str} {p : Pos} {id : String} {k : Bi} {rs : Env → R (List D)} (hc : CallR X (.type id) (rBi X.K k)) (hg : Gl X x) (hm : X.mg x = none) (hv : bootBuiltins x = some (.type id)) (hn : x ≠ "__name__") (ha : PA X (a :: es) (tA X.K W cl rs)) (hdb : (x == ("__debug__" : Str)) = false)
    (he : starEach (a :: es) X.env = (false, eval a X.env) :: starEach es X.env) (hpl : (backTo pos (starEach es X.env)).any (·.1) = false) : PE X (.Call (.Name x p) (a :: es) [] pos) (tE X.K W cl fun e => do let xs ← rs e; biS k xs) := by
  refine PE.imp (pe_callTy hc hg hm hv ha hn hdb he hpl) fun σ H Q _ q => ?_
  obtain ⟨e, F, vr, w⟩ := q
  refine ⟨e, F, vr, w.bind.mono fun xs F1 H1 x1 w1 vs rs => ?_⟩
  cases hz : biS k xs with
  | bad => rw [hz] at w1; exact w1.elim
  | exc c => exact absurd hz biS_noexc
  | ok d => rw [hz] at w1; exact ⟨F1, xs, d, x1.sub, rs, hz, fun v F' H' x r => w1 F' H' x v r⟩
end
end Pan
namespace Pan
open PySem PySem.Spec L2
open PyProof.Rows hiding St
section
variable {prog : Program} {w : World} {A : Around} {E : Value → Shared → Prop} {s : Shared} {l : Addr} {xs : Array (Int × Tok)}
theorem iter_intTup {Q : Value → Shared → Prop} (hl : s.heap.IsTuple l (intItems xs))
    (h : ∀ s₂ : Shared, s₂ = { s with heap := s.heap.push { cls := .type "tuple_iterator", data := .fields #[.ref l, .int 0 0] } } →
      (s₂.heap.IsTupleIter s.heap.objs.size l 0 ∧ s₂.heap.IsTuple l (intItems xs)) → (∀ b ∈ [s.heap.objs.size, l], b < s₂.heap.objs.size) → l ≠ s.heap.objs.size → Q (.ref s.heap.objs.size) s₂) :
    wpAny (model prog w) A (pyIter (.ref l)) Q E s := by
  have hlt : l < s.heap.objs.size := by obtain ⟨_, e, _⟩ := hl; exact Heap.lt_size e
  refine wpAny_pyIter_tuple hl (h _ rfl ⟨⟨_, Heap.get?_push_size _ rfl, rfl, rfl⟩, hl.push _⟩ (fun b hb => ?_) (Nat.ne_of_lt hlt))
  show b < (s.heap.push _).objs.size
  rw [Heap.size_push]
  rcases List.mem_cons.mp hb with rfl | hb
  · exact Nat.lt_succ_self _
  · rcases List.mem_cons.mp hb with rfl | hb
    · exact Nat.lt_succ_of_lt hlt
    · cases hb
theorem old_keptT {h' : Heap} (hk : ∀ b o, b ∉ [s.heap.objs.size] → (s.heap.push { cls := .type "tuple_iterator", data := .fields #[.ref l, .int 0 0] }).get? b = some o → h'.get? b = some o) :
    ∀ b o, s.heap.get? b = some o → h'.get? b = some o := fun b o e => by
  refine hk b o (fun hm => ?_) (Heap.get?_push_of_some _ e)
  rcases List.mem_cons.mp hm with e1 | hm
  · exact absurd (e1 ▸ Heap.lt_size e) (Nat.lt_irrefl _)
  · cases hm
theorem max_intTup {Q : Value → Shared → Prop} (hh : A.handled = none) (hl : s.heap.IsTuple l (intItems xs)) (hne : 0 < xs.size)
    (h : ∀ v h' tk, (intItems xs)[argBest (fun i j => decide (numAt xs i > numAt xs j)) (xs.size - 1)]? = some v → (∀ b o, s.heap.get? b = some o → h'.get? b = some o) → Q v { s with heap := h', toks := tk }) :
    wpAny (model prog w) A (call (.builtin "max") [.ref l]) Q E s := by
  refine call_max_walk (iter_intTup hl fun s₂ e st hfp hlI => ?_)
  subst e
  refine ⟨_, _, _, _, _, _, _, rfl, Walks.tuple (A := A.in1) hh _ l hlI (intItems xs), st, hfp, by simpa [intItems] using hne, CmpOf.ints_gt (numAt xs) (fun _ _ => intItems_at), fun v h' tk hP hk => ?_⟩
  exact h v h' tk (by simpa [intItems] using hP) (old_keptT hk)
theorem min_intTup {Q : Value → Shared → Prop} (hh : A.handled = none) (hl : s.heap.IsTuple l (intItems xs)) (hne : 0 < xs.size)
    (h : ∀ v h' tk, (intItems xs)[argBest (fun i j => decide (numAt xs i < numAt xs j)) (xs.size - 1)]? = some v → (∀ b o, s.heap.get? b = some o → h'.get? b = some o) → Q v { s with heap := h', toks := tk }) :
    wpAny (model prog w) A (call (.builtin "min") [.ref l]) Q E s := by
  refine call_min_walk (iter_intTup hl fun s₂ e st hfp hlI => ?_)
  subst e
  refine ⟨_, _, _, _, _, _, _, rfl, Walks.tuple (A := A.in1) hh _ l hlI (intItems xs), st, hfp, by simpa [intItems] using hne, CmpOf.ints_lt (numAt xs) (fun _ _ => intItems_at), fun v h' tk hP hk => ?_⟩
  exact h v h' tk (by simpa [intItems] using hP) (old_keptT hk)
end
section
variable {prog : Program} {w : World} {A : Around} {E : Value → Shared → Prop} {s : Shared} {l : Addr} {its : List Value} {ns : List Int} {Q : Value → Shared → Prop}
theorem maxT_raw (hh : A.handled = none) (hl : s.heap.IsTuple l its.toArray) (hi : IntsAre its ns) (hne : 0 < ns.length)
    (h : ∀ h' tk M t', (∀ b o, s.heap.get? b = some o → h'.get? b = some o) → M ∈ ns → (∀ a, a ∈ ns → a ≤ M) → Q (.int M t') { s with heap := h', toks := tk }) : wpAny (model prog w) A (call (.builtin "max") [.ref l]) Q E s := by
  obtain ⟨xs, e⟩ := hi.allInts.items
  have hn : numsOf (intItems xs).toList = ns := by rw [← e]; exact hi.numsOf
  rw [nums_intItems] at hn
  subst hn
  rw [e] at hl
  have hsz : 0 < xs.size := by simpa using hne
  refine max_intTup hh hl hsz fun v h' tk hv hk => ?_
  obtain ⟨t, rfl⟩ := intItems_at hv
  obtain ⟨h1, h2⟩ := argBest_gt (numAt xs) (xs.size - 1)
  refine h h' tk _ t hk ?_ fun a ha => ?_
  · rw [numAt_eq]; exact PySem.getD_mem (by rw [List.length_map, Array.length_toList]; omega)
  · obtain ⟨j, hj, rfl⟩ := mem_getD ha
    rw [List.length_map, Array.length_toList] at hj
    rw [← numAt_eq]; exact h2 j (by omega)
theorem minT_raw (hh : A.handled = none) (hl : s.heap.IsTuple l its.toArray) (hi : IntsAre its ns) (hne : 0 < ns.length)
    (h : ∀ h' tk M t', (∀ b o, s.heap.get? b = some o → h'.get? b = some o) → M ∈ ns → (∀ a, a ∈ ns → M ≤ a) → Q (.int M t') { s with heap := h', toks := tk }) : wpAny (model prog w) A (call (.builtin "min") [.ref l]) Q E s := by
  obtain ⟨xs, e⟩ := hi.allInts.items
  have hn : numsOf (intItems xs).toList = ns := by rw [← e]; exact hi.numsOf
  rw [nums_intItems] at hn
  subst hn
  rw [e] at hl
  have hsz : 0 < xs.size := by simpa using hne
  refine min_intTup hh hl hsz fun v h' tk hv hk => ?_
  obtain ⟨t, rfl⟩ := intItems_at hv
  obtain ⟨h1, h2⟩ := argBest_lt (numAt xs) (xs.size - 1)
  refine h h' tk _ t hk ?_ fun a ha => ?_
  · rw [numAt_eq]; exact PySem.getD_mem (by rw [List.length_map, Array.length_toList]; omega)
  · obtain ⟨j, hj, rfl⟩ := mem_getD ha
    rw [List.length_map, Array.length_toList] at hj
    rw [← numAt_eq]; exact h2 j (by omega)
end
section
variable {X : Cx}
def rMaxU (K : PySem.W.Frag) : List V → Hp → VK → Prop := fun vs H Q => ∃ (a : Addr) (ns : List Int), vs = [V.ref a] ∧ SqT K H a (ns.map V.int) ∧ 0 < ns.length ∧ ∀ m, m ∈ ns → (∀ y, y ∈ ns → y ≤ m) → Q (.int m) H
def rMinU (K : PySem.W.Frag) : List V → Hp → VK → Prop := fun vs H Q => ∃ (a : Addr) (ns : List Int), vs = [V.ref a] ∧ SqT K H a (ns.map V.int) ∧ 0 < ns.length ∧ ∀ m, m ∈ ns → (∀ y, y ∈ ns → m ≤ y) → Q (.int m) H
theorem cr_maxU (hc : X.calm = true) : CallR X (.builtin "max") (rMaxU X.K) := by
  intro pins s σ H vs us Q I r h
  obtain ⟨a, ns, rfl, hs, hne, q⟩ := h
  obtain ⟨its, rv, hl, _⟩ := I.tuple hs
  rw [Vals.ref1 r]
  exact maxT_raw (I.ok.hd hc) hl rv.ints hne fun h' tk m t' hk h1 h2 => ⟨.int _, H, I.kept hk, ⟨_, rfl⟩, q m h1 h2⟩
theorem cr_minU (hc : X.calm = true) : CallR X (.builtin "min") (rMinU X.K) := by
  intro pins s σ H vs us Q I r h
  obtain ⟨a, ns, rfl, hs, hne, q⟩ := h
  obtain ⟨its, rv, hl, _⟩ := I.tuple hs
  rw [Vals.ref1 r]
  exact minT_raw (I.ok.hd hc) hl rv.ints hne fun h' tk m t' hk h1 h2 => ⟨.int _, H, I.kept hk, ⟨_, rfl⟩, q m h1 h2⟩
end
end Pan
namespace Pan
open PySem PySem.Spec L2
open PyProof.Rows hiding St
variable [TabsIn]
section
variable {X : Cx} {W : WX} {cl : Nat → Value}
/-- len, of what is only looked at -/
def rLenW (K : PySem.W.Frag) : List V → Hp → VK → Prop := fun vs H Q => ∃ G ds n, Sub G H ∧ Rps K G vs ds ∧ biS .len ds = .ok (.int n) ∧ Q (.int n) H
theorem call_lenW : CallR X (.builtin "len") (rLenW X.K) := by
  refine CallR.imp ((call_len_seq (X := X)).or call_len_str) fun vs H Q _ h => ?_
  obtain ⟨G, ds, n, s, r, e, q⟩ := h
  cases r with
  | nil => simp [biS] at e
  | cons h1 r =>
    cases r with
    | cons _ _ => simp [biS] at e
    | nil =>
      cases h1 <;> simp only [biS] at e <;> try cases e
      · split at e
        · cases e; exact .inr ⟨_, rfl, by assumption, q⟩
        · cases e
      · rename_i hs
        refine .inl ⟨_, _, rfl, .inl (s.seq hs), ?_⟩
        rw [List.length_map]
        exact q
      · rename_i ea r
        refine .inl ⟨_, _, rfl, .inr ((s.tup ea).sq), ?_⟩
        rw [r.length]
        exact q
      · rename_i ea r
        refine .inl ⟨_, _, rfl, .inl (SqL.of (s.lst ea)), ?_⟩
        rw [r.length]
        exact q
theorem len_int {ds : List D} {d : D} (h : biS .len ds = .ok d) : ∃ n, d = .int n := by
  unfold biS at h
  split at h <;> first | (cases h; exact ⟨_, rfl⟩) | (split at h <;> first | (cases h; exact ⟨_, rfl⟩) | cases h) | cases h | skip
  all_goals first | (simp at *; done) | contradiction
theorem bi_len : CallR X (.builtin "len") (rBi X.K .len) := CallR.imp call_lenW fun vs H Q _ h => by
  obtain ⟨F, ds, d, s, r, e, g⟩ := h
  obtain ⟨n, rfl⟩ := len_int e
  exact ⟨F, ds, n, s, r, e, g.int s⟩
theorem maxI_spec : ∀ (ns : List Int) (n m : Int), m ∈ n :: ns → (∀ y ∈ n :: ns, y ≤ m) → maxI n ns = m
  | [], n, m, h, _ => by simp at h; subst h; rfl
  | k :: ns, n, m, h, hm => by
    unfold maxI
    rw [List.foldl_cons]
    refine maxI_spec ns (if k > n then k else n) m ?_ fun y hy => ?_
    · have h1 := hm n (by simp)
      have h2 := hm k (by simp)
      rcases List.mem_cons.mp h with e | e
      · subst e; exact List.mem_cons.mpr (.inl (by split <;> omega))
      · rcases List.mem_cons.mp e with e | e
        · subst e; exact List.mem_cons.mpr (.inl (by split <;> omega))
        · exact List.mem_cons_of_mem _ e
    · rcases List.mem_cons.mp hy with e | e
      · subst e; have h1 := hm n (by simp); have h2 := hm k (by simp); split <;> omega
      · exact hm y (by simp [e])
theorem minI_spec : ∀ (ns : List Int) (n m : Int), m ∈ n :: ns → (∀ y ∈ n :: ns, m ≤ y) → minI n ns = m
  | [], n, m, h, _ => by simp at h; subst h; rfl
  | k :: ns, n, m, h, hm => by
    unfold minI
    rw [List.foldl_cons]
    refine minI_spec ns (if k < n then k else n) m ?_ fun y hy => ?_
    · have h1 := hm n (by simp)
      have h2 := hm k (by simp)
      rcases List.mem_cons.mp h with e | e
      · subst e; exact List.mem_cons.mpr (.inl (by split <;> omega))
      · rcases List.mem_cons.mp e with e | e
        · subst e; exact List.mem_cons.mpr (.inl (by split <;> omega))
        · exact List.mem_cons_of_mem _ e
    · rcases List.mem_cons.mp hy with e | e
      · subst e; have h1 := hm n (by simp); have h2 := hm k (by simp); split <;> omega
      · exact hm y (by simp [e])
theorem bi_max (hc : X.calm = true) : CallR X (.builtin "max") (rBi X.K .max) := by
  refine CallR.imp (((call_max2 hc).or (cr_max hc)).or (cr_maxU hc)) fun vs H Q _ h => ?_
  obtain ⟨F, ds, d, s, r, e, g⟩ := h
  cases r with
  | nil => simp [biS] at e
  | cons h1 r =>
    cases r with
    | nil =>
      cases h1 <;> simp only [biS] at e <;> try cases e
      · rename_i ea r
        split at e
        · rename_i n ns hn
          cases e
          have := r.ints hn
          subst this
          refine .inr ⟨_, _, rfl, (s.tup ea).sq, by simp, fun m hm hl => ?_⟩
          rw [← maxI_spec ns n m hm hl]
          exact g.int s
        · cases e
      · rename_i ea r
        split at e
        · rename_i n ns hn
          cases e
          have := r.ints hn
          subst this
          refine .inl (.inr ⟨_, _, rfl, SqL.of (s.lst ea), by simp, fun m hm hl => ?_⟩)
          rw [← maxI_spec ns n m hm hl]
          exact g.int s
        · cases e
    | cons h2 r =>
      cases r with
      | cons _ _ => simp [biS] at e
      | nil =>
        cases h1 <;> cases h2 <;> simp only [biS] at e <;> try cases e
        exact .inl (.inl ⟨_, _, rfl, g.int s⟩)
/-- one argument -/
theorem one_of {K : PySem.W.Frag} {F : Hp} {vs : List V} {ds : List D} {k : Bi} {d : D} (r : Rps K F vs ds) (e : biS k ds = .ok d) (hk : k = .abs ∨ k = .all ∨ k = .any ∨ k = .sum ∨ k = .tuple ∨ k = .list ∨ k = .sorted ∨ k = .sortset ∨ k = .lenset ∨ k = .str ∨ k = .int) :
    ∃ v a, vs = [v] ∧ ds = [a] ∧ Rp K F v a := by
  cases r with
  | nil => rcases hk with h | h | h | h | h | h | h | h | h | h | h <;> subst h <;> simp [biS] at e
  | cons h1 r =>
    cases r with
    | nil => exact ⟨_, _, rfl, rfl, h1⟩
    | cons _ _ => rcases hk with h | h | h | h | h | h | h | h | h | h | h <;> subst h <;> simp [biS] at e
theorem bi_abs : CallR X (.builtin "abs") (rBi X.K .abs) := by
  refine CallR.imp (call_abs (X := X)) fun vs H Q _ h => ?_
  obtain ⟨F, ds, d, s, r, e, g⟩ := h
  obtain ⟨v, a, rfl, rfl, h1⟩ := one_of r e (by simp)
  clear r
  cases h1 <;> simp only [biS] at e <;> try cases e
  exact ⟨_, rfl, g.int s⟩
theorem bi_all (hc : X.calm = true) : CallR X (.builtin "all") (rBi X.K .all) := by
  refine CallR.imp (cr_all hc) fun vs H Q _ h => ?_
  obtain ⟨F, ds, d, s, r, e, g⟩ := h
  obtain ⟨v, a, rfl, rfl, h1⟩ := one_of r e (by simp)
  clear r
  cases h1 <;> simp only [biS] at e <;> try cases e
  rename_i ea r
  split at e
  · rename_i bs hb
    cases e
    have := r.bools hb
    subst this
    exact ⟨_, bs, rfl, SqL.of (s.lst ea), g.bl s⟩
  · cases e
theorem bi_any (hc : X.calm = true) : CallR X (.builtin "any") (rBi X.K .any) := by
  refine CallR.imp (cr_any hc) fun vs H Q _ h => ?_
  obtain ⟨F, ds, d, s, r, e, g⟩ := h
  obtain ⟨v, a, rfl, rfl, h1⟩ := one_of r e (by simp)
  clear r
  cases h1 <;> simp only [biS] at e <;> try cases e
  rename_i ea r
  split at e
  · rename_i bs hb
    cases e
    have := r.bools hb
    subst this
    exact ⟨_, bs, rfl, SqL.of (s.lst ea), g.bl s⟩
  · cases e
theorem bi_sum (hc : X.calm = true) : CallR X (.builtin "sum") (rBi X.K .sum) := by
  refine CallR.imp (cr_sum hc) fun vs H Q _ h => ?_
  obtain ⟨F, ds, d, s, r, e, g⟩ := h
  obtain ⟨v, a, rfl, rfl, h1⟩ := one_of r e (by simp)
  clear r
  cases h1 <;> simp only [biS] at e <;> try cases e
  rename_i ea r
  split at e
  · rename_i bs hb
    cases e
    have := r.ints hb
    subst this
    exact ⟨_, bs, rfl, SqL.of (s.lst ea), g.int s⟩
  · cases e
theorem bi_tuple : CallR X (.type "tuple") (rBi X.K .tuple) := by
  refine CallR.imp (call_tupF (X := X)) fun vs H Q _ h => ?_
  obtain ⟨F, ds, d, s, r, e, g⟩ := h
  obtain ⟨v, a, rfl, rfl, h1⟩ := one_of r e (by simp)
  clear r
  cases h1 <;> simp only [biS] at e <;> try cases e
  · rename_i ea r
    exact ⟨_, _, rfl, .inr ⟨(s.tup ea).sq, g.was s (.tup ea r)⟩⟩
  · rename_i ea r
    exact ⟨_, _, rfl, .inl ⟨SqL.of (s.lst ea), g.tup s r⟩⟩
theorem bi_list : CallR X (.type "list") (rBi X.K .list) := by
  refine CallR.imp (call_list_of (X := X)) fun vs H Q _ h => ?_
  obtain ⟨F, ds, d, s, r, e, g⟩ := h
  obtain ⟨v, a, rfl, rfl, h1⟩ := one_of r e (by simp)
  clear r
  cases h1 <;> simp only [biS] at e <;> try cases e
  · rename_i ea r
    exact ⟨_, _, rfl, .inr ((s.tup ea).sq), g.lst s r⟩
  · rename_i ea r
    exact ⟨_, _, rfl, .inl (SqL.of (s.lst ea)), g.lst s r⟩
theorem bi_str : CallR X (.type "str") (rBi X.K .str) := by
  refine CallR.imp (call_str_int (X := X)) fun vs H Q _ h => ?_
  obtain ⟨F, ds, d, s, r, e, g⟩ := h
  obtain ⟨v, a, rfl, rfl, h1⟩ := one_of r e (by simp)
  clear r
  cases h1 <;> simp only [biS] at e <;> try cases e
  rename_i i
  split at e
  · rename_i hi
    cases e
    exact ⟨i, rfl, hi, g.str s⟩
  · cases e
theorem bi_int : CallR X (.type "int") (rBi X.K .int) := by
  refine CallR.imp ((call_int1 (X := X)).or (call_int_str (X := X))) fun vs H Q _ h => ?_
  obtain ⟨F, ds, d, s, r, e, g⟩ := h
  obtain ⟨v, a, rfl, rfl, h1⟩ := one_of r e (by simp)
  clear r
  cases h1 <;> simp only [biS] at e <;> try cases e
  · exact .inl (.inl ⟨_, rfl, g.int s⟩)
  · rename_i z
    split at e
    · rename_i hz
      split at e
      · rename_i n hn
        cases e
        exact .inr ⟨z, n, rfl, hn, hz, g.int s⟩
      · cases e
    · cases e
/-- the type of data -/
def tyD : D → Option String
  | .non => some "NoneType"
  | .bl _ => some "bool"
  | .int _ => some "int"
  | .str _ => some "str"
  | .tup _ => some "tuple"
  | .lst _ => some "list"
  | _ => none
theorem ty_of {K : PySem.W.Frag} {F H : Hp} {v : V} {d : D} {t : String} (s : Sub F H) (r : Rp K F v d) (h : tyD d = some t) : TyX K H v (.type t) := by
  cases r <;> simp only [tyD] at h <;> cases h
  · exact .base .non
  · exact .base (.bl _)
  · exact .base (.int _)
  · exact .base (.str _)
  · rename_i ea _; obtain ⟨o, _, e⟩ := s.tup ea; exact .fTuple e
  · exact .base (.lst (s.lst (by assumption)))
theorem kit_all : (["NoneType", "bool", "int", "str", "tuple", "list"].all fun t => classes.all fun c => kitB t c == some (t == c || (t == "bool" && c == "int"))) = true := by decide +kernel
theorem bi_isinst : CallR X (.builtin "isinstance") (rBi X.K .isinst) := by
  refine CallR.imp (call_isi (X := X)) fun vs H Q _ h => ?_
  obtain ⟨F, ds, d, s, r, e, g⟩ := h
  cases r with
  | nil => simp [biS] at e
  | cons h1 r =>
    cases r with
    | nil => simp [biS] at e
    | cons h2 r =>
      cases r with
      | cons _ _ => simp [biS] at e
      | nil =>
        cases h2 <;> simp only [biS] at e <;> try cases e
        rename_i x a n
        split at e
        · rename_i hk
          cases e
          rw [Bool.and_eq_true] at hk
          obtain ⟨t, ht⟩ : ∃ t, tyD a = some t := by
            have := hk.1
            cases a <;> simp only [okd] at this <;> first | exact ⟨_, rfl⟩ | cases this
          refine ⟨x, .ty n, .type t, .type n, isInstS a n, rfl, .ty n, ty_of s h1 ht, kit_ty ?_, g.bl s⟩
          have hc : n ∈ classes := by simpa using hk.2
          have hm : t ∈ ["NoneType", "bool", "int", "str", "tuple", "list"] := by
            cases a <;> simp only [tyD] at ht <;> cases ht <;> simp
          have := List.all_eq_true.mp (List.all_eq_true.mp kit_all t hm) n hc
          rw [beq_iff_eq] at this
          rw [this]
          have hn : n = "int" ∨ n = "bool" ∨ n = "str" ∨ n = "tuple" ∨ n = "list" := by
            simpa [classes] using hc
          congr 1
          cases a <;> simp only [tyD] at ht <;> cases ht <;> rcases hn with rfl | rfl | rfl | rfl | rfl <;> rfl
        · cases e
end
end Pan
namespace Pan
open PySem PySem.Spec L2
open PyProof.Rows hiding St
variable [TabsIn]
def gNames : List Nat → TGs
  | [] => gNil
  | i :: r => gCons (gName i) (gNames r)
def gOf (K : PySem.W.Frag) : G → TG
  | .name i => gName i
  | .tup is => gTup K is.length (gNames is)
  | .lun is => gLst K is.length (gNames is)
def slotsG : G → List Nat
  | .name i => [i]
  | .tup is => is
  | .lun is => is
theorem wipe_get {σ : St} : ∀ (vs : List Nat) (i : Nat), (wipe σ vs)[i]? = if i ∈ vs then σ[i]?.map (fun _ => none) else σ[i]?
  | [], i => by simp [wipe]
  | v :: vs, i => by
    rw [wipe, List.getElem?_set, wipe_get vs i]
    by_cases h : v = i
    · subst h
      rw [if_pos rfl]
      rw [wipe_length]
      by_cases hl : v < σ.length
      · simp [hl]
      · simp [hl, List.getElem?_eq_none_iff.mpr (Nat.le_of_not_lt hl)]
    · rw [if_neg h]
      by_cases h2 : i ∈ vs
      · simp [h2]
      · have : i ∉ v :: vs := by simp [h2, Ne.symm h]
        simp [h2, this]
theorem wipe_set {σ : St} {vs : List Nat} {i : Nat} {o : Option V} (h : i ∈ vs) : wipe (σ.set i o) vs = wipe σ vs := by
  refine List.ext_getElem? fun j => ?_
  rw [wipe_get, wipe_get]
  by_cases hj : j ∈ vs
  · rw [if_pos hj, if_pos hj, List.getElem?_set]
    by_cases e : i = j
    · subst e
      rw [if_pos rfl]
      by_cases hl : i < σ.length
      · simp [hl]
      · simp [hl, List.getElem?_eq_none_iff.mpr (Nat.le_of_not_lt hl)]
    · rw [if_neg e]
  · rw [if_neg hj, if_neg hj, List.getElem?_set, if_neg (by intro e; subst e; exact hj h)]
theorem wipe_wipe {σ : St} {vs : List Nat} : wipe (wipe σ vs) vs = wipe σ vs := by
  refine List.ext_getElem? fun j => ?_
  rw [wipe_get, wipe_get]
  by_cases hj : j ∈ vs
  · rw [if_pos hj, if_pos hj]
    cases σ[j]? <;> rfl
  · rw [if_neg hj, if_neg hj]
/-- what a name's place holds for its own -/
def Foot (H : Hp) : Slot → Option V → Addr → Prop
  | .own _, some (.ref a), x => x = a
  | .obj _ _, some (.ref a), x => x = a ∨ ∃ C dx pv nv da ua, H a = some (.ins C dx (deskF pv nv da ua)) ∧ (x = da ∨ x = ua)
  | _, _, _ => False
/-- no name holds for its own what stands at p -/
def NoOwn (H : Hp) (p : Addr) (e : Env) (σ : St) : Prop := ∀ (i : Nat) (s : Slot) (o : Option V), e[i]? = some s → σ[i]? = some o → ¬ Foot H s o p
/-- a place that holds nothing for its own -/
def Slot.mine : Slot → Bool
  | .own _ => true
  | .obj _ _ => true
  | _ => false
theorem Foot.not {H : Hp} {s : Slot} {o : Option V} {x : Addr} (h : s.mine = false) : ¬ Foot H s o x := by
  cases s <;> first | (intro z; exact z) | cases h
theorem NoOwn.set {H : Hp} {p : Addr} {e : Env} {σ : St} (h : NoOwn H p e σ) (i : Nat) (s : Slot) (o : Option V) (hs : ¬ Foot H s o p) : NoOwn H p (e.set i s) (σ.set i o) := fun j t q a b => by
  rw [List.getElem?_set] at a b
  by_cases z : i = j
  · rw [if_pos z] at a b
    split at a
    · split at b
      · cases a; cases b; exact hs
      · cases b
    · cases a
  · rw [if_neg z] at a b
    exact h j t q a b
theorem NoOwn.wipe {H : Hp} {p : Addr} {e : Env} {σ : St} (h : NoOwn H p e σ) (hl : e.length = σ.length) : ∀ vs : List Nat, NoOwn H p (wipeE e vs) (wipe σ vs) ∧ (wipeE e vs).length = (L2.wipe σ vs).length
  | [] => ⟨h, hl⟩
  | v :: vs => by
    obtain ⟨a, b⟩ := NoOwn.wipe h hl vs
    exact ⟨a.set v .no none (Foot.not rfl), by simp [wipeE, L2.wipe, b]⟩
section
variable {K : PySem.W.Frag} {F H : Hp}
theorem VR.poke {e : Env} {σ : St} {p : Addr} {o : HO} (v : VR K e σ F H) (n : NoOwn H p e σ) (h : F p = none) (tb : LamX.Tabs TabsIn.T (upd H p o)) : VR K e σ F (upd H p o) := by
  refine ⟨⟨fun b u q => ?_, tb⟩, v.len, fun i s q a b => ?_⟩
  · rw [upd_ne (ne_of_none q h)]
    exact v.sub.at_ b u q
  · have sl := v.slot i s q a b
    cases s with
    | no => trivial
    | held c a => cases q <;> exact sl
    | val d => cases q <;> exact sl
    | obj hm ob =>
      cases q with
      | none => exact sl.elim
      | some x =>
        cases x with
        | ref c =>
          have nf := n i _ _ a b
          obtain ⟨dx, da, ua, pv, nv, ds, us, z⟩ := sl
          have n1 : c ≠ p := fun z => nf (.inl z.symm)
          have n2 : da ≠ p := fun z' => nf (.inr ⟨_, _, _, _, _, _, z.ha, .inl z'.symm⟩)
          have n3 : ua ≠ p := fun z' => nf (.inr ⟨_, _, _, _, _, _, z.ha, .inr z'.symm⟩)
          exact ⟨dx, da, ua, pv, nv, ds, us, z.fa, z.fd, z.fu, by rw [upd_ne n1]; exact z.ha, by rw [upd_ne n2]; exact z.hd, by rw [upd_ne n3]; exact z.hu, z.ne, z.rp, z.rn, z.rd, z.ru⟩
        | _ => exact sl.elim
    | own d =>
      cases q with
      | none => cases d <;> first | exact sl.elim | (rename_i t _; cases t <;> exact sl.elim)
      | some x =>
        cases x with
        | ref c =>
          have hne : c ≠ p := fun z => n i _ _ a b z.symm
          cases d with
          | lst ds => obtain ⟨f, xs, e1, r⟩ := sl; exact ⟨f, xs, by rw [upd_ne hne]; exact e1, r⟩
          | dic t es =>
            cases t with
            | false => obtain ⟨f, xs, e1, r⟩ := sl; exact ⟨f, xs, by rw [upd_ne hne]; exact e1, r⟩
            | true => obtain ⟨f, xs, e1, r⟩ := sl; exact ⟨f, xs, by rw [upd_ne hne]; exact e1, r⟩
          | _ => exact sl.elim
        | _ => cases d <;> first | exact sl.elim | (rename_i t _; cases t <;> exact sl.elim)
/-- what a name holds for its own stands -/
theorem Foot.stands {s : Slot} {o : Option V} {x : Addr} (h : Foot H s o x) (sl : SlotR K F H s o) : (∃ u, H x = some u ∧ nT u = true ∧ (∀ ys, u ≠ .tup ys) ∧ nC u) ∧ F x = none := by
  cases s with
  | own d =>
    cases o with
    | none => exact h.elim
    | some v =>
      cases v with
      | ref a =>
        cases (show x = a from h)
        cases d with
        | lst ds => obtain ⟨f, xs, e1, r⟩ := sl; exact ⟨⟨_, e1, rfl, (fun _ z => by cases z), nC_of fun _ z => by cases z⟩, f⟩
        | dic t es => cases t <;> (obtain ⟨f, xs, e1, r⟩ := sl; exact ⟨⟨_, e1, rfl, (fun _ z => by cases z), by first | exact nC_dO _ _ | exact nC_of fun _ z => by cases z⟩, f⟩)
        | _ => exact sl.elim
      | _ => exact h.elim
  | obj hm ob =>
    cases o with
    | none => exact h.elim
    | some v =>
      cases v with
      | ref a =>
        obtain ⟨dx, da, ua, pv, nv, ds, us, z⟩ := sl
        rcases h with rfl | ⟨C', dx', pv', nv', da', ua', e, h⟩
        · exact ⟨⟨_, z.ha, rfl, (fun _ z => by cases z), nC_of fun _ z => by cases z⟩, z.fa⟩
        · rw [z.ha] at e
          injection e with e
          injection e with _ _ e
          injection e with _ e
          injection e with _ e
          injection e with e1 e
          injection e with e2 _
          injection e1 with _ e1
          injection e2 with _ e2
          cases e1; cases e2
          rcases h with rfl | rfl
          · exact ⟨⟨_, z.hd, rfl, (fun _ z => by cases z), nC_of fun _ z => by cases z⟩, z.fd⟩
          · exact ⟨⟨_, z.hu, rfl, (fun _ z => by cases z), nC_of fun _ z => by cases z⟩, z.fu⟩
      | _ => exact h.elim
  | no => exact h.elim
  | val d => exact h.elim
  | held c a => exact h.elim
/-- .. and it is the same later -/
theorem Foot.back {H' : Hp} {s : Slot} {o : Option V} {x : Addr} (sl : SlotR K F H s o) (sm : SameT H H') (h : Foot H' s o x) : Foot H s o x := by
  cases s with
  | obj hm ob =>
    cases o with
    | none => exact h
    | some v =>
      cases v with
      | ref a =>
        obtain ⟨dx, da, ua, pv, nv, ds, us, z⟩ := sl
        rcases h with h | ⟨C', dx', pv', nv', da', ua', e, h⟩
        · exact .inl h
        · rw [sm.at z.ha] at e
          exact .inr ⟨_, _, _, _, _, _, by rw [z.ha]; exact e, h⟩
      | _ => exact h
  | own d => cases o <;> first | exact h | (rename_i v; cases v <;> exact h)
  | _ => exact h
/-- what is new is no name's own -/
theorem VR.noOwnS {e : Env} {σ : St} {p : Addr} {H' : Hp} (v : VR K e σ F H) (sm : SameT H H') (h : H p = none) : NoOwn H' p e σ := fun i s o a b f => by
  have sl := v.slot i _ _ a b
  obtain ⟨⟨u, e1, _⟩, _⟩ := (Foot.back sl sm f).stands sl
  rw [h] at e1; cases e1
theorem sets_ok {Q : St → Hp → Prop} : ∀ (is : List Nat) {ds : List D} {vs : List V} {e e' : Env} {σ : St}, sets e is ds = some e' → Rps K F vs ds → VR K e σ F H →
    (∀ σ', VR K e' σ' F H → (∀ ws, (∀ i ∈ is, i ∈ ws) → wipe σ' ws = wipe σ ws) → (∀ H p, NoOwn H p e σ → NoOwn H p e' σ') → Q σ' H) → gNames is vs σ H Q
  | [], [], vs, e, e', σ, h, r, v, q => by
    cases r
    cases h
    exact ⟨rfl, q σ v (fun _ _ => rfl) fun _ _ n => n⟩
  | [], _ :: _, _, _, _, _, h, _, _, _ => by cases h
  | _ :: _, [], _, _, _, _, h, _, _, _ => by cases h
  | i :: is, d :: ds, vs, e, e', σ, h, r, v, q => by
    cases r with
    | cons h1 r =>
      refine ⟨_, _, rfl, ?_⟩
      exact sets_ok is (e := set1 e i d) h r (v.set (s := .val d) (o := some _) h1) fun σ' v' hw hn => q σ' v' (fun ws hm => (hw ws fun j hj => hm j (by simp [hj])).trans (wipe_set (hm i (by simp)))) fun H p n => hn H p (n.set i (.val d) _ (Foot.not rfl))
theorem gOf_ok {g : G} {d : D} {v : V} {e e' : Env} {σ : St} {Q : St → Hp → Prop} (h : asgG g d e = .ok e') (r : Rp K F v d) (vr : VR K e σ F H)
    (q : ∀ σ', VR K e' σ' F H → (∀ ws, (∀ i ∈ slotsG g, i ∈ ws) → wipe σ' ws = wipe σ ws) → (∀ H p, NoOwn H p e σ → NoOwn H p e' σ') → Q σ' H) : gOf K g v σ H Q := by
  cases g with
  | name i =>
    cases h
    exact q _ (vr.set (s := .val d) (o := some v) r) (fun ws hm => wipe_set (hm i (by simp [slotsG]))) fun _ p n => n.set i (.val d) _ (Foot.not rfl)
  | tup is =>
    have main : ∀ {a : Addr} {xs : List V} {ds : List D} {e2 : Env}, SqT K H a xs → Rps K F xs ds → sets e is ds = some e2 → (∀ σ', VR K e2 σ' F H → (∀ ws, (∀ i ∈ slotsG (.tup is), i ∈ ws) → wipe σ' ws = wipe σ ws) → (∀ H p, NoOwn H p e σ → NoOwn H p e2 σ') → Q σ' H) → gOf K (.tup is) (.ref a) σ H Q := by
      intro a xs ds e2 sq r he q
      refine ⟨a, xs, rfl, sq, ?_, sets_ok is he r vr q⟩
      rw [r.length]
      have : ∀ (is : List Nat) (ds : List D) (e e' : Env), sets e is ds = some e' → ds.length = is.length := by
        intro is
        induction is with
        | nil => intro ds e e' h; cases ds with
          | nil => rfl
          | cons _ _ => cases h
        | cons i is ih => intro ds e e' h; cases ds with
          | nil => cases h
          | cons d ds => simp only [List.length_cons]; rw [ih ds _ _ h]
      exact this is ds e _ he
    cases r <;> simp only [asgG] at h <;> try cases h
    all_goals
      rename_i ea r
      split at h
      · rename_i e2 he
        cases h
        first | exact main (vr.sub.tup ea).sq r he q | exact main (SqT.of (vr.sub.prs ea)) r he q
      · cases h
  | lun is =>
    cases r <;> simp only [asgG] at h <;> try cases h
    rename_i ea r
    split at h
    · rename_i e2 he
      cases h
      refine ⟨_, _, rfl, SqL.of (vr.sub.lst ea), ?_, sets_ok is he r vr q⟩
      rw [r.length]
      have : ∀ (is : List Nat) (ds : List D) (e e' : Env), sets e is ds = some e' → ds.length = is.length := by
        intro is
        induction is with
        | nil => intro ds e e' h; cases ds with
          | nil => rfl
          | cons _ _ => cases h
        | cons i is ih => intro ds e e' h; cases ds with
          | nil => cases h
          | cons d ds => simp only [List.length_cons]; rw [ih ds _ _ h]
      exact this is _ e _ he
    · cases h
end
structure WalksD (K : PySem.W.Frag) (J : It) (F : Hp) (ds : List D) : Prop where
  size : ds.length ≤ sizeLine
  stop : ∀ F1 H1, Same F F1 → Sub F1 H1 → J.stop ds.length H1
  go : ∀ i d, ds[i]? = some d → ∀ F1 H1, Same F F1 → Sub F1 H1 → J.go i H1 ∧ ∀ x H2, J.yld i H1 x H2 → ∃ F2, Ext F1 H1 F2 H2 ∧ Rp K F2 x d
def tIt (K : PySem.W.Frag) (W : WX) (cl : Nat → Value) (r : Env → R (List D)) : TI := fun σ H R => ∃ e F, VR K e σ F H ∧ Wp W cl (r e) σ F H fun ds F' H' => ∀ J, WalksD K J F' ds → R J H'
section
variable {K : PySem.W.Frag} {F H : Hp}
theorem walks_lst {a : Addr} {xs : List V} {ds : List D} (h : F a = some (.lst xs)) (r : Rps K F xs ds) (hz : ds.length ≤ sizeLine) : WalksD K (Itl K a) F ds where
  size := hz
  stop := fun F1 H1 g s => walk_list.stops H1 (SqL.of (s.lst (g _ _ h))) |> fun z => by rw [← r.length]; exact z
  go := fun i d hd F1 H1 g s => by
    have q := SqL.of (K := K) (s.lst (g _ _ h))
    obtain ⟨v, hv, rv⟩ := r.get hd
    refine ⟨⟨xs, v, q, hv⟩, fun x H2 y => ?_⟩
    obtain ⟨rfl, y⟩ := y
    have := y xs q
    rw [hv] at this
    cases this
    exact ⟨F1, Ext.refl s, rv.mono g⟩
theorem walks_tup {a : Addr} {xs : List V} {ds : List D} (h : IsT F a xs) (r : Rps K F xs ds) (hz : ds.length ≤ sizeLine) : WalksD K (Itt K a) F ds where
  size := hz
  stop := fun F1 H1 g s => walk_tup.stops H1 (s.tup (h.mono g)).sq |> fun z => by rw [← r.length]; exact z
  go := fun i d hd F1 H1 g s => by
    have q := (s.tup (h.mono g)).sq (K := K)
    obtain ⟨v, hv, rv⟩ := r.get hd
    refine ⟨⟨xs, v, q, hv⟩, fun x H2 y => ?_⟩
    obtain ⟨rfl, y⟩ := y
    have := y xs q
    rw [hv] at this
    cases this
    exact ⟨F1, Ext.refl s, rv.mono g⟩
theorem walks_rng {lo : Int} {n : Nat} (hz : n ≤ sizeLine) : WalksD K (Itr lo n) F (rangeD lo n) where
  size := by rw [rangeD, List.length_map, List.length_range]; exact hz
  stop := fun F1 H1 g s => by
    rw [rangeD, List.length_map, List.length_range]
    exact Nat.le_refl _
  go := fun i d hd F1 H1 g s => by
    rw [rangeD, List.getElem?_map] at hd
    have hi : i < n := by
      by_cases h : i < n
      · exact h
      · rw [List.getElem?_eq_none_iff.mpr (by rw [List.length_range]; omega)] at hd
        cases hd
    rw [List.getElem?_range hi] at hd
    cases hd
    refine ⟨hi, fun x H2 y => ?_⟩
    obtain ⟨rfl, rfl⟩ := y
    exact ⟨F1, Ext.refl s, .int _⟩
/-- pairs that are made at each turn -/
theorem walks_pair {J : It} {n : Nat} {fx fy : Nat → Option V} {ds : List D} (hn : ds.length = n) (hz : n ≤ sizeLine) (G : Hp → Prop) (w : Walk J n G (YPair fx fy)) (hG : ∀ F1 H1, Same F F1 → Sub F1 H1 → G H1)
    (hp : ∀ i d, ds[i]? = some d → ∀ x y, fx i = some x → fy i = some y → ∃ a b, d = .prs [a, b] ∧ Rp K F x a ∧ Rp K F y b) : WalksD K J F ds where
  size := by rw [hn]; exact hz
  stop := fun F1 H1 g s => by rw [hn]; exact w.stops H1 (hG F1 H1 g s)
  go := fun i d hd F1 H1 g s => by
    have hi : i < n := by
      rw [← hn]
      exact (List.getElem?_eq_some_iff.mp hd).1
    refine ⟨w.goes i H1 hi (hG F1 H1 g s), fun z H2 hy => ?_⟩
    obtain ⟨T, x, y, rfl, hT, rfl, h1, h2⟩ := w.yields i H1 z H2 hi (hG F1 H1 g s) hy
    obtain ⟨a, b, rfl, r1, r2⟩ := hp i d hd x y h1 h2
    have x1 := Ext.laid (.tup [x, y]) s hT
    exact ⟨_, x1, .prs upd_same (.cons ((r1.mono g).mono x1.grow) (.cons ((r2.mono g).mono x1.grow) .nil))⟩
end
section
variable {X : Cx} {W : WX} {cl : Nat → Value} {a b tg : Expr} {ra rb : Env → R D} {pos p : Pos}
theorem walks_str (K : PySem.W.Frag) (F : Hp) (z : Str) (hz : z.length ≤ sizeLine) : WalksD K (L2.Its z) F (chrs z) where
  size := by unfold chrs; rw [List.length_map, Array.length_toList]; exact hz
  stop := fun F1 H1 g s => by
    show z.cps.size ≤ (chrs z).length
    unfold chrs
    rw [List.length_map, Array.length_toList]
    exact Nat.le_refl _
  go := fun i d hd F1 H1 g s => by
    unfold chrs at hd
    rw [List.getElem?_map] at hd
    obtain ⟨c, hc, rfl⟩ := Option.map_eq_some_iff.mp hd
    rw [Array.getElem?_toList] at hc
    refine ⟨(Array.getElem?_eq_some_iff.mp hc).1, fun v H2 hy => ?_⟩
    obtain ⟨rfl, c2, h2, rfl⟩ := hy
    rw [hc] at h2
    cases h2
    exact ⟨F1, Ext.refl s, .str _⟩
theorem ci_seq (ha : PE X a (tE X.K W cl ra)) : PI X tg a (tIt X.K W cl fun e => do let x ← ra e; itS .seq [x]) := by
  refine PI.imp (PI.good (PI.or (PI.or (pi_list ha) (pi_tup ha)) (pi_str ha))) fun σ H R _ q => ?_
  obtain ⟨e, F, vr, w⟩ := q
  dsimp only at w
  cases hx : ra e with
  | bad => rw [hx] at w; exact w.elim
  | exc c => rw [hx] at w; exact .inl (.inl ⟨e, F, vr, by rw [hx]; exact w⟩)
  | ok x =>
    rw [hx] at w
    have w1 : Wp W cl (itS .seq [x]) σ F H fun ds F' H' => ∀ J, WalksD X.K J F' ds → R J H' := w
    by_cases hs : ∃ z, x = .str z
    · obtain ⟨z, rfl⟩ := hs
      refine .inr ⟨e, F, vr, by
        rw [hx]
        intro F1 H1 x1 v rv
        cases rv
        refine ⟨z, rfl, fun gd => ?_⟩
        simp only [itS] at w1
        split at w1
        · rename_i hz
          exact w1 F1 H1 x1 _ (walks_str X.K F1 z hz)
        · exact w1.elim⟩
    by_cases ht : ∃ xs, x = .tup xs
    · obtain ⟨ds, rfl⟩ := ht
      refine .inl (.inr ⟨e, F, vr, by
        rw [hx]
        intro F1 H1 x1 v rv
        cases rv with
        | tup ea r =>
          refine ⟨_, rfl, ⟨_, (x1.sub.tup ea).sq⟩, fun gd => ?_⟩
          refine w1 F1 H1 x1 _ (walks_tup ea r ?_)
          rw [← r.length]
          exact gd.tup _ _ ((x1.sub.tup ea).sq)⟩)
    · refine .inl (.inl ⟨e, F, vr, by
        rw [hx]
        intro F1 H1 x1 v rv
        cases rv with
        | lst ea r =>
          refine ⟨_, rfl, ⟨_, SqL.of (x1.sub.lst ea)⟩, fun gd => ?_⟩
          refine w1 F1 H1 x1 _ (walks_lst ea r ?_)
          rw [← r.length]
          exact gd.lst _ _ (SqL.of (x1.sub.lst ea))
        | tup ea r => exact absurd ⟨_, rfl⟩ ht
        | str z => exact absurd ⟨_, rfl⟩ hs
        | _ => exact w1.elim⟩)
theorem ci_rng1 (hg : Gl X "range") (hm : X.mg "range" = none) (hs : starEach [a] X.env = [(false, eval a X.env)]) (ha : PA X [a] (tA X.K W cl fun e => do let x ← ra e; .ok [x])) : PI X tg (.Call (.Name "range" p) [a] [] pos) (tIt X.K W cl fun e => do let x ← ra e; itS .rng1 [x]) := by
  refine PI.imp (pi_range1 hg hm ha hs) fun σ H R _ q => ?_
  obtain ⟨e, F, vr, w⟩ := q
  refine ⟨e, F, vr, ?_⟩
  dsimp only at w ⊢
  cases hx : ra e with
  | bad => rw [hx] at w; exact w.elim
  | exc c => rw [hx] at w; exact w
  | ok x =>
    rw [hx] at w
    have w1 : Wp W cl (itS .rng1 [x]) σ F H fun ds F' H' => ∀ J, WalksD X.K J F' ds → R J H' := w
    intro F1 H1 x1 vs rv
    cases rv with
    | cons h1 r =>
      cases r
      cases h1 <;> simp only [itS] at w1 <;> try exact w1.elim
      rename_i n
      split at w1
      · rename_i hn
        simp only [smallI, Bool.and_eq_true, decide_eq_true_eq] at hn
        refine ⟨n, rfl, hn.1.1, hn.1.2, w1 F1 H1 x1 _ (walks_rng ?_)⟩
        omega
      · exact w1.elim
theorem ci_rng2 (hg : Gl X "range") (hm : X.mg "range" = none) (hs : starEach [a, b] X.env = [(false, eval a X.env), (false, eval b X.env)]) (hs2 : starEach [b] X.env = [(false, eval b X.env)])
    (ha : PA X [a, b] (tA X.K W cl fun e => do let x ← ra e; let y ← rb e; .ok [x, y])) : PI X tg (.Call (.Name "range" p) [a, b] [] pos) (tIt X.K W cl fun e => do let x ← ra e; let y ← rb e; itS .rng2 [x, y]) := by
  refine PI.imp (pi_range2 hg hm ha hs hs2) fun σ H R _ q => ?_
  obtain ⟨e, F, vr, w⟩ := q
  refine ⟨e, F, vr, ?_⟩
  dsimp only at w ⊢
  cases hx : ra e with
  | bad => rw [hx] at w; exact w.elim
  | exc c => rw [hx] at w; exact w
  | ok x =>
    rw [hx] at w
    have w0 : Wp W cl (rb e >>= fun y => itS .rng2 [x, y]) σ F H fun ds F' H' => ∀ J, WalksD X.K J F' ds → R J H' := w
    cases hy : rb e with
    | bad => rw [hy] at w0; exact w0.elim
    | exc c => rw [hy] at w0; exact w0
    | ok y =>
      rw [hy] at w0
      have w1 : Wp W cl (itS .rng2 [x, y]) σ F H fun ds F' H' => ∀ J, WalksD X.K J F' ds → R J H' := w0
      intro F1 H1 x1 vs rv
      cases rv with
      | cons h1 r =>
        cases r with
        | cons h2 r =>
          cases r
          cases h1 <;> cases h2 <;> simp only [itS] at w1 <;> try exact w1.elim
          rename_i n m
          split at w1
          · rename_i hn
            simp only [smallI, Bool.and_eq_true, decide_eq_true_eq] at hn
            refine ⟨n, m, rfl, ⟨hn.1.1.1, hn.1.1.2, hn.1.2.1, hn.1.2.2⟩, w1 F1 H1 x1 _ (walks_rng ?_)⟩
            omega
          · exact w1.elim
end
end Pan
namespace Pan
open PySem PySem.Spec L2
open PyProof.Rows hiding St
variable [TabsIn]
/-- nothing is wished of an exception -/
abbrev W0 : WX := fun _ _ _ _ => False
section
variable {K : PySem.W.Frag} {F H F' H' : Hp}
/-- a thing that is new is changed -/
theorem Ext.poke {p : Addr} {o u : HO} (x : Ext F H F' H') (h : H p = none) (h' : F' p = none) (hu : H' p = some u) (hn : nC u := by exact nC_of fun _ z => by cases z) (nt : nT u = true := by rfl) : Ext F H F' (upd H' p o) where
  same := ⟨fun b u e n => by
    rw [upd_ne (ne_of_none e h)]
    exact x.same.at e n, fun b ps e => by
    rw [upd_ne (ne_of_none e h)]
    exact x.same.tb b ps e, fun t => tabs_upd (x.same.tabs t) hu nt hn⟩
  grow := x.grow
  sub := ⟨fun b u e => by
    rw [upd_ne (ne_of_none e h')]
    exact x.sub.at_ b u e, tabs_upd x.sub.tabs hu nt hn⟩
  new := x.new
/-- one item of a comprehension -/
def lcF (g : G) (vs : List Nat) (rt : Env → R Bool) (re : Env → R D) (e : Env) : D → R (List D) := fun d => do
  let e1 ← asgG g d (wipeE e vs)
  let c ← rt e1
  if c then do let y ← re e1; .ok [y] else .ok []
theorem bind_eq_ok {α β : Type} {m : R α} {f : α → R β} {b : β} (h : (m >>= f) = .ok b) : ∃ a, m = .ok a ∧ f a = .ok b := by
  cases m with
  | ok a => exact ⟨a, rfl, h⟩
  | exc _ => cases h
  | bad => cases h
theorem lcM_cons {d : D} {ds r : List D} {f : D → R (List D)} (h : lcM (d :: ds) f = .ok r) : ∃ a b, f d = .ok a ∧ lcM ds f = .ok b ∧ r = a ++ b := by
  rw [lcM] at h
  obtain ⟨a, h1, h⟩ := bind_eq_ok h
  obtain ⟨b, h2, h⟩ := bind_eq_ok h
  cases h
  exact ⟨a, b, h1, h2, rfl⟩
theorem lc_walk {cl : Nat → Value} {σ : St} {Q : VK} {g : G} {vs : List Nat} {rt : Env → R Bool} {re : Env → R D} (hv : ∀ i ∈ slotsG g, i ∈ vs) {e : Env} {F1 H1 : Hp} (vr1 : VR K e σ F1 H1) (x1 : Sub F1 H1) {J : It} {ds r : List Pan.D} (wk : WalksD K J F1 ds) {D : Addr} (hD : H1 D = none)
    (hr : lcM ds (lcF g vs rt re e) = .ok r) (w2 : ∀ F' H', Ext F1 H1 F' H' → (∃ acc, F' D = none ∧ H' D = some (.lst acc) ∧ Rps K F' acc r) → Q (.ref D) H') :
    ∃ Wf : Nat → Nat → Hp → Prop, (∃ m, Wf 0 m (upd H1 D (.lst []))) ∧ ∀ i m H, Wf i m H → (J.stop i H ∧ Q (.ref D) H) ∨ (J.go i H ∧ ∃ Nx : Hp → Prop, (∀ H', Nx H' → ∃ m', m' < m ∧ Wf (i + 1) m' H') ∧ ∀ x H', J.yld i H x H' →
      gOf K g x (wipe σ vs) H' fun σ2 H2 => wipe σ2 vs = wipe σ vs ∧ tT K W0 cl rt σ2 H2 fun b H3 => if b = true then tE K W0 cl re σ2 H3 fun v H4 => ∃ acc, H4 D = some (.lst acc) ∧ acc.length < sizeLine ∧ Nx (upd H4 D (.lst (acc ++ [v]))) else Nx H3) := by
  refine ⟨fun i m Hi => i + m = ds.length ∧ ∃ Fi acc done rest, Ext F1 H1 Fi Hi ∧ Hi D = some (.lst acc) ∧ Fi D = none ∧ Rps K Fi acc done ∧ lcM (ds.drop i) (lcF g vs rt re e) = .ok rest ∧ r = done ++ rest ∧ done.length ≤ i,
    ⟨ds.length, by omega, F1, [], [], r, Ext.made _ x1 hD, upd_same, x1.none hD, .nil, hr, rfl, Nat.zero_le _⟩, fun i m Hi hW => ?_⟩
  obtain ⟨him, Fi, acc, done, rest, xi, hDi, fDi, ra, hrest, hrr, hdl⟩ := hW
  by_cases hi : i < ds.length
  · -- a turn
    have hd : ds[i]? = some ds[i] := List.getElem?_eq_getElem hi
    have hdrop : ds.drop i = ds[i] :: ds.drop (i + 1) := List.drop_eq_getElem_cons hi
    rw [hdrop] at hrest
    obtain ⟨xs, rest', h1, h2, rfl⟩ := lcM_cons hrest
    obtain ⟨hgo, hy⟩ := wk.go i ds[i] hd Fi Hi xi.grow xi.sub
    refine .inr ⟨hgo, _, fun H' hN => ⟨m - 1, by omega, hN⟩, fun x H' y => ?_⟩
    obtain ⟨F2, x2, rx⟩ := hy x H' y
    unfold lcF at h1
    obtain ⟨e1, h3, h1⟩ := bind_eq_ok h1
    obtain ⟨c, h4, h1⟩ := bind_eq_ok h1
    have vr2 : VR K (wipeE e vs) (wipe σ vs) F2 H' := ((vr1.mono xi).mono x2).wipe vs
    refine gOf_ok h3 rx vr2 fun σ2 vr3 hw _ => ⟨?_, e1, F2, vr3, ?_⟩
    · rw [hw vs hv]
      exact wipe_wipe
    rw [h4]
    intro F3 H3 x3
    have hD3 : H3 D = some (.lst acc) := x3.same.at (x2.same.at hDi)
    have fD2 : F2 D = none := x2.keepNone fDi hDi (by intro _ z; cases z)
    have fD3 : F3 D = none := x3.keepNone fD2 (x2.same.at hDi) (by intro _ z; cases z)
    cases c with
    | false =>
      refine iteF ?_
      cases h1
      exact ⟨by omega, F3, acc, done, rest', (xi.trans x2).trans x3, hD3, fD3, (ra.mono x2.grow).mono x3.grow, h2, by rw [hrr]; rfl, by omega⟩
    | true =>
      refine iteT ⟨e1, F3, vr3.mono x3, ?_⟩
      obtain ⟨y, h5, h1⟩ := bind_eq_ok h1
      cases h1
      rw [h5]
      intro F4 H4 x4 v rv
      have hD4 : H4 D = some (.lst acc) := x4.same.at hD3
      have fD4 : F4 D = none := x4.keepNone fD3 hD3 (by intro _ z; cases z)
      refine ⟨acc, hD4, ?_, by omega, F4, acc ++ [v], done ++ [y], rest', (((xi.trans x2).trans x3).trans x4).poke hD fD4 hD4, upd_same, fD4, (((ra.mono x2.grow).mono x3.grow).mono x4.grow).append (.cons rv .nil), h2, by rw [hrr]; simp, by rw [List.length_append]; simp; omega⟩
      rw [ra.length]
      have := wk.size
      omega
  · -- the end
    have e0 : i = ds.length := by omega
    subst e0
    rw [List.drop_length] at hrest
    cases hrest
    rw [List.append_nil] at hrr
    subst hrr
    exact .inl ⟨wk.stop Fi Hi xi.grow xi.sub, w2 Fi Hi xi ⟨acc, fDi, hDi, ra⟩⟩
theorem imp_lc {W : WX} {cl : Nat → Value} {σ : St} {Q : VK} {g : G} {vs : List Nat} {rit : Env → R (List D)} {rt : Env → R Bool} {re : Env → R D} (hv : ∀ i ∈ slotsG g, i ∈ vs)
    (h : tN K W cl (fun e => do let ds ← rit e; let r ← (lcM ds (lcF g vs rt re e)).calm; .ok (.lst r)) σ H Q) :
    tLc (tIt K W cl rit) (gOf K g) (tT K W0 cl rt) (tE K W0 cl re) vs σ H Q := by
  obtain ⟨e, F, vr, w⟩ := h
  refine ⟨e, F, vr, w.bind.mono fun ds F1 H1 x1 w1 J wk D hD => ?_⟩
  cases hr : lcM ds (lcF g vs rt re e) with
  | bad => rw [hr] at w1; exact w1.elim
  | exc c => rw [hr] at w1; exact w1.elim
  | ok r =>
    rw [hr] at w1
    have w2 : Wp W cl (.ok (.lst r)) σ F1 H1 fun d F' H' => ∀ a, NewR K F' H' H a d → Q (.ref a) H' := w1
    have hD0 : H D = none := x1.same.free hD
    exact lc_walk hv (vr.mono x1) x1.sub wk hD hr fun F' H' x ⟨acc, a1, a2, a3⟩ => w2 F' H' x D ⟨hD0, a1, acc, a2, a3⟩
end
section
variable {X : Cx} {W : WX} {cl : Nat → Value} {elt tg iter : Expr} {ifs : List Expr} {scope : Scope} {own : List (Str × Nat)} {pos : Pos} {g : G} {rit : Env → R (List D)} {rt : Env → R Bool} {re : Env → R D}
theorem cn_lc (hc : X.calm = true) (hN : X.N.Nodup) (hi : PI X tg iter (tIt X.K W cl rit)) (ok : BlkOk X.N X.env.scope scope own) (hv : ∀ i ∈ slotsG g, i ∈ own.map (·.2))
    (hg : ∀ (s : Shared) (H : Hp) (C : Addr) (cl : List (Str × Addr)) (fp : List Addr), PG (X.blk s H scope (compEnvC scope cl C X.env) fp) tg (gOf X.K g))
    (ht : ∀ (s : Shared) (H : Hp) (C : Addr) (cs : List (Str × Addr)) (fp : List Addr), PTs (X.blk s H scope (compEnvC scope cs C X.env) fp) ifs (tT X.K W0 cl rt))
    (he : ∀ (s : Shared) (H : Hp) (C : Addr) (cs : List (Str × Addr)) (fp : List Addr), PE (X.blk s H scope (compEnvC scope cs C X.env) fp) elt (tE X.K W0 cl re)) (hs : ∀ x, foldedSetIterable iter X.env x = pure x) :
    PE X (.ListComp elt [⟨tg, iter, ifs, 0⟩] scope pos) (tN X.K W cl fun e => do let ds ← rit e; let r ← (lcM ds (lcF g (own.map (·.2)) rt re e)).calm; .ok (.lst r)) :=
  PE.imp (pe_lc hc hN hi ok hg ht he hs) fun σ H Q _ q => imp_lc hv q
end
end Pan
namespace Pan
open PySem PySem.Spec L2
open PyProof.Rows hiding St
variable [TabsIn]
section
variable {K : PySem.W.Frag} {F H F' H' : Hp}
def lcF2 (g : G) (vs : List Nat) (rt : Env → R Bool) (rit1 : Env → R (List D)) (g1 : G) (vs1 : List Nat) (rt1 : Env → R Bool) (re : Env → R D) (e : Env) : D → R (List D) := fun d => do
  let e1 ← asgG g d (wipeE e vs)
  let c ← rt e1
  if c then do let ds1 ← rit1 e1; lcM ds1 (lcF g1 vs1 rt1 re e1) else .ok []
theorem imp_lc2 {W : WX} {cl : Nat → Value} {σ : St} {Q : VK} {g g1 : G} {vs vs1 : List Nat} {rit rit1 : Env → R (List D)} {rt rt1 : Env → R Bool} {re : Env → R D} (hv : ∀ i ∈ slotsG g, i ∈ vs) (hv1 : ∀ i ∈ slotsG g1, i ∈ vs1)
    (h : tN K W cl (fun e => do let ds ← rit e; let r ← (lcM ds (lcF2 g vs rt rit1 g1 vs1 rt1 re e)).calm; fitL r .lst) σ H Q) :
    tLc2 (tIt K W cl rit) (gOf K g) (tT K W0 cl rt) (tIt K W0 cl rit1) (gOf K g1) (tT K W0 cl rt1) (tE K W0 cl re) vs vs1 σ H Q := by
  obtain ⟨e, F, vr, w⟩ := h
  refine ⟨e, F, vr, w.bind.mono fun ds F1 H1 x1 w1 J wk D hD => ?_⟩
  cases hr : lcM ds (lcF2 g vs rt rit1 g1 vs1 rt1 re e) with
  | bad => rw [hr] at w1; exact w1.elim
  | exc c => rw [hr] at w1; exact w1.elim
  | ok r =>
    rw [hr] at w1
    have w1' : Wp W cl (fitL r Pan.D.lst) σ F1 H1 fun d F' H' => ∀ a, NewR K F' H' H a d → Q (.ref a) H' := w1
    unfold fitL at w1'
    split at w1'
    case isFalse => exact w1'.elim
    rename_i hfit
    have w2 := w1'
    have hD0 : H D = none := x1.same.free hD
    refine ⟨fun i m Hi => i + m = ds.length ∧ ∃ Fi acc done rest, Ext F1 H1 Fi Hi ∧ Hi D = some (.lst acc) ∧ Fi D = none ∧ Rps K Fi acc done ∧ lcM (ds.drop i) (lcF2 g vs rt rit1 g1 vs1 rt1 re e) = .ok rest ∧ r = done ++ rest,
      ⟨ds.length, by omega, F1, [], [], r, Ext.made _ x1.sub hD, upd_same, x1.sub.none hD, .nil, hr, rfl⟩, fun i m Hi hW => ?_⟩
    obtain ⟨him, Fi, acc, done, rest, xi, hDi, fDi, ra, hrest, hrr⟩ := hW
    by_cases hi : i < ds.length
    · have hd : ds[i]? = some ds[i] := List.getElem?_eq_getElem hi
      have hdrop : ds.drop i = ds[i] :: ds.drop (i + 1) := List.drop_eq_getElem_cons hi
      rw [hdrop] at hrest
      obtain ⟨xs, rest', h1, h2, rfl⟩ := lcM_cons hrest
      obtain ⟨hgo, hy⟩ := wk.go i ds[i] hd Fi Hi xi.grow xi.sub
      refine .inr ⟨hgo, _, fun H' hN => ⟨m - 1, by omega, hN⟩, fun x H' y => ?_⟩
      obtain ⟨F2, x2, rx⟩ := hy x H' y
      unfold lcF2 at h1
      obtain ⟨e1, h3, h1⟩ := bind_eq_ok h1
      obtain ⟨c, h4, h1⟩ := bind_eq_ok h1
      have vr2 : VR K (wipeE e vs) (wipe σ vs) F2 H' := (((vr.mono x1).mono xi).mono x2).wipe vs
      have no1 : ∀ H', SameT H1 H' → NoOwn H' D e σ := fun H' s => (vr.mono x1).noOwnS s hD
      refine gOf_ok h3 rx vr2 fun σ2 vr3 hw hno => ⟨?_, e1, F2, vr3, ?_⟩
      · rw [hw vs hv]
        exact wipe_wipe
      rw [h4]
      intro F3 H3 x3
      have hD3 : H3 D = some (.lst acc) := x3.same.at (x2.same.at hDi)
      have fD2 : F2 D = none := x2.keepNone fDi hDi (by intro _ z; cases z)
      have fD3 : F3 D = none := x3.keepNone fD2 (x2.same.at hDi) (by intro _ z; cases z)
      have ra3 : Rps K F3 acc done := (ra.mono x2.grow).mono x3.grow
      have xi3 := (xi.trans x2).trans x3
      have vr4 := vr3.mono x3
      have no2 : ∀ H', SameT H1 H' → NoOwn H' D e1 σ2 := fun H' s => hno H' D ((no1 H' s).wipe vr.len vs).1
      cases c with
      | false =>
        refine iteF ?_
        cases h1
        exact ⟨by omega, F3, acc, done, rest', xi3, hD3, fD3, ra3, h2, by rw [hrr]; rfl⟩
      | true =>
        refine iteT ⟨e1, F3, vr4, ?_⟩
        obtain ⟨ds1, h5, h1⟩ := bind_eq_ok h1
        rw [h5]
        intro F4 H4 x4 J1 wk1
        have hD4 : H4 D = some (.lst acc) := x4.same.at hD3
        have fD4 : F4 D = none := x4.keepNone fD3 hD3 (by intro _ z; cases z)
        refine ⟨fun j k Hj => j + k = ds1.length ∧ ∃ Fj acc done rest1, Ext F1 H1 Fj Hj ∧ Same F4 Fj ∧ VR K e1 σ2 Fj Hj ∧ Hj D = some (.lst acc) ∧ Fj D = none ∧ Rps K Fj acc done ∧ lcM (ds1.drop j) (lcF g1 vs1 rt1 re e1) = .ok rest1 ∧ r = done ++ rest1 ++ rest',
          ⟨ds1.length, by omega, F4, acc, done, xs, xi3.trans x4, Same.refl _, vr4.mono x4, hD4, fD4, ra3.mono x4.grow, h1, by rw [hrr, List.append_assoc]⟩, fun j k Hj hW1 => ?_⟩
        obtain ⟨hjk, Fj, acc1, done1, rest1, xj, sj, vrj, hDj, fDj, raj, hrest1, hrr1⟩ := hW1
        by_cases hj : j < ds1.length
        · have hd1 : ds1[j]? = some ds1[j] := List.getElem?_eq_getElem hj
          have hdrop1 : ds1.drop j = ds1[j] :: ds1.drop (j + 1) := List.drop_eq_getElem_cons hj
          rw [hdrop1] at hrest1
          obtain ⟨ys, rest1', k1, k2, rfl⟩ := lcM_cons hrest1
          obtain ⟨hgo1, hy1⟩ := wk1.go j ds1[j] hd1 Fj Hj sj xj.sub
          refine .inr ⟨hgo1, _, fun H' hN => ⟨k - 1, by omega, hN⟩, fun x' H5 y' => ?_⟩
          obtain ⟨F5, x5, rx5⟩ := hy1 x' H5 y'
          unfold lcF at k1
          obtain ⟨e2, k3, k1⟩ := bind_eq_ok k1
          obtain ⟨c1, k4, k1⟩ := bind_eq_ok k1
          have vr5 : VR K (wipeE e1 vs1) (wipe σ2 vs1) F5 H5 := (vrj.mono x5).wipe vs1
          refine gOf_ok k3 rx5 vr5 fun σ3 vr6 hw1 _ => ⟨?_, e2, F5, vr6, ?_⟩
          · rw [hw1 vs1 hv1]
            exact wipe_wipe
          rw [k4]
          intro F6 H6 x6
          have hD6 : H6 D = some (.lst acc1) := x6.same.at (x5.same.at hDj)
          have fD5 : F5 D = none := x5.keepNone fDj hDj (by intro _ z; cases z)
          have fD6 : F6 D = none := x6.keepNone fD5 (x5.same.at hDj) (by intro _ z; cases z)
          cases c1 with
          | false =>
            refine iteF ?_
            cases k1
            exact ⟨by omega, F6, acc1, done1, rest1', (xj.trans x5).trans x6, (sj.trans x5.grow).trans x6.grow, (vrj.mono x5).mono x6, hD6, fD6, (raj.mono x5.grow).mono x6.grow, k2, by rw [hrr1]; rfl⟩
          | true =>
            refine iteT ⟨e2, F6, vr6.mono x6, ?_⟩
            obtain ⟨z, k5, k1⟩ := bind_eq_ok k1
            cases k1
            rw [k5]
            intro F7 H7 x7 v rv
            have hD7 : H7 D = some (.lst acc1) := x7.same.at hD6
            have fD7 : F7 D = none := x7.keepNone fD6 hD6 (by intro _ z; cases z)
            have raF : Rps K F7 acc1 done1 := ((raj.mono x5.grow).mono x6.grow).mono x7.grow
            have xF := (((xj.trans x5).trans x6).trans x7)
            refine ⟨acc1, hD7, ?_, by omega, F7, acc1 ++ [v], done1 ++ [z], rest1', xF.poke hD fD7 hD7, ((sj.trans x5.grow).trans x6.grow).trans x7.grow, ?_, upd_same, fD7, raF.append (.cons rv .nil), k2, by rw [hrr1]; simp⟩
            · rw [raF.length]
              have := congrArg List.length hrr1
              simp only [List.length_append, List.length_cons, List.length_nil] at this
              omega
            · exact (((vrj.mono x5).mono x6).mono x7).poke (no2 _ xF.same) fD7 (tabs_upd xF.sub.tabs hD7 rfl (nC_of fun _ z => by cases z))
        · have e0 : j = ds1.length := by omega
          subst e0
          rw [List.drop_length] at hrest1
          cases hrest1
          rw [List.append_nil] at hrr1
          exact .inl ⟨wk1.stop Fj Hj sj xj.sub, by omega, Fj, acc1, done1, rest', xj, hDj, fDj, raj, h2, hrr1⟩
    · have e0 : i = ds.length := by omega
      subst e0
      rw [List.drop_length] at hrest
      cases hrest
      rw [List.append_nil] at hrr
      subst hrr
      exact .inl ⟨wk.stop Fi Hi xi.grow xi.sub, w2 Fi Hi xi D ⟨hD0, fDi, acc, hDi, ra⟩⟩
end
section
variable {X : Cx} {W : WX} {cl : Nat → Value} {elt tg iter tg1 iter1 : Expr} {ifs ifs1 : List Expr} {scope : Scope} {own : List (Str × Nat)} {vs1 : List Nat} {pos : Pos} {g g1 : G} {rit rit1 : Env → R (List D)} {rt rt1 : Env → R Bool} {re : Env → R D}
theorem cn_lc2 (hc : X.calm = true) (hN : X.N.Nodup) (hi : PI X tg iter (tIt X.K W cl rit)) (ok : BlkOk X.N X.env.scope scope own) (hw : ∀ i ∈ vs1, i ∈ own.map (·.2)) (hv : ∀ i ∈ slotsG g, i ∈ own.map (·.2)) (hv1 : ∀ i ∈ slotsG g1, i ∈ vs1)
    (hg : ∀ (s : Shared) (H : Hp) (C : Addr) (cl : List (Str × Addr)) (fp : List Addr), PG (X.blk s H scope (compEnvC scope cl C X.env) fp) tg (gOf X.K g))
    (ht : ∀ (s : Shared) (H : Hp) (C : Addr) (cs : List (Str × Addr)) (fp : List Addr), PTs (X.blk s H scope (compEnvC scope cs C X.env) fp) ifs (tT X.K W0 cl rt))
    (hi1 : ∀ (s : Shared) (H : Hp) (C : Addr) (cs : List (Str × Addr)) (fp : List Addr), PI (X.blk s H scope (compEnvC scope cs C X.env) fp) tg1 iter1 (tIt X.K W0 cl rit1))
    (hg1 : ∀ (s : Shared) (H : Hp) (C : Addr) (cl : List (Str × Addr)) (fp : List Addr), PG (X.blk s H scope (compEnvC scope cl C X.env) fp) tg1 (gOf X.K g1))
    (ht1 : ∀ (s : Shared) (H : Hp) (C : Addr) (cs : List (Str × Addr)) (fp : List Addr), PTs (X.blk s H scope (compEnvC scope cs C X.env) fp) ifs1 (tT X.K W0 cl rt1))
    (he : ∀ (s : Shared) (H : Hp) (C : Addr) (cs : List (Str × Addr)) (fp : List Addr), PE (X.blk s H scope (compEnvC scope cs C X.env) fp) elt (tE X.K W0 cl re)) (hs : ∀ x, foldedSetIterable iter X.env x = pure x) (hs1 : ∀ env x, foldedSetIterable iter1 env x = pure x) :
    PE X (.ListComp elt [⟨tg, iter, ifs, 0⟩, ⟨tg1, iter1, ifs1, 0⟩] scope pos) (tN X.K W cl fun e => do let ds ← rit e; let r ← (lcM ds (lcF2 g (own.map (·.2)) rt rit1 g1 vs1 rt1 re e)).calm; fitL r .lst) :=
  PE.imp (pe_lc2 hc hN hi ok hw hg ht hi1 hg1 ht1 he hs hs1) fun σ H Q _ q => imp_lc2 hv hv1 q
end
end Pan
namespace Pan
open PySem PySem.Spec L2
open PyProof.Rows hiding St
variable [TabsIn]
section
variable {X : Cx}
/-- the sequence at a reads as ds: what its items are -/
structure SeqRd (s : Shared) (its : List Value) (ds : List PyData) : Prop where
  lay : PyData.canLayAll0 ds = true
  len : its.length = ds.length
  map : its.map (SeqAt.readOf s.heap) = ds
theorem SeqRd.at {s : Shared} {its : List Value} {ds : List PyData} (q : SeqRd s its ds) (m : Nat) (hm : m < its.toArray.size) : ds[m]? = some (SeqAt.readOf s.heap its.toArray[m]) := by
  have hml : m < its.length := by simpa using hm
  rw [← q.map, List.getElem?_map, List.getElem?_eq_getElem hml]
  simp
def rTIndex (K : PySem.W.Frag) : V → List V → Hp → VK → Prop := fun x xs H Q => ∃ (y : V) (d : PyData) (ds : List PyData) (j : Nat), xs = [y] ∧ Dp K H x (.tuple ds) ∧ Dp K H y d ∧ SeqAt.shaped (.tuple ds) = true ∧ SeqAt.shaped d = true ∧
  ds.findIdx? (fun z => PyData.eqv z d) = some j ∧ Q (.int (j : Nat)) H
theorem mt_tindex (hu : X.A.units + 65 < cLine) : MtR X "tuple.index" (rTIndex X.K) := by
  intro pins s σ H x xs v us Q I rx rxs h
  obtain ⟨y, d, ds, j, rfl, hx, hy, sx, sd, hj, q⟩ := h
  cases hx with
  | tup hs ha =>
    cases rx
    obtain ⟨u, rfl, ru⟩ := vals1 rxs
    obtain ⟨bs, r1⟩ := Dp.reads I d y u hy ru
    have lay : PyData.canLayAll0 ds = true := SeqAt.canLay_of_shaped sx
    have room : X.A.units + 1 + min (PyData.depthAll ds) d.depth < cLine := room_in_shaped sd hu
    obtain ⟨its, rv, ⟨⟨cls, dd, data, sls⟩, ho, hc, n, hdt⟩, hlen⟩ := I.tuple hs
    simp only at hc hdt
    subst hc hdt
    obtain ⟨as, h4⟩ := Dp.readsAll I ds _ its ha rv
    have rd : SeqRd s its ds := ⟨lay, SeqAt.ReadsAll.length ds its as h4, SeqAt.readsAll_map ds its as lay h4⟩
    obtain ⟨hjd, hjt, hjf⟩ := List.findIdx?_eq_some_iff_getElem.mp hj
    have hjs : j < its.toArray.size := by simpa [rd.len] using hjd
    refine call_meets PySem.F.slot_tuple_index ⟨_, ho, rfl⟩ PySem.F.entry_tuple_index (PySem.F.args_tuple_index_2 _ _)
      (TI.tuple_indexAt _ its.toArray n dd sls u (fun z => PyData.eqv (SeqAt.readOf s.heap z) d) j hjs ?_ ?_)
      ⟨ho, SeqAt.items_eqAt (vs := its.toArray) (show ReadsAll s.heap its.toArray.toList ds as from h4) r1 lay (SeqAt.canLay_of_shaped sd) room, ⟨.int (j : Nat), H, I.tok _, ⟨_, rfl⟩, q⟩⟩
    · have e := rd.at j hjs
      rw [List.getElem?_eq_getElem hjd] at e
      show PyData.eqv (SeqAt.readOf s.heap its.toArray[j]) d = true
      rw [← Option.some.inj e]
      exact hjt
    · intro m hm hmj
      have hmd : m < ds.length := by omega
      have e := rd.at m hm
      rw [List.getElem?_eq_getElem hmd] at e
      show PyData.eqv (SeqAt.readOf s.heap its.toArray[m]) d = false
      rw [← Option.some.inj e]
      simpa using hjf m hmj
def rLCount (K : PySem.W.Frag) : V → List V → Hp → VK → Prop := fun x xs H Q => ∃ (y : V) (d : PyData) (ds : List PyData), xs = [y] ∧ Dp K H x (.list ds) ∧ Dp K H y d ∧ SeqAt.shaped (.list ds) = true ∧ SeqAt.shaped d = true ∧
  Q (.int (ds.countP (fun z => PyData.eqv z d) : Nat)) H
theorem mt_count (hu : X.A.units + 65 < cLine) : MtR X "list.count" (rLCount X.K) := by
  intro pins s σ H x xs v us Q I rx rxs h
  obtain ⟨y, d, ds, rfl, hx, hy, sx, sd, q⟩ := h
  cases hx with
  | lst hs ha =>
    cases rx
    obtain ⟨u, rfl, ru⟩ := vals1 rxs
    obtain ⟨bs, r1⟩ := Dp.reads I d y u hy ru
    have lay : PyData.canLayAll0 ds = true := SeqAt.canLay_of_shaped sx
    have room : X.A.units + 1 + min (PyData.depthAll ds) d.depth < cLine := room_in_shaped sd hu
    obtain ⟨its, rv, ⟨⟨cls, dd, data, sls⟩, n, ho, hc, hdn, hdt⟩, hlen⟩ := I.list hs
    simp only at hc hdt
    subst hc hdt
    obtain ⟨as, h4⟩ := Dp.readsAll I ds _ its ha rv
    have rd : SeqRd s its ds := ⟨lay, SeqAt.ReadsAll.length ds its as h4, SeqAt.readsAll_map ds its as lay h4⟩
    refine call_meets PySem.F.slot_list_count ⟨_, ho, rfl⟩ PySem.F.entry_list_count (PySem.F.args_list_count_2 _ _)
      (SeqAt.list_countAt _ its.toArray n dd sls u (fun z => PyData.eqv (SeqAt.readOf s.heap z) d))
      ⟨ho, SeqAt.items_eqAt (vs := its.toArray) (show ReadsAll s.heap its.toArray.toList ds as from h4) r1 lay (SeqAt.canLay_of_shaped sd) room, ?_⟩
    have ec : its.toArray.toList.countP (fun z => PyData.eqv (SeqAt.readOf s.heap z) d) = ds.countP (fun z => PyData.eqv z d) := by
      show its.countP _ = _
      conv => rhs; rw [← rd.map]
      rw [List.countP_map]
      rfl
    refine ⟨.int (ds.countP (fun z => PyData.eqv z d) : Nat), H, I.tok _, ⟨s.toks, ?_⟩, q⟩
    rw [← ec]
end
theorem find_py (n : Nat) {d : D} (h : okd n d = true) : ∀ (ds : List D), ds.all (okd n) = true → ((toPys ds).findIdx? fun z => PyData.eqv z (toPy d)) = ds.findIdx? (eqv · d)
  | [], _ => by rw [toPys]; rfl
  | e :: r, z => by
    rw [List.all_cons, Bool.and_eq_true] at z
    rw [toPys, List.findIdx?_cons, List.findIdx?_cons, find_py n h r z.2, eqv_py n e d z.1 h]
theorem count_py (n : Nat) {d : D} (h : okd n d = true) : ∀ (ds : List D), ds.all (okd n) = true → ((toPys ds).countP fun z => PyData.eqv z (toPy d)) = ds.countP (eqv · d)
  | [], _ => by rw [toPys]; rfl
  | e :: r, z => by
    rw [List.all_cons, Bool.and_eq_true] at z
    rw [toPys, List.countP_cons, List.countP_cons, count_py n h r z.2, eqv_py n e d z.1 h]
theorem rps_strs {K : PySem.W.Frag} {F : Hp} : ∀ ys : List Str, Rps K F (ys.map V.str) (ys.map D.str)
  | [] => .nil
  | y :: ys => .cons (.str y) (rps_strs ys)
theorem strs_rps {K : PySem.W.Frag} {F : Hp} : ∀ {vs : List V} {xs : List D} {ys : List Str}, Rps K F vs xs → strsOf xs = some ys → vs = ys.map V.str
  | _, _, ys, .nil, h => by cases h; rfl
  | _, _, ys, .cons h r, e => by
    cases h <;> simp only [strsOf] at e <;> try cases e
    obtain ⟨zs, h1, rfl⟩ := Option.map_eq_some_iff.mp e
    rw [strs_rps r h1]
    rfl
/-- a receiver that is no call -/
def noCall : Expr → Bool
  | .Call .. => false
  | _ => true
theorem base_of {o : Expr} {nm : Str} {env : PySem.Env} {wh : Sem Value} (h : noCall o = true) : attributeBase o nm env wh = wh := by
  cases o <;> first | rfl | cases h
section
variable {X : Cx} {W : WX} {cl : Nat → Value} {o a : Expr} {ro ra : Env → R D} {ap cp : Pos}
theorem few1 (hs : starEach [a] X.env = (false, eval a X.env) :: starEach [] X.env) : ((backTo cp (starEach [a] X.env)).all (fun x => !x.1) && (backToKw cp (keywordEach [] X.env)).all (fun x => x.1.isSome)
      && decide (([a] : List Expr).length + ([] : List Keyword).length + (if ([] : List Keyword).isEmpty then 0 else 1) < 30)) = true := by
  rw [hs]
  rfl
/-- a method of a tuple -/
def tBMT (r : V → List V → Hp → VK → Prop) (to : TE) (t : TA) : TE := fun σ H Q => to σ H fun x H1 => (∃ p xs, x = .ref p ∧ IsT H1 p xs) ∧ t σ H1 fun ys H2 => r x ys H2 Q
theorem pe_bmT {nm : Str} {id : String} {r : V → List V → Hp → VK → Prop} {to : TE} {t : TA} {es : List Expr} (slot : PySem.Slot "tuple" nm id) (hty : typeOf (.builtin id) = pure (.type "method_descriptor")) (hm : MtR X id r) (ho : PE X o to) (ha : PA X (a :: es) t)
    (hbase : attributeBase o nm X.env (eval o X.env) = eval o X.env)
    (hfew : ((backTo cp (starEach (a :: es) X.env)).all (fun x => !x.1) && (backToKw cp (keywordEach [] X.env)).all (fun x => x.1.isSome)
      && decide ((a :: es).length + ([] : List Keyword).length + (if ([] : List Keyword).isEmpty then 0 else 1) < 30)) = true)
    (hline : (ap.endLine == cp.line) = true) (hs : starEach (a :: es) X.env = (false, eval a X.env) :: starEach es X.env) (hplain : (backTo cp (starEach es X.env)).any (·.1) = false) :
    PE X (.Call (.Attribute o nm ap) (a :: es) [] cp) (tBMT r to t) := by
  refine ⟨fun pins s σ H Q I h => ?_⟩
  refine wpAny_Call_method_late hbase hfew hline rfl (thn (ho.run pins s σ H _ I h) fun v s1 ⟨x, H1, I1, r1, ⟨p, xs, ex, ty⟩, q1⟩ => ?_)
  subst ex
  cases (show v = Value.ref p from r1)
  obtain ⟨o, hd, e⟩ := ty
  obtain ⟨e1, _, its, _, o2, e2, hc, _⟩ := (show ObjOk X.prog X.w H1 s1.heap p (.frz o (.tup xs)) from I1.hok p _ e)
  refine ⟨"tuple", id, PySem.F.plainAttrs_tuple, slot, hty, ⟨o2, e2, hc⟩, fun b eb => ?_, ?_⟩
  · cases eb
    exact ⟨o, e1, hd⟩
  · have hA := ha.run cp pins s1 σ H1 _ I1 q1
    rw [hs] at hA ⊢
    refine Calls.callWith_builtin (by show (false || (backTo cp (starEach es X.env)).any (·.1)) = false; rw [hplain]; rfl) (Calls.evalArgs_plain ?_)
    exact thn hA fun us s2 ⟨vs, H2, I2, r2, q2⟩ => hm pins s2 σ H2 (.ref p) vs (.ref p) us Q I2 rfl r2 q2
theorem ce_index (hu : X.A.units + 65 < cLine) (hb : noCall o = true) (hl : (ap.endLine == cp.line) = true) (hs : starEach [a] X.env = (false, eval a X.env) :: starEach [] X.env) (ho : PE X o (tW X.K W cl ro)) (ha : PE X a (tE X.K W cl ra)) :
    PE X (.Call (.Attribute o "index" ap) [a] [] cp) (tE X.K W cl fun e => do let x ← ro e; if mtOk .index x then do let y ← ra e; mtS .index x [y] else .bad) := by
  refine PE.imp (PE.or (pe_bm PySem.F.plainAttrs_list PySem.F.slot_list_index PySem.F.type_list_index (mt_indexD hu) ho (pa_cons ha pa_nil hs) (base_of hb) (few1 hs) hl hs rfl)
    (pe_bmT PySem.F.slot_tuple_index PySem.F.type_tuple_index (mt_tindex hu) ho (pa_cons ha pa_nil hs) (base_of hb) (few1 hs) hl hs rfl)) fun σ H Q _ q => ?_
  obtain ⟨e, F, vr, w⟩ := q
  dsimp only at w
  cases hx : ro e with
  | bad => rw [hx] at w; exact w.elim
  | exc c => rw [hx] at w; exact .inl ⟨e, F, vr, by rw [hx]; exact w⟩
  | ok x =>
    rw [hx] at w
    have w0 : Wp W cl (if mtOk .index x then (ra e >>= fun y => mtS .index x [y]) else .bad) σ F H fun d F' H' => ∀ v, Rp X.K F' v d → Q v H' := w
    cases x with
    | lst ds =>
      have w1 : Wp W cl (ra e >>= fun y => mtS .index (.lst ds) [y]) σ F H fun d F' H' => ∀ v, Rp X.K F' v d → Q v H' := w0
      have main : ∀ {F1 H1 : Hp}, Ext F H F1 H1 → Wp W cl (ra e) σ F1 H1 fun y F2 H2 => Wp W cl (mtS .index (.lst ds) [y]) σ F2 H2 fun d F' H' => ∀ v, Rp X.K F' v d → Q v H' := fun x1 => (w1.step x1).bind
      refine .inl ⟨e, F, vr, ?_⟩
      rw [hx]
      intro F1 H1 x1 vx G sg rx
      cases rx with
      | lst eb r =>
        refine ⟨.inl ⟨rfl, _, SqL.of (sg.lst eb)⟩, e, F1, vr.mono x1, (main x1).mono fun y F2 H2 x2 w2 vy ry => ?_⟩
        simp only [mtS] at w2
        split at w2
        · rename_i hk
          rw [Bool.and_eq_true] at hk
          have w3 := w2
          split at w3
          · rename_i j hj
            have sg2 := sg.same x2.same
            have hj' : (toPys ds).findIdx? (fun z => PyData.eqv z (toPy y)) = some j := by rw [find_py 4 hk.1 ds hk.2]; exact hj
            obtain ⟨hjd, hjt, hjf⟩ := List.findIdx?_eq_some_iff_getElem.mp hj'
            have dl := (Rp.lst eb r).dp (K := X.K) sg2 5 (by rw [okd]; exact hk.2)
            rw [toPy] at dl
            have sh := okd_shaped (n := 5) (d := .lst ds) (by decide) (by rw [okd]; exact hk.2)
            rw [toPy] at sh
            refine ⟨_, vy, toPy y, toPys ds, j, (toPys ds)[j], rfl, rfl, dl, ry.dp x2.sub 4 hk.1, sh, okd_shaped (by decide) hk.1, List.getElem?_eq_getElem hjd, hjt, fun m z' hm hz' => ?_, w3.now x2.sub _ (.int _)⟩
            obtain ⟨hml, e1⟩ := List.getElem?_eq_some_iff.mp hz'
            rw [← e1]
            simpa using hjf m hm
          · exact w3.elim
        · exact w2.elim
    | tup ds =>
      have w1 : Wp W cl (ra e >>= fun y => mtS .index (.tup ds) [y]) σ F H fun d F' H' => ∀ v, Rp X.K F' v d → Q v H' := w0
      have main : ∀ {F1 H1 : Hp}, Ext F H F1 H1 → Wp W cl (ra e) σ F1 H1 fun y F2 H2 => Wp W cl (mtS .index (.tup ds) [y]) σ F2 H2 fun d F' H' => ∀ v, Rp X.K F' v d → Q v H' := fun x1 => (w1.step x1).bind
      refine .inr ⟨e, F, vr, ?_⟩
      rw [hx]
      intro F1 H1 x1 vx G sg rx
      cases rx with
      | tup eb r =>
        refine ⟨⟨_, _, rfl, sg.tup eb⟩, e, F1, vr.mono x1, (main x1).mono fun y F2 H2 x2 w2 vy ry => ?_⟩
        simp only [mtS] at w2
        split at w2
        · rename_i hk
          rw [Bool.and_eq_true] at hk
          have w3 := w2
          split at w3
          · rename_i j hj
            have sg2 := sg.same x2.same
            have dl := (Rp.tup eb r).dp (K := X.K) sg2 5 (by rw [okd]; exact hk.2)
            rw [toPy] at dl
            have sh := okd_shaped (n := 5) (d := .tup ds) (by decide) (by rw [okd]; exact hk.2)
            rw [toPy] at sh
            exact ⟨vy, toPy y, toPys ds, j, rfl, dl, ry.dp x2.sub 4 hk.1, sh, okd_shaped (by decide) hk.1, by rw [find_py 4 hk.1 ds hk.2]; exact hj, w3.now x2.sub _ (.int _)⟩
          · exact w3.elim
        · exact w2.elim
    | _ => exact w0.elim
theorem ce_count (hu : X.A.units + 65 < cLine) (hb : noCall o = true) (hl : (ap.endLine == cp.line) = true) (hs : starEach [a] X.env = (false, eval a X.env) :: starEach [] X.env) (ho : PE X o (tW X.K W cl ro)) (ha : PE X a (tE X.K W cl ra)) :
    PE X (.Call (.Attribute o "count" ap) [a] [] cp) (tE X.K W cl fun e => do let x ← ro e; if mtOk .count x then do let y ← ra e; mtS .count x [y] else .bad) := by
  refine PE.imp (pe_bm PySem.F.plainAttrs_list PySem.F.slot_list_count PySem.F.type_list_count (mt_count hu) ho (pa_cons ha pa_nil hs) (base_of hb) (few1 hs) hl hs rfl) fun σ H Q _ q => ?_
  obtain ⟨e, F, vr, w⟩ := q
  dsimp only at w
  cases hx : ro e with
  | bad => rw [hx] at w; exact w.elim
  | exc c => rw [hx] at w; exact ⟨e, F, vr, by rw [hx]; exact w⟩
  | ok x =>
    rw [hx] at w
    have w0 : Wp W cl (if mtOk .count x then (ra e >>= fun y => mtS .count x [y]) else .bad) σ F H fun d F' H' => ∀ v, Rp X.K F' v d → Q v H' := w
    cases x with
    | lst ds =>
      have w1 : Wp W cl (ra e >>= fun y => mtS .count (.lst ds) [y]) σ F H fun d F' H' => ∀ v, Rp X.K F' v d → Q v H' := w0
      refine ⟨e, F, vr, ?_⟩
      rw [hx]
      intro F1 H1 x1 vx G sg rx
      cases rx with
      | lst eb r =>
        refine ⟨.inl ⟨rfl, _, SqL.of (sg.lst eb)⟩, e, F1, vr.mono x1, ((w1.step x1).bind).mono fun y F2 H2 x2 w2 vy ry => ?_⟩
        simp only [mtS] at w2
        split at w2
        · rename_i hk
          rw [Bool.and_eq_true] at hk
          have sg2 := sg.same x2.same
          have dl := (Rp.lst eb r).dp (K := X.K) sg2 5 (by rw [okd]; exact hk.2)
          rw [toPy] at dl
          have sh := okd_shaped (n := 5) (d := .lst ds) (by decide) (by rw [okd]; exact hk.2)
          rw [toPy] at sh
          refine ⟨vy, toPy y, toPys ds, rfl, dl, ry.dp x2.sub 4 hk.1, sh, okd_shaped (by decide) hk.1, ?_⟩
          rw [count_py 4 hk.1 ds hk.2]
          exact w2.now x2.sub _ (.int _)
        · exact w2.elim
    | _ => exact w0.elim
theorem ce_split (hb : noCall o = true) (hl : (ap.endLine == cp.line) = true) (hs : starEach [a] X.env = (false, eval a X.env) :: starEach [] X.env) (ho : PE X o (tW X.K W cl ro)) (ha : PE X a (tE X.K W cl ra)) :
    PE X (.Call (.Attribute o "split" ap) [a] [] cp) (tE X.K W cl fun e => do let x ← ro e; if mtOk .split x then do let y ← ra e; mtS .split x [y] else .bad) := by
  refine PE.imp (pe_bm PySem.F.plainAttrs_str PySem.F.slot_str_split PySem.F.type_str_split mt_split ho (pa_cons ha pa_nil hs) (base_of hb) (few1 hs) hl hs rfl) fun σ H Q _ q => ?_
  obtain ⟨e, F, vr, w⟩ := q
  dsimp only at w
  cases hx : ro e with
  | bad => rw [hx] at w; exact w.elim
  | exc c => rw [hx] at w; exact ⟨e, F, vr, by rw [hx]; exact w⟩
  | ok x =>
    rw [hx] at w
    have w0 : Wp W cl (if mtOk .split x then (ra e >>= fun y => mtS .split x [y]) else .bad) σ F H fun d F' H' => ∀ v, Rp X.K F' v d → Q v H' := w
    cases x with
    | str z =>
      have w1 : Wp W cl (ra e >>= fun y => mtS .split (.str z) [y]) σ F H fun d F' H' => ∀ v, Rp X.K F' v d → Q v H' := w0
      refine ⟨e, F, vr, ?_⟩
      rw [hx]
      intro F1 H1 x1 vx G sg rx
      cases rx
      refine ⟨rfl, e, F1, vr.mono x1, ((w1.step x1).bind).mono fun y F2 H2 x2 w2 vy ry => ?_⟩
      cases y <;> simp only [mtS] at w2 <;> try exact w2.elim
      rename_i b
      cases ry
      split at w2
      · rename_i hk
        exact ⟨z, b, rfl, rfl, hk.1, hk.2, fun p hp => w2 _ _ (Ext.laid (.lst ((Txt.split z b).map V.str)) x2.sub hp) _ (.lst upd_same (rps_strs _))⟩
      · exact w2.elim
    | _ => exact w0.elim
theorem ce_join (hb : noCall o = true) (hl : (ap.endLine == cp.line) = true) (hs : starEach [a] X.env = (false, eval a X.env) :: starEach [] X.env) (ho : PE X o (tW X.K W cl ro)) (ha : PE X a (tE X.K W cl ra)) :
    PE X (.Call (.Attribute o "join" ap) [a] [] cp) (tE X.K W cl fun e => do let x ← ro e; if mtOk .join x then do let y ← ra e; mtS .join x [y] else .bad) := by
  refine PE.imp (pe_bm PySem.F.plainAttrs_str PySem.F.slot_str_join PySem.F.type_str_join mt_join ho (pa_cons ha pa_nil hs) (base_of hb) (few1 hs) hl hs rfl) fun σ H Q _ q => ?_
  obtain ⟨e, F, vr, w⟩ := q
  dsimp only at w
  cases hx : ro e with
  | bad => rw [hx] at w; exact w.elim
  | exc c => rw [hx] at w; exact ⟨e, F, vr, by rw [hx]; exact w⟩
  | ok x =>
    rw [hx] at w
    have w0 : Wp W cl (if mtOk .join x then (ra e >>= fun y => mtS .join x [y]) else .bad) σ F H fun d F' H' => ∀ v, Rp X.K F' v d → Q v H' := w
    cases x with
    | str z =>
      have w1 : Wp W cl (ra e >>= fun y => mtS .join (.str z) [y]) σ F H fun d F' H' => ∀ v, Rp X.K F' v d → Q v H' := w0
      refine ⟨e, F, vr, ?_⟩
      rw [hx]
      intro F1 H1 x1 vx G sg rx
      cases rx
      refine ⟨rfl, e, F1, vr.mono x1, ((w1.step x1).bind).mono fun y F2 H2 x2 w2 vy ry => ?_⟩
      cases ry with
      | lst ea r =>
        simp only [mtS] at w2
        split at w2
        · rename_i ys hy
          split at w2
          · rename_i hk
            have := strs_rps r hy
            subst this
            exact ⟨z, _, ys, rfl, rfl, .inl (SqL.of (x2.sub.lst ea)), hk, w2.now x2.sub _ (.str _)⟩
          · exact w2.elim
        · exact w2.elim
      | _ => simp only [mtS] at w2; exact w2.elim
    | _ => exact w0.elim
end
end Pan
namespace Pan
open PySem PySem.Spec L2
open PyProof.Rows hiding St
variable [TabsIn]
theorem lx_irr : ∀ a : List Int, HT.lexLt a a = false
  | [] => rfl
  | x :: xs => by rw [HT.lexLt_cons, if_pos rfl]; exact lx_irr xs
theorem lx_asym : ∀ a b : List Int, HT.lexLt a b = true → HT.lexLt b a = false
  | [], [], h => by cases h
  | [], _ :: _, _ => rfl
  | _ :: _, [], h => by cases h
  | x :: xs, y :: ys, h => by
    rw [HT.lexLt_cons] at h ⊢
    by_cases e : x = y
    · rw [if_pos e] at h; rw [if_pos e.symm]; exact lx_asym xs ys h
    · rw [if_neg e] at h; rw [if_neg (fun z => e z.symm)]
      have := of_decide_eq_true h
      exact decide_eq_false (by omega)
theorem lx_tr : ∀ a b c : List Int, HT.lexLt b a = false → HT.lexLt c b = false → HT.lexLt c a = false
  | a, b, [], h1, h2 => by
    cases a with
    | nil => rfl
    | cons x xs =>
      cases b with
      | nil => cases h1
      | cons y ys => cases h2
  | [], b, z :: zs, h1, h2 => rfl
  | x :: xs, [], z :: zs, h1, h2 => by cases h1
  | x :: xs, y :: ys, z :: zs, h1, h2 => by
    rw [HT.lexLt_cons] at h1 h2 ⊢
    by_cases e1 : y = x
    · rw [if_pos e1] at h1
      subst e1
      by_cases e2 : z = y
      · rw [if_pos e2] at h2 ⊢
        exact lx_tr xs ys zs h1 h2
      · rw [if_neg e2] at h2 ⊢
        exact h2
    · rw [if_neg e1] at h1
      have i1 := of_decide_eq_false h1
      by_cases e2 : z = y
      · subst e2
        rw [if_neg e1]
        exact h1
      · rw [if_neg e2] at h2
        have i2 := of_decide_eq_false h2
        rw [if_neg (by omega)]
        exact decide_eq_false (by omega)
theorem lx_anti : ∀ a b : List Int, HT.lexLt a b = false → HT.lexLt b a = false → a = b
  | [], [], _, _ => rfl
  | [], _ :: _, h, _ => by cases h
  | _ :: _, [], _, h => by cases h
  | x :: xs, y :: ys, h1, h2 => by
    rw [HT.lexLt_cons] at h1 h2
    by_cases e : x = y
    · subst e
      rw [if_pos rfl] at h1 h2
      rw [lx_anti xs ys h1 h2]
    · rw [if_neg e] at h1
      rw [if_neg (fun z => e z.symm)] at h2
      have := of_decide_eq_false h1
      have := of_decide_eq_false h2
      omega
theorem swo_lx {α : Type} (k : α → List Int) : SrtO.Swo fun x y => HT.lexLt (k x) (k y) := ⟨fun x y => lx_asym (k x) (k y), fun x y z => lx_tr (k x) (k y) (k z)⟩
abbrev ltD (d e : D) : Bool := HT.lexLt (kL d) (kL e)
theorem insD_perm (d : D) : ∀ l : List D, (insD d l).Perm (d :: l)
  | [] => .refl _
  | e :: r => by
    unfold insD
    split
    · exact .refl _
    · exact ((insD_perm d r).cons e).trans (.swap ..)
theorem insD_srt (d : D) : ∀ {l : List D}, SrtO.Srtd ltD l → SrtO.Srtd ltD (insD d l)
  | [], _ => List.pairwise_singleton _ _
  | e :: r, h => by
    unfold insD
    have h' := List.pairwise_cons.mp h
    split
    · rename_i q
      refine List.pairwise_cons.mpr ⟨fun x hx => ?_, h⟩
      rcases List.mem_cons.mp hx with rfl | hx
      · exact lx_asym _ _ q
      · exact lx_tr _ _ _ (lx_asym _ _ q) (h'.1 x hx)
    · rename_i q
      refine List.pairwise_cons.mpr ⟨fun x hx => ?_, insD_srt d h'.2⟩
      rcases List.mem_cons.mp ((insD_perm d r).mem_iff.mp hx) with rfl | hx
      · exact Bool.eq_false_iff.mpr q
      · exact h'.1 x hx
theorem sortF_spec : ∀ (l acc : List D), SrtO.Srtd ltD acc → (l.foldl (fun acc d => insD d acc) acc).Perm (acc ++ l) ∧ SrtO.Srtd ltD (l.foldl (fun acc d => insD d acc) acc)
  | [], acc, h => ⟨by rw [List.append_nil]; exact .refl _, h⟩
  | d :: l, acc, h => by
    obtain ⟨p, s⟩ := sortF_spec l (insD d acc) (insD_srt d h)
    refine ⟨p.trans (((insD_perm d acc).append_right l).trans ?_), s⟩
    exact (List.perm_middle (a := d) (l₁ := acc) (l₂ := l)).symm
theorem sortD_perm (l : List D) : (sortD l).Perm l := (sortF_spec l [] List.Pairwise.nil).1
theorem sortD_srt (l : List D) : SrtO.Srtd ltD (sortD l) := (sortF_spec l [] List.Pairwise.nil).2
theorem srt_uniq {α : Type} {lt : α → α → Bool} (O : SrtO.Swo lt) : ∀ {l m : List α}, SrtO.Srtd lt l → SrtO.Srtd lt m → l.Perm m → (∀ x ∈ l, ∀ y ∈ l, lt x y = false → lt y x = false → x = y) → l = m
  | [], m, _, _, h, _ => (List.Perm.eq_nil h.symm).symm
  | x :: l, [], _, _, h, _ => absurd h.length_eq (by simp)
  | x :: l, y :: m, hl, hm, h, inj => by
    have hy := h.mem_iff.mpr (List.mem_cons_self (a := y) (l := m))
    have q1 : lt x y = false := by
      rcases List.mem_cons.mp (h.mem_iff.mp (List.mem_cons_self (a := x) (l := l))) with e | hx
      · rw [e]; exact O.refl y
      · exact SrtO.srtd_head hm x hx
    have q2 : lt y x = false := by
      rcases List.mem_cons.mp hy with e | hy
      · rw [e]; exact O.refl x
      · exact SrtO.srtd_head hl y hy
    have e := inj x List.mem_cons_self y hy q1 q2
    subst e
    rw [srt_uniq O (List.pairwise_cons.mp hl).2 (List.pairwise_cons.mp hm).2 h.cons_inv fun a ha b hb => inj a (List.mem_cons_of_mem _ ha) b (List.mem_cons_of_mem _ hb)]
theorem intsOf_eq : ∀ {xs : List D} {ns : List Int}, intsOf xs = some ns → xs = ns.map .int
  | [], ns, h => by cases h; rfl
  | x :: xs, ns, h => by
    cases x <;> simp only [intsOf] at h <;> try cases h
    cases q : intsOf xs with
    | none => rw [q] at h; cases h
    | some ms => rw [q] at h; cases h; rw [intsOf_eq q]; rfl
theorem intsOf_all : ∀ {xs : List D}, xs.all isIntD = true → ∃ ns, intsOf xs = some ns
  | [], _ => ⟨[], rfl⟩
  | x :: xs, h => by
    rw [List.all_cons, Bool.and_eq_true] at h
    obtain ⟨ns, e⟩ := intsOf_all h.2
    cases x with
    | int i => exact ⟨i :: ns, by simp only [intsOf, e, Option.map_some]⟩
    | _ => exact absurd h.1 Bool.false_ne_true
theorem isTupI_of {d : D} (h : isTupI d = true) : ∃ n ns, d = .tup ((n :: ns).map .int) ∧ kL d = n :: ns := by
  cases d with
  | tup xs =>
    simp only [isTupI, Bool.and_eq_true] at h
    obtain ⟨ns, e⟩ := intsOf_all h.2
    cases ns with
    | nil => rw [intsOf_eq e] at h; exact absurd h.1 (by simp)
    | cons n ns =>
      refine ⟨n, ns, by rw [intsOf_eq e], ?_⟩
      rw [intsOf_eq e]
      have e2 : intsOf ((n :: ns).map D.int) = some (n :: ns) := by rw [← intsOf_eq e]; exact e
      cases ns with
      | nil => simp only [List.map_cons, List.map_nil, kL] at e2 ⊢; rw [e2]; rfl
      | cons m ms => simp only [List.map_cons, kL] at e2 ⊢; rw [e2]; rfl
  | _ => exact absurd h Bool.false_ne_true
theorem isIntD_of {d : D} (h : isIntD d = true) : ∃ n, d = .int n := by
  cases d with
  | int i => exact ⟨_, rfl⟩
  | _ => exact absurd h Bool.false_ne_true
theorem isTupN_of {d : D} (h : isTupN d = true) : ∃ n ns, d = .tup [.int n, .tup (ns.map .int)] ∧ kL d = n :: ns := by
  unfold isTupN at h
  split at h
  · rename_i n xs
    obtain ⟨ns, e⟩ := intsOf_all h
    exact ⟨n, ns, by rw [intsOf_eq e], by simp only [kL, e, Option.getD_some]⟩
  · cases h
/-- things of one kind, by their ranks -/
inductive Rank : D → List Int → Nat → Prop
  | int (n : Int) : Rank (.int n) [n] 0
  | flat (n : Int) (ns : List Int) : Rank (.tup ((n :: ns).map .int)) (n :: ns) 1
  | nest (n : Int) (ns : List Int) : Rank (.tup [.int n, .tup (ns.map .int)]) (n :: ns) 2
theorem sortable_rank {l : List D} (h : sortable l = true) : ∃ m, ∀ x ∈ l, Rank x (kL x) m := by
  unfold sortable at h
  rw [Bool.or_eq_true, Bool.or_eq_true] at h
  rcases h with h | h | h
  · refine ⟨0, fun x hx => ?_⟩
    obtain ⟨n, rfl⟩ := isIntD_of (List.all_eq_true.mp h x hx)
    exact .int n
  · refine ⟨1, fun x hx => ?_⟩
    obtain ⟨n, ns, e, k⟩ := isTupI_of (List.all_eq_true.mp h x hx)
    rw [k, e]
    exact .flat n ns
  · refine ⟨2, fun x hx => ?_⟩
    obtain ⟨n, ns, e, k⟩ := isTupN_of (List.all_eq_true.mp h x hx)
    rw [k, e]
    exact .nest n ns
theorem Rank.inj {x y : D} {k : List Int} {m : Nat} (a : Rank x k m) (b : Rank y k m) : x = y := by
  cases a <;> cases b <;> rfl
theorem kL_inj {l : List D} (h : sortable l = true) {x y : D} (hx : x ∈ l) (hy : y ∈ l) (e : kL x = kL y) : x = y := by
  obtain ⟨m, hm⟩ := sortable_rank h
  have a := hm x hx
  rw [e] at a
  exact a.inj (hm y hy)
/-- a sorted rearrangement is the one that the law knows -/
theorem sortD_uniq {l m : List D} (h : sortable l = true) (p : m.Perm l) (s : SrtO.Srtd ltD m) : m = sortD l :=
  srt_uniq (swo_lx kL) s (sortD_srt l) (p.trans (sortD_perm l).symm) fun x hx y hy q1 q2 => kL_inj h (p.mem_iff.mp hx) (p.mem_iff.mp hy) (lx_anti _ _ q1 q2)
end Pan
namespace Pan
open PySem PySem.Spec L2
open PyProof.Rows hiding St
variable [TabsIn]
section
variable {prog : Program} {w : World} {A : Around} {E : Value → Shared → Prop} {s : Shared}
theorem katI {b : Bool} {Q : Bool → Shared → Prop} : ∀ {ps qs : List Value} {ns ms : List Int} (i : Nat), IntsAre ps ns → IntsAre qs ms → Q (HT.lexLt ns ms) s → PySem.W.KatLex prog w A b (decide (ns.length < ms.length)) Q (ps.zip qs) i s
  | _, _, _, _, i, .nil, .nil, h => PySem.W.kat_nil h
  | _, _, _, _, i, .nil, .cons (ns := ms) m u r, h => by
    rw [List.zip_nil_left]
    refine PySem.W.kat_nil ?_
    have e : decide (([] : List Int).length < (m :: ms).length) = true := decide_eq_true (by simp)
    rw [e]; exact h
  | _, _, _, _, i, .cons (ns := ns) n t r, .nil, h => by
    rw [List.zip_nil_right]
    refine PySem.W.kat_nil ?_
    have e : decide ((n :: ns).length < ([] : List Int).length) = false := decide_eq_false (by simp)
    rw [e]; exact h
  | _, _, _, _, i, .cons (ns := ns) n t r, .cons (ns := ms) m u r', h => by
    rw [List.zip_cons_cons]
    have el : decide ((n :: ns).length < (m :: ms).length) = decide (ns.length < ms.length) := by
      rw [List.length_cons, List.length_cons]
      exact decide_eq_decide.mpr (by omega)
    rw [el]
    rw [HT.lexLt_cons] at h
    refine PySem.W.kat_cons (SeqAt.EqAt.int_int n t m u prog w _ _ ?_)
    refine PySem.W.kat_go (fun e1 => ?_) (fun e1 => ?_)
    · have ex : n = m := by simpa using e1
      rw [if_pos ex] at h
      exact PySem.W.kat_yes (katI (i + 1) r r' h)
    · have ex : ¬ n = m := by simpa using e1
      rw [if_neg ex] at h
      refine PySem.W.kat_no ?_
      cases hb : (b && i == 0) with
      | false => exact PySem.W.kat_one _ _ (PyProof.Rows.lt_int h)
      | true => exact oneLt_int h
/-- a tuple of ints -/
def IsTI (h : Heap) (v : Value) (ns : List Int) : Prop := ∃ (a : Addr) (o : Obj) (xs : List Value) (n : Nat), v = .ref a ∧ h.get? a = some o ∧ o.cls = .type "tuple" ∧ o.data = .seq xs.toArray n ∧ IntsAre xs ns
theorem IsTI.keeps {h h' : Heap} {v : Value} {ns : List Int} (p : IsTI h v ns) (k : ∀ b o, h.get? b = some o → o.cls = .type "tuple" → h'.get? b = some o) : IsTI h' v ns := by
  obtain ⟨a, o, xs, n, e, ho, hc, hd⟩ := p
  exact ⟨a, o, xs, n, e, k _ _ ho hc, hc, hd⟩
theorem cmpTI {vs : List Value} {k : Value → List Int} (hp : ∀ v ∈ vs, IsTI s.heap v (k v)) : SrtO.Cmp prog w A s (tuples' true) (fun p => p.1 ∈ vs) (SrtO.lt2 fun v u => HT.lexLt (k v) (k u)) := by
  intro p q hm hm'
  show wpAny (model prog w) A (keyLt' (tuples' true) p.1 q.1) (fun r s' => s' = s ∧ r = HT.lexLt (k p.1) (k q.1)) (fun _ _ => False) s
  obtain ⟨a, o, xs, n, e, ho, hc, hd, r⟩ := hp _ hm
  obtain ⟨a', o', xs', n', e', ho', hc', hd', r'⟩ := hp _ hm'
  rw [e, e']
  rw [e] at r; rw [e'] at r'
  refine PySem.W.kat_lt ho hd ho' hd' ?_
  have l1 : xs.length = (k (.ref a)).length := r.length
  have l2 : xs'.length = (k (.ref a')).length := r'.length
  rw [List.size_toArray, List.size_toArray, l1, l2]
  exact katI 0 r r' ⟨rfl, rfl⟩
theorem firstsTI {h : Heap} : ∀ {vs : List Value}, (∀ v ∈ vs, ∃ n ns, IsTI h v (n :: ns)) → ∃ fs : List Value, PySem.W.KatTups h vs fs ∧ fs.length = vs.length ∧ ∀ f ∈ fs, ∃ x t, f = Value.int x t
  | [], _ => ⟨[], PySem.W.KatTups.nil, rfl, fun _ hm => by simp at hm⟩
  | v :: vs, hp => by
    obtain ⟨fs, h1, h2, h3⟩ := firstsTI (vs := vs) fun v' hm => hp v' (List.mem_cons_of_mem _ hm)
    obtain ⟨x, ns, a, o, xs, n, e, ho, hc, hd, r⟩ := hp v (List.mem_cons_self ..)
    subst e
    obtain ⟨t, xs', rfl, r2⟩ := r.cons_inv
    refine ⟨.int x t :: fs, PySem.W.KatTups.cons ho hc hd (by simp) h1, by rw [List.length_cons, List.length_cons, h2], fun f hm => ?_⟩
    rcases List.mem_cons.mp hm with rfl | hm
    · exact ⟨x, t, rfl⟩
    · exact h3 f hm
theorem sortableTI {a : Addr} {vs : List Value} {k : Value → List Int} (h0 : 0 < vs.length) (hp : ∀ v ∈ vs, IsTI s.heap v (k v)) (hk : ∀ v ∈ vs, ∃ n ns, k v = n :: ns) (ha : ∀ o, s.heap.get? a = some o → o.cls ≠ .type "tuple") : SrtO.SortableO prog w A s a vs fun v u => HT.lexLt (k v) (k u) := by
  intro h' keep
  have hp' : ∀ v ∈ vs, IsTI h' v (k v) := fun v hm => (hp v hm).keeps fun b o e c => keep b o (fun z => by subst z; exact ha o e c) e
  obtain ⟨fs, h1, h2, h3⟩ := firstsTI fun v hm => by
    obtain ⟨n, ns, e⟩ := hk v hm
    exact ⟨n, ns, e ▸ hp' v hm⟩
  refine ⟨tuples' true, fun Q E hq => ?_, cmpTI hp'⟩
  refine PySem.W.kat_kind (T := .type "int") h1 (by omega) (fun f hm => ?_) (by rfl) ?_
  · obtain ⟨x, t, rfl⟩ := h3 f hm
    exact PySem.W.Looks.now
  · have e : (Value.type "int" != Value.type "tuple") = true := by first | decide +kernel | rfl | decide
    rw [e]
    exact hq
/-- a pair of an int and a tuple of ints -/
def IsTN (h : Heap) (v : Value) (ns : List Int) : Prop := ∃ (a : Addr) (o : Obj) (x : Int) (t : Tok) (y : Addr) (n : Nat) (rest : List Int), v = .ref a ∧ h.get? a = some o ∧ o.cls = .type "tuple" ∧ o.data = .seq [Value.int x t, .ref y].toArray n ∧ IsTI h (.ref y) rest ∧ ns = x :: rest
theorem IsTN.keeps {h h' : Heap} {v : Value} {ns : List Int} (p : IsTN h v ns) (k : ∀ b o, h.get? b = some o → o.cls = .type "tuple" → h'.get? b = some o) : IsTN h' v ns := by
  obtain ⟨a, o, x, t, y, n, rest, e, ho, hc, hd, hy, hn⟩ := p
  exact ⟨a, o, x, t, y, n, rest, e, k _ _ ho hc, hc, hd, hy.keeps k, hn⟩
theorem IsTI.key {P : Program} {w : World} {h : Heap} {y : Addr} {ns : List Int} (p : IsTI h (.ref y) ns) : IsTupleKey (intKind P w) h ns y := by
  obtain ⟨a, o, xs, n, e, ho, hc, hd, r⟩ := p
  cases e
  refine ⟨o, xs.toArray, n, ho, hc, hd, ?_⟩
  have all : ∀ {us : List Value} {ms : List Int}, IntsAre us ms → ItemsAre (intKind P w) ms us := by
    intro us ms q
    induction q with
    | nil => exact .nil
    | cons m tk _ ih => exact .cons (intKind_is P w m tk) ih
  simpa using all r
theorem cmpTN {vs : List Value} {k : Value → List Int} (hu : A.units < cLine) (hp : ∀ v ∈ vs, IsTN s.heap v (k v)) : SrtO.Cmp prog w A s (tuples' true) (fun p => p.1 ∈ vs) (SrtO.lt2 fun v u => HT.lexLt (k v) (k u)) := by
  intro p q hm hm'
  show wpAny (model prog w) A (keyLt' (tuples' true) p.1 q.1) (fun r s' => s' = s ∧ r = HT.lexLt (k p.1) (k q.1)) (fun _ _ => False) s
  obtain ⟨a, o, x, t, y, n, rest, e, ho, hc, hd, hy, hn⟩ := hp _ hm
  obtain ⟨a', o', x', t', y', n', rest', e', ho', hc', hd', hy', hn'⟩ := hp _ hm'
  rw [hn, hn', e, e']
  refine PySem.W.kat_lt ho hd ho' hd' ?_
  show PySem.W.KatLex prog w A true _ _ [(Value.int x t, Value.int x' t'), (.ref y, .ref y')] 0 s
  rw [HT.lexLt_cons]
  refine PySem.W.kat_cons (SeqAt.EqAt.int_int x t x' t' prog w _ _ ?_)
  refine PySem.W.kat_go (fun e1 => ?_) (fun e1 => ?_)
  · have ex : x = x' := by simpa using e1
    rw [if_pos ex]
    refine PySem.W.kat_yes (PySem.W.kat_cons (wpAny_eqBool_tuple hu (IsTI.key (P := prog) (w := w) hy) (IsTI.key (P := prog) (w := w) hy') ?_))
    refine PySem.W.kat_go (fun e2 => ?_) (fun e2 => ?_)
    · have ey : rest = rest' := of_decide_eq_true e2
      subst ey
      refine PySem.W.kat_yes (PySem.W.kat_nil ⟨rfl, ?_⟩)
      rw [lx_irr]
      rfl
    · refine PySem.W.kat_no (PySem.W.kat_one _ _ ?_)
      obtain ⟨b, ob, xs, m, eb, hb, hcb, hdb, rb⟩ := hy
      obtain ⟨b', ob', xs', m', eb', hb', hcb', hdb', rb'⟩ := hy'
      cases eb
      cases eb'
      exact HT.lt_tupInts ⟨ob, hb, hcb, m, hdb⟩ ⟨ob', hb', hcb', m', hdb'⟩ (by simpa using rb) (by simpa using rb') hu ⟨rfl, rfl⟩
  · have ex : ¬ x = x' := by simpa using e1
    rw [if_neg ex]
    exact PySem.W.kat_no (oneLt_int ⟨rfl, rfl⟩)
theorem firstsTN {h : Heap} : ∀ {vs : List Value}, (∀ v ∈ vs, ∃ ns, IsTN h v ns) → ∃ fs : List Value, PySem.W.KatTups h vs fs ∧ fs.length = vs.length ∧ ∀ f ∈ fs, ∃ x t, f = Value.int x t
  | [], _ => ⟨[], PySem.W.KatTups.nil, rfl, fun _ hm => by simp at hm⟩
  | v :: vs, hp => by
    obtain ⟨fs, h1, h2, h3⟩ := firstsTN (vs := vs) fun v' hm => hp v' (List.mem_cons_of_mem _ hm)
    obtain ⟨_, a, o, x, t, y, n, rest, e, ho, hc, hd, hy, hn⟩ := hp v (List.mem_cons_self ..)
    subst e
    refine ⟨.int x t :: fs, PySem.W.KatTups.cons ho hc hd (by simp) h1, by rw [List.length_cons, List.length_cons, h2], fun f hm => ?_⟩
    rcases List.mem_cons.mp hm with rfl | hm
    · exact ⟨x, t, rfl⟩
    · exact h3 f hm
theorem sortableTN {a : Addr} {vs : List Value} {k : Value → List Int} (hu : A.units < cLine) (h0 : 0 < vs.length) (hp : ∀ v ∈ vs, IsTN s.heap v (k v)) (ha : ∀ o, s.heap.get? a = some o → o.cls ≠ .type "tuple") : SrtO.SortableO prog w A s a vs fun v u => HT.lexLt (k v) (k u) := by
  intro h' keep
  have hp' : ∀ v ∈ vs, IsTN h' v (k v) := fun v hm => (hp v hm).keeps fun b o e c => keep b o (fun z => by subst z; exact ha o e c) e
  obtain ⟨fs, h1, h2, h3⟩ := firstsTN fun v hm => ⟨_, hp' v hm⟩
  refine ⟨tuples' true, fun Q E hq => ?_, cmpTN hu hp'⟩
  refine PySem.W.kat_kind (T := .type "int") h1 (by omega) (fun f hm => ?_) (by rfl) ?_
  · obtain ⟨x, t, rfl⟩ := h3 f hm
    exact PySem.W.Looks.now
  · have e : (Value.type "int" != Value.type "tuple") = true := by first | decide +kernel | rfl | decide
    rw [e]
    exact hq
/-- sorted of what can be collected -/
theorem sorted_any {r : Value} {ok : List Value → Prop} {ltv : Value → Value → Bool} {Q : Value → Shared → Prop} (O : SrtO.Swo ltv)
    (hcol : ∀ Q' : List Value → Shared → Prop, (∀ s' vs, (∀ b o, s.heap.get? b = some o → s'.heap.get? b = some o) → s.heap.objs.size ≤ s'.heap.objs.size → s'.gens = s.gens → s'.os = s.os → ok vs → Q' vs s') → wpAny (model prog w) A.in1 (collect r) Q' E s)
    (hz : ∀ vs, ok vs → vs.length ≤ sizeLine)
    (hS : ∀ vs, ok vs → 2 ≤ vs.length → ∀ (s₁ : Shared) (a : Addr), s₁.heap.get? a = some (seqObj "list" vs.toArray 0) → (∀ b o, s.heap.get? b = some o → b ≠ a ∧ s₁.heap.get? b = some o) → SrtO.SortableO prog w A.in1.in1 s₁ a vs ltv)
    (h : ∀ (s' : Shared) (d : Addr) (vs out : List Value), ok vs → SrtO.Srtd ltv out → SrtO.Stb ltv out vs → (∀ b o, s.heap.get? b = some o → s'.heap.get? b = some o) → s.heap.objs.size ≤ d → s'.gens = s.gens → s'.os = s.os → (∃ n, s'.heap.get? d = some (seqObj "list" out.toArray n)) → Q (.ref d) s') :
    wpAny (model prog w) A (call (.builtin "sorted") [r]) Q E s := by
  refine Calls.call_function_entry kind_sorted plain_sorted entry_sorted (args_sorted1 _) ?_
  unfold Builtin.«sorted»
  refine wpAny_bind (m := checkCount "sorted" 1 1 _) (wpAny_pure ?_)
  refine wpAny_bind (hcol _ fun s1 vs kp hsz hg hos hok => ?_)
  have hzz := hz vs hok
  refine wpAny_bind (wpAny_newList ?_ hzz)
  have hoL : (s1.heap.push (seqObj "list" vs.toArray 0)).get? s1.heap.objs.size = some (seqObj "list" vs.toArray 0) := Heap.get?_push_size _ rfl
  have keep : ∀ b o, s.heap.get? b = some o → b ≠ s1.heap.objs.size ∧ (s1.heap.push (seqObj "list" vs.toArray 0)).get? b = some o := fun b o q =>
    ⟨Nat.ne_of_lt (Heap.lt_size (kp b o q)), Heap.get?_push_of_some _ (kp b o q)⟩
  show wpAny _ _ _ _ _ { s1 with heap := s1.heap.push (seqObj "list" vs.toArray 0) }
  refine wpAny_bind (wpAny_holding (wpAny_call_entry slot_list_sort ⟨_, hoL, rfl⟩ entry_list_sort (SrtO.list_sort_ord O hoL hzz (fun h2 => hS vs hok h2 { s1 with heap := s1.heap.push (seqObj "list" vs.toArray 0) } _ hoL keep) fun out hs hb => ⟨_, rfl, ?_⟩) (args_list_sort _)))
  refine wpAny_pure ⟨_, rfl, ?_⟩
  obtain ⟨ep, he'⟩ := PyProof.Rows.sortedHeap_at (vs := vs) (out := out.toArray) hoL
  refine h { s1 with heap := PyProof.Rows.sortedHeap (s1.heap.push (seqObj "list" vs.toArray 0)) s1.heap.objs.size vs out.toArray } _ vs out hok hs hb (fun b o q => ?_) hsz hg hos ⟨_, he'⟩
  obtain ⟨q1, q2⟩ := keep b o q
  exact (PyProof.Rows.sortedHeap_old q1 (Heap.lt_size q2)).trans q2
/-- collect, of what a list can be extended by -/
theorem collect_of {r : Value} {ok : List Value → Prop} {Q : List Value → Shared → Prop}
    (hx : ∀ R : Result → Shared → Prop, (∀ h' tk acc c, (∀ b o, s.heap.get? b = some o → h'.get? b = some o) → h'.get? s.heap.objs.size = some { cls := .type "list", dict := none, data := .seq acc c, slots := #[] } → ok acc.toList → R (.ok (.ret (.ref s.heap.objs.size))) { s with heap := h', toks := tk }) →
      wpAny (model prog w) A.in1 (Builtin.List.listExtendWith (.ref s.heap.objs.size) r (.ref s.heap.objs.size)) (fun fin s' => match fin with | .done f => R (.ok f) s' | .again c' => c'.quiet = true ∧ codeAny (model prog w) A c' R s') (fun e s' => R (.error e) s') { s with heap := s.heap.push { cls := .type "list", data := .seq ([] : List Value).toArray } })
    (h : ∀ h' tk vs, (∀ b o, s.heap.get? b = some o → h'.get? b = some o) → s.heap.objs.size ≤ h'.objs.size → ok vs → Q vs { s with heap := h', toks := tk }) : wpAny (model prog w) A (collect r) Q E s := by
  unfold collect
  refine wpAny_bind (wpAny_runValue (codeAny_builtin entry_proto_collect' ?_))
  rw [Around.under_plainId PySem.F.plain_proto_collect _]
  show wpAny _ A.in1 (newList [] >>= fun l => again (.builtin "list.__iadd__" ⟨[l, r], []⟩)) _ _ s
  refine wpAny_bind (wpAny_newObj_type ?_)
  refine wpAny_pure ⟨plainId_quiet PySem.F.plain_list_iadd _, codeAny_builtin entry_list_iadd' ?_⟩
  rw [Around.under_plainId PySem.F.plain_list_iadd _]
  have key := hx (fun (q : Result) (s' : Shared) => ∃ (h' : Heap) (tk : Nat) (acc : Array Value) (c : Nat), q = .ok (.ret (.ref s.heap.objs.size)) ∧ s' = { s with heap := h', toks := tk } ∧
      (∀ b o, s.heap.get? b = some o → h'.get? b = some o) ∧ h'.get? s.heap.objs.size = some { cls := .type "list", dict := none, data := .seq acc c, slots := #[] } ∧ ok acc.toList)
    fun h' tk acc c k e o => ⟨h', tk, acc, c, rfl, rfl, k, e, o⟩
  refine wpAny_mono key (fun fin s' x => ?_) fun e s' x => ?_
  · cases fin with
    | done f =>
      obtain ⟨h', tk, acc, c, e, rfl, hk, hS, hacc⟩ := x
      cases e
      show wpAny _ A (load s.heap.objs.size >>= _) _ _ _
      exact wpAny_bind (wpAny_load hS (wpAny_pure (h h' tk _ hk (Nat.le_of_lt (Heap.lt_size hS)) hacc)))
    | again c₁ =>
      refine ⟨x.1, codeAny_mono x.2 fun q s₂ y => ?_⟩
      obtain ⟨h', tk, acc, c, rfl, rfl, hk, hS, hacc⟩ := y
      show wpAny _ A (load s.heap.objs.size >>= _) _ _ _
      exact wpAny_bind (wpAny_load hS (wpAny_pure (h h' tk _ hk (Nat.le_of_lt (Heap.lt_size hS)) hacc)))
  · obtain ⟨_, _, _, _, e', _⟩ := x
    cases e'
theorem push_list_at (h : Heap) : (h.push { cls := .type "list", data := .seq ([] : List Value).toArray }).get? h.objs.size = some { cls := .type "list", data := .seq #[] 0 } := Heap.get?_push_size _ rfl
theorem collect_sq {it : Addr} {T : String} {o : Obj} {vs : List Value} {n : Nat} (hT : T = "list" ∨ T = "tuple") (ho : s.heap.get? it = some o) (hc : o.cls = .type T) (hd : o.data = .seq vs.toArray n) (hz : vs.length ≤ sizeLine) (Q : List Value → Shared → Prop)
    (h : ∀ h' tk us, (∀ b o, s.heap.get? b = some o → h'.get? b = some o) → s.heap.objs.size ≤ h'.objs.size → us = vs → Q us { s with heap := h', toks := tk }) : wpAny (model prog w) A (collect (.ref it)) Q E s := by
  refine collect_of (ok := fun us => us = vs) (fun R hR => ?_) h
  refine wpAny_extend_seq (s := { s with heap := s.heap.push { cls := .type "list", data := .seq ([] : List Value).toArray } }) _ it _ 0 hT (push_list_at s.heap) (Heap.get?_push_of_some _ ho) hc hd ?_ (by rw [List.size_toArray]; exact hz)
  have q := Heap.get?_update_self (Obj.mapSeq (· ++ vs.toArray)) (push_list_at s.heap) rfl
  refine hR _ s.toks _ _ (fun b u e => ?_) q (by simp)
  exact (Heap.get?_update_other _ _ (Nat.ne_of_gt (Heap.lt_size e))).trans (Heap.get?_push_of_some _ e)
theorem collect_kdl {T : String} {r d : Addr} {n : Nat} {P : Nat → Value → Prop} {OK : Heap → Prop} (K : PySem.W.KdlSrc prog w T r d n P OK) (hh : A.handled = none) (hok : OK s.heap) (hn : n ≤ sizeLine) (Q : List Value → Shared → Prop)
    (h : ∀ h' tk us, (∀ b o, s.heap.get? b = some o → h'.get? b = some o) → s.heap.objs.size ≤ h'.objs.size → (us.length = n ∧ ∀ j v, us[j]? = some v → P j v) → Q us { s with heap := h', toks := tk }) : wpAny (model prog w) A (collect (.ref r)) Q E s := by
  refine collect_of (ok := fun us => us.length = n ∧ ∀ j v, us[j]? = some v → P j v) (fun R hR => ?_) h
  have hlt := K.there _ hok
  refine PySem.W.kdl_extend (A := A) (s := { s with heap := s.heap.push { cls := .type "list", data := .seq ([] : List Value).toArray } }) K hh (K.keep _ _ hok fun b _ o e => Heap.get?_push_of_some _ e) s.heap.objs.size (Nat.ne_of_gt hlt.1) (Nat.ne_of_gt hlt.2) _ 0 (push_list_at s.heap) (fun h' tk acc c kp e it => ?_) hn
  refine hR h' tk acc c (fun b o q => kp b o (Nat.ne_of_lt (Heap.lt_size q)) (Heap.get?_push_of_some _ q)) e ⟨?_, fun j v q => it.2 j v (by rw [← Array.getElem?_toList]; exact q)⟩
  rw [Array.length_toList]; exact it.1
end
/-- a set: its members in some turn -/
def SetHas (w : World) (a : Addr) (xs : List V) (h : Heap) : Prop := ∃ es ep t, SetAt h a es ep t ∧ (∀ o, h.get? a = some o → o.ExactSet) ∧ t.fits es.size = true ∧ es.size < scanBound ∧ Ris t.place.toList ∧ (w.params.followText "set-order" = true ∨ t.led = true) ∧ Vals xs (es.toList.map (·.2))
def sO (w : World) (a : Addr) (xs : List V) : HO := .ext (SetHas w a xs)
theorem sO_ok {P : Program} {w w' : World} {H : Hp} {h : Heap} {a : Addr} {xs : List V} (q : SetHas w' a xs h) : ObjOk P w H h a (sO w' a xs) := by
  refine ⟨q, ?_, fun h1 h2 p kp => ?_⟩
  · obtain ⟨_, _, _, ⟨o, e, _⟩, _⟩ := q
    exact ⟨o, e⟩
  · obtain ⟨es, ep, t, ⟨o, e, c⟩, ex, r⟩ := p
    refine ⟨es, ep, t, ⟨o, kp o e, c⟩, fun o' e' => ?_, r⟩
    rw [kp o e] at e'
    cases e'
    exact ex o e
/-- what can be sorted: a list, a tuple, a dict by its keys, a set; xs its items in some turn -/
def Src (K : PySem.W.Frag) (w : World) (H : Hp) (a : Addr) (xs : List V) : Prop := SqL K H a xs ∨ SqT K H a xs ∨ (∃ rows, Rd H a (dO a rows) ∧ xs = rows.map fun r => V.ref r.2.1) ∨ (∃ kvs : List (Key × V), Rd H a (.dK kvs) ∧ xs = kvs.map fun r => kV r.1) ∨ H a = some (sO w a xs)
theorem vals_refs' : ∀ l : List Addr, Vals (l.map V.ref) (l.map Value.ref)
  | [] => .nil
  | _ :: l => .cons rfl (vals_refs' l)
theorem key_vals {P : Program} {w : World} {kvs : List (Key × V)} {vs : List (Key × Value)} (r : KV kvs vs) : ∀ {es : List DictEntry}, Pairs (mixKind P w) es vs → Vals (kvs.map fun x => kV x.1) (es.map (·.key)) := by
  unfold KV at r
  induction r with
  | nil => intro es p; cases p; exact .nil
  | @cons p q ps qs h t ih =>
    intro es pr
    cases pr with
    | cons h1 h2 h3 =>
      refine .cons ?_ (ih h3)
      rw [← h.1] at h1
      rcases keyIs_shape h1 with ⟨i, t, e1, e2⟩ | ⟨i, t, e1, e2⟩
      · show RelV (kV p.1) (DictEntry.key _)
        rw [e1, e2]
        exact ⟨t, rfl⟩
      · show RelV (kV p.1) (DictEntry.key _)
        rw [e1, e2]
        exact ⟨t, rfl⟩
section
variable {X : Cx} {pins : List (Addr × Obj)} {s : Shared} {σ : L2.St} {H : Hp} {a : Addr}
/-- a dict's keys, gathered -/
theorem collect_keys (hc : X.calm = true) (I : Inv X pins σ H s) {o : Obj} {es : Array DictEntry} {ep : Nat} (lo : (a == sysModules) = false) (ho : s.heap.get? a = some o) (hx : o.ExactDict) (hdt : o.data = .dict es ep) (hz : es.size ≤ sizeLine) (Q : List Value → Shared → Prop)
    (hQ : ∀ s' us, (∀ b o, s.heap.get? b = some o → s'.heap.get? b = some o) → s.heap.objs.size ≤ s'.heap.objs.size → s'.gens = s.gens → s'.os = s.os → us = es.toList.map (·.key) → Q us s') : wpAny (model X.prog X.w) X.A.in1 (collect (.ref a)) Q X.xe s := by
  refine collect_kdl (A := X.A.in1) (kdl_raw lo hx hdt) (I.ok.hd hc) ho hz Q fun h' tk us kp hsz ok => hQ { s with heap := h', toks := tk } us kp hsz rfl rfl ?_
  apply List.ext_getElem?
  intro j
  rw [List.getElem?_map]
  cases hj : us[j]? with
  | none =>
    have h1 := List.getElem?_eq_none_iff.mp hj
    rw [List.getElem?_eq_none (by rw [Array.length_toList]; omega)]
    rfl
  | some v =>
    obtain ⟨en, hen, hv⟩ := ok.2 j v hj
    rw [Array.getElem?_toList, hen, hv]
    rfl
theorem src_in (hc : X.calm = true) (I : Inv X pins σ H s) {xs : List V} (h : Src X.K X.w H a xs) : ∃ its, Vals xs its ∧ xs.length ≤ sizeLine ∧
    ∀ Q : List Value → Shared → Prop, (∀ s' us, (∀ b o, s.heap.get? b = some o → s'.heap.get? b = some o) → s.heap.objs.size ≤ s'.heap.objs.size → s'.gens = s.gens → s'.os = s.os → us.Perm its → Q us s') → wpAny (model X.prog X.w) X.A.in1 (collect (.ref a)) Q X.xe s := by
  rcases h with h | h | ⟨rows, h, rfl⟩ | ⟨kvs, h, rfl⟩ | h
  · obtain ⟨its, rv, hl, hz⟩ := I.list h
    obtain ⟨o, ho, hcl, n, hd⟩ := hl.isList
    exact ⟨its, rv, hz, fun Q hQ => collect_sq (.inl rfl) ho hcl hd (by rw [← rv.length]; exact hz) Q fun h' tk us kp hsz e => hQ { s with heap := h', toks := tk } us kp hsz rfl rfl (e ▸ .refl _)⟩
  · obtain ⟨its, rv, ⟨o, ho, hcl, n, hd⟩, hz⟩ := I.tuple h
    exact ⟨its, rv, hz, fun Q hQ => collect_sq (.inr rfl) ho hcl hd (by rw [← rv.length]; exact hz) Q fun h' tk us kp hsz e => hQ { s with heap := h', toks := tk } us kp hsz rfl rfl (e ▸ .refl _)⟩
  · obtain ⟨z, hs, ks, pr, o, es, ep, ho, hx, hdt, he, hn⟩ := (show ObjOk X.prog X.w H s.heap a (dO a rows) from rd_of I.hok h).1
    have l1 : es.size = ks.length := by
      have := congrArg List.length he
      rw [Array.length_toList, List.length_map] at this
      exact this
    have l2 : rows.length = ks.length := Paired.length pr
    have ek : es.toList.map (·.key) = (rows.map fun r => r.2.1).map Value.ref := by
      rw [he, List.map_map]
      clear he l1 l2 hn h z
      induction pr with
      | nil => rfl
      | @cons p q ps qs hq t ih =>
        rw [List.map_cons, ih, List.map_cons, List.map_cons, hq.2.1]
        rfl
    refine ⟨(rows.map fun r => r.2.1).map Value.ref, by
        have := vals_refs' (rows.map fun r => r.2.1)
        rw [List.map_map] at this
        exact this, by rw [List.length_map]; exact z, fun Q hQ => collect_keys hc I hs ho hx hdt (by omega) Q fun s' us k1 k2 k3 k4 e => hQ s' us k1 k2 k3 k4 ?_⟩
    rw [e, ek]
  · obtain ⟨z, hs, vs, kv, o, es, ep, ho, hx, hdt, _, pr, _⟩ := dk_rd I.hok h
    have kvl := key_vals kv pr
    have l1 : kvs.length = es.size := by
      have := kvl.length
      simpa using this
    exact ⟨_, kvl, by rw [List.length_map]; exact z, fun Q hQ => collect_keys hc I hs ho hx hdt (by omega) Q fun s' us k1 k2 k3 k4 e => hQ s' us k1 k2 k3 k4 (e ▸ .refl _)⟩
  · obtain ⟨es, ep, t, ha, _, hf, hsz, hr, hl, rv⟩ := (show ObjOk X.prog X.w H s.heap a (sO X.w a xs) from I.hok a _ h).1
    have l1 : xs.length = es.size := by
      have := rv.length
      simpa using this
    have e1 : scanBound = 4096 := rfl
    exact ⟨_, rv, by rw [l1, sizeLine_eq]; omega, fun Q hQ => collect_set (A := X.A.in1) (I.ok.hd hc) ha hf hsz hr hl fun s' out k1 k2 k3 k4 e => hQ s' out k1 k2 k3 k4 e⟩
/-- the items: ints, tuples of ints, or pairs of an int and such a tuple; k their ranks -/
def Its (K : PySem.W.Frag) (H : Hp) (k : V → List Int) (xs : List V) : Prop := (∀ x ∈ xs, ∃ i, x = V.int i ∧ k x = [i]) ∨ (∀ x ∈ xs, ∃ t n ns, x = V.ref t ∧ k x = n :: ns ∧ SqT K H t ((n :: ns).map V.int)) ∨
  ∀ x ∈ xs, ∃ t u n ns, x = V.ref t ∧ k x = n :: ns ∧ SqT K H t [.int n, .ref u] ∧ SqT K H u (ns.map V.int)
abbrev ltV (k : V → List Int) (x y : V) : Bool := HT.lexLt (k x) (k y)
def rSortX (K : PySem.W.Frag) (w : World) : List V → Hp → VK → Prop := fun vs H Q => ∃ a xs k, vs = [V.ref a] ∧ Src K w H a xs ∧ Its K H k xs ∧ ∀ ys p, ys.Perm xs → SrtO.Srtd (ltV k) ys → H p = none → Q (.ref p) (upd H p (.lst ys))
def backI : Value → V
  | .int i _ => .int i
  | .ref a => .ref a
  | _ => .non
theorem back_of : ∀ {xs : List V} {us : List Value}, Vals xs us → (∀ x ∈ xs, (∃ i, x = V.int i) ∨ ∃ t, x = V.ref t) → xs = us.map backI ∧ ∀ u ∈ us, RelV (backI u) u
  | _, _, .nil, _ => ⟨rfl, fun u hu => absurd hu (by simp)⟩
  | x :: xs, u :: us, .cons r t, h => by
    obtain ⟨e1, e2⟩ := back_of t fun y hy => h y (List.mem_cons_of_mem _ hy)
    have : x = backI u ∧ RelV (backI u) u := by
      rcases h x List.mem_cons_self with ⟨i, rfl⟩ | ⟨a, rfl⟩
      · obtain ⟨tk, rfl⟩ := r
        exact ⟨rfl, tk, rfl⟩
      · obtain rfl := r
        exact ⟨rfl, rfl⟩
    refine ⟨by rw [List.map_cons, ← e1, ← this.1], fun v hv => ?_⟩
    rcases List.mem_cons.mp hv with rfl | hv
    · exact this.2
    · exact e2 v hv
theorem vals_backI : ∀ {us : List Value}, (∀ u ∈ us, RelV (backI u) u) → Vals (us.map backI) us
  | [], _ => .nil
  | u :: us, h => .cons (h u List.mem_cons_self) (vals_backI fun v hv => h v (List.mem_cons_of_mem _ hv))
theorem tupTI (I : Inv X pins σ H s) {h' : Heap} {t : Addr} {ns : List Int} (ht : SqT X.K H t (ns.map V.int)) (kp : ∀ b o, s.heap.get? b = some o → h'.get? b = some o) : IsTI h' (.ref t) ns := by
  obtain ⟨its2, r2, ⟨o, ho, hcl, m, hdd⟩, _⟩ := I.tuple ht
  exact ⟨t, o, its2, m, rfl, kp _ _ ho, hcl, hdd, r2.ints⟩
theorem cr_sortX (hc : X.calm = true) (hu : X.A.units + 2 < cLine) : CallR X (.builtin "sorted") (rSortX X.K X.w) := by
  intro pins s σ H vs us Q I r h
  obtain ⟨a, xs, k, rfl, src, hk, q⟩ := h
  obtain ⟨u, rfl, ru⟩ := vals1 r
  obtain rfl : u = Value.ref a := ru
  obtain ⟨its, rv, hz, col⟩ := src_in hc I src
  have hb : xs = its.map backI ∧ ∀ u ∈ its, RelV (backI u) u := by
    refine back_of rv fun x hx => ?_
    rcases hk with hk | hk | hk
    · obtain ⟨i, e, _⟩ := hk x hx; exact .inl ⟨i, e⟩
    · obtain ⟨t, _, _, e, _⟩ := hk x hx; exact .inr ⟨t, e⟩
    · obtain ⟨t, _, _, _, e, _⟩ := hk x hx; exact .inr ⟨t, e⟩
  obtain ⟨e1, e2⟩ := hb
  have mem : ∀ v ∈ its, backI v ∈ xs := fun v hv => by rw [e1]; exact List.mem_map.mpr ⟨v, hv, rfl⟩
  refine sorted_any (ok := fun vs => vs.Perm its) (swo_lx fun u => k (backI u)) col (fun vs e => by rw [e.length_eq, ← rv.length]; exact hz) (fun vs e h2 s₁ b hb kp => ?_) fun s' d vs out e hs hst kp hd hg hos hn => ?_
  · have mem' : ∀ v ∈ vs, v ∈ its := fun v hv => e.mem_iff.mp hv
    have hna : ∀ o, s₁.heap.get? b = some o → o.cls ≠ .type "tuple" := fun o e => by
      have e' : some o = some (seqObj "list" vs.toArray 0) := e.symm.trans hb
      cases e'
      exact fun c => absurd (Value.type.inj c) (by decide)
    rcases hk with hk | hk | hk
    · have hi : IntsAre vs (vs.map SrtO.iv) := SrtO.ints_iv fun v hv => by
        obtain ⟨i, e, _⟩ := hk _ (mem v (mem' v hv))
        have := e2 v (mem' v hv)
        rw [e] at this
        obtain ⟨t, rfl⟩ := this
        exact ⟨i, t, rfl⟩
      have := SrtO.ints_sortable (prog := X.prog) (w := X.w) (A := X.A.in1.in1) (s := s₁) (a := b) hi h2
      intro h' kk
      obtain ⟨κ, p1, p2⟩ := this h' kk
      refine ⟨κ, p1, fun p q hp hq => wpAny_mono (p2 p q hp hq) (fun r s' x => ⟨x.1, x.2.trans ?_⟩) fun _ _ e => e⟩
      obtain ⟨i, ei, ki⟩ := hk _ (mem _ (mem' _ hp))
      obtain ⟨j, ej, kj⟩ := hk _ (mem _ (mem' _ hq))
      have r1 := e2 _ (mem' _ hp)
      have r2 := e2 _ (mem' _ hq)
      rw [ei] at r1; rw [ej] at r2
      show SrtO.ltIv p.1 q.1 = HT.lexLt (k (backI p.1)) (k (backI q.1))
      rw [ki, kj, HT.lexLt_cons]
      obtain ⟨t1, w1⟩ := r1
      obtain ⟨t2, w2⟩ := r2
      rw [w1, w2]
      show decide (i < j) = if i = j then false else decide (i < j)
      split
      · exact decide_eq_false (by omega)
      · rfl
    · refine sortableTI (s := s₁) (k := fun u => k (backI u)) (by omega) (fun v hv => ?_) (fun v hv => ?_) hna
      · obtain ⟨t, n, ns, e, ke, ht⟩ := hk _ (mem v (mem' v hv))
        have rr := e2 v (mem' v hv)
        rw [e] at rr
        obtain rfl : v = Value.ref t := rr
        show IsTI s₁.heap _ (k (backI (.ref t)))
        have ke' : k (backI (.ref t)) = n :: ns := ke
        rw [ke']
        exact tupTI I ht fun b o z => (kp b o z).2
      · obtain ⟨t, n, ns, e, ke, ht⟩ := hk _ (mem v (mem' v hv))
        exact ⟨n, ns, ke⟩
    · refine sortableTN (s := s₁) (k := fun u => k (backI u)) (show X.A.in1.in1.units < cLine from hu) (by omega) (fun v hv => ?_) hna
      obtain ⟨t, y, n, ns, e, ke, ht, hy⟩ := hk _ (mem v (mem' v hv))
      have rr := e2 v (mem' v hv)
      rw [e] at rr
      obtain rfl : v = Value.ref t := rr
      show IsTN s₁.heap _ (k (backI (.ref t)))
      have ke' : k (backI (.ref t)) = n :: ns := ke
      rw [ke']
      obtain ⟨its2, r2, ⟨o, ho, hcl, m, hdd⟩, _⟩ := I.tuple ht
      obtain ⟨u1, u2, rfl, q1, q2⟩ := vals2 r2
      obtain ⟨tk, rfl⟩ := q1
      obtain rfl : u2 = Value.ref y := q2
      exact ⟨t, o, n, tk, y, m, ns, rfl, (kp _ _ ho).2, hcl, hdd, tupTI I hy fun b o z => (kp b o z).2, rfl⟩
  · obtain ⟨n, hn⟩ := hn
    have hp : (out.map backI).Perm xs := by rw [e1]; exact (hst.perm.trans e).map backI
    have hvo : Vals (out.map backI) out := vals_backI fun u hu => e2 u ((hst.perm.trans e).mem_iff.mp hu)
    have hnone : H d = none := I.hok.fresh hd
    have J : Inv X pins σ (upd H d (.lst (out.map backI))) { s with heap := s'.heap, gens := s'.gens, drawn := s'.drawn, toks := s'.toks } :=
      I.call (ch := []) (Un.laid kp hd hnone) (I.hok.laid kp hd ⟨by rw [hp.length_eq]; exact hz, out, n, hvo, hn⟩) (by rw [hg]; exact I.bare) (fun _ z => nomatch z)
    have es : s' = { s with heap := s'.heap, gens := s'.gens, drawn := s'.drawn, toks := s'.toks } := by
      cases s'
      cases s
      cases hos
      rfl
    rw [es]
    exact ⟨.ref d, _, J, rfl, q _ d hp (List.pairwise_map.mpr hs) hnone⟩
end
def intsV : List V → List Int
  | [] => []
  | .int i :: r => i :: intsV r
  | _ :: r => intsV r
theorem intsV_map : ∀ ns : List Int, intsV (ns.map V.int) = ns
  | [] => rfl
  | n :: ns => by rw [List.map_cons]; show n :: intsV (ns.map V.int) = _; rw [intsV_map ns]
/-- a value's rank -/
def kF (F : Hp) : V → List Int
  | .int i => [i]
  | .ref t => match F t with
    | some (.frz _ (.tup [.int n, .ref u])) => n :: (match F u with
      | some (.frz _ (.tup ys)) => intsV ys
      | _ => [])
    | some (.frz _ (.tup xs)) => intsV xs
    | _ => []
  | _ => []
theorem Rps.ofInts {K : PySem.W.Frag} {F : Hp} : ∀ {xs : List V} {ns : List Int}, Rps K F xs (ns.map D.int) → xs = ns.map V.int
  | [], [], _ => rfl
  | [], _ :: _, h => by cases h
  | _ :: _, [], h => by cases h
  | x :: xs, n :: ns, h => by
    cases h with
    | cons h1 h2 =>
      cases h1
      rw [Rps.ofInts h2]; rfl
theorem kF_flat {F : Hp} {t : Addr} {n : Int} {ns : List Int} (h : IsT F t ((n :: ns).map V.int)) : kF F (.ref t) = n :: ns := by
  obtain ⟨o, _, e⟩ := h
  cases ns with
  | nil => simp only [kF, e, List.map_cons, List.map_nil, intsV]
  | cons m ms =>
    cases ms <;> simp only [kF, e, List.map_cons, List.map_nil, intsV, intsV_map]
theorem rank_rp {K : PySem.W.Frag} {F : Hp} {x : V} {d : D} {k : List Int} {m : Nat} (rk : Rank d k m) (r : Rp K F x d) :
    kF F x = k ∧ ((m = 0 ∧ ∃ i, x = V.int i ∧ k = [i]) ∨ (m = 1 ∧ ∃ t n ns, x = V.ref t ∧ k = n :: ns ∧ IsT F t ((n :: ns).map V.int)) ∨ (m = 2 ∧ ∃ t u n ns, x = V.ref t ∧ k = n :: ns ∧ IsT F t [.int n, .ref u] ∧ IsT F u (ns.map V.int))) := by
  cases rk with
  | int n =>
    cases r
    exact ⟨rfl, .inl ⟨rfl, n, rfl, rfl⟩⟩
  | flat n ns =>
    cases r with
    | tup ea rr =>
      have e := Rps.ofInts rr
      subst e
      exact ⟨kF_flat ea, .inr (.inl ⟨rfl, _, n, ns, rfl, rfl, ea⟩)⟩
  | nest n ns =>
    cases r with
    | tup ea rr =>
      cases rr with
      | cons h1 rr =>
        cases h1
        cases rr with
        | cons h2 rr =>
          cases rr
          cases h2 with
          | tup eb rb =>
            have e := Rps.ofInts rb
            subst e
            refine ⟨?_, .inr (.inr ⟨rfl, _, _, n, ns, rfl, rfl, ea, eb⟩)⟩
            obtain ⟨o, _, e⟩ := ea
            obtain ⟨o', _, e'⟩ := eb
            simp only [kF, e, e', intsV_map]
theorem rps_mem {K : PySem.W.Frag} {F : Hp} {xs : List V} {ds : List D} (r : Rps K F xs ds) {x : V} (hx : x ∈ xs) : ∃ d ∈ ds, Rp K F x d := by
  obtain ⟨j, hj⟩ := List.getElem?_of_mem hx
  obtain ⟨d, hd, rd⟩ := r.getV hj
  exact ⟨d, List.mem_of_getElem? hd, rd⟩
theorem its_of {K : PySem.W.Frag} {F H : Hp} (s : Sub F H) {xs : List V} {ds : List D} (r : Rps K F xs ds) (h : sortable ds = true) : Its K H (kF F) xs := by
  obtain ⟨m, hm⟩ := sortable_rank h
  have all : ∀ x ∈ xs, ∃ k, kF F x = k ∧ ((m = 0 ∧ ∃ i, x = V.int i ∧ k = [i]) ∨ (m = 1 ∧ ∃ t n ns, x = V.ref t ∧ k = n :: ns ∧ IsT F t ((n :: ns).map V.int)) ∨ (m = 2 ∧ ∃ t u n ns, x = V.ref t ∧ k = n :: ns ∧ IsT F t [.int n, .ref u] ∧ IsT F u (ns.map V.int))) := fun x hx => by
    obtain ⟨d, hd, rd⟩ := rps_mem r hx
    exact ⟨_, rank_rp (hm d hd) rd⟩
  by_cases h0 : m = 0
  · refine .inl fun x hx => ?_
    obtain ⟨k, e, z⟩ := all x hx
    rcases z with ⟨_, i, a1, a2⟩ | ⟨z, _⟩ | ⟨z, _⟩
    · exact ⟨i, a1, e.trans a2⟩
    · omega
    · omega
  · by_cases h1 : m = 1
    · refine .inr (.inl fun x hx => ?_)
      obtain ⟨k, e, z⟩ := all x hx
      rcases z with ⟨z, _⟩ | ⟨_, t, n, ns, a1, a2, a3⟩ | ⟨z, _⟩
      · omega
      · exact ⟨t, n, ns, a1, e.trans a2, (s.tup a3).sq⟩
      · omega
    · refine .inr (.inr fun x hx => ?_)
      obtain ⟨k, e, z⟩ := all x hx
      rcases z with ⟨z, _⟩ | ⟨z, _⟩ | ⟨_, t, u, n, ns, a1, a2, a3, a4⟩
      · omega
      · omega
      · exact ⟨t, u, n, ns, a1, e.trans a2, (s.tup a3).sq, (s.tup a4).sq⟩
theorem rps_perm {K : PySem.W.Frag} {F : Hp} {ys xs : List V} (p : ys.Perm xs) : ∀ {ds : List D}, Rps K F xs ds → ∃ es, es.Perm ds ∧ Rps K F ys es := by
  induction p with
  | nil => exact fun r => ⟨_, .refl _, r⟩
  | cons x _ ih =>
    intro ds r
    cases r with
    | cons h1 h2 =>
      obtain ⟨es, p, r⟩ := ih h2
      exact ⟨_, p.cons _, .cons h1 r⟩
  | swap x y l =>
    intro ds r
    cases r with
    | cons h1 h2 =>
      cases h2 with
      | cons h2 h3 => exact ⟨_, .swap .., .cons h2 (.cons h1 h3)⟩
  | trans _ _ ih1 ih2 =>
    intro ds r
    obtain ⟨es, p, r⟩ := ih2 r
    obtain ⟨fs, q, r⟩ := ih1 r
    exact ⟨fs, q.trans p, r⟩
theorem rps_srt {K : PySem.W.Frag} {F : Hp} {m : Nat} : ∀ {ys : List V} {es : List D}, Rps K F ys es → (∀ d ∈ es, Rank d (kL d) m) → SrtO.Srtd (ltV (kF F)) ys → SrtO.Srtd ltD es
  | _, _, .nil, _, _ => List.Pairwise.nil
  | y :: ys, e :: es, .cons h r, hk, hs => by
    have hs' := List.pairwise_cons.mp hs
    refine List.pairwise_cons.mpr ⟨fun d hd => ?_, rps_srt r (fun d hd => hk d (List.mem_cons_of_mem _ hd)) hs'.2⟩
    obtain ⟨j, hj⟩ := List.getElem?_of_mem hd
    obtain ⟨v, hv, rv⟩ := r.get hj
    have q := hs'.1 v (List.mem_of_getElem? hv)
    show HT.lexLt (kL d) (kL e) = false
    rw [← (rank_rp (hk e List.mem_cons_self) h).1, ← (rank_rp (hk d (List.mem_cons_of_mem _ hd)) rv).1]
    exact q
section
variable {X : Cx}
theorem sort_done {K : PySem.W.Frag} {F H : Hp} {Q : VK} {d : D} {xs : List V} {ds : List D} (s : Sub F H) (r : Rps K F xs ds) (e : sortS ds = .ok d) (g : Gives K F H d Q) :
    ∃ k, Its K H k xs ∧ ∀ ys p, ys.Perm xs → SrtO.Srtd (ltV k) ys → H p = none → Q (.ref p) (upd H p (.lst ys)) := by
  unfold sortS at e
  split at e
  · rename_i hs
    cases e
    refine ⟨kF F, its_of s r hs, fun ys p hp hy hn => ?_⟩
    obtain ⟨es, pe, re⟩ := rps_perm hp r
    obtain ⟨m, hm⟩ := sortable_rank hs
    have eq := sortD_uniq hs pe (rps_srt re (fun d hd => hm d (pe.mem_iff.mp hd)) hy)
    rw [← eq] at g
    have x := Ext.laid (.lst ys) s hn
    exact g _ _ _ x (.lst upd_same (re.mono x.grow))
  · cases e
theorem rps_ints {K : PySem.W.Frag} {F : Hp} : ∀ k : List Int, Rps K F (k.map V.int) (k.map D.int)
  | [] => .nil
  | n :: k => .cons (.int n) (rps_ints k)
theorem rows_rps {K : PySem.W.Frag} {F : Hp} : ∀ {rows : List Row} {es : List (D × D)}, RkT K F rows es → Rps K F (rows.map fun r => V.ref r.2.1) (es.map (·.1))
  | _, _, .nil => .nil
  | _, _, .cons t _ r => .cons (.tup t (rps_ints _)) (rows_rps r)
theorem kvs_rps {K : PySem.W.Frag} {F : Hp} : ∀ {kvs : List (Key × V)} {es : List (D × D)}, RkK K F kvs es → Rps K F (kvs.map fun r => kV r.1) (es.map (·.1))
  | _, _, .nil => .nil
  | _, _, .cons (k := .inl i) _ r => .cons (.int i) (kvs_rps r)
  | _, _, .cons (k := .inr x) _ r => .cons (.str x) (kvs_rps r)
theorem bi_sorted (hc : X.calm = true) (hu : X.A.units + 2 < cLine) : CallR X (.builtin "sorted") (rBi X.K .sorted) := by
  refine CallR.imp (cr_sortX hc hu) fun vs H Q _ h => ?_
  obtain ⟨F, ds, d, s, r, e, g⟩ := h
  obtain ⟨v, a, rfl, rfl, h1⟩ := one_of r e (by simp)
  clear r
  cases h1 <;> simp only [biS] at e <;> try cases e
  · rename_i ea r
    obtain ⟨k, h1, h2⟩ := sort_done s r e g
    exact ⟨_, _, k, rfl, .inr (.inl (s.tup ea).sq), h1, h2⟩
  · rename_i ea r
    obtain ⟨k, h1, h2⟩ := sort_done s r e g
    exact ⟨_, _, k, rfl, .inl (SqL.of (s.lst ea)), h1, h2⟩
  · rename_i ea r
    obtain ⟨k, h1, h2⟩ := sort_done s (kvs_rps r) e g
    exact ⟨_, _, k, rfl, .inr (.inr (.inr (.inl ⟨_, s.dK ea, rfl⟩))), h1, h2⟩
  · rename_i ea r
    obtain ⟨k, h1, h2⟩ := sort_done s (rows_rps r) e g
    exact ⟨_, _, k, rfl, .inr (.inr (.inl ⟨_, s.dT ea, rfl⟩)), h1, h2⟩
end
end Pan
namespace Pan
open PySem PySem.Spec L2
open PyProof.Rows hiding St
variable [TabsIn]
/-- F' is F, but for the dict at a, which may be locked here and not there -/
structure Swap (a : Addr) (u : HO) (F F' : Hp) : Prop where
  oth : ∀ b, b ≠ a → F' b = F b
  here : Rd F a u
  there : Rd F' a u
  dic : isDic u
theorem rd_dic {F : Hp} {a : Addr} {u v : HO} (d : isDic u) (h : Rd F a u) (h' : Rd F a v) (d' : isDic v) : u = v := by
  rcases h with h | ⟨o, h⟩ <;> rcases h' with h' | ⟨o', h'⟩ <;> rw [h] at h' <;> cases h' <;> first | rfl | exact d.elim | exact d'.elim
theorem Swap.rd {a b : Addr} {u v : HO} {F F' : Hp} (s : Swap a u F F') (h : Rd F b v) (d : isDic v) : Rd F' b v := by
  by_cases e : b = a
  · subst e
    rw [rd_dic d h s.here s.dic]
    exact s.there
  · unfold Rd
    rw [s.oth b e]
    exact h
theorem Swap.ne {a b : Addr} {u v : HO} {F F' : Hp} (s : Swap a u F F') (h : F b = some v) (h1 : v ≠ u) (h2 : ∀ o, v ≠ .frz o u) : F' b = some v := by
  rw [s.oth b ?_]
  · exact h
  · intro e
    subst e
    rcases s.here with z | ⟨o, z⟩ <;> rw [h] at z <;> cases z
    · exact h1 rfl
    · exact h2 _ rfl
theorem Swap.isT {a b : Addr} {u : HO} {F F' : Hp} {xs : List V} (s : Swap a u F F') (h : IsT F b xs) : IsT F' b xs := by
  obtain ⟨o, d, e⟩ := h
  refine ⟨o, d, s.ne e ?_ ?_⟩
  · intro z
    have := s.dic
    rw [← z] at this
    exact this.elim
  · intro o' z
    cases z
    exact s.dic.elim
mutual
theorem Rp.swap {K : PySem.W.Frag} {a : Addr} {u : HO} {F F' : Hp} (s : Swap a u F F') : ∀ {v : V} {d : D}, Rp K F v d → Rp K F' v d
  | _, _, .non => .non
  | _, _, .bl b => .bl b
  | _, _, .int i => .int i
  | _, _, .str x => .str x
  | _, _, .ty n => .ty n
  | _, _, .scr (a := b) h => .scr (by
    have nd : ∀ xs : List V, ¬ isDic (.lst xs) := fun xs z => z
    rcases h with (h | ⟨o, h⟩) | h
    · exact .inl (.inl (s.ne h (fun z => by have := s.dic; rw [← z] at this; exact this) (fun o z => by cases z)))
    · exact .inl (.inr ⟨o, s.ne h (fun z => by have := s.dic; rw [← z] at this; exact this) (fun o' z => by cases z; exact s.dic.elim)⟩)
    · exact .inr h)
  | _, _, .tup h r => .tup (s.isT h) (Rps.swap s r)
  | _, _, .prs h r => .prs (s.ne h (fun z => by have := s.dic; rw [← z] at this; exact this) (fun o z => by cases z)) (Rps.swap s r)
  | _, _, .lst h r => .lst (s.ne h (fun z => by have := s.dic; rw [← z] at this; exact this) (fun o z => by cases z)) (Rps.swap s r)
  | _, _, .dK h r => .dK (s.rd h trivial) (RkK.swap s r)
  | _, _, .dT h r => .dT (s.rd h trivial) (RkT.swap s r)
theorem Rps.swap {K : PySem.W.Frag} {a : Addr} {u : HO} {F F' : Hp} (s : Swap a u F F') : ∀ {vs : List V} {ds : List D}, Rps K F vs ds → Rps K F' vs ds
  | _, _, .nil => .nil
  | _, _, .cons h r => .cons (Rp.swap s h) (Rps.swap s r)
theorem RkK.swap {K : PySem.W.Frag} {a : Addr} {u : HO} {F F' : Hp} (s : Swap a u F F') : ∀ {kvs : List (Key × V)} {es : List (D × D)}, RkK K F kvs es → RkK K F' kvs es
  | _, _, .nil => .nil
  | _, _, .cons h r => .cons (Rp.swap s h) (RkK.swap s r)
theorem RkT.swap {K : PySem.W.Frag} {a : Addr} {u : HO} {F F' : Hp} (s : Swap a u F F') : ∀ {kvs : List Row} {es : List (D × D)}, RkT K F kvs es → RkT K F' kvs es
  | _, _, .nil => .nil
  | _, _, .cons t h r => .cons (s.isT t) (Rp.swap s h) (RkT.swap s r)
end
theorem Swap.none {a b : Addr} {u : HO} {F F' : Hp} (s : Swap a u F F') (h : F b = none) : F' b = none := by
  rw [s.oth b ?_]
  · exact h
  · intro e
    subst e
    rcases s.here with z | ⟨o, z⟩ <;> rw [h] at z <;> cases z
/-- a name's place, the dict at a locked otherwise in the heap too -/
theorem SlotR.swap {K : PySem.W.Frag} {a : Addr} {u : HO} {F F' H H' : Hp} (s : Swap a u F F') (hH : ∀ b, b ≠ a → H' b = H b) : ∀ {sl : Slot} {o : Option V}, SlotR K F H sl o → SlotR K F' H' sl o
  | .no, _, _ => trivial
  | .val d, some v, h => Rp.swap s h
  | .own (.lst ds), some (.ref b), ⟨n, xs, e, r⟩ => ⟨s.none n, xs, by rw [hH b (fun z => by subst z; rcases s.here with q | ⟨o, q⟩ <;> rw [n] at q <;> cases q)]; exact e, r.swap s⟩
  | .own (.dic false es), some (.ref b), ⟨n, kvs, e, r⟩ => ⟨s.none n, kvs, by rw [hH b (fun z => by subst z; rcases s.here with q | ⟨o, q⟩ <;> rw [n] at q <;> cases q)]; exact e, r.swap s⟩
  | .own (.dic true es), some (.ref b), ⟨n, kvs, e, r⟩ => ⟨s.none n, kvs, by rw [hH b (fun z => by subst z; rcases s.here with q | ⟨o, q⟩ <;> rw [n] at q <;> cases q)]; exact e, r.swap s⟩
  | .held _ b, some v, h => h
  | .obj _ _, some (.ref b), h => by
    have ne : ∀ {x : Addr}, F x = Option.none → x ≠ a := fun n z => by subst z; rcases s.here with q | ⟨o, q⟩ <;> rw [n] at q <;> cases q
    obtain ⟨dx, da, ua, pv, nv, ds, us, z⟩ := h
    exact ⟨dx, da, ua, pv, nv, ds, us, s.none z.fa, s.none z.fd, s.none z.fu, by rw [hH _ (ne z.fa)]; exact z.ha, by rw [hH _ (ne z.fd)]; exact z.hd, by rw [hH _ (ne z.fu)]; exact z.hu, z.ne, z.rp.swap s, z.rn.swap s, z.rd.swap s, z.ru.swap s⟩
/-- o is a dict's object whose keys are xs -/
def KeysAt (o : Obj) (d : Addr) (xs : List V) : Prop := (d == sysModules) = false ∧ o.ExactDict ∧ ∃ es ep, o.data = .dict es ep ∧ es.size = xs.length ∧ ∀ (i : Nat) (x : V), xs[i]? = some x → ∃ en : DictEntry, es[i]? = some en ∧ RelV x en.key
def ItK (d : Addr) (o : Obj) (u : HO) (xs : List V) : It :=
  ⟨fun i H => H d = some (.frz o u) ∧ i < xs.length, fun i H x H' => H' = H ∧ xs[i]? = some x, fun i H => H d = some (.frz o u) ∧ xs.length ≤ i⟩
theorem turnK {P : Program} {w : World} {K : PySem.W.Frag} {tg : Expr} {d : Addr} {o : Obj} {u : HO} {es : Array DictEntry} {ep : Nat} {xs : List V} (it : Addr) (hk : KeysAt o d xs) (hod : o.data = .dict es ep) : Turn P w K tg (ItK d o u xs) [it] it (fun i h => h.IsKeyIter it d i xs.length ep) where
  mem := List.mem_singleton.mpr rfl
  obj := fun i h st b hb => by
    cases List.mem_singleton.mp hb
    obtain ⟨oi, e, c, dd⟩ := st
    exact ⟨oi, e, fun v z => by rw [dd] at z; cases z⟩
  keep := fun i h h' st k => st.at fun oi e => k it (List.mem_singleton.mpr rfl) oi e
  item := by
    intro X hP hw hK hc i pins s σ H E I hf st hg
    subst hP hw hK
    obtain ⟨hd, hi⟩ := hg
    obtain ⟨f0, f1, f2, f3, f4, f5⟩ := hf it (List.mem_singleton.mpr rfl)
    have hgd : s.heap.get? d = some o := (show ObjOk X.prog X.w H s.heap d (.frz o u) from I.hok d _ hd).1
    obtain ⟨hs, hx, es', ep', hdt, hsz, ent⟩ := hk
    obtain ⟨rfl, rfl⟩ := dict_ep hod hdt
    obtain ⟨en, hen, rk⟩ := ent i xs[i] (List.getElem?_eq_getElem hi)
    refine next_key_item st hgd hdt hsz hen fun h' st' sb => ?_
    have I1 : Inv X pins σ H { s with heap := h' } := I.turned (t' := s.toks) (fun b ob hb e => (sb.2 b hb).trans e) f0 f1 f3 f4 f5
    obtain ⟨oi, e, c, dd⟩ := id st'
    exact ⟨en.key, rfl, go_of (s := { s with heap := h' }) e c dd (by decide) ⟨xs[i], H, I1, rk, ⟨rfl, List.getElem?_eq_getElem hi⟩, st', fun b hb => (hf b hb).1⟩⟩
  done := by
    intro X hP hw hK hc i pins s σ H E I hf st hg
    subst hP hw hK
    obtain ⟨hd, hi⟩ := hg
    obtain ⟨f0, f1, f2, f3, f4, f5⟩ := hf it (List.mem_singleton.mpr rfl)
    have hgd : s.heap.get? d = some o := (show ObjOk X.prog X.w H s.heap d (.frz o u) from I.hok d _ hd).1
    obtain ⟨hs, hx, es', ep', hdt, hsz, ent⟩ := hk
    obtain ⟨rfl, rfl⟩ := dict_ep hod hdt
    exact next_key_end (I.ok.hd hc) st hgd hdt hsz hi fun h' eb => ⟨rfl, I.turned (t' := s.toks) (fun b ob hb e => eb b ob hb e) f0 f1 f3 f4 f5⟩
  self := fun A i s Q E st h => by
    refine wpAny_pyIter_slot st.typeIs F.slot_dict_keyiterator_iter (wpAny_call_entry F.slot_dict_keyiterator_iter st.typeIs F.entry_dict_keyiterator_iter ?_ (F.args_dict_keyiterator_iter_1 _))
    exact wpAny_pure ⟨_, rfl, "dict_keyiterator", _, st.typeIs, F.slot_dict_keyiterator_next.lookup, h⟩
/-- the keys of a dict of either kind -/
inductive KeysU (d : Addr) : HO → List V → Prop
  | k (kvs : List (Key × V)) : KeysU d (.dK kvs) (kvs.map fun r => kV r.1)
  | t (rows : List Row) : KeysU d (dO d rows) (rows.map fun r => V.ref r.2.1)
section
variable {X : Cx} {pins : List (Addr × Obj)} {σ : St} {H : Hp} {s : Shared}
theorem keysAt_of (I : Inv X pins σ H s) {d : Addr} {o : Obj} {u : HO} {xs : List V} (h : H d = some (.frz o u)) (ku : KeysU d u xs) : KeysAt o d xs := by
  cases ku with
  | k kvs =>
    obtain ⟨hd, z, hs, vs, kv, o', es, ep, ho, hx, hdt, _, pr, _⟩ := I.hok d _ h
    rw [hd] at ho
    cases ho
    have vl := key_vals kv pr
    refine ⟨hs, hx, es, ep, hdt, ?_, fun i x hxx => ?_⟩
    · have := vl.length
      simpa using this.symm
    · obtain ⟨u, hu, ru⟩ := vl.get hxx
      rw [List.getElem?_map, Array.getElem?_toList] at hu
      cases q : es[i]? with
      | none => rw [q] at hu; cases hu
      | some en => rw [q] at hu; cases hu; exact ⟨en, rfl, ru⟩
  | t rows =>
    obtain ⟨hd, ⟨z, hs, xs, pr, o', es, ep, ho, hx, hdt, he, hn⟩, _⟩ := I.hok d _ h
    rw [hd] at ho
    cases ho
    refine ⟨hs, hx, es, ep, hdt, ?_, fun i x hxx => ?_⟩
    · have l1 := congrArg List.length he
      have l2 := Paired.length pr
      rw [Array.length_toList, List.length_map] at l1
      rw [List.length_map]
      omega
    · rw [List.getElem?_map] at hxx
      cases q : rows[i]? with
      | none => rw [q] at hxx; cases hxx
      | some r =>
        rw [q] at hxx
        cases hxx
        obtain ⟨b, hb, e1, e2, e3⟩ := paired_get pr q
        refine ⟨⟨hT b.1, .ref b.2.1, b.2.2⟩, ?_, ?_⟩
        · rw [← Array.getElem?_toList, he, List.getElem?_map, hb]
          rfl
        · show RelV (.ref r.2.1) (.ref b.2.1)
          rw [e2]
          rfl
end
section
variable {X : Cx} {tg e : Expr} {td : TE}
def iKeysX (td : TE) : TI := fun σ H R => td σ H fun x H1 => ∃ d o u xs, x = .ref d ∧ H1 d = some (.frz o u) ∧ KeysU d u xs ∧ R (ItK d o u xs) H1
theorem pi_keysX (he : PE X e td) : PI X tg e (iKeysX td) := by
  refine ⟨fun pins s σ H R I h => ?_⟩
  refine thn (he.run pins s σ H _ I h) fun v s1 ⟨x, H1, I1, rx, d, o, u, xs, ex, hd, ku, q⟩ => ?_
  subst ex
  cases (show v = Value.ref d from rx)
  have hk := keysAt_of I1 hd ku
  have hgd : s1.heap.get? d = some o := (show ObjOk X.prog X.w H1 s1.heap d (.frz o u) from I1.hok d _ hd).1
  obtain ⟨hs, hx, es, ep, hdt, hsz, _⟩ := id hk
  refine iter_keys hs hgd hx hdt (pi_one (tk := s1.toks) I1 _ (turnK _ hk hdt) ⟨_, Heap.get?_push_size _ rfl, rfl, ?_⟩ q)
  rw [hsz]
  rfl
end
theorem walks_keys {K : PySem.W.Frag} {F : Hp} {d : Addr} {o : Obj} {u : HO} {xs : List V} {ds : List D} (h : F d = some (.frz o u)) (r : Rps K F xs ds) (hz : ds.length ≤ sizeLine) : WalksD K (ItK d o u xs) F ds where
  size := hz
  stop := fun F1 H1 g s => by
    rcases s.at (g _ _ h) with q | ⟨m, _⟩
    · exact ⟨q, by rw [r.length]; exact Nat.le_refl _⟩
    · exact m.elim
  go := fun i d' hd F1 H1 g s => by
    obtain ⟨v, hv, rv⟩ := r.get hd
    rcases s.at (g _ _ h) with q | ⟨m, _⟩
    · refine ⟨⟨q, (List.getElem?_eq_some_iff.mp hv).1⟩, fun x H2 y => ?_⟩
      obtain ⟨rfl, y⟩ := y
      rw [hv] at y
      cases y
      exact ⟨F1, Ext.refl s, rv.mono g⟩
    · exact m.elim
theorem upd_id {H : Hp} {a : Addr} {u : HO} (h : H a = some u) : upd H a u = H := by
  funext b
  by_cases e : b = a
  · subst e; rw [upd_same, h]
  · rw [upd_ne e]
/-- into a lock -/
theorem lock_in {K : PySem.W.Frag} {e : Env} {σ : St} {F H : Hp} {a : Addr} {u : HO} (vr : VR K e σ F H) (hF : Rd F a u) (du : isDic u) (nc : nC u) (o : Obj) : Swap a u F (upd F a (.frz o u)) ∧ VR K e σ (upd F a (.frz o u)) (upd H a (.frz o u)) := by
  have sw : Swap a u F (upd F a (.frz o u)) := ⟨fun b hb => upd_ne hb, hF, .inr ⟨o, upd_same⟩, du⟩
  have ntu : nT u = true := by cases u <;> first | rfl | exact du.elim
  have nf : ∀ o : Obj, nC (.frz o u) := fun o => nC_of fun _ z => by cases z
  have tb : LamX.Tabs TabsIn.T (upd H a (.frz o u)) := by
    rcases hF with h | ⟨o', h⟩
    · rcases vr.sub.at h with z | ⟨_, o2, z⟩
      · exact tabs_upd vr.sub.tabs z ntu nc
      · exact tabs_upd vr.sub.tabs z rfl (nf o2)
    · rcases vr.sub.at h with z | ⟨m, _⟩
      · exact tabs_upd vr.sub.tabs z rfl (nf o')
      · exact m.elim
  refine ⟨sw, ⟨fun b v hv => ?_, tb⟩, vr.len, fun i sl ov h1 h2 => (vr.slot i sl ov h1 h2).swap sw fun b hb => upd_ne hb⟩
  by_cases q : b = a
  · subst q
    rw [upd_same] at hv ⊢
    cases hv
    exact ⟨rfl, .inl rfl⟩
  · rw [upd_ne q] at hv ⊢
    exact vr.sub.at_ b v hv
/-- and out of it -/
theorem lock_out {F H F' H' : Hp} {a : Addr} {u x : HO} (s : Sub F H) (hF : F a = some u) (hH : H a = some x) (hx : x = u ∨ ∃ o, x = .frz o u) (du : isDic u) (nc : nC u) {o : Obj} (xt : Ext (upd F a (.frz o u)) (upd H a (.frz o u)) F' H') :
    Ext F H (upd F' a u) (upd H' a x) where
  same := by
    have nx : nT x = true ∧ nC x := by
      rcases hx with rfl | ⟨o, rfl⟩
      · exact ⟨by cases x <;> first | rfl | exact du.elim, nc⟩
      · exact ⟨rfl, nC_of fun _ z => by cases z⟩
    refine ⟨fun b v e n => ?_, fun b ps e => ?_, fun t => ?_⟩
    · by_cases q : b = a
      · subst q; rw [upd_same]; rw [hH] at e; exact e
      · rw [upd_ne q]; exact xt.same.at (by rw [upd_ne q]; exact e) n
    · by_cases q : b = a
      · subst q; rw [hH] at e; cases e; cases nx.1
      · rw [upd_ne q]; exact xt.same.tb b ps (by rw [upd_ne q]; exact e)
    · exact tabs_upd (xt.same.tabs (tabs_upd t hH nx.1 nx.2)) (xt.same.at upd_same) rfl (nC_of fun _ z => by cases z)
  grow := fun b v e => by
    by_cases q : b = a
    · subst q; rw [upd_same]; rw [hF] at e; exact e
    · rw [upd_ne q]; exact xt.grow b v (by rw [upd_ne q]; exact e)
  sub := ⟨fun b v e => by
    by_cases q : b = a
    · subst q
      rw [upd_same] at e ⊢
      cases e
      refine ⟨by cases u <;> first | rfl | exact du.elim, ?_⟩
      rcases hx with rfl | ⟨o, rfl⟩
      · exact .inl rfl
      · exact .inr ⟨du, o, rfl⟩
    · rw [upd_ne q] at e ⊢
      exact xt.sub.at_ b v e, tabs_upd xt.sub.tabs (xt.same.at upd_same) rfl (nC_of fun _ z => by cases z)⟩
  new := fun b v e => by
    by_cases q : b = a
    · subst q; rw [upd_same] at e; exact .inl (hF.trans e)
    · rw [upd_ne q] at e
      rcases xt.new b v e with z | z | z
      · rw [upd_ne q] at z; exact .inl z
      · rw [upd_ne q] at z; exact .inr (.inl z)
      · exact .inr (.inr z)
section
variable {X : Cx} {W : WX} {cl : Nat → Value} {elt tg : Expr} {ifs : List Expr} {scope : Scope} {own : List (Str × Nat)} {pos p : Pos} {g : G} {rt : Env → R Bool} {re : Env → R D} {i : Nat} {x : Str}
theorem imp_lcK {K : PySem.W.Frag} {σ : St} {H : Hp} {Q : VK} {vs : List Nat} (gd : Good K H) (hv : ∀ i ∈ slotsG g, i ∈ vs)
    (h : tN K W cl (fun e => do let ds ← (do let x ← getV e i; itS .keys [x]); let r ← (lcM ds (lcF g vs rt re e)).calm; .ok (.lst r)) σ H Q) :
    tLockE (tLc (iKeysX (tVar i)) (gOf K g) (tT K W0 cl rt) (tE K W0 cl re) vs) σ H Q ∨ tLc (iKeysX (tVar i)) (gOf K g) (tT K W0 cl rt) (tE K W0 cl re) vs σ H Q := by
  obtain ⟨e, F, vr, w⟩ := h
  dsimp only at w
  cases hx : getV e i with
  | bad => rw [hx] at w; exact w.elim
  | exc c =>
    exfalso
    unfold getV at hx
    split at hx <;> cases hx
  | ok d =>
    rw [hx] at w
    have he : e[i]? = some (.val d) := by
      unfold getV at hx
      split at hx
      · rename_i d' hd; cases hx; exact hd
      · cases hx
    obtain ⟨v, hσ, rp⟩ := vr.get he
    cases d with
    | dic t es =>
      have w1 : Wp W cl ((lcM (es.map (·.1)) (lcF g vs rt re e)).calm >>= fun r => .ok (.lst r)) σ F H fun d F' H' => ∀ a, NewR K F' H' H a d → Q (.ref a) H' := w
      cases hr : lcM (es.map (·.1)) (lcF g vs rt re e) with
      | bad => rw [hr] at w1; exact w1.elim
      | exc c => rw [hr] at w1; exact w1.elim
      | ok r =>
        rw [hr] at w1
        have w2 : ∀ F' H', Ext F H F' H' → ∀ a, NewR K F' H' H a (.lst r) → Q (.ref a) H' := w1
        obtain ⟨a, u, xs, ev, hF, du, ku, mu, rk, hz⟩ : ∃ a u xs, v = .ref a ∧ Rd F a u ∧ isDic u ∧ KeysU a u xs ∧ Mut (some u) ∧ Rps K F xs (es.map (·.1)) ∧ (es.map (·.1)).length ≤ sizeLine := by
          cases rp with
          | dK h r =>
            have := gd.dK _ _ (vr.sub.dK h)
            exact ⟨_, _, _, rfl, h, trivial, .k _, trivial, kvs_rps r, by rw [← (kvs_rps r).length, List.length_map]; exact this⟩
          | dT h r =>
            have := gd.dT _ _ (vr.sub.dT h)
            exact ⟨_, _, _, rfl, h, trivial, .t _, trivial, rows_rps r, by rw [← (rows_rps r).length, List.length_map]; exact this⟩
        have nc : nC u := by
          cases ku
          · exact nC_of fun _ z => by cases z
          · exact nC_dO _ _
        subst ev
        have hRd : Rd H a u := by
          rcases hF with q | ⟨o, q⟩
          · rcases vr.sub.at q with z | ⟨_, o, z⟩
            · exact .inl z
            · exact .inr ⟨o, z⟩
          · rcases vr.sub.at q with z | ⟨m, _⟩
            · exact .inr ⟨o, z⟩
            · exact m.elim
        rcases hRd with hH | ⟨o, hH⟩
        · -- to be locked
          have hF' : F a = some u := by
            rcases hF with q | ⟨o, q⟩
            · exact q
            · rcases vr.sub.at q with z | ⟨m, _⟩
              · rw [hH] at z
                cases z
              · exact m.elim
          refine .inl ⟨a, u, hH, mu, fun od => ⟨.ref a, hσ, a, od, u, xs, rfl, upd_same, ku, fun D hD => ?_⟩⟩
          obtain ⟨sw, vr2⟩ := lock_in vr hF du nc od
          have hDa : D ≠ a := fun z => by rw [z, upd_same] at hD; cases hD
          refine lc_walk (Q := fun v H' => H' a = some (.frz od u) ∧ Q v (upd H' a u)) hv vr2 vr2.sub (walks_keys upd_same (rk.swap sw) hz) hD hr fun F' H' xt ⟨acc, a1, a2, a3⟩ => ?_
          have hl : H' a = some (.frz od u) := xt.same.at upd_same
          refine ⟨hl, ?_⟩
          have xo := lock_out (x := u) vr.sub hF' hH (.inl rfl) du nc xt
          have sb : Swap a u F' (upd F' a u) := ⟨fun b hb => upd_ne hb, .inr ⟨od, xt.grow _ _ upd_same⟩, .inl upd_same, du⟩
          exact w2 _ _ xo D ⟨by rw [upd_ne hDa] at hD; exact hD, by rw [upd_ne hDa]; exact a1, acc, by rw [upd_ne hDa]; exact a2, a3.swap sb⟩
        · -- locked already
          refine .inr ⟨.ref a, hσ, a, o, u, xs, rfl, hH, ku, fun D hD => ?_⟩
          have hDa : D ≠ a := fun z => by rw [z, hH] at hD; cases hD
          obtain ⟨sw, vr2⟩ := lock_in vr hF du nc o
          rw [upd_id hH] at vr2
          refine lc_walk hv vr2 vr2.sub (walks_keys upd_same (rk.swap sw) hz) hD hr fun F' H' xt ⟨acc, a1, a2, a3⟩ => ?_
          rcases hF with hF' | ⟨o', hF'⟩
          · have hl : H' a = some (.frz o u) := xt.same.at hH
            have xt' : Ext (upd F a (.frz o u)) (upd H a (.frz o u)) F' H' := by rw [upd_id hH]; exact xt
            have xo := lock_out (x := .frz o u) vr.sub hF' hH (.inr ⟨o, rfl⟩) du nc xt'
            rw [upd_id hl] at xo
            have sb : Swap a u F' (upd F' a u) := ⟨fun b hb => upd_ne hb, .inr ⟨o, xt.grow _ _ upd_same⟩, .inl upd_same, du⟩
            exact w2 _ _ xo D ⟨hD, by rw [upd_ne hDa]; exact a1, acc, a2, a3.swap sb⟩
          · have eo : F a = some (.frz o u) := by
              rcases vr.sub.at hF' with z | ⟨m, _⟩
              · rw [hH] at z; cases z; exact hF'
              · exact m.elim
            rw [upd_id eo] at xt
            exact w2 _ _ xt D ⟨hD, a1, acc, a2, a3⟩
    | _ => exact w.elim
theorem cn_lcK (hc : X.calm = true) (hN : X.N.Nodup) (hi : X.N[i]? = some x) (hvs : Vis X.env.scope x) (hd : (x == ("__debug__" : Str)) = false) (hcd : (x == ("__classdict__" : Str)) = false) (ok : BlkOk X.N X.env.scope scope own) (hv : ∀ i ∈ slotsG g, i ∈ own.map (·.2))
    (hg : ∀ (s : Shared) (H : Hp) (C : Addr) (cl : List (Str × Addr)) (fp : List Addr), PG (X.blk s H scope (compEnvC scope cl C X.env) fp) tg (gOf X.K g))
    (ht : ∀ (s : Shared) (H : Hp) (C : Addr) (cs : List (Str × Addr)) (fp : List Addr), PTs (X.blk s H scope (compEnvC scope cs C X.env) fp) ifs (tT X.K W0 cl rt))
    (he : ∀ (s : Shared) (H : Hp) (C : Addr) (cs : List (Str × Addr)) (fp : List Addr), PE (X.blk s H scope (compEnvC scope cs C X.env) fp) elt (tE X.K W0 cl re)) :
    PE X (.ListComp elt [⟨tg, .Name x p, ifs, 0⟩] scope pos) (tN X.K W cl fun e => do let ds ← (do let x ← getV e i; itS .keys [x]); let r ← (lcM ds (lcF g (own.map (·.2)) rt re e)).calm; .ok (.lst r)) :=
  PE.imp (PE.or (pe_lock (pe_lc hc hN (pi_keysX (pe_var hi hvs hd hcd)) ok hg ht he (fun _ => rfl))) (pe_lc hc hN (pi_keysX (pe_var hi hvs hd hcd)) ok hg ht he (fun _ => rfl))) fun σ H Q gd q => imp_lcK gd hv q
end
end Pan
namespace Pan
open PySem PySem.Spec L2
open PyProof.Rows hiding St
variable [TabsIn]
section
variable {K : PySem.W.Frag} {F H F' H' : Hp}
def dcF (g : G) (vs : List Nat) (rt : Env → R Bool) (rk re : Env → R D) (e : Env) : D → R (List D) := fun d => do
  let e1 ← asgG g d (wipeE e vs)
  let c ← rt e1
  if c then do let y ← rk e1; let z ← re e1; if keyD y then .ok [.prs [y, z]] else .bad else .ok []
theorem imp_dc {W : WX} {cl : Nat → Value} {σ : St} {Q : VK} {g : G} {vs : List Nat} {rit : Env → R (List D)} {rt : Env → R Bool} {rk re : Env → R D} (hv : ∀ i ∈ slotsG g, i ∈ vs)
    (h : tN K W cl (fun e => do let ds ← rit e; let r ← (lcM ds (dcF g vs rt rk re e)).calm; .ok (.dic false (putAll r []))) σ H Q) :
    tDc (tIt K W cl rit) (gOf K g) (tT K W0 cl rt) (tE K W0 cl rk) (tE K W0 cl re) vs σ H Q := by
  obtain ⟨e, F, vr, w⟩ := h
  refine ⟨e, F, vr, w.bind.mono fun ds F1 H1 x1 w1 J wk D hD => ?_⟩
  cases hr : lcM ds (dcF g vs rt rk re e) with
  | bad => rw [hr] at w1; exact w1.elim
  | exc c => rw [hr] at w1; exact w1.elim
  | ok r =>
    rw [hr] at w1
    have w2 : Wp W cl (.ok (.dic false (putAll r []))) σ F1 H1 fun d F' H' => ∀ a, NewR K F' H' H a d → Q (.ref a) H' := w1
    have hD0 : H D = none := x1.same.free hD
    refine ⟨fun i m Hi => i + m = ds.length ∧ ∃ Fi acc done rest, Ext F1 H1 Fi Hi ∧ Hi D = some (.dK acc) ∧ Fi D = none ∧ RkK K Fi acc done ∧ lcM (ds.drop i) (dcF g vs rt rk re e) = .ok rest ∧ putAll r [] = putAll rest done ∧ done.length ≤ i,
      ⟨ds.length, by omega, F1, [], [], r, Ext.made _ x1.sub hD, upd_same, x1.sub.none hD, .nil, hr, rfl, Nat.zero_le _⟩, fun i m Hi hW => ?_⟩
    obtain ⟨him, Fi, acc, done, rest, xi, hDi, fDi, ra, hrest, hrr, hdl⟩ := hW
    by_cases hi : i < ds.length
    · have hd : ds[i]? = some ds[i] := List.getElem?_eq_getElem hi
      have hdrop : ds.drop i = ds[i] :: ds.drop (i + 1) := List.drop_eq_getElem_cons hi
      rw [hdrop] at hrest
      obtain ⟨xs, rest', h1, h2, rfl⟩ := lcM_cons hrest
      obtain ⟨hgo, hy⟩ := wk.go i ds[i] hd Fi Hi xi.grow xi.sub
      refine .inr ⟨hgo, _, fun H' hN => ⟨m - 1, by omega, hN⟩, fun x H' y => ?_⟩
      obtain ⟨F2, x2, rx⟩ := hy x H' y
      unfold dcF at h1
      obtain ⟨e1, h3, h1⟩ := bind_eq_ok h1
      obtain ⟨c, h4, h1⟩ := bind_eq_ok h1
      have vr2 : VR K (wipeE e vs) (wipe σ vs) F2 H' := (((vr.mono x1).mono xi).mono x2).wipe vs
      refine gOf_ok h3 rx vr2 fun σ2 vr3 hw _ => ⟨?_, e1, F2, vr3, ?_⟩
      · rw [hw vs hv]
        exact wipe_wipe
      rw [h4]
      intro F3 H3 x3
      have hD3 : H3 D = some (.dK acc) := x3.same.at (x2.same.at hDi)
      have fD2 : F2 D = none := x2.keepNone fDi hDi (by intro _ z; cases z)
      have fD3 : F3 D = none := x3.keepNone fD2 (x2.same.at hDi) (by intro _ z; cases z)
      cases c with
      | false =>
        refine iteF ?_
        cases h1
        exact ⟨by omega, F3, acc, done, rest', (xi.trans x2).trans x3, hD3, fD3, (ra.mono x2.grow).mono x3.grow, h2, hrr, by omega⟩
      | true =>
        refine iteT ⟨e1, F3, vr3.mono x3, ?_⟩
        obtain ⟨y, h5, h1⟩ := bind_eq_ok h1
        obtain ⟨z, h6, h1⟩ := bind_eq_ok h1
        split at h1
        case isFalse => cases h1
        rename_i hkey
        cases h1
        rw [h5]
        intro F4 H4 x4 v rv
        refine ⟨e1, F4, (vr3.mono x3).mono x4, ?_⟩
        rw [h6]
        intro F5 H5 x5 v' rv'
        have hD4 : H4 D = some (.dK acc) := x4.same.at hD3
        have fD4 : F4 D = none := x4.keepNone fD3 hD3 (by intro _ z; cases z)
        have hD5 : H5 D = some (.dK acc) := x5.same.at hD4
        have fD5 : F5 D = none := x5.keepNone fD4 hD4 (by intro _ z; cases z)
        obtain ⟨key, rfl, rfl⟩ := keyD_of rv hkey
        have ra5 := (((ra.mono x2.grow).mono x3.grow).mono x4.grow).mono x5.grow
        refine ⟨acc, key, rfl, hD5, ?_, by omega, F5, putK acc key v', dput (kD key) z done, rest', ((((xi.trans x2).trans x3).trans x4).trans x5).poke hD fD5 hD5, upd_same, fD5, dput_K key rv' ra5, h2, hrr, ?_⟩
        · rw [ra.length]
          have := wk.size
          omega
        · have := dput_len (kD key) z done
          omega
    · have e0 : i = ds.length := by omega
      subst e0
      rw [List.drop_length] at hrest
      cases hrest
      exact .inl ⟨wk.stop Fi Hi xi.grow xi.sub, w2 Fi Hi xi D ⟨hD0, fDi, acc, hDi, by rw [hrr]; exact ra⟩⟩
end
section
variable {X : Cx} {W : WX} {cl : Nat → Value} {kx vx tg iter : Expr} {ifs : List Expr} {scope : Scope} {own : List (Str × Nat)} {pos : Pos} {g : G} {rit : Env → R (List D)} {rt : Env → R Bool} {rk re : Env → R D}
theorem cn_dc (hc : X.calm = true) (hN : X.N.Nodup) (hi : PI X tg iter (tIt X.K W cl rit)) (ok : BlkOk X.N X.env.scope scope own) (hv : ∀ i ∈ slotsG g, i ∈ own.map (·.2))
    (hg : ∀ (s : Shared) (H : Hp) (C : Addr) (cl : List (Str × Addr)) (fp : List Addr), PG (X.blk s H scope (compEnvC scope cl C X.env) fp) tg (gOf X.K g))
    (ht : ∀ (s : Shared) (H : Hp) (C : Addr) (cs : List (Str × Addr)) (fp : List Addr), PTs (X.blk s H scope (compEnvC scope cs C X.env) fp) ifs (tT X.K W0 cl rt))
    (hk : ∀ (s : Shared) (H : Hp) (C : Addr) (cs : List (Str × Addr)) (fp : List Addr), PE (X.blk s H scope (compEnvC scope cs C X.env) fp) kx (tE X.K W0 cl rk))
    (he : ∀ (s : Shared) (H : Hp) (C : Addr) (cs : List (Str × Addr)) (fp : List Addr), PE (X.blk s H scope (compEnvC scope cs C X.env) fp) vx (tE X.K W0 cl re)) (hs : ∀ x, foldedSetIterable iter X.env x = pure x) :
    PE X (.DictComp kx vx [⟨tg, iter, ifs, 0⟩] scope pos) (tN X.K W cl fun e => do let ds ← rit e; let r ← (lcM ds (dcF g (own.map (·.2)) rt rk re e)).calm; .ok (.dic false (putAll r []))) :=
  PE.imp (pe_dc hc hN hi ok hg ht hk he hs) fun σ H Q _ q => imp_dc hv q
end
/-- name = {k: v for ..} on one line, the name a local -/
theorem ps_setDc {X : Cx} {i : Nat} {y : Str} {py : Pos} {kx vx tg iter : Expr} {ifs : List Expr} {scope : Scope} {own : List (Str × Nat)} {pos spos : Pos} {wi : TI} {g : TG} {tt : TT} {tk tv : TE} (hc : X.calm = true) (hN : X.N.Nodup) (hy : X.N[i]? = some y) (hyl : X.env.scope.names.lookup y = some .local)
    (hsw : swapsWith (.DictComp kx vx [⟨tg, iter, ifs, 0⟩] scope pos) (some (.Name y py)) spos.line X.env = pure true) (hi : PI X tg iter wi) (ok : BlkOk X.N X.env.scope scope own)
    (hg : ∀ (s : Shared) (H : Hp) (C : Addr) (cl : List (Str × Addr)) (fp : List Addr), PG (X.blk s H scope (compEnvC scope cl C X.env) fp) tg g)
    (ht : ∀ (s : Shared) (H : Hp) (C : Addr) (cl : List (Str × Addr)) (fp : List Addr), PTs (X.blk s H scope (compEnvC scope cl C X.env) fp) ifs tt)
    (hk : ∀ (s : Shared) (H : Hp) (C : Addr) (cl : List (Str × Addr)) (fp : List Addr), PE (X.blk s H scope (compEnvC scope cl C X.env) fp) kx tk)
    (he : ∀ (s : Shared) (H : Hp) (C : Addr) (cl : List (Str × Addr)) (fp : List Addr), PE (X.blk s H scope (compEnvC scope cl C X.env) fp) vx tv) (hs : ∀ x, foldedSetIterable iter X.env x = pure x) :
    PS X (.Assign [.Name y py] (.DictComp kx vx [⟨tg, iter, ifs, 0⟩] scope pos) spos) (tAsg (tDc wi g tt tk tv (own.map (·.2))) (gName i)) := by
  refine ⟨fun pins s σ H D I h => ?_⟩
  rw [exec_Assign_Name_used _ _ _ _ hsw]
  refine wpAny_bind (wpAny_standAt (wpAny_bind ?_))
  show wpAny _ X.A (do let _ ← comprehension (.DictComp kx vx [⟨tg, iter, ifs, 0⟩] scope pos) scope X.env (firstIterPos [⟨tg, iter, ifs, 0⟩] pos) newDict false (eval iter X.env) (some (assign (.Name y py) X.env))) _ _ s
  have h : tDc wi g tt tk tv (own.map (·.2)) σ H (fun x H1 => gName i x σ H1 D.nx) := h
  refine wpAny_bind (thn (dc_core (Qf := fun _ s' => SP X pins D .next s') hc hN I hi ok hg ht hk he hs h fun d C s' m H' J q hn f => ?_) fun _ s' hq => wpAny_pure (wpAny_pure hq))
  show wpAny _ _ (assign (.Name y py) X.env (.ref d)) _ _ _
  refine wpAny_assign_Name (store_ok2 (v := V.ref d) J hN hy (.inl hyl) rfl (fun s2 J2 ⟨a, sb, ha⟩ => ?_) (.inr hyl))
  obtain ⟨f0, f1, f2, f3, f4, f5⟩ := f
  have ne : C ≠ a := by
    rcases ha with z | z
    · rw [z]; exact f1
    · exact fun e => f4 y a z e.symm
  exact ⟨m, hn.sameBut sb ne, fun h3 sb3 => ⟨_, H', J2.turned (t' := s2.toks) (fun b o hb e => (sb3.2 b hb).trans e) f0 f1 f3 f4 f5, q⟩⟩
end Pan
namespace Pan
open PySem PySem.Spec L2
open PyProof.Rows hiding St
variable [TabsIn]
def rputs (acc rows : List Row) : List Row := rows.foldl (fun a r => rput a r.1 r.2.1 r.2.2) acc
theorem rputs_paired : ∀ {rows : List Row} {ps : List (List Int × Addr × Value)} {acc : List Row} {xs : List (List Int × Addr × Value)}, Paired RowR acc xs → Paired RowR rows ps → Paired RowR (rputs acc rows) (storedAllH xs ps)
  | _, _, _, _, h, .nil => h
  | _, _, _, _, h, .cons (a := r) (b := q) hr t => by
    obtain ⟨e1, e2, e3⟩ := hr
    show Paired RowR (rputs (rput _ r.1 r.2.1 r.2.2) _) (storedAllH (storedH _ q.1 q.2.1 q.2.2) _)
    rw [← e1, ← e2]
    exact rputs_paired (rows_put h r.1 r.2.1 e3) t
theorem rputs_len : ∀ (rows acc : List Row), (rputs acc rows).length ≤ acc.length + rows.length
  | [], acc => Nat.le_refl _
  | r :: rows, acc => by
    have h1 := rputs_len rows (rput acc r.1 r.2.1 r.2.2)
    have h2 := rput_len acc r.1 r.2.1 r.2.2
    show (rputs (rput acc r.1 r.2.1 r.2.2) rows).length ≤ _
    rw [List.length_cons]
    omega
section
variable {X : Cx} {pins : List (Addr × Obj)} {σ : St} {H : Hp} {s : Shared}
theorem pairs_in (I : Inv X pins σ H s) : ∀ {as : List Addr} {rows : List Row}, Paired (fun (p : Addr) (r : Row) => SqT X.K H p [.ref r.2.1, r.2.2] ∧ SqT X.K H r.2.1 (r.1.map V.int)) as rows →
    ∃ ps : List (List Int × Addr × Value), Paired RowR rows ps ∧ ps.length = as.length ∧ (∀ (j : Nat) (q : List Int × Addr × Value), ps[j]? = some q → ∃ b, as[j]? = some b ∧ IsTup s.heap b #[.ref q.2.1, q.2.2]) ∧ ∀ q ∈ ps, SqT X.K H q.2.1 (q.1.map V.int)
  | _, _, .nil => ⟨[], .nil, rfl, fun j q e => by simp at e, fun q h => by cases h⟩
  | _, _, .cons (a := p) (b := r) h t => by
    obtain ⟨ps, pr, hl, hp, hk⟩ := pairs_in I t
    obtain ⟨its, rv, ht, _⟩ := I.tuple h.1
    obtain ⟨u, y, ei, ru, ry⟩ := vals2 rv
    subst ei
    cases (show u = Value.ref r.2.1 from ru)
    refine ⟨(r.1, r.2.1, y) :: ps, .cons ⟨rfl, rfl, ry⟩ pr, by rw [List.length_cons, List.length_cons, hl], fun j q e => ?_, fun q hq => ?_⟩
    · cases j with
      | zero =>
        have e' : (r.1, r.2.1, y) = q := Option.some.inj e
        subst e'
        exact ⟨p, rfl, ht⟩
      | succ j =>
        obtain ⟨b, e1, e2⟩ := hp j q (by simpa using e)
        exact ⟨b, by simpa using e1, e2⟩
    · rcases List.mem_cons.mp hq with e | hq
      · subst e; exact h.2
      · exact hk q hq
end
section
variable {X : Cx}
/-- dict(pairs) -/
theorem call_dictT (hc : X.calm = true) (hu : X.A.units + 3 < cLine) : CallR X (.type "dict") (fun xs H Q => ∃ (a : Addr) (as : List Addr) (rows : List Row), xs = [.ref a] ∧ SqL X.K H a (as.map V.ref) ∧ Paired (fun (p : Addr) (r : Row) => SqT X.K H p [.ref r.2.1, r.2.2] ∧ SqT X.K H r.2.1 (r.1.map V.int)) as rows ∧
    ∀ p, H p = none → Q (.ref p) (upd H p (dO p (rputs [] rows)))) := by
  intro pins s σ H xs us Q I r h
  obtain ⟨a, as, rows, rfl, hl, pr, q⟩ := h
  obtain ⟨u, rfl, ru⟩ := vals1 r
  cases (show u = Value.ref a from ru)
  obtain ⟨its, rv, pl, hz⟩ := I.list hl
  have ei := refs_at rv
  obtain ⟨ps, rel, hlen, hpt, hkeys⟩ := pairs_in I pr
  have hrl : rows.length = ps.length := Paired.length rel
  have hn : as.length ≤ sizeLine := by rw [List.length_map] at hz; exact hz
  have okk : PlainSeq "list" s.heap a its.toArray ∧ PairItems s.heap its.toArray (fun j => (as[j]?).getD 0) (ps.map fun q => (Value.ref q.2.1, q.2.2)) := by
    refine ⟨pl, by rw [ei]; simp [hlen], fun j k v e => ?_⟩
    rw [List.getElem?_map] at e
    cases hq : ps[j]? with
    | none => rw [hq] at e; cases e
    | some q' =>
      rw [hq] at e
      cases e
      obtain ⟨b, e1, e2⟩ := hpt j q' hq
      refine ⟨by rw [ei]; simp [e1], ?_⟩
      show PairAt s.heap ((as[j]?).getD 0) _ _
      rw [e1]
      exact .inl e2
  refine call_dict_pairsH (knd := tupleKind (intKind X.prog X.w)) (ps := ps) (PairArg.list a its.toArray (fun j => (as[j]?).getD 0) (ps.map fun q => (Value.ref q.2.1, q.2.2))) (I.ok.hd hc) (show X.A.in1.in1.units < cLine from by show X.A.units + 2 < cLine; omega) okk ⟨by rw [List.length_map], fun i key v e => ?_⟩ (fun h' hk x hx => ?_) (by rw [List.length_map, hlen]; exact hn) fun h' tk hd' kp => ?_
  · have e : (ps.map fun q => (Value.ref q.2.1, q.2.2))[i]? = some (key, v) := e
    rw [List.getElem?_map] at e
    cases hq : ps[i]? with
    | none => rw [hq] at e; cases e
    | some q' =>
      rw [hq] at e
      cases e
      exact ⟨q'.1, q'.2.1, rfl, rfl⟩
  · have t := keyOfT I (hkeys x hx)
    obtain ⟨o, items, n, ho, r⟩ := t
    exact ⟨o, items, n, hk _ _ (Nat.ne_of_lt (Heap.lt_size ho)) (by simp) ho, r⟩
  · have kp' : ∀ b o, s.heap.get? b = some o → h'.get? b = some o := fun b o e => kp b o (by simp) e
    obtain ⟨o, es, ep, h1, h2, h3, h4, _, h5⟩ := hd'
    refine ⟨.ref s.heap.objs.size, _, I.laid (t' := tk) kp' (Nat.le_refl _) (dO_ok ⟨?_, beq_eq_false_iff_ne.mpr (Ne.symm (Nat.ne_of_lt I.big)), _, rputs_paired .nil rel, o, es, ep, h1, h2, h3, h4, h5⟩), rfl, q _ (I.hok.fresh (Nat.le_refl _))⟩
    have := rputs_len rows []
    rw [List.length_nil] at this
    omega
/-- {k: v} -/
def tDsp (K : PySem.W.Frag) (tk tv : TE) : TE := fun σ H Q => ∀ p, H p = none → tk σ (upd H p (dO p [])) fun x H1 => tv σ H1 fun y H2 => ∃ b k z, [(x, y)] = [(V.ref b, z)] ∧ H2 p = some (dO p []) ∧ SqT K H2 b (k.map V.int) ∧ Q (.ref p) (upd H2 p (dO p [(k, b, z)]))
theorem pe_dsp {kx vx : Expr} {pos : Pos} {tk tv : TE} (hu : X.A.units + 1 < cLine) (hk : PE X kx tk) (hv : PE X vx tv) : PE X (.Dict [some kx] [vx] pos) (tDsp X.K tk tv) := by
  refine ⟨fun pins s σ H Q I q => ?_⟩
  have hn := I.hok.fresh (Nat.le_refl s.heap.objs.size)
  have I1 := I.laid (a := s.heap.objs.size) (o := dO s.heap.objs.size []) (h' := s.heap.push { cls := .type "dict", data := .dict #[] }) (t' := s.toks) (fun _ _ q => Heap.get?_push_of_some _ q) (Nat.le_refl _) (dO_empty s.heap I.big)
  have q0 : tPairs [(tk, tv)] σ (upd H s.heap.objs.size (dO s.heap.objs.size [])) fun ps H2 => ∃ b k y, ps = [(V.ref b, y)] ∧ H2 s.heap.objs.size = some (dO s.heap.objs.size []) ∧ SqT X.K H2 b (k.map V.int) ∧ Q (.ref s.heap.objs.size) (upd H2 s.heap.objs.size (dO s.heap.objs.size [(k, b, y)])) :=
    q _ hn
  refine wpAny_Dict_any rfl rfl (by simp) (by simp) (thn ((pps_cons (X := X) (pos := pos) hk hv pps_nil).run pins _ σ _ _ I1 q0) fun ws s2 ⟨ps, H2, I2, rel, b, k, y, ep, e, eb, q2⟩ => ?_)
  subst ep
  cases rel with
  | @cons p0 w ps0 ws0 h1 t =>
    cases t
    obtain ⟨w1, w2⟩ := w
    cases (show w1 = Value.ref b from h1.1)
    obtain ⟨_, hd, xs, rx, dd⟩ := dict_of I2 (.inl e) (fun r hr => by cases hr)
    cases rx
    refine wpAny_storeAllH (knd := tupleKind (intKind X.prog X.w)) (show X.A.units < cLine by omega) [(.ref b, w2)] [(k, b, w2)] [] s2 _ ⟨rfl, rfl, keyOfT I2 eb, trivial⟩ dd (show 1 ≤ sizeLine by decide) fun h' tk dd' hs => ?_
    obtain ⟨o, es, ep, z1, z2, z3, z4, _, z5⟩ := dd'
    refine ⟨.ref s.heap.objs.size, _, ?_, rfl, q2⟩
    exact d_write I2 (by rw [e]; exact True.intro) hs ⟨o, z1⟩ (dO_ok ⟨show 1 ≤ sizeLine by decide, hd, [(k, b, w2)], .cons ⟨rfl, rfl, h1.2⟩ .nil, o, es, ep, z1, z2, z3, z4, z5⟩)
end
section
variable {X : Cx} {W : WX} {cl : Nat → Value} {kx vx : Expr} {rk rv : Env → R D} {pos : Pos}
theorem cn_dsp (hu : X.A.units + 1 < cLine) (hk : PE X kx (tE X.K W cl rk)) (hv : PE X vx (tE X.K W cl rv)) : PE X (.Dict [some kx] [vx] pos) (tN X.K W cl fun e => do let k ← rk e; let v ← rv e; if keyT k then .ok (.dic true [(k, v)]) else .bad) := by
  refine PE.imp (pe_dsp hu hk hv) fun σ H Q _ q => ?_
  obtain ⟨e, F, vr, w⟩ := q
  intro p hp
  have x0 := Ext.made (dO p []) vr.sub hp
  dsimp only at w
  cases hk : rk e with
  | bad => rw [hk] at w; exact w.elim
  | exc c => rw [hk] at w; exact ⟨e, F, vr.mono x0, by rw [hk]; exact Wp.step w x0⟩
  | ok k =>
    rw [hk] at w
    refine ⟨e, F, vr.mono x0, ?_⟩
    rw [hk]
    intro F1 H1 x1 vk rk'
    have w1 : Wp W cl (rv e >>= fun v => if keyT k then .ok (.dic true [(k, v)]) else .bad) σ F H fun d F' H' => ∀ a, NewR X.K F' H' H a d → Q (.ref a) H' := w
    cases hv : rv e with
    | bad => rw [hv] at w1; exact w1.elim
    | exc c => rw [hv] at w1; exact ⟨e, F1, (vr.mono x0).mono x1, by rw [hv]; exact Wp.step w1 (x0.trans x1)⟩
    | ok v =>
      rw [hv] at w1
      have w2 : Wp W cl (if keyT k then .ok (.dic true [(k, v)]) else .bad) σ F H fun d F' H' => ∀ a, NewR X.K F' H' H a d → Q (.ref a) H' := w1
      split at w2
      · rename_i hkt
        refine ⟨e, F1, (vr.mono x0).mono x1, ?_⟩
        rw [hv]
        intro F2 H2 x2 vv rv'
        obtain ⟨b, ks, rfl, rfl, eb⟩ := keyT_of (rk'.mono x2.grow) hkt
        have hp2 : H2 p = some (dO p []) := x2.same.at (x1.same.at upd_same)
        have f1 : F1 p = none := x1.keepNone (vr.sub.none hp) upd_same (by intro _ z; cases z)
        have f2 : F2 p = none := x2.keepNone f1 (x1.same.at upd_same) (by intro _ z; cases z)
        refine ⟨b, ks, vv, rfl, hp2, (x2.sub.tup eb).sq, ?_⟩
        exact w2 F2 _ (((x0.trans x1).trans x2).poke hp f2 hp2 (nC_dO _ _)) p ⟨hp, f2, _, upd_same, .cons eb rv' .nil⟩
      · exact w2.elim
theorem pairs_rows {K : PySem.W.Frag} {F : Hp} : ∀ {xs : List V} {ds : List D} {es : List (D × D)}, Rps K F xs ds → pairsOf ds = some es → ∃ (as : List Addr) (rows : List Row), xs = as.map V.ref ∧ Paired (fun (p : Addr) (r : Row) => IsT F p [.ref r.2.1, r.2.2] ∧ IsT F r.2.1 (r.1.map V.int)) as rows ∧
    ∀ {acc : List Row} {accd : List (D × D)}, RkT K F acc accd → RkT K F (rputs acc rows) (es.foldl (fun a p => dput p.1 p.2 a) accd)
  | _, _, es, .nil, h => by
    cases h
    exact ⟨[], [], rfl, .nil, fun r => r⟩
  | _, _, es, .cons (d := d) h1 r, h => by
    rename_i xs' v0 ds'
    cases d with
    | tup l =>
     match l, h1, h with
     | [k, v], h1, h =>
      simp only [pairsOf] at h
      split at h
      · rename_i hk
        cases hq : pairsOf ds' with
        | none => rw [hq] at h; cases h
        | some es' =>
          rw [hq] at h
          cases h
          obtain ⟨as, rows, e1, pr, fin⟩ := pairs_rows r hq
          cases h1 with
          | tup ea ra =>
            cases ra with
            | cons g1 ra =>
              cases ra with
              | cons g2 ra =>
                cases ra
                obtain ⟨b, ks, rfl, rfl, eb⟩ := keyT_of g1 hk
                refine ⟨_ :: as, (ks, b, _) :: rows, by rw [e1]; rfl, .cons ⟨ea, eb⟩ pr, fun rt => ?_⟩
                exact fin (dput_T ks eb g2 rt)
      · cases h
     | [], h1, h => simp [pairsOf] at h
     | [_], h1, h => simp [pairsOf] at h
     | _ :: _ :: _ :: _, h1, h => simp [pairsOf] at h
    | _ => simp [pairsOf] at h
theorem bi_dict (hc : X.calm = true) (hu : X.A.units + 3 < cLine) : CallR X (.type "dict") (rBi X.K .dict) := by
  refine CallR.imp (call_dictT hc hu) fun vs H Q _ h => ?_
  obtain ⟨F, ds, d, s, r, e, g⟩ := h
  obtain ⟨v, a, rfl, rfl, h1⟩ : ∃ v a, vs = [v] ∧ ds = [a] ∧ Rp X.K F v a := by
    cases r with
    | nil => simp [biS] at e
    | cons h1 r =>
      cases r with
      | nil => exact ⟨_, _, rfl, rfl, h1⟩
      | cons _ _ => simp [biS] at e
  clear r
  cases h1 <;> simp only [biS] at e <;> try cases e
  rename_i ea r
  unfold dictS at e
  split at e
  · rename_i es he
    cases e
    obtain ⟨as, rows, rfl, pr, fin⟩ := pairs_rows r he
    refine ⟨_, as, rows, rfl, SqL.of (s.lst ea), Paired.mapP pr fun _ _ z => ⟨(s.tup z.1).sq, (s.tup z.2).sq⟩, fun p hp => ?_⟩
    have x := Ext.laid (dO p (rputs [] rows)) s hp
    exact g _ _ _ x (.dT (.inl upd_same) ((fin .nil).mono x.grow))
  · cases e
end
end Pan
namespace Pan
open PySem PySem.Spec L2
open PyProof.Rows hiding St
variable [TabsIn]
/-- an empty set's object -/
abbrev set0 (w : World) : Obj := { cls := .type "set", dict := none, data := .set #[] 0 (.fresh 0 0 (!w.params.followText "set-order")) }
/-- a heap with an empty set and an iterator over the list l -/
abbrev setHp (w : World) (h : Heap) (l : Addr) : Heap := (h.push (set0 w)).push { cls := .type "list_iterator", data := .fields #[.ref l, .int 0 0] }
section
variable {P : Program} {w : World} {A : Around} {E : Value → Shared → Prop} {s : Shared}
set_option maxHeartbeats 3200000 in
theorem call_setL {l : Addr} {items : Array Value} {Left : Heap → Prop} {Q : Value → Shared → Prop} (hl : s.heap.IsList l items)
    (loop : ∀ R : Result → Shared → Prop, (∀ h' tk, Left h' → (∀ b o, s.heap.get? b = some o → h'.get? b = some o) → R (.ok (.ret .none)) { s with heap := h', toks := tk }) →
      codeAny (model P w) A.in1.in1 (.builtin "set.update.loop" ⟨[.ref s.heap.objs.size, .ref (s.heap.push (set0 w)).objs.size], []⟩) R { s with heap := setHp w s.heap l })
    (fin : ∀ (h' : Heap) (tk : Nat), Left h' → (∀ b o, s.heap.get? b = some o → h'.get? b = some o) → Q (.ref s.heap.objs.size) { s with heap := h', toks := tk }) :
    wpAny (model P w) A (call (.type "set") [.ref l]) Q E s := by
  obtain ⟨mc, mt, hmro⟩ := F.called_set.mro
  have hmade := F.called_set.made
  have hsub := F.called_set.sub
  refine wpAny_call (codeAny_of_tree ?_)
  show wpAny _ _ (callAny (.type "set") _) _ _ _
  refine wpAny_pure ⟨Code.quiet_builtin _ (by decide +kernel), codeAny_builtin F.entry_type_call ?_⟩
  rw [Around.under_plain (weight_type_call_type "set" [.ref l] []) rfl]
  have k1 := F.called_set.notType
  have k2 := F.called_set.canCreate
  have k3 := F.typeCall_set_1 (.ref l)
  repeat (any_goals (first | assumption | wp_step))
  refine codeAny_mono (code_set_led1 (.ref l) (E := E) (Q₁ := fun ob s₁ => ob = .ref s.heap.objs.size ∧ s₁ = { s with heap := s.heap.push (set0 w) }) ⟨rfl, rfl⟩) fun r s₁ hr => ?_
  cases r with
  | error e => exact hr
  | ok fl =>
    cases fl with
    | ret ob =>
      obtain ⟨rfl, rfl⟩ := hr
      have hS : (s.heap.push (set0 w)).get? s.heap.objs.size = some (set0 w) := Heap.get?_push_size _ rfl
      have hT : Shared.TypeIs { s with heap := s.heap.push (set0 w) } (.ref s.heap.objs.size) "set" := ⟨_, hS, rfl⟩
      have k4 := F.called_set.init.lookup
      have k5 := F.called_set.init.bind (.ref s.heap.objs.size)
      repeat (any_goals (first | assumption | wp_step))
      refine codeAny_mono (codeAny_call_builtin (R := wants (fun r s₂ => r = .none ∧ ∃ h' tk, s₂ = { s with heap := h', toks := tk } ∧ Left h' ∧ (∀ b o, s.heap.get? b = some o → h'.get? b = some o)) E) F.called_set.init.plain F.entry_set_init (check_set_init_1 hT ?_)) fun r₂ s₂ hr₂ => ?_
      · obtain ⟨⟨oc, od, odt, osl⟩, hol, hcl, nl, hdl⟩ := hl
        simp only at hcl hdl
        subst hcl hdl
        have hol' : (s.heap.push (set0 w)).get? l = some { cls := .type "list", dict := od, data := .seq items nl, slots := osl } := Heap.get?_push_of_some _ hol
        have k6 := F.sub_list_set
        have k7 := F.sub_list_frozenset
        have k8 : (Value.type "list" == Value.type "dict") = false := by decide
        have hl1 : (s.heap.push (set0 w)).IsList l items := ⟨_, hol', rfl, nl, rfl⟩
        unfold Builtin.«set.__init__» noKeywords Builtin.Frozenset.updateFrom
        generalize hPI : pyIter = PI
        wp_walk
        subst hPI
        refine wpAny_pyIter_list hl1 (wpAny_bind (wpAny_runValue ?_))
        refine loop _ fun h' tk lf kp => ?_
        show wpAny _ _ _ _ _ _
        refine wpAny_pure ?_
        show wpAny _ _ (ret Value.none) _ _ _
        exact wpAny_pure ⟨rfl, h', tk, rfl, lf, kp⟩
      · cases r₂ with
        | error e => exact hr₂
        | ok fl₂ =>
          cases fl₂ with
          | ret r =>
            obtain ⟨rfl, h', tk, rfl, lf, kp⟩ := hr₂
            repeat (any_goals (first | assumption | wp_step))
            exact fin _ _ lf kp
          | _ => exact hr₂.elim
    | _ => exact hr.elim
/-- the loop over ints -/
theorem set_ints_loop {l : Addr} {items : Array Value} {ns : List Int} (hh : A.handled = none) (hl : s.heap.IsList l items) (hit : IntsAre items.toList ns) (hb : ns.length + 1 < scanBound) (R : Result → Shared → Prop)
    (hR : ∀ h' tk, (∃ c, SetR w h' s.heap.objs.size (fun j => decide (j ∈ ns)) c) → (∀ b o, s.heap.get? b = some o → h'.get? b = some o) → R (.ok (.ret .none)) { s with heap := h', toks := tk }) :
    codeAny (model P w) A (.builtin "set.update.loop" ⟨[.ref s.heap.objs.size, .ref (s.heap.push (set0 w)).objs.size], []⟩) R { s with heap := setHp w s.heap l } := by
  obtain ⟨⟨oc, od, odt, osl⟩, hol, hcl, nl, hdl⟩ := hl
  simp only at hcl hdl
  subst hcl hdl
  have hll : l < s.heap.objs.size := Heap.lt_size hol
  have hz : (s.heap.push (set0 w)).objs.size = s.heap.objs.size + 1 := Heap.size_push ..
  have e0 : setHp w s.heap l = setHp w s.heap l := rfl
  have isz : items.size = ns.length := by
    have := IntsAre.length hit
    rwa [Array.length_toList] at this
  have at_ : ∀ (i : Nat) (v : Value), items[i]? = some v → ∃ k t, ns[i]? = some k ∧ v = .int k t := fun i v hv => by
    have hi : i < ns.length := by rw [← isz]; exact (Array.getElem?_eq_some_iff.mp hv).1
    obtain ⟨t, e⟩ := PyProof.Rows.IntsAre.int_at hit i v (by rw [Array.getElem?_toList]; exact hv)
    refine ⟨ns[i], t, List.getElem?_eq_getElem hi, ?_⟩
    rw [e, List.getD_eq_getElem?_getD, List.getElem?_eq_getElem hi] <;> rfl
  have hl2 : (setHp w s.heap l).IsList l items := ⟨_, Heap.get?_push_of_some _ (Heap.get?_push_of_some _ hol), rfl, nl, rfl⟩
  have hne : l ≠ (s.heap.push (set0 w)).objs.size := by rw [hz]; exact Nat.ne_of_lt (Nat.lt_succ_of_lt hll)
  have hnf : s.heap.objs.size ∉ [(s.heap.push (set0 w)).objs.size, l] := by
    simp only [List.mem_cons, List.not_mem_nil, or_false, not_or]
    exact ⟨by rw [hz]; exact Nat.ne_of_lt (Nat.lt_succ_self _), Nat.ne_of_gt hll⟩
  refine set_update_ints ((Walks.list (prog := P) (w := w) (A := A.in1) hh (s.heap.push (set0 w)).objs.size l hne items).toS) s.heap.objs.size hnf ns isz hb at_ items.size 0 _ (by omega) (Nat.zero_le _)
    ⟨⟨_, Heap.get?_push_size _ rfl, rfl, rfl⟩, hl2⟩ ⟨0, Nat.le_refl 0, setR_new_at (Heap.get?_push_of_some _ (Heap.get?_push_size _ rfl))⟩ fun s' c hm hc hS' => ?_
  obtain ⟨h', g2, d', tk', os'⟩ := s'
  have eg : g2 = s.gens := hm.gens
  have ed : d' = s.drawn := hm.drawn
  have eo : os' = s.os := hm.os
  subst eg ed eo
  refine hR h' tk' ⟨c, hS'⟩ fun b o e => ?_
  have hb0 : b < s.heap.objs.size := Heap.lt_size e
  exact hm.heap b o (by simp only [List.mem_cons, List.not_mem_nil, or_false, not_or]; exact ⟨Nat.ne_of_lt hb0, by rw [hz]; exact Nat.ne_of_lt (Nat.lt_succ_of_lt hb0)⟩) (Heap.get?_push_of_some _ (Heap.get?_push_of_some _ e))
end
/-- a set of ints, by its members -/
theorem SetR.has {w : World} {h : Heap} {a : Addr} {S : Int → Bool} {n : Nat} (q : SetR w h a S n) : ∃ ns : List Int, ns.Nodup ∧ (∀ k, k ∈ ns ↔ S k = true) ∧ SetHas w a (ns.map V.int) h := by
  obtain ⟨o, es, ep, t, ho, hx, hd, good, nd, mem, hsz, hf, _, hr, hl⟩ := q
  refine ⟨es.toList.map L2.keyOf, nd, fun k => (mem k).symm, es, ep, t, ⟨o, ho, hx.1, hd⟩, fun o' e => ?_, hf, hsz, hr, hl, ?_⟩
  · rw [ho] at e
    cases e
    exact hx
  · have all : ∀ {l : List (Int × Value)}, (∀ e ∈ l, GoodE e) → Vals ((l.map L2.keyOf).map V.int) (l.map (·.2)) := by
      intro l
      induction l with
      | nil => intro _; exact .nil
      | cons e l ih =>
        intro hg
        refine .cons ?_ (ih fun x hx => hg x (List.mem_cons_of_mem _ hx))
        obtain ⟨k, tk, e1, _⟩ := hg e List.mem_cons_self
        show RelV (V.int (L2.keyOf e)) e.2
        unfold L2.keyOf
        rw [e1]
        exact ⟨tk, rfl⟩
    exact all good
end Pan
namespace Pan
open PySem PySem.Spec L2
open PyProof.Rows hiding St
def MaskQ (m : Nat) : Prop := MaskOk m ∨ m = 511
def orb : Nat → Nat → List Nat
  | 0, _ => []
  | n + 1, x => x :: orb n ((x * 5 + 1) % 512)
theorem orb_all : ((List.range 512).all fun j => (orb 512 0).contains j) = true := by decide +kernel
theorem orb_at (a : Nat) : ∀ (n : Nat) (j : Nat), j ∈ orb n (lcgN 511 a) → ∃ b, b < n ∧ lcgN 511 (a + b) = j
  | 0, j, h => by cases h
  | n + 1, j, h => by
    rcases List.mem_cons.mp h with e | h
    · exact ⟨0, by omega, e.symm⟩
    · obtain ⟨b, h1, h2⟩ := orb_at (a + 1) n j h
      exact ⟨b + 1, by omega, by rw [← h2]; congr 1; omega⟩
theorem cyc0 {j : Nat} (h : j ≤ 511) : ∃ b, b ≤ 511 ∧ lcgN 511 b = j := by
  have q := List.all_eq_true.mp orb_all j (List.mem_range.mpr (by omega))
  obtain ⟨b, h1, h2⟩ := orb_at 0 512 j (List.contains_iff_mem.mp q)
  exact ⟨b, by omega, by rw [← h2]; congr 1; omega⟩
theorem cyc_per : ∀ k, lcgN 511 (512 + k) = lcgN 511 k
  | 0 => by decide +kernel
  | k + 1 => by
    have e : lcgN 511 (512 + (k + 1)) = (lcgN 511 (512 + k) * 5 + 1) % 512 := rfl
    rw [e, cyc_per k]
    rfl
theorem cyc_any {m : Nat} (q : MaskQ m) {a b : Nat} (ha : a ≤ m) (hb : b ≤ m) : ∃ k, k ≤ m ∧ lcgI m a k = b := by
  rcases q with q | rfl
  · exact lcgI_all q ha hb
  · obtain ⟨x, hx, ex⟩ := cyc0 ha
    obtain ⟨y, hy, ey⟩ := cyc0 hb
    subst ex
    by_cases z : x ≤ y
    · exact ⟨y - x, by omega, by rw [lcgN_add, show x + (y - x) = y by omega, ey]⟩
    · exact ⟨y + 512 - x, by omega, by rw [lcgN_add, show x + (y + 512 - x) = 512 + y by omega, cyc_per, ey]⟩
theorem run_hits {m : Nat} (q : MaskQ m) (u : Int) {j : Nat} (hj : j ≤ m) : ∃ n, n ≤ m + 12 ∧ runI m (SetTable.bits u) n = j :=
  let ⟨k, h1, h2⟩ := cyc_any q (runI_le m (SetTable.bits u) 12) hj
  ⟨12 + k, by omega, (runI_tail (bits_lt u) k).trans h2⟩
theorem way_hits {m : Nat} (q : MaskQ m) (u : Int) {j : Nat} (hj : j ≤ m) : ∃ k, k < 10 * SetTable.turns m ∧ way m u k = j := by
  obtain ⟨n, h1, h2⟩ := run_hits q u hj
  obtain ⟨k, h3, h4⟩ := run_nth m (SetTable.bits u) n
  refine ⟨k, ?_, (congrArg SetTable.Probe.j h4).trans h2⟩
  unfold SetTable.turns
  omega
theorem way_in (m : Nat) (u : Int) (k : Nat) : way m u k ≤ m := by
  have h0 : SetTable.bits u % (m + 1) ≤ m := by
    exact Nat.le_of_lt_succ (Nat.mod_lt _ (Nat.succ_pos m))
  obtain ⟨r1, r2, _⟩ := runEnd_bd h0
  have := nth_in k (runAt m (SetTable.bits u % (m + 1)) (SetTable.bits u)) (show (SetTable.bits u % (m + 1)) + (SetTable.runEnd m (SetTable.bits u % (m + 1)) - SetTable.bits u % (m + 1)) ≤ m by omega)
  exact Nat.le_trans (Nat.le_add_right _ _) this
/-- each entry is found on its way -/
def Finds (m : Nat) (pl : List Nat) (hs : List Int) : Prop := ∀ (i : Nat) (u : Int) (j : Nat), hs[i]? = some u → pl[i]? = some j → ∃ k, way m u k = j ∧ ∀ l, l < k → way m u l ∈ pl
structure TabQ (t : SetTable) (hs : List Int) : Prop where
  ris : Ris t.place.toList
  dm : t.dummies = #[]
  sz : t.place.size = hs.length
  mok : MaskQ t.mask
  bd : ∀ x ∈ t.place.toList, x ≤ t.mask
  finds : Finds t.mask t.place.toList hs
theorem mask_oddQ {m : Nat} (h : MaskQ m) : m % 2 = 1 := by
  rcases h with h | rfl
  · exact mask_odd h
  · rfl
section
variable {t : SetTable} {hs : List Int} (T : TabQ t hs)
include T
theorem TabQ.plen : t.place.toList.length = hs.length := (Array.length_toList ..).trans T.sz
theorem TabQ.first (hl : hs.length ≤ t.mask) (u : Int) : ∃ m, m < 10 * SetTable.turns t.mask ∧ way t.mask u m ∉ t.place.toList ∧ ∀ c, c < m → way t.mask u c ∈ t.place.toList := by
  obtain ⟨j, h1, h2⟩ := st_missing t.place.toList (t.mask + 1) (by rw [T.plen]; omega)
  obtain ⟨k, h3, h4⟩ := way_hits T.mok u (show j ≤ t.mask by omega)
  obtain ⟨m, m1, m2, m3⟩ := st_least (p := fun c => way t.mask u c ∉ t.place.toList) k (by rw [h4]; exact h2)
  exact ⟨m, by omega, m2, fun c hc => Classical.byContradiction (m3 c hc)⟩
theorem TabQ.before {u : Int} {m i j : Nat} (hm : way t.mask u m ∉ t.place.toList) (hi : hs[i]? = some u) (hj : t.place.toList[i]? = some j) : ∃ c, c < m ∧ way t.mask u c = j := by
  obtain ⟨c, h1, h2⟩ := T.finds i u j hi hj
  refine ⟨c, Nat.lt_of_not_le fun z => ?_, h1⟩
  by_cases e : m = c
  · exact hm (by rw [e, h1]; exact List.mem_of_getElem? hj)
  · exact hm (h2 m (by omega))
theorem TabQ.put {u : Int} {m : Nat} (hm : way t.mask u m ∉ t.place.toList) (hb : ∀ c, c < m → way t.mask u c ∈ t.place.toList) :
    (t.put (way t.mask u m)).2 = SetTable.below t.place (way t.mask u m) ∧ SetTable.below t.place (way t.mask u m) ≤ hs.length ∧
    TabQ (t.put (way t.mask u m)).1 (hs.take (SetTable.below t.place (way t.mask u m)) ++ u :: hs.drop (SetTable.below t.place (way t.mask u m))) ∧
    (t.put (way t.mask u m)).1.mask = t.mask ∧ (t.put (way t.mask u m)).1.led = t.led ∧ (t.put (way t.mask u m)).1.plain = t.plain ∧ (t.put (way t.mask u m)).1.fill = hs.length + 1 := by
  have le := way_in t.mask u m
  have ew : ∃ j, way t.mask u m = j := ⟨_, rfl⟩
  obtain ⟨j, ew⟩ := ew
  rw [ew] at hm le ⊢
  obtain ⟨b1, _, _⟩ := below_cut T.ris j
  have bh : SetTable.below t.place j ≤ hs.length := by rw [← T.sz]; exact b1
  have bp : SetTable.below t.place j ≤ t.place.toList.length := by rw [T.plen]; exact bh
  have pl := put_place t j
  have sz : (t.put j).1.place.size = hs.length + 1 := by
    have := congrArg List.length pl
    rw [Array.length_toList, len_ins _ bp, T.plen] at this
    exact this
  have inn : ∀ x ∈ t.place.toList, x ∈ (t.put j).1.place.toList := fun x hx => by rw [pl]; exact mem_ins.mpr (.inr hx)
  have nat : t.place[SetTable.below t.place j]? ≠ some j := fun z => hm (List.mem_of_getElem? ((Array.getElem?_toList ..).trans z))
  refine ⟨rfl, bh, ⟨ris_insert T.ris nat, put_dm T.dm j, by rw [len_ins _ bh]; exact sz, T.mok, fun x hx => ?_, ?_⟩, rfl, rfl, rfl, ?_⟩
  · rw [pl] at hx
    rcases mem_ins.mp hx with rfl | hx
    · exact le
    · exact T.bd x hx
  · intro i v q h1 h2
    show ∃ k, way t.mask v k = q ∧ ∀ l, l < k → way t.mask v l ∈ (t.put j).1.place.toList
    rw [tins_get _ bh] at h1
    rw [pl, tins_get _ bp] at h2
    have old : ∀ i', hs[i']? = some v → t.place.toList[i']? = some q → ∃ k, way t.mask v k = q ∧ ∀ l, l < k → way t.mask v l ∈ (t.put j).1.place.toList := fun i' g1 g2 => by
      obtain ⟨k, f1, f2⟩ := T.finds i' v q g1 g2
      exact ⟨k, f1, fun l hl => inn _ (f2 l hl)⟩
    split at h1
    · rename_i c
      rw [if_pos c] at h2
      exact old i h1 h2
    · rename_i c
      rw [if_neg c] at h2
      split at h1
      · rename_i d
        rw [if_pos d] at h2
        cases h1
        cases h2
        exact ⟨m, ew, fun l hl => inn _ (hb l hl)⟩
      · rename_i d
        rw [if_neg d] at h2
        exact old (i - 1) h1 h2
  · show (t.put j).1.place.size + (t.put j).1.dummies.size = _
    rw [put_dm T.dm j, sz]
    rfl
end
theorem free_hit {m : Nat} (q : MaskQ m) (ow : Array (Option Nat)) (u : Int) {j : Nat} (hj : j ≤ m) (hf : oAt ow j = none) :
    ∃ c, SetTable.layClean.free m ow (SetTable.turns m) (SetTable.bits u % (m + 1)) (SetTable.bits u) = some (way m u c) ∧ oAt ow (way m u c) = none ∧ ∀ l, l < c → oAt ow (way m u l) ≠ none := by
  obtain ⟨n, h1, h2⟩ := run_hits q u hj
  have hw : way m u (off m (SetTable.bits u % (m + 1)) (SetTable.bits u) n) = j := by
    have z := congrArg SetTable.Probe.j (nth_off m n (SetTable.bits u % (m + 1)) (SetTable.bits u))
    rw [itL_run] at z
    exact z.trans h2
  obtain ⟨c, c1, c2, c3⟩ := st_least (p := fun c => oAt ow (way m u c) = none) _ (by rw [hw]; exact hf)
  refine ⟨c, free_spec m ow _ n _ _ c ?_ c1 (fun l hl => ?_) ?_, c2, c3⟩
  · unfold SetTable.turns
    omega
  · exact Option.isNone_eq_false_iff.mpr (Option.isSome_iff_ne_none.mpr (c3 l hl))
  · exact Option.isNone_iff_eq_none.mpr c2
theorem own_more {m : Nat} (q : MaskQ m) {us : List Int} {ow : Array (Option Nat)} (O : Own m us ow) (hl : us.length ≤ m) (u : Int) :
    ∃ j, SetTable.layClean.free m ow (SetTable.turns m) (SetTable.bits u % (m + 1)) (SetTable.bits u) = some j ∧ Own m (us ++ [u]) (ow.setIfInBounds j (some us.length)) := by
  obtain ⟨ps, l1, l2⟩ := O.ps
  obtain ⟨f, f1, f2⟩ := st_missing ps (m + 1) (by omega)
  have f3 : oAt ow f = none := Classical.byContradiction fun z => f2 (l2 f (by omega) z)
  obtain ⟨c, c1, c2, c3⟩ := free_hit q ow u (show f ≤ m by omega) f3
  have wi := way_in m u c
  have ws : way m u c < ow.size := by rw [O.sz]; omega
  have here := oAt_set_self (some us.length) ws
  have stay : ∀ i, oAt ow i ≠ none → oAt (ow.setIfInBounds (way m u c) (some us.length)) i ≠ none := fun i hi => by
    by_cases e : i = way m u c
    · rw [e, here]; simp
    · rw [oAt_set_ne _ e]; exact hi
  refine ⟨_, c1, ⟨by rw [Array.size_setIfInBounds]; exact O.sz, fun j k hj e => ?_, fun k hk => ?_, ⟨way m u c :: ps, by simp [l1], fun j hj e => ?_⟩⟩⟩
  · by_cases g : j = way m u c
    · rw [g, here] at e
      cases e
      exact ⟨u, c, by simp, g.symm, fun l hl => stay _ (c3 l hl)⟩
    · rw [oAt_set_ne _ g] at e
      obtain ⟨v, d, d1, d2, d3⟩ := O.at_ j k hj e
      exact ⟨v, d, by rw [List.getElem?_append_left (List.getElem?_eq_some_iff.mp d1).1]; exact d1, d2, fun l hl => stay _ (d3 l hl)⟩
  · by_cases g : k = us.length
    · exact ⟨_, wi, by rw [g]; exact here⟩
    · obtain ⟨j, d1, d2⟩ := O.all k (by rw [List.length_append, List.length_singleton] at hk; omega)
      refine ⟨j, d1, ?_⟩
      rw [oAt_set_ne _ fun z => by rw [z, c2] at d2; cases d2]
      exact d2
  · by_cases g : j = way m u c
    · rw [g]; exact List.mem_cons_self
    · rw [oAt_set_ne _ g] at e
      exact List.mem_cons_of_mem _ (l2 j hj e)
theorem own_fold {m : Nat} (q : MaskQ m) : ∀ (vs us : List Int) (ow : Array (Option Nat)), Own m us ow → us.length + vs.length ≤ m → ∃ ow', vs.foldl (stepF m) (some (ow, us.length)) = some (ow', us.length + vs.length) ∧ Own m (us ++ vs) ow'
  | [], us, ow, O, _ => ⟨ow, rfl, by rw [List.append_nil]; exact O⟩
  | v :: vs, us, ow, O, hl => by
    rw [List.length_cons] at hl
    obtain ⟨j, h1, h2⟩ := own_more q O (by omega) v
    obtain ⟨ow', h3, h4⟩ := own_fold q vs (us ++ [v]) _ h2 (by rw [List.length_append, List.length_singleton]; omega)
    refine ⟨ow', ?_, by rw [List.append_assoc] at h4; exact h4⟩
    rw [List.foldl_cons, stepF_some h1]
    rw [List.length_append, List.length_singleton] at h3
    rw [h3, List.length_cons]
    congr 2
    omega
theorem relaidQ (t : SetTable) {hs : Array Int} {want m : Nat} (wm : SetTable.sizeAbove want - 1 = m) (q : MaskQ m) (hn : hs.size ≤ m) :
    ∃ t' order, t.relaid hs want = some (t', order) ∧ order.toList.Perm (List.range hs.size) ∧ TabQ t' (order.toList.map fun i => hs.getD i 0) ∧ t'.mask = m ∧ t'.led = t.led ∧ t'.plain = t.plain := by
  obtain ⟨ow, h1, O⟩ := own_fold q hs.toList [] _ (Own.init m) (by rw [Array.length_toList]; show 0 + hs.size ≤ m; omega)
  rw [List.nil_append] at O
  have hr : t.relaid hs want = some (tabOf t m ow, ((liveOf m ow).map (·.2)).toArray) := by
    rw [relaid_eq, wm, layClean_eq]
    have h1 : hs.toList.foldl (stepF m) (some (Array.replicate (m + 1) none, 0)) = _ := h1
    rw [h1]
    rfl
  have pw : Ris (List.range (m + 1)) := by
    unfold Ris
    first | exact List.pairwise_lt_range | exact List.pairwise_lt_range _
  obtain ⟨r1, r2⟩ := ris_live (fun j => ow.getD j none) (List.range (m + 1)) pw
  have r1 : Ris ((liveOf m ow).map (·.1)) := r1
  have r2 : ∀ x ∈ (liveOf m ow).map (·.1), x ∈ List.range (m + 1) := r2
  have nd : ((liveOf m ow).map (·.1)).Nodup := r1.imp fun z => Nat.ne_of_lt z
  have ts : hs.toList.length = hs.size := Array.length_toList ..
  have len : (liveOf m ow).length = hs.size := by
    obtain ⟨ps, p1, p2⟩ := O.ps
    have a := nat_nodup_len _ ps nd fun x hx => by
      obtain ⟨⟨y, k⟩, g1, rfl⟩ := List.mem_map.mp hx
      obtain ⟨g2, g3⟩ := (mem_live O.sz).mp g1
      exact p2 y g2 (by rw [g3]; simp)
    have b := nat_nodup_len (List.range hs.size) ((liveOf m ow).map (·.2)) List.nodup_range fun k hk => by
      obtain ⟨j, g1, g2⟩ := O.all k (by rw [ts]; exact List.mem_range.mp hk)
      exact List.mem_map.mpr ⟨(j, k), (mem_live O.sz).mpr ⟨g1, g2⟩, rfl⟩
    rw [List.length_map, p1, ts] at a
    rw [List.length_map, List.length_range] at b
    omega
  refine ⟨_, _, hr, perm_range _ _ (by show ((liveOf m ow).map (·.2)).length = _; rw [List.length_map, len]) fun k hk => ?_, ⟨r1, rfl, ?_, q, fun x hx => ?_, fun i u j e1 e2 => ?_⟩, rfl, rfl, rfl⟩
  · obtain ⟨j, g1, g2⟩ := O.all k (by rw [ts]; exact hk)
    exact List.mem_map.mpr ⟨(j, k), (mem_live O.sz).mpr ⟨g1, g2⟩, rfl⟩
  · show ((liveOf m ow).map (·.1)).toArray.size = _
    rw [List.size_toArray, List.length_map, List.length_map, List.length_map]
  · have := List.mem_range.mp (r2 x hx)
    show x ≤ m
    omega
  · have e1 : (((liveOf m ow).map (·.2)).map fun i => hs.getD i 0)[i]? = some u := e1
    have e2 : ((liveOf m ow).map (·.1))[i]? = some j := e2
    rw [List.map_map, List.getElem?_map] at e1
    rw [List.getElem?_map] at e2
    cases hq : (liveOf m ow)[i]? with
    | none => rw [hq] at e2; cases e2
    | some p =>
      rw [hq] at e1 e2
      cases e2
      obtain ⟨g1, g2⟩ := (mem_live O.sz).mp (List.mem_of_getElem? hq)
      obtain ⟨v, d, d1, d2, d3⟩ := O.at_ p.1 p.2 g1 g2
      have ev : hs.getD p.2 0 = v := by
        rw [Array.getD_eq_getD_getElem?, ← Array.getElem?_toList, d1]
        rfl
      have eu : hs.getD p.2 0 = u := Option.some.inj e1
      rw [eu] at ev
      subst ev
      refine ⟨d, d2, fun l hl => ?_⟩
      show way m u l ∈ (liveOf m ow).map (·.1)
      cases z : oAt ow (way m u l) with
      | none => exact absurd z (d3 l hl)
      | some x => exact List.mem_map.mpr ⟨(way m u l, x), (mem_live O.sz).mpr ⟨way_in m u l, z⟩, rfl⟩
theorem size_77 : SetTable.sizeAbove (SetTable.grown 77) = 512 := by decide +kernel
end Pan
set_option maxHeartbeats 4000000
namespace Pan
open PySem PySem.Spec L2
open PyProof.Rows hiding St
variable [TabsIn]
/-- what is asked of a kind of keys -/
structure Kno (P : Program) (w : World) (κ : Type) [DecidableEq κ] where
  is : Heap → κ → Addr → Prop
  hs : κ → Int
  dr : κ → Nat
  keep : ∀ {h h' : Heap} {k : κ} {b : Addr}, is h k b → h'.get? b = h.get? b → is h' k b
  noset : ∀ {h : Heap} {k : κ} {b : Addr} {o : Obj} {es : Array (Int × Value)} {ep : Nat} {t : SetTable}, is h k b → h.get? b = some o → o.data = .set es ep t → False
  hash : ∀ {A : Around} {E : Value → Shared → Prop} {s : Shared} {k : κ} {a : Addr} {Q : Int → Shared → Prop}, A.units < cLine → is s.heap k a → Q (hs k) { s with toks := s.toks + dr k } → wpAny (model P w) A (PySem.pyHash (.ref a)) Q E s
  eq : ∀ {A : Around} {E : Value → Shared → Prop} {s : Shared} {x y : κ} {a b : Addr} {Q : Bool → Shared → Prop}, A.units < cLine → is s.heap x a → is s.heap y b → Q (decide (x = y)) s → wpAny (model P w) A (PySem.eqBool (.ref a) (.ref b)) Q E s
  calm : ∀ {A : Around} {E : Value → Shared → Prop} {s : Shared} {k : κ} {b : Addr} {ys : List Value} {Q : Bool → Shared → Prop}, is s.heap k b → (∀ y ∈ ys, ∃ k' c, y = Value.ref c ∧ is s.heap k' c) → Q false s → wpAny (model P w) A (searchCouldBeSeen (.ref b) ys) Q E s
  val : ∀ {A : Around} {E : Value → Shared → Prop} {s : Shared} {k : κ} {b : Addr} {Q : Bool → Shared → Prop}, is s.heap k b → Q true s → wpAny (model P w) A (hashByValue 8 (.ref b)) Q E s
section
variable {P : Program} {w : World} {κ : Type} [DecidableEq κ] (N : Kno P w κ)
/-- one entry of the set's array -/
def Kno.row (p : Addr × κ) : Int × Value := (N.hs p.2, Value.ref p.1)
/-- the set at a holds the keys of L -/
structure SetN (h : Heap) (a : Addr) (L : List (Addr × κ)) (es : Array (Int × Value)) (ep : Nat) (t : SetTable) : Prop where
  obj : ∃ o, h.get? a = some o ∧ o.ExactSet ∧ o.data = .set es ep t
  ent : es.toList = L.map N.row
  tab : TabQ t (L.map fun p => N.hs p.2)
  one : (L.map (·.2)).Nodup
  all : ∀ p ∈ L, N.is h p.2 p.1
  pln : t.plain = true
  led : w.params.followText "set-order" = true ∨ t.led = true
  big : L.length * 5 < t.mask * 3
  few : L.length < 300
variable {N} {A : Around} {E : Value → Shared → Prop} {s : Shared} {a : Addr} {L : List (Addr × κ)} {es : Array (Int × Value)} {ep : Nat} {t : SetTable}
theorem rows_size (q : es.toList = L.map N.row) : es.size = L.length := by
  rw [← Array.length_toList, q, List.length_map]
theorem rows_at (q : es.toList = L.map N.row) {i : Nat} {p : Addr × κ} (z : L[i]? = some p) : es[i]? = some (N.hs p.2, Value.ref p.1) := by
  rw [← Array.getElem?_toList, q, List.getElem?_map, z]
  rfl
theorem fit_of {n : Nat} (dm : t.dummies = #[]) (sz : t.place.size = n) (le : n ≤ t.mask) : t.fits n = true := by
  unfold SetTable.fits SetTable.fill
  rw [dm, Bool.and_eq_true, beq_iff_eq, decide_eq_true_eq]
  exact ⟨sz, by show t.place.size + 0 ≤ t.mask; omega⟩
theorem SetN.place (q : SetN N s.heap a L es ep t) : t.place.size = L.length := by
  have z := q.tab.sz
  rwa [List.length_map] at z
theorem SetN.fit (q : SetN N s.heap a L es ep t) : t.fits es.size = true := by
  have b := q.big
  exact fit_of q.tab.dm (by rw [q.place, rows_size q.ent]) (by rw [rows_size q.ent]; omega)
/-- the c-th step of the search for a hash -/
abbrev stp (t : SetTable) (h : Int) (c : Nat) : SetTable.Probe := nth t.mask (runAt t.mask (SetTable.bits h % (t.mask + 1)) (SetTable.bits h)) c
theorem stp_clean (t : SetTable) (h : Int) (c : Nat) : (stp t h c).dummy = none := by
  have go : ∀ (n : Nat) (p : SetTable.Probe), p.dummy = none → (nth t.mask p n).dummy = none := by
    intro n
    induction n with
    | zero => exact fun p z => z
    | succ n ih =>
      intro p z
      refine ih (adv t.mask p) ?_
      unfold adv
      split <;> exact z
  exact go c _ rfl
/-- the search, from its c-th step on; the first free place of the way is the m-th -/
theorem seek (q : SetN N s.heap a L es ep t) {x : Addr} {k : κ} (kx : N.is s.heap k x) (un : A.units < cLine) {m : Nat} (mt : m < 10 * SetTable.turns t.mask) (free : way t.mask (N.hs k) m ∉ t.place.toList) (taken : ∀ c, c < m → way t.mask (N.hs k) c ∈ t.place.toList)
    {Q : SetFound → Shared → Prop} (yes : k ∈ L.map (·.2) → Q (.there none) s) (no : k ∉ L.map (·.2) → Q (.free (way t.mask (N.hs k) m) false) s) :
    ∀ (f c : Nat) (st : Option SetTable.Probe), st.getD (t.probeStart (N.hs k)) = stp t (N.hs k) c → c ≤ m → m - c < f →
      (∀ (i : Nat) (p : Addr × κ), L[i]? = some p → p.2 = k → ∃ d, c ≤ d ∧ d < m ∧ t.place.toList[i]? = some (way t.mask (N.hs k) d)) → wpAny (model P w) A (setSearchFrom a (.ref x) (N.hs k) true f st) Q E s := by
  intro f
  induction f with
  | zero => exact fun c st _ _ z _ => absurd z (Nat.not_lt_zero _)
  | succ f ih =>
    intro c st e0 le lt ahead
    obtain ⟨o, eo, ex, dt⟩ := q.obj
    rw [setSearchFrom_succ]
    refine wpAny_bind (wpAny_setState_of eo dt q.fit ?_)
    dsimp only
    have odd : ¬ t.gaveWay = true := by
      unfold SetTable.gaveWay
      rw [mask_oddQ q.tab.mok]
      decide
    refine wp_if_neg odd ?_
    have shift : ∀ n, nth t.mask (stp t (N.hs k) c) n = stp t (N.hs k) (c + n) := fun n => (nth_add t.mask c _ n).symm
    have wayAt : ∀ n, (nth t.mask (stp t (N.hs k) c) n).j = way t.mask (N.hs k) (c + n) := fun n => congrArg SetTable.Probe.j (shift n)
    have hashes : ∀ (i : Nat) (p : Addr × κ), L[i]? = some p → (es[i]?.map (·.1)).getD 0 = N.hs p.2 := fun i p z => by
      rw [rows_at q.ent z]
      rfl
    rcases go_spec t q.tab.ris q.tab.dm (fun i => (es[i]?.map (·.1)).getD 0) (N.hs k) (10 * SetTable.turns t.mask) (m - c) _ (stp_clean t (N.hs k) c) (by omega) (fun n z => by rw [wayAt]; exact taken (c + n) (by omega))
      (by rw [wayAt, show c + (m - c) = m by omega]; exact free) with ⟨n, i, ln, ei, eh, before, pr⟩ | ⟨before, pr⟩
    · have pr2 : t.probe (fun i => (es[i]?.map (·.1)).getD 0) (N.hs k) (st.getD (t.probeStart (N.hs k))) = some (.candidate (way t.mask (N.hs k) (c + n)) i (stp t (N.hs k) (c + (n + 1)))) := by
        rw [e0, ← wayAt, ← shift]
        exact pr
      rw [pr2]
      dsimp only
      rw [wayAt] at ei
      have iL : i < L.length := by
        have z := (List.getElem?_eq_some_iff.mp ei).1
        rw [Array.length_toList, q.place] at z
        exact z
      obtain ⟨p, ep⟩ : ∃ p, L[i]? = some p := ⟨_, List.getElem?_eq_getElem iL⟩
      have pm : p ∈ L := List.mem_of_getElem? ep
      have live : t.slot (way t.mask (N.hs k) (c + n)) = .live i := slot_live q.tab.ris ei
      have on : wpAny (model P w) A (searchRest a (.ref x) (N.hs k) true f es t (way t.mask (N.hs k) (c + n)) i (stp t (N.hs k) (c + (n + 1)))) Q E s := by
        unfold searchRest
        rw [rows_at q.ent ep]
        dsimp only
        refine wpAny_bind (wpAny_holding (N.eq un (q.all p pm) kx ?_))
        refine wpAny_bind (wpAny_setState_of eo dt q.fit ?_)
        dsimp only
        by_cases same : p.2 = k
        · refine wp_if_pos (by simp [same]) ?_
          exact wpAny_pure (yes (List.mem_map.mpr ⟨p, pm, same⟩))
        · refine wp_if_neg (by simp [same]) ?_
          rw [sameMem]
          dsimp only
          simp only [if_true, live, rows_at q.ent ep]
          refine wpAny_bind (wpAny_isSame_ref_self (wpAny_bind (wpAny_pure ?_)))
          simp only [if_true]
          refine wp_if_neg (by simp [same]) ?_
          refine ih (c + (n + 1)) _ rfl (by omega) (by omega) fun i2 p2 z2 k2 => ?_
          obtain ⟨d, d1, d2, d3⟩ := ahead i2 p2 z2 k2
          refine ⟨d, ?_, d2, d3⟩
          by_cases z : d < c + n
          · exact absurd ((hashes i2 p2 z2).trans (congrArg N.hs k2)) (before (d - c) i2 (by omega) (by rw [wayAt, show c + (d - c) = d by omega]; exact d3))
          · by_cases y : d = c + n
            · rw [y] at d3
              have l2 := slot_live q.tab.ris d3
              rw [live] at l2
              injection l2 with l2
              rw [← l2, ep] at z2
              cases z2
              exact absurd k2 same
            · omega
      by_cases tl : t.led = true
      · exact wp_if_neg (by simp [tl]) on
      · refine wp_if_pos (by simp [tl]) ?_
        refine wpAny_bind (N.calm kx (fun y z => ?_) ?_)
        · obtain ⟨e, e1, rfl⟩ := List.mem_map.mp z
          have e2 : e ∈ es := by
            have e1 : e ∈ es ∧ e.1 = N.hs k := by simpa using e1
            exact e1.1
          have e3 : e ∈ es.toList := by simpa using e2
          rw [q.ent] at e3
          obtain ⟨p2, m2, rfl⟩ := List.mem_map.mp e3
          exact ⟨p2.2, p2.1, rfl, q.all p2 m2⟩
        · exact wp_if_neg (by decide) on
    · have pr2 : t.probe (fun i => (es[i]?.map (·.1)).getD 0) (N.hs k) (st.getD (t.probeStart (N.hs k))) = some (.empty (way t.mask (N.hs k) m) none) := by
        rw [e0, show way t.mask (N.hs k) m = (nth t.mask (stp t (N.hs k) c) (m - c)).j by rw [wayAt, show c + (m - c) = m by omega]]
        exact pr
      rw [pr2]
      dsimp only
      refine wpAny_pure (no fun z => ?_)
      obtain ⟨p2, m2, k2⟩ := List.mem_map.mp z
      obtain ⟨i2, z2⟩ := List.getElem?_of_mem m2
      obtain ⟨d, d1, d2, d3⟩ := ahead i2 p2 z2 k2
      exact before (d - c) i2 (by omega) (by rw [wayAt, show c + (d - c) = d by omega]; exact d3) ((hashes i2 p2 z2).trans (congrArg N.hs k2))
theorem seek_all (q : SetN N s.heap a L es ep t) {x : Addr} {k : κ} (kx : N.is s.heap k x) (un : A.units < cLine) {Q : SetFound → Shared → Prop} (yes : k ∈ L.map (·.2) → Q (.there none) s)
    (no : ∀ m, k ∉ L.map (·.2) → way t.mask (N.hs k) m ∉ t.place.toList → (∀ c, c < m → way t.mask (N.hs k) c ∈ t.place.toList) → Q (.free (way t.mask (N.hs k) m) false) s) : wpAny (model P w) A (setSearch a (.ref x) (N.hs k) true) Q E s := by
  have b := q.big
  obtain ⟨m, mt, free, taken⟩ := q.tab.first (by rw [List.length_map]; omega) (N.hs k)
  have small : m < 100000 := by
    have z : SetTable.turns t.mask ≤ 1000 := by
      unfold SetTable.turns
      rcases q.tab.mok with (e | e | e) | e <;> omega
    omega
  unfold setSearch
  refine seek q kx un mt free taken yes (fun z => no m z free taken) 100000 0 none rfl (Nat.zero_le _) (by omega) fun i p z kp => ?_
  have hi : (L.map fun p => N.hs p.2)[i]? = some (N.hs k) := by rw [List.getElem?_map, z, ← kp]; rfl
  have li : i < t.place.toList.length := by
    rw [Array.length_toList, q.place]
    exact (List.getElem?_eq_some_iff.mp z).1
  obtain ⟨c, c1, c2⟩ := q.tab.before free hi (List.getElem?_eq_getElem li)
  exact ⟨c, Nat.zero_le _, c1, by rw [List.getElem?_eq_getElem li, c2]⟩
theorem Kno.still {h h' : Heap} {k : κ} {a b : Addr} {o : Obj} {es : Array (Int × Value)} {ep : Nat} {t : SetTable} (kb : N.is h k b) (eo : h.get? a = some o) (dt : o.data = .set es ep t) (sb : Heap.SameBut a h h') : N.is h' k b :=
  N.keep kb (sb.2 b fun z => N.noset kb (by rw [z]; exact eo) dt)
/-- the entries in another order -/
theorem rows_order {order : Array Nat} (q : es.toList = L.map N.row) (pm : order.toList.Perm (List.range L.length)) :
    ∃ M : List (Addr × κ), (order.filterMap (es[·]?)).toList = M.map N.row ∧ M.Perm L ∧ (M.map fun p => N.hs p.2) = order.toList.map fun i => (es.map (·.1)).getD i 0 := by
  have go : ∀ l : List Nat, (∀ i ∈ l, i < L.length) → l.filterMap (fun i => es[i]?) = (l.filterMap fun i => L[i]?).map N.row ∧ ((l.filterMap fun i => L[i]?).map fun p => N.hs p.2) = l.map fun i => (es.map (·.1)).getD i 0 := by
    intro l
    induction l with
    | nil => exact fun _ => ⟨rfl, rfl⟩
    | cons i l ih =>
      intro h
      obtain ⟨p, ep⟩ : ∃ p, L[i]? = some p := ⟨_, List.getElem?_eq_getElem (h i List.mem_cons_self)⟩
      obtain ⟨i1, i2⟩ := ih fun j z => h j (List.mem_cons_of_mem _ z)
      have ee := rows_at q ep
      have eg : (es.map (·.1)).getD i 0 = N.hs p.2 := by
        rw [Array.getD_eq_getD_getElem?, Array.getElem?_map, ee]
        rfl
      rw [List.filterMap_cons_some ee, List.filterMap_cons_some (f := fun i => L[i]?) ep, List.map_cons, List.map_cons, List.map_cons, i1, i2, eg]
      exact ⟨rfl, rfl⟩
  obtain ⟨g1, g2⟩ := go order.toList fun i z => List.mem_range.mp (pm.mem_iff.mp z)
  refine ⟨order.toList.filterMap fun i => L[i]?, by rw [Array.toList_filterMap]; exact g1, ?_, g2⟩
  have e : (List.range L.length).filterMap (fun i => L[i]?) = L := by
    have up : ∀ n, n ≤ L.length → (List.range n).filterMap (fun i => L[i]?) = L.take n := by
      intro n
      induction n with
      | zero => exact fun _ => rfl
      | succ n ih =>
        intro le
        rw [List.range_succ, List.filterMap_append, ih (by omega), take_next (List.getElem?_eq_getElem (show n < L.length by omega))]
        congr 1
        rw [List.filterMap_cons_some (f := fun i => L[i]?) (List.getElem?_eq_getElem (show n < L.length by omega))]
        rfl
    rw [up _ (Nat.le_refl _), List.take_length]
  have z := pm.filterMap fun i => L[i]?
  rwa [e] at z
/-- a larger table -/
theorem regrow {o : Obj} (eo : s.heap.get? a = some o) (ex : o.ExactSet) (dt : o.data = .set es ep t) (q : es.toList = L.map N.row) (sz : t.place.size = es.size) (dm : t.dummies = #[]) (le : es.size ≤ t.mask) (one : (L.map (·.2)).Nodup) (all : ∀ p ∈ L, N.is s.heap p.2 p.1)
    (pl : t.plain = true) (ld : w.params.followText "set-order" = true ∨ t.led = true) (few : L.length < 300) {want m : Nat} (wm : SetTable.sizeAbove want - 1 = m) (mm : MaskQ m) (w128 : SetTable.sizeAbove want ≤ 512) (big : L.length * 5 < m * 3) {Q : Unit → Shared → Prop}
    (fin : ∀ h' M es' ep' t', Heap.SameBut a s.heap h' → SetN N h' a M es' ep' t' → M.Perm L → Q () { s with heap := h' }) : wpAny (model P w) A (setRelay a want) Q E s := by
  have ls := rows_size q
  obtain ⟨t2, order, er, pm, tok, em, el, epl⟩ := relaidQ t (hs := es.map (·.1)) (want := want) wm mm (by rw [Array.size_map, ls]; omega)
  rw [Array.size_map, ls] at pm
  obtain ⟨M, m1, m2, m3⟩ := rows_order q pm
  rw [← m3] at tok
  have es2 : (order.filterMap (es[·]?)).size = es.size := by rw [rows_size m1, m2.length_eq, ls]
  rw [setRelay_eq]
  refine wpAny_bind (wpAny_setState_of eo dt (fit_of dm sz le) ?_)
  dsimp only
  refine wp_if_neg (by rw [sizeLine_eq]; omega) ?_
  rw [er]
  dsimp only
  refine wpAny_bind ?_
  refine wp_if_neg (by rw [es2]; simp) ?_
  refine wpAny_pure ?_
  dsimp only
  refine wpAny_storeSet_of eo dt ?_ (by rw [es2, ls, sizeLine_eq]; omega)
  have sb : Heap.SameBut a s.heap (s.heap.update a (Obj.putSet (order.filterMap (es[·]?)) t2)) := Heap.SameBut.update ..
  refine fin _ M _ (ep + 1) t2 sb ⟨⟨_, store_at eo dt, ⟨ex.1, ex.2.1, ex.2.2⟩, rfl⟩, m1, tok, (m2.map (·.2)).nodup_iff.mpr one, fun p z => N.still (all p (m2.mem_iff.mp z)) eo dt sb, by rw [epl]; exact pl, by rw [el]; exact ld, ?_, by rw [m2.length_eq]; exact few⟩ m2
  rw [m2.length_eq, em]
  exact big
/-- a key is added -/
theorem put_in (q : SetN N s.heap a L es ep t) {x : Addr} {k : κ} (kx : N.is s.heap k x) (un : A.units < cLine) (few : L.length + 1 < 300) {Q : Bool → Shared → Prop}
    (fin : ∀ b h' M es' ep' t', Heap.SameBut a s.heap h' → SetN N h' a M es' ep' t' → (k ∈ L.map (·.2) → M = L) → (k ∉ L.map (·.2) → M.Perm ((x, k) :: L)) → Q b { s with heap := h' }) :
    wpAny (model P w) A (setAddHashed a (.ref x) (N.hs k)) Q E s := by
  obtain ⟨o, eo, ex, dt⟩ := q.obj
  have ls := rows_size q.ent
  have big := q.big
  unfold setAddHashed
  refine wpAny_holding ?_
  rw [show (100000 : Nat) = 99999 + 1 from rfl, setAddHashedIn_succ]
  refine wpAny_bind (wpAny_setState_of eo dt q.fit ?_)
  dsimp only
  refine wp_if_neg (by simp [byScan, Value.scannable]) ?_
  refine wpAny_bind (seek_all q kx un (fun z => ?_) fun m z free taken => ?_)
  · exact wpAny_pure (fin false s.heap L es ep t (Heap.SameBut.refl a s.heap) q (fun _ => rfl) fun y => absurd z y)
  · dsimp only
    refine wpAny_bind (wpAny_setState_of eo dt q.fit ?_)
    dsimp only
    obtain ⟨c1, c2, c3, c4, c5, c6, c9⟩ := q.tab.put free taken
    have c6 : (t.put (way t.mask (N.hs k) m)).1.plain = true := by rw [c6]; exact q.pln
    generalize t.put (way t.mask (N.hs k) m) = tt at c1 c3 c4 c5 c6 c9 ⊢
    obtain ⟨t1, pl⟩ := tt
    dsimp only at c1 c3 c4 c5 c6 c9 ⊢
    subst c1
    refine wp_if_pos c6 (wpAny_bind (N.val kx ?_))
    simp only [if_true]
    generalize SetTable.below t.place (way t.mask (N.hs k) m) = pl at c2 c3 ⊢
    have pm := put_perm L pl (x, k)
    have ent : (SetTable.insertAt es pl (N.hs k, Value.ref x)).toList = (L.take pl ++ (x, k) :: L.drop pl).map N.row := by
      rw [SetTable.toList_insertAt, q.ent, List.map_append, List.map_cons, List.map_take, List.map_drop]
      rfl
    have c3 : TabQ t1 ((L.take pl ++ (x, k) :: L.drop pl).map fun p => N.hs p.2) := by
      rw [List.map_append, List.map_cons, List.map_take, List.map_drop]
      exact c3
    generalize L.take pl ++ (x, k) :: L.drop pl = M at pm ent c3
    generalize SetTable.insertAt es pl (N.hs k, Value.ref x) = es1 at ent ⊢
    have lm : M.length = L.length + 1 := pm.length_eq
    have l1 : es1.size = L.length + 1 := by rw [rows_size ent, lm]
    have one : (M.map (·.2)).Nodup := by
      rw [(pm.map (·.2)).nodup_iff, List.map_cons]
      exact List.nodup_cons.mpr ⟨z, q.one⟩
    refine wpAny_bind (wpAny_storeSet_of eo dt ?_ (by rw [l1, sizeLine_eq]; omega))
    have sb : Heap.SameBut a s.heap (s.heap.update a (Obj.putSet es1 t1)) := Heap.SameBut.update ..
    have eo1 := store_at (es' := es1) (t' := t1) eo dt
    generalize s.heap.update a (Obj.putSet es1 t1) = h1 at sb eo1 ⊢
    have all : ∀ p ∈ M, N.is h1 p.2 p.1 := fun p y => by
      rcases List.mem_cons.mp (pm.mem_iff.mp y) with e | y
      · rw [e]; exact N.still kx eo dt sb
      · exact N.still (q.all p y) eo dt sb
    have led : w.params.followText "set-order" = true ∨ t1.led = true := by rw [c5]; exact q.led
    have szm : t1.place.size = M.length := by
      have y := c3.sz
      rwa [List.length_map] at y
    cases full : t1.tooFull with
    | true =>
      refine wp_if_pos (by simp) (wpAny_bind ?_)
      have much : (L.length + 1) * 5 ≥ t1.mask * 3 := by
        unfold SetTable.tooFull at full
        rw [decide_eq_true_eq, c9, List.length_map] at full
        exact full
      rw [ls]
      have which : (t.mask = 7 ∧ L.length = 4) ∨ (t.mask = 31 ∧ L.length = 18) ∨ (t.mask = 127 ∧ L.length = 76) := by
        rw [c4] at much
        rcases q.tab.mok with (e | e | e) | e <;> rw [e] at much big <;> omega
      have grow : ∀ m2, SetTable.sizeAbove (SetTable.grown (L.length + 1)) - 1 = m2 → MaskQ m2 → SetTable.sizeAbove (SetTable.grown (L.length + 1)) ≤ 512 → (L.length + 1) * 5 < m2 * 3 →
          wpAny (model P w) A (setRelay a (SetTable.grown (L.length + 1))) (fun _ s' => wpAny (model P w) A (pure true) Q E s') E { s with heap := h1 } := fun m2 g1 g2 g3 g4 => by
        refine regrow (s := { s with heap := h1 }) eo1 ⟨ex.1, ex.2.1, ex.2.2⟩ rfl ent (by rw [szm, lm, l1]) c3.dm (by rw [l1, c4]; rcases which with ⟨e, e2⟩ | ⟨e, e2⟩ | ⟨e, e2⟩ <;> omega) one all c6 led (by rw [lm]; exact few) g1 g2 g3 (by rw [lm]; exact g4) ?_
        exact fun h2 M2 es2 ep2 t2 sb2 q2 pm2 => wpAny_pure (fin true h2 M2 es2 ep2 t2 (sb.trans sb2) q2 (fun y => absurd y z) fun _ => pm2.trans pm)
      rcases which with ⟨_, e2⟩ | ⟨_, e2⟩ | ⟨_, e2⟩
      · exact grow 31 (by rw [e2, size_20]) (.inl (.inr (.inl rfl))) (by rw [e2, size_20]; decide) (by omega)
      · exact grow 127 (by rw [e2, size_76]) (.inl (.inr (.inr rfl))) (by rw [e2, size_76]; decide) (by omega)
      · exact grow 511 (by rw [e2, size_77]) (.inr rfl) (by rw [e2, size_77]; decide) (by omega)
    | false =>
      have slack : (L.length + 1) * 5 < t1.mask * 3 := by
        unfold SetTable.tooFull at full
        rw [decide_eq_false_iff_not, c9, List.length_map] at full
        omega
      refine wp_if_neg (by simp) ?_
      exact wpAny_pure (fin true h1 M es1 (ep + 1) t1 sb ⟨⟨_, eo1, ⟨ex.1, ex.2.1, ex.2.2⟩, rfl⟩, ent, c3, one, all, c6, led, by rw [lm]; exact slack, by rw [lm]; exact few⟩ (fun y => absurd y z) fun _ => pm)
/-- the keys of the first i items are got -/
structure GotN (ks : List (Addr × κ)) (i : Nat) (L : List (Addr × κ)) : Prop where
  sub : ∀ p ∈ L, p ∈ ks.take i
  all : ∀ p ∈ ks.take i, p.2 ∈ L.map (·.2)
theorem GotN.old {ks : List (Addr × κ)} {i : Nat} {x : Addr × κ} (g : GotN ks i L) (h : ks[i]? = some x) (m : x.2 ∈ L.map (·.2)) : GotN ks (i + 1) L := by
  constructor <;> intro p z
  · rw [take_next h, List.mem_append]
    exact .inl (g.sub p z)
  · rw [take_next h, List.mem_append, List.mem_singleton] at z
    rcases z with z | rfl
    · exact g.all p z
    · exact m
theorem GotN.new {ks M : List (Addr × κ)} {i : Nat} {x : Addr × κ} (g : GotN ks i L) (h : ks[i]? = some x) (pm : M.Perm (x :: L)) : GotN ks (i + 1) M := by
  constructor <;> intro p z
  · rw [take_next h, List.mem_append, List.mem_singleton]
    rcases List.mem_cons.mp (pm.mem_iff.mp z) with e | y
    · exact .inr e
    · exact .inl (g.sub p y)
  · rw [(pm.map (·.2)).mem_iff, List.map_cons, List.mem_cons]
    rw [take_next h, List.mem_append, List.mem_singleton] at z
    rcases z with z | rfl
    · exact .inr (g.all p z)
    · exact .inl rfl
theorem SetN.keep {h h' : Heap} (q : SetN N h a L es ep t) (ha : ∀ o, h.get? a = some o → h'.get? a = some o) (ht : ∀ p ∈ L, N.is h' p.2 p.1) : SetN N h' a L es ep t := by
  obtain ⟨o, e, r⟩ := q.obj
  exact { q with obj := ⟨o, ha o e, r⟩, all := ht }
theorem setN_new {h : Heap} (e : h.get? a = some (set0 w)) : SetN N h a [] #[] 0 (.fresh 0 0 (!w.params.followText "set-order")) where
  obj := ⟨_, e, ⟨rfl, rfl, rfl⟩, rfl⟩
  ent := rfl
  tab := ⟨.nil, rfl, rfl, .inl (.inl rfl), fun x z => (by cases z), fun i h j z => (by simp at z)⟩
  one := .nil
  all := fun p z => (by cases z)
  pln := rfl
  led := by
    cases f : w.params.followText "set-order" with
    | true => exact .inl rfl
    | false => exact .inr rfl
  big := by
    show 0 * 5 < 7 * 3
    decide
  few := by
    show 0 < 300
    decide
def FewN (ks : List (Addr × κ)) : Prop := ∀ L : List (Addr × κ), (∀ p ∈ L, p ∈ ks) → (L.map (·.2)).Nodup → L.length < 299
theorem isN_keep {h h' : Heap} {k : κ} {b : Addr} {o : Obj} (z : N.is h k b) (e : h.get? b = some o) (kp : ∀ c o, h.get? c = some o → h'.get? c = some o) : N.is h' k b := N.keep z (by rw [e]; exact kp b o e)
/-- set.update's turns -/
theorem set_turns {J : Addr} {fp wr : List Addr} {Gg : Array GenState → Array GenState → Prop} {n : Nat} {Pv : Nat → Value → Prop} {St : Nat → Shared → Prop} {Rr : Result → Shared → Prop}
    (Wk : WalksS P w A.in1 J fp wr Gg n Pv St) (T : Addr) (tf : T ∉ fp) (ks : List (Addr × κ)) (hn : n = ks.length) (few : FewN ks) (hv : ∀ i v, Pv i v → ∃ p, ks[i]? = some p ∧ v = .ref p.1)
    (hb : Heap) (hk : ∀ p ∈ ks, N.is hb p.2 p.1) (hx : ∀ p ∈ ks, ∃ o, hb.get? p.1 = some o) (t0 : hb.get? T = none) (w0 : ∀ b ∈ wr, hb.get? b = none) (room : A.in1.units < cLine) :
    ∀ (k i : Nat) (sh : Shared), n - i = k → i ≤ n → St i sh → (∀ b o, hb.get? b = some o → sh.heap.get? b = some o) → (∃ L es ep t, SetN N sh.heap T L es ep t ∧ GotN ks i L) →
      (∀ sh' L es ep t, Moved (T :: wr) Gg sh sh' → SetN N sh'.heap T L es ep t → GotN ks n L → (∀ b o, hb.get? b = some o → sh'.heap.get? b = some o) → Rr (.ok (.ret .none)) sh') →
      codeAny (model P w) A (.builtin "set.update.loop" ⟨[.ref T, .ref J], []⟩) Rr sh := by
  have tw : T ∉ wr := fun z => tf (Wk.sub _ z)
  have more : ∀ b ∈ wr, b ∈ T :: wr := fun b z => List.mem_cons_of_mem _ z
  have lies : ∀ {h : Heap} (p : Addr × κ), p ∈ ks → (∀ b o, hb.get? b = some o → h.get? b = some o) → N.is h p.2 p.1 := fun p z kp => by
    obtain ⟨o, e⟩ := hx p z
    exact isN_keep (hk p z) e kp
  have stay : ∀ {s1 s2 : Shared}, Moved wr Gg s1 s2 → (∀ b o, hb.get? b = some o → s1.heap.get? b = some o) → ∀ b o, hb.get? b = some o → s2.heap.get? b = some o := fun mv kp b o e =>
    mv.heap b o (fun z => by rw [w0 b z] at e; cases e) (kp b o e)
  intro k
  induction k with
  | zero =>
    intro i sh hki hin hst kp ⟨L, es, ep, t, q, got⟩ fin
    have e : i = n := by omega
    subst e
    refine codeAny_builtin F.entry_set_update_loop ?_
    rw [Around.under_plainId F.plain_set_update_loop _]
    show wpAny _ A.in1 (pyNext (.ref J) >>= _) _ _ sh
    refine wpAny_bind (Wk.done sh _ _ hst fun s2 mv => ?_)
    show wpAny _ A.in1 (ret Value.none) _ _ s2
    have kp2 := stay mv kp
    exact wpAny_pure (fin s2 L es ep t (mv.mono more) (q.keep (fun o z => mv.heap T o tw z) fun p z => lies p (List.mem_of_mem_take (got.sub p z)) kp2) got kp2)
  | succ k ih =>
    intro i sh hki hin hst kp ⟨L, es, ep, t, q, got⟩ fin
    have lt : i < n := by omega
    refine codeAny_builtin F.entry_set_update_loop ?_
    rw [Around.under_plainId F.plain_set_update_loop _]
    show wpAny _ A.in1 (pyNext (.ref J) >>= _) _ _ sh
    refine wpAny_bind (Wk.item i sh _ _ lt hst fun v s2 hP hst2 mv => ?_)
    obtain ⟨p, hp, rfl⟩ := hv i v hP
    have kp2 := stay mv kp
    have inn : ∀ p ∈ L, p ∈ ks := fun p z => List.mem_of_mem_take (got.sub p z)
    have q2 : SetN N s2.heap T L es ep t := q.keep (fun o z => mv.heap T o tw z) fun p z => lies p (inn p z) kp2
    have isp := lies p (List.mem_of_getElem? hp) kp2
    show wpAny _ A.in1 (holding [Value.ref p.1] (setAdd T (.ref p.1)) >>= _) _ _ s2
    refine wpAny_bind (wpAny_holding ?_)
    unfold setAdd
    refine wpAny_holding ?_
    refine wpAny_bind (N.hash room isp ?_)
    refine put_in (s := { s2 with toks := s2.toks + N.dr p.2 }) q2 isp room (by have := few L inn q2.one; omega) fun b h3 L3 es3 ep3 t3 hsb q3 c1 c2 => ?_
    have got3 : GotN ks (i + 1) L3 := by
      rcases Classical.em (p.2 ∈ L.map (·.2)) with z | z
      · rw [c1 z]; exact got.old hp z
      · exact got.new hp (c2 z)
    have kp3 : ∀ b o, hb.get? b = some o → h3.get? b = some o := fun b o e => (hsb.2 b (fun z => by rw [z, t0] at e; cases e)).trans (kp2 b o e)
    refine wpAny_pure ⟨plainId_quiet F.plain_set_update_loop _, ih (i + 1) _ (by omega) lt (Wk.frame _ s2 _ _ hst2 (Nat.le_add_right _ _) fun b z o e => ?_) kp3 ⟨L3, es3, ep3, t3, q3, got3⟩ fun s4 L4 es4 ep4 t4 mv4 q4 got4 kp4 => ?_⟩
    · rw [hsb.2 b (fun y : b = T => tf (by rw [← y]; exact z))]; exact e
    · refine fin s4 L4 es4 ep4 t4 (Moved.trans Wk.gtrans ((mv.mono more).then_heap (Nat.le_add_right _ _) fun b o z e => ?_) mv4) q4 got4 kp4
      rw [hsb.2 b (fun y : b = T => z (by rw [y]; exact List.mem_cons_self))]; exact e
theorem setN_loop {sh : Shared} {lst : Addr} {items : Array Value} {ks : List (Addr × κ)} (hh : A.handled = none) (hl : sh.heap.IsList lst items) (hit : items.toList = ks.map fun p => Value.ref p.1)
    (hk : ∀ p ∈ ks, N.is sh.heap p.2 p.1) (hx : ∀ p ∈ ks, ∃ o, sh.heap.get? p.1 = some o) (few : FewN ks) (room : A.in1.units < cLine) (Rr : Result → Shared → Prop)
    (hR : ∀ h' tk, (∃ L es ep t, SetN N h' sh.heap.objs.size L es ep t ∧ GotN ks ks.length L) → (∀ b o, sh.heap.get? b = some o → h'.get? b = some o) → Rr (.ok (.ret .none)) { sh with heap := h', toks := tk }) :
    codeAny (model P w) A (.builtin "set.update.loop" ⟨[.ref sh.heap.objs.size, .ref (sh.heap.push (set0 w)).objs.size], []⟩) Rr { sh with heap := setHp w sh.heap lst } := by
  obtain ⟨⟨oc, od, odt, osl⟩, hol, hcl, nl, hdl⟩ := hl
  simp only at hcl hdl
  subst hcl hdl
  have hll : lst < sh.heap.objs.size := Heap.lt_size hol
  have hz : (sh.heap.push (set0 w)).objs.size = sh.heap.objs.size + 1 := Heap.size_push ..
  have isz : items.size = ks.length := by
    rw [← Array.length_toList, hit, List.length_map]
  have at_ : ∀ (i : Nat) (v : Value), items[i]? = some v → ∃ p, ks[i]? = some p ∧ v = .ref p.1 := fun i v hv => by
    have z : items.toList[i]? = some v := by rw [Array.getElem?_toList]; exact hv
    rw [hit, List.getElem?_map] at z
    cases zz : ks[i]? with
    | none => rw [zz] at z; cases z
    | some p => rw [zz] at z; exact ⟨p, rfl, (Option.some.inj z).symm⟩
  have hl2 : (setHp w sh.heap lst).IsList lst items := ⟨_, Heap.get?_push_of_some _ (Heap.get?_push_of_some _ hol), rfl, nl, rfl⟩
  have hne : lst ≠ (sh.heap.push (set0 w)).objs.size := by rw [hz]; exact Nat.ne_of_lt (Nat.lt_succ_of_lt hll)
  have hnf : sh.heap.objs.size ∉ [(sh.heap.push (set0 w)).objs.size, lst] := by
    simp only [List.mem_cons, List.not_mem_nil, or_false, not_or]
    exact ⟨by rw [hz]; exact Nat.ne_of_lt (Nat.lt_succ_self _), Nat.ne_of_gt hll⟩
  have fresh : ∀ b, sh.heap.objs.size ≤ b → sh.heap.get? b = none := fun b hb => by
    cases z : sh.heap.get? b with
    | none => rfl
    | some o => exact absurd (Nat.lt_of_lt_of_le (Heap.lt_size z) hb) (Nat.lt_irrefl _)
  have Wk := (Walks.list (prog := P) (w := w) (A := A.in1) hh (sh.heap.push (set0 w)).objs.size lst hne items).toS
  have hset : (setHp w sh.heap lst).get? sh.heap.objs.size = some (set0 w) := Heap.get?_push_of_some _ (Heap.get?_push_size _ rfl)
  refine set_turns Wk sh.heap.objs.size hnf ks isz few at_ sh.heap hk hx (fresh _ (Nat.le_refl _)) (fun b hb => fresh b (by rw [List.mem_singleton.mp hb, hz]; exact Nat.le_succ _)) room items.size 0 _ (by omega) (Nat.zero_le _)
    ⟨⟨_, Heap.get?_push_size _ rfl, rfl, rfl⟩, hl2⟩ (fun b o e => Heap.get?_push_of_some _ (Heap.get?_push_of_some _ e)) ⟨[], #[], 0, _, setN_new hset, ⟨fun p z => (by cases z), fun p z => (by simp at z)⟩⟩ fun s' L es ep t hm hS' g' hkp => ?_
  obtain ⟨h', g2, d', tk', os'⟩ := s'
  have eg : g2 = sh.gens := hm.gens
  have ed : d' = sh.drawn := hm.drawn
  have eo : os' = sh.os := hm.os
  subst eg ed eo
  rw [isz] at g'
  exact hR h' tk' ⟨L, es, ep, t, hS', g'⟩ hkp
end
section
variable {P : Program} {w : World} {A : Around} {E : Value → Shared → Prop} {s : Shared}
def oK : Option Int → Option Key := Option.map Sum.inl
theorem oK_inj : ∀ {a b : List (Option Int)}, a.map oK = b.map oK → a = b
  | [], [], _ => rfl
  | [], _ :: _, h => by cases h
  | _ :: _, [], h => by cases h
  | x :: a, y :: b, h => by
    rw [List.map_cons, List.map_cons] at h
    injection h with h1 h2
    rw [oK_inj h2]
    congr 1
    cases x with
    | none => cases y with | none => rfl | some j => cases h1
    | some i => cases y with
      | none => cases h1
      | some j =>
        injection h1 with h1
        injection h1 with h1
        rw [h1]
abbrev IsOT (P : Program) (w : World) (h : Heap) (k : List (Option Int)) (b : Addr) : Prop := IsTupleKey (noneKind P w) h (k.map oK) b
theorem oK_items : ∀ {k : List (Option Int)} {vs : List Value}, ItemsAre (noneKind P w) (k.map oK) vs → ∀ v ∈ vs, v = .none ∨ ∃ i t, v = Value.int i t
  | [], vs, h, v, hv => by cases h; cases hv
  | x :: k, vs, h, v, hv => by
    cases h with
    | cons h1 h2 =>
      rcases List.mem_cons.mp hv with rfl | hv
      · cases x with
        | none => exact .inl (nk_none h1)
        | some i =>
          rcases keyIs_shape (show keyIs (Sum.inl i) v = true from h1) with ⟨j, t, e, rfl⟩ | ⟨y, t, e, rfl⟩
          · exact .inr ⟨_, _, rfl⟩
          · cases e
      · exact oK_items h2 v hv
theorem opt_noclass {k : List (Option Int)} {b : Addr} {Q : Bool → Shared → Prop} (hk : IsOT P w s.heap k b) (h : Q false s) : wpAny (model P w) A (ofAClassStatement 8 (.ref b)) Q E s := by
  have ty := hk.typeIs
  obtain ⟨o, items, n, eo, _, dt, its⟩ := hk
  unfold ofAClassStatement
  refine wpAny_bind (wpAny_typeOf ty ?_)
  dsimp only
  have e : (("tuple" : String) == "tuple") = true := by decide
  simp only [e, if_true, Bool.not_true, Bool.false_eq_true, if_false]
  try refine wpAny_bind (wpAny_pure ?_)
  try simp only [Bool.not_true, Bool.false_eq_true, if_false]
  show wpAny _ _ (seqItems? (.ref b) >>= _) _ _ s
  refine wpAny_bind (wpAny_seqItems eo dt ?_)
  dsimp only
  refine wpAny_bind ?_
  show wpAny _ _ (forIn items _ _) _ _ s
  rw [← Array.forIn_toList]
  refine wpAny_forIn_list _ (fun rest r s' => r.1 = none ∧ s' = s ∧ ∀ v ∈ rest, v = Value.none ∨ ∃ i t, v = Value.int i t) _ ?_ ?_ _ _ ⟨rfl, rfl, oK_items its⟩
  · rintro v rest r s' ⟨hr, rfl, hall⟩
    have ev : ofAClassStatement 7 v = pure false := by
      rcases hall v List.mem_cons_self with rfl | ⟨i, t, rfl⟩ <;> rfl
    rw [ev]
    refine wpAny_bind (wpAny_pure ?_)
    simp only [Bool.false_eq_true, if_false]
    exact wpAny_pure ⟨rfl, rfl, fun u z => hall u (List.mem_cons_of_mem _ z)⟩
  · rintro ⟨r1, r2⟩ s' ⟨hr, rfl, _⟩
    simp only at hr
    subst hr
    exact wpAny_pure h
theorem opt_byval {k : List (Option Int)} {b : Addr} {Q : Bool → Shared → Prop} (hk : IsOT P w s.heap k b) (h : Q true s) : wpAny (model P w) A (hashByValue 8 (.ref b)) Q E s := by
  have ty := hk.typeIs
  obtain ⟨o, items, n, eo, _, dt, its⟩ := hk
  unfold hashByValue
  refine wpAny_bind (wpAny_specialOf ty F.slot_tuple_hash.lookup ?_)
  show wpAny _ _ (seqItems? (.ref b) >>= _) _ _ s
  refine wpAny_bind (wpAny_seqItems eo dt ?_)
  refine wpAny_bind ?_
  show wpAny _ _ (forIn items _ _) _ _ s
  rw [← Array.forIn_toList]
  refine wpAny_forIn_list _ (fun rest r s' => r.1 = none ∧ s' = s ∧ ∀ v ∈ rest, v = Value.none ∨ ∃ i t, v = Value.int i t) _ ?_ ?_ _ _ ⟨rfl, rfl, oK_items its⟩
  · rintro v rest r s' ⟨hr, rfl, hall⟩
    have ev : hashByValue 7 v = pure true := by
      rcases hall v List.mem_cons_self with rfl | ⟨i, t, rfl⟩ <;> rfl
    rw [ev]
    refine wpAny_bind (wpAny_pure ?_)
    simp only [Bool.not_true, Bool.false_eq_true, if_false]
    exact wpAny_pure ⟨rfl, rfl, fun u z => hall u (List.mem_cons_of_mem _ z)⟩
  · rintro ⟨r1, r2⟩ s' ⟨hr, rfl, _⟩
    simp only at hr
    subst hr
    exact wpAny_pure h
theorem opt_calm {k : List (Option Int)} {b : Addr} {ys : List Value} {Q : Bool → Shared → Prop} (hk : IsOT P w s.heap k b) (hy : ∀ y ∈ ys, ∃ k' c, y = Value.ref c ∧ IsOT P w s.heap k' c) (h : Q false s) : wpAny (model P w) A (searchCouldBeSeen (.ref b) ys) Q E s := by
  unfold searchCouldBeSeen
  refine wpAny_bind ?_
  refine wpAny_forIn_list _ (fun rest r s' => r.1 = none ∧ s' = s ∧ ∀ y ∈ rest, ∃ k' c, y = Value.ref c ∧ IsOT P w s.heap k' c) _ ?_ ?_ _ _ ⟨rfl, rfl, hy⟩
  · rintro v rest r s' ⟨hr, rfl, hall⟩
    obtain ⟨k', c, rfl, hc⟩ := hall v List.mem_cons_self
    have on : ∀ y ∈ rest, ∃ k' c, y = Value.ref c ∧ IsOT P w s'.heap k' c := fun u z => hall u (List.mem_cons_of_mem _ z)
    dsimp only
    by_cases hv : (b == c || (carriedByValue (.ref b) && carriedByValue (.ref c))) = true
    · exact wp_if_pos hv (wpAny_pure ⟨rfl, rfl, on⟩)
    · refine wp_if_neg hv ?_
      refine wpAny_bind (wpAny_eqIsQuiet_tuple hk ?_)
      simp only [Bool.not_true, Bool.false_eq_true, if_false]
      refine wpAny_bind (wpAny_eqIsQuiet_tuple hc ?_)
      simp only [Bool.not_true, Bool.false_eq_true, if_false]
      refine wpAny_bind (opt_noclass hk ?_)
      simp only [Bool.false_eq_true, if_false]
      refine wpAny_bind (opt_noclass hc ?_)
      simp only [Bool.false_eq_true, if_false]
      exact wpAny_pure ⟨rfl, rfl, on⟩
  · rintro ⟨r1, r2⟩ s' ⟨hr, rfl, _⟩
    simp only at hr
    subst hr
    exact wpAny_pure h
/-- tuples of ints and None, as keys -/
def optN (P : Program) (w : World) : Kno P w (List (Option Int)) where
  is := IsOT P w
  hs := fun k => tupleKeyHash (noneKind P w) (k.map oK)
  dr := fun k => (k.map oK).length + 1
  keep := fun ⟨o, items, n, eo, r⟩ e => ⟨o, items, n, e.trans eo, r⟩
  noset := fun ⟨o, items, n, eo, _, dt, _⟩ e1 e2 => by
    rw [eo] at e1
    cases e1
    rw [dt] at e2
    cases e2
  hash := fun un hk h => wpAny_pyHash_tuple un hk h
  eq := fun {A E s x y a b Q} un hx hy h => wpAny_eqBool_tuple un hx hy (by
    have e : decide (x.map oK = y.map oK) = decide (x = y) := decide_eq_decide.mpr ⟨oK_inj, fun z => by rw [z]⟩
    rw [e]; exact h)
  calm := fun hk hy h => opt_calm hk hy h
  val := fun hk h => opt_byval hk h
end
end Pan
namespace Pan
open PySem PySem.Spec L2
open PyProof.Rows hiding St
variable [TabsIn]
section
variable {X : Cx}
/-- less than 63 different ones -/
def FewT (ks : List (Addr × List Int)) : Prop := ∀ L : List (Addr × List Int), (∀ p ∈ L, p ∈ ks) → (L.map (·.2)).Nodup → L.length < 299
def rSetX (K : PySem.W.Frag) (w : World) : List V → Hp → VK → Prop := fun vs H Q => ∃ l xs, vs = [V.ref l] ∧ SqL K H l xs ∧
  ((∃ ns : List Int, xs = ns.map V.int ∧ ns.length + 1 < scanBound ∧ ∀ (p : Addr) (ms : List Int), H p = none → ms.Nodup → (∀ k, k ∈ ms ↔ k ∈ ns) → Q (.ref p) (upd H p (sO w p (ms.map V.int)))) ∨
   ∃ ks : List (Addr × List Int), xs = ks.map (fun p => V.ref p.1) ∧ (∀ p ∈ ks, SqT K H p.1 (p.2.map V.int)) ∧ (ks.length < 64 ∨ FewT ks) ∧ ∀ (a : Addr) (L : List (Addr × List Int)), H a = none → (∀ p ∈ L, p ∈ ks) → (∀ p ∈ ks, p.2 ∈ L.map (·.2)) → (L.map (·.2)).Nodup → Q (.ref a) (upd H a (sO w a (L.map fun p => V.ref p.1))))
theorem SetTR.has {P : Program} {w : World} {h : Heap} {a : Addr} {L : List (Addr × List Int)} {es : Array (Int × Value)} {ep : Nat} {t : SetTable} (q : SetTR P w h a L es ep t) : SetHas w a (L.map fun p => V.ref p.1) h := by
  obtain ⟨o, ho, hx, hd⟩ := q.ob
  have sz : es.size = L.length := by
    have := congrArg List.length q.rows
    rwa [Array.length_toList, rowsOf, List.length_map] at this
  have few := q.few
  have hfit : t.fits es.size = true := by
    have z := q.tab.sz
    rw [List.length_map] at z
    have room := q.room
    unfold SetTable.fits SetTable.fill
    rw [q.tab.dm, Bool.and_eq_true, beq_iff_eq, decide_eq_true_eq]
    show t.place.size = es.size ∧ t.place.size + 0 ≤ t.mask
    omega
  refine ⟨es, ep, t, ⟨o, ho, hx.1, hd⟩, fun o' e => ?_, hfit, by unfold scanBound; omega, q.tab.ris, q.led, ?_⟩
  · rw [ho] at e
    cases e
    exact hx
  · rw [q.rows]
    unfold rowsOf
    rw [List.map_map]
    have := vals_refs' (L.map (·.1))
    rw [List.map_map, List.map_map] at this
    exact this
theorem SetN.has {P : Program} {w : World} {κ : Type} [DecidableEq κ] {N : Kno P w κ} {h : Heap} {a : Addr} {L : List (Addr × κ)} {es : Array (Int × Value)} {ep : Nat} {t : SetTable} (q : SetN N h a L es ep t) : SetHas w a (L.map fun p => V.ref p.1) h := by
  obtain ⟨o, ho, hx, hd⟩ := q.obj
  have sz : es.size = L.length := rows_size q.ent
  have few := q.few
  have hfit : t.fits es.size = true := by
    have z := q.tab.sz
    rw [List.length_map] at z
    have room := q.big
    unfold SetTable.fits SetTable.fill
    rw [q.tab.dm, Bool.and_eq_true, beq_iff_eq, decide_eq_true_eq]
    show t.place.size = es.size ∧ t.place.size + 0 ≤ t.mask
    omega
  refine ⟨es, ep, t, ⟨o, ho, hx.1, hd⟩, fun o' e => ?_, hfit, by unfold scanBound; omega, q.tab.ris, q.led, ?_⟩
  · rw [ho] at e
    cases e
    exact hx
  · rw [q.ent, List.map_map]
    have := vals_refs' (L.map (·.1))
    rw [List.map_map, List.map_map] at this
    exact this
def upK (p : Addr × List Int) : Addr × List (Option Int) := (p.1, p.2.map some)
def dnK (p : Addr × List (Option Int)) : Addr × List Int := (p.1, p.2.filterMap id)
theorem dn_up (p : Addr × List Int) : dnK (upK p) = p := by
  unfold dnK upK
  rw [List.filterMap_map]
  have e : p.2.filterMap (id ∘ some) = p.2 := by
    have : (id ∘ some : Int → Option Int) = some := rfl
    rw [this, List.filterMap_some]
  rw [e]
theorem up_items {P : Program} {w : World} : ∀ {k : List Int} {vs : List Value}, ItemsAre (intKind P w) k vs → ItemsAre (noneKind P w) ((k.map some).map oK) vs
  | [], _, h => by cases h; exact .nil
  | i :: k, _, h => by
    cases h with
    | cons h1 h2 => exact .cons h1 (up_items h2)
theorem up_is {P : Program} {w : World} {h : Heap} {k : List Int} {b : Addr} (q : L2.IsT P w h k b) : IsOT P w h (k.map some) b := by
  obtain ⟨o, its, n, h1, h2, h3, h4⟩ := q
  exact ⟨o, its, n, h1, h2, h3, up_items h4⟩
theorem isOT_ex {P : Program} {w : World} {h : Heap} {k : List Int} {b : Addr} (q : L2.IsT P w h k b) : ∃ o, h.get? b = some o := by
  obtain ⟨o, its, n, h1, _⟩ := q
  exact ⟨o, h1⟩
theorem up_back {ks : List (Addr × List Int)} {L : List (Addr × List (Option Int))} (h : ∀ p ∈ L, p ∈ ks.map upK) : L = (L.map dnK).map upK ∧ ∀ p ∈ L.map dnK, p ∈ ks := by
  constructor
  · rw [List.map_map]
    have : L.map (upK ∘ dnK) = L.map id := List.map_congr_left fun p hp => by
      obtain ⟨q, _, rfl⟩ := List.mem_map.mp (h p hp)
      show upK (dnK (upK q)) = _
      rw [dn_up]
      rfl
    rw [this, List.map_id]
  · intro p hp
    obtain ⟨q, hq, rfl⟩ := List.mem_map.mp hp
    obtain ⟨r, hr, rfl⟩ := List.mem_map.mp (h q hq)
    rw [dn_up]
    exact hr
theorem up_nodup {L : List (Addr × List Int)} : ((L.map upK).map (·.2)).Nodup ↔ (L.map (·.2)).Nodup := by
  have e : (L.map upK).map (·.2) = (L.map (·.2)).map fun k : List Int => k.map some := by rw [List.map_map, List.map_map]; rfl
  rw [e]
  constructor
  · exact fun h => (List.pairwise_map.mp h).imp fun a z => a (by rw [z])
  · intro h
    refine List.pairwise_map.mpr (h.imp fun a z => a ?_)
    have := congrArg (List.filterMap id) z
    rw [List.filterMap_map, List.filterMap_map] at this
    have e2 : (id ∘ some : Int → Option Int) = some := rfl
    rw [e2, List.filterMap_some, List.filterMap_some] at this
    exact this
theorem few_up {ks : List (Addr × List Int)} (h : FewT ks) : FewN (ks.map upK) := fun L sub nd => by
  obtain ⟨e, s2⟩ := up_back sub
  rw [e] at nd
  have := h (L.map dnK) s2 (up_nodup.mp nd)
  rwa [List.length_map] at this
theorem cr_setX (hc : X.calm = true) (hu : X.A.units + 64 < cLine) : CallR X (.type "set") (rSetX X.K X.w) := by
  intro pins s σ H vs us Q I r h
  obtain ⟨l, xs, rfl, hl, h⟩ := h
  rw [Vals.ref1 r]
  obtain ⟨its, rv, pl, hz⟩ := I.list hl
  have hn : H s.heap.objs.size = none := I.hok.fresh (Nat.le_refl _)
  rcases h with ⟨ns, rfl, hb, q⟩ | ⟨ks, rfl, hk, hf, q⟩
  · refine call_setL (Left := fun h' => ∃ c, SetR X.w h' s.heap.objs.size (fun j => decide (j ∈ ns)) c) pl.isList (fun R hR => set_ints_loop (A := X.A.in1.in1) (show X.A.in1.in1.handled = none from I.ok.hd hc) pl.isList (by simpa using rv.ints) hb R hR) fun h' tk ⟨c, lf⟩ kp => ?_
    obtain ⟨ms, nd, mem, has⟩ := SetR.has lf
    exact ⟨.ref s.heap.objs.size, _, I.laid (t' := tk) kp (Nat.le_refl _) (sO_ok has), rfl, q _ ms hn nd fun k => by rw [mem k, decide_eq_true_eq]⟩
  · rcases hf with hf | hf
    rotate_left
    · have rf : its = ks.map fun p => Value.ref p.1 := by simpa using refs_of_vals rv
      refine call_setL (Left := fun h' => ∃ L es ep t, SetN (optN X.prog X.w) h' s.heap.objs.size L es ep t ∧ GotN (ks.map upK) (ks.map upK).length L) pl.isList (fun R hR => setN_loop (N := optN X.prog X.w) (A := X.A.in1.in1) (show X.A.in1.in1.handled = none from I.ok.hd hc) pl.isList (ks := ks.map upK) (by rw [List.map_map]; show its.toArray.toList = ks.map fun p => Value.ref p.1; simpa using rf) (fun p hp => ?_) (fun p hp => ?_) (few_up hf) (show X.A.in1.in1.in1.units < cLine by simp; omega) R hR) fun h' tk ⟨L, es, ep, t, R, g⟩ kp => ?_
      · obtain ⟨q0, hq, rfl⟩ := List.mem_map.mp hp
        exact up_is (I.isT (hk q0 hq))
      · obtain ⟨q0, hq, rfl⟩ := List.mem_map.mp hp
        exact isOT_ex (I.isT (hk q0 hq))
      · obtain ⟨e, s2⟩ := up_back (ks := ks) fun p hp => List.mem_of_mem_take (g.sub p hp)
        have nd := R.one
        have hs := SetN.has R
        rw [e] at nd
        have er : (L.map fun p => V.ref p.1) = (L.map dnK).map fun p => V.ref p.1 := by rw [List.map_map]; rfl
        rw [er] at hs
        refine ⟨.ref s.heap.objs.size, _, I.laid (t' := tk) kp (Nat.le_refl _) (sO_ok hs), rfl, q _ (L.map dnK) hn s2 (fun p hp => ?_) (up_nodup.mp nd)⟩
        have := g.all (upK p) (by rw [List.take_length]; exact List.mem_map.mpr ⟨p, hp, rfl⟩)
        obtain ⟨x, hx, ex⟩ := List.mem_map.mp this
        refine List.mem_map.mpr ⟨dnK x, List.mem_map.mpr ⟨x, hx, rfl⟩, ?_⟩
        have ex : x.2 = p.2.map some := ex
        show x.2.filterMap id = p.2
        rw [ex, List.filterMap_map]
        have e2 : (id ∘ some : Int → Option Int) = some := rfl
        rw [e2, List.filterMap_some]
    refine call_set_tups (P := X.prog) (w := X.w) ks (I.ok.hd hc) pl.isList (by simpa using refs_of_vals rv) (fun p hp => I.isT (hk p hp)) hf (by omega) fun h' tk L es ep t R g kp => ?_
    exact ⟨.ref s.heap.objs.size, _, I.laid (t' := tk) kp (Nat.le_refl _) (sO_ok (SetTR.has R)), rfl, q _ L hn (fun p hp => List.mem_of_mem_take (g.sub p hp)) (fun p hp => g.all p (by rw [List.take_length]; exact hp)) R.nd⟩
end
theorem dedup_spec {all : List D} (he : ∀ x ∈ all, ∀ y ∈ all, (eqv x y = true ↔ x = y)) : ∀ (xs acc : List D), (∀ x ∈ xs, x ∈ all) → (∀ x ∈ acc, x ∈ all) → acc.Nodup → (dedupD xs acc).Nodup ∧ ∀ x, x ∈ dedupD xs acc ↔ x ∈ acc ∨ x ∈ xs
  | [], acc, _, _, nd => ⟨nd, fun x => by simp [dedupD]⟩
  | d :: r, acc, h1, h2, nd => by
    have hd : (acc.any fun z => eqv z d) = true ↔ d ∈ acc := by
      rw [List.any_eq_true]
      constructor
      · rintro ⟨z, hz, e⟩
        rw [← (he z (h2 z hz) d (h1 d List.mem_cons_self)).mp e]
        exact hz
      · intro hm
        exact ⟨d, hm, (he d (h2 d hm) d (h2 d hm)).mpr rfl⟩
    unfold dedupD
    split
    · rename_i hc
      obtain ⟨a, b⟩ := dedup_spec he r acc (fun x hx => h1 x (List.mem_cons_of_mem _ hx)) h2 nd
      refine ⟨a, fun x => ?_⟩
      rw [b x, List.mem_cons]
      have := hd.mp hc
      constructor
      · rintro (q | q)
        · exact .inl q
        · exact .inr (.inr q)
      · rintro (q | q | q)
        · exact .inl q
        · subst q; exact .inl this
        · exact .inr q
    · rename_i hc
      have hn : d ∉ acc := fun z => hc (hd.mpr z)
      obtain ⟨a, b⟩ := dedup_spec he r (acc ++ [d]) (fun x hx => h1 x (List.mem_cons_of_mem _ hx)) (fun x hx => by
        rcases List.mem_append.mp hx with q | q
        · exact h2 x q
        · rw [List.mem_singleton.mp q]; exact h1 d List.mem_cons_self) (List.nodup_append.mpr ⟨nd, by simp, fun a ha b hb => by
          rw [List.mem_singleton.mp hb]
          intro z
          subst z
          exact hn ha⟩)
      refine ⟨a, fun x => ?_⟩
      rw [b x, List.mem_append, List.mem_singleton, List.mem_cons, or_assoc]
theorem mapI_inj : ∀ {a b : List Int}, a.map D.int = b.map D.int → a = b
  | [], [], _ => rfl
  | [], _ :: _, h => by cases h
  | _ :: _, [], h => by cases h
  | x :: a, y :: b, h => by
    rw [List.map_cons, List.map_cons] at h
    injection h with h1 h2
    injection h1 with h1
    rw [h1, mapI_inj h2]
theorem eqv_tupI (a b : List Int) : eqv (.tup (a.map .int)) (.tup (b.map .int)) = true ↔ D.tup (a.map D.int) = D.tup (b.map D.int) := by
  rw [eqv, eqvs_ints, decide_eq_true_eq]
  constructor
  · rintro rfl; rfl
  · intro h
    injection h with h
    exact mapI_inj h
theorem intsD_eq {xs : List D} (h : xs.all isIntD = true) : ∃ ns : List Int, xs = ns.map D.int := by
  obtain ⟨ns, e⟩ := intsOf_all h
  exact ⟨ns, intsOf_eq e⟩
theorem tupI_key {d : D} (h : isTupI d = true) : ∃ ns : List Int, d = .tup (ns.map .int) := by
  obtain ⟨n, ns, e, _⟩ := isTupI_of h
  exact ⟨n :: ns, e⟩
/-- the tuples of ints in a list of values -/
theorem tups_of {K : PySem.W.Frag} {F : Hp} : ∀ {xs : List V} {ds : List D}, Rps K F xs ds → ds.all isTupI = true → ∃ ks : List (Addr × List Int), xs = ks.map (fun p => V.ref p.1) ∧ ds = ks.map (fun p => D.tup (p.2.map D.int)) ∧ ∀ p ∈ ks, IsT F p.1 (p.2.map V.int)
  | _, _, .nil, _ => ⟨[], rfl, rfl, fun p h => by cases h⟩
  | _, _, .cons h r, e => by
    rw [List.all_cons, Bool.and_eq_true] at e
    obtain ⟨ks, rfl, rfl, hk⟩ := tups_of r e.2
    obtain ⟨ns, rfl⟩ := tupI_key e.1
    cases h with
    | tup ea rr =>
      have e1 := Rps.ofInts rr
      subst e1
      refine ⟨(_, ns) :: ks, rfl, rfl, fun p hp => ?_⟩
      rcases List.mem_cons.mp hp with z | z
      · subst z; exact ea
      · exact hk p z
theorem nodup_le : ∀ {l m : List D}, l.Nodup → (∀ d ∈ l, d ∈ m) → l.length ≤ m.length
  | [], m, _, _ => Nat.zero_le _
  | d :: l, m, nd, h => by
    obtain ⟨h1, h2⟩ := List.nodup_cons.mp nd
    obtain ⟨u, v, rfl⟩ := List.append_of_mem (h d List.mem_cons_self)
    have := nodup_le (m := u ++ v) h2 fun x hx => by
      have := h x (List.mem_cons_of_mem _ hx)
      rcases List.mem_append.mp this with z | z
      · exact List.mem_append_left _ z
      · rcases List.mem_cons.mp z with rfl | z
        · exact absurd hx h1
        · exact List.mem_append_right _ z
    simp only [List.length_append, List.length_cons] at this ⊢
    omega
theorem rps_refs {K : PySem.W.Frag} {F : Hp} : ∀ {L : List (Addr × List Int)}, (∀ p ∈ L, IsT F p.1 (p.2.map V.int)) → Rps K F (L.map fun p => V.ref p.1) (L.map fun p => D.tup (p.2.map D.int))
  | [], _ => .nil
  | p :: L, h => .cons (.tup (h p List.mem_cons_self) (rps_ints _)) (rps_refs fun q hq => h q (List.mem_cons_of_mem _ hq))
section
variable {X : Cx}
/-- what the set of a list of data is: its members' data, in some turn -/
theorem set_data {K : PySem.W.Frag} {w : World} {F H : Hp} {Q : VK} {l : Addr} {xs : List V} {ds : List D} (s : Sub F H) (ea : F l = some (.lst xs)) (r : Rps K F xs ds) (hs : setable ds = true)
    (q : ∀ p ys es, H p = none → Rps K F ys es → es.Perm (dedupD ds []) → Q (.ref p) (upd H p (sO w p ys))) : rSetX K w [.ref l] H Q := by
  refine ⟨l, xs, rfl, SqL.of (s.lst ea), ?_⟩
  unfold setable at hs
  rw [Bool.or_eq_true, Bool.and_eq_true, Bool.and_eq_true] at hs
  rcases hs with ⟨hi, hl⟩ | ⟨ht, hl⟩
  · obtain ⟨ns, rfl⟩ := intsD_eq hi
    have e1 := Rps.ofInts r
    subst e1
    have hlen := of_decide_eq_true hl
    rw [List.length_map] at hlen
    refine .inl ⟨ns, rfl, by unfold scanBound; omega, fun p ms hp nd mem => q p _ (ms.map D.int) hp (rps_ints ms) ?_⟩
    obtain ⟨nd2, mem2⟩ := dedup_spec (all := ns.map D.int) (fun x hx y hy => by
      obtain ⟨i, _, rfl⟩ := List.mem_map.mp hx
      obtain ⟨j, _, rfl⟩ := List.mem_map.mp hy
      simp [eqv]) (ns.map D.int) [] (fun x hx => hx) (fun x hx => by cases hx) List.nodup_nil
    refine (List.perm_ext_iff_of_nodup ?_ nd2).mpr fun x => ?_
    · exact List.pairwise_map.mpr (List.Pairwise.imp (fun hne e => hne (by injection e)) nd)
    · rw [mem2 x]
      simp only [List.mem_map, List.not_mem_nil, false_or]
      constructor
      · rintro ⟨i, hi, rfl⟩; exact ⟨i, (mem i).mp hi, rfl⟩
      · rintro ⟨i, hi, rfl⟩; exact ⟨i, (mem i).mpr hi, rfl⟩
  · obtain ⟨ks, rfl, rfl, hk⟩ := tups_of r ht
    have hlen : ks.length < 64 ∨ FewT ks := by
      rcases Bool.or_eq_true _ _ |>.mp hl with hl | hl
      · have hlen := of_decide_eq_true hl
        rw [List.length_map] at hlen
        exact .inl hlen
      · right
        have hl := of_decide_eq_true hl
        intro L sub nd
        obtain ⟨nd2, mem2⟩ := dedup_spec (all := ks.map fun p => D.tup (p.2.map D.int)) (fun x hx y hy => by
          obtain ⟨i, _, rfl⟩ := List.mem_map.mp hx
          obtain ⟨j, _, rfl⟩ := List.mem_map.mp hy
          exact eqv_tupI _ _) (ks.map fun p => D.tup (p.2.map D.int)) [] (fun x hx => hx) (fun x hx => by cases hx) List.nodup_nil
        have nL : (L.map fun p => D.tup (p.2.map D.int)).Nodup := by
          have : (L.map (·.2)).map (fun k : List Int => D.tup (k.map D.int)) = L.map fun p => D.tup (p.2.map D.int) := by rw [List.map_map]; rfl
          rw [← this]
          refine List.pairwise_map.mpr (List.Pairwise.imp (fun hne e => hne ?_) nd)
          injection e with e
          exact mapI_inj e
        have sb : ∀ d ∈ L.map (fun p => D.tup (p.2.map D.int)), d ∈ dedupD (ks.map fun p => D.tup (p.2.map D.int)) [] := fun d hd => by
          rw [mem2]
          right
          obtain ⟨p, hp, rfl⟩ := List.mem_map.mp hd
          exact List.mem_map.mpr ⟨p, sub p hp, rfl⟩
        have := nodup_le nL sb
        rw [List.length_map] at this
        omega
    refine .inr ⟨ks, rfl, fun p hp => (s.tup (hk p hp)).sq, hlen, fun a L ha sub all nd => q a _ _ ha (rps_refs fun p hp => hk p (sub p hp)) ?_⟩
    obtain ⟨nd2, mem2⟩ := dedup_spec (all := ks.map fun p => D.tup (p.2.map D.int)) (fun x hx y hy => by
      obtain ⟨i, _, rfl⟩ := List.mem_map.mp hx
      obtain ⟨j, _, rfl⟩ := List.mem_map.mp hy
      exact eqv_tupI _ _) (ks.map fun p => D.tup (p.2.map D.int)) [] (fun x hx => hx) (fun x hx => by cases hx) List.nodup_nil
    refine (List.perm_ext_iff_of_nodup ?_ nd2).mpr fun x => ?_
    · have : (L.map (·.2)).map (fun k : List Int => D.tup (k.map D.int)) = L.map fun p => D.tup (p.2.map D.int) := by rw [List.map_map]; rfl
      rw [← this]
      refine List.pairwise_map.mpr (List.Pairwise.imp (fun hne e => hne ?_) nd)
      injection e with e
      exact mapI_inj e
    · rw [mem2 x]
      simp only [List.mem_map, List.not_mem_nil, false_or]
      constructor
      · rintro ⟨p, hp, rfl⟩; exact ⟨p, sub p hp, rfl⟩
      · rintro ⟨p, hp, rfl⟩
        obtain ⟨p', hp', e⟩ := List.mem_map.mp (all p hp)
        exact ⟨p', hp', by rw [e]⟩
variable {W : WX} {cl : Nat → Value} {a : Expr} {ra : Env → R D} {p p2 q pos : Pos}
theorem ce_sortset (hc : X.calm = true) (hu : X.A.units + 64 < cLine) (hg : Gl X "sorted") (hm : X.mg "sorted" = none) (hg2 : Gl X "set") (hm2 : X.mg "set" = none) (na : starEach [a] X.env = (false, eval a X.env) :: starEach [] X.env) (ha : PE X a (tE X.K W cl ra)) :
    PE X (.Call (.Name "sorted" p) [.Call (.Name "set" p2) [a] [] q] [] pos) (tE X.K W cl fun e => do let x ← ra e; biS .sortset [x]) := by
  refine PE.imp (pe_callB (cr_sortX hc (by omega)) hg hm (by decide +kernel) (pa_cons (pe_callTy (cr_setX hc hu) hg2 hm2 (by decide +kernel) (pa_cons ha pa_nil na) (by decide) (by decide) na rfl) pa_nil rfl) (by decide) (by decide) rfl rfl) fun σ H Q _ q => ?_
  obtain ⟨e, F, vr, w⟩ := q
  refine ⟨e, F, vr, w.bind.mono fun x F1 H1 x1 w1 vx rx => ?_⟩
  cases rx <;> simp only [biS] at w1 <;> try exact w1.elim
  rename_i l xs ds ea r
  split at w1
  · rename_i hs
    show rSetX X.K X.w [V.ref l] H1 fun x H1 => rSortX X.K X.w [x] H1 Q
    refine set_data x1.sub ea r hs fun p ys es hp ry pe => ?_
    have x2 := Ext.made (sO X.w p ys) x1.sub hp
    unfold sortS at w1
    split at w1
    · rename_i hso
      have hso' : sortable es = true := by
        unfold sortable at hso ⊢
        rw [Bool.or_eq_true, Bool.or_eq_true] at hso ⊢
        rcases hso with h | h | h
        · exact .inl (List.all_eq_true.mpr fun z hz => List.all_eq_true.mp h z (pe.mem_iff.mp hz))
        · exact .inr (.inl (List.all_eq_true.mpr fun z hz => List.all_eq_true.mp h z (pe.mem_iff.mp hz)))
        · exact .inr (.inr (List.all_eq_true.mpr fun z hz => List.all_eq_true.mp h z (pe.mem_iff.mp hz)))
      have es_eq : sortD es = sortD (dedupD ds []) := sortD_uniq hso ((sortD_perm es).trans pe) (sortD_srt es)
      obtain ⟨k, h1, h2⟩ := sort_done (K := X.K) (Q := Q) (d := .lst (sortD es)) x2.sub ry (by unfold sortS; rw [if_pos hso']) (fun v F' H' x r => by
        rw [es_eq] at r
        exact w1 F' H' (x2.trans x) v r)
      exact ⟨p, ys, k, rfl, .inr (.inr (.inr (.inr upd_same))), h1, h2⟩
    · exact w1.elim
  · exact w1.elim
end
end Pan
namespace Pan
open PySem PySem.Spec L2
open PyProof.Rows hiding St
open PySem.W (dataLt dataLt_pair dataLt_ii dataLt_int minD AlikeAll min_list_data readsAll_at reads_keeps)
variable [TabsIn]
theorem toPy_tr (n a b : Int) : toPy (.tup [.int n, .tup [.int a, .int b]]) = .tuple [.int n, .tuple [.int a, .int b]] := by
  simp [toPy, toPys]
theorem isTr_cases {d : D} (h : isTr d = true) : ∃ n a b : Int, d = .tup [.int n, .tup [.int a, .int b]] := by
  unfold isTr at h
  split at h
  · exact ⟨_, _, _, rfl⟩
  · cases h
theorem lt_tr (n a b m c d : Int) : dataLt (.tuple [.int n, .tuple [.int a, .int b]]) (.tuple [.int m, .tuple [.int c, .int d]]) = HT.lexLt [n, a, b] [m, c, d] := by
  rw [dataLt_pair rfl rfl, dataLt_ii, dataLt_int, HT.lexLt_cons, HT.lexLt_cons, HT.lexLt_cons, HT.lexLt_nil_nil]
  have e1 : PyData.eqv (.int n) (.int m) = decide (n = m) := by
    rw [Bool.eq_iff_iff, decide_eq_true_eq]
    simp [PyData.eqv]
  have e2 : PyData.eqv (.tuple [.int a, .int b]) (.tuple [.int c, .int d]) = decide (a = c ∧ b = d) := by
    rw [Bool.eq_iff_iff, decide_eq_true_eq]
    simp [PyData.eqv, PyData.eqvAll]
  rw [e1, e2]
  by_cases h1 : n = m
  · subst h1
    by_cases h2 : a = c
    · subst h2
      by_cases h3 : b = d
      · subst h3; simp
      · simp [h3]
    · simp [h2]
  · simp [h1]
theorem minT_py : ∀ (r : List D) (x : D), isTr x = true → r.all isTr = true → isTr (minT x r) = true ∧ toPy (minT x r) = minD (toPy x) (toPys r)
  | [], x, hx, _ => ⟨hx, by rw [toPys]; rfl⟩
  | y :: r, x, hx, hr => by
    rw [List.all_cons, Bool.and_eq_true] at hr
    obtain ⟨n, a, b, rfl⟩ := isTr_cases hx
    obtain ⟨m, c, d, rfl⟩ := isTr_cases hr.1
    have e : minT (.tup [.int n, .tup [.int a, .int b]]) (.tup [.int m, .tup [.int c, .int d]] :: r) = minT (if HT.lexLt [m, c, d] [n, a, b] then .tup [.int m, .tup [.int c, .int d]] else .tup [.int n, .tup [.int a, .int b]]) r := rfl
    have e2 : minD (toPy (.tup [.int n, .tup [.int a, .int b]])) (toPys (.tup [.int m, .tup [.int c, .int d]] :: r)) = minD (if HT.lexLt [m, c, d] [n, a, b] then toPy (.tup [.int m, .tup [.int c, .int d]]) else toPy (.tup [.int n, .tup [.int a, .int b]])) (toPys r) := by
      rw [toPys]
      unfold minD
      rw [List.foldl_cons, toPy_tr, toPy_tr, lt_tr]
    rw [e, e2]
    cases HT.lexLt [m, c, d] [n, a, b] with
    | true => exact minT_py r _ rfl hr.2
    | false => exact minT_py r _ rfl hr.2
theorem toPy_inj {x y : D} (hx : isTr x = true) (hy : isTr y = true) (h : toPy x = toPy y) : x = y := by
  obtain ⟨n, a, b, rfl⟩ := isTr_cases hx
  obtain ⟨m, c, d, rfl⟩ := isTr_cases hy
  rw [toPy_tr, toPy_tr] at h
  injection h with h
  injection h with h1 h
  injection h1 with h1
  injection h with h2 _
  injection h2 with h2
  injection h2 with h3 h2
  injection h3 with h3
  injection h2 with h4 _
  injection h4 with h4
  rw [h1, h3, h4]
section
variable {X : Cx}
def rMinT (K : PySem.W.Frag) : List V → Hp → VK → Prop := fun vs H Q => ∃ (a : Addr) (xs : List V) (x : PyData) (r : List PyData), vs = [V.ref a] ∧ SqL K H a xs ∧ DpAll K H xs (x :: r) ∧ AlikeAll (x :: r) ∧ PyData.canLayAll0 (x :: r) = true ∧ PyData.depthAll (x :: r) ≤ 60 ∧
  ∀ (i : Nat) (v : V), xs[i]? = some v → (x :: r)[i]? = some (minD x r) → Q v H
theorem cr_minT (hc : X.calm = true) (hu : X.A.units + 65 < cLine) : CallR X (.builtin "min") (rMinT X.K) := by
  intro pins s σ H vs us Q I rr h
  obtain ⟨a, xs, x, r, rfl, hs, hd, al, lay, dep, q⟩ := h
  obtain ⟨its, rv, hl, _⟩ := I.list hs
  rw [Vals.ref1 rr]
  obtain ⟨as, rd⟩ := Dp.readsAll I _ _ _ hd rv
  refine min_list_data (I.ok.hd hc) hl.isList (show ReadsAll s.heap its.toArray.toList (x :: r) as from rd) al (by omega) fun i v h' tk bs hv hr kp => ?_
  have hv' : its[i]? = some v := by simpa using hv
  obtain ⟨cs, r1, _⟩ := readsAll_at rd i v hv'
  have hil : i < its.length := (List.getElem?_eq_some_iff.mp hv').1
  have ln := SeqAt.ReadsAll.length _ _ _ rd
  have hi2 : i < (x :: r).length := by omega
  have e0 : (x :: r).getD i .none = (x :: r)[i] := by rw [List.getD_eq_getElem?_getD, List.getElem?_eq_getElem hi2]; rfl
  rw [e0] at r1
  have lay1 : PyData.canLay0 (x :: r)[i] = true := by
    have all : ∀ l : List PyData, PyData.canLayAll0 l = true → ∀ d ∈ l, d.canLay0 = true := fun l => by
      induction l with
      | nil => intro _ d hd; cases hd
      | cons y l ih =>
        intro hy d hd
        have hy' : y.canLay0 = true ∧ PyData.canLayAll0 l = true := by simpa [PyData.canLayAll0] using hy
        rcases List.mem_cons.mp hd with e | e
        · rw [e]; exact hy'.1
        · exact ih hy'.2 d e
    exact all _ lay _ (List.getElem_mem hi2)
  have un : (x :: r)[i] = minD x r := SeqAt.Reads.unique _ _ v _ _ lay1 (reads_keeps kp r1) hr
  have hxl : i < xs.length := by rw [rv.length]; exact hil
  have hx : xs[i]? = some xs[i] := List.getElem?_eq_getElem hxl
  obtain ⟨u, hu', ru⟩ := rv.get hx
  rw [hv'] at hu'
  cases hu'
  exact ⟨xs[i], H, I.kept (t' := tk) kp, ru, q i xs[i] hx (by rw [List.getElem?_eq_getElem hi2, un])⟩
theorem minTS_ok {ys : List D} {d : D} (e : minTS ys = .ok d) : ∃ y r, ys = y :: r ∧ (y :: r).all isTr = true ∧ d = minT y r := by
  cases ys with
  | nil => cases e
  | cons y r =>
    have e : (if (y :: r).all isTr then R.ok (minT y r) else .bad) = .ok d := e
    split at e
    · rename_i h
      cases e
      exact ⟨y, r, rfl, h, rfl⟩
    · cases e
theorem rps_dp {K : PySem.W.Frag} {F H : Hp} (s : Sub F H) (n : Nat) : ∀ {vs : List V} {ds : List D}, Rps K F vs ds → ds.all (okd n) = true → DpAll K H vs (toPys ds)
  | _, _, .nil, _ => by rw [toPys]; exact .nil
  | _, _, .cons h r, ho => by
    rw [List.all_cons, Bool.and_eq_true] at ho
    rw [toPys]
    exact .cons (h.dp s n ho.1) (rps_dp s n r ho.2)
theorem tr_okd {d : D} (h : isTr d = true) : okd 4 d = true := by
  obtain ⟨n, a, b, rfl⟩ := isTr_cases h
  simp [okd]
theorem tr_dep : ∀ {ds : List D}, ds.all isTr = true → PyData.depthAll (toPys ds) ≤ 60 ∧ PyData.canLayAll0 (toPys ds) = true
  | [], _ => by rw [toPys]; exact ⟨by simp [PyData.depthAll], by simp [PyData.canLayAll0]⟩
  | d :: ds, h => by
    rw [List.all_cons, Bool.and_eq_true] at h
    obtain ⟨h1, h2⟩ := tr_dep h.2
    obtain ⟨n, a, b, rfl⟩ := isTr_cases h.1
    rw [toPys, toPy_tr]
    refine ⟨?_, ?_⟩
    · simp only [PyData.depthAll, PyData.depth]
      omega
    · simp only [PyData.canLayAll0, PyData.canLay0, h2]
      decide
theorem tr_alike {ds : List D} (h : ds.all isTr = true) : AlikeAll (toPys ds) := by
  rw [toPys_map]
  have hd := List.all_eq_true.mp h
  refine ⟨fun x hx y hy => ?_, fun x hx => ?_⟩
  · obtain ⟨a, ha, rfl⟩ := List.mem_map.mp hx
    obtain ⟨b, hb, rfl⟩ := List.mem_map.mp hy
    obtain ⟨_, _, _, rfl⟩ := isTr_cases (hd a ha)
    obtain ⟨_, _, _, rfl⟩ := isTr_cases (hd b hb)
    rw [toPy_tr, toPy_tr]
    rfl
  · obtain ⟨a, ha, rfl⟩ := List.mem_map.mp hx
    obtain ⟨_, _, _, rfl⟩ := isTr_cases (hd a ha)
    rw [toPy_tr]
    exact fun z => by cases z
theorem bi_min (hc : X.calm = true) (hu : X.A.units + 65 < cLine) : CallR X (.builtin "min") (rBi X.K .min) := by
  refine CallR.imp ((((call_min2 hc).or (cr_min hc)).or (cr_minT hc hu)).or (cr_minU hc)) fun vs H Q _ h => ?_
  obtain ⟨F, ds, d, s, r, e, g⟩ := h
  cases r with
  | nil => simp [biS] at e
  | cons h1 r =>
    cases r with
    | nil =>
      cases h1 <;> simp only [biS] at e <;> try cases e
      · rename_i ea r
        split at e
        · rename_i n ns hn
          cases e
          have := r.ints hn
          subst this
          refine .inr ⟨_, _, rfl, (s.tup ea).sq, by simp, fun m hm hl => ?_⟩
          rw [← minI_spec ns n m hm hl]
          exact g.int s
        · cases e
      · rename_i ea r
        split at e
        · rename_i n ns hn
          cases e
          have := r.ints hn
          subst this
          refine .inl (.inl (.inr ⟨_, _, rfl, SqL.of (s.lst ea), by simp, fun m hm hl => ?_⟩))
          rw [← minI_spec ns n m hm hl]
          exact g.int s
        · obtain ⟨y, ys', hy, ha, hd⟩ := minTS_ok e
          subst hy
          subst hd
          have hx : isTr y = true := (List.all_eq_true.mp ha) y List.mem_cons_self
          have hr : ys'.all isTr = true := by rw [List.all_cons, Bool.and_eq_true] at ha; exact ha.2
          obtain ⟨m1, m2⟩ := minT_py ys' y hx hr
          have tp : toPys (y :: ys') = toPy y :: toPys ys' := by rw [toPys]
          obtain ⟨dp1, dp2⟩ := tr_dep ha
          have da := rps_dp (K := X.K) s 4 r (List.all_eq_true.mpr fun z hz => tr_okd (List.all_eq_true.mp ha z hz))
          have al := tr_alike ha
          rw [tp] at dp1 dp2 da al
          refine .inl (.inr ⟨_, _, toPy y, toPys ys', rfl, SqL.of (s.lst ea), da, al, dp2, dp1, fun i v hv hi => ?_⟩)
          rw [← tp, toPys_map, List.getElem?_map] at hi
          obtain ⟨z, hz, ez⟩ := Option.map_eq_some_iff.mp hi
          have hzt : isTr z = true := List.all_eq_true.mp ha z (List.mem_of_getElem? hz)
          have : z = minT y ys' := toPy_inj hzt m1 (by rw [ez, m2])
          subst this
          obtain ⟨v', hv', rv⟩ := r.get hz
          rw [hv] at hv'
          cases hv'
          exact g v F H (Ext.refl s) rv
    | cons h2 r =>
      cases r with
      | cons _ _ => simp [biS] at e
      | nil =>
        cases h1 <;> cases h2 <;> simp only [biS] at e <;> try cases e
        exact .inl (.inl (.inl ⟨_, _, rfl, g.int s⟩))
end
end Pan
namespace Pan
open PySem PySem.Spec L2
open PyProof.Rows hiding St
variable [TabsIn]
section
variable {X : Cx} {W : WX} {cl : Nat → Value} {a b : Expr} {rb : Env → R D} {pos p1 p2 : Pos} {es : List Expr} {j : Nat}
/-- the defs that a list names -/
inductive FnL (X : Cx) (cl : Nat → Value) (j : Nat) : List Expr → List FnR → List V → Prop
  | nil : FnL X cl j [] [] []
  | cons {x : Str} {p : Pos} {r : List Expr} {fr : FnR} {l : List FnR} {vs : List V} {f : Addr} {fd : FuncData} {ps : List Str} {k : Nat} : Gl X x → (x == ("__debug__" : Str)) = false → X.mg x = some (.ref f) → ps.length = fr.n → k ≤ j → FnOk X.prog X.w X.K X.mg X.base (L2.CX X.prog X.w) k f fd ps (spOf X.K cl fr.n fr.sem) → PySem.W.keepIn X.K (.ref f) = true → Binds X.K fd ps [] → FnL X cl j r l vs → FnL X cl j (.Name x p :: r) (fr :: l) (.ref f :: vs)
theorem FnL.pa {fs : List Expr} {l : List FnR} {vs : List V} (h : FnL X cl j fs l vs) : PA X fs fun _ H Q => Q vs H := by
  induction h with
  | nil => exact pa_nil
  | cons g d m _ _ _ _ _ _ ih => exact PA.imp (pa_cons (pe_glob (v := .ref _) g m rfl d) ih rfl) fun σ H Q _ q => q
theorem FnL.len {fs : List Expr} {l : List FnR} {vs : List V} (h : FnL X cl j fs l vs) : l.length = vs.length := by
  induction h with
  | nil => rfl
  | cons _ _ _ _ _ _ _ _ _ ih => simp [ih]
theorem FnL.get {fs : List Expr} {l : List FnR} {vs : List V} (h : FnL X cl j fs l vs) : ∀ {i : Nat} {fr : FnR}, l[i]? = some fr → ∃ (f : Addr) (fd : FuncData) (ps : List Str) (k : Nat), vs[i]? = some (.ref f) ∧ k ≤ j ∧ FnOk X.prog X.w X.K X.mg X.base (L2.CX X.prog X.w) k f fd ps (spOf X.K cl fr.n fr.sem) ∧ PySem.W.keepIn X.K (.ref f) = true ∧ Binds X.K fd ps [] := by
  induction h with
  | nil => intro i fr e; cases e
  | cons g d m e1 e2 e3 e4 e5 _ ih =>
    intro i fr e
    cases i with
    | zero =>
      cases e
      exact ⟨_, _, _, _, rfl, e2, e3, e4, e5⟩
    | succ i => exact ih e
def pickR (l : List FnR) : D → R FnR
  | .int i => if 0 ≤ i then (match l[i.toNat]? with
    | some f => .ok f
    | none => .bad) else .bad
  | _ => .bad
theorem ce_callx {fs : List Expr} {l : List FnR} {vs : List V} {rs : Env → R (List D)} (hf : FnL X cl j fs l vs) (hl : l.length ≤ 1000) (hr : Room j X.A) (tk : Takes X W) (hs : PlainIx b) (hb : PE X b (tE X.K W cl rb)) (ha : PA X (a :: es) (tA X.K W cl rs))
    (he : starEach (a :: es) X.env = (false, eval a X.env) :: starEach es X.env) (hpl : (backTo pos (starEach es X.env)).any (·.1) = false) :
    PE X (.Call (.Subscript (.List fs p1) b p2) (a :: es) [] pos) (tE X.K W cl fun e => do let x ← rb e; let fr ← pickR l x; let xs ← rs e; arity fr.n fr.sem xs) := by
  refine ⟨fun pins s σ H Q I h => ?_⟩
  obtain ⟨e, F, vr, w⟩ := h
  have callee : PE X (.Subscript (.List fs p1) b p2) (tOp (rIx X.K) (tLst fun _ H Q => Q vs H) (tE X.K W cl rb)) := pe_ix ix_seq (pe_lst hf.pa) hb hs
  have hlv : vs.length ≤ sizeLine := by rw [← hf.len]; exact Nat.le_trans hl (by decide)
  refine Call_ (thn (callee.run pins s σ H (fun v H1 => ∃ (fr : FnR) (f : Addr) (fd : FuncData) (ps : List Str) (k : Nat) (F1 : Hp), v = .ref f ∧ k ≤ j ∧ FnOk X.prog X.w X.K X.mg X.base (L2.CX X.prog X.w) k f fd ps (spOf X.K cl fr.n fr.sem) ∧ PySem.W.keepIn X.K (.ref f) = true ∧ Binds X.K fd ps [] ∧ VR X.K e σ F1 H1 ∧ Wp W cl (rs e >>= fun xs => arity fr.n fr.sem xs) σ F1 H1 fun d F' H' => ∀ v, Rp X.K F' v d → Q v H') I ?_) fun u s1 ⟨v, H1, I1, r1, q1⟩ => ?_) rfl
  · refine ⟨hlv, fun p hp => ⟨e, F, (vr.mono (Ext.made (.lst vs) vr.sub hp)), ?_⟩⟩
    have x0 := Ext.made (.lst vs) vr.sub hp
    refine (w.step x0).bind.mono fun x F1 H1 x1 w1 vx rx => ?_
    unfold pickR at w1
    split at w1
    · rename_i i
      split at w1
      · rename_i hi
        cases q : l[i.toNat]? with
        | none => rw [q] at w1; exact w1.elim
        | some fr =>
          rw [q] at w1
          obtain ⟨f, fd, ps, k, e1, e2, e3, e4, e5⟩ := hf.get q
          cases rx
          refine .inl ⟨p, vs, i, .ref f, rfl, rfl, SqL.of (x1.same.at upd_same), ?_, ⟨fr, f, fd, ps, k, F1, rfl, e2, e3, e4, e5, (vr.mono x0).mono x1, w1⟩⟩
          unfold atI ixN
          rw [if_pos hi, if_pos (by
            have := (List.getElem?_eq_some_iff.mp e1).1
            omega)]
          exact e1
      · exact w1.elim
    · exact w1.elim
  · obtain ⟨fr, f, fd, ps, k, F1, rfl, e2, e3, e4, e5, vr1, w1⟩ := q1
    cases r1
    refine PySem.W.callWith_K (h₀ := X.base) I.ok.mod.kin e4 (thn (ha.run pos pins s1 σ H1 (fun vs H2 => spOf X.K cl fr.n fr.sem vs H2 Q (WE W σ)) I1 ⟨e, F1, vr1, w1.bind.mono fun xs F2 H2 x2 w2 vs rs => sp_of_wp x2.sub rs w2⟩) fun us s2 ⟨vs, H2, I2, r, q⟩ => ⟨I2.kIn, ?_⟩) he hpl
    exact run_fnS e3 (hr.mono e2) e5 (passAt tk σ) I2 r q
end
end Pan
namespace Pan
open PySem PySem.Spec L2
open PyProof.Rows hiding St
variable [TabsIn]
/-- what a method that only looks promises -/
def spRO (K : PySem.W.Frag) (g : Ob → D) : Sp := fun vs H Q _ => ∃ F a o, vs = [.ref a] ∧ Sub F H ∧ ObR K F H o a ∧ ∀ v F' H', Ext F H F' H' → Rp K F' v (g o) → Q v H'
def spLen (K : PySem.W.Frag) : Sp := fun vs H Q _ => ∃ F a o n, vs = [.ref a] ∧ Sub F H ∧ ObR K F H o a ∧ lenOb o = .ok (.int n) ∧ ∀ H', SameT H H' → Q (.int n) H'
abbrev FnA (X : Cx) (k : Nat) (f : Addr) (ps : List Str) (sp : Sp) : Prop := ∃ fd, FnOk X.prog X.w X.K X.mg X.base (L2.CX X.prog X.w) k f fd ps sp ∧ Binds X.K fd ps []
structure DeskX (X : Cx) (j : Nat) : Prop where
  cls : Cls X.K (deskC X.K)
  na : ∀ f ∈ (["panes", "now", "done", "undone"] : List Str), NoAttr X.K (deskC X.K) f
  rd : ∀ b : Bool, ∃ f k, k ≤ j ∧ Meth X.K (deskC X.K) (if b then ("order" : Str) else "windows") f ∧ FnA X k f ["self"] (spRO X.K fun o => if b then o.n else o.p)
  len : ∃ f k, k + 1 ≤ j ∧ Meth X.K (deskC X.K) "__len__" f ∧ FnA X k f ["self"] (spLen X.K)
theorem VR.getObj {K : PySem.W.Frag} {F H : Hp} {e : Env} {σ : St} {i : Nat} {b : Bool} {o : Ob} (v : VR K e σ F H) (h : e[i]? = some (.obj b o)) : ∃ a, σ[i]? = some (some (.ref a)) ∧ ObR K F H o a := by
  have hl : i < e.length := (List.getElem?_eq_some_iff.mp h).1
  have hl2 : i < σ.length := v.len ▸ hl
  have e2 : σ[i]? = some σ[i] := List.getElem?_eq_getElem hl2
  have q := v.slot i _ _ h e2
  cases z : σ[i] with
  | none => rw [z] at q; exact q.elim
  | some x =>
    rw [z] at q e2
    cases x with
    | ref a => exact ⟨a, e2, q⟩
    | _ => exact q.elim
theorem getOb_ok {e : Env} {i : Nat} {o : Ob} (h : getOb e i = .ok o) : ∃ b, e[i]? = some (.obj b o) := by
  unfold getOb at h
  split at h
  · rename_i b o' hs
    cases h
    exact ⟨b, hs⟩
  · cases h
theorem getOb_noexc {e : Env} {i c : Nat} : getOb e i ≠ .exc c := by
  unfold getOb
  split <;> simp
/-- x.m(..) as the rules of methods want it -/
theorem meth_eval {x m : Str} {p ap pos : Pos} {es : List Expr} {env : PySem.Env} (hl : (ap.endLine == pos.line) = true) (hf : methodCallForm (es.length + 0) (backTo pos (starEach es env)) (backToKw pos (keywordEach [] env)) = true) :
    eval (.Call (.Attribute (.Name x p) m ap) es [] pos) env = (do
      let ov ← eval (.Name x p) env
      standAt ap.atName
      let (f, first) ← holding [ov] (getMethod ov m (do return (← importBound (.Name x p) env).getD true))
      callWith pos f first (backTo pos (starEach es env)) (backToKw pos (keywordEach [] env))) := by
  show (do
    let ov ← eval (.Name x p) env
    standAt ap.atName
    let (f, first) ← holding [ov] (calleeOf (methodCallForm (es.length + 0) (backTo pos (starEach es env)) (backToKw pos (keywordEach [] env))) (.Name x p) env ov m)
    let callPos ← methodCallPos (methodCallForm (es.length + 0) (backTo pos (starEach es env)) (backToKw pos (keywordEach [] env))) (.Name x p) env ap pos
    callWith callPos f first (backTo pos (starEach es env)) (backToKw pos (keywordEach [] env))) = _
  rw [hf]
  unfold methodCallPos
  rw [hl]
  rfl
section
variable {X : Cx} {W : WX} {cl : Nat → Value} {j i : Nat} {x : Str} {p pos ap : Pos}
/-- an expression over a desktop -/
theorem ob_wish {α : Type} {K : PySem.W.Frag} {σ : St} {F H : Hp} {e : Env} {P : α → Hp → Hp → Prop} {f : Ob → R α} (vr : VR K e σ F H) (w : Wp W cl (getOb e i >>= f) σ F H P) : ∃ o a, getOb e i = .ok o ∧ σ[i]? = some (some (.ref a)) ∧ ObR K F H o a ∧ Wp W cl (f o) σ F H P := by
  cases hg : getOb e i with
  | bad => rw [hg] at w; exact w.elim
  | exc c => exact absurd hg getOb_noexc
  | ok o =>
    rw [hg] at w
    obtain ⟨b, hs⟩ := getOb_ok hg
    obtain ⟨a, h1, h2⟩ := vr.getObj hs
    exact ⟨o, a, rfl, h1, h2, w⟩
theorem ce_fld {b : Bool} {f : Str} (dk : DeskX X j) (hN : X.N[i]? = some x) (hv : Vis X.env.scope x) (hd : (x == ("__debug__" : Str)) = false) (hcd : (x == ("__classdict__" : Str)) = false) (hf : f = if b then ("now" : Str) else "panes") :
    PE X (.Attribute (.Name x p) f pos) (tE X.K W cl fun e => do let o ← getOb e i; .ok (if b then o.n else o.p)) := by
  refine PE.imp (pe_fld (pe_var hN hv hd hcd) rfl) fun σ H Q _ q => ?_
  obtain ⟨e, F, vr, w⟩ := q
  obtain ⟨o, a, _, hσ, ob, w⟩ := ob_wish vr w
  obtain ⟨dx, da, ua, pv, nv, ds, us, z⟩ := ob
  refine ⟨.ref a, hσ, a, deskC X.K, dx, _, if b then nv else pv, rfl, z.ha, dk.cls, dk.na _ ?_, ?_, w.now vr.sub _ ?_⟩
  · subst hf; cases b <;> simp
  · subst hf; cases b <;> rfl
  · cases b
    · exact z.rp
    · exact z.rn
/-- x.done, x.undone, looked at -/
theorem cw_fldl {b : Bool} {f : Str} (dk : DeskX X j) (hN : X.N[i]? = some x) (hv : Vis X.env.scope x) (hd : (x == ("__debug__" : Str)) = false) (hcd : (x == ("__classdict__" : Str)) = false) (hf : f = if b then ("undone" : Str) else "done") :
    PE X (.Attribute (.Name x p) f pos) (tW X.K W cl fun e => do let o ← getOb e i; .ok (.lst (if b then o.un else o.dn))) := by
  refine PE.imp (pe_fld (pe_var hN hv hd hcd) rfl) fun σ H Q _ q => ?_
  obtain ⟨e, F, vr, w⟩ := q
  obtain ⟨o, a, _, hσ, ob, w⟩ := ob_wish vr w
  obtain ⟨dx, da, ua, pv, nv, ds, us, z⟩ := ob
  have main : ∀ {l : Addr} {xs : List V} {es : List D}, F l = none → H l = some (.lst xs) → Rps X.K F xs es → (∀ v G, Sub G H → Rp X.K G v (.lst es) → Q v H) → Q (.ref l) H := fun {l xs es} n h r q => by
    refine q _ (upd F l (.lst xs)) ⟨fun c u hq => ?_, vr.sub.tabs⟩ (.lst upd_same (r.mono (same_tell n)))
    by_cases zz : c = l
    · subst zz; rw [upd_same] at hq; cases hq; exact ⟨rfl, .inl h⟩
    · rw [upd_ne zz] at hq; exact vr.sub.at_ c u hq
  refine ⟨.ref a, hσ, a, deskC X.K, dx, _, if b then .ref ua else .ref da, rfl, z.ha, dk.cls, dk.na _ ?_, ?_, ?_⟩
  · subst hf; cases b <;> simp
  · subst hf; cases b <;> rfl
  · have w := w.now vr.sub
    cases b
    · exact main z.fd z.hd z.rd w
    · exact main z.fu z.hu z.ru w
theorem ce_omt {b : Bool} {m : Str} (dk : DeskX X j) (hr : Room j X.A) (tk : Takes X W) (hN : X.N[i]? = some x) (hv : Vis X.env.scope x) (hd : (x == ("__debug__" : Str)) = false) (hcd : (x == ("__classdict__" : Str)) = false) (hm : m = if b then ("order" : Str) else "windows") (hl : (ap.endLine == pos.line) = true) :
    PE X (.Call (.Attribute (.Name x p) m ap) [] [] pos) (tE X.K W cl fun e => do let o ← getOb e i; .ok (if b then o.n else o.p)) := by
  obtain ⟨f, k, hk, M, fd, F, B⟩ := dk.rd b
  rw [← hm] at M
  have rule := PE.imp (t' := tE X.K W cl fun e => do let o ← getOb e i; .ok (if b then o.n else o.p)) (pe_meth0 (pos := pos) (apos := ap) (E := fun _ _ _ => False) (pe_var (pos := p) hN hv hd hcd) dk.cls M F (hr.mono hk) B .nil (passes_call tk fun _ _ _ _ z => z.elim) (meth_eval hl rfl)) fun σ H Q _ q => by
    obtain ⟨e, F, vr, w⟩ := q
    obtain ⟨o, a, _, hσ, ob, w⟩ := ob_wish vr w
    have ob' := ob
    obtain ⟨dx, da, ua, pv, nv, ds, us, z⟩ := ob'
    refine ⟨.ref a, hσ, a, dx, _, rfl, z.ha, ?_, F, a, o, rfl, vr.sub, ob, fun v F' H' x r => w F' H' x v r⟩
    subst hm; cases b <;> rfl
  exact rule
theorem call_lenOb (dk : DeskX X j) (hr : Room j X.A) (tk : Takes X W) : CallR X (.builtin "len") (fun xs H Q => ∃ F a o n, xs = [.ref a] ∧ Sub F H ∧ ObR X.K F H o a ∧ lenOb o = .ok (.int n) ∧ 0 ≤ n ∧ n < 2 ^ 63 ∧ ∀ H', SameT H H' → Q (.int n) H') := by
  obtain ⟨f, k, hk, M, fd, Fn, B⟩ := dk.len
  intro pins s σ H xs us Q I r h
  obtain ⟨F, a, o, n, rfl, hs, ob, hl, h0, h1, q⟩ := h
  obtain ⟨u, rfl, ru⟩ := r.one
  cases (show u = Value.ref a from ru)
  have ob' := ob
  obtain ⟨dx, da, ua, pv, nv, ds, us, z⟩ := ob'
  obtain ⟨mA, J, _⟩ := ins_get I.hok z.ha
  obtain ⟨od, J, _⟩ := J.look
  obtain ⟨m, hF⟩ := I.fr
  have hr2 : Room k X.A.in1 := Room.in1 (hr.mono hk)
  refine PySem.W.len_K hF I.ok.mod.kin J M.at_ M.fn ?_
  have hx : Passes (L2.CX X.prog X.w) X (fun _ _ _ => False) := passes_call tk fun _ _ _ _ z => z.elim
  have hsp : spLen X.K [.ref a] H (fun v H' => v = .int n ∧ SameT H H') (fun _ _ _ => False) := ⟨F, a, o, n, rfl, hs, ob, hl, fun H' e => ⟨rfl, e⟩⟩
  refine wpAny_call (codeAny_mono (Fn.run X.A.in1 X.stack s H ⟨[.ref a], []⟩ [.ref a] [.ref a] _ _ hr2 I.env0.in1 (by
    have := B s [.ref a] I.kIn rfl
    simpa using this) (.cons rfl .nil) hsp) fun r s' hq => ?_)
  cases r with
  | error e => exact hx pins σ H s e s' I hq
  | ok fl =>
    cases fl with
    | ret w =>
      obtain ⟨z', H', I', rz, ez, ex⟩ := I.after hq
      subst ez
      obtain ⟨t, e⟩ := (show ∃ t, w = Value.int n t from rz)
      cases e
      exact ⟨⟨h0, h1⟩, .int n, H', I'.tok _, ⟨_, rfl⟩, q H' ex⟩
    | next => exact False.elim hq
    | brk => exact False.elim hq
    | cont => exact False.elim hq
theorem ce_olen (dk : DeskX X j) (hr : Room j X.A) (tk : Takes X W) (hg : Gl X "len") (hm : X.mg "len" = none) (hN : X.N[i]? = some x) (hv : Vis X.env.scope x) (hd : (x == ("__debug__" : Str)) = false) (hcd : (x == ("__classdict__" : Str)) = false) :
    PE X (.Call (.Name "len" ap) [.Name x p] [] pos) (tE X.K W cl fun e => do let o ← getOb e i; lenOb o) := by
  refine PE.imp (pe_callB (call_lenOb dk hr tk) hg hm (by decide +kernel) (pa_cons (pe_var (pos := p) hN hv hd hcd) pa_nil rfl) (by decide) (by decide) rfl rfl) fun σ H Q gd q => ?_
  obtain ⟨e, F, vr, w⟩ := q
  obtain ⟨o, a, _, hσ, ob, w⟩ := ob_wish vr w
  have ob' := ob
  obtain ⟨dx, da, ua, pv, nv, ds, us, z⟩ := ob'
  have rp := z.rp
  unfold lenOb at w
  split at w
  · rename_i xs hxs
    rw [hxs] at rp
    cases rp with
    | tup ht rs =>
      have hz := gd.tup _ _ (vr.sub.tup ht).sq
      rw [rs.length] at hz
      have hz2 : (sizeLine : Nat) = 16777216 := by decide
      exact ⟨.ref a, hσ, F, a, o, xs.length, rfl, vr.sub, ob, by unfold lenOb; rw [hxs], by omega, by omega, fun H' sm => w F H' (Ext.same_of vr.sub sm) _ (.int _)⟩
  · exact w.elim
end
end Pan
namespace Pan
open PySem PySem.Spec L2
open PyProof.Rows hiding St
variable [TabsIn]
def o2 {α β γ : Type} (f : α → β → γ) : Option α → Option β → Option γ
  | some a, some b => some (f a b)
  | _, _ => none
def o3 {α β γ δ : Type} (f : α → β → γ → δ) : Option α → Option β → Option γ → Option δ
  | some a, some b, some c => some (f a b c)
  | _, _, _ => none
def when {α : Type} (b : Bool) (x : Option α) : Option α := if b then x else none
theorem o1_some {α β : Type} {f : α → β} {x : Option α} {z : β} (h : x.map f = some z) : ∃ a, x = some a ∧ z = f a := by
  cases x with
  | none => cases h
  | some a => cases h; exact ⟨a, rfl, rfl⟩
theorem o2_some {α β γ : Type} {f : α → β → γ} {x : Option α} {y : Option β} {z : γ} (h : o2 f x y = some z) : ∃ a b, x = some a ∧ y = some b ∧ z = f a b := by
  cases x <;> cases y <;> simp only [o2] at h <;> cases h
  exact ⟨_, _, rfl, rfl, rfl⟩
theorem o3_some {α β γ δ : Type} {f : α → β → γ → δ} {x : Option α} {y : Option β} {u : Option γ} {z : δ} (h : o3 f x y u = some z) : ∃ a b c, x = some a ∧ y = some b ∧ u = some c ∧ z = f a b c := by
  cases x <;> cases y <;> cases u <;> simp only [o3] at h <;> cases h
  exact ⟨_, _, _, rfl, rfl, rfl, rfl⟩
theorem when_some {α : Type} {b : Bool} {x : Option α} {z : α} (h : when b x = some z) : b = true ∧ x = some z := by
  unfold when at h
  split at h
  · exact ⟨by assumption, h⟩
  · cases h
/-- what is known of a def's names and of the module's -/
structure Sig where
  N : List Str
  fns : List (Str × Nat)
  ci : List (Str × Int)
  cs : List (Str × Str)
  bl : List Str
  mu : List Str
  di : List Str
  /-- dicts whose keys are tuples -/
  tu : List Str
  /-- names of desktops -/
  ob : List Str
/-- where one stands: the scope, and the names whose cells were made at its entry -/
structure Loc where
  sc : Scope
  fc : Str → Bool
def vis (L : Loc) (x : Str) : Bool := match L.sc.names.lookup x with
  | some .local => true
  | some .cell => true
  | some .free => true
  | _ => false
def nodb (x : Str) : Bool := !(x == ("__debug__" : Str)) && !(x == ("__classdict__" : Str))
def slotN (c : Sig) (L : Loc) (x : Str) : Option Nat := when (vis L x && nodb x) (c.N.findIdx? (· == x))
def glob (L : Loc) (x : Str) : Bool := decide (L.sc.names.lookup x = some .globalImplicit) && nodb x
def tyTab : List (Str × String) := [("int", "int"), ("bool", "bool"), ("str", "str"), ("tuple", "tuple"), ("list", "list")]
def biTab : List (Str × Bi × Value) := [("len", .len, .builtin "len"), ("max", .max, .builtin "max"), ("min", .min, .builtin "min"), ("abs", .abs, .builtin "abs"), ("all", .all, .builtin "all"), ("any", .any, .builtin "any"), ("sum", .sum, .builtin "sum"),
  ("tuple", .tuple, .type "tuple"), ("list", .list, .type "list"), ("isinstance", .isinst, .builtin "isinstance"), ("sorted", .sorted, .builtin "sorted"), ("dict", .dict, .type "dict"), ("str", .str, .type "str"), ("int", .int, .type "int")]
def compName (c : Sig) (L : Loc) (x : Str) : Option E := match slotN c L x with
  | some i => some (.var i)
  | none => when (glob L x) (match c.ci.lookup x with
    | some i => some (.lit (.int i))
    | none => match c.cs.lookup x with
      | some s => some (.lit (.str s))
      | none => match tyTab.lookup x with
        | some t => when (c.bl.contains x) (some (.lit (.ty t)))
        | none => none)
def compEs (f : Expr → Option E) : List Expr → Option Es
  | [] => some .nil
  | e :: r => o2 Es.cons (f e) (compEs f r)
/-- an operand that is only looked at: a name that this def changes may be read so -/
def compO (c : Sig) (L : Loc) (f : Expr → Option E) (e : Expr) : Option E := match e with
  | .Name x _ => if c.mu.contains x then (slotN c L x).map E.ovar else f e
  | .Attribute (.Name x _) m _ => if c.ob.contains x && (m == ("done" : Str) || m == ("undone" : Str)) then (slotN c L x).map (E.fldl (m == ("undone" : Str))) else f e
  | _ => f e
def isObName (c : Sig) : Expr → Option Str
  | .Name x _ => if c.ob.contains x then some x else none
  | _ => none
def compP (f : Expr → Option E) : Option Expr → Option O
  | none => some .none
  | some e => (f e).map O.some
def compT (f : Expr → Option E) : List Expr → Option O
  | [] => some .none
  | [e] => (match e with
    | .IfExp .. => none
    | _ => (f e).map O.some)
  | _ => none
def tgN (c : Sig) (L : Loc) (x : Str) : Option Nat := when ((match L.sc.names.lookup x with
  | some .local => true
  | some .cell => L.fc x
  | _ => false) && nodb x) (c.N.findIdx? (· == x))
def tgNs (c : Sig) (L : Loc) : List Expr → Option (List Nat)
  | [] => some []
  | .Name x _ :: r => o2 List.cons (tgN c L x) (tgNs c L r)
  | _ => none
def compG (c : Sig) (L : Loc) : Expr → Option G
  | .Name x _ => (tgN c L x).map G.name
  | .Tuple es _ _ => (tgNs c L es).map G.tup
  | _ => none
def isTup : Expr → Bool
  | .Tuple .. => true
  | _ => false
def isSet : Expr → Bool
  | .Set .. => true
  | _ => false
def compI (c : Sig) (L : Loc) (f : Expr → Option E) (tg e : Expr) : Option (IK × Es) := match e with
  | .Call (.Name x _) [a] [] _ =>
    if glob L x && c.bl.contains x && (x == ("range" : Str)) then (f a).map fun z => (.rng1, .cons z .nil) else
    if glob L x && c.bl.contains x && (x == ("enumerate" : Str)) && isTup tg then (f a).map fun z => (.enum, .cons z .nil) else
    when (!(x == ("range" : Str))) ((f e).map fun z => (.seq, .cons z .nil))
  | .Call (.Name x _) [a, b] [] _ =>
    if glob L x && c.bl.contains x && (x == ("range" : Str)) then o2 (fun z y => (.rng2, .cons z (.cons y .nil))) (f a) (f b) else
    if glob L x && c.bl.contains x && (x == ("zip" : Str)) && isTup tg then o2 (fun z y => (.zip, .cons z (.cons y .nil))) (f a) (f b) else (f e).map fun z => (.seq, .cons z .nil)
  | _ => (f e).map fun z => (.seq, .cons z .nil)
/-- the block of a comprehension -/
def blk (L : Loc) (scope : Scope) : Loc := ⟨relS scope L.sc, fun x => scope.names.lookup x == some .cell⟩
/-- the block's own names, by their places -/
def ownOf (c : Sig) (scope : Scope) : List (Str × Nat) := scope.names.filterMap fun y => match y.2 with
  | .local => (c.N.findIdx? (· == y.1)).map fun i => (y.1, i)
  | .cell => (c.N.findIdx? (· == y.1)).map fun i => (y.1, i)
  | _ => none
def within (is js : List Nat) : Bool := is.all js.contains
def isIf : Expr → Bool
  | .IfExp .. => true
  | _ => false
def isOwnName (c : Sig) : Expr → Bool
  | .Name x _ => c.mu.contains x
  | _ => false
def isSlice : Expr → Bool
  | .Slice .. => true
  | _ => false
/-- a name that holds a dict -/
def diName (c : Sig) : Expr → Option Str
  | .Name x _ => if c.di.contains x then some x else none
  | _ => none
def compIK (c : Sig) (L : Loc) (f : Expr → Option E) (tg it : Expr) : Option (IK × Es) := match diName c it with
  | some x => (slotN c L x).map fun i => (IK.keys, Es.cons (.var i) .nil)
  | none => compI c L f tg it
/-- set(a) -/
def isSetCall (c : Sig) (L : Loc) : Expr → Option Expr
  | .Call (.Name y _) [b] [] _ => if (y == ("set" : Str)) && glob L y && c.bl.contains y then some b else none
  | _ => none
def mtTab : List (Str × Mt) := [("index", .index), ("count", .count), ("split", .split), ("join", .join)]
/-- names of defs -/
def fnIdx (c : Sig) (L : Loc) : List Expr → Option (List Nat)
  | [] => some []
  | .Name x _ :: r => when (glob L x) (o2 List.cons (c.fns.findIdx? (fun r => r.1 == x)) (fnIdx c L r))
  | _ => none
def stepE (c : Sig) (f : Loc → Expr → Option E) (L : Loc) (e : Expr) : Option E := match e with
  | .Name x _ => compName c L x
  | .Constant (.int i) _ _ => some (.lit (.int i))
  | .Constant (.bool b) _ _ => some (.lit (.bl b))
  | .Constant .none _ _ => some (.lit .non)
  | .Constant (.str s) _ _ => some (.lit (.str s))
  | .BinOp a op b _ => when (binOk op) (o2 (E.bin op) (f L a) (f L b))
  | .UnaryOp .USub a _ => (f L a).map E.neg
  | .UnaryOp .Not a _ => when (!isIf a) ((f L a).map E.not)
  | .BoolOp .And (a :: es) _ => when ((a :: es).all (!isIf ·)) ((compEs (f L) (a :: es)).map E.and)
  | .BoolOp .Or (a :: es) _ => when ((a :: es).all (!isIf ·)) ((compEs (f L) (a :: es)).map E.or)
  | .Compare a [op] [b] _ => when (!behindInMarks op b) (o2 (E.cmp op) (compO c L (f L) a) (compO c L (f L) b))
  | .Compare a [op, op'] [b, d] _ => when (!lastMarks [op, op'] [b, d]) (o3 (E.chain op op') (compO c L (f L) a) (compO c L (f L) b) (compO c L (f L) d))
  | .IfExp t a b _ => when (!isIf t) (o3 E.ife (f L t) (f L a) (f L b))
  | .Tuple es _ _ => (compEs (f L) es).map E.tup
  | .List es _ => (compEs (f L) es).map E.lst
  | .Subscript a (.Slice lo hi none _) _ => o3 E.sl (f L a) (compP (f L) lo) (compP (f L) hi)
  | .Subscript a (.Slice none none (some (.UnaryOp .USub (.Constant (.int 1) _ _) _)) _) _ => (f L a).map E.rev
  | .Subscript a b _ => when (!isSlice b) (if isOwnName c a then o2 E.ix (compO c L (f L) a) (f L b) else o2 E.ix (f L a) (f L b))
  | .Attribute (.Name x _) m _ => when (c.ob.contains x && (m == ("panes" : Str) || m == ("now" : Str))) ((slotN c L x).map (E.fld (m == ("now" : Str))))
  | .Call (.Attribute (.Name x _) m ap) [] [] cp => when ((ap.endLine == cp.line) && (c.ob.contains x && (m == ("windows" : Str) || m == ("order" : Str)))) ((slotN c L x).map (E.omt (m == ("order" : Str))))
  | .Call (.Name x _) (a :: es) [] _ => when (glob L x) (match c.fns.findIdx? (fun r => r.1 == x) with
    | some j => (compEs (f L) (a :: es)).map (E.call j)
    | none => when (c.bl.contains x) (
      if (x == ("sorted" : Str)) && es.isEmpty && (isSetCall c L a).isSome then (match isSetCall c L a with
        | some b => (f L b).map fun z => .bi .sortset (.cons z .nil)
        | none => none) else
      if (x == ("len" : Str)) && es.isEmpty && (isSetCall c L a).isSome then (match isSetCall c L a with
        | some b => (f L b).map fun z => .bi .lenset (.cons z .nil)
        | none => none) else
      if (x == ("len" : Str)) && es.isEmpty && (isObName c a).isSome then (match isObName c a with
        | some y => (slotN c L y).map E.olen
        | none => none) else
      if (x == ("len" : Str)) && es.isEmpty then (compO c L (f L) a).map fun z => .bi .len (.cons z .nil) else
      match a, es with
      | .Call (.Name y _) [b] [] _, [] => if (x == ("list" : Str)) && (y == ("range" : Str)) && glob L y && c.bl.contains y then (f L b).map fun z => .bi .lrange (.cons z .nil) else
          if (x == ("tuple" : Str)) && (y == ("range" : Str)) && glob L y && c.bl.contains y then (f L b).map fun z => .bi .tuple (.cons (.bi .lrange (.cons z .nil)) .nil) else
          (match biTab.find? (fun r => r.1 == x) with
          | some r => (compEs (f L) (a :: es)).map (E.bi r.2.1)
          | none => none)
      | _, _ => (match biTab.find? (fun r => r.1 == x) with
        | some r => (compEs (f L) (a :: es)).map (E.bi r.2.1)
        | none => none)))
  | .Call (.Name x _) [] [] _ => when (glob L x) ((c.fns.findIdx? (fun r => r.1 == x)).map fun j => .call j .nil)
  | .Call (.Subscript (.List fs _) b _) (a :: es) [] _ => when (!isSlice b && decide (fs.length ≤ 1000)) (o3 E.callx (fnIdx c L fs) (f L b) (compEs (f L) (a :: es)))
  | .Call (.Attribute o m ap) [a] [] cp => when (noCall o && (ap.endLine == cp.line)) (match mtTab.lookup m with
    | some k => o2 (fun x y => .mt k x (.cons y .nil)) (compO c L (f L) o) (f L a)
    | none => none)
  | .Dict [some k] [v] _ => o2 E.dsp (f L k) (f L v)
  | .DictComp kx vx [⟨tg, it, ifs, 0⟩] scope _ =>
    when (blkC c.N L.sc scope (ownOf c scope) && !isSet it) (match compG c (blk L scope) tg, compI c L (f L) tg it, compT (f (blk L scope)) ifs, f (blk L scope) kx, f (blk L scope) vx with
      | some g, some (k, src), some t, some b, some d => when (within (slotsG g) ((ownOf c scope).map (·.2))) (some (.dc ((ownOf c scope).map (·.2)) g k src t b d))
      | _, _, _, _, _ => none)
  | .ListComp elt [⟨tg, it, ifs, 0⟩] scope _ =>
    when (blkC c.N L.sc scope (ownOf c scope) && !isSet it) (match compG c (blk L scope) tg, compIK c L (f L) tg it, compT (f (blk L scope)) ifs, f (blk L scope) elt with
      | some g, some (k, src), some t, some b => when (within (slotsG g) ((ownOf c scope).map (·.2))) (some (.lc ((ownOf c scope).map (·.2)) g k src t b))
      | _, _, _, _ => none)
  | .ListComp elt [⟨tg, it, ifs, 0⟩, ⟨tg1, it1, ifs1, 0⟩] scope _ =>
    when (blkC c.N L.sc scope (ownOf c scope) && !isSet it && !isSet it1) (match compG c (blk L scope) tg, compI c L (f L) tg it, compT (f (blk L scope)) ifs, f (blk L scope) elt, compG c (blk L scope) tg1, compI c (blk L scope) (f (blk L scope)) tg1 it1, compT (f (blk L scope)) ifs1 with
      | some g, some (k, src), some t, some b, some g1, some (k1, src1), some t1 =>
        when (within (slotsG g) ((ownOf c scope).map (·.2)) && within (slotsG g1) ((ownOf c scope).map (·.2))) (some (.lc2 ((ownOf c scope).map (·.2)) g k src t (slotsG g1) g1 k1 src1 t1 b))
      | _, _, _, _, _, _, _ => none)
  | _ => none
def compE (c : Sig) : Nat → Loc → Expr → Option E
  | 0 => fun _ _ => none
  | n + 1 => fun L e => stepE c (compE c n) L e
end Pan
namespace Pan
open PySem PySem.Spec L2
open PyProof.Rows hiding St
variable [TabsIn]
def phi (Γ : List FnR) (i : Nat) (xs : List D) : R D := match Γ[i]? with
  | some r => arity r.n r.sem xs
  | none => .bad
structure Ctx (c : Sig) (Γ : List FnR) (cl : Nat → Value) (j : Nat) (X : Cx) (L : Loc) (W : WX) : Prop where
  N : X.N = c.N
  nd : c.N.Nodup
  sc : X.env.scope = L.sc
  fc : ∀ x, L.fc x = true → X.fn x = true
  calm : X.calm = true
  room : Room j X.A
  takes : Takes X W
  pas : PassesOwn (model X.prog X.w) X.A X.env X.xe
  fns : c.fns = Γ.map fun r => (r.name, r.n)
  fx : ∀ r ∈ Γ, FnX X cl j r
  ci : ∀ x i, c.ci.lookup x = some i → ∃ t, X.mg x = some (.int i t)
  cs : ∀ x s, c.cs.lookup x = some s → ∃ t, X.mg x = some (.str s t)
  bl : ∀ x, c.bl.contains x = true → X.mg x = none
  desk : c.ob ≠ [] → DeskX X j
section
variable {c : Sig} {Γ : List FnR} {cl : Nat → Value} {j : Nat} {X : Cx} {L : Loc} {W : WX}
theorem Ctx.blk (C : Ctx c Γ cl j X L W) (scope : Scope) (s : Shared) (H : Hp) (D : Addr) (cs : List (Str × Addr)) (fp : List Addr) : Ctx c Γ cl j (X.blk s H scope (compEnvC scope cs D X.env) fp) (Pan.blk L scope) W0 where
  N := C.N
  nd := C.nd
  sc := by
    show relabel scope X.env = relS scope L.sc
    rw [← C.sc]
    rfl
  fc := fun x h => h
  calm := C.calm
  room := C.room
  takes := takes0
  pas := PassesOwn.never
  fns := C.fns
  fx := fun r h => ⟨(C.fx r h).ex⟩
  ci := C.ci
  cs := C.cs
  bl := C.bl
  desk := fun h => ⟨(C.desk h).cls, (C.desk h).na, (C.desk h).rd, (C.desk h).len⟩
theorem findIdx_get {l : List Str} {x : Str} {i : Nat} (h : l.findIdx? (· == x) = some i) : l[i]? = some x := by
  obtain ⟨hi, h1, _⟩ := List.findIdx?_eq_some_iff_getElem.mp h
  rw [List.getElem?_eq_getElem hi]
  exact congrArg some (eq_of_beq h1)
theorem nodb_of {x : Str} (h : nodb x = true) : (x == ("__debug__" : Str)) = false ∧ (x == ("__classdict__" : Str)) = false := by
  unfold nodb at h
  rw [Bool.and_eq_true] at h
  exact ⟨by simpa using h.1, by simpa using h.2⟩
theorem Ctx.slotN (C : Ctx c Γ cl j X L W) {x : Str} {i : Nat} (h : Pan.slotN c L x = some i) : X.N[i]? = some x ∧ Vis X.env.scope x ∧ (x == ("__debug__" : Str)) = false ∧ (x == ("__classdict__" : Str)) = false := by
  obtain ⟨h1, h2⟩ := when_some h
  rw [Bool.and_eq_true] at h1
  refine ⟨by rw [C.N]; exact findIdx_get h2, ?_, nodb_of h1.2⟩
  rw [C.sc]
  have := h1.1
  unfold vis at this
  unfold Vis
  split at this
  · exact .inl (by assumption)
  · exact .inr (.inl (by assumption))
  · exact .inr (.inr (by assumption))
  · cases this
theorem Ctx.glob (C : Ctx c Γ cl j X L W) {x : Str} (h : Pan.glob L x = true) : Gl X x ∧ (x == ("__debug__" : Str)) = false := by
  unfold Pan.glob at h
  rw [Bool.and_eq_true] at h
  refine ⟨?_, (nodb_of h.2).1⟩
  show X.env.scope.names.lookup x = some .globalImplicit
  rw [C.sc]
  exact of_decide_eq_true h.1
/-- forms that make a new list -/
def isNewE : E → Bool
  | .lst _ => true
  | .lc .. => true
  | .lc2 .. => true
  | .bi .lrange _ => true
  | .dnew _ => true
  | .dc .. => true
  | .dsp .. => true
  | _ => false
/-- e's resolved form is ir -/
structure Sound (X : Cx) (W : WX) (cl : Nat → Value) (Φ : Nat → List D → R D) (e : Expr) (ir : E) : Prop where
  pe : PE X e (tE X.K W cl (ev Φ ir))
  pt : isIf e = false → PT X e (tT X.K W cl (tst (ev Φ ir)))
  pn : isNewE ir = true → PE X e (tN X.K W cl (ev Φ ir))
def isTest : Expr → Bool
  | .UnaryOp .Not _ _ => true
  | .BoolOp _ _ _ => true
  | .IfExp _ _ _ _ => true
  | .Compare _ _ _ _ => true
  | _ => false
theorem plain_test {e : Expr} (h : isTest e = false) (env : PySem.Env) : ∀ whole, isTrue e env whole = (do let v ← whole; standAt e.pos; holding [v] (truthy v)) := by
  cases e <;> first | (intro _; rfl) | cases h | skip
  rename_i op x p
  cases op <;> first | (intro _; rfl) | cases h
theorem Sound.val {e : Expr} {ir : E} {Φ : Nat → List D → R D} (h : PE X e (tE X.K W cl (ev Φ ir))) (ht : isTest e = false) (hn : isNewE ir = false) : Sound X W cl Φ e ir := ⟨h, fun _ => ct_val h (plain_test ht _), fun z => by rw [hn] at z; cases z⟩
theorem Sound.new {e : Expr} {ir : E} {Φ : Nat → List D → R D} (h : PE X e (tN X.K W cl (ev Φ ir))) (ht : isTest e = false) : Sound X W cl Φ e ir := ⟨ce_new h, fun _ => ct_val (ce_new h) (plain_test ht _), fun _ => h⟩
theorem star_of {e : Expr} {es : List Expr} {env : PySem.Env} (h : ∀ x p, e ≠ .Starred x p) : starEach (e :: es) env = (false, eval e env) :: starEach es env := by
  cases e <;> first | rfl | exact absurd rfl (h _ _)
theorem tyTab_ok : (tyTab.all fun p => decide (bootBuiltins p.1 = some (.type p.2)) && decide (p.1 ≠ ("__name__" : Str))) = true := by decide +kernel
theorem biTab_ok : (biTab.all fun p => decide (bootBuiltins p.1 = some p.2.2) && decide (p.1 ≠ ("__name__" : Str))) = true := by decide +kernel
theorem lookup_mem {α : Type} {l : List (Str × α)} {x : Str} {v : α} (h : l.lookup x = some v) : (x, v) ∈ l := by
  induction l with
  | nil => cases h
  | cons p l ih =>
    obtain ⟨k, u⟩ := p
    rw [List.lookup_cons] at h
    by_cases e : x == k
    · rw [e] at h
      cases h
      rw [eq_of_beq e]
      simp
    · simp only [Bool.not_eq_true] at e
      rw [e] at h
      exact List.mem_cons_of_mem _ (ih h)
theorem biRule (hc : X.calm = true) (hu : X.A.units + 65 < cLine) : ∀ p ∈ biTab, CallR X p.2.2 (rBi X.K p.2.1) := by
  intro p hp
  simp only [biTab, List.mem_cons, List.not_mem_nil, or_false] at hp
  rcases hp with rfl | rfl | rfl | rfl | rfl | rfl | rfl | rfl | rfl | rfl | rfl | rfl | rfl | rfl
  · exact bi_len
  · exact bi_max hc
  · exact bi_min hc hu
  · exact bi_abs
  · exact bi_all hc
  · exact bi_any hc
  · exact bi_sum hc
  · exact bi_tuple
  · exact bi_list
  · exact bi_isinst
  · exact bi_sorted hc (by omega)
  · exact bi_dict hc (by omega)
  · exact bi_str
  · exact bi_int
variable {Φ : Nat → List D → R D}
theorem name_ok (C : Ctx c Γ cl j X L W) {x : Str} {p : Pos} {ir : E} (h : compName c L x = some ir) : Sound X W cl Φ (.Name x p) ir := by
  unfold compName at h
  split at h
  · rename_i i hi
    cases h
    obtain ⟨h1, h2, h3, h4⟩ := C.slotN hi
    exact .val (ce_var h1 h2 h3 h4) rfl rfl
  · obtain ⟨hg, h⟩ := when_some h
    obtain ⟨g, hd⟩ := C.glob hg
    split at h
    · rename_i i hi
      cases h
      obtain ⟨t, ht⟩ := C.ci x i hi
      exact .val (ce_lit (pe_glob (v := .int i) g ht ⟨t, rfl⟩ hd) fun F => .int i) rfl rfl
    · split at h
      · rename_i s hs
        cases h
        obtain ⟨t, ht⟩ := C.cs x s hs
        exact .val (ce_lit (pe_glob (v := .str s) g ht ⟨t, rfl⟩ hd) fun F => .str s) rfl rfl
      · split at h
        · rename_i t ht
          obtain ⟨hb, h⟩ := when_some h
          cases h
          have := List.all_eq_true.mp tyTab_ok (x, t) (lookup_mem ht)
          rw [Bool.and_eq_true] at this
          exact .val (ce_lit (pe_bltn (v := .ty t) g (C.bl x hb) (of_decide_eq_true this.1) rfl (of_decide_eq_true this.2) hd) fun F => .ty t) rfl rfl
        · cases h
/-- the parts are sound -/
def IH (c : Sig) (Γ : List FnR) (cl : Nat → Value) (j : Nat) (f : Loc → Expr → Option E) : Prop := ∀ {L : Loc} {W : WX} {X : Cx} {e : Expr} {ir : E}, Ctx c Γ cl j X L W → f L e = some ir → Sound X W cl (phi Γ) e ir ∧ ∀ x p, e ≠ .Starred x p
structure SoundA (X : Cx) (W : WX) (cl : Nat → Value) (Φ : Nat → List D → R D) (es : List Expr) (irs : Es) : Prop where
  pa : PA X es (tA X.K W cl (evs Φ irs))
  and_ : ∀ {a : Expr} {r : List Expr} {pos : Pos}, es = a :: r → es.all (!isIf ·) = true → PE X (.BoolOp .And es pos) (tE X.K W cl (evAnd Φ irs)) ∧ PW X (.BoolOp .And es pos) (tT X.K W cl (tst (evAnd Φ irs)))
  or_ : ∀ {a : Expr} {r : List Expr} {pos : Pos}, es = a :: r → es.all (!isIf ·) = true → PE X (.BoolOp .Or es pos) (tE X.K W cl (evOr Φ irs)) ∧ PW X (.BoolOp .Or es pos) (tT X.K W cl (tst (evOr Φ irs)))
  star : ∀ env : PySem.Env, ∀ pos : Pos, (backTo pos (starEach es env)).any (·.1) = false
  one : ∀ {a : Expr} {r : List Expr} (env : PySem.Env), es = a :: r → starEach es env = (false, eval a env) :: starEach r env
theorem tE_congr {K : PySem.W.Frag} {r r' : Env → R D} (h : ∀ e, r e = r' e) : tE K W cl r = tE K W cl r' := by rw [show r = r' from funext h]
theorem tT_congr {K : PySem.W.Frag} {r r' : Env → R Bool} (h : ∀ e, r e = r' e) : tT K W cl r = tT K W cl r' := by rw [show r = r' from funext h]
theorem PEc {e : Expr} {r r' : Env → R D} (h : PE X e (tE X.K W cl r)) (hr : ∀ e, r e = r' e) : PE X e (tE X.K W cl r') := tE_congr (W := W) (cl := cl) (K := X.K) hr ▸ h
theorem PNc {e : Expr} {r r' : Env → R D} (h : PE X e (tN X.K W cl r)) (hr : ∀ e, r e = r' e) : PE X e (tN X.K W cl r') := by rw [show r' = r from funext fun e => (hr e).symm]; exact h
theorem PTc {e : Expr} {r r' : Env → R Bool} (h : PT X e (tT X.K W cl r)) (hr : ∀ e, r e = r' e) : PT X e (tT X.K W cl r') := tT_congr (W := W) (cl := cl) (K := X.K) hr ▸ h
theorem PWc {e : Expr} {r r' : Env → R Bool} (h : PW X e (tT X.K W cl r)) (hr : ∀ e, r e = r' e) : PW X e (tT X.K W cl r') := tT_congr (W := W) (cl := cl) (K := X.K) hr ▸ h
theorem PIc {tg e : Expr} {r r' : Env → R (List D)} (h : PI X tg e (tIt X.K W cl r)) (hr : ∀ e, r e = r' e) : PI X tg e (tIt X.K W cl r') := by rw [show r' = r from funext fun e => (hr e).symm]; exact h
theorem PAc {es : List Expr} {r r' : Env → R (List D)} (h : PA X es (tA X.K W cl r)) (hr : ∀ e, r e = r' e) : PA X es (tA X.K W cl r') := by rw [show r' = r from funext fun e => (hr e).symm]; exact h
theorem args_ok {f : Loc → Expr → Option E} (ih : IH c Γ cl j f) (C : Ctx c Γ cl j X L W) : ∀ {es : List Expr} {irs : Es}, compEs (f L) es = some irs → SoundA X W cl (phi Γ) es irs
  | [], irs, h => by
    cases h
    exact ⟨PAc ca_nil (fun _ => rfl), fun h => (nomatch h), fun h => (nomatch h), fun _ _ => rfl, fun _ h => (nomatch h)⟩
  | e :: es, irs, h => by
    obtain ⟨a, r, h1, h2, rfl⟩ := o2_some h
    obtain ⟨se, ns⟩ := ih C h1
    have sr := args_ok ih C h2
    refine ⟨PAc (ca_cons se.pe sr.pa (star_of ns)) fun _ => rfl, fun {a' r' pos} _ hi => ?_, fun {a' r' pos} _ hi => ?_, fun env pos => ?_, fun env h => ?_⟩
    · rw [List.all_cons, Bool.and_eq_true] at hi
      have hif : isIf e = false := by simpa using hi.1
      cases es with
      | nil =>
        cases h2
        exact ⟨pe_one se.pe, pw_and1 (se.pt hif)⟩
      | cons b bs =>
        obtain ⟨b', r2, h3, h4, rfl⟩ := o2_some h2
        obtain ⟨q1, q2⟩ := sr.and_ (pos := pos) rfl hi.2
        exact ⟨PEc (ce_and se.pe q1) fun _ => rfl, PWc (cw_and (se.pt hif) q2) fun _ => rfl⟩
    · rw [List.all_cons, Bool.and_eq_true] at hi
      have hif : isIf e = false := by simpa using hi.1
      cases es with
      | nil =>
        cases h2
        exact ⟨pe_one se.pe, pw_or1 (se.pt hif)⟩
      | cons b bs =>
        obtain ⟨b', r2, h3, h4, rfl⟩ := o2_some h2
        obtain ⟨q1, q2⟩ := sr.or_ (pos := pos) rfl hi.2
        exact ⟨PEc (ce_or se.pe q1) fun _ => rfl, PWc (cw_or (se.pt hif) q2) fun _ => rfl⟩
    · rw [star_of ns]
      show (false || (backTo pos (starEach es env)).any (·.1)) = false
      rw [sr.star env pos]
      rfl
    · cases h
      exact star_of ns
theorem opnd_ok {f : Loc → Expr → Option E} (ih : IH c Γ cl j f) (C : Ctx c Γ cl j X L W) {e : Expr} {ir : E} (h : compO c L (f L) e = some ir) : PE X e (tW X.K W cl (ev (phi Γ) ir)) ∧ ∀ x p, e ≠ .Starred x p := by
  unfold compO at h
  split at h
  · split at h
    · obtain ⟨i, h1, rfl⟩ := o1_some h
      obtain ⟨q1, q2, q3, q4⟩ := C.slotN h1
      refine ⟨?_, fun x p z => by cases z⟩
      have := ce_ovar (X := X) (W := W) (cl := cl) (pos := by assumption) q1 q2 q3 q4
      exact this
    · exact ⟨ce_weak (ih C h).1.pe, (ih C h).2⟩
  · rename_i x p1 m p2
    split at h
    · rename_i hc
      rw [Bool.and_eq_true] at hc
      obtain ⟨i, h1, rfl⟩ := o1_some h
      obtain ⟨q1, q2, q3, q4⟩ := C.slotN h1
      refine ⟨cw_fldl (C.desk (fun z => by rw [z] at hc; exact absurd hc.1 (by simp))) q1 q2 q3 q4 ?_, fun x p z => by cases z⟩
      cases hm : (m == ("undone" : Str)) with
      | true => exact eq_of_beq hm
      | false =>
        rw [hm, Bool.or_false] at hc
        exact eq_of_beq hc.2
    · exact ⟨ce_weak (ih C h).1.pe, (ih C h).2⟩
  · exact ⟨ce_weak (ih C h).1.pe, (ih C h).2⟩
theorem part_ok {f : Loc → Expr → Option E} (ih : IH c Γ cl j f) (C : Ctx c Γ cl j X L W) {o : Option Expr} {ir : O} (h : compP (f L) o = some ir) : PO X o (tP X.K W cl (evO (phi Γ) ir)) := by
  cases o with
  | none => cases h; exact cp_none
  | some e =>
    obtain ⟨a, h1, rfl⟩ := o1_some h
    exact cp_some (ih C h1).1.pe
theorem Ctx.tgN (C : Ctx c Γ cl j X L W) {x : Str} {i : Nat} {pos : Pos} (h : Pan.tgN c L x = some i) : PG X (.Name x pos) (gName i) := by
  obtain ⟨h1, h2⟩ := when_some h
  rw [Bool.and_eq_true] at h1
  have hN : X.N[i]? = some x := by rw [C.N]; exact findIdx_get h2
  have nd : X.N.Nodup := by rw [C.N]; exact C.nd
  have q := h1.1
  split at q
  · rename_i e
    have e' : X.env.scope.names.lookup x = some .local := by rw [C.sc]; exact e
    exact pg_name nd hN (.inl e') (.inr e')
  · rename_i e
    have e' : X.env.scope.names.lookup x = some .cell := by rw [C.sc]; exact e
    exact pg_name nd hN (.inr e') (.inl (C.fc x q))
  · cases q
theorem tgNs_ok (C : Ctx c Γ cl j X L W) : ∀ {es : List Expr} {is : List Nat}, tgNs c L es = some is → PGs X es (gNames is) ∧ (assignEach es X.env).length = is.length ∧ (assignEach es X.env).findIdx? (·.1) = none
  | [], is, h => by
    cases h
    exact ⟨pgs_nil, rfl, rfl⟩
  | e :: es, is, h => by
    cases e <;> simp only [tgNs] at h <;> try cases h
    obtain ⟨i, r, h1, h2, rfl⟩ := o2_some h
    obtain ⟨q1, q2, q3⟩ := tgNs_ok C h2
    refine ⟨pgs_cons (C.tgN h1) q1 rfl, ?_, ?_⟩
    · show (assignEach es X.env).length + 1 = r.length + 1
      rw [q2]
    · show List.findIdx? (·.1) ((false, _) :: assignEach es X.env) = none
      rw [List.findIdx?_cons]
      simp [q3]
theorem tg_ok (C : Ctx c Γ cl j X L W) {tg : Expr} {g : G} (h : compG c L tg = some g) : PG X tg (gOf X.K g) := by
  cases tg <;> simp only [compG] at h <;> try cases h
  · obtain ⟨i, h1, rfl⟩ := o1_some h
    exact C.tgN h1
  · obtain ⟨is, h1, rfl⟩ := o1_some h
    obtain ⟨q1, q2, q3⟩ := tgNs_ok C h1
    exact pg_tup C.calm q1 q2 q3
theorem set_of {e : Expr} (h : isSet e = false) (env : PySem.Env) : ∀ x, foldedSetIterable e env x = pure x := by
  cases e <;> first | (intro _; rfl) | cases h
end
end Pan
namespace Pan
open PySem PySem.Spec L2
open PyProof.Rows hiding St
open AutoSeq1 (wpAny_loadPart')
variable [TabsIn]
theorem enumNewT (tp : Addr) (vals : Array Value) (m : Nat) (dd : Option Addr) (sls : Array (Option Value)) :
    Meets (Builtin.«enumerate.__new__» ⟨[.type "enumerate", .ref tp], []⟩) (fun _ R s => s.heap.get? tp = some { cls := .type "tuple", dict := dd, data := .seq vals m, slots := sls } ∧
      R (.ok (.ret (.ref (s.heap.push { cls := .type "tuple_iterator", data := .fields #[.ref tp, .int 0 0] }).objs.size)))
        { s with heap := (s.heap.push { cls := .type "tuple_iterator", data := .fields #[.ref tp, .int 0 0] }).push { cls := .type "enumerate", data := .fields #[.none, .bool false, .ref s.heap.objs.size, rawInt 0, .none, .none] } }) :=
  .of_wp fun prog w A R s q => by
    obtain ⟨hp, g, d, tk, os⟩ := s
    obtain ⟨ht, q⟩ := q
    have hsub := sub_enumerate
    have hT : Heap.IsTuple (Shared.heap ⟨hp, g, d, tk, os⟩) tp vals := ⟨_, ht, rfl, m, rfl⟩
    wp_walk using wpAny_loadPart' ht
    refine wpAny_stack_any fun st' => wpAny_pure ?_
    split
    · rename_i cx _ _ _ _ _
      cases (cx == Value.type "enumerate")
      all_goals (wp_walk using wpAny_loadPart' ht, wpAny_pyIter_tuple hT; exact ⟨_, rfl, q⟩)
    · (wp_walk using wpAny_loadPart' ht, wpAny_pyIter_tuple hT; exact ⟨_, rfl, q⟩)
section
variable {prog : Program} {w : World} {A : Around} {E : Value → Shared → Prop} {s : Shared}
theorem callEnumT {tp : Addr} {vals : Array Value} {Q : Value → Shared → Prop} (hT : s.heap.IsTuple tp vals)
    (q : ∀ h', IsEnum h' (s.heap.objs.size + 1) s.heap.objs.size 0 .none → h'.IsTupleIter s.heap.objs.size tp 0 → h'.objs.size = s.heap.objs.size + 2 → (∀ b o, s.heap.get? b = some o → h'.get? b = some o) → Q (.ref (s.heap.objs.size + 1)) { s with heap := h' }) :
    wpAny (model prog w) A (call (.type "enumerate") [.ref tp]) Q E s := by
  obtain ⟨⟨cc, dd, dt, sls⟩, ht, hc, m, hd⟩ := hT
  have hc : cc = .type "tuple" := hc
  have hd : dt = .seq vals m := hd
  subst hc hd
  refine callType_new F.called_enumerate (by decide) (F.typeCall_enumerate_1 _) (F.newCall_enumerate_1 _) (fun ob => F.args_object_init_2 ob _) F.entry_enumerate_new (enumNewT tp vals m dd sls) ⟨ht, ?_⟩
  have hz : (s.heap.push { cls := .type "tuple_iterator", data := .fields #[.ref tp, .int 0 0] }).objs.size = s.heap.objs.size + 1 := Heap.size_push ..
  show _ ∧ _
  rw [hz]
  have he : IsEnum ((s.heap.push { cls := .type "tuple_iterator", data := .fields #[.ref tp, .int 0 0] }).push { cls := .type "enumerate", data := .fields #[.none, .bool false, .ref s.heap.objs.size, rawInt 0, .none, .none] }) (s.heap.objs.size + 1) s.heap.objs.size 0 .none := by
    have := Heap.get?_push_size (s.heap.push { cls := .type "tuple_iterator", data := .fields #[.ref tp, .int 0 0] }) (o := { cls := .type "enumerate", data := .fields #[.none, .bool false, .ref s.heap.objs.size, rawInt 0, .none, .none] }) rfl
    rw [hz] at this
    exact this
  have hi : Heap.IsTupleIter ((s.heap.push { cls := .type "tuple_iterator", data := .fields #[.ref tp, .int 0 0] }).push { cls := .type "enumerate", data := .fields #[.none, .bool false, .ref s.heap.objs.size, rawInt 0, .none, .none] }) s.heap.objs.size tp 0 :=
    ⟨_, Heap.get?_push_of_some _ (Heap.get?_push_size _ rfl), rfl, rfl⟩
  exact ⟨⟨_, he, rfl⟩, q _ he hi (by rw [Heap.size_push, hz]) fun b o y => Heap.get?_push_of_some _ (Heap.get?_push_of_some _ y)⟩
end
/-- the tuple at a, each item in a new pair with its number -/
def IteT (K : PySem.W.Frag) (a : Addr) : It where
  go := fun i H => ∃ (xs : List V) (x : V), SqT K H a xs ∧ xs[i]? = some x
  yld := fun i H v H' => ∃ T x, v = .ref T ∧ H T = none ∧ H' = upd H T (.tup [.int (i : Nat), x]) ∧ ∀ xs, SqT K H a xs → xs[i]? = some x
  stop := fun i H => ∃ xs : List V, SqT K H a xs ∧ xs.length = i
theorem walkEnumT {K : PySem.W.Frag} {a : Addr} {xs : List V} : Walk (IteT K a) xs.length (fun H => SqT K H a xs) (YPair (fun i => some (.int (i : Nat))) (fun i => xs[i]?)) where
  goes := fun i H hi g => ⟨xs, xs[i], g, List.getElem?_eq_getElem hi⟩
  stops := fun H g => ⟨xs, g, rfl⟩
  yields := fun i H v H' hi g y => by
    obtain ⟨T, x, e1, e2, e3, e4⟩ := y
    exact ⟨T, .int (i : Nat), x, e1, e2, e3, rfl, e4 xs g⟩
theorem turnEnumT {P : Program} {w : World} {K : PySem.W.Frag} {elts : List Expr} {kk : Nat} {tpos : Pos} (a en it : Addr) :
    Turn P w K (.Tuple elts kk tpos) (IteT K a) [en, it] en (fun i h => (∃ old, IsEnum h en it ((i : Nat) : Int) old) ∧ h.IsTupleIter it a i ∧ en ≠ it ∧ a ≠ it ∧ a ≠ en) where
  mem := by simp
  obj := fun i h st b hb => by
    obtain ⟨⟨old, he⟩, ⟨o, ho, hc, hd⟩, _⟩ := st
    rcases List.mem_cons.mp hb with z | z
    · rw [z]; exact ⟨_, he, fun v q => nomatch q⟩
    · rw [List.mem_singleton.mp z]; exact ⟨o, ho, fun v q => by rw [hd] at q; cases q⟩
  keep := fun i h h' st k => by
    obtain ⟨⟨old, he⟩, hi, hne, ha⟩ := st
    exact ⟨⟨old, k en (by simp) _ he⟩, hi.at fun o q => k it (by simp) o q, hne, ha⟩
  item := by
    intro X hP hw hK hc i pins s σ H E I hf st hg
    subst hP; subst hw; subst hK
    obtain ⟨⟨old, he⟩, hit, hne, ha1, ha2⟩ := st
    obtain ⟨xs, x, hq, hx⟩ := hg
    obtain ⟨its, rv, hT, hz⟩ := I.tuple hq
    obtain ⟨u, hu, ru⟩ := rv.get hx
    have hlt : i < its.toArray.size := by
      have := (List.getElem?_eq_some_iff.mp hu).1
      simpa using this
    have hel : en < s.heap.objs.size := Heap.lt_size he
    have hil : it < s.heap.objs.size := by
      obtain ⟨_, q, _⟩ := hit
      exact Heap.lt_size q
    refine wpAny_pyNext_enum_itemD (Draws.tuple (A := X.A.in1) (I.ok.hd hc) it a ha1 its.toArray) he ⟨hit, hT⟩ hlt hne (by simp [hne, Ne.symm ha2]) fun y h1 tk hy ho hst hT1 hsz hk => ?_
    have hyu : y = u := by
      have h2 : its[i]? = some y := by simpa using hy
      rw [hu] at h2
      exact (Option.some.inj h2).symm
    subst hyu
    refine ⟨_, rfl, wpAny_letOwnedTupleGo_enum (s := { s with heap := h1, toks := tk + 1 }) ho fun h2 he2 sb => ?_⟩
    have hT2 : h2.get? s.heap.objs.size = some { cls := .type "tuple", data := .seq #[.int i tk, y] } := (sb.2 _ (Nat.ne_of_gt hel)).trans hT1
    have nw : ObjOk X.prog X.w (upd H s.heap.objs.size (.tup [.int (i : Nat), x])) h2 s.heap.objs.size (.tup [.int (i : Nat), x]) :=
      ⟨by show 2 ≤ sizeLine; decide, [.int i tk, y], .cons ⟨_, rfl⟩ (.cons ru .nil), ⟨_, hT2, rfl, _, rfl⟩⟩
    have I1 : Inv X pins σ (upd H s.heap.objs.size (.tup [.int (i : Nat), x])) { s with heap := h2, toks := tk + 1 } :=
      I.turnedNew (ch := [en, it]) (fun b ob hb q => (sb.2 b fun z => hb (by simp [z])).trans (hk b ob (fun z => hb (by simp [z])) (fun z => hb (by simp [z])) q)) hf (Nat.le_refl _) nw
    refine ⟨.ref s.heap.objs.size, _, I1, rfl, ⟨_, x, rfl, I.hok.fresh (Nat.le_refl _), rfl, fun ys hy' => by rw [I.tuple_inj hy' hq]; exact hx⟩, ⟨⟨y, ?_⟩, hst.1.at fun o q => (sb.2 it (Ne.symm hne)).trans q, hne, ha1, ha2⟩, fun b hb => ?_⟩
    · rw [show ((i + 1 : Nat) : Int) = (i : Int) + 1 by omega]
      exact he2
    · have hb' : b < s.heap.objs.size := by
        rcases List.mem_cons.mp hb with z | z
        · rw [z]; exact hel
        · rw [List.mem_singleton.mp z]; exact hil
      rw [upd_ne (Nat.ne_of_lt hb')]
      exact (hf b hb).1
  done := by
    intro X hP hw hK hc i pins s σ H E I hf st hg
    subst hP; subst hw; subst hK
    obtain ⟨⟨old, he⟩, hit, hne, ha1, ha2⟩ := st
    obtain ⟨xs, hq, hx⟩ := hg
    obtain ⟨its, rv, hT, hz⟩ := I.tuple hq
    obtain ⟨f0, f1, f2, f3, f4, f5⟩ := hf it (by simp)
    have hn : its.toArray.size = i := by rw [List.size_toArray, ← rv.length, hx]
    refine wpAny_pyNext_enum_endD (Draws.tuple (A := X.A.in1) (I.ok.hd hc) it a ha1 its.toArray) he (by rw [hn]; exact ⟨hit, hT⟩) fun h1 eb => ?_
    exact ⟨rfl, I.turned (t' := s.toks) (fun b o hb q => eb b o hb q) f0 f1 f3 f4 f5⟩
  self := fun A i s Q E st h => by
    obtain ⟨⟨_, he⟩, _⟩ := st
    exact wpAny_pyIter_enum he h
def iEnumT (K : PySem.W.Frag) (ta : TA) : TI := fun σ H R => ta σ H fun vs H1 => ∃ a xs, vs = [.ref a] ∧ SqT K H1 a xs ∧ R (IteT K a) H1
theorem pi_enumT {X : Cx} {e : Expr} {ta : TA} {p pos tpos : Pos} {elts : List Expr} {kk : Nat} (hg : Gl X "enumerate") (hm : X.mg "enumerate" = none) (ha : PA X [e] ta) (hs : starEach [e] X.env = [(false, eval e X.env)]) :
    PI X (.Tuple elts kk tpos) (.Call (.Name "enumerate" p) [e] [] pos) (iEnumT X.K ta) := by
  refine ⟨fun pins s σ H R I h => Call_ (ld_blt I hg hm boot_enumerate (PyProof.Rows.callWith_type1 (thn (ha.run pos pins s σ H _ I h) fun us s1 ⟨vs, H1, I1, r1, q1⟩ => ?_) hs rfl))⟩
  obtain ⟨a, xs, ex, hq, q⟩ := q1
  subst ex
  cases r1 with
  | cons r rr =>
    cases rr
    cases r
    obtain ⟨its, rv, hT, hz⟩ := I1.tuple hq
    have hal : a < s1.heap.objs.size := by
      obtain ⟨o, ho, _⟩ := hT
      exact Heap.lt_size ho
    refine callEnumT (show s1.heap.IsTuple a its.toArray from hT) fun h1 he hit hsz hk => wpAny_pyIter_enum he ?_
    have I2 : Inv X pins σ H1 { s1 with heap := h1 } := I1.kept (t' := s1.toks) hk
    refine ⟨s1.heap.objs.size + 1, [s1.heap.objs.size + 1, s1.heap.objs.size], _, _, H1, rfl, I2, turnEnumT a (s1.heap.objs.size + 1) s1.heap.objs.size, ⟨⟨.none, he⟩, hit, Nat.succ_ne_self _, Nat.ne_of_lt hal, Nat.ne_of_lt (Nat.lt_succ_of_lt hal)⟩, fun b hb => ?_, q⟩
    have hle : s1.heap.objs.size ≤ b := by
      rcases List.mem_cons.mp hb with z | z
      · rw [z]; exact Nat.le_add_right _ _
      · rw [List.mem_singleton.mp z]; exact Nat.le_refl _
    exact I1.fpOk hle (I1.hok.fresh hle)
section
variable {X : Cx} {W : WX} {cl : Nat → Value} {a b : Expr} {ra rb : Env → R D} {pos p tpos : Pos} {elts : List Expr} {kk : Nat}
theorem enumD_len (ds : List D) : (enumD ds).length = ds.length := by simp [enumD]
theorem walks_enumT {K : PySem.W.Frag} {F : Hp} {a : Addr} {xs : List V} {ds : List D} (h : IsT F a xs) (r : Rps K F xs ds) (hz : ds.length ≤ sizeLine) : WalksD K (IteT K a) F (enumD ds) := by
  refine walks_pair (n := xs.length) (by rw [enumD_len, r.length]) (by rw [r.length]; exact hz) _ walkEnumT (fun F1 H1 g s => (s.tup (h.mono g)).sq) fun i d hd x y hx hy => ?_
  cases hx
  obtain ⟨e, he, re⟩ := r.getV hy
  rw [enumD, List.getElem?_mapIdx, he] at hd
  cases hd
  exact ⟨_, _, rfl, .int _, re⟩
theorem walks_enumL {K : PySem.W.Frag} {F : Hp} {a : Addr} {xs : List V} {ds : List D} (h : F a = some (.lst xs)) (r : Rps K F xs ds) (hz : ds.length ≤ sizeLine) : WalksD K (Ite K a) F (enumD ds) := by
  refine walks_pair (n := xs.length) (by rw [enumD_len, r.length]) (by rw [r.length]; exact hz) _ walk_enum (fun F1 H1 g s => SqL.of (s.lst (g _ _ h))) fun i d hd x y hx hy => ?_
  cases hx
  obtain ⟨e, he, re⟩ := r.getV hy
  rw [enumD, List.getElem?_mapIdx, he] at hd
  cases hd
  exact ⟨_, _, rfl, .int _, re⟩
theorem ci_enum (hg : Gl X "enumerate") (hm : X.mg "enumerate" = none) (hs : starEach [a] X.env = [(false, eval a X.env)]) (ha : PA X [a] (tA X.K W cl fun e => do let x ← ra e; .ok [x])) :
    PI X (.Tuple elts kk tpos) (.Call (.Name "enumerate" p) [a] [] pos) (tIt X.K W cl fun e => do let x ← ra e; itS .enum [x]) := by
  refine PI.imp (PI.good (PI.or (pi_enum hg hm ha hs) (pi_enumT hg hm ha hs))) fun σ H R _ q => ?_
  obtain ⟨e, F, vr, w⟩ := q
  dsimp only at w
  cases hx : ra e with
  | bad => rw [hx] at w; exact w.elim
  | exc c => rw [hx] at w; exact .inl ⟨e, F, vr, by dsimp only; rw [hx]; exact w⟩
  | ok x =>
    rw [hx] at w
    have w1 : Wp W cl (itS .enum [x]) σ F H fun ds F' H' => ∀ J, WalksD X.K J F' ds → R J H' := w
    by_cases ht : ∃ xs, x = .tup xs
    · obtain ⟨ds, rfl⟩ := ht
      refine .inr ⟨e, F, vr, by
        dsimp only
        rw [hx]
        intro F1 H1 x1 vs rv
        cases rv with
        | cons h1 r1 =>
          cases r1
          cases h1 with
          | tup ea r =>
            refine ⟨_, _, rfl, (x1.sub.tup ea).sq, fun gd => w1 F1 H1 x1 _ (walks_enumT ea r ?_)⟩
            rw [← r.length]
            exact gd.tup _ _ ((x1.sub.tup ea).sq)⟩
    · refine .inl ⟨e, F, vr, by
        dsimp only
        rw [hx]
        intro F1 H1 x1 vs rv
        cases rv with
        | cons h1 r1 =>
          cases r1
          cases h1 with
          | lst ea r =>
            refine ⟨_, _, rfl, SqL.of (x1.sub.lst ea), fun gd => w1 F1 H1 x1 _ (walks_enumL ea r ?_)⟩
            rw [← r.length]
            exact gd.lst _ _ (SqL.of (x1.sub.lst ea))
          | tup ea r => exact absurd ⟨_, rfl⟩ ht
          | _ => exact w1.elim⟩
theorem zipD_len (xs ys : List D) : (zipD xs ys).length = min xs.length ys.length := by simp [zipD]
theorem zipD_get {xs ys : List D} {i : Nat} {d : D} (h : (zipD xs ys)[i]? = some d) : ∃ x y, xs[i]? = some x ∧ ys[i]? = some y ∧ d = .prs [x, y] := by
  rw [zipD, List.getElem?_map] at h
  cases q : (xs.zip ys)[i]? with
  | none => rw [q] at h; cases h
  | some p =>
    rw [q] at h
    cases h
    obtain ⟨h1, h2⟩ := List.getElem?_zip_eq_some.mp q
    exact ⟨_, _, h1, h2, rfl⟩
theorem walkZipT {K : PySem.W.Frag} {a b : Addr} {xs ys : List V} {n : Nat} (hn : n = min xs.length ys.length) : Walk (RZ.ItzT K a b) n (fun H => SqT K H a xs ∧ SqT K H b ys) (YPair (fun i => xs[i]?) (fun i => ys[i]?)) where
  goes := fun i H hi g => ⟨xs, ys, xs[i]'(by omega), ys[i]'(by omega), g.1, g.2, List.getElem?_eq_getElem _, List.getElem?_eq_getElem _⟩
  stops := fun H g => ⟨xs, ys, g.1, g.2, by omega⟩
  yields := fun i H v H' hi g y => by
    obtain ⟨T, x, z, e1, e2, e3, e4, e5⟩ := y
    exact ⟨T, x, z, e1, e2, e3, e4 xs g.1, e5 ys g.2⟩
theorem walks_zipT {K : PySem.W.Frag} {F : Hp} {a b : Addr} {xs ys : List V} {ds es : List D} (h : IsT F a xs) (r : Rps K F xs ds) (h' : IsT F b ys) (r' : Rps K F ys es) (hz : ds.length ≤ sizeLine) : WalksD K (RZ.ItzT K a b) F (zipD ds es) := by
  refine walks_pair (n := min xs.length ys.length) (by rw [zipD_len, r.length, r'.length]) (by rw [r.length]; omega) _ (walkZipT rfl) (fun F1 H1 g s => ⟨(s.tup (h.mono g)).sq, (s.tup (h'.mono g)).sq⟩) fun i d hd x y hx hy => ?_
  obtain ⟨u, v, q1, q2, rfl⟩ := zipD_get hd
  obtain ⟨e, he, re⟩ := r.getV hx
  obtain ⟨e', he', re'⟩ := r'.getV hy
  rw [q1] at he; rw [q2] at he'
  cases he; cases he'
  exact ⟨_, _, rfl, re, re'⟩
theorem walks_zipL {K : PySem.W.Frag} {F : Hp} {a b : Addr} {xs ys : List V} {ds es : List D} (h : F a = some (.lst xs)) (r : Rps K F xs ds) (h' : F b = some (.lst ys)) (r' : Rps K F ys es) (hz : ds.length ≤ sizeLine) : WalksD K (Itz K a b) F (zipD ds es) := by
  refine walks_pair (n := min xs.length ys.length) (by rw [zipD_len, r.length, r'.length]) (by rw [r.length]; omega) _ (walk_zip rfl) (fun F1 H1 g s => ⟨SqL.of (s.lst (g _ _ h)), SqL.of (s.lst (g _ _ h'))⟩) fun i d hd x y hx hy => ?_
  obtain ⟨u, v, q1, q2, rfl⟩ := zipD_get hd
  obtain ⟨e, he, re⟩ := r.getV hx
  obtain ⟨e', he', re'⟩ := r'.getV hy
  rw [q1] at he; rw [q2] at he'
  cases he; cases he'
  exact ⟨_, _, rfl, re, re'⟩
theorem ci_zip (hg : Gl X "zip") (hm : X.mg "zip" = none) (hs : starEach [a, b] X.env = (false, eval a X.env) :: starEach [b] X.env) (hpl : (backTo pos (starEach [b] X.env)).any (·.1) = false)
    (ha : PA X [a, b] (tA X.K W cl fun e => do let x ← ra e; let y ← rb e; .ok [x, y])) :
    PI X (.Tuple elts kk tpos) (.Call (.Name "zip" p) [a, b] [] pos) (tIt X.K W cl fun e => do let x ← ra e; let y ← rb e; itS .zip [x, y]) := by
  refine PI.imp (PI.good (RZ.pi_zipA hg hm ha hs hpl)) fun σ H R _ q => ?_
  obtain ⟨e, F, vr, w⟩ := q
  refine ⟨e, F, vr, ?_⟩
  dsimp only at w ⊢
  cases hx : ra e with
  | bad => rw [hx] at w; exact w.elim
  | exc c => rw [hx] at w; exact w
  | ok x =>
    rw [hx] at w
    have w0 : Wp W cl (rb e >>= fun y => itS .zip [x, y]) σ F H fun ds F' H' => ∀ J, WalksD X.K J F' ds → R J H' := w
    cases hy : rb e with
    | bad => rw [hy] at w0; exact w0.elim
    | exc c => rw [hy] at w0; exact w0
    | ok y =>
      rw [hy] at w0
      have w1 : Wp W cl (itS .zip [x, y]) σ F H fun ds F' H' => ∀ J, WalksD X.K J F' ds → R J H' := w0
      intro F1 H1 x1 vs rv
      cases rv with
      | cons h1 r =>
        cases r with
        | cons h2 r =>
          cases r
          cases h1 <;> cases h2 <;> simp only [itS] at w1 <;> try exact w1.elim
          · rename_i p1 xs ds ea r1 p2 ys es eb r2
            refine ⟨p1, p2, xs, ys, rfl, .inr ⟨(x1.sub.tup ea).sq, (x1.sub.tup eb).sq, fun gd => w1 F1 H1 x1 _ (walks_zipT ea r1 eb r2 ?_)⟩⟩
            rw [← r1.length]
            exact gd.tup _ _ ((x1.sub.tup ea).sq)
          · rename_i p1 xs ds ea r1 p2 ys es eb r2
            refine ⟨p1, p2, xs, ys, rfl, .inl ⟨SqL.of (x1.sub.lst ea), SqL.of (x1.sub.lst eb), fun gd => w1 F1 H1 x1 _ (walks_zipL ea r1 eb r2 ?_)⟩⟩
            rw [← r1.length]
            exact gd.lst _ _ (SqL.of (x1.sub.lst ea))
end
end Pan
namespace Pan
open PySem PySem.Spec L2
open PyProof.Rows hiding St
variable [TabsIn]
def oV : Option Int → V
  | none => .non
  | some i => .int i
def oI : Option Int → D
  | none => .non
  | some i => .int i
abbrev otD (k : List (Option Int)) : D := .tup (k.map oI)
theorem oI_inj : ∀ {a b : List (Option Int)}, a.map oI = b.map oI → a = b
  | [], [], _ => rfl
  | [], _ :: _, h => by cases h
  | _ :: _, [], h => by cases h
  | x :: a, y :: b, h => by
    rw [List.map_cons, List.map_cons] at h
    injection h with h1 h2
    rw [oI_inj h2]
    congr 1
    cases x <;> cases y <;> first | rfl | (cases h1; rfl) | cases h1
theorem eqv_oI (x y : Option Int) : eqv (oI x) (oI y) = decide (x = y) := by
  cases x <;> cases y <;> simp [oI, eqv]
  rename_i i j
  by_cases h : i = j <;> simp [h]
theorem eqvs_oI : ∀ a b : List (Option Int), eqvs (a.map oI) (b.map oI) = decide (a = b)
  | [], [] => rfl
  | [], _ :: _ => rfl
  | _ :: _, [] => rfl
  | x :: a, y :: b => by
    show (eqv (oI x) (oI y) && eqvs (a.map oI) (b.map oI)) = _
    rw [eqv_oI, eqvs_oI a b, Bool.eq_iff_iff]
    simp
theorem eqv_otD (a b : List (Option Int)) : eqv (otD a) (otD b) = true ↔ otD a = otD b := by
  rw [eqv, eqvs_oI, decide_eq_true_eq]
  constructor
  · rintro rfl; rfl
  · intro h
    injection h with h
    exact oI_inj h
theorem opts_of : ∀ {ds : List D}, ds.all isOptI = true → ∃ k : List (Option Int), ds = k.map oI
  | [], _ => ⟨[], rfl⟩
  | d :: ds, h => by
    rw [List.all_cons, Bool.and_eq_true] at h
    obtain ⟨k, rfl⟩ := opts_of h.2
    cases d with
    | non => exact ⟨none :: k, rfl⟩
    | int i => exact ⟨some i :: k, rfl⟩
    | _ => cases h.1
theorem rps_opts {K : PySem.W.Frag} {F : Hp} : ∀ {k : List (Option Int)} {vs : List V}, Rps K F vs (k.map oI) → vs = k.map oV
  | [], _, .nil => rfl
  | none :: k, _, .cons h r => by
    rw [List.map_cons, ← rps_opts r]
    cases h
    rfl
  | some i :: k, _, .cons h r => by
    rw [List.map_cons, ← rps_opts r]
    cases h
    rfl
theorem otups_of {K : PySem.W.Frag} {F : Hp} : ∀ {xs : List V} {ds : List D}, Rps K F xs ds → ds.all tupK = true → ∃ ks : List (Addr × List (Option Int)), xs = ks.map (fun p => V.ref p.1) ∧ ds = ks.map (fun p => otD p.2) ∧ ∀ p ∈ ks, IsT F p.1 (p.2.map oV)
  | _, _, .nil, _ => ⟨[], rfl, rfl, fun p h => by cases h⟩
  | _, _, .cons h r, e => by
    rw [List.all_cons, Bool.and_eq_true] at e
    obtain ⟨ks, rfl, rfl, hk⟩ := otups_of r e.2
    cases h with
    | tup ea rr =>
      obtain ⟨k, rfl⟩ := opts_of e.1
      have e1 := rps_opts rr
      subst e1
      refine ⟨(_, k) :: ks, rfl, rfl, fun p hp => ?_⟩
      rcases List.mem_cons.mp hp with z | z
      · subst z; exact ea
      · exact hk p z
    | _ => cases e.1
theorem refs_raw {κ : Type} : ∀ {ks : List (Addr × κ)} {us : List Value}, Vals (ks.map fun p => V.ref p.1) us → us = ks.map fun p => Value.ref p.1
  | [], _, h => by cases h; rfl
  | p :: ks, us, h => by
    cases h with
    | cons h1 h2 =>
      rw [List.map_cons, refs_raw h2]
      cases h1
      rfl
theorem items_opt {P : Program} {w : World} : ∀ {k : List (Option Int)} {us : List Value}, Vals (k.map oV) us → ItemsAre (noneKind P w) (k.map oK) us
  | [], _, h => by cases h; exact .nil
  | none :: k, us, h => by
    cases h with
    | cons h1 h2 =>
      refine .cons ?_ (items_opt h2)
      cases h1
      rfl
  | some i :: k, us, h => by
    cases h with
    | cons h1 h2 =>
      refine .cons ?_ (items_opt h2)
      obtain ⟨t, rfl⟩ := h1
      show keyIs (Sum.inl i) (Value.int i t) = true
      simp [keyIs, Value.isInt]
section
variable {X : Cx} {pins : List (Addr × Obj)} {σ : St} {H : Hp} {s : Shared}
theorem inv_opt {b : Addr} {k : List (Option Int)} (I : Inv X pins σ H s) (h : SqT X.K H b (k.map oV)) : IsOT X.prog X.w s.heap k b ∧ ∃ o, s.heap.get? b = some o := by
  obtain ⟨its, r, ⟨o, ho, hc, n, hd⟩, _⟩ := I.tuple h
  exact ⟨⟨o, its.toArray, n, ho, hc, hd, by simpa using items_opt r⟩, o, ho⟩
/-- how many different ones -/
def tLenN (K : PySem.W.Frag) (ta : TE) : TE := fun σ H Q => ta σ H fun x H1 => ∃ (l : Addr) (ks : List (Addr × List (Option Int))), x = V.ref l ∧ SqL K H1 l (ks.map fun p => V.ref p.1) ∧ (∀ p ∈ ks, SqT K H1 p.1 (p.2.map oV)) ∧ FewN ks ∧
  ∀ L : List (Addr × List (Option Int)), (∀ p ∈ L, p ∈ ks) → (∀ p ∈ ks, p.2 ∈ L.map (·.2)) → (L.map (·.2)).Nodup → Q (.int L.length) H1
theorem pe_lenN {a : Expr} {ta : TE} {p p2 q pos : Pos} (hc : X.calm = true) (hu : X.A.units + 64 < cLine) (g1 : Gl X "len") (m1 : X.mg "len" = none) (g2 : Gl X "set") (m2 : X.mg "set" = none) (pa : PE X a ta)
    (na : starEach [a] X.env = (false, eval a X.env) :: starEach [] X.env) : PE X (.Call (.Name "len" p) [.Call (.Name "set" p2) [a] [] q] [] pos) (tLenN X.K ta) := by
  refine ⟨fun pins s σ H Q I h => ?_⟩
  refine Call_ (ld_blt I g1 m1 PySem.boot_len (callWith_builtin1 (args_cons (Call_ (ld_blt I g2 m2 boot_set (callWith_type1 (args_cons (thn (pa.run pins s σ H _ I h) fun v s1 ⟨x, H1, I1, r1, q1⟩ => args_nil ?_) na) na rfl))) rfl) rfl rfl))
  obtain ⟨l, ks, rfl, hl, hk, few, q1⟩ := q1
  cases r1
  obtain ⟨its, rv, pl, hz⟩ := I1.list hl
  refine call_setL (Left := fun h' => ∃ L es ep t, SetN (optN X.prog X.w) h' s1.heap.objs.size L es ep t ∧ GotN ks ks.length L) pl.isList (fun R hR => ?_) fun h' tk ⟨L, es, ep, t, qn, g⟩ kp => ?_
  · exact setN_loop (N := optN X.prog X.w) (by simpa using I1.ok.hd hc) pl.isList (by simpa using refs_raw rv) (fun p hp => (inv_opt I1 (hk p hp)).1) (fun p hp => (inv_opt I1 (hk p hp)).2) few (by simp; omega) R hR
  · refine args_nil ?_
    obtain ⟨o, eo, ex, dt⟩ := qn.obj
    have sz : es.size = L.length := rows_size qn.ent
    have ft : t.fits es.size = true := SetN.fit (s := { s1 with heap := h' }) qn
    have fw := qn.few
    have I2 : Inv X pins σ H1 { s1 with heap := h', toks := tk } := I1.kept (t' := tk) kp
    refine call_len_set (s := { s1 with heap := h', toks := tk }) eo ex dt ft (by rw [sz]; omega) ⟨.int L.length, H1, I2.tok _, ⟨_, by rw [sz]⟩, ?_⟩
    exact q1 L (fun p hp => List.mem_of_mem_take (g.sub p hp)) (fun p hp => g.all p (by rw [List.take_length]; exact hp)) qn.one
variable {W : WX} {cl : Nat → Value} {a : Expr} {ra : Env → R D} {p p2 q pos : Pos}
theorem ce_lenset (hc : X.calm = true) (hu : X.A.units + 64 < cLine) (hg : Gl X "len") (hm : X.mg "len" = none) (hg2 : Gl X "set") (hm2 : X.mg "set" = none) (na : starEach [a] X.env = (false, eval a X.env) :: starEach [] X.env) (ha : PE X a (tE X.K W cl ra)) :
    PE X (.Call (.Name "len" p) [.Call (.Name "set" p2) [a] [] q] [] pos) (tE X.K W cl fun e => do let x ← ra e; biS .lenset [x]) := by
  refine PE.imp (pe_lenN hc hu hg hm hg2 hm2 ha na) fun σ H Q _ q => ?_
  obtain ⟨e, F, vr, w⟩ := q
  refine ⟨e, F, vr, w.bind.mono fun x F1 H1 x1 w1 vx rx => ?_⟩
  cases rx <;> simp only [biS] at w1 <;> try exact w1.elim
  rename_i l xs ds ea r
  split at w1
  · rename_i hs
    rw [Bool.and_eq_true] at hs
    obtain ⟨ks, rfl, rfl, hk⟩ := otups_of r hs.1
    have few := of_decide_eq_true hs.2
    obtain ⟨nd, mem⟩ := dedup_spec (all := ks.map fun p => otD p.2) (fun x hx y hy => by
      obtain ⟨i, _, rfl⟩ := List.mem_map.mp hx
      obtain ⟨j, _, rfl⟩ := List.mem_map.mp hy
      exact eqv_otD _ _) (ks.map fun p => otD p.2) [] (fun x hx => hx) (fun x hx => by cases hx) List.nodup_nil
    have ndm : ∀ L : List (Addr × List (Option Int)), (L.map (·.2)).Nodup → (L.map fun p => otD p.2).Nodup := fun L z => by
      have e : (L.map (·.2)).map (fun k : List (Option Int) => otD k) = L.map fun p => otD p.2 := by rw [List.map_map]; rfl
      rw [← e]
      refine List.pairwise_map.mpr (List.Pairwise.imp (fun hne e => hne ?_) z)
      injection e with e
      exact oI_inj e
    have sub : ∀ L : List (Addr × List (Option Int)), (∀ p ∈ L, p ∈ ks) → ∀ d ∈ L.map (fun p => otD p.2), d ∈ dedupD (ks.map fun p => otD p.2) [] := fun L z d hd => by
      obtain ⟨p, hp, rfl⟩ := List.mem_map.mp hd
      exact (mem _).mpr (.inr (List.mem_map.mpr ⟨p, z p hp, rfl⟩))
    refine ⟨l, ks, rfl, SqL.of (x1.sub.lst ea), fun p hp => (x1.sub.tup (hk p hp)).sq, fun L z1 z2 => ?_, fun L z1 z2 z3 => ?_⟩
    · have := nodup_le (ndm L z2) (sub L z1)
      rw [List.length_map] at this
      omega
    · have a1 := nodup_le (ndm L z3) (sub L z1)
      have a2 := nodup_le nd (m := L.map fun p => otD p.2) fun d hd => by
        rcases (mem d).mp hd with z | z
        · cases z
        · obtain ⟨p, hp, rfl⟩ := List.mem_map.mp z
          obtain ⟨p', hp', e⟩ := List.mem_map.mp (z2 p hp)
          exact List.mem_map.mpr ⟨p', hp', by rw [e]⟩
      rw [List.length_map] at a1 a2
      have e : L.length = (dedupD (ks.map fun p => otD p.2) []).length := by omega
      rw [e]
      exact w1 F1 H1 (Ext.refl x1.sub) _ (.int _)
  · exact w1.elim
end
end Pan
namespace Pan
open PySem PySem.Spec L2
open PyProof.Rows hiding St
variable [TabsIn]
section
variable {c : Sig} {Γ : List FnR} {cl : Nat → Value} {j : Nat} {X : Cx} {L : Loc} {W : WX}
theorem evs_one {Φ : Nat → List D → R D} {a : E} {e : Env} : evs Φ (.cons a .nil) e = (do let x ← ev Φ a e; .ok [x]) := by
  show (ev Φ a e >>= fun x => (R.ok [] : R (List D)) >>= fun xs => R.ok (x :: xs)) = _
  rfl
theorem evs_two {Φ : Nat → List D → R D} {a b : E} {e : Env} : evs Φ (.cons a (.cons b .nil)) e = (do let x ← ev Φ a e; let y ← ev Φ b e; .ok [x, y]) := by
  show (ev Φ a e >>= fun x => (ev Φ b e >>= fun y => (R.ok [] : R (List D)) >>= fun ys => R.ok (y :: ys)) >>= fun xs => R.ok (x :: xs)) = _
  congr 1
  funext x
  rw [R_assoc]
  rfl
theorem it_one {Φ : Nat → List D → R D} {a : E} {k : IK} {e : Env} : (do let x ← ev Φ a e; itS k [x]) = (do let ss ← evs Φ (.cons a .nil) e; itS k ss) := by
  rw [evs_one]
  show _ = ((ev Φ a e >>= fun x => R.ok [x]) >>= fun ss => itS k ss)
  rw [R_assoc]
  rfl
theorem it_two {Φ : Nat → List D → R D} {a b : E} {k : IK} {e : Env} : (do let x ← ev Φ a e; let y ← ev Φ b e; itS k [x, y]) = (do let ss ← evs Φ (.cons a (.cons b .nil)) e; itS k ss) := by
  rw [evs_two]
  show _ = ((ev Φ a e >>= fun x => ev Φ b e >>= fun y => R.ok [x, y]) >>= fun ss => itS k ss)
  rw [R_assoc]
  congr 1
  funext x
  rw [R_assoc]
  rfl
theorem beq_str {x y : Str} (h : (x == y) = true) : x = y := eq_of_beq h
theorem iter_ok {f : Loc → Expr → Option E} (ih : IH c Γ cl j f) (C : Ctx c Γ cl j X L W) {tg e : Expr} {k : IK} {src : Es} (h : compI c L (f L) tg e = some (k, src)) :
    PI X tg e (tIt X.K W cl fun en => do let ss ← evs (phi Γ) src en; itS k ss) := by
  have seq : ∀ {e : Expr} {z : E}, f L e = some z → PI X tg e (tIt X.K W cl fun en => do let ss ← evs (phi Γ) (.cons z .nil) en; itS .seq ss) := fun h => PIc (ci_seq (ih C h).1.pe) fun e => it_one
  unfold compI at h
  split at h
  · rename_i x p a pos
    split at h
    · rename_i hc
      rw [Bool.and_eq_true, Bool.and_eq_true] at hc
      obtain ⟨z, h1, h2⟩ := o1_some h
      cases h2
      have ex := beq_str hc.2
      subst ex
      obtain ⟨s1, n1⟩ := ih C h1
      refine PIc (ci_rng1 (C.glob hc.1.1).1 (C.bl _ hc.1.2) (star_of n1) (PAc (ca_cons s1.pe ca_nil (star_of n1)) fun e => rfl)) fun e => it_one
    · split at h
      · rename_i hc
        rw [Bool.and_eq_true, Bool.and_eq_true, Bool.and_eq_true] at hc
        obtain ⟨z, h1, h2⟩ := o1_some h
        cases h2
        have ex := beq_str hc.1.2
        subst ex
        obtain ⟨s1, n1⟩ := ih C h1
        cases tg <;> simp only [isTup] at hc <;> try (exact absurd hc.2 (by decide))
        refine PIc (ci_enum (C.glob hc.1.1.1).1 (C.bl _ hc.1.1.2) (star_of n1) (PAc (ca_cons s1.pe ca_nil (star_of n1)) fun e => rfl)) fun e => it_one
      · obtain ⟨_, h⟩ := when_some h
        obtain ⟨z, h1, h2⟩ := o1_some h
        cases h2
        exact seq h1
  · rename_i x p a b pos
    split at h
    · rename_i hc
      rw [Bool.and_eq_true, Bool.and_eq_true] at hc
      obtain ⟨z, y, h1, h2, h3⟩ := o2_some h
      cases h3
      have ex := beq_str hc.2
      subst ex
      obtain ⟨s1, n1⟩ := ih C h1
      obtain ⟨s2, n2⟩ := ih C h2
      refine PIc (ci_rng2 (C.glob hc.1.1).1 (C.bl _ hc.1.2) (by rw [star_of n1, star_of n2]; rfl) (star_of n2) (PAc (ca_cons s1.pe (ca_cons s2.pe ca_nil (star_of n2)) (star_of n1)) fun e => ?_)) fun e => it_two
      rw [← evs_two]
      rfl
    · split at h
      · rename_i hc
        rw [Bool.and_eq_true, Bool.and_eq_true, Bool.and_eq_true] at hc
        obtain ⟨z, y, h1, h2, h3⟩ := o2_some h
        cases h3
        have ex := beq_str hc.1.2
        subst ex
        obtain ⟨s1, n1⟩ := ih C h1
        obtain ⟨s2, n2⟩ := ih C h2
        cases tg <;> simp only [isTup] at hc <;> try (exact absurd hc.2 (by decide))
        refine PIc (ci_zip (C.glob hc.1.1.1).1 (C.bl _ hc.1.1.2) (star_of n1) (by rw [star_of n2]; rfl) (PAc (ca_cons s1.pe (ca_cons s2.pe ca_nil (star_of n2)) (star_of n1)) fun e => ?_)) fun e => it_two
        rw [← evs_two]
        rfl
      · obtain ⟨z, h1, h2⟩ := o1_some h
        cases h2
        exact seq h1
  · obtain ⟨z, h1, h2⟩ := o1_some h
    cases h2
    exact seq h1
theorem tests_ok {f : Loc → Expr → Option E} (ih : IH c Γ cl j f) (C : Ctx c Γ cl j X L W) {es : List Expr} {t : O} (h : compT (f L) es = some t) : PTs X es (tT X.K W cl (evT (phi Γ) t)) := by
  have imp : ∀ {es : List Expr} {t t' : TT}, PTs X es t → (∀ σ H Q, t' σ H Q → t σ H Q) → PTs X es t' := fun h i => ⟨fun pins s σ H Q I q => h.run pins s σ H Q I (i σ H Q q)⟩
  cases es with
  | nil =>
    cases h
    refine imp pts_nil fun σ H Q q => ?_
    obtain ⟨e, F, vr, w⟩ := q
    exact w.now vr.sub
  | cons e es =>
    cases es with
    | cons _ _ => cases h
    | nil =>
      simp only [compT] at h
      have hi : isIf e = false ∧ (f L e).map O.some = some t := by
        split at h
        · cases h
        · rename_i hn
          refine ⟨?_, h⟩
          cases e <;> first | rfl | exact absurd rfl (hn _ _ _ _)
      obtain ⟨z, h1, rfl⟩ := o1_some hi.2
      exact pts_one ((ih C h1).1.pt hi.1)
theorem ixPlain {b : Expr} (h : isSlice b = false) : PlainIx b := by
  cases b <;> first | (intro _ _; rfl) | cases h
/-- list(range(n)) -/
theorem rps_range {K : PySem.W.Frag} {F : Hp} (lo : Int) : ∀ l : List Nat, Rps K F (l.map fun (i : Nat) => V.int (lo + (i : Nat))) (l.map fun (i : Nat) => D.int (lo + i))
  | [] => .nil
  | i :: l => .cons (.int _) (rps_range lo l)
theorem cn_lrange {a : Expr} {ra : Env → R D} {p p' pos pos' : Pos} (C : Ctx c Γ cl j X L W) (hg : Gl X "list") (hm : X.mg "list" = none) (hg' : Gl X "range") (hm' : X.mg "range" = none) (na : starEach [a] X.env = (false, eval a X.env) :: starEach [] X.env) (ha : PE X a (tE X.K W cl ra)) :
    PE X (.Call (.Name "list" p) [.Call (.Name "range" p') [a] [] pos'] [] pos) (tN X.K W cl fun e => do let x ← ra e; biS .lrange [x]) := by
  refine PE.imp (pe_listRg C.calm hg hm (prg_1 hg' hm' ha na)) fun σ H Q _ q => ?_
  obtain ⟨e, F, vr, w⟩ := q
  refine ⟨e, F, vr, w.bind.mono fun x F1 H1 x1 w1 vx rx => ?_⟩
  cases rx <;> simp only [biS] at w1 <;> try exact w1.elim
  rename_i n
  split at w1
  · rename_i hn
    simp only [smallI, Bool.and_eq_true, decide_eq_true_eq] at hn
    have hz : (sizeLine : Nat) = 2 ^ 24 := by decide
    refine ⟨n, rfl, ⟨by decide, by decide, hn.1.1, hn.1.2, ?_⟩, fun q hq => ?_⟩
    · have := hn.2
      omega
    · have x2 := Ext.made (.lst (rgV 0 n)) x1.sub hq
      refine w1 _ _ x2 q ⟨x1.same.free hq, x1.sub.none hq, _, upd_same, ?_⟩
      unfold rgV rangeD
      rw [Int.sub_zero]
      exact rps_range 0 _
  · exact w1.elim
theorem pe_tupRgF {e : Expr} {te : St → Hp → (Int → Int → Hp → Prop) → Prop} {p pos : Pos} (hc : X.calm = true) (hg : Gl X "tuple") (hm : X.mg "tuple" = none) (he : PRg X e te) (na : starEach [e] X.env = (false, eval e X.env) :: starEach [] X.env := by rfl) : PE X (.Call (.Name "tuple" p) [e] [] pos) (fun σ H Q => te σ H fun a b H1 => RgOk a b ∧ NewT H1 (rgV a b) Q) := by
  refine ⟨fun pins s σ H Q I h => ?_⟩
  refine Call_ (ld_blt I hg hm boot_tuple (PyProof.Rows.callWith_type1 (args_cons (thn (he pins s σ H _ I h) fun x s1 ⟨r, a, b, t, u, v, H1, ex, hr, I1, ok, q⟩ => args_nil ?_) na) na))
  subst ex
  obtain ⟨b1, b2, b3, b4, b5⟩ := ok
  refine call_tuple_range (n := (b - a).toNat) (I1.ok.hd hc) hr (small_one b1 b2 b3 b4) (rangeSize_nat a b) b5 fun h' tk acc hk hi => ?_
  have J : Inv X pins σ H1 { s1 with heap := h', toks := tk } := I1.kept hk
  have := put_tup (s := s1) (h1 := h') (tk := tk) J (vals_rg hi) (by rw [rgV_length, sizeLine_eq]; omega) q
  rw [Array.toArray_toList] at this
  exact this
theorem ce_trange {a : Expr} {ra : Env → R D} {p p' pos pos' : Pos} (C : Ctx c Γ cl j X L W) (hg : Gl X "tuple") (hm : X.mg "tuple" = none) (hg' : Gl X "range") (hm' : X.mg "range" = none) (na : starEach [a] X.env = (false, eval a X.env) :: starEach [] X.env) (ha : PE X a (tE X.K W cl ra)) :
    PE X (.Call (.Name "tuple" p) [.Call (.Name "range" p') [a] [] pos'] [] pos) (tE X.K W cl fun e => do let x ← ra e; let d ← biS .lrange [x]; biS .tuple [d]) := by
  refine PE.imp (pe_tupRgF C.calm hg hm (prg_1 hg' hm' ha na)) fun σ H Q _ q => ?_
  obtain ⟨e, F, vr, w⟩ := q
  refine ⟨e, F, vr, w.bind.mono fun x F1 H1 x1 w1 vx rx => ?_⟩
  cases rx <;> simp only [biS] at w1 <;> try exact w1.elim
  rename_i n
  split at w1
  · rename_i hn
    simp only [smallI, Bool.and_eq_true, decide_eq_true_eq] at hn
    have hz : (sizeLine : Nat) = 2 ^ 24 := by decide
    refine ⟨n, rfl, ⟨by decide, by decide, hn.1.1, hn.1.2, ?_⟩, fun q o hq ho => ?_⟩
    · have := hn.2
      omega
    · have w1 : Wp W cl (.ok (.tup (rangeD 0 n.toNat))) σ F1 H1 fun d F' H' => ∀ v, Rp X.K F' v d → Q v H' := w1
      have x2 := Ext.laid (.frz o (.tup (rgV 0 n))) x1.sub hq
      refine w1 _ _ x2 _ (.tup (.new ho) ?_)
      unfold rgV rangeD
      rw [Int.sub_zero]
      exact rps_range 0 _
  · exact w1.elim
theorem mem_of_within {is js : List Nat} (h : within is js = true) : ∀ i ∈ is, i ∈ js := fun i hi => by
  have := List.all_eq_true.mp h i hi
  simpa using this
theorem lc_sem {Φ : Nat → List D → R D} {vs : List Nat} {g : G} {k : IK} {src : Es} {t : O} {b : E} (e : Env) :
    (do let ds ← (do let ss ← evs Φ src e; itS k ss); let r ← (lcM ds (lcF g vs (evT Φ t) (ev Φ b) e)).calm; R.ok (D.lst r)) = ev Φ (.lc vs g k src t b) e := by
  show ((evs Φ src e >>= fun ss => itS k ss) >>= fun ds => (lcM ds (lcF g vs (evT Φ t) (ev Φ b) e)).calm >>= fun r => R.ok (D.lst r)) = _
  rw [R_assoc]
  rfl
theorem dc_sem {Φ : Nat → List D → R D} {vs : List Nat} {g : G} {k : IK} {src : Es} {t : O} {b d : E} (e : Env) :
    (do let ds ← (do let ss ← evs Φ src e; itS k ss); let r ← (lcM ds (dcF g vs (evT Φ t) (ev Φ b) (ev Φ d) e)).calm; R.ok (D.dic false (putAll r []))) = ev Φ (.dc vs g k src t b d) e := by
  show ((evs Φ src e >>= fun ss => itS k ss) >>= fun ds => (lcM ds (dcF g vs (evT Φ t) (ev Φ b) (ev Φ d) e)).calm >>= fun r => R.ok (D.dic false (putAll r []))) = _
  rw [R_assoc]
  rfl
theorem lc2_sem {Φ : Nat → List D → R D} {vs vs1 : List Nat} {g g1 : G} {k k1 : IK} {src src1 : Es} {t t1 : O} {b : E} (e : Env) :
    (do let ds ← (do let ss ← evs Φ src e; itS k ss); let r ← (lcM ds (lcF2 g vs (evT Φ t) (fun en => do let ss ← evs Φ src1 en; itS k1 ss) g1 vs1 (evT Φ t1) (ev Φ b) e)).calm; fitL r D.lst) = ev Φ (.lc2 vs g k src t vs1 g1 k1 src1 t1 b) e := by
  show ((evs Φ src e >>= fun ss => itS k ss) >>= fun ds => (lcM ds (lcF2 g vs (evT Φ t) (fun en => do let ss ← evs Φ src1 en; itS k1 ss) g1 vs1 (evT Φ t1) (ev Φ b) e)).calm >>= fun r => fitL r D.lst) = _
  rw [R_assoc]
  have : (lcF2 g vs (evT Φ t) (fun en => do let ss ← evs Φ src1 en; itS k1 ss) g1 vs1 (evT Φ t1) (ev Φ b) e) = (fun d => do
      let e1 ← asgG g d (wipeE e vs)
      let c ← evT Φ t e1
      if c then do
        let ss1 ← evs Φ src1 e1
        let ds1 ← itS k1 ss1
        lcM ds1 fun d1 => do
          let e2 ← asgG g1 d1 (wipeE e1 vs1)
          let c1 ← evT Φ t1 e2
          if c1 then do let y ← ev Φ b e2; .ok [y] else .ok []
      else .ok []) := by
    funext d
    unfold lcF2
    congr 1
    funext e1
    congr 1
    funext c'
    cases c' with
    | false => rfl
    | true =>
      show ((evs Φ src1 e1 >>= fun ss => itS k1 ss) >>= fun ds1 => lcM ds1 (lcF g1 vs1 (evT Φ t1) (ev Φ b) e1)) = _
      rw [R_assoc]
      rfl
  rw [this]
  rfl
theorem fnIdx_ok (C : Ctx c Γ cl j X L W) : ∀ {fs : List Expr} {js : List Nat}, fnIdx c L fs = some js → ∃ l vs, FnL X cl j fs l vs ∧ l.length = fs.length ∧ ∀ (x : D) (k : R (List D)), (pickR l x >>= fun fr => k >>= fun xs => arity fr.n fr.sem xs) = (pickF js x >>= fun f => k >>= fun xs => phi Γ f xs) := by
  have main : ∀ {fs : List Expr} {js : List Nat}, fnIdx c L fs = some js → ∃ l vs, FnL X cl j fs l vs ∧ l.length = fs.length ∧ l.length = js.length ∧ ∀ (i f : Nat) (fr : FnR), js[i]? = some f → l[i]? = some fr → Γ[f]? = some fr := by
    intro fs
    induction fs with
    | nil => intro js h; cases h; exact ⟨[], [], .nil, rfl, rfl, fun i f fr e => by cases e⟩
    | cons a r ih =>
      intro js h
      unfold fnIdx at h
      split at h
      · rename_i heq; cases heq
      · rename_i x p r' heq
        cases heq
        obtain ⟨hgl, h⟩ := when_some h
        obtain ⟨i, js', hi, h2, rfl⟩ := o2_some h
        obtain ⟨l, vs, hf, h3, h4, h5⟩ := ih h2
        obtain ⟨hg, hd⟩ := C.glob hgl
        obtain ⟨hil, hb, _⟩ := List.findIdx?_eq_some_iff_getElem.mp hi
        have hfl : i < Γ.length := by
          have := hil
          rw [C.fns, List.length_map] at this
          exact this
        have hnm : x = Γ[i].name := by
          have e1 : c.fns[i] = (Γ[i].name, Γ[i].n) := by
            have : c.fns[i]? = some (Γ[i].name, Γ[i].n) := by
              rw [C.fns, List.getElem?_map, List.getElem?_eq_getElem hfl]
              rfl
            rw [List.getElem?_eq_getElem hil] at this
            exact Option.some.inj this
          rw [e1] at hb
          exact (eq_of_beq hb).symm
        obtain ⟨f, fd, ps, k, hn, hk, F, hm, kp, hbn⟩ := (C.fx Γ[i] (List.getElem_mem hfl)).ex
        rw [← hnm] at hm
        refine ⟨Γ[i] :: l, .ref f :: vs, .cons hg hd hm hn hk F kp hbn hf, by simp [h3], by simp [h4], fun n g fr e1 e2 => ?_⟩
        cases n with
        | zero =>
          cases e1
          cases e2
          exact List.getElem?_eq_getElem hfl
        | succ n => exact h5 n g fr e1 e2
      · cases h
  intro fs js h
  obtain ⟨l, vs, hf, h3, h4, h5⟩ := main h
  refine ⟨l, vs, hf, h3, fun x k => ?_⟩
  unfold pickR pickF
  cases x <;> try rfl
  rename_i i
  dsimp only
  split
  · cases q : l[i.toNat]? with
    | none =>
      have : js[i.toNat]? = none := by
        rw [List.getElem?_eq_none_iff] at q ⊢
        omega
      rw [this]
      rfl
    | some fr =>
      have hlt := (List.getElem?_eq_some_iff.mp q).1
      have hj : js[i.toNat]? = some (js[i.toNat]'(by omega)) := List.getElem?_eq_getElem (by omega)
      have z := h5 _ _ fr hj q
      rw [hj]
      show (k >>= fun xs => arity fr.n fr.sem xs) = (k >>= fun xs => phi Γ _ xs)
      congr 1
      funext xs
      unfold phi
      rw [z]
  · rfl
theorem step_ok {f : Loc → Expr → Option E} (ih : IH c Γ cl j f) (C : Ctx c Γ cl j X L W) {e : Expr} {ir : E} (h : stepE c f L e = some ir) : Sound X W cl (phi Γ) e ir ∧ ∀ x p, e ≠ .Starred x p := by
  have hu := C.room.units
  have hu65 : X.A.units + 65 < cLine := by
    have := C.room.un
    omega
  refine ⟨?_, fun x p z => by subst z; simp [stepE] at h⟩
  unfold stepE at h
  split at h
  · exact name_ok C h
  · cases h; exact .val (ce_lit pe_int fun F => .int _) rfl rfl
  · cases h; exact .val (ce_lit pe_bl fun F => .bl _) rfl rfl
  · cases h; exact .val (ce_lit pe_non fun F => .non) rfl rfl
  · cases h; exact .val (ce_lit pe_str fun F => .str _) rfl rfl
  · obtain ⟨h1, h⟩ := when_some h
    obtain ⟨x, y, h2, h3, rfl⟩ := o2_some h
    exact .val (PEc (ce_bin h1 (ih C h2).1.pe (ih C h3).1.pe) fun _ => rfl) rfl rfl
  · obtain ⟨x, h2, rfl⟩ := o1_some h
    exact .val (PEc (ce_neg (ih C h2).1.pe) fun _ => rfl) rfl rfl
  · obtain ⟨h1, h⟩ := when_some h
    obtain ⟨x, h2, rfl⟩ := o1_some h
    exact ⟨PEc (ce_not (ih C h2).1.pe) fun _ => rfl, fun _ => PTc (ct_not' ((ih C h2).1.pt (by simpa using h1))) fun _ => rfl, fun z => nomatch z⟩
  · obtain ⟨h1, h⟩ := when_some h
    obtain ⟨x, h2, rfl⟩ := o1_some h
    obtain ⟨q1, q2⟩ := (args_ok ih C h2).and_ rfl h1
    exact ⟨PEc q1 fun _ => rfl, fun _ => PTc q2.pt fun _ => rfl, fun z => nomatch z⟩
  · obtain ⟨h1, h⟩ := when_some h
    obtain ⟨x, h2, rfl⟩ := o1_some h
    obtain ⟨q1, q2⟩ := (args_ok ih C h2).or_ rfl h1
    exact ⟨PEc q1 fun _ => rfl, fun _ => PTc q2.pt fun _ => rfl, fun z => nomatch z⟩
  · obtain ⟨h1, h⟩ := when_some h
    obtain ⟨x, y, h2, h3, rfl⟩ := o2_some h
    have hm := by simpa using h1
    exact ⟨PEc (ce_cmp hu65 hm (opnd_ok ih C h2).1 (opnd_ok ih C h3).1) fun _ => rfl, fun _ => PTc (ct_cmp hu65 hm (opnd_ok ih C h2).1 (opnd_ok ih C h3).1) fun _ => rfl, fun z => nomatch z⟩
  · obtain ⟨h1, h⟩ := when_some h
    obtain ⟨x, y, z, h2, h3, h4, rfl⟩ := o3_some h
    have hm := (Bool.not_eq_true' _).mp h1
    exact ⟨PEc (ce_chain hu65 hm (opnd_ok ih C h2).1 (opnd_ok ih C h3).1 (opnd_ok ih C h4).1) fun _ => rfl, fun _ => PTc (ct_chain hu65 hm (opnd_ok ih C h2).1 (opnd_ok ih C h3).1 (opnd_ok ih C h4).1) fun _ => rfl, fun z => nomatch z⟩
  · obtain ⟨h1, h⟩ := when_some h
    obtain ⟨x, y, z, h2, h3, h4, rfl⟩ := o3_some h
    exact ⟨PEc (ce_ife ((ih C h2).1.pt (by simpa using h1)) (ih C h3).1.pe (ih C h4).1.pe) fun _ => rfl, (fun z => nomatch z), (fun z => nomatch z)⟩
  · obtain ⟨x, h2, rfl⟩ := o1_some h
    exact .val (PEc (ce_tup (args_ok ih C h2).pa) fun _ => rfl) rfl rfl
  · obtain ⟨x, h2, rfl⟩ := o1_some h
    exact .new (PNc (cn_lst (args_ok ih C h2).pa) fun _ => rfl) rfl
  · obtain ⟨x, y, z, h2, h3, h4, rfl⟩ := o3_some h
    exact .val (PEc (ce_sl (ih C h2).1.pe (part_ok ih C h3) (part_ok ih C h4)) fun _ => rfl) rfl rfl
  · obtain ⟨x, h2, rfl⟩ := o1_some h
    exact .val (PEc (ce_rev (p4 := ⟨0, 0, 0, 0⟩) (ih C h2).1.pe) fun _ => rfl) rfl rfl
  · rename_i a b pos _ _
    obtain ⟨h1, h⟩ := when_some h
    have hs : PlainIx b := ixPlain (by simpa using h1)
    split at h
    · rename_i ho
      obtain ⟨x, y, h2, h3, rfl⟩ := o2_some h
      cases a <;> simp only [isOwnName] at ho <;> try cases ho
      rename_i nm np
      simp only [compO, ho, if_true] at h2
      obtain ⟨i, h4, rfl⟩ := o1_some h2
      obtain ⟨q1, q2, q3, q4⟩ := C.slotN h4
      exact .val (PEc (ce_oix (by omega) hs q1 q2 q3 q4 (ih C h3).1.pe) fun _ => rfl) rfl rfl
    · obtain ⟨x, y, h2, h3, rfl⟩ := o2_some h
      exact .val (PEc (ce_ix (by omega) hs (ih C h2).1.pe (ih C h3).1.pe) fun _ => rfl) rfl rfl
  · rename_i x p1 m p2
    obtain ⟨hc, h⟩ := when_some h
    rw [Bool.and_eq_true] at hc
    obtain ⟨i, h1, rfl⟩ := o1_some h
    obtain ⟨q1, q2, q3, q4⟩ := C.slotN h1
    refine .val (PEc (ce_fld (C.desk (fun z => by rw [z] at hc; exact absurd hc.1 (by simp))) q1 q2 q3 q4 ?_) fun _ => rfl) rfl rfl
    cases hm : (m == ("now" : Str)) with
    | true => exact eq_of_beq hm
    | false =>
      rw [hm, Bool.or_false] at hc
      exact eq_of_beq hc.2
  · rename_i x p1 m p2 p3
    obtain ⟨hc, h⟩ := when_some h
    rw [Bool.and_eq_true, Bool.and_eq_true] at hc
    obtain ⟨hl, hc⟩ := hc
    obtain ⟨i, h1, rfl⟩ := o1_some h
    obtain ⟨q1, q2, q3, q4⟩ := C.slotN h1
    refine .val (PEc (ce_omt (C.desk (fun z => by rw [z] at hc; exact absurd hc.1 (by simp))) C.room C.takes q1 q2 q3 q4 ?_ hl) fun _ => rfl) rfl rfl
    cases hm : (m == ("order" : Str)) with
    | true => exact eq_of_beq hm
    | false =>
      rw [hm, Bool.or_false] at hc
      exact eq_of_beq hc.2
  · rename_i x p a es pos
    obtain ⟨h1, h⟩ := when_some h
    obtain ⟨hg, hd⟩ := C.glob h1
    split at h
    · -- a def
      rename_i i hi
      obtain ⟨irs, h2, rfl⟩ := o1_some h
      have sa := args_ok ih C h2
      obtain ⟨hil, hb, _⟩ := List.findIdx?_eq_some_iff_getElem.mp hi
      have hfl : i < Γ.length := by
        have := hil
        rw [C.fns, List.length_map] at this
        exact this
      have hnm : x = Γ[i].name := by
        have e1 : c.fns[i] = (Γ[i].name, Γ[i].n) := by
          have : c.fns[i]? = some (Γ[i].name, Γ[i].n) := by
            rw [C.fns, List.getElem?_map, List.getElem?_eq_getElem hfl]
            rfl
          rw [List.getElem?_eq_getElem hil] at this
          exact Option.some.inj this
        rw [e1] at hb
        exact (eq_of_beq hb).symm
      obtain ⟨irs0, irs1, h5, h6, rfl⟩ := o2_some h2
      have sr := args_ok ih C h6
      refine .val (PEc (ce_call (C.fx Γ[i] (List.getElem_mem hfl)) C.room C.takes hnm hg sa.pa hd (sa.one _ rfl) (sr.star _ _)) fun e => ?_) rfl rfl
      show _ = (evs (phi Γ) (.cons irs0 irs1) e >>= fun xs => phi Γ i xs)
      congr 1
      funext xs
      unfold phi
      rw [List.getElem?_eq_getElem hfl]
    · obtain ⟨hb, h⟩ := when_some h
      have hm := C.bl x hb
      have gen : (match biTab.find? (fun r => r.1 == x) with
          | some r => (compEs (f L) (a :: es)).map (E.bi r.2.1)
          | none => none) = some ir → Sound X W cl (phi Γ) (.Call (.Name x p) (a :: es) [] pos) ir := by
        intro h
        split at h
        · rename_i r hr
          obtain ⟨irs, h2, rfl⟩ := o1_some h
          have sa := args_ok ih C h2
          obtain ⟨irs0, irs1, h5, h6, rfl⟩ := o2_some h2
          have sr := args_ok ih C h6
          have hmem := List.mem_of_find?_eq_some hr
          have hx : r.1 = x := eq_of_beq (List.find?_some (p := fun (r : Str × Bi × Value) => r.1 == x) hr)
          have ok := List.all_eq_true.mp biTab_ok r hmem
          rw [Bool.and_eq_true] at ok
          have e1 : bootBuiltins x = some r.2.2 := by rw [← hx]; exact of_decide_eq_true ok.1
          have e2 : x ≠ ("__name__" : Str) := by rw [← hx]; exact of_decide_eq_true ok.2
          have rule := biRule (X := X) C.calm (by omega) r hmem
          refine .val ?_ rfl ?_
          · obtain ⟨rn, rb, rv⟩ := r
            have hv : (∃ id, rv = .builtin id) ∨ ∃ id, rv = .type id := by
              simp only [biTab, List.mem_cons, List.not_mem_nil, or_false, Prod.mk.injEq] at hmem
              rcases hmem with ⟨_, _, rfl⟩ | ⟨_, _, rfl⟩ | ⟨_, _, rfl⟩ | ⟨_, _, rfl⟩ | ⟨_, _, rfl⟩ | ⟨_, _, rfl⟩ | ⟨_, _, rfl⟩ | ⟨_, _, rfl⟩ | ⟨_, _, rfl⟩ | ⟨_, _, rfl⟩ | ⟨_, _, rfl⟩ | ⟨_, _, rfl⟩ | ⟨_, _, rfl⟩ | ⟨_, _, rfl⟩ <;> first | exact .inl ⟨_, rfl⟩ | exact .inr ⟨_, rfl⟩
            rcases hv with ⟨id, rfl⟩ | ⟨id, rfl⟩
            · exact PEc (ce_biB rule hg hm e1 e2 sa.pa hd (sa.one _ rfl) (sr.star _ _)) fun _ => rfl
            · exact PEc (ce_biT rule hg hm e1 e2 sa.pa hd (sa.one _ rfl) (sr.star _ _)) fun _ => rfl
          · simp only [biTab, List.mem_cons, List.not_mem_nil, or_false] at hmem
            rcases hmem with rfl | rfl | rfl | rfl | rfl | rfl | rfl | rfl | rfl | rfl | rfl | rfl | rfl | rfl <;> rfl
        · cases h
      split at h
      · -- sorted(set(..))
        rename_i hl
        simp only [Bool.and_eq_true] at hl
        cases hb2 : isSetCall c L a with
        | none => rw [hb2] at h; cases h
        | some b =>
          rw [hb2] at h
          obtain ⟨z, h2, rfl⟩ := o1_some (show (f L b).map (fun z => E.bi .sortset (.cons z .nil)) = some ir from h)
          clear h gen
          have ex := beq_str hl.1.1
          have hes : es = [] := by simpa using hl.1.2
          subst ex
          subst hes
          clear hl
          unfold isSetCall at hb2
          split at hb2
          · rename_i y py b' pb
            split at hb2
            · rename_i hl
              cases hb2
              simp only [Bool.and_eq_true] at hl
              have ey := beq_str hl.1.1
              subst ey
              obtain ⟨sz, nz⟩ := ih C h2
              obtain ⟨hg', _⟩ := C.glob hl.1.2
              refine .val (PEc (ce_sortset C.calm (by omega) hg hm hg' (C.bl _ hl.2) (star_of nz) sz.pe) fun e => ?_) rfl rfl
              show _ = (evs (phi Γ) (.cons z .nil) e >>= fun xs => biS .sortset xs)
              rw [evs_one, R_assoc]
              rfl
            · cases hb2
          · cases hb2
      split at h
      · -- len(set(..))
        rename_i hl
        simp only [Bool.and_eq_true] at hl
        cases hb2 : isSetCall c L a with
        | none => rw [hb2] at h; cases h
        | some b =>
          rw [hb2] at h
          obtain ⟨z, h2, rfl⟩ := o1_some (show (f L b).map (fun z => E.bi .lenset (.cons z .nil)) = some ir from h)
          clear h gen
          have ex := beq_str hl.1.1
          have hes : es = [] := by simpa using hl.1.2
          subst ex
          subst hes
          clear hl
          unfold isSetCall at hb2
          split at hb2
          · rename_i y py b' pb
            split at hb2
            · rename_i hl
              cases hb2
              simp only [Bool.and_eq_true] at hl
              have ey := beq_str hl.1.1
              subst ey
              obtain ⟨sz, nz⟩ := ih C h2
              obtain ⟨hg', _⟩ := C.glob hl.1.2
              refine .val (PEc (ce_lenset C.calm (by omega) hg hm hg' (C.bl _ hl.2) (star_of nz) sz.pe) fun e => ?_) rfl rfl
              show _ = (evs (phi Γ) (.cons z .nil) e >>= fun xs => biS .lenset xs)
              rw [evs_one, R_assoc]
              rfl
            · cases hb2
          · cases hb2
      split at h
      · -- len of a desktop
        rename_i hl
        simp only [Bool.and_eq_true] at hl
        cases hb2 : isObName c a with
        | none => rw [hb2] at h; cases h
        | some y =>
          rw [hb2] at h
          obtain ⟨i, h2, rfl⟩ := o1_some (show (slotN c L y).map E.olen = some ir from h)
          clear h gen
          have ex := beq_str hl.1.1
          have hes : es = [] := by simpa using hl.1.2
          subst ex
          subst hes
          clear hl
          unfold isObName at hb2
          split at hb2
          · split at hb2
            · rename_i hc
              cases hb2
              obtain ⟨q1, q2, q3, q4⟩ := C.slotN h2
              exact .val (PEc (ce_olen (C.desk (fun z => by rw [z] at hc; exact absurd hc (by simp))) C.room C.takes hg hm q1 q2 q3 q4) fun _ => rfl) rfl rfl
            · cases hb2
          · cases hb2
      split at h
      · -- len of what is looked at
        rename_i hl
        obtain ⟨z, h2, rfl⟩ := o1_some h
        clear h gen
        rw [Bool.and_eq_true] at hl
        have ex := beq_str hl.1
        subst ex
        have hes : es = [] := by simpa using hl.2
        subst hes
        obtain ⟨pz, nz⟩ := opnd_ok ih C h2
        refine .val (PE.imp (pe_callB call_lenW hg hm (by decide +kernel) (caw_one pz (star_of nz)) (by decide) hd (star_of nz) rfl) fun σ H Q _ q => ?_) rfl rfl
        obtain ⟨e, F, vr, w⟩ := q
        have w' : Wp W cl ((do let x ← ev (phi Γ) z e; R.ok [x]) >>= fun xs => biS .len xs) σ F H fun d F' H' => ∀ v, Rp X.K F' v d → Q v H' := by
          have : (do let x ← ev (phi Γ) z e; R.ok [x]) = evs (phi Γ) (.cons z .nil) e := evs_one.symm
          rw [this]
          exact w
        refine ⟨e, F, vr, w'.bind.mono fun xs F1 H1 x1 w1 vs G sg rs => ?_⟩
        cases hz : biS .len xs with
        | bad => rw [hz] at w1; exact w1.elim
        | exc c => exact absurd hz biS_noexc
        | ok d =>
          rw [hz] at w1
          obtain ⟨n, rfl⟩ := len_int hz
          exact ⟨G, xs, n, sg, rs, hz, w1.now x1.sub _ (.int _)⟩
      · split at h
        · rename_i y py b pb _
          split at h
          · rename_i hl
            simp only [Bool.and_eq_true] at hl
            obtain ⟨z, h2, rfl⟩ := o1_some h
            clear h gen
            have ex := beq_str hl.1.1.1
            have ey := beq_str hl.1.1.2
            subst ex; subst ey
            obtain ⟨sz, nz⟩ := ih C h2
            obtain ⟨hg', _⟩ := C.glob hl.1.2
            refine .new (PNc (cn_lrange C hg hm hg' (C.bl _ hl.2) (star_of nz) sz.pe) fun e => ?_) rfl
            show _ = (evs (phi Γ) (.cons z .nil) e >>= fun xs => biS .lrange xs)
            rw [evs_one, R_assoc]
            rfl
          split at h
          · rename_i hl
            simp only [Bool.and_eq_true] at hl
            obtain ⟨z, h2, rfl⟩ := o1_some h
            clear h gen
            have ex := beq_str hl.1.1.1
            have ey := beq_str hl.1.1.2
            subst ex; subst ey
            obtain ⟨sz, nz⟩ := ih C h2
            obtain ⟨hg', _⟩ := C.glob hl.1.2
            refine .val (PEc (ce_trange C hg hm hg' (C.bl _ hl.2) (star_of nz) sz.pe) fun e => ?_) rfl rfl
            show _ = (evs (phi Γ) (.cons (.bi .lrange (.cons z .nil)) .nil) e >>= fun xs => biS .tuple xs)
            rw [evs_one, R_assoc]
            show _ = ((evs (phi Γ) (.cons z .nil) e >>= fun xs => biS .lrange xs) >>= fun d => biS .tuple [d])
            rw [evs_one, R_assoc, R_assoc]
            rfl
          · exact gen h
        · exact gen h
  · rename_i x p pos
    obtain ⟨h1, h⟩ := when_some h
    obtain ⟨hg, hd⟩ := C.glob h1
    obtain ⟨i, hi, rfl⟩ := o1_some h
    obtain ⟨hil, hb, _⟩ := List.findIdx?_eq_some_iff_getElem.mp hi
    have hfl : i < Γ.length := by
      have := hil
      rw [C.fns, List.length_map] at this
      exact this
    have hnm : x = Γ[i].name := by
      have e1 : c.fns[i] = (Γ[i].name, Γ[i].n) := by
        have : c.fns[i]? = some (Γ[i].name, Γ[i].n) := by
          rw [C.fns, List.getElem?_map, List.getElem?_eq_getElem hfl]
          rfl
        rw [List.getElem?_eq_getElem hil] at this
        exact Option.some.inj this
      rw [e1] at hb
      exact (eq_of_beq hb).symm
    refine .val (PEc (ce_call0 (C.fx Γ[i] (List.getElem_mem hfl)) C.room C.takes hnm hg hd) fun e => ?_) rfl rfl
    show _ = phi Γ i []
    unfold phi
    rw [List.getElem?_eq_getElem hfl]
  · rename_i fs p1 b p2 a es pos
    obtain ⟨hsl, h⟩ := when_some h
    rw [Bool.and_eq_true] at hsl
    obtain ⟨js, z, irs, h1, h2, h3, rfl⟩ := o3_some h
    have sa := args_ok ih C h3
    obtain ⟨irs0, irs1, h5, h6, rfl⟩ := o2_some h3
    have sr := args_ok ih C h6
    obtain ⟨l, vs, hf, hlen, hpick⟩ := fnIdx_ok C h1
    refine .val (PEc (ce_callx hf (by have := of_decide_eq_true hsl.2; omega) C.room C.takes (ixPlain (by simpa using hsl.1)) (ih C h2).1.pe sa.pa (sa.one _ rfl) (sr.star _ _)) fun e => ?_) rfl rfl
    show _ = (ev (phi Γ) z e >>= fun x => pickF js x >>= fun f => evs (phi Γ) (.cons irs0 irs1) e >>= fun xs => phi Γ f xs)
    congr 1
    funext x
    exact hpick x _
  · -- a method
    rename_i o m ap a cp
    obtain ⟨hb, h⟩ := when_some h
    rw [Bool.and_eq_true] at hb
    split at h
    · rename_i k hk
      obtain ⟨x, y, h2, h3, rfl⟩ := o2_some h
      obtain ⟨px, _⟩ := opnd_ok ih C h2
      obtain ⟨sy, ny⟩ := ih C h3
      have fin : ∀ k', (fun e => do let x ← ev (phi Γ) x e; if mtOk k' x then do let y ← ev (phi Γ) y e; mtS k' x [y] else .bad) = ev (phi Γ) (.mt k' x (.cons y .nil)) := fun k' => funext fun e => by
        show (ev (phi Γ) x e >>= fun v => if mtOk k' v then (ev (phi Γ) y e >>= fun y => mtS k' v [y]) else .bad) = (ev (phi Γ) x e >>= fun v => if mtOk k' v then (evs (phi Γ) (.cons y .nil) e >>= fun xs => mtS k' v xs) else .bad)
        congr 1
        funext v
        rw [evs_one, R_assoc]
        rfl
      have hm2 := lookup_mem hk
      simp only [mtTab, List.mem_cons, List.not_mem_nil, or_false, Prod.mk.injEq] at hm2
      rcases hm2 with ⟨rfl, rfl⟩ | ⟨rfl, rfl⟩ | ⟨rfl, rfl⟩ | ⟨rfl, rfl⟩
      · exact .val (fin .index ▸ ce_index hu65 hb.1 hb.2 (star_of ny) px sy.pe) rfl rfl
      · exact .val (fin .count ▸ ce_count hu65 hb.1 hb.2 (star_of ny) px sy.pe) rfl rfl
      · exact .val (fin .split ▸ ce_split hb.1 hb.2 (star_of ny) px sy.pe) rfl rfl
      · exact .val (fin .join ▸ ce_join hb.1 hb.2 (star_of ny) px sy.pe) rfl rfl
    · cases h
  · obtain ⟨x, y, h2, h3, rfl⟩ := o2_some h
    exact .new (PNc (cn_dsp (by omega) (ih C h2).1.pe (ih C h3).1.pe) fun e => rfl) rfl
  · -- a dict comprehension
    rename_i kx vx tg it ifs scope pos
    obtain ⟨hb, h⟩ := when_some h
    rw [Bool.and_eq_true] at hb
    have hset : isSet it = false := by simpa using hb.2
    split at h
    · rename_i g k src t b d h1 h2 h3 h4 h5
      obtain ⟨hw, h⟩ := when_some h
      cases h
      have ok : BlkOk X.N X.env.scope scope (ownOf c scope) := by
        rw [C.N, C.sc]
        exact blkOk_by hb.1
      exact .new (PNc (cn_dc C.calm (by rw [C.N]; exact C.nd) (iter_ok ih C h2) ok (mem_of_within hw) (fun s H D cs fp => tg_ok (C.blk scope s H D cs fp) h1) (fun s H D cs fp => tests_ok ih (C.blk scope s H D cs fp) h3) (fun s H D cs fp => (ih (C.blk scope s H D cs fp) h4).1.pe) (fun s H D cs fp => (ih (C.blk scope s H D cs fp) h5).1.pe) (set_of hset _)) fun e => dc_sem e) rfl
    · cases h
  · -- one clause
    rename_i elt tg it ifs scope pos
    obtain ⟨hb, h⟩ := when_some h
    rw [Bool.and_eq_true] at hb
    have hset : isSet it = false := by simpa using hb.2
    split at h
    · rename_i g k src t b h1 h2 h3 h4
      obtain ⟨hw, h⟩ := when_some h
      cases h
      have ok : BlkOk X.N X.env.scope scope (ownOf c scope) := by
        rw [C.N, C.sc]
        exact blkOk_by hb.1
      unfold compIK at h2
      split at h2
      · rename_i x hx
        obtain ⟨i, h5, h6⟩ := o1_some h2
        cases h6
        unfold diName at hx
        split at hx
        · rename_i x' p'
          split at hx
          · cases hx
            obtain ⟨q1, q2, q3, q4⟩ := C.slotN h5
            refine .new (PNc (cn_lcK C.calm (by rw [C.N]; exact C.nd) q1 q2 q3 q4 ok (mem_of_within hw) (fun s H D cs fp => tg_ok (C.blk scope s H D cs fp) h1) (fun s H D cs fp => tests_ok ih (C.blk scope s H D cs fp) h3) (fun s H D cs fp => (ih (C.blk scope s H D cs fp) h4).1.pe)) fun e => ?_) rfl
            rw [← lc_sem]
            have : (do let x ← getV e i; itS .keys [x]) = (do let ss ← evs (phi Γ) (.cons (.var i) .nil) e; itS .keys ss) := it_one (a := .var i) (k := .keys) (Φ := phi Γ)
            rw [this]
          · cases hx
        · cases hx
      refine .new (PNc (cn_lc C.calm (by rw [C.N]; exact C.nd) (iter_ok ih C h2) ok (mem_of_within hw) (fun s H D cs fp => tg_ok (C.blk scope s H D cs fp) h1) (fun s H D cs fp => tests_ok ih (C.blk scope s H D cs fp) h3) (fun s H D cs fp => (ih (C.blk scope s H D cs fp) h4).1.pe) (set_of hset _)) fun e => lc_sem e) rfl
    · cases h
  · rename_i elt tg it ifs tg1 it1 ifs1 scope pos
    obtain ⟨hb, h⟩ := when_some h
    rw [Bool.and_eq_true, Bool.and_eq_true] at hb
    have hset : isSet it = false := by simpa using hb.1.2
    have hset1 : isSet it1 = false := by simpa using hb.2
    split at h
    · rename_i g k src t b g1 k1 src1 t1 h1 h2 h3 h4 h5 h6 h7
      obtain ⟨hw, h⟩ := when_some h
      rw [Bool.and_eq_true] at hw
      cases h
      have ok : BlkOk X.N X.env.scope scope (ownOf c scope) := by
        rw [C.N, C.sc]
        exact blkOk_by hb.1.1
      refine .new (PNc (cn_lc2 (vs1 := slotsG g1) C.calm (by rw [C.N]; exact C.nd) (iter_ok ih C h2) ok (mem_of_within hw.2) (mem_of_within hw.1) (fun i hi => hi) (fun s H D cs fp => tg_ok (C.blk scope s H D cs fp) h1) (fun s H D cs fp => tests_ok ih (C.blk scope s H D cs fp) h3)
        (fun s H D cs fp => iter_ok ih (C.blk scope s H D cs fp) h6) (fun s H D cs fp => tg_ok (C.blk scope s H D cs fp) h5) (fun s H D cs fp => tests_ok ih (C.blk scope s H D cs fp) h7) (fun s H D cs fp => (ih (C.blk scope s H D cs fp) h4).1.pe) (set_of hset _) (fun env => set_of hset1 env)) fun e => lc2_sem e) rfl
    · cases h
  · cases h
theorem compE_ok : ∀ n : Nat, IH c Γ cl j (compE c n)
  | 0 => fun _ h => by cases h
  | n + 1 => fun C h => step_ok (compE_ok n) C h
end
end Pan
namespace Pan
open PySem PySem.Spec L2
open PyProof.Rows hiding St
variable [TabsIn]
/-- what a def's names hold for their own is new, and apart; the desktop that the def was given is the one at home -/
structure Sls (A0 H0 : Hp) (e : Env) (σ : St) (H : Hp) : Prop where
  fresh : ∀ (i : Nat) (s : Slot) (o : Option V) (x : Addr), e[i]? = some s → σ[i]? = some o → Foot H s o x → H0 x = none
  apart : ∀ (i k : Nat) (s t : Slot) (o q : Option V) (x : Addr), e[i]? = some s → e[k]? = some t → σ[i]? = some o → σ[k]? = some q → Foot H s o x → Foot H t q x → i = k
  home : ∀ (i : Nat) (ob : Ob) (a : Addr), e[i]? = some (.obj true ob) → σ[i]? = some (some (.ref a)) → (A0 a).isSome = true
/-- a def's state: what stood at its entry (H0, F0) is as it was -/
structure ER (K : PySem.W.Frag) (A0 H0 F0 : Hp) (e : Env) (σ : St) (F H : Hp) : Prop where
  sub0 : Sub F0 H0
  vr : VR K e σ F H
  ext : Ext F0 H0 F H
  sls : Sls A0 H0 e σ H
def Post (K : PySem.W.Frag) (W : WX) (cl : Nat → Value) (A0 H0 F0 : Hp) (D : Ends) : R Fl → Prop
  | .ok (.nx e) => ∀ σ F H, ER K A0 H0 F0 e σ F H → D.nx σ H
  | .ok (.rt d) => ∀ v F H, Ext F0 H0 F H → Rp K F v d → D.rt v H
  | .ok (.ex c e) => ∀ σ F H, ER K A0 H0 F0 e σ F H → W (cl c) none σ H
  | _ => False
def tS (K : PySem.W.Frag) (W : WX) (cl : Nat → Value) (r : Env → R Fl) : TS := fun D σ H => ∃ A0 H0 F0 e F, ER K A0 H0 F0 e σ F H ∧ Post K W cl A0 H0 F0 D (r e)
/-- H without what P tells -/
noncomputable def cut (H : Hp) (P : Addr → Prop) : Hp := fun x => @ite _ (P x) (Classical.propDecidable _) none (H x)
theorem cut_in {H : Hp} {P : Addr → Prop} {x : Addr} (h : P x) : cut H P x = none := if_pos h
theorem cut_out {H : Hp} {P : Addr → Prop} {x : Addr} (h : ¬ P x) : cut H P x = H x := if_neg h
theorem cut_some {H : Hp} {P : Addr → Prop} {x : Addr} {o : HO} (h : cut H P x = some o) : ¬ P x ∧ H x = some o := by
  by_cases z : P x
  · rw [cut_in z] at h; cases h
  · rw [cut_out z] at h; exact ⟨z, h⟩
theorem cut_same (H : Hp) (P : Addr → Prop) : Same (cut H P) H := fun x o e => (cut_some e).2
section
variable {K : PySem.W.Frag} {W : WX} {cl : Nat → Value} {A0 H0 F0 F H F' H' : Hp} {e : Env} {σ : St} {D : Ends}
theorem Foot.poke {s : Slot} {o : Option V} {x a : Addr} {u : HO} (n : ¬ Foot H s o a) (h : Foot (L2.upd H a u) s o x) : Foot H s o x := by
  cases s with
  | obj hm ob =>
    cases o with
    | none => exact h
    | some v =>
      cases v with
      | ref b =>
        have hb : b ≠ a := fun z => n (.inl z.symm)
        rcases h with h | ⟨C', dx', pv', nv', da', ua', e, h⟩
        · exact .inl h
        · rw [upd_ne hb] at e
          exact .inr ⟨_, _, _, _, _, _, e, h⟩
      | _ => exact h
  | own d => cases o <;> first | exact h | (rename_i v; cases v <;> exact h)
  | _ => exact h
theorem Foot.uncut {s : Slot} {o : Option V} {x : Addr} {P : Addr → Prop} (h : Foot (cut H P) s o x) : Foot H s o x := by
  cases s with
  | obj hm ob =>
    cases o with
    | none => exact h
    | some v =>
      cases v with
      | ref b =>
        rcases h with h | ⟨C', dx', pv', nv', da', ua', e, h⟩
        · exact .inl h
        · exact .inr ⟨_, _, _, _, _, _, (cut_some e).2, h⟩
      | _ => exact h
  | own d => cases o <;> first | exact h | (rename_i v; cases v <;> exact h)
  | _ => exact h
theorem SlotR.cut {s : Slot} {o : Option V} {P : Addr → Prop} (h : SlotR K F H s o) (n : ∀ x, Foot H s o x → ¬ P x) : SlotR K F (cut H P) s o := by
  cases s with
  | no => trivial
  | held c a => cases o <;> exact h
  | val d => cases o <;> exact h
  | obj hm ob =>
    cases o with
    | none => exact h.elim
    | some v =>
      cases v with
      | ref b =>
        obtain ⟨dx, da, ua, pv, nv, ds, us, z⟩ := h
        exact ⟨dx, da, ua, pv, nv, ds, us, z.fa, z.fd, z.fu, (cut_out (n _ (.inl rfl))).trans z.ha, (cut_out (n _ (.inr ⟨_, _, _, _, _, _, z.ha, .inl rfl⟩))).trans z.hd, (cut_out (n _ (.inr ⟨_, _, _, _, _, _, z.ha, .inr rfl⟩))).trans z.hu, z.ne, z.rp, z.rn, z.rd, z.ru⟩
      | _ => exact h.elim
  | own d =>
    cases o with
    | none => cases d <;> first | exact h.elim | (rename_i t _; cases t <;> exact h.elim)
    | some v =>
      cases v with
      | ref b =>
        have e0 := cut_out (H := H) (n b rfl)
        cases d with
        | lst ds => obtain ⟨f, xs, e1, r⟩ := h; exact ⟨f, xs, e0.trans e1, r⟩
        | dic t es =>
          cases t with
          | false => obtain ⟨f, xs, e1, r⟩ := h; exact ⟨f, xs, e0.trans e1, r⟩
          | true => obtain ⟨f, xs, e1, r⟩ := h; exact ⟨f, xs, e0.trans e1, r⟩
        | _ => exact h.elim
      | _ => cases d <;> first | exact h.elim | (rename_i t _; cases t <;> exact h.elim)
theorem Sls.set (h : Sls A0 H0 e σ H) {i : Nat} {s : Slot} {o : Option V} (hf : ∀ x, Foot H s o x → H0 x = none) (ha : ∀ x, Foot H s o x → ∀ (k : Nat) (t : Slot) (q : Option V), k ≠ i → e[k]? = some t → σ[k]? = some q → ¬ Foot H t q x) (hh : ∀ ob a, s = .obj true ob → o = some (.ref a) → (A0 a).isSome = true) : Sls A0 H0 (e.set i s) (σ.set i o) H := by
  have at_ : ∀ {k : Nat} {t : Slot} {q : Option V}, (e.set i s)[k]? = some t → (σ.set i o)[k]? = some q → (k = i ∧ t = s ∧ q = o) ∨ (k ≠ i ∧ e[k]? = some t ∧ σ[k]? = some q) := by
    intro k t q h1 h2
    rw [List.getElem?_set] at h1 h2
    by_cases z : i = k
    · rw [if_pos z] at h1 h2
      split at h1
      · split at h2
        · cases h1; cases h2; exact .inl ⟨z.symm, rfl, rfl⟩
        · cases h2
      · cases h1
    · rw [if_neg z] at h1 h2
      exact .inr ⟨fun y => z y.symm, h1, h2⟩
  refine ⟨fun k t q x h1 h2 f => ?_, fun k l t u q r x h1 h2 h3 h4 f g => ?_, fun k ob a h1 h2 => ?_⟩
  · rcases at_ h1 h2 with ⟨_, rfl, rfl⟩ | ⟨_, h1, h2⟩
    · exact hf x f
    · exact h.fresh k t q x h1 h2 f
  · rcases at_ h1 h3 with ⟨e1, rfl, rfl⟩ | ⟨n1, h1, h3⟩
    · rcases at_ h2 h4 with ⟨e2, _, _⟩ | ⟨n2, h2, h4⟩
      · rw [e1, e2]
      · exact absurd g (ha x f l u r n2 h2 h4)
    · rcases at_ h2 h4 with ⟨e2, e3, e4⟩ | ⟨n2, h2, h4⟩
      · rw [e3, e4] at g
        exact absurd f (ha x g k t q n1 h1 h3)
      · exact h.apart k l t u q r x h1 h2 h3 h4 f g
  · rcases at_ h1 h2 with ⟨_, e1, e2⟩ | ⟨_, h1, h2⟩
    · exact hh ob a e1.symm e2.symm
    · exact h.home k ob a h1 h2
/-- .. a place that holds nothing for its own -/
theorem Sls.set0 (h : Sls A0 H0 e σ H) {i : Nat} {s : Slot} {o : Option V} (hs : s.mine = false) : Sls A0 H0 (e.set i s) (σ.set i o) H :=
  h.set (fun x f => absurd f (Foot.not hs)) (fun x f => absurd f (Foot.not hs)) (fun ob a z _ => by subst z; cases hs)
theorem Sls.same (h : Sls A0 H0 e σ H) (vr : VR K e σ F H) (sm : SameT H H') : Sls A0 H0 e σ H' :=
  ⟨fun i s o x h1 h2 f => h.fresh i s o x h1 h2 (Foot.back (vr.slot i s o h1 h2) sm f), fun i k s t o q x h1 h2 h3 h4 f g => h.apart i k s t o q x h1 h2 h3 h4 (Foot.back (vr.slot i s o h1 h3) sm f) (Foot.back (vr.slot k t q h2 h4) sm g), h.home⟩
theorem ER.mono (r : ER K A0 H0 F0 e σ F H) (x : Ext F H F' H') : ER K A0 H0 F0 e σ F' H' := ⟨r.sub0, r.vr.mono x, r.ext.trans x, r.sls.same r.vr x.same⟩
theorem Post.wp {α : Type} {r : R α} {k : α → R Fl} (er : ER K A0 H0 F0 e σ F H) (p : Post K W cl A0 H0 F0 D (lift r e k)) : Wp W cl r σ F H fun a F' H' => ER K A0 H0 F0 e σ F' H' ∧ Post K W cl A0 H0 F0 D (k a) := by
  cases r with
  | ok a => exact fun F' H' x => ⟨er.mono x, p⟩
  | exc c => exact fun F' H' x => p σ F' H' (er.mono x)
  | bad => exact p.elim
/-- a name is given a value -/
theorem ER.val (er : ER K A0 H0 F0 e σ F H) {i : Nat} {d : Pan.D} {v : V} (r : Rp K F v d) : ER K A0 H0 F0 (e.set i (.val d)) (σ.set i (some v)) F H :=
  ⟨er.sub0, er.vr.set (s := .val d) (o := some v) r, er.ext, er.sls.set0 rfl⟩
/-- what stands at a is no other name's own -/
def NotOwn (H : Hp) (e : Env) (σ : St) (i : Nat) (a : Addr) : Prop := ∀ (k : Nat) (s : Slot) (o : Option V), k ≠ i → e[k]? = some s → σ[k]? = some o → ¬ Foot H s o a
theorem ER.own (er : ER K A0 H0 F0 e σ F H) {i : Nat} {d : Pan.D} {a : Addr} (h0 : H0 a = none) (hs : SlotR K F H (.own d) (some (.ref a))) (hn : NotOwn H e σ i a) : ER K A0 H0 F0 (e.set i (.own d)) (σ.set i (some (.ref a))) F H :=
  ⟨er.sub0, er.vr.set (s := .own d) (o := some (.ref a)) hs, er.ext, er.sls.set (fun x f => by cases (show x = a from f); exact h0) (fun x f k t q hk h1 h2 => by cases (show x = a from f); exact hn k t q hk h1 h2) (fun ob b z _ => by cases z)⟩
/-- a new desktop -/
theorem ER.obj (er : ER K A0 H0 F0 e σ F H) {i : Nat} {ob : Ob} {a : Addr} (h0 : ∀ x, Foot H (.obj false ob) (some (.ref a)) x → H0 x = none) (hs : ObR K F H ob a) (hn : ∀ x, Foot H (.obj false ob) (some (.ref a)) x → NotOwn H e σ i x) : ER K A0 H0 F0 (e.set i (.obj false ob)) (σ.set i (some (.ref a))) F H :=
  ⟨er.sub0, er.vr.set (s := .obj false ob) (o := some (.ref a)) hs, er.ext, er.sls.set h0 (fun x f k t q hk h1 h2 => hn x f k t q hk h1 h2) (fun ob b z _ => by cases z)⟩
theorem set_same {i : Nat} {o : Option V} (hσ : σ[i]? = some o) : σ.set i o = σ := by
  refine List.ext_getElem? fun k => ?_
  rw [List.getElem?_set]
  by_cases q : i = k
  · subst q
    rw [if_pos rfl, hσ]
    have := (List.getElem?_eq_some_iff.mp hσ).1
    simp [this]
  · rw [if_neg q]
/-- what a name's place holds is left out -/
theorem ER.without (er : ER K A0 H0 F0 e σ F H) {i : Nat} {s : Slot} {o : Option V} (he : e[i]? = some s) (hσ : σ[i]? = some o) : Sub F (cut H (Foot H s o)) ∧ Ext F0 H0 F (cut H (Foot H s o)) := by
  have sl := er.vr.slot i s o he hσ
  have tb : LamX.Tabs TabsIn.T (cut H (Foot H s o)) := fun p hp => by
    obtain ⟨ps, h1, h2, h3⟩ := er.vr.sub.tabs p hp
    have n1 : ¬ Foot H s o p.1 := fun f => by
      obtain ⟨⟨u, e1, e2, _⟩, _⟩ := f.stands sl
      rw [h1] at e1; cases e1; cases e2
    refine ⟨ps, (cut_out n1).trans h1, h2, fun pos cv hc => ?_⟩
    obtain ⟨c, e1, e2⟩ := h3 pos cv hc
    refine ⟨c, e1, (cut_out fun f => ?_).trans e2⟩
    obtain ⟨⟨u, e3, _, _, e4⟩, _⟩ := f.stands sl
    rw [e2] at e3
    exact e4 _ _ (Option.some.inj e3).symm
  have sub : Sub F (cut H (Foot H s o)) := ⟨fun x u q => ⟨(er.vr.sub.at_ x u q).1, by
    have nf : ¬ Foot H s o x := fun f => by
      have := (f.stands sl).2
      rw [q] at this; cases this
    rw [cut_out nf]
    exact er.vr.sub.at q⟩, tb⟩
  refine ⟨sub, ⟨fun b u q n => ?_, fun b ps q => ?_, fun t p hp => ?_⟩, er.ext.grow, sub, er.ext.new⟩
  · rw [cut_out (fun f => by rw [er.sls.fresh i s o b he hσ f] at q; cases q)]
    exact er.ext.same.at q n
  · rw [cut_out (fun f => by rw [er.sls.fresh i s o b he hσ f] at q; cases q)]
    exact er.ext.same.tb b ps q
  · exact tb p hp
/-- what a name's place holds is changed: all else is as it was -/
theorem ER.change (er : ER K A0 H0 F0 e σ F H) {i : Nat} {s s' : Slot} {o : Option V} (he : e[i]? = some s) (hσ : σ[i]? = some o) (x : Ext F (cut H (Foot H s o)) F' H') (sl : SlotR K F' H' s' o) (fr : ∀ y, Foot H' s' o y → cut H (Foot H s o) y = none) (hm : ∀ ob a, s' = .obj true ob → o = some (.ref a) → (A0 a).isSome = true) :
    ER K A0 H0 F0 (e.set i s') σ F' H' := by
  obtain ⟨sub, ext⟩ := er.without he hσ
  have oth : ∀ {k : Nat} {t : Slot} {q : Option V}, k ≠ i → e[k]? = some t → σ[k]? = some q → SlotR K F (cut H (Foot H s o)) t q := fun {k t q} hk h1 h2 =>
    (er.vr.slot k t q h1 h2).cut fun y f g => hk (er.sls.apart k i t s q o y h1 he h2 hσ f g)
  have bk : ∀ {k : Nat} {t : Slot} {q : Option V} {y : Addr}, k ≠ i → e[k]? = some t → σ[k]? = some q → Foot H' t q y → Foot (cut H (Foot H s o)) t q y := fun {k t q y} hk h1 h2 f => Foot.back (oth hk h1 h2) x.same f
  have er2 : ER K A0 H0 F0 (e.set i .no) (σ.set i none) F' H' := by
    have at_ : ∀ {k : Nat} {t : Slot} {q : Option V}, (e.set i .no)[k]? = some t → (σ.set i none)[k]? = some q → (t = .no) ∨ (k ≠ i ∧ e[k]? = some t ∧ σ[k]? = some q) := by
      intro k t q h1 h2
      rw [List.getElem?_set] at h1 h2
      by_cases z : i = k
      · rw [if_pos z] at h1
        split at h1
        · cases h1; exact .inl rfl
        · cases h1
      · rw [if_neg z] at h1 h2
        exact .inr ⟨fun y => z y.symm, h1, h2⟩
    refine ⟨er.sub0, ⟨x.sub, by simp [er.vr.len], fun k t q h1 h2 => ?_⟩, ext.trans x, ⟨fun k t q y h1 h2 f => ?_, fun k l t u q r y h1 h2 h3 h4 f g => ?_, fun k ob a h1 h2 => ?_⟩⟩
    · rcases at_ h1 h2 with rfl | ⟨hk, h1, h2⟩
      · trivial
      · exact (oth hk h1 h2).mono x
    · rcases at_ h1 h2 with rfl | ⟨hk, h1, h2⟩
      · exact absurd f (Foot.not rfl)
      · exact er.sls.fresh k t q y h1 h2 (bk hk h1 h2 f).uncut
    · rcases at_ h1 h3 with rfl | ⟨hk, h1, h3⟩
      · exact absurd f (Foot.not rfl)
      · rcases at_ h2 h4 with rfl | ⟨hl, h2, h4⟩
        · exact absurd g (Foot.not rfl)
        · exact er.sls.apart k l t u q r y h1 h2 h3 h4 (bk hk h1 h3 f).uncut (bk hl h2 h4 g).uncut
    · rcases at_ h1 h2 with z | ⟨hk, h1, h2⟩
      · cases z
      · exact er.sls.home k ob a h1 h2
  have sls3 : Sls A0 H0 ((e.set i .no).set i s') ((σ.set i none).set i o) H' := er2.sls.set (fun y f => ext.same.free (fr y f)) (fun y f k t q hk h1 h2 g => by
    rw [List.getElem?_set, if_neg (Ne.symm hk)] at h1 h2
    obtain ⟨⟨u, e1, _⟩, _⟩ := (bk hk h1 h2 g).stands (oth hk h1 h2)
    rw [fr y f] at e1; cases e1) hm
  have vr3 := er2.vr.set (i := i) (s := s') (o := o) sl
  rw [List.set_set, List.set_set, set_same hσ] at sls3 vr3
  exact ⟨er.sub0, vr3, ext.trans x, sls3⟩
/-- a list or dict that the name i holds for its own is changed -/
theorem ER.upd (er : ER K A0 H0 F0 e σ F H) {i : Nat} {d d' : Pan.D} {a : Addr} {o : HO} (he : e[i]? = some (.own d)) (hσ : σ[i]? = some (some (.ref a))) (hf : F a = none) (hs : SlotR K F (L2.upd H a o) (.own d') (some (.ref a))) : ER K A0 H0 F0 (e.set i (.own d')) σ F (L2.upd H a o) := by
  have sl := er.vr.slot i _ _ he hσ
  obtain ⟨⟨u, e1, e2, _, e4⟩, _⟩ := (show Foot H (.own d) (some (.ref a)) a from rfl).stands sl
  obtain ⟨sub, ext⟩ := er.without he hσ
  refine er.change he hσ ⟨⟨fun b v q n => ?_, fun b ps q => ?_, fun t => ?_⟩, Same.refl _, ?_, fun _ _ q => .inl q⟩ hs (fun y f => cut_in f) (fun ob b z _ => by cases z)
  · obtain ⟨n1, q⟩ := cut_some q
    rw [upd_ne (fun z => n1 z)]
    exact q
  · obtain ⟨n1, q⟩ := cut_some q
    exact ⟨ps, by rw [upd_ne (fun z => n1 z)]; exact q⟩
  · exact tabs_upd (t.ext (cut_same H _)) e1 e2 e4
  · refine ⟨fun b v q => ⟨(sub.at_ b v q).1, ?_⟩, tabs_upd er.vr.sub.tabs e1 e2 e4⟩
    rw [upd_ne (fun z => by rw [z, hf] at q; cases q)]
    exact er.vr.sub.at q
theorem VR.told {a : Addr} {o : HO} (v : VR K e σ F H) (hf : F a = none) (hH : H a = some o) (n : NoOwn H a e σ) (nt : nT o = true) : VR K e σ (L2.upd F a o) H := by
  refine ⟨⟨fun b u q => ?_, v.sub.tabs⟩, v.len, fun k s q h1 h2 => ?_⟩
  · by_cases z : b = a
    · subst z; rw [upd_same] at q; cases q; exact ⟨nt, .inl hH⟩
    · rw [upd_ne z] at q; exact v.sub.at_ b u q
  · have sl := v.slot k s q h1 h2
    have nf := n k s q h1 h2
    have g : Same F (L2.upd F a o) := same_tell hf
    cases s with
    | no => trivial
    | held c b => cases q <;> exact sl
    | val d =>
      cases q with
      | none => exact sl
      | some x => exact Rp.mono g sl
    | obj hm ob =>
      cases q with
      | none => exact sl.elim
      | some x =>
        cases x with
        | ref c =>
          obtain ⟨dx, da, ua, pv, nv, ds, us, z⟩ := sl
          have n1 : c ≠ a := fun z => nf (.inl z.symm)
          have n2 : da ≠ a := fun z' => nf (.inr ⟨_, _, _, _, _, _, z.ha, .inl z'.symm⟩)
          have n3 : ua ≠ a := fun z' => nf (.inr ⟨_, _, _, _, _, _, z.ha, .inr z'.symm⟩)
          exact ⟨dx, da, ua, pv, nv, ds, us, by rw [upd_ne n1]; exact z.fa, by rw [upd_ne n2]; exact z.fd, by rw [upd_ne n3]; exact z.fu, z.ha, z.hd, z.hu, z.ne, z.rp.mono g, z.rn.mono g, z.rd.mono g, z.ru.mono g⟩
        | _ => exact sl.elim
    | own d =>
      cases q with
      | none => cases d <;> first | exact sl.elim | (rename_i t _; cases t <;> exact sl.elim)
      | some x =>
        cases x with
        | ref c =>
          have hne : c ≠ a := fun z => nf z.symm
          cases d with
          | lst ds => obtain ⟨f, xs, e1, r⟩ := sl; exact ⟨by rw [upd_ne hne]; exact f, xs, e1, r.mono g⟩
          | dic t es =>
            cases t with
            | false => obtain ⟨f, xs, e1, r⟩ := sl; exact ⟨by rw [upd_ne hne]; exact f, xs, e1, r.mono g⟩
            | true => obtain ⟨f, xs, e1, r⟩ := sl; exact ⟨by rw [upd_ne hne]; exact f, xs, e1, r.mono g⟩
          | _ => exact sl.elim
        | _ => cases d <;> first | exact sl.elim | (rename_i t _; cases t <;> exact sl.elim)
/-- a name is forgotten -/
theorem ER.drop (er : ER K A0 H0 F0 e σ F H) (i : Nat) : ER K A0 H0 F0 (e.set i .no) (σ.set i none) F H :=
  ⟨er.sub0, er.vr.set (s := .no) (o := none) trivial, er.ext, er.sls.set0 rfl⟩
/-- what a name holds is not changed any more -/
theorem ER.frz (er : ER K A0 H0 F0 e σ F H) (i : Nat) : ∃ F', ER K A0 H0 F0 (frzE e i) σ F' H := by
  unfold frzE
  split
  · rename_i d he
    obtain ⟨a, hσ, sl⟩ := er.vr.getOwn he
    have h0 := er.sls.fresh i _ _ a he hσ rfl
    have nown : NotOwn H e σ i a := fun k s q hk h1 h2 f => hk (er.sls.apart k i s _ q _ a h1 he h2 hσ f rfl)
    have main : ∀ o : HO, F a = none → H a = some o → nT o = true → (Rp K (L2.upd F a o) (.ref a) d) → ∃ F', ER K A0 H0 F0 (e.set i (.val d)) σ F' H := by
      intro o hf hH nt rp
      have dr := er.drop i
      have no : NoOwn H a (e.set i .no) (σ.set i none) := fun k s q h1 h2 => by
        rw [List.getElem?_set] at h1 h2
        by_cases z : i = k
        · rw [if_pos z] at h1
          split at h1
          · cases h1; exact Foot.not rfl
          · cases h1
        · rw [if_neg z] at h1 h2
          exact nown k s q (Ne.symm z) h1 h2
      have er2 : ER K A0 H0 F0 (e.set i .no) (σ.set i none) (L2.upd F a o) H := ⟨er.sub0, dr.vr.told hf hH no nt, er.ext.tell er.sub0 h0 hH nt, dr.sls⟩
      have er3 := er2.val (i := i) rp
      rw [List.set_set, List.set_set, set_same hσ] at er3
      exact ⟨_, er3⟩
    cases d with
    | lst ds =>
      obtain ⟨f, xs, e1, r⟩ := sl
      exact main _ f e1 rfl (.lst upd_same (r.mono (same_tell f)))
    | dic t es =>
      cases t with
      | false =>
        obtain ⟨f, xs, e1, r⟩ := sl
        exact main _ f e1 rfl (.dK (.inl upd_same) (r.mono (same_tell f)))
      | true =>
        obtain ⟨f, xs, e1, r⟩ := sl
        exact main _ f e1 rfl (.dT (.inl upd_same) (r.mono (same_tell f)))
    | _ => exact sl.elim
  · exact ⟨F, er⟩
/-- what all names hold for their own -/
def Feet (H : Hp) (e : Env) (σ : St) (x : Addr) : Prop := ∃ (i : Nat) (s : Slot) (o : Option V), e[i]? = some s ∧ σ[i]? = some o ∧ Foot H s o x
/-- another ground: what stands now, but for the names' own -/
theorem ER.rebase (er : ER K A0 H0 F0 e σ F H) : ∃ Hb, ER K A0 Hb F e σ F H ∧ Ext F0 H0 F Hb := by
  have tb : LamX.Tabs TabsIn.T (cut H (Feet H e σ)) := fun p hp => by
    obtain ⟨ps, h1, h2, h3⟩ := er.vr.sub.tabs p hp
    have n1 : ¬ Feet H e σ p.1 := by
      rintro ⟨i, s, o, g1, g2, f⟩
      obtain ⟨⟨u, e1, e2, _⟩, _⟩ := f.stands (er.vr.slot i s o g1 g2)
      rw [h1] at e1; cases e1; cases e2
    refine ⟨ps, (cut_out n1).trans h1, h2, fun pos cv hc => ?_⟩
    obtain ⟨c, e1, e2⟩ := h3 pos cv hc
    refine ⟨c, e1, (cut_out ?_).trans e2⟩
    rintro ⟨i, s, o, g1, g2, f⟩
    obtain ⟨⟨u, e3, _, _, e4⟩, _⟩ := f.stands (er.vr.slot i s o g1 g2)
    rw [e2] at e3
    exact e4 _ _ (Option.some.inj e3).symm
  have sub : Sub F (cut H (Feet H e σ)) := ⟨fun x u q => ⟨(er.vr.sub.at_ x u q).1, by
    rw [cut_out]
    · exact er.vr.sub.at q
    · rintro ⟨i, s, o, h1, h2, f⟩
      have := (f.stands (er.vr.slot i s o h1 h2)).2
      rw [q] at this; cases this⟩, tb⟩
  have nf : ∀ {b : Addr} {u : HO}, H0 b = some u → ¬ Feet H e σ b := by
    rintro b u q ⟨i, s, o, h1, h2, f⟩
    rw [er.sls.fresh i s o b h1 h2 f] at q; cases q
  refine ⟨cut H (Feet H e σ), ⟨sub, er.vr, ⟨.of (cut_same H _), Same.refl _, er.vr.sub, fun _ _ q => .inl q⟩, ⟨fun i s o x h1 h2 f => cut_in ⟨i, s, o, h1, h2, f⟩, er.sls.apart, er.sls.home⟩⟩, ⟨fun b u q n => ?_, fun b ps q => ?_, fun t p hp => ?_⟩, er.ext.grow, sub, er.ext.new⟩
  · rw [cut_out (nf q)]
    exact er.ext.same.at q n
  · rw [cut_out (nf q)]
    exact er.ext.same.tb b ps q
  · exact tb p hp
/-- back to the former ground -/
theorem ER.back {Hb Fb : Hp} (x : Ext F0 H0 Fb Hb) (s : Sub F0 H0) (er : ER K A0 Hb Fb e σ F H) : ER K A0 H0 F0 e σ F H := ⟨s, er.vr, x.trans er.ext, ⟨fun i s o a h1 h2 f => x.same.free (er.sls.fresh i s o a h1 h2 f), er.sls.apart, er.sls.home⟩⟩
end
end Pan
namespace Pan
open PySem PySem.Spec L2
open PyProof.Rows hiding St
variable [TabsIn]
section
variable {X : Cx} {W : WX} {cl : Nat → Value} {st : Stmt} {rest : List Stmt} {pos : Pos} {r1 r2 : Env → R Fl} {a : Expr} {ra : Env → R D}
theorem Post.then {K : PySem.W.Frag} {A0 H0 F0 : Hp} {D : Ends} {x : R Fl} (h : Post K W cl A0 H0 F0 D (andThen x r2)) : Post K W cl A0 H0 F0 { D with nx := tS K W cl r2 D } x := by
  cases x with
  | ok f =>
    cases f with
    | nx e => exact fun σ F H er => ⟨A0, H0, F0, e, F, er, h⟩
    | rt d => exact h
    | ex c e => exact h
  | exc c => exact h
  | bad => exact h
theorem cs_nil : PSs X [] (tS X.K W cl fun e => .ok (.nx e)) := PSs.imp pss_nil fun D σ H _ h => by
  obtain ⟨A0, H0, F0, e, F, er, p⟩ := h
  exact p σ F H er
theorem cs_cons (h1 : PS X st (tS X.K W cl r1)) (h2 : PSs X rest (tS X.K W cl r2)) : PSs X (st :: rest) (tS X.K W cl fun e => andThen (r1 e) r2) := PSs.imp (pss_cons h1 h2) fun D σ H _ h => by
  obtain ⟨A0, H0, F0, e, F, er, p⟩ := h
  exact ⟨A0, H0, F0, e, F, er, p.then⟩
theorem cs_frz {sts : List Stmt} {i : Nat} (h : PSs X sts (tS X.K W cl r2)) : PSs X sts (tS X.K W cl fun e => andThen (.ok (.nx (frzE e i))) r2) := PSs.imp h fun D σ H _ q => by
  obtain ⟨A0, H0, F0, e, F, er, p⟩ := q
  obtain ⟨F', er'⟩ := er.frz i
  exact ⟨A0, H0, F0, _, F', er', p⟩
theorem cs_expr (ha : PE X a (tE X.K W cl ra)) (hs : swapsWith a none pos.line X.env = pure false) : PS X (.Expr a pos) (tS X.K W cl fun e => lift (ra e) e fun _ => .ok (.nx e)) := PS.imp (ps_expr ha hs) fun D σ H _ h => by
  obtain ⟨A0, H0, F0, e, F, er, p⟩ := h
  exact ⟨e, F, er.vr, (p.wp er).mono fun d F' H' x ⟨er', q⟩ v r => q σ F' H' er'⟩
theorem cs_ret (ha : PE X a (tE X.K W cl ra)) : PS X (.Return (some a) pos) (tS X.K W cl fun e => lift (ra e) e fun d => .ok (.rt d)) := PS.imp (ps_ret ha) fun D σ H _ h => by
  obtain ⟨A0, H0, F0, e, F, er, p⟩ := h
  exact ⟨e, F, er.vr, (p.wp er).mono fun d F' H' x ⟨er', q⟩ v r => q v F' H' er'.ext r⟩
theorem cs_pass : PS X (.Pass pos) (tS X.K W cl fun e => .ok (.nx e)) := PS.imp ps_pass fun D σ H _ h => by
  obtain ⟨A0, H0, F0, e, F, er, p⟩ := h
  exact p σ F H er
theorem ER.sets {K : PySem.W.Frag} {A0 H0 F0 F H : Hp} {Q : St → Hp → Prop} : ∀ (is : List Nat) {ds : List D} {vs : List V} {e e' : Env} {σ : St}, sets e is ds = some e' → Rps K F vs ds → ER K A0 H0 F0 e σ F H → (∀ σ', ER K A0 H0 F0 e' σ' F H → Q σ' H) → gNames is vs σ H Q
  | [], [], vs, e, e', σ, h, r, er, q => by
    cases r
    cases h
    exact ⟨rfl, q σ er⟩
  | [], _ :: _, _, _, _, _, h, _, _, _ => by cases h
  | _ :: _, [], _, _, _, _, h, _, _, _ => by cases h
  | i :: is, d :: ds, vs, e, e', σ, h, r, er, q => by
    cases r with
    | cons h1 r => exact ⟨_, _, rfl, ER.sets is (e := set1 e i d) h r (er.val h1) q⟩
theorem ER.asg {K : PySem.W.Frag} {A0 H0 F0 F H : Hp} {g : G} {d : D} {v : V} {e e' : Env} {σ : St} {Q : St → Hp → Prop} (h : asgG g d e = .ok e') (r : Rp K F v d) (er : ER K A0 H0 F0 e σ F H) (q : ∀ σ', ER K A0 H0 F0 e' σ' F H → Q σ' H) : gOf K g v σ H Q := by
  cases g with
  | name i => cases h; exact q _ (er.val r)
  | tup is =>
    have main : ∀ {a : Addr} {xs : List V} {ds : List D} {e2 : Env}, SqT K H a xs → Rps K F xs ds → Pan.sets e is ds = some e2 → (∀ σ', ER K A0 H0 F0 e2 σ' F H → Q σ' H) → gOf K (.tup is) (.ref a) σ H Q := by
      intro a xs ds e2 sq r he q
      refine ⟨a, xs, rfl, sq, ?_, ER.sets is he r er q⟩
      have : ∀ (is : List Nat) (ds : List D) (e e' : Env), Pan.sets e is ds = some e' → ds.length = is.length := by
        intro is
        induction is with
        | nil => intro ds e e' h; cases ds with
          | nil => rfl
          | cons _ _ => cases h
        | cons i is ih => intro ds e e' h; cases ds with
          | nil => cases h
          | cons d ds => simp only [List.length_cons]; rw [ih ds _ _ h]
      rw [r.length]
      exact this is ds e _ he
    cases r <;> simp only [asgG] at h <;> try cases h
    all_goals
      rename_i ea r
      split at h
      · rename_i e2 he
        cases h
        first | exact main (er.vr.sub.tup ea).sq r he q | exact main (SqT.of (er.vr.sub.prs ea)) r he q
      · cases h
  | lun is =>
    cases r <;> simp only [asgG] at h <;> try cases h
    rename_i ea r
    split at h
    · rename_i e2 he
      cases h
      refine ⟨_, _, rfl, SqL.of (er.vr.sub.lst ea), ?_, ER.sets is he r er q⟩
      have : ∀ (is : List Nat) (ds : List D) (e e' : Env), Pan.sets e is ds = some e' → ds.length = is.length := by
        intro is
        induction is with
        | nil => intro ds e e' h; cases ds with
          | nil => rfl
          | cons _ _ => cases h
        | cons i is ih => intro ds e e' h; cases ds with
          | nil => cases h
          | cons d ds => simp only [List.length_cons]; rw [ih ds _ _ h]
      rw [r.length]
      exact this is _ e _ he
    · cases h
theorem asgG_noexc {g : G} {d : D} {e : Env} {c : Nat} : asgG g d e ≠ .exc c := by
  cases g <;> cases d <;> simp only [asgG] <;> (try split) <;> simp
/-- target = value, by the value's wish and the target's -/
theorem imp_asg {K : PySem.W.Frag} {σ : St} {H : Hp} {D : Ends} {g : G} (h : tS K W cl (fun e => lift (ra e) e fun d => lift (asgG g d e) e fun e' => .ok (.nx e')) D σ H) : tAsg (tE K W cl ra) (gOf K g) D σ H := by
  obtain ⟨A0, H0, F0, e, F, er, p⟩ := h
  refine ⟨e, F, er.vr, (p.wp er).mono fun d F' H' x ⟨er', q⟩ v r => ?_⟩
  cases hg : asgG g d e with
  | bad => rw [hg] at q; exact q.elim
  | exc c => exact absurd hg asgG_noexc
  | ok e' => rw [hg] at q; exact ER.asg hg r er' fun σ' er2 => q σ' F' H' er2
theorem cs_asg {tg : Expr} {g : G} (ha : PE X a (tE X.K W cl ra)) (hg : PG X tg (gOf X.K g)) (hs : swapsWithSole [tg] a pos.line X.env = pure false) (hw : swappedStores [tg] a X.env = pure none) (h1 : (assignEach [tg] X.env).map (·.2) = [assign tg X.env]) :
    PS X (.Assign [tg] a pos) (tS X.K W cl fun e => lift (ra e) e fun d => lift (asgG g d e) e fun e' => .ok (.nx e')) :=
  PS.imp (ps_asg ha hg hs hw h1) fun D σ H _ h => imp_asg h
/-- name = a new list or dict that will be changed -/
theorem NotOwn.new {K : PySem.W.Frag} {F H H' : Hp} {e : Env} {σ : St} {b : Addr} (vr : VR K e σ F H) (sm : SameT H H') (h : H b = none) (i : Nat) : NotOwn H' e σ i b := fun k s o _ h1 h2 => vr.noOwnS sm h k s o h1 h2
theorem imp_mk {K : PySem.W.Frag} {σ : St} {H : Hp} {D : Ends} {i : Nat} (h : tS K W cl (fun e => lift (ra e) e fun d => .ok (.nx (e.set i (.own d)))) D σ H) : tAsg (tN K W cl ra) (gName i) D σ H := by
  obtain ⟨A0, H0, F0, e, F, er, p⟩ := h
  refine ⟨e, F, er.vr, (p.wp er).mono fun d F' H' x ⟨er', q⟩ b nb => ?_⟩
  exact q _ F' H' (er'.own (er.ext.same.free nb.1) nb.2 (NotOwn.new er.vr x.same nb.1 i))
theorem cs_if {c : Expr} {x y : List Stmt} {rc : Env → R D} {rx ry : Env → R Fl} (hc : PT X c (tT X.K W cl (tst rc))) (hx : PSs X x (tS X.K W cl rx)) (hy : PSs X y (tS X.K W cl ry)) :
    PS X (.If c x y pos) (tS X.K W cl fun e => lift (rc e) e fun d => match d with
      | .bl true => rx e
      | .bl false => ry e
      | _ => .bad) := PS.imp (ps_if hc hx hy) fun D σ H _ h => by
  obtain ⟨A0, H0, F0, e, F, er, p⟩ := h
  refine ⟨e, F, er.vr, ?_⟩
  have w := p.wp er
  show Wp W cl (rc e >>= asB) σ F H _
  cases hr : rc e with
  | bad => rw [hr] at w; exact w
  | exc c => rw [hr] at w; exact w
  | ok d =>
    rw [hr] at w
    cases d with
    | bl b =>
      intro F' H' x
      obtain ⟨er', q⟩ := w F' H' x
      cases b with
      | true => exact iteT ⟨A0, H0, F0, e, F', er', q⟩
      | false => exact iteF ⟨A0, H0, F0, e, F', er', q⟩
    | _ => exact (w F H (Ext.refl er.vr.sub)).2.elim
theorem cs_while {c : Expr} {b : List Stmt} {rc : Env → R D} {rb : Env → R Fl} {n : Nat} (hp : PassesOwn (model X.prog X.w) X.A X.env X.xe) (hc : PT X c (tT X.K W cl (tst rc))) (hb : PSs X b (tS X.K W cl rb)) :
    PS X (.While c b [] pos) (tS X.K W cl fun e => whlM rc rb n e) := PS.imp (ps_while hp hc hb) fun D σ H _ h => by
  obtain ⟨A0, H0, F0, e, F, er, p⟩ := h
  refine ⟨fun m σ H => ∃ e F, ER X.K A0 H0 F0 e σ F H ∧ Post X.K W cl A0 H0 F0 D (whlM rc rb m e), ⟨n, e, F, er, p⟩, fun m σ H hW => ?_⟩
  obtain ⟨e, F, er, p⟩ := hW
  cases m with
  | zero => exact p.elim
  | succ m =>
    refine ⟨e, F, er.vr, ?_⟩
    rw [whlM] at p
    have w := p.wp er
    show Wp W cl (rc e >>= asB) σ F H _
    cases hr : rc e with
    | bad => rw [hr] at w; exact w
    | exc c => rw [hr] at w; exact w
    | ok d =>
      rw [hr] at w
      cases d with
      | bl b =>
        intro F' H' x
        obtain ⟨er', q⟩ := w F' H' x
        cases b with
        | true =>
          refine iteT ⟨fun σ' H' => ∃ e F, ER X.K A0 H0 F0 e σ' F H' ∧ Post X.K W cl A0 H0 F0 D (whlM rc rb m e), fun σ' H' hN => ⟨m, Nat.lt_succ_self _, hN⟩, A0, H0, F0, e, F', er', ?_⟩
          have q : Post X.K W cl A0 H0 F0 D (andThen (rb e) (whlM rc rb m)) := q
          cases hf : rb e with
          | ok f =>
            rw [hf] at q
            cases f with
            | nx e2 => exact fun σ2 F2 H2 er2 => ⟨e2, F2, er2, q⟩
            | rt d => exact q
            | ex c e2 => exact q
          | exc c => rw [hf] at q; exact q
          | bad => rw [hf] at q; exact q
        | false => exact iteF (q σ F' H' er')
      | _ => exact (w F H (Ext.refl er.vr.sub)).2.elim
theorem cs_for {tg iter : Expr} {b : List Stmt} {g : G} {rit : Env → R (List D)} {rb : Env → R Fl} (hp : PassesOwn (model X.prog X.w) X.A X.env X.xe) (hc : X.calm = true) (hi : PI X tg iter (tIt X.K W cl rit)) (hg : PG X tg (gOf X.K g)) (hb : PSs X b (tS X.K W cl rb)) (hs : ∀ x, foldedSetIterable iter X.env x = pure x) :
    PS X (.For tg iter b [] pos) (tS X.K W cl fun e => lift (rit e) e fun ds => forM (fun d e1 => lift (asgG g d e1) e1 fun e2 => rb e2) ds e) := PS.imp (ps_for hp hc hi hg hb hs) fun D σ H _ h => by
  obtain ⟨A0, H0, F0, e, F, er, p⟩ := h
  refine ⟨e, F, er.vr, (p.wp er).mono fun ds F1 H1 x1 ⟨er1, q1⟩ J wk => ?_⟩
  obtain ⟨Hb, erb, xb⟩ := er1.rebase
  refine ⟨fun i m σ H => i + m = ds.length ∧ ∃ e F, ER X.K A0 Hb F1 e σ F H ∧ Post X.K W cl A0 H0 F0 D (forM (fun d e1 => lift (asgG g d e1) e1 fun e2 => rb e2) (ds.drop i) e), ⟨ds.length, by omega, e, F1, erb, q1⟩, fun i m σ2 H2 hW => ?_⟩
  obtain ⟨him, e2, F2, er2, q2⟩ := hW
  by_cases hlt : i < ds.length
  · have hd : ds[i]? = some ds[i] := List.getElem?_eq_getElem hlt
    have hdrop : ds.drop i = ds[i] :: ds.drop (i + 1) := List.drop_eq_getElem_cons hlt
    rw [hdrop, forM] at q2
    obtain ⟨hgo, hy⟩ := wk.go i ds[i] hd F2 H2 er2.ext.grow er2.vr.sub
    refine .inr ⟨hgo, fun σ' H' => ∃ e F, ER X.K A0 Hb F1 e σ' F H' ∧ Post X.K W cl A0 H0 F0 D (forM (fun d e1 => lift (asgG g d e1) e1 fun e2 => rb e2) (ds.drop (i + 1)) e), fun σ' H' hN => ⟨m - 1, by omega, by omega, hN⟩, fun x H' y => ?_⟩
    obtain ⟨F3, x3, rx⟩ := hy x H' y
    have er3 := er2.mono x3
    cases hg : asgG g ds[i] e2 with
    | bad => rw [hg] at q2; exact q2.elim
    | exc c => exact absurd hg asgG_noexc
    | ok e3 =>
      rw [hg] at q2
      have q3 : Post X.K W cl A0 H0 F0 D (andThen (rb e3) (forM (fun d e1 => lift (asgG g d e1) e1 fun e2 => rb e2) (ds.drop (i + 1)))) := q2
      refine ER.asg hg rx er3 fun σ4 er4 => ⟨A0, Hb, F1, e3, F3, er4, ?_⟩
      cases hf : rb e3 with
      | ok f =>
        rw [hf] at q3
        cases f with
        | nx e5 => exact fun σ5 F5 H5 er5 => ⟨e5, F5, er5, q3⟩
        | rt d => exact fun v F5 H5 x5 r5 => q3 v F5 H5 (xb.trans x5) r5
        | ex c e5 => exact fun σ5 F5 H5 er5 => q3 σ5 F5 H5 (er5.back xb er.sub0)
      | exc c => rw [hf] at q3; exact q3
      | bad => rw [hf] at q3; exact q3
  · have e0 : i = ds.length := by omega
    subst e0
    rw [List.drop_length] at q2
    exact .inl ⟨wk.stop F2 H2 er2.ext.grow er2.vr.sub, q2 σ2 F2 H2 (er2.back xb er.sub0)⟩
end
end Pan
namespace Pan
open PySem PySem.Spec L2
open PyProof.Rows hiding St
variable [TabsIn]
section
variable {X : Cx} {W : WX} {cl : Nat → Value} {pos p1 p2 ap cp ap2 cp2 : Pos} {a b : Expr} {ra rb : Env → R D} {i k : Nat} {x y : Str}
theorem few_one (hs : starEach [a] X.env = (false, eval a X.env) :: starEach [] X.env) : ((backTo cp (starEach [a] X.env)).all (fun x => !x.1) && (backToKw cp (keywordEach [] X.env)).all (fun x => x.1.isSome)
      && decide (([a] : List Expr).length + ([] : List Keyword).length + (if ([] : List Keyword).isEmpty then 0 else 1) < 30)) = true := by
  rw [hs]
  rfl
theorem cs_app (hN : X.N[i]? = some x) (hv : Vis X.env.scope x) (hd : (x == ("__debug__" : Str)) = false) (hcd : (x == ("__classdict__" : Str)) = false) (hs : starEach [a] X.env = (false, eval a X.env) :: starEach [] X.env) (hl : (ap.endLine == cp.line) = true) (ha : PE X a (tE X.K W cl ra)) :
    PS X (.Expr (.Call (.Attribute (.Name x p1) "append" ap) [a] [] cp) pos) (tS X.K W cl fun e => match e[i]? with
      | some (.own (.lst l)) => lift (ra e) e fun d => if l.length < sizeLine then .ok (.nx (e.set i (.own (.lst (l ++ [d]))))) else .bad
      | _ => .bad) := by
  refine PS.imp (ps_expr (pe_bm PySem.F.plainAttrs_list PySem.F.slot_list_append PySem.F.type_list_append mt_append (pe_var hN hv hd hcd) (pa_cons ha pa_nil hs) rfl (few_one hs) hl hs rfl) rfl) fun D σ H _ h => ?_
  obtain ⟨A0, H0, F0, e, F, er, p⟩ := h
  dsimp only at p
  split at p
  · rename_i l he
    obtain ⟨q, hσ, sl⟩ := er.vr.getOwn he
    obtain ⟨fq, xs, hH, r⟩ := sl
    refine ⟨.ref q, hσ, .inl ⟨rfl, xs, SqL.of hH⟩, e, F, er.vr, (p.wp er).mono fun d F' H' x1 ⟨er', p'⟩ v rv => ?_⟩
    split at p'
    · rename_i hlen
      have fq' : F' q = none := x1.keepNone fq hH (by intro _ z; cases z)
      refine ⟨q, xs, v, rfl, rfl, x1.same.at hH, by rw [r.length]; exact hlen, p' _ F' _ (er'.upd he hσ fq' ⟨fq', _, upd_same, (r.mono x1.grow).append (.cons rv .nil)⟩)⟩
    · exact p'.elim
  · exact p.elim
theorem cs_ext (hN : X.N[i]? = some x) (hv : Vis X.env.scope x) (hd : (x == ("__debug__" : Str)) = false) (hcd : (x == ("__classdict__" : Str)) = false) (hs : starEach [a] X.env = (false, eval a X.env) :: starEach [] X.env) (hl : (ap.endLine == cp.line) = true) (ha : PE X a (tE X.K W cl ra)) :
    PS X (.Expr (.Call (.Attribute (.Name x p1) "extend" ap) [a] [] cp) pos) (tS X.K W cl fun e => match e[i]? with
      | some (.own (.lst l)) => lift (ra e) e fun d => match d with
        | .lst m => if l.length + m.length ≤ sizeLine then .ok (.nx (e.set i (.own (.lst (l ++ m))))) else .bad
        | _ => .bad
      | _ => .bad) := by
  refine PS.imp (ps_expr (pe_bm PySem.F.plainAttrs_list PySem.F.slot_list_extend PySem.F.type_list_extend mt_extend (pe_var hN hv hd hcd) (pa_cons ha pa_nil hs) rfl (few_one hs) hl hs rfl) rfl) fun D σ H _ h => ?_
  obtain ⟨A0, H0, F0, e, F, er, p⟩ := h
  dsimp only at p
  split at p
  · rename_i l he
    obtain ⟨q, hσ, sl⟩ := er.vr.getOwn he
    obtain ⟨fq, xs, hH, r⟩ := sl
    refine ⟨.ref q, hσ, .inl ⟨rfl, xs, SqL.of hH⟩, e, F, er.vr, (p.wp er).mono fun d F' H' x1 ⟨er', p'⟩ v rv => ?_⟩
    have fq' : F' q = none := x1.keepNone fq hH (by intro _ z; cases z)
    cases rv with
    | lst eb rz =>
      simp only at p'
      split at p'
      · rename_i hlen
        refine ⟨q, _, xs, _, rfl, rfl, x1.same.at hH, x1.sub.lst eb, by rw [r.length, rz.length]; exact hlen, p' _ F' _ (er'.upd he hσ fq' ⟨fq', _, upd_same, (r.mono x1.grow).append rz⟩)⟩
      · exact p'.elim
    | _ => exact p'.elim
  · exact p.elim
/-- x.append(y.pop(a)) -/
theorem cs_apop (hik : i ≠ k) (hN : X.N[i]? = some x) (hv : Vis X.env.scope x) (hd : (x == ("__debug__" : Str)) = false) (hcd : (x == ("__classdict__" : Str)) = false) (hN2 : X.N[k]? = some y) (hv2 : Vis X.env.scope y) (hd2 : (y == ("__debug__" : Str)) = false) (hcd2 : (y == ("__classdict__" : Str)) = false)
    (hs : starEach [a] X.env = (false, eval a X.env) :: starEach [] X.env) (hl : (ap.endLine == cp.line) = true) (hl2 : (ap2.endLine == cp2.line) = true) (ha : PE X a (tE X.K W cl ra)) :
    PS X (.Expr (.Call (.Attribute (.Name x p1) "append" ap) [.Call (.Attribute (.Name y p2) "pop" ap2) [a] [] cp2] [] cp) pos) (tS X.K W cl fun e => match e[i]?, e[k]? with
      | some (.own (.lst l)), some (.own (.lst m)) => lift (ra e) e fun d => match d with
        | .int z => if 0 ≤ z then (match m[z.toNat]? with
          | some u => if l.length < sizeLine then .ok (.nx ((e.set k (.own (.lst (m.eraseIdx z.toNat)))).set i (.own (.lst (l ++ [u]))))) else .bad
          | none => .bad) else .bad
        | _ => .bad
      | _, _ => .bad) := by
  refine PS.imp (ps_expr (pe_bm PySem.F.plainAttrs_list PySem.F.slot_list_append PySem.F.type_list_append mt_append (pe_var hN hv hd hcd) (pa_cons (pe_bm PySem.F.plainAttrs_list PySem.F.slot_list_pop PySem.F.type_list_pop mt_popAt (pe_var hN2 hv2 hd2 hcd2) (pa_cons ha pa_nil hs) rfl (few_one hs) hl2 hs rfl) pa_nil rfl) rfl (few_one rfl) hl rfl rfl) rfl) fun D σ H gd h => ?_
  obtain ⟨A0, H0, F0, e, F, er, p⟩ := h
  dsimp only at p
  split at p
  · rename_i l m he hek
    obtain ⟨q, hσ, sl⟩ := er.vr.getOwn he
    obtain ⟨fq, xs, hH, r⟩ := sl
    obtain ⟨q2, hσ2, sl2⟩ := er.vr.getOwn hek
    obtain ⟨fq2, ys, hH2, r2⟩ := sl2
    have hne : q ≠ q2 := fun z => hik (er.sls.apart i k _ _ _ _ q he hek hσ hσ2 rfl z)
    refine ⟨.ref q, hσ, .inl ⟨rfl, xs, SqL.of hH⟩, .ref q2, hσ2, .inl ⟨rfl, ys, SqL.of hH2⟩, e, F, er.vr, (p.wp er).mono fun d F' H' x1 ⟨er', p'⟩ v rv => ?_⟩
    have fq' : F' q = none := x1.keepNone fq hH (by intro _ z; cases z)
    have fq2' : F' q2 = none := x1.keepNone fq2 hH2 (by intro _ z; cases z)
    cases rv with
    | int z =>
     simp only at p'
     split at p'
     · rename_i hz
       split at p'
       · rename_i u hu
         split at p'
         · rename_i hlen
           obtain ⟨vu, hvu, ru⟩ := (r2.mono x1.grow).get hu
           have hk : z.toNat < ys.length := (List.getElem?_eq_some_iff.mp hvu).1
           have hly : ys.length ≤ sizeLine := gd.lst q2 ys (SqL.of hH2)
           have hsz : (sizeLine : Nat) = 16777216 := by decide
           have hix : seqIndex? z ys.length = some z.toNat := (ixN_seq (n := ys.length) (i := z) (j := z.toNat) (by
             unfold ixN
             rw [if_pos hz, if_pos (by omega)])).1
           have er2 := er'.upd (o := .lst (ys.eraseIdx z.toNat)) (d' := .lst (m.eraseIdx z.toNat)) hek hσ2 fq2' ⟨fq2', _, upd_same, (r2.mono x1.grow).eraseIdx _⟩
           have he2 : (e.set k (.own (.lst (m.eraseIdx z.toNat))))[i]? = some (.own (.lst l)) := by
             rw [List.getElem?_set, if_neg (Ne.symm hik)]
             exact he
           refine ⟨q2, ys, z, z.toNat, vu, rfl, rfl, x1.same.at hH2, by omega, by omega, hix, hvu, q, xs, vu, rfl, rfl, ?_, by rw [r.length]; exact hlen, ?_⟩
           · rw [upd_ne hne]
             exact x1.same.at hH
           · exact p' _ F' _ (er2.upd he2 hσ fq' ⟨fq', _, upd_same, (r.mono x1.grow).append (.cons ru .nil)⟩)
         · exact p'.elim
       · exact p'.elim
     · exact p'.elim
    | _ => exact p'.elim
  · exact p.elim
/-- x[k] = v of a dict of this def's own -/
theorem cs_put {rv : Env → R D} (hu : X.A.units + 1 < cLine) (hN : X.N[i]? = some x) (hv : Vis X.env.scope x) (hd : (x == ("__debug__" : Str)) = false) (hcd : (x == ("__classdict__" : Str)) = false) (hk : PE X a (tE X.K W cl ra)) (hvv : PE X b (tE X.K W cl rv))
    (hs : swapsWith b (some (.Subscript (.Name x p1) a p2)) pos.line X.env = pure false) :
    PS X (.Assign [.Subscript (.Name x p1) a p2] b pos) (tS X.K W cl fun e => lift (rv e) e fun dv => match e[i]? with
      | some (.own (.dic t kvs)) => lift (ra e) e fun dk => if keyOf t dk && decide (kvs.length < sizeLine) then .ok (.nx (e.set i (.own (.dic t (dput dk dv kvs))))) else .bad
      | _ => .bad) := by
  refine PS.imp (PS.or (ps_dput hu (pe_var hN hv hd hcd) hk hvv hs) (ps_tput hu (pe_var hN hv hd hcd) hk hvv hs)) fun D σ H _ h => ?_
  obtain ⟨A0, H0, F0, e, F, er, p⟩ := h
  by_cases ht : ∃ kvs, e[i]? = some (.own (.dic true kvs))
  · obtain ⟨kvs, he⟩ := ht
    refine .inr ⟨e, F, er.vr, (p.wp er).mono fun dv F1 H1 x1 ⟨er1, p1⟩ vv rvv => ?_⟩
    rw [he] at p1
    obtain ⟨q, hσ, _⟩ := er1.vr.getOwn he
    refine ⟨.ref q, hσ, e, F1, er1.vr, (p1.wp er1).mono fun dk F2 H2 x2 ⟨er2, p2⟩ vk rk => ?_⟩
    split at p2
    · rename_i hc
      rw [Bool.and_eq_true] at hc
      have hlen := of_decide_eq_true hc.2
      have sl := er2.vr.slot i _ _ he hσ
      obtain ⟨f, kv, e1, r⟩ := sl
      obtain ⟨b', key, rfl, rfl, eb⟩ := keyT_of rk hc.1
      exact ⟨q, _, key, b', rfl, rfl, e1, r.keys er2.vr.sub, (er2.vr.sub.tup eb).sq, by rw [r.length]; exact hlen, p2 _ F2 _ (er2.upd he hσ f ⟨f, _, upd_same, dput_T key eb (rvv.mono x2.grow) r⟩)⟩
    · exact p2.elim
  · refine .inl ⟨e, F, er.vr, (p.wp er).mono fun dv F1 H1 x1 ⟨er1, p1⟩ vv rvv => ?_⟩
    split at p1
    · rename_i t kvs he
      obtain ⟨q, hσ, _⟩ := er1.vr.getOwn he
      refine ⟨.ref q, hσ, e, F1, er1.vr, (p1.wp er1).mono fun dk F2 H2 x2 ⟨er2, p2⟩ vk rk => ?_⟩
      split at p2
      · rename_i hc
        rw [Bool.and_eq_true] at hc
        have hlen := of_decide_eq_true hc.2
        have sl := er2.vr.slot i _ _ he hσ
        cases t with
        | false =>
          obtain ⟨f, kv, e1, r⟩ := sl
          obtain ⟨key, rfl, rfl⟩ := keyD_of rk hc.1
          exact ⟨q, _, rfl, DPut.k e1 (by rw [r.length]; exact hlen), p2 _ F2 _ (er2.upd he hσ f ⟨f, _, upd_same, dput_K key (rvv.mono x2.grow) r⟩)⟩
        | true => exact absurd ⟨kvs, he⟩ ht
      · exact p2.elim
    · exact p1.elim
/-- the class of an exception of the program's own, over ValueError -/
structure ExcAt (X : Cx) (x : Str) (u : Value) : Prop where
  ex : ∃ C, u = .ref C ∧ X.mg x = some (.ref C) ∧ PySem.W.excIn X.K C He.veBase "ValueError.__new__" = true ∧ PySem.W.keepIn X.K (.ref C) = true ∧ PySem.W.subIn X.K (.ref C) (.type "BaseException") = some true ∧ PySem.W.typeIn X.K (.ref C) = some (.type "type")
theorem cs_raise {m : Str} {jj : Nat} {c : Nat} (hc : X.calm = true) (tk : Takes X W) (hx : ExcAt X x (cl c)) (hg : Gl X x) (hd : (x == ("__debug__" : Str)) = false) :
    PS X (.Raise (some (.Call (.Name x p1) [.Constant (.str m) jj p2] [] cp)) none pos) (tS X.K W cl fun e => .ok (.ex c e)) := by
  obtain ⟨C, e1, gC, ex, kC, sC, tC⟩ := hx.ex
  refine PS.imp (ps_raise hc tk (pmk_own PySem.F.excBase_ValueError ex gC kC (raises_own sC tC) hg hd)) fun D σ H _ h => ?_
  obtain ⟨A0, H0, F0, e, F, er, p⟩ := h
  have := p σ F H er
  rw [e1] at this
  exact this
end
end Pan
namespace Pan
open PySem PySem.Spec L2
open PyProof.Rows hiding St
variable [TabsIn]
/-- values of which some are new lists or dicts (new since H) -/
inductive MR (K : PySem.W.Frag) (F' H' H : Hp) : List Bool → List V → List D → Prop
  | nil : MR K F' H' H [] [] []
  | val {v : V} {d : D} {os : List Bool} {vs : List V} {ds : List D} : Rp K F' v d → MR K F' H' H os vs ds → MR K F' H' H (false :: os) (v :: vs) (d :: ds)
  | own {a : Addr} {d : D} {os : List Bool} {vs : List V} {ds : List D} : H a = none → SlotR K F' H' (.own d) (some (.ref a)) → (∀ i : Nat, os[i]? = some true → vs[i]? ≠ some (.ref a)) → MR K F' H' H os vs ds → MR K F' H' H (true :: os) (.ref a :: vs) (d :: ds)
section
variable {K : PySem.W.Frag} {F' H' H H1 : Hp}
theorem MR.weak (s : SameT H H1) : ∀ {os : List Bool} {vs : List V} {ds : List D}, MR K F' H' H1 os vs ds → MR K F' H' H os vs ds
  | _, _, _, .nil => .nil
  | _, _, _, .val h r => .val h (MR.weak s r)
  | _, _, _, .own h1 h2 h3 r => .own (s.free h1) h2 h3 (MR.weak s r)
theorem MR.new {a : Addr} {o : HO} (h : H a = some o) : ∀ {os : List Bool} {vs : List V} {ds : List D}, MR K F' H' H os vs ds → ∀ i : Nat, os[i]? = some true → vs[i]? ≠ some (.ref a)
  | _, _, _, .nil, i, e => by simp at e
  | _, _, _, .val _ r, 0, e => by simp at e
  | _, _, _, .val _ r, i + 1, e => MR.new h r i (by simpa using e)
  | _, _, _, .own h1 _ _ r, 0, e => by
    intro z
    have : V.ref _ = V.ref a := Option.some.inj z
    cases this
    rw [h] at h1; cases h1
  | _, _, _, .own _ _ _ r, i + 1, e => MR.new h r i (by simpa using e)
theorem MR.length : ∀ {os : List Bool} {vs : List V} {ds : List D}, MR K F' H' H os vs ds → os.length = vs.length ∧ ds.length = vs.length
  | _, _, _, .nil => ⟨rfl, rfl⟩
  | _, _, _, .val _ r => by simp [(MR.length r).1, (MR.length r).2]
  | _, _, _, .own _ _ _ r => by simp [(MR.length r).1, (MR.length r).2]
end
def tAM (K : PySem.W.Frag) (W : WX) (cl : Nat → Value) (os : List Bool) (r : Env → R (List D)) : TA := fun σ H Q => ∃ e F, VR K e σ F H ∧ Wp W cl (r e) σ F H fun ds F' H' => ∀ vs, MR K F' H' H os vs ds → Q vs H'
section
variable {X : Cx} {W : WX} {cl : Nat → Value} {a : Expr} {es : List Expr} {ra : Env → R D} {rs : Env → R (List D)} {os : List Bool}
theorem cam_nil : PA X [] (tAM X.K W cl [] fun _ => .ok []) := PA.imp pa_nil fun σ H Q _ q => by
  obtain ⟨e, F, vr, w⟩ := q
  exact w.now vr.sub [] .nil
theorem cam_val (ha : PE X a (tE X.K W cl ra)) (hr : PA X es (tAM X.K W cl os rs)) (hs : starEach (a :: es) X.env = (false, eval a X.env) :: starEach es X.env) : PA X (a :: es) (tAM X.K W cl (false :: os) fun e => do let x ← ra e; let xs ← rs e; .ok (x :: xs)) := PA.imp (pa_cons ha hr hs) fun σ H Q _ q => by
  obtain ⟨e, F, vr, w⟩ := q
  refine ⟨e, F, vr, w.bind.mono fun x F1 H1 x1 w1 vx rx => ⟨e, F1, vr.mono x1, w1.bind.mono fun xs F2 H2 x2 w2 vs m => ?_⟩⟩
  exact w2.now x2.sub _ (.val (rx.mono x2.grow) (m.weak x1.same))
theorem cam_own (ha : PE X a (tN X.K W cl ra)) (hr : PA X es (tAM X.K W cl os rs)) (hs : starEach (a :: es) X.env = (false, eval a X.env) :: starEach es X.env) : PA X (a :: es) (tAM X.K W cl (true :: os) fun e => do let x ← ra e; let xs ← rs e; .ok (x :: xs)) := PA.imp (pa_cons ha hr hs) fun σ H Q _ q => by
  obtain ⟨e, F, vr, w⟩ := q
  refine ⟨e, F, vr, w.bind.mono fun x F1 H1 x1 w1 b nb => ⟨e, F1, vr.mono x1, w1.bind.mono fun xs F2 H2 x2 w2 vs m => ?_⟩⟩
  have ho : ∃ o, H1 b = some o := by
    have sl := nb.2
    cases x with
    | lst ds => obtain ⟨_, xs, e1, _⟩ := sl; exact ⟨_, e1⟩
    | dic t es => cases t <;> (obtain ⟨_, xs, e1, _⟩ := sl; exact ⟨_, e1⟩)
    | _ => exact sl.elim
  obtain ⟨o, ho⟩ := ho
  exact w2.now x2.sub _ (.own nb.1 (nb.2.mono x2) (m.new ho) (m.weak x1.same))
end
def setsV (σ : St) : List Nat → List V → St
  | i :: is, v :: vs => setsV (σ.set i (some v)) is vs
  | _, _ => σ
theorem ER.par {K : PySem.W.Frag} {A0 H0 F0 F' H' H : Hp} (hs : SameT H0 H) : ∀ {os : List Bool} {vs : List V} {ds : List D} {is : List Nat} {e e' : Env} {σ : St}, MR K F' H' H os vs ds → ER K A0 H0 F0 e σ F' H' → (∀ (i : Nat) (a : Addr), os[i]? = some true → vs[i]? = some (.ref a) → NoOwn H' a e σ) → parE e os is ds = .ok (.nx e') →
    ER K A0 H0 F0 e' (setsV σ is vs) F' H' ∧ is.length = vs.length
  | _, _, _, [], e, e', σ, .nil, er, hn, h => by
    cases h
    exact ⟨er, rfl⟩
  | _, _, _, _ :: _, e, e', σ, .nil, er, hn, h => by cases h
  | _, _, _, [], e, e', σ, .val _ _, er, hn, h => by cases h
  | _, _, _, [], e, e', σ, .own _ _ _ _, er, hn, h => by cases h
  | _, _, _, i :: is, e, e', σ, .val (v := v) (d := d) h1 r, er, hn, h => by
    have h : parE (e.set i (.val d)) _ is _ = .ok (.nx e') := h
    obtain ⟨q1, q2⟩ := ER.par hs r (er.val (i := i) h1) (fun k b h2 h3 => (hn (k + 1) b (by simpa using h2) (by simpa using h3)).set i (.val d) _ (Foot.not rfl)) h
    exact ⟨q1, by simp [q2]⟩
  | _, _, _, i :: is, e, e', σ, .own (a := a) (d := d) h1 h2 h3 r, er, hn, h => by
    have h : parE (e.set i (.own d)) _ is _ = .ok (.nx e') := h
    have no := hn 0 a rfl rfl
    have key : ∀ (k : Nat) (b : Addr), _ → _ → NoOwn H' b (e.set i (.own d)) (σ.set i (some (.ref a))) := fun k b h4 h5 => by
      have nb := hn (k + 1) b (by simpa using h4) (by simpa using h5)
      have hne : a ≠ b := fun z => h3 k h4 (by rw [h5, z])
      exact nb.set i (.own d) _ fun f => hne (show b = a from f).symm
    obtain ⟨q1, q2⟩ := ER.par hs r (er.own (i := i) (hs.free h1) h2 fun k t q _ h4 h5 => no k t q h4 h5) key h
    exact ⟨q1, by simp [q2]⟩
theorem parE_ok {e : Env} : ∀ {os : List Bool} {is : List Nat} {ds : List D} {e : Env} {K : PySem.W.Frag} {W : WX} {cl : Nat → Value} {A0 H0 F0 : Hp} {D : Ends}, Post K W cl A0 H0 F0 D (parE e os is ds) → ∃ e', parE e os is ds = .ok (.nx e')
  | [], [], [], e, _, _, _, _, _, _, _, p => ⟨e, rfl⟩
  | [], [], _ :: _, _, _, _, _, _, _, _, _, p => p.elim
  | [], _ :: _, _, _, _, _, _, _, _, _, _, p => p.elim
  | _ :: _, [], _, _, _, _, _, _, _, _, _, p => p.elim
  | _ :: _, _ :: _, [], _, _, _, _, _, _, _, _, p => p.elim
  | o :: os, i :: is, d :: ds, e, _, _, _, _, _, _, _, p => parE_ok (e := e.set i (if o then .own d else .val d)) (os := os) (is := is) (ds := ds) p
section
variable {X : Cx} {W : WX} {cl : Nat → Value} {pos pt pt2 : Pos} {kt k2 : Nat} {rs : Env → R (List D)} {os : List Bool} {is : List Nat}
/-- what all of these do: the values, then the names from the left -/
theorem par_wish {K : PySem.W.Frag} {σ : St} {H : Hp} {D : Ends} (h : tS K W cl (fun e => lift (rs e) e fun ds => parE e os is ds) D σ H) :
    tAM K W cl os rs σ H fun vs H1 => is.length = vs.length ∧ D.nx (setsV σ is vs) H1 ∧ ∀ p o, H1 p = none → D.nx (setsV σ is vs) (upd H1 p o) := by
  obtain ⟨A0, H0, F0, e, F, er, p⟩ := h
  refine ⟨e, F, er.vr, (p.wp er).mono fun ds F' H' x ⟨er', q⟩ vs m => ?_⟩
  obtain ⟨e', he⟩ := parE_ok (e := e) q
  have no : ∀ (i : Nat) (a : Addr), os[i]? = some true → vs[i]? = some (.ref a) → NoOwn H' a e σ := fun i a h1 h2 => by
    refine er.vr.noOwnS x.same ?_
    have : ∀ {os : List Bool} {vs : List V} {ds : List Pan.D} {i : Nat}, MR K F' H' H os vs ds → os[i]? = some true → vs[i]? = some (.ref a) → H a = none := by
      intro os vs ds i m
      induction m generalizing i with
      | nil => intro e; simp at e
      | val _ _ ih => cases i with
        | zero => intro e; simp at e
        | succ i => intro e1 e2; exact ih (by simpa using e1) (by simpa using e2)
      | own h1 _ _ _ ih => cases i with
        | zero => intro _ e2; cases (Option.some.inj e2); exact h1
        | succ i => intro e1 e2; exact ih (by simpa using e1) (by simpa using e2)
    exact this m h1 h2
  obtain ⟨er2, hl⟩ := ER.par er.ext.same m er' no he
  rw [he] at q
  exact ⟨hl, q _ F' H' er2, fun p o hp => q _ F' _ (er2.mono (Ext.made o er2.vr.sub hp))⟩
theorem gNames_sets {Q : St → Hp → Prop} {H : Hp} : ∀ {is : List Nat} {vs : List V} {σ : St}, is.length = vs.length → Q (setsV σ is vs) H → gNames is vs σ H Q
  | [], [], σ, _, q => ⟨rfl, q⟩
  | [], _ :: _, _, h, _ => by cases h
  | _ :: _, [], _, h, _ => by cases h
  | i :: is, v :: vs, σ, h, q => ⟨v, vs, rfl, gNames_sets (by simpa using h) q⟩
/-- a, b, .. = x, y, .. by a tuple -/
theorem cs_parT {ts vs : List Expr} (hg : PGs X ts (gNames is)) (hc : X.calm = true) (hn : (assignEach ts X.env).length = is.length) (hst : (assignEach ts X.env).findIdx? (·.1) = none) (ha : PA X vs (tAM X.K W cl os rs)) (hsz : is.length ≤ 1000)
    (hs : swapsWithSole [.Tuple ts kt pt] (.Tuple vs k2 pt2) pos.line X.env = pure false) (hw : swappedStores [.Tuple ts kt pt] (.Tuple vs k2 pt2) X.env = pure none) :
    PS X (.Assign [.Tuple ts kt pt] (.Tuple vs k2 pt2) pos) (tS X.K W cl fun e => lift (rs e) e fun ds => parE e os is ds) := by
  refine PS.imp (ps_asg (pe_tupF ha) (pg_tup hc hg hn hst) hs hw rfl) fun D σ H _ h => ?_
  obtain ⟨e, F, vr, w⟩ := par_wish h
  refine ⟨e, F, vr, w.mono fun ds F' H' x q vs m => ?_⟩
  obtain ⟨hl, _, q⟩ := q vs m
  have hz : (1000 : Nat) ≤ sizeLine := by decide
  refine ⟨by omega, fun p o hp ho => ⟨p, vs, rfl, (IsT.new ho).sq, hl.symm, gNames_sets hl (q p _ hp)⟩⟩
theorem cs_par2 {i j : Nat} {x y : Str} {a b : Expr} {px py : Pos} (hc : X.calm = true) (hN : X.N.Nodup) (hi : X.N[i]? = some x) (hj : X.N[j]? = some y) (hij : i ≠ j) (hx : X.env.scope.names.lookup x = some .local) (hy : X.env.scope.names.lookup y = some .local) (ha : PA X [a, b] (tAM X.K W cl os rs))
    (hw : swappedStores [.Tuple [.Name x px, .Name y py] kt pt] (.Tuple [a, b] k2 pt2) X.env = pure (some [x, y])) (hs : swapsWithSole [.Tuple [.Name x px, .Name y py] kt pt] (.Tuple [a, b] k2 pt2) pos.line X.env = pure false) :
    PS X (.Assign [.Tuple [.Name x px, .Name y py] kt pt] (.Tuple [a, b] k2 pt2) pos) (tS X.K W cl fun e => lift (rs e) e fun ds => parE e os [i, j] ds) := by
  refine PS.imp (ps_par hc hN hi hj hij hx hy ha hw hs) fun D σ H _ h => ?_
  obtain ⟨e, F, vr, w⟩ := par_wish h
  refine ⟨e, F, vr, w.mono fun ds F' H' z q vs m => ?_⟩
  obtain ⟨hl, q, _⟩ := q vs m
  match vs, hl, q with
  | [u, v], _, q => exact ⟨u, v, rfl, q⟩
theorem cs_par3 {i j l : Nat} {x y z : Str} {a b c : Expr} {px py pz : Pos} (hc : X.calm = true) (hN : X.N.Nodup) (hi : X.N[i]? = some x) (hj : X.N[j]? = some y) (hl : X.N[l]? = some z) (hij : i ≠ j) (hil : i ≠ l) (hjl : j ≠ l) (hx : X.env.scope.names.lookup x = some .local) (hy : X.env.scope.names.lookup y = some .local) (hz : X.env.scope.names.lookup z = some .local) (ha : PA X [a, b, c] (tAM X.K W cl os rs))
    (hw : swappedStores [.Tuple [.Name x px, .Name y py, .Name z pz] kt pt] (.Tuple [a, b, c] k2 pt2) X.env = pure (some [x, y, z])) (hs : swapsWithSole [.Tuple [.Name x px, .Name y py, .Name z pz] kt pt] (.Tuple [a, b, c] k2 pt2) pos.line X.env = pure false) :
    PS X (.Assign [.Tuple [.Name x px, .Name y py, .Name z pz] kt pt] (.Tuple [a, b, c] k2 pt2) pos) (tS X.K W cl fun e => lift (rs e) e fun ds => parE e os [i, j, l] ds) := by
  refine PS.imp (ps_par3 hc hN hi hj hl hij hil hjl hx hy hz ha hw hs) fun D σ H _ h => ?_
  obtain ⟨e, F, vr, w⟩ := par_wish h
  refine ⟨e, F, vr, w.mono fun ds F' H' z q vs m => ?_⟩
  obtain ⟨hl, q, _⟩ := q vs m
  match vs, hl, q with
  | [u, v, t], _, q => exact ⟨u, v, t, rfl, q⟩
end
end Pan
namespace Pan
open PySem PySem.Spec L2
open PyProof.Rows hiding St
variable [TabsIn]
mutual
/-- the names that are read as values -/
def leakE : E → List Nat
  | .var i => [i]
  | .ovar _ => []
  | .lit _ => []
  | .dnew _ => []
  | .bin _ a b => leakE a ++ leakE b
  | .neg a => leakE a
  | .not a => leakE a
  | .and es => leakEs es
  | .or es => leakEs es
  | .cmp _ a b => leakE a ++ leakE b
  | .chain _ _ a b c => leakE a ++ leakE b ++ leakE c
  | .ife c a b => leakE c ++ leakE a ++ leakE b
  | .tup es => leakEs es
  | .lst es => leakEs es
  | .ix a b => leakE a ++ leakE b
  | .sl a lo hi => leakE a ++ leakO lo ++ leakO hi
  | .rev a => leakE a
  | .call _ es => leakEs es
  | .callx _ w es => leakE w ++ leakEs es
  | .bi _ es => leakEs es
  | .mt _ o es => leakE o ++ leakEs es
  | .lc _ _ _ src t e => leakEs src ++ leakO t ++ leakE e
  | .dsp k v => leakE k ++ leakE v
  | .dc _ _ _ src t k v => leakEs src ++ leakO t ++ leakE k ++ leakE v
  | .lc2 _ _ _ src t _ _ _ src1 t1 e => leakEs src ++ leakO t ++ leakEs src1 ++ leakO t1 ++ leakE e
  | .fld _ _ => []
  | .fldl _ _ => []
  | .omt _ _ => []
  | .olen _ => []
  | .oeq _ _ _ => []
  | .oeqd _ e => leakE e
def leakEs : Es → List Nat
  | .nil => []
  | .cons e r => leakE e ++ leakEs r
def leakO : O → List Nat
  | .none => []
  | .some e => leakE e
end
def leakS : S → List Nat
  | .asg _ e => leakE e
  | .mk _ e => leakE e
  | .par _ _ es => leakEs es
  | .expr e => leakE e
  | .app _ e => leakE e
  | .ext _ e => leakE e
  | .apop _ _ e => leakE e
  | .put _ k v => leakE k ++ leakE v
  | .ife c _ _ => leakE c
  | .for_ _ _ src _ => leakEs src
  | .ret e => leakE e
  | _ => []
def muSlots (c : Sig) : List Nat := c.mu.filterMap fun x => c.N.findIdx? (· == x)
def leaks (c : Sig) (s : S) : List Nat := ((leakS s).filter fun i => (muSlots c).contains i).eraseDups
def frzs : List Nat → Ss → Ss
  | [], r => r
  | i :: is, r => .cons (.frz i) (frzs is r)
/-- whether name = comprehension stores within the comprehension's frame -/
def swL (L : Loc) (y : Str) (py : Pos) : Expr → Bool
  | .ListComp _ _ sc pos => decide (L.sc.names.lookup y = some .local) && (py.line == pos.line) && !(sc.names.any fun (n, k) => n == y && (k == .local || k == .cell))
  | .DictComp _ _ _ sc pos => decide (L.sc.names.lookup y = some .local) && (py.line == pos.line) && !(sc.names.any fun (n, k) => n == y && (k == .local || k == .cell))
  | _ => false
def isComp : Expr → Bool
  | .ListComp .. => true
  | .SetComp .. => true
  | .DictComp .. => true
  | _ => false
def isLC : Expr → Bool
  | .ListComp .. => true
  | .DictComp .. => true
  | _ => false
/-- a comprehension over a dict's keys -/
def lcKeys (c : Sig) : Expr → Bool
  | .ListComp _ [⟨_, it, _, _⟩] _ _ => (diName c it).isSome
  | _ => false
/-- which names a, b = x, y stores from the right -/
def swNames (L : Loc) (ts vs : List Expr) : Option (Option (List Str)) :=
  if !(ts.length == 2 || ts.length == 3) || vs.length != ts.length then some none else
  if vs.any fun | .Starred .. => true | _ => false then some none else
  let line := (ts.head?.map (·.pos.line)).getD 0
  let names := ts.filterMap fun
    | .Name id pos => if L.sc.names.lookup id == some .local && pos.line == line then some id else none
    | _ => none
  if names.length != ts.length || names.eraseDups.length != names.length then some none else
  if vs.all (foldedForSure 8) then some none else
  if vs.all (constantsAlone 8) then none else some (some names)
def namesOf : List Expr → Option (List Str)
  | [] => some []
  | .Name x _ :: r => (namesOf r).map (x :: ·)
  | _ => none
def ownOs (c : Sig) : List Str → Es → List Bool
  | x :: xs, .cons e r => (c.mu.contains x && isNewE e) :: ownOs c xs r
  | _, _ => []
def compPar (c : Sig) (L : Loc) (f : Expr → Option E) (ts vs : List Expr) : Option S := match namesOf ts, tgNs c L ts, compEs f vs, swNames L ts vs with
  | some xs, some is, some es, some none => when (decide (is.length ≤ 1000) && decide (ts.length = vs.length)) (some (.par (ownOs c xs es) is es))
  | some xs, some is, some es, some (some nm) => when (decide (nm = xs) && decide (is.Nodup) && decide (ts.length = vs.length) && (decide (is.length = 2) || decide (is.length = 3)) && xs.all fun x => decide (L.sc.names.lookup x = some .local)) (some (.par (ownOs c xs es) is es))
  | _, _, _, _ => none
def isPopOf : Expr → Option (Str × Pos × Expr × Pos)
  | .Call (.Attribute (.Name y _) m ap) [a] [] cp => if m == ("pop" : Str) then some (y, ap, a, cp) else none
  | _ => none
def oneS (c : Sig) (ex : List Str) (L : Loc) (f : Expr → Option E) (gs : List Stmt → Option Ss) : Stmt → Option S
  | .Assign [.Name x p] v _ => (match tgN c L x with
    | some i => (match v with
      | .Dict [] [] _ => when (c.mu.contains x) (some (.mk i (.dnew (c.tu.contains x))))
      | .SetComp .. => none
      | _ => when (!lcKeys c v) ((f v).map fun z => if c.mu.contains x && isNewE z then .mk i z else .asg (.name i) z))
    | none => none)
  | .Assign [.Tuple ts kt pt] v _ => (match v with
    | .Tuple vs _ _ => compPar c L f ts vs
    | .ListComp e1 g1 s1 p1 => o2 (fun g z => S.asg g z) ((tgNs c L ts).map G.lun) (f (.ListComp e1 g1 s1 p1))
    | _ => when (!isComp v) (o2 (fun g z => S.asg g z) ((tgNs c L ts).map G.tup) (f v)))
  | .Assign [.Subscript (.Name x _) k _] v _ => when (!isComp v) (o3 S.put (slotN c L x) (f k) (f v))
  | .Expr (.Call (.Attribute (.Name x _) m ap) [a] [] cp) _ =>
    when (ap.endLine == cp.line) (if m == ("append" : Str) then (match isPopOf a with
      | some (y, ap2, b, cp2) => when (ap2.endLine == cp2.line) (match o3 (fun i k z => (i, k, z)) (slotN c L x) (slotN c L y) (f b) with
        | some q => when (decide (q.1 ≠ q.2.1)) (some (.apop q.1 q.2.1 q.2.2))
        | none => none)
      | none => o2 S.app (slotN c L x) (f a))
      else if m == ("extend" : Str) then o2 S.ext (slotN c L x) (f a) else none)
  | .Expr e _ => when (!isComp e) ((f e).map S.expr)
  | .If t a b _ => when (!isIf t) (o3 S.ife (f t) (gs a) (gs b))
  | .While t b [] _ => when (!isIf t) (match f t, gs b with
    | some z, some s => when ((leakE z).all fun i => !(muSlots c).contains i) (some (.whl 4000 z s))
    | _, _ => none)
  | .For tg it b [] _ => when (!isSet it) (match compG c L tg, compI c L f tg it, gs b with
    | some g, some (k, src), some s => some (.for_ g k src s)
    | _, _, _ => none)
  | .Return (some e) _ => (f e).map S.ret
  | .Raise (some (.Call (.Name x _) [.Constant (.str _) _ _] [] _)) none _ => when (glob L x) ((ex.findIdx? (· == x)).map S.raise)
  | .Pass _ => some (.expr (.lit .non))
  | _ => none
def compSs (c : Sig) (ex : List Str) (L : Loc) (f : Expr → Option E) : Nat → List Stmt → Option Ss
  | 0, _ => none
  | _ + 1, [] => some .nil
  | n + 1, st :: r => (match oneS c ex L f (compSs c ex L f n) st, compSs c ex L f n r with
    | some s, some rs => some (frzs (leaks c s) (.cons s rs))
    | _, _ => none)
end Pan
namespace Pan
open PySem PySem.Spec L2
open PyProof.Rows hiding St
variable [TabsIn]
structure CtxS (c : Sig) (ex : List Str) (Γ : List FnR) (cl : Nat → Value) (j : Nat) (X : Cx) (L : Loc) (W : WX) : Prop where
  C : Ctx c Γ cl j X L W
  kind : L.sc.kind = .function
  exs : ∀ (i : Nat) (x : Str), ex[i]? = some x → ExcAt X x (cl i)
section
variable {c : Sig} {ex : List Str} {Γ : List FnR} {cl : Nat → Value} {j : Nat} {X : Cx} {L : Loc} {W : WX}
theorem PSc {st : Stmt} {r r' : Env → R Fl} (h : PS X st (tS X.K W cl r)) (hr : ∀ e, r e = r' e) : PS X st (tS X.K W cl r') := by rw [show r' = r from funext fun e => (hr e).symm]; exact h
theorem CtxS.block (S : CtxS c ex Γ cl j X L W) : X.env.blockKind = .function := by
  unfold PySem.Env.blockKind
  rw [S.C.sc, S.kind]
  rfl
theorem sw_none {e : Expr} (h : isComp e = false) (t : Option Expr) (l : Nat) (env : PySem.Env) : swapsWith e t l env = pure false := by
  cases e <;> first | rfl | cases h
theorem sw_comp (S : CtxS c ex Γ cl j X L W) {elt : Expr} {gs : List Comprehension} {sc : Scope} {pos py : Pos} {y : Str} {l : Nat} : swapsWith (.ListComp elt gs sc pos) (some (.Name y py)) l X.env = pure (swL L y py (.ListComp elt gs sc pos)) := by
  show (pure (X.env.blockKind == .function && X.env.kindOf y == some .local && py.line == pos.line && !(sc.names.any fun (n, k) => n == y && (k == .local || k == .cell))) : Sem Bool) = _
  rw [S.block]
  have e1 : X.env.kindOf y = L.sc.names.lookup y := by
    show X.env.scope.names.lookup y = _
    rw [S.C.sc]
  rw [e1]
  unfold swL
  congr 2
  congr 1
  by_cases h : L.sc.names.lookup y = some .local
  · rw [h]; rfl
  · rw [decide_eq_false h]
    have : (L.sc.names.lookup y == some .local) = false := by
      cases hh : L.sc.names.lookup y with
      | none => rfl
      | some k =>
        rw [hh] at h
        cases k <;> first | rfl | exact absurd rfl h
    rw [this]
    rfl
theorem sw_compD (S : CtxS c ex Γ cl j X L W) {kx vx : Expr} {gs : List Comprehension} {sc : Scope} {pos py : Pos} {y : Str} {l : Nat} : swapsWith (.DictComp kx vx gs sc pos) (some (.Name y py)) l X.env = pure (swL L y py (.DictComp kx vx gs sc pos)) :=
  sw_comp (elt := kx) (gs := gs) (sc := sc) (pos := pos) (py := py) (y := y) (l := l) S
theorem tgN_parts (C : Ctx c Γ cl j X L W) {x : Str} {i : Nat} (h : Pan.tgN c L x = some i) : X.N[i]? = some x ∧ L2.Loc X.env.scope x ∧ (X.fn x = true ∨ X.env.scope.names.lookup x = some .local) := by
  obtain ⟨h1, h2⟩ := when_some h
  rw [Bool.and_eq_true] at h1
  have hN : X.N[i]? = some x := by rw [C.N]; exact findIdx_get h2
  have q := h1.1
  split at q
  · rename_i e
    have e' : X.env.scope.names.lookup x = some .local := by rw [C.sc]; exact e
    exact ⟨hN, .inl e', .inr e'⟩
  · rename_i e
    have e' : X.env.scope.names.lookup x = some .cell := by rw [C.sc]; exact e
    exact ⟨hN, .inr e', .inl (C.fc x q)⟩
  · cases q
/-- a store of a value at a name, by the value's wish -/
theorem tAsg_imp {te te' : TE} {g : TG} {D : Ends} {σ : St} {H : Hp} (h : tAsg te g D σ H) (i : ∀ Q, te σ H Q → te' σ H Q) : tAsg te' g D σ H := i _ h
/-- name = [..]: what a comprehension asks, stored -/
theorem setLc_ok {n : Nat} (S : CtxS c ex Γ cl j X L W) {x : Str} {p pos : Pos} {i : Nat} {v : Expr} {z : E} (ht : Pan.tgN c L x = some i) (hz : compE c (n + 1) L v = some z) (hl : isLC v = true) (hkk : lcKeys c v = false) (hsw : swL L x p v = true) :
    PS X (.Assign [.Name x p] v pos) (tAsg (tN X.K W cl (ev (phi Γ) z)) (gName i)) := by
  have C := S.C
  obtain ⟨hN, hloc, hf⟩ := tgN_parts C ht
  have nd : X.N.Nodup := by rw [C.N]; exact C.nd
  have ih : IH c Γ cl j (compE c n) := compE_ok n
  cases v <;> simp only [isLC] at hl <;> try cases hl
  rotate_left
  · rename_i kx vx gs scope vp
    have hsw2 : swapsWith (.DictComp kx vx gs scope vp) (some (.Name x p)) pos.line X.env = pure true := by rw [sw_compD S, hsw]
    have hy : X.env.scope.names.lookup x = some .local := by
      simp only [swL, Bool.and_eq_true, decide_eq_true_eq] at hsw
      rw [C.sc]
      exact hsw.1.1
    have hz : stepE c (compE c n) L (.DictComp kx vx gs scope vp) = some z := hz
    rcases gs with _ | ⟨⟨tg, it, ifs, as⟩, gs⟩
    · simp [stepE] at hz
    · by_cases has : as = 0
      · subst has
        rcases gs with _ | ⟨g2, gs⟩
        · simp only [stepE] at hz
          obtain ⟨hb, h⟩ := when_some hz
          rw [Bool.and_eq_true] at hb
          have hset : isSet it = false := by simpa using hb.2
          split at h
          · rename_i g k src t b d h1 h2 h3 h4 h5
            obtain ⟨hw, h⟩ := when_some h
            cases h
            have ok : BlkOk X.N X.env.scope scope (ownOf c scope) := by
              rw [C.N, C.sc]
              exact blkOk_by hb.1
            refine PS.imp (ps_setDc C.calm nd hN hy hsw2 (iter_ok ih C h2) ok (fun s H D cs fp => tg_ok (C.blk scope s H D cs fp) h1) (fun s H D cs fp => tests_ok ih (C.blk scope s H D cs fp) h3) (fun s H D cs fp => (ih (C.blk scope s H D cs fp) h4).1.pe) (fun s H D cs fp => (ih (C.blk scope s H D cs fp) h5).1.pe) (set_of hset _)) fun D σ H _ q => tAsg_imp q fun Q q => imp_dc (mem_of_within hw) ?_
            rw [show (fun e => do let ds ← (do let ss ← evs (phi Γ) src e; itS k ss); let r ← (lcM ds (dcF g ((ownOf c scope).map (·.2)) (evT (phi Γ) t) (ev (phi Γ) b) (ev (phi Γ) d) e)).calm; R.ok (Pan.D.dic false (putAll r []))) = ev (phi Γ) (.dc ((ownOf c scope).map (·.2)) g k src t b d) from funext fun e => dc_sem e]
            exact q
          · cases h
        · simp [stepE] at hz
      · simp [stepE, has] at hz
  rename_i elt gs scope vp
  have hsw2 : swapsWith (.ListComp elt gs scope vp) (some (.Name x p)) pos.line X.env = pure true := by rw [sw_comp S, hsw]
  have hy : X.env.scope.names.lookup x = some .local := by
    simp only [swL, Bool.and_eq_true, decide_eq_true_eq] at hsw
    rw [C.sc]
    exact hsw.1.1
  have hz : stepE c (compE c n) L (.ListComp elt gs scope vp) = some z := hz
  rcases gs with _ | ⟨⟨tg, it, ifs, as⟩, gs⟩
  · simp [stepE] at hz
  · by_cases has : as = 0
    · subst has
      rcases gs with _ | ⟨⟨tg1, it1, ifs1, as1⟩, gs⟩
      · simp only [stepE] at hz
        obtain ⟨hb, h⟩ := when_some hz
        rw [Bool.and_eq_true] at hb
        have hset : isSet it = false := by simpa using hb.2
        split at h
        · rename_i g k src t b h1 h2 h3 h4
          obtain ⟨hw, h⟩ := when_some h
          cases h
          have ok : BlkOk X.N X.env.scope scope (ownOf c scope) := by
            rw [C.N, C.sc]
            exact blkOk_by hb.1
          have h2 : compI c L (compE c n L) tg it = some (k, src) := by
            have hd : diName c it = none := by
              have : (diName c it).isSome = false := hkk
              cases q : diName c it with
              | none => rfl
              | some _ => rw [q] at this; cases this
            unfold compIK at h2
            rw [hd] at h2
            exact h2
          refine PS.imp (ps_setLc C.calm nd hN hy hsw2 (iter_ok ih C h2) ok (fun s H D cs fp => tg_ok (C.blk scope s H D cs fp) h1) (fun s H D cs fp => tests_ok ih (C.blk scope s H D cs fp) h3) (fun s H D cs fp => (ih (C.blk scope s H D cs fp) h4).1.pe) (set_of hset _)) fun D σ H _ q => tAsg_imp q fun Q q => imp_lc (mem_of_within hw) ?_
          rw [show (fun e => do let ds ← (do let ss ← evs (phi Γ) src e; itS k ss); let r ← (lcM ds (lcF g ((ownOf c scope).map (·.2)) (evT (phi Γ) t) (ev (phi Γ) b) e)).calm; R.ok (Pan.D.lst r)) = ev (phi Γ) (.lc ((ownOf c scope).map (·.2)) g k src t b) from funext fun e => lc_sem e]
          exact q
        · cases h
      · by_cases has1 : as1 = 0
        · subst has1
          rcases gs with _ | ⟨g3, gs⟩
          · simp only [stepE] at hz
            obtain ⟨hb, h⟩ := when_some hz
            rw [Bool.and_eq_true, Bool.and_eq_true] at hb
            have hset : isSet it = false := by simpa using hb.1.2
            have hset1 : isSet it1 = false := by simpa using hb.2
            split at h
            · rename_i g k src t b g1 k1 src1 t1 h1 h2 h3 h4 h5 h6 h7
              obtain ⟨hw, h⟩ := when_some h
              rw [Bool.and_eq_true] at hw
              cases h
              have ok : BlkOk X.N X.env.scope scope (ownOf c scope) := by
                rw [C.N, C.sc]
                exact blkOk_by hb.1.1
              refine PS.imp (ps_setLc2 (vs1 := slotsG g1) C.calm nd hN hy hsw2 (iter_ok ih C h2) ok (mem_of_within hw.2) (fun s H D cs fp => tg_ok (C.blk scope s H D cs fp) h1) (fun s H D cs fp => tests_ok ih (C.blk scope s H D cs fp) h3)
                (fun s H D cs fp => iter_ok ih (C.blk scope s H D cs fp) h6) (fun s H D cs fp => tg_ok (C.blk scope s H D cs fp) h5) (fun s H D cs fp => tests_ok ih (C.blk scope s H D cs fp) h7) (fun s H D cs fp => (ih (C.blk scope s H D cs fp) h4).1.pe) (set_of hset _) (fun env => set_of hset1 env)) fun D σ H _ q => tAsg_imp q fun Q q => imp_lc2 (mem_of_within hw.1) (fun i hi => hi) ?_
              rw [show (fun e => do let ds ← (do let ss ← evs (phi Γ) src e; itS k ss); let r ← (lcM ds (lcF2 g ((ownOf c scope).map (·.2)) (evT (phi Γ) t) (fun en => do let ss ← evs (phi Γ) src1 en; itS k1 ss) g1 (slotsG g1) (evT (phi Γ) t1) (ev (phi Γ) b) e)).calm; fitL r Pan.D.lst) = ev (phi Γ) (.lc2 ((ownOf c scope).map (·.2)) g k src t (slotsG g1) g1 k1 src1 t1 b) from funext fun e => lc2_sem e]
              exact q
            · cases h
          · simp [stepE] at hz
        · simp [stepE, has1] at hz
    · simp [stepE, has] at hz
theorem isLC_comp {v : Expr} (h : isLC v = false) (h2 : ∀ e g s p, v ≠ .SetComp e g s p) : isComp v = false := by
  cases v <;> first | rfl | exact absurd rfl (h2 _ _ _ _) | cases h
/-- name = value -/
theorem setE_ok {n : Nat} (S : CtxS c ex Γ cl j X L W) {x : Str} {p pos : Pos} {i : Nat} {v : Expr} {z : E} (ht : Pan.tgN c L x = some i) (hz : compE c (n + 1) L v = some z) (hkk : lcKeys c v = false) (h2 : ∀ e g s p, v ≠ .SetComp e g s p) :
    PS X (.Assign [.Name x p] v pos) (tS X.K W cl (xs (phi Γ) (if c.mu.contains x && isNewE z then .mk i z else .asg (.name i) z))) := by
  have C := S.C
  obtain ⟨hN, hloc, hf⟩ := tgN_parts C ht
  have nd : X.N.Nodup := by rw [C.N]; exact C.nd
  obtain ⟨sz, _⟩ := compE_ok (c := c) (Γ := Γ) (cl := cl) (j := j) (n + 1) C hz
  have plain : swapsWith v (some (.Name x p)) pos.line X.env = pure false → PS X (.Assign [.Name x p] v pos) (tS X.K W cl (xs (phi Γ) (if c.mu.contains x && isNewE z then .mk i z else .asg (.name i) z))) := fun hsw => by
    cases hm : (c.mu.contains x && isNewE z) with
    | true =>
      rw [if_pos rfl]
      rw [Bool.and_eq_true] at hm
      exact PS.imp (ps_set nd hN hloc (sz.pn hm.2) hsw hf) fun D σ H _ q => imp_mk q
    | false =>
      rw [if_neg (by decide)]
      exact PS.imp (ps_set nd hN hloc sz.pe hsw hf) fun D σ H _ q => imp_asg (g := .name i) q
  cases hl : isLC v with
  | false => exact plain (sw_none (isLC_comp hl h2) _ _ _)
  | true =>
    cases hsw : swL L x p v with
    | false =>
      refine plain ?_
      cases v <;> simp only [isLC] at hl <;> try cases hl
      · rw [sw_comp S, hsw]
      · rw [sw_compD S, hsw]
    | true =>
      refine PS.imp (setLc_ok S ht hz hl hkk hsw) fun D σ H _ q => ?_
      cases hm : (c.mu.contains x && isNewE z) with
      | true =>
        rw [hm, if_pos rfl] at q
        exact imp_mk q
      | false =>
        rw [hm, if_neg (by decide)] at q
        exact tAsg_imp (imp_asg (g := .name i) q) fun Q q => tN_tE q
theorem sw_names (S : CtxS c ex Γ cl j X L W) {ts vs : List Expr} {r : Option (List Str)} {kt k2 : Nat} {pt p2 : Pos} (h : swNames L ts vs = some r) : swappedStores [.Tuple ts kt pt] (.Tuple vs k2 p2) X.env = pure r := by
  have hk : ∀ y, X.env.kindOf y = L.sc.names.lookup y := fun y => by
    show X.env.scope.names.lookup y = _
    rw [S.C.sc]
  unfold swNames at h
  unfold swappedStores
  simp only [hk, S.block]
  split at h
  · rename_i h1
    cases h
    have : (!(ts.length == 2 || ts.length == 3) || vs.length != ts.length || (ScopeKind.function != ScopeKind.function)) = true := by
      rw [show (ScopeKind.function != ScopeKind.function) = false from rfl, Bool.or_false]
      exact h1
    rw [if_pos this]
  · rename_i h1
    have : ¬ (!(ts.length == 2 || ts.length == 3) || vs.length != ts.length || (ScopeKind.function != ScopeKind.function)) = true := by
      rw [show (ScopeKind.function != ScopeKind.function) = false from rfl, Bool.or_false]
      exact h1
    rw [if_neg this]
    split at h
    · rename_i h2
      cases h
      exact if_pos h2
    · rename_i h2
      refine Eq.trans (if_neg h2) ?_
      dsimp only at h ⊢
      split at h
      · rename_i h3
        cases h
        exact if_pos h3
      · rename_i h3
        refine Eq.trans (if_neg h3) ?_
        split at h
        · rename_i h4
          cases h
          exact if_pos h4
        · rename_i h4
          refine Eq.trans (if_neg h4) ?_
          split at h
          · cases h
          · rename_i h5
            cases h
            exact if_neg h5
theorem args_mix {n : Nat} (C : Ctx c Γ cl j X L W) : ∀ {xs : List Str} {vs : List Expr} {es : Es}, compEs (compE c n L) vs = some es → xs.length = vs.length → PA X vs (tAM X.K W cl (ownOs c xs es) (evs (phi Γ) es))
  | [], [], es, h, _ => by
    cases h
    exact cam_nil
  | [], _ :: _, _, _, hl => by cases hl
  | _ :: _, [], _, _, hl => by cases hl
  | x :: xs, v :: vs, es, h, hl => by
    obtain ⟨a, r, h1, h2, rfl⟩ := o2_some h
    obtain ⟨sv, nv⟩ := compE_ok (c := c) (Γ := Γ) (cl := cl) (j := j) n C h1
    have ih := args_mix (xs := xs) C h2 (by simpa using hl)
    show PA X (v :: vs) (tAM X.K W cl ((c.mu.contains x && isNewE a) :: ownOs c xs r) _)
    cases hm : (c.mu.contains x && isNewE a) with
    | true =>
      rw [Bool.and_eq_true] at hm
      exact cam_own (sv.pn hm.2) ih (star_of nv)
    | false => exact cam_val sv.pe ih (star_of nv)
theorem names_len : ∀ {ts : List Expr} {xs : List Str}, namesOf ts = some xs → xs.length = ts.length
  | [], xs, h => by cases h; rfl
  | t :: ts, xs, h => by
    cases t <;> simp only [namesOf] at h <;> try cases h
    obtain ⟨r, h1, rfl⟩ := o1_some h
    simp [names_len h1]
theorem tgNs_len : ∀ {ts : List Expr} {is : List Nat}, tgNs c L ts = some is → is.length = ts.length
  | [], is, h => by cases h; rfl
  | t :: ts, is, h => by
    cases t <;> simp only [tgNs] at h <;> try cases h
    obtain ⟨i, r, _, h1, rfl⟩ := o2_some h
    simp [tgNs_len h1]
theorem len2 {α : Type} {l : List α} (h : l.length = 2) : ∃ a b, l = [a, b] := by
  match l, h with
  | [a, b], _ => exact ⟨a, b, rfl⟩
theorem len3 {α : Type} {l : List α} (h : l.length = 3) : ∃ a b c, l = [a, b, c] := by
  match l, h with
  | [a, b, c], _ => exact ⟨a, b, c, rfl⟩
theorem par_ok {n : Nat} (S : CtxS c ex Γ cl j X L W) {ts vs : List Expr} {s : Pan.S} {kt k2 : Nat} {pt p2 pos : Pos} (h : compPar c L (compE c n L) ts vs = some s) : PS X (.Assign [.Tuple ts kt pt] (.Tuple vs k2 p2) pos) (tS X.K W cl (xs (phi Γ) s)) := by
  have C := S.C
  unfold compPar at h
  split at h
  · rename_i xs is es h1 h2 h3 h4
    obtain ⟨hc, h⟩ := when_some h
    cases h
    simp only [Bool.and_eq_true, decide_eq_true_eq] at hc
    obtain ⟨q1, q2, q3⟩ := tgNs_ok C h2
    exact cs_parT q1 C.calm q2 q3 (args_mix C h3 (by rw [names_len h1, hc.2])) hc.1 rfl (sw_names S h4)
  · rename_i xs is es nm h1 h2 h3 h4
    obtain ⟨hc, h⟩ := when_some h
    cases h
    simp only [Bool.and_eq_true, Bool.or_eq_true, decide_eq_true_eq] at hc
    obtain ⟨⟨⟨⟨rfl, hnd⟩, hlen⟩, h23⟩, hloc⟩ := hc
    have am := args_mix (xs := nm) C h3 (by rw [names_len h1, hlen])
    have hsw := sw_names S (kt := kt) (k2 := k2) (pt := pt) (p2 := p2) h4
    have nd : X.N.Nodup := by rw [C.N]; exact C.nd
    have il := tgNs_len h2
    rw [List.all_eq_true] at hloc
    rcases h23 with hi | hi
    · obtain ⟨i1, i2, rfl⟩ := len2 hi
      obtain ⟨t1, t2, rfl⟩ := len2 (il.symm.trans hi)
      obtain ⟨v1, v2, rfl⟩ := len2 (hlen.symm.trans (il.symm.trans hi))
      cases t1 <;> simp only [namesOf] at h1 <;> try cases h1
      rename_i nx px
      cases t2 <;> simp only [namesOf] at h1 <;> try cases h1
      rename_i ny py
      obtain ⟨a1, r1, e1, e2, e3⟩ := o2_some h2
      obtain ⟨a2, r2, e4, e5, e6⟩ := o2_some e2
      cases e5; cases e6; cases e3
      have l1 : X.env.scope.names.lookup nx = some .local := by rw [C.sc]; exact of_decide_eq_true (hloc nx (by simp))
      have l2 : X.env.scope.names.lookup ny = some .local := by rw [C.sc]; exact of_decide_eq_true (hloc ny (by simp))
      exact cs_par2 C.calm nd (tgN_parts C e1).1 (tgN_parts C e4).1 (by simp at hnd; exact hnd) l1 l2 am hsw rfl
    · obtain ⟨i1, i2, i3, rfl⟩ := len3 hi
      obtain ⟨t1, t2, t3, rfl⟩ := len3 (il.symm.trans hi)
      obtain ⟨v1, v2, v3, rfl⟩ := len3 (hlen.symm.trans (il.symm.trans hi))
      cases t1 <;> simp only [namesOf] at h1 <;> try cases h1
      rename_i nx px
      cases t2 <;> simp only [namesOf] at h1 <;> try cases h1
      rename_i ny py
      cases t3 <;> simp only [namesOf] at h1 <;> try cases h1
      rename_i nz pz
      obtain ⟨a1, r1, e1, e2, e3⟩ := o2_some h2
      obtain ⟨a2, r2, e4, e5, e6⟩ := o2_some e2
      obtain ⟨a3, r3, e7, e8, e9⟩ := o2_some e5
      cases e8; cases e9; cases e6; cases e3
      have l1 : X.env.scope.names.lookup nx = some .local := by rw [C.sc]; exact of_decide_eq_true (hloc nx (by simp))
      have l2 : X.env.scope.names.lookup ny = some .local := by rw [C.sc]; exact of_decide_eq_true (hloc ny (by simp))
      have l3 : X.env.scope.names.lookup nz = some .local := by rw [C.sc]; exact of_decide_eq_true (hloc nz (by simp))
      simp at hnd
      exact cs_par3 C.calm nd (tgN_parts C e1).1 (tgN_parts C e4).1 (tgN_parts C e7).1 hnd.1.1 hnd.1.2 hnd.2 l1 l2 l3 am hsw rfl
  · cases h
theorem dnew_ok {t : Bool} {pos : Pos} : PE X (.Dict [] [] pos) (tN X.K W cl (ev (phi Γ) (.dnew t))) := by
  cases t with
  | false =>
    refine PE.imp pe_dnewK fun σ H Q _ q => ?_
    obtain ⟨e, F, vr, w⟩ := q
    exact fun p hp => w F _ (Ext.made (.dK []) vr.sub hp) p ⟨hp, vr.sub.none hp, _, upd_same, .nil⟩
  | true =>
    refine PE.imp pe_tnew fun σ H Q _ q => ?_
    obtain ⟨e, F, vr, w⟩ := q
    exact fun p hp => w F _ (Ext.made (dO p []) vr.sub hp) p ⟨hp, vr.sub.none hp, _, upd_same, .nil⟩
theorem pop_of {a : Expr} {y : Str} {ap cp : Pos} {b : Expr} (h : isPopOf a = some (y, ap, b, cp)) : ∃ p, a = .Call (.Attribute (.Name y p) "pop" ap) [b] [] cp := by
  unfold isPopOf at h
  split at h
  · split at h
    · rename_i m _ _ _ hm
      cases h
      have := beq_str hm
      subst this
      exact ⟨_, rfl⟩
    · cases h
  · cases h
theorem one_ok {n : Nat} {gs : List Stmt → Option Ss} (S : CtxS c ex Γ cl j X L W) (ig : ∀ {sts : List Stmt} {ss : Ss}, gs sts = some ss → PSs X sts (tS X.K W cl (xss (phi Γ) ss))) {st : Stmt} {s : Pan.S} (h : oneS c ex L (compE c (n + 1) L) gs st = some s) :
    PS X st (tS X.K W cl (xs (phi Γ) s)) := by
  have C := S.C
  have ih : IH c Γ cl j (compE c (n + 1)) := compE_ok (n + 1)
  have hu1 : X.A.units + 1 < cLine := by
    have := C.room.un
    omega
  unfold oneS at h
  split at h
  · rename_i x p v pos
    split at h
    · rename_i i hi
      split at h
      · obtain ⟨hm, h⟩ := when_some h
        cases h
        obtain ⟨hN, hloc, hf⟩ := tgN_parts C hi
        exact PS.imp (ps_set (by rw [C.N]; exact C.nd) hN hloc (dnew_ok (Γ := Γ)) rfl hf) fun D σ H _ q => imp_mk q
      · cases h
      · rename_i n1 n2
        obtain ⟨hkk, h⟩ := when_some h
        obtain ⟨z, h1, rfl⟩ := o1_some h
        exact setE_ok S hi h1 (by simpa using hkk) (fun e g s p e' => n2 e g s p e')
    · cases h
  · rename_i ts kt pt v pos
    split at h
    · exact par_ok S h
    · obtain ⟨g, z, h1, h2, rfl⟩ := o2_some h
      obtain ⟨is, h3, rfl⟩ := o1_some h1
      obtain ⟨q1, q2, q3⟩ := tgNs_ok C h3
      exact cs_asg (g := .lun is) (ih C h2).1.pe (pg_lst C.calm q1 q2 q3) rfl rfl rfl
    · rename_i nt _
      obtain ⟨hcv, h⟩ := when_some h
      obtain ⟨g, z, h1, h2, rfl⟩ := o2_some h
      obtain ⟨is, h3, rfl⟩ := o1_some h1
      obtain ⟨q1, q2, q3⟩ := tgNs_ok C h3
      refine cs_asg (ih C h2).1.pe (pg_tup C.calm q1 q2 q3) ?_ ?_ rfl
      · show swapsWith v (some (.Tuple ts kt pt)) pos.line X.env = pure false
        exact sw_none (by simpa using hcv) _ _ _
      · cases v <;> first | rfl | exact absurd rfl (nt _ _ _)
  · rename_i x p1 k p2 v pos
    obtain ⟨hcv, h⟩ := when_some h
    obtain ⟨i, zk, zv, h1, h2, h3, rfl⟩ := o3_some h
    obtain ⟨q1, q2, q3, q4⟩ := C.slotN h1
    exact cs_put hu1 q1 q2 q3 q4 (ih C h2).1.pe (ih C h3).1.pe (sw_none (by simpa using hcv) _ _ _)
  · rename_i x p1 m ap a cp pos
    obtain ⟨hl, h⟩ := when_some h
    split at h
    · rename_i hm
      have em := beq_str hm
      split at h
      · rename_i y ap2 b cp2 hp
        obtain ⟨hl2, h5⟩ := when_some h
        obtain ⟨p2, rfl⟩ := pop_of hp
        cases hq : o3 (fun i k z => (i, k, z)) (slotN c L x) (slotN c L y) (compE c (n + 1) L b) with
        | none => rw [hq] at h5; cases h5
        | some q =>
          rw [hq] at h5
          obtain ⟨hik, h6⟩ := when_some h5
          obtain ⟨i, k, z, h1, h2, h3, rfl⟩ := o3_some hq
          cases h6
          subst em
          obtain ⟨q1, q2, q3, q4⟩ := C.slotN h1
          obtain ⟨r1, r2, r3, r4⟩ := C.slotN h2
          obtain ⟨sz, nz⟩ := ih C h3
          exact cs_apop (of_decide_eq_true hik) q1 q2 q3 q4 r1 r2 r3 r4 (star_of nz) hl hl2 sz.pe
      · obtain ⟨i, z, h1, h2, rfl⟩ := o2_some h
        subst em
        obtain ⟨q1, q2, q3, q4⟩ := C.slotN h1
        obtain ⟨sz, nz⟩ := ih C h2
        exact cs_app q1 q2 q3 q4 (star_of nz) hl sz.pe
    · split at h
      · rename_i hm
        have em := beq_str hm
        obtain ⟨i, z, h1, h2, rfl⟩ := o2_some h
        subst em
        obtain ⟨q1, q2, q3, q4⟩ := C.slotN h1
        obtain ⟨sz, nz⟩ := ih C h2
        exact cs_ext q1 q2 q3 q4 (star_of nz) hl sz.pe
      · cases h
  · obtain ⟨hcv, h⟩ := when_some h
    obtain ⟨z, h1, rfl⟩ := o1_some h
    exact cs_expr (ih C h1).1.pe (sw_none (by simpa using hcv) _ _ _)
  · obtain ⟨hi, h⟩ := when_some h
    obtain ⟨z, a, b, h1, h2, h3, rfl⟩ := o3_some h
    exact PSc (cs_if ((ih C h1).1.pt (by simpa using hi)) (ig h2) (ig h3)) fun _ => rfl
  · obtain ⟨hi, h⟩ := when_some h
    split at h
    · rename_i z s' h1 h2
      obtain ⟨_, h⟩ := when_some h
      cases h
      exact PSc (cs_while C.pas ((ih C h1).1.pt (by simpa using hi)) (ig h2)) fun _ => rfl
    · cases h
  · obtain ⟨hi, h⟩ := when_some h
    split at h
    · rename_i g k src s' h1 h2 h3
      cases h
      refine PSc (cs_for C.pas C.calm (iter_ok ih C h2) (tg_ok C h1) (ig h3) (set_of (by simpa using hi) _)) fun e => ?_
      show lift (evs (phi Γ) src e >>= fun ss => itS k ss) e _ = lift (evs (phi Γ) src e) e _
      cases evs (phi Γ) src e <;> rfl
    · cases h
  · obtain ⟨z, h1, rfl⟩ := o1_some h
    exact cs_ret (ih C h1).1.pe
  · obtain ⟨hg, h⟩ := when_some h
    obtain ⟨i, h1, rfl⟩ := o1_some h
    obtain ⟨g, hd⟩ := C.glob hg
    exact cs_raise C.calm C.takes (S.exs i _ (findIdx_get h1)) g hd
  · cases h
    exact cs_pass
  · cases h
theorem frzs_ok {sts : List Stmt} {r : Ss} (h : PSs X sts (tS X.K W cl (xss (phi Γ) r))) : ∀ is : List Nat, PSs X sts (tS X.K W cl (xss (phi Γ) (frzs is r)))
  | [] => h
  | i :: is => cs_frz (frzs_ok h is)
theorem stmts_ok {n : Nat} (S : CtxS c ex Γ cl j X L W) : ∀ (m : Nat) {sts : List Stmt} {ss : Ss}, compSs c ex L (compE c (n + 1) L) m sts = some ss → PSs X sts (tS X.K W cl (xss (phi Γ) ss))
  | 0, _, _, h => by cases h
  | m + 1, [], ss, h => by cases h; exact cs_nil
  | m + 1, st :: r, ss, h => by
    rw [compSs] at h
    split at h
    · rename_i s rs h1 h2
      cases h
      exact frzs_ok (cs_cons (one_ok S (fun q => stmts_ok S m q) h1) (stmts_ok S m h2)) _
    · cases h
end
end Pan
namespace Pan
open PySem PySem.Spec L2
open PyProof.Rows hiding St
variable [TabsIn]
/-- a def's answer, as the module has it -/
structure FnG (P : Program) (w : World) (K : PySem.W.Frag) (mg : Str → Option Value) (base : Heap) (cl : Nat → Value) (j : Nat) (r : FnR) : Prop where
  ex : ∃ (f : Addr) (fd : FuncData) (ps : List Str) (k : Nat), ps.length = r.n ∧ k ≤ j ∧ FnOk P w K mg base (L2.CX P w) k f fd ps (spOf K cl r.n r.sem) ∧ mg r.name = some (.ref f) ∧ PySem.W.keepIn K (.ref f) = true ∧ Binds K fd ps []
theorem FnG.up {P : Program} {w : World} {K : PySem.W.Frag} {mg : Str → Option Value} {base : Heap} {cl : Nat → Value} {j k : Nat} {r : FnR} (h : FnG P w K mg base cl j r) (hk : j ≤ k) : FnG P w K mg base cl k r := by
  obtain ⟨f, fd, ps, l, h1, h2, h3⟩ := h.ex
  exact ⟨f, fd, ps, l, h1, Nat.le_trans h2 hk, h3⟩
/-- what the module's names are, for the defs -/
structure Glob (P : Program) (w : World) (K : PySem.W.Frag) (mg : Str → Option Value) (ex : List Str) (ci : List (Str × Int)) (cs : List (Str × Str)) (bl : List Str) (cl : Nat → Value) : Prop where
  ci : ∀ x i, ci.lookup x = some i → ∃ t, mg x = some (.int i t)
  cs : ∀ x s, cs.lookup x = some s → ∃ t, mg x = some (.str s t)
  bl : ∀ x, bl.contains x = true → mg x = none
  exs : ∀ (i : Nat) (x : Str), ex[i]? = some x → ∃ C, cl i = .ref C ∧ mg x = some (.ref C) ∧ PySem.W.excIn K C He.veBase "ValueError.__new__" = true ∧ PySem.W.keepIn K (.ref C) = true ∧ PySem.W.subIn K (.ref C) (.type "BaseException") = some true ∧ PySem.W.typeIn K (.ref C) = some (.type "type")
section
variable {P : Program} {w : World} {K : PySem.W.Frag} {mg : Str → Option Value} {base : Heap} {ex : List Str} {cl : Nat → Value} {j : Nat} {c : Sig} {Γ : List FnR}
theorem start_get {N : List Str} {vs : List V} {i : Nat} {o : Option V} (h : (start N vs)[i]? = some o) : (∃ v, vs[i]? = some v ∧ o = some v) ∨ (vs.length ≤ i ∧ o = none) := by
  unfold L2.start at h
  by_cases hi : i < vs.length
  · rw [List.getElem?_append_left (by rw [List.length_map]; exact hi), List.getElem?_map, List.getElem?_eq_getElem hi] at h
    cases h
    exact .inl ⟨_, List.getElem?_eq_getElem hi, rfl⟩
  · rw [List.getElem?_append_right (by rw [List.length_map]; omega), List.length_map] at h
    refine .inr ⟨by omega, ?_⟩
    rw [List.getElem?_replicate] at h
    split at h
    · cases h; rfl
    · cases h
theorem env_get {n : Nat} {ds : List D} {i : Nat} {s : Slot} (h : (ds.map Slot.val ++ List.replicate (n - ds.length) Slot.no)[i]? = some s) : (∃ d, ds[i]? = some d ∧ s = .val d) ∨ (ds.length ≤ i ∧ s = .no) := by
  by_cases hi : i < ds.length
  · rw [List.getElem?_append_left (by rw [List.length_map]; exact hi), List.getElem?_map, List.getElem?_eq_getElem hi] at h
    cases h
    exact .inl ⟨_, List.getElem?_eq_getElem hi, rfl⟩
  · rw [List.getElem?_append_right (by rw [List.length_map]; omega), List.length_map] at h
    refine .inr ⟨by omega, ?_⟩
    rw [List.getElem?_replicate] at h
    split at h
    · cases h; rfl
    · cases h
theorem er_start {N : List Str} {F H : Hp} {vs : List V} {ds : List D} (s : Sub F H) (r : Rps K F vs ds) : ER K (fun _ => none) H F (ds.map Slot.val ++ List.replicate (N.length - ds.length) Slot.no) (start N vs) F H where
  sub0 := s
  vr := by
    refine ⟨s, ?_, fun i sl o h1 h2 => ?_⟩
    · unfold L2.start
      rw [List.length_append, List.length_append, List.length_map, List.length_map, List.length_replicate, List.length_replicate, r.length]
    · rcases env_get h1 with ⟨d, hd, rfl⟩ | ⟨_, rfl⟩
      · obtain ⟨v, hv, rv⟩ := r.get hd
        rcases start_get h2 with ⟨v', hv', rfl⟩ | ⟨hl, _⟩
        · rw [hv] at hv'; cases hv'
          exact rv
        · have := (List.getElem?_eq_some_iff.mp hv).1
          omega
      · trivial
  ext := Ext.refl s
  sls := by
    have nm : ∀ {i : Nat} {s : Slot}, (ds.map Slot.val ++ List.replicate (N.length - ds.length) Slot.no)[i]? = some s → s.mine = false := fun {i s} h => by
      rcases env_get h with ⟨d', _, z⟩ | ⟨_, z⟩ <;> (subst z; rfl)
    exact ⟨fun i s o x h1 _ f => absurd f (Foot.not (nm h1)), fun i k s t o q x h1 _ _ _ f => absurd f (Foot.not (nm h1)), fun i ob a h1 _ => by cases nm h1⟩
/-- THE RULE: a def's resolved body answers as sem says; so the def does -/
theorem def_ok {x qual : Str} {params : Arguments} {body : List Stmt} {scope : Scope} {f : Addr} {fd : FuncData} {ps : List Str} {n m nn : Nat} {ss : Ss} {sem : List D → R D} (Gl : Glob P w K mg ex c.ci c.cs c.bl cl) (fx : ∀ r ∈ Γ, FnG P w K mg base cl j r) (hfn : c.fns = Γ.map fun r => (r.name, r.n)) (hob : c.ob = [])
    (F : FunD K x qual params body scope [] [] f fd) (S : FnScope c.N ps scope) (hc : compSs c ex ⟨scope, fun _ => true⟩ (compE c (nn + 1) ⟨scope, fun _ => true⟩) m body = some ss) (hn : ps.length = n)
    (hs : ∀ ds, ds.length = n → sem ds ≠ .bad → runF (phi Γ) c.N.length ss ds = sem ds) : FnOk P w K mg base (L2.CX P w) (j + 1) f fd ps (spOf K cl n sem) := by
  refine F.ok S (spOf_len hn) fun cdv A outer s H vs Q E hr h => ?_
  have ctx : CtxS c ex Γ cl j (cxOf (L2.CX P w) P w K mg base c.N qual scope f cdv A outer s H E) ⟨scope, fun _ => true⟩ (fun cls d _ H => E cls d H) := by
    refine ⟨⟨rfl, S.nd, rfl, fun _ _ => rfl, rfl, hr, takes_of rfl rfl rfl rfl, passes_of rfl, hfn, fun r hm => ⟨(fx r hm).ex⟩, Gl.ci, Gl.cs, Gl.bl, fun z => absurd hob z⟩, S.kind, fun i y hy => ?_⟩
    obtain ⟨C, h1, h2⟩ := Gl.exs i y hy
    exact ⟨C, h1, h2⟩
  refine ⟨_, stmts_ok ctx m hc, ?_⟩
  obtain ⟨F0, ds, hl, sub, r, q⟩ := h
  refine ⟨_, H, F0, _, F0, er_start (N := c.N) sub r, ?_⟩
  have e := hs ds hl (fun z => by rw [z] at q; exact q)
  unfold runF at e
  cases hx : xss (phi Γ) ss (ds.map Slot.val ++ List.replicate (c.N.length - ds.length) .no) with
  | bad => rw [hx] at e; rw [← e] at q; exact q
  | exc _ => rw [hx] at e; rw [← e] at q; exact q
  | ok fl =>
    rw [hx] at e
    cases fl with
    | nx e' =>
      rw [← e] at q
      exact fun σ F H' er => q .non F H' er.ext .non
    | rt d =>
      rw [← e] at q
      exact fun v F H' x rv => q v F H' x rv
    | ex cc e' =>
      rw [← e] at q
      exact fun σ F H' er => q H' er.ext.same
end
end Pan
namespace Pan
open PySem PySem.Spec L2
open PyProof.Rows hiding St
variable [TabsIn]
def faOf (gl bl : List Str) (ci : List (Str × Int)) (cs : List (Str × Str)) (ex : List Str) : List He.Fa :=
  gl.map .glo ++ (bl.map .free ++ (ci.map (fun p => .int p.1 p.2) ++ (cs.map (fun p => .str p.1 p.2) ++ ex.map .exc)))
section
variable {P : Program} {w : World} {K : PySem.W.Frag} {mg : Str → Option Value} {base h : Heap} {gl bl ex : List Str} {ci : List (Str × Int)} {cs : List (Str × Str)} {fn : List He.DefD}
theorem fa_in {fa : List He.Fa} (c : He.SaysD fa fn K) {f : He.Fa} (m : f ∈ fa) : f.ok K = true := by
  obtain ⟨i, hi⟩ := List.getElem?_of_mem m
  exact c.fact i hi
def clK (K : PySem.W.Frag) (ex : List Str) (i : Nat) : Value := .ref (He.ga K (ex.getD i ""))
theorem mem_of_lookup {α β : Type} [BEq α] [LawfulBEq α] {x : α} {y : β} : ∀ {l : List (α × β)}, l.lookup x = some y → (x, y) ∈ l
  | [], h => by cases h
  | (a, b) :: l, h => by
    rw [List.lookup_cons] at h
    split at h
    · rename_i e
      cases h
      rw [eq_of_beq e]
      exact List.mem_cons_self
    · exact List.mem_cons_of_mem _ (mem_of_lookup h)
theorem glob_of (X : K.In h) (G : h.Ns mainGlobals mg) (c : He.SaysD (faOf gl bl ci cs ex) fn K) (hg : ∀ x ∈ ex, x ∈ gl) : Glob P w K mg ex ci cs bl (clK K ex) where
  ci := fun x i e => He.int_ok X G (fa_in c (by
    unfold faOf
    simp only [List.mem_append, List.mem_map]
    exact .inr (.inr (.inl ⟨(x, i), mem_of_lookup e, rfl⟩))))
  cs := fun x i e => He.str_ok X G (fa_in c (by
    unfold faOf
    simp only [List.mem_append, List.mem_map]
    exact .inr (.inr (.inr (.inl ⟨(x, i), mem_of_lookup e, rfl⟩)))))
  bl := fun x e => He.free_ok X G (fa_in c (by
    unfold faOf
    simp only [List.mem_append, List.mem_map]
    exact .inr (.inl ⟨x, by simpa using e, rfl⟩)))
  exs := fun i x e => by
    have hm := List.mem_of_getElem? e
    have h1 := He.exc_ok (fa_in c (f := .exc x) (by
      unfold faOf
      simp only [List.mem_append, List.mem_map]
      exact .inr (.inr (.inr (.inr ⟨x, hm, rfl⟩)))))
    have h2 := He.glo_ok X G (fa_in c (f := .glo x) (by
      unfold faOf
      simp only [List.mem_append, List.mem_map]
      exact .inl ⟨x, hg x hm, rfl⟩))
    refine ⟨He.ga K x, ?_, h2, h1⟩
    unfold clK
    rw [List.getD_eq_getElem?_getD, e]
    rfl
/-- a def of the text -/
def ddOf (st : Stmt) (x : Str) : He.DefD := ⟨(x, none), x, x, defArgs st, defBody st, defScope st, [], []⟩
/-- what the defs rest on -/
structure Md (P : Program) (w : World) (K : PySem.W.Frag) (mg : Str → Option Value) (gl bl : List Str) (ci : List (Str × Int)) (cs : List (Str × Str)) (ex : List Str) (fn : List He.DefD) : Prop where
  in_ : ∃ h : Heap, K.In h ∧ h.Ns mainGlobals mg ∧ He.SaysD (faOf gl bl ci cs ex) fn K
  sub : ∀ x ∈ ex, x ∈ gl
theorem Md.glob (M : Md P w K mg gl bl ci cs ex fn) : Glob P w K mg ex ci cs bl (clK K ex) := by
  obtain ⟨h, X, G, c⟩ := M.in_
  exact glob_of X G c M.sub
theorem Md.def_ (M : Md P w K mg gl bl ci cs ex fn) {st : Stmt} {x : Str} (i : Nat) (hi : fn[i]? = some (ddOf st x)) (hx : gl.contains x = true) : ∃ fd, FunD K x x (defArgs st) (defBody st) (defScope st) [] [] (He.ga K x) fd ∧ mg x = some (.ref (He.ga K x)) := by
  obtain ⟨h, X, G, c⟩ := M.in_
  obtain ⟨fd, F⟩ := c.def_ i hi
  refine ⟨fd, F, He.glo_ok X G (fa_in c ?_)⟩
  unfold faOf
  simp only [List.mem_append, List.mem_map]
  exact .inl ⟨x, by simpa using hx, rfl⟩
def sigOf (N : List Str) (Γ : List FnR) (ci : List (Str × Int)) (cs : List (Str × Str)) (bl mu di tu : List Str) (ob : List Str := []) : Sig := ⟨N, Γ.map fun r => (r.name, r.n), ci, cs, bl, mu, di, tu, ob⟩
/-- resolved -/
def resolve (c : Sig) (ex : List Str) (st : Stmt) : Option Ss := compSs c ex ⟨defScope st, fun _ => true⟩ (compE c 30 ⟨defScope st, fun _ => true⟩) 40 (defBody st)
theorem def_g (M : Md P w K mg gl bl ci cs ex fn) {st : Stmt} {x : Str} {N ps mu di tu : List Str} {Γ : List FnR} {ss : Ss} {j : Nat} (i : Nat) (hi : fn[i]? = some (ddOf st x)) (hx : gl.contains x = true) (S : FnScope N ps (defScope st))
    (hc : resolve (sigOf N Γ ci cs bl mu di tu) ex st = some ss)
    (hb : ∀ (kV doc pm : Value) (an : Option Addr) (cdv ct : Value) (us : List Value), us.length = ps.length → bindArgs (PySem.W.fnOf x x (defArgs st) (defBody st) (defScope st) .none kV doc pm an cdv ct) ⟨us, []⟩ = pure (ps.zip us))
    (fx : ∀ r ∈ Γ, FnG P w K mg base (clK K ex) j r) : FnG P w K mg base (clK K ex) (j + 1) ⟨x, ps.length, runF (phi Γ) N.length ss⟩ := by
  obtain ⟨fd, F, hm⟩ := M.def_ i hi hx
  exact ⟨_, fd, ps, j + 1, rfl, Nat.le_refl _, def_ok (c := sigOf N Γ ci cs bl mu di tu) M.glob fx rfl rfl F S hc rfl (fun _ _ _ => rfl), hm, F.kp, F.bindsN hb⟩
theorem def_k (M : Md P w K mg gl bl ci cs ex fn) {st : Stmt} {x : Str} {N ps mu di tu : List Str} {Γ : List FnR} {ss : Ss} {j : Nat} {fd : FuncData} (F : FunD K x x (defArgs st) (defBody st) (defScope st) [] [] (He.ga K x) fd) (S : FnScope N ps (defScope st))
    (hc : resolve (sigOf N Γ ci cs bl mu di tu) ex st = some ss) (fx : ∀ r ∈ Γ, FnG P w K mg base (clK K ex) j r) : FnOk P w K mg base (L2.CX P w) (j + 1) (He.ga K x) fd ps (spOf K (clK K ex) ps.length (runF (phi Γ) N.length ss)) :=
  def_ok (c := sigOf N Γ ci cs bl mu di tu) M.glob fx rfl rfl F S hc rfl (fun _ _ _ => rfl)
end
theorem cx_false (P : Program) (w : World) (H : Hp) (s : Shared) (e : Value) (s' : Shared) (h : L2.CX P w [] H s (fun _ _ _ => False) e s') : False := by
  obtain ⟨_, _, _, _, _, _, _, _, _, _, _, _, z⟩ := h
  exact z
/-- all but the tables -/
def noTb (H : Hp) : Hp := fun x => match H x with
  | some (.tbl _) => none
  | u => u
theorem noTb_at {H : Hp} {a : Addr} {u : HO} (h : H a = some u) (n : nT u = true) : noTb H a = some u := by
  unfold noTb
  rw [h]
  cases u <;> first | rfl | cases n
theorem noTb_sub (H : Hp) (ht : LamX.Tabs TabsIn.T H) : Sub (noTb H) H := ⟨fun a u e => by
  unfold noTb at e
  split at e
  · cases e
  · rename_i n
    refine ⟨?_, .inl e⟩
    cases u <;> first | rfl | exact absurd e (n _), ht⟩
theorem noTb_seq {K : PySem.W.Frag} {H : Hp} {a : Addr} {xs : List V} (h : SqL K H a xs) : SqL K (noTb H) a xs := by
  rcases h with (h | ⟨o, h⟩) | h
  · exact .inl (.inl (noTb_at h rfl))
  · exact .inl (.inr ⟨o, noTb_at h rfl⟩)
  · exact .inr h
/-- the law's def: a script of at most n ints -/
theorem sp_law {K : PySem.W.Frag} {cl : Nat → Value} {n : Nat} {sem : List D → R D} (h : ∀ ns : List Int, ns.length ≤ n → sem [.scr ns] = .ok (.bl true)) (H : Hp) (a : Addr) (ns : List Int) (hl : ns.length ≤ n) (hS : SqL K H a (ns.map V.int)) (ht : LamX.Tabs TabsIn.T H := by exact fun p hp => nomatch hp) :
    spOf K cl 1 sem [.ref a] H (fun v _ => v = .bl true) fun _ _ _ => False := by
  refine ⟨noTb H, [.scr ns], rfl, noTb_sub H ht, .cons (.scr (noTb_seq hS)) .nil, ?_⟩
  rw [h ns hl]
  intro v F' H' _ r
  cases r
  rfl
end Pan
namespace Pan
open PySem PySem.Spec L2
open PyProof.Rows hiding St
variable [TabsIn]
inductive HX where
  | isi (j : Nat)
  | var (i : Nat)
  | lst1 (a : HX)
  | lst2 (a b : HX)
  | lst3 (a b c : HX)
  | add (a b : HX)
  | idx (a : HX)
  /-- p if isinstance(e, class j) else q -/
  | ifi (j : Nat) (p q : D)
  /-- name if isinstance(e, class j) else None -/
  | ifv (j i : Nat)
  /-- ("z", x) -/
  | tupc (z : Str) (a : HX)
def isiR (a cc ei j : Nat) (e : Env) : R D := match e[ei]? with
  | some (.held c b) => if c = cc ∧ b = a then .ok (.bl (cc == j)) else .bad
  | _ => .bad
def evX (a cc ei : Nat) : HX → Env → R D
  | .isi j, e => isiR a cc ei j e
  | .var i, e => getV e i
  | .lst1 x, e => do let xs ← (do let p ← evX a cc ei x e; let r ← (.ok [] : R (List D)); .ok (p :: r)); fitL xs .lst
  | .lst2 x y, e => do let xs ← (do let p ← evX a cc ei x e; let r ← (do let p ← evX a cc ei y e; let r ← (.ok [] : R (List D)); .ok (p :: r)); .ok (p :: r)); fitL xs .lst
  | .lst3 x y z, e => do let xs ← (do let p ← evX a cc ei x e; let r ← (do let p ← evX a cc ei y e; let r ← (do let p ← evX a cc ei z e; let r ← (.ok [] : R (List D)); .ok (p :: r)); .ok (p :: r)); .ok (p :: r)); fitL xs .lst
  | .add x y, e => do let p ← evX a cc ei x e; let q ← evX a cc ei y e; binS .Add p q
  | .idx x, e => do let p ← evX a cc ei x e; if mtOk .index p then do let q ← (.ok (.bl true) : R D); mtS .index p [q] else .bad
  | .ifi j p q, e => do let x ← isiR a cc ei j e; let t ← asB x; if t then .ok p else .ok q
  | .ifv j i, e => do let x ← isiR a cc ei j e; let t ← asB x; if t then getV e i else .ok .non
  | .tupc z x, e => do let xs ← (do let p ← (.ok (.str z) : R D); let r ← (do let p ← evX a cc ei x e; let r ← (.ok [] : R (List D)); .ok (p :: r)); .ok (p :: r)); fitL xs .tup
def hRun (a cc ei : Nat) : List (Nat × HX) → HX → Env → R Fl
  | [], r, e => lift (evX a cc ei r e) e fun d => .ok (.rt d)
  | (i, x) :: l, r, e => andThen (lift (evX a cc ei x e) e fun d => lift (asgG (.name i) d e) e fun e' => .ok (.nx e')) (hRun a cc ei l r)
/-- what the classes of a program say of one another -/
structure Errs (K : PySem.W.Frag) (mg : Str → Option Value) (es : List Nat) (cl : Nat → Value) (B : Addr) : Prop where
  base : mg "PaneError" = some (.ref B)
  exc : ∀ (i : Nat), i ∈ es → ∃ C, cl i = .ref C ∧ ExcC K C
  is : ∀ (i j : Nat), i ∈ es → j ∈ es → PySem.W.kitOne K (cl i) (cl j) = some (i == j)
  sub : ∀ (i : Nat), i ∈ es → PySem.W.exmOne K (cl i) (.ref B) = some true
section
variable {c : Sig} {ex : List Str} {es : List Nat} {Γ : List FnR} {cl : Nat → Value} {j : Nat} {X : Cx} {L : Loc} {W : WX} {en : Str} {ei cc : Nat} {a C B : Addr} {oe : Obj} {pn : List (Addr × Obj)}
theorem ER.held {K : PySem.W.Frag} {A0 H0 F0 F H : Hp} {e : Env} {σ : St} (er : ER K A0 H0 F0 e σ F H) (i cc a : Nat) : ER K A0 H0 F0 (e.set i (.held cc a)) (σ.set i (some (.ref a))) F H :=
  ⟨er.sub0, er.vr.set (s := .held cc a) (o := some (.ref a)) rfl, er.ext, er.sls.set0 rfl⟩
end
section
variable {P : Program} {w : World} {K : PySem.W.Frag} {mg : Str → Option Value} {base : Heap} {ex : List Str} {es : List Nat} {cl : Nat → Value} {j : Nat} {c : Sig} {Γ : List FnR} {B : Addr} {en : Str} {ei : Nat}
def preF (Φ : Nat → List D → R D) (k : Env → R Fl) : List S → Env → R Fl
  | [], e => k e
  | s :: l, e => andThen (xs Φ s e) (preF Φ k l)
def compPre (c : Sig) (ex : List Str) (L : Loc) (f : Expr → Option E) : List Stmt → Option (List S)
  | [] => some []
  | st :: r => o2 (fun s l => s :: l) (oneS c ex L f (fun _ => none) st) (compPre c ex L f r)
theorem pre_ok {X : Cx} {W : WX} {L : Loc} {n : Nat} (S : CtxS c ex Γ cl j X L W) {b : List Stmt} {k : Env → R Fl} (hb : PSs X b (tS X.K W cl k)) : ∀ {pre : List Stmt} {l : List Pan.S}, compPre c ex L (compE c (n + 1) L) pre = some l → PSs X (pre ++ b) (tS X.K W cl (preF (phi Γ) k l))
  | [], l, h => by cases h; exact hb
  | st :: r, l, h => by
    obtain ⟨s, l', h1, h2, rfl⟩ := o2_some h
    exact cs_cons (one_ok S (fun z => by cases z) h1) (pre_ok S hb h2)
/-- a def's answer by how its body ends -/
def ansF : R Fl → R D
  | .ok (.nx _) => .ok .non
  | .ok (.rt d) => .ok d
  | .ok (.ex c _) => .exc c
  | _ => .bad
end
end Pan
namespace Pan
open PySem PySem.Spec L2
open PyProof.Rows hiding St
variable [TabsIn]
section
variable {P : Program} {w : World} {K : PySem.W.Frag} {mg : Str → Option Value} {base : Heap} {ex : List Str} {cl : Nat → Value} {j : Nat} {c : Sig} {Γ : List FnR}
theorem def_bad_ok {x qual : Str} {params : Arguments} {body : List Stmt} {scope : Scope} {f : Addr} {fd : FuncData} {N ps : List Str} {n : Nat} (F : FunD K x qual params body scope [] [] f fd) (S : FnScope N ps scope) (hn : ps.length = n) : FnOk P w K mg base (L2.CX P w) (j + 1) f fd ps (spOf K cl n fun _ => .bad) := by
  refine F.ok S (spOf_len hn) fun cdv A outer s H vs Q E hr h => ?_
  obtain ⟨_, _, _, _, _, q⟩ := h
  exact q.elim
end
end Pan
namespace Pan
open PySem PySem.Spec L2
open PyProof.Rows hiding St
variable [TabsIn]
section
variable {P : Program} {w : World} {K : PySem.W.Frag} {mg : Str → Option Value} {base h : Heap} {gl bl ex : List Str} {es : List Nat} {ci : List (Str × Int)} {cs : List (Str × Str)} {fn : List He.DefD}
theorem isi_at {a cc ei j : Nat} {e : Env} (h : e[ei]? = some (.held cc a)) : isiR a cc ei j e = .ok (.bl (cc == j)) := by
  unfold isiR
  rw [h]
  exact if_pos ⟨rfl, rfl⟩
/-- nothing is told of a def -/
theorem def_b (M : Md P w K mg gl bl ci cs ex fn) {st : Stmt} {x : Str} {N ps : List Str} {j : Nat} (i : Nat) (hi : fn[i]? = some (ddOf st x)) (hx : gl.contains x = true) (S : FnScope N ps (defScope st))
    (hb : ∀ (kV doc pm : Value) (an : Option Addr) (cdv ct : Value) (us : List Value), us.length = ps.length → bindArgs (PySem.W.fnOf x x (defArgs st) (defBody st) (defScope st) .none kV doc pm an cdv ct) ⟨us, []⟩ = pure (ps.zip us)) : FnG P w K mg base (clK K ex) (j + 1) ⟨x, ps.length, fun _ => .bad⟩ := by
  obtain ⟨fd, F, hm⟩ := M.def_ i hi hx
  exact ⟨_, fd, ps, j + 1, rfl, Nat.le_refl _, def_bad_ok F S rfl, hm, F.kp, F.bindsN hb⟩
/-- one answer for the class j, another one for the others -/
def hansI (es : List Nat) (j : Nat) (p q : D) (cc : Nat) : R D := if es.contains cc then .ok (if cc == j then p else q) else .bad
theorem hI {es : List Nat} {j ei N cc : Nat} {p q d : D} (h1 : ei < N) (h : hansI es j p q cc = .ok d) : cc ∈ es ∧ ∀ (a : Nat) (e : Env), e.length = N → hRun a cc ei [] (.ifi j p q) (e.set ei (.held cc a)) = .ok (.rt d) := by
  unfold hansI at h
  split at h
  · rename_i hc
    cases h
    refine ⟨by simpa using hc, fun a e hl => ?_⟩
    have q0 : (e.set ei (.held cc a))[ei]? = some (.held cc a) := List.getElem?_set_self (by omega)
    generalize e.set ei (.held cc a) = e0 at q0
    simp only [hRun, evX, isi_at q0, bind_ok, asB]
    cases cc == j <;> rfl
  · cases h
end
end Pan
namespace Pan
open PySem L2
/-- what an act of a desktop gives -/
inductive RO where
  | ok (d : D) (o : Ob)
  | exc (c : Nat) (o : Ob)
  | bad
/-- how an expression with effects ends -/
inductive Fx where
  | val (d : D) (e : Env)
  | ex (c : Nat) (e : Env)
/-- how a statement with effects ends -/
inductive Fl2 where
  | nx (e : Env)
  | rt (d : D) (e : Env)
  | ex (c : Nat) (e : Env)
def insAt {α : Type} : Nat → α → List α → List α
  | 0, a, l => a :: l
  | n + 1, a, x :: l => x :: insAt n a l
  | _ + 1, a, [] => [a]
/-- a def or method that may change the desktop that it is given: at which place it is given, of how many other arguments, what it answers -/
structure ActR where
  name : Str
  /-- whether it is a method -/
  m : Bool
  pos : Nat
  n : Nat
  sem : Ob → List D → RO
def psi (Δ : List ActR) (k : Nat) (o : Ob) (ds : List D) : RO := match Δ[k]? with
  | some r => if ds.length = r.n then r.sem o ds else .bad
  | none => .bad
inductive XE where
  | pure (e : E)
  /-- x.m(..) or f(.., x, ..) -/
  | act (k i : Nat) (es : Es)
  | cmp (o : CmpOp) (a : XE) (b : E)
  | ife (c : E) (a b : XE)
  | or (a b : XE)
  | lst2 (a b : XE)
  /-- x + .., x a list of this def's own -/
  | add (i : Nat) (b : XE)
  /-- x == a tuple -/
  | oeqd (i : Nat) (a : E)
  /-- x != Desktop() -/
  | neNew (i : Nat)
  /-- f(x.copy(), ..) -/
  | tmp (k i : Nat) (es : Es)
  /-- not f(g(..)), f changes the new lists that g gives -/
  | chL (k : Nat) (es : Es)
  /-- not f([x.m()]) -/
  | chO (k i : Nat)
def bindX (r : R Fx) (k : D → Env → R Fx) : R Fx := match r with
  | .ok (.val d e) => k d e
  | x => x
@[simp] theorem bindX_val (d : D) (e : Env) (k : D → Env → R Fx) : bindX (.ok (.val d e)) k = k d e := rfl
@[simp] theorem bindX_ex (c : Nat) (e : Env) (k : D → Env → R Fx) : bindX (.ok (.ex c e)) k = .ok (.ex c e) := rfl
@[simp] theorem bindX_bad (k : D → Env → R Fx) : bindX .bad k = .bad := rfl
def liftX {α : Type} (r : R α) (e : Env) (k : α → R Fx) : R Fx := match r with
  | .ok a => k a
  | .exc c => .ok (.ex c e)
  | .bad => .bad
@[simp] theorem liftX_ok {α : Type} (a : α) (e : Env) (k : α → R Fx) : liftX (.ok a) e k = k a := rfl
@[simp] theorem liftX_exc {α : Type} (c : Nat) (e : Env) (k : α → R Fx) : liftX (.exc c : R α) e k = .ok (.ex c e) := rfl
@[simp] theorem liftX_bad {α : Type} (e : Env) (k : α → R Fx) : liftX (.bad : R α) e k = .bad := rfl
def newOb : Ob := ⟨.tup [], .tup [], [], []⟩
/-- new things that names are given -/
inductive NX where
  | val (e : E)
  | own (e : E)
  /-- Desktop() -/
  | new
  /-- x.copy() -/
  | copy (i : Nat)
mutual
inductive S2 where
  /-- a plain statement without blocks that does not return -/
  | base (s : S)
  | ife (c : XE) (a b : S2s)
  | for_ (g : G) (k : IK) (src : Es) (b : S2s)
  | whl (n : Nat) (c : E) (b : S2s)
  | ret (x : XE)
  | expr (x : XE)
  | asg (i : Nat) (x : XE)
  /-- a new list of this def's own -/
  | mk (i : Nat) (x : XE)
  | app (i : Nat) (x : XE)
  | par (is : List Nat) (xs : List NX)
  | try_ (b : S2s) (ei : Nat) (l : List (Nat × HX)) (r : HX) (fr es : List Nat)
  /-- x.panes = e, x.now = e -/
  | oset (b : Bool) (i : Nat) (e : E)
  /-- x.done = [], x.undone = [] -/
  | oclr (b : Bool) (i : Nat)
  /-- x.done.append(e), x.undone.append(e) -/
  | oapp (b : Bool) (i : Nat) (e : E)
  /-- x.panes, x.now = x.done.pop(), = x.undone.pop() -/
  | opop (b : Bool) (i : Nat)
  /-- u, k = (d, n) if w else (n, d); if t != r: return False; if u != []: k.append(st); st = u.pop() -/
  | aliB (w : E) (u k d n st : Nat) (t : XE) (r : E)
inductive S2s where
  | nil
  | frz (i : Nat) (r : S2s)
  | cons (s : S2) (r : S2s)
end
def andThen2 (r : R Fl2) (k : Env → R Fl2) : R Fl2 := match r with
  | .ok (.nx e) => k e
  | x => x
@[simp] theorem andThen2_nx (e : Env) (k : Env → R Fl2) : andThen2 (.ok (.nx e)) k = k e := rfl
@[simp] theorem andThen2_rt (d : D) (e : Env) (k : Env → R Fl2) : andThen2 (.ok (.rt d e)) k = .ok (.rt d e) := rfl
@[simp] theorem andThen2_ex (c : Nat) (e : Env) (k : Env → R Fl2) : andThen2 (.ok (.ex c e)) k = .ok (.ex c e) := rfl
@[simp] theorem andThen2_bad (k : Env → R Fl2) : andThen2 .bad k = .bad := rfl
def lift2 {α : Type} (r : R α) (e : Env) (k : α → R Fl2) : R Fl2 := match r with
  | .ok a => k a
  | .exc c => .ok (.ex c e)
  | .bad => .bad
@[simp] theorem lift2_ok {α : Type} (a : α) (e : Env) (k : α → R Fl2) : lift2 (.ok a) e k = k a := rfl
@[simp] theorem lift2_exc {α : Type} (c : Nat) (e : Env) (k : α → R Fl2) : lift2 (.exc c : R α) e k = .ok (.ex c e) := rfl
@[simp] theorem lift2_bad {α : Type} (e : Env) (k : α → R Fl2) : lift2 (.bad : R α) e k = .bad := rfl
def toS2 (r : R Fx) (k : D → Env → R Fl2) : R Fl2 := match r with
  | .ok (.val d e) => k d e
  | .ok (.ex c e) => .ok (.ex c e)
  | _ => .bad
@[simp] theorem toS2_val (d : D) (e : Env) (k : D → Env → R Fl2) : toS2 (.ok (.val d e)) k = k d e := rfl
@[simp] theorem toS2_ex (c : Nat) (e : Env) (k : D → Env → R Fl2) : toS2 (.ok (.ex c e)) k = .ok (.ex c e) := rfl
@[simp] theorem toS2_bad (k : D → Env → R Fl2) : toS2 .bad k = .bad := rfl
/-- a plain statement that does not return -/
def upS : R Fl → R Fl2
  | .ok (.nx e) => .ok (.nx e)
  | .ok (.ex c e) => .ok (.ex c e)
  | _ => .bad
@[simp] theorem upS_nx (e : Env) : upS (.ok (.nx e)) = .ok (.nx e) := rfl
@[simp] theorem upS_ex (c : Nat) (e : Env) : upS (.ok (.ex c e)) = .ok (.ex c e) := rfl
@[simp] theorem upS_bad : upS .bad = .bad := rfl
end Pan
namespace Pan
open PySem PySem.Spec L2
open PyProof.Rows hiding St
variable [TabsIn]
abbrev FootO (H : Hp) (a : Addr) : Addr → Prop := Foot H (.obj true default) (some (.ref a))
/-- the desktop at a has become o', all else is as it was -/
structure ObExt (K : PySem.W.Frag) (F H : Hp) (a : Addr) (o' : Ob) (F' H' : Hp) : Prop where
  ext : Ext F (cut H (FootO H a)) F' H'
  ob : ObR K F' H' o' a
  fresh : ∀ y, FootO H' a y → cut H (FootO H a) y = none
def spAct (K : PySem.W.Frag) (cl : Nat → Value) (pos n : Nat) (sem : Ob → List D → RO) : Sp := fun vs H Q E => ∃ F a o ws ds, vs = insAt pos (.ref a) ws ∧ pos ≤ n ∧ ds.length = n ∧ Sub F H ∧ ObR K F H o a ∧ Rps K F ws ds ∧ match sem o ds with
  | .ok d o' => ∀ v F' H', ObExt K F H a o' F' H' → Rp K F' v d → Q v H'
  | .exc c o' => ∀ F' H', ObExt K F H a o' F' H' → E (cl c) none H'
  | .bad => False
/-- where an act stands, and what it does -/
structure ActX (X : Cx) (cl : Nat → Value) (j : Nat) (r : ActR) : Prop where
  ex : ∃ (f : Addr) (fd : FuncData) (ps : List Str) (k : Nat), ps.length = r.n + 1 ∧ k ≤ j ∧ FnOk X.prog X.w X.K X.mg X.base (L2.CX X.prog X.w) k f fd ps (spAct X.K cl r.pos r.n r.sem) ∧ Binds X.K fd ps [] ∧
    (r.m = true → Meth X.K (deskC X.K) r.name f ∧ r.pos = 0 ∧ (["panes", "now", "done", "undone"] : List Str).contains r.name = false) ∧ (r.m = false → X.mg r.name = some (.ref f) ∧ PySem.W.keepIn X.K (.ref f) = true)
/-- what an expression with effects asks -/
def PostX (K : PySem.W.Frag) (W : WX) (cl : Nat → Value) (A0 H0 F0 F : Hp) (σ : St) (Q : VK) : R Fx → Prop
  | .ok (.val d e) => ∀ v F' H', Same F F' → ER K A0 H0 F0 e σ F' H' → Rp K F' v d → Q v H'
  | .ok (.ex c e) => ∀ F' H', ER K A0 H0 F0 e σ F' H' → W (cl c) none σ H'
  | _ => False
/-- .. of a test -/
def PostT (K : PySem.W.Frag) (W : WX) (cl : Nat → Value) (A0 H0 F0 F : Hp) (σ : St) (Q : Bool → Hp → Prop) : R Fx → Prop
  | .ok (.val d e) => ∃ b, d = .bl b ∧ ∀ F' H', Same F F' → ER K A0 H0 F0 e σ F' H' → Q b H'
  | .ok (.ex c e) => ∀ F' H', ER K A0 H0 F0 e σ F' H' → W (cl c) none σ H'
  | _ => False
/-- .. of a new list -/
def PostN (K : PySem.W.Frag) (W : WX) (cl : Nat → Value) (A0 H0 F0 F : Hp) (σ : St) (Q : VK) : R Fx → Prop
  | .ok (.val d e) => ∀ a F' H', Same F F' → ER K A0 H0 F0 e σ F' H' → H0 a = none → SlotR K F' H' (.own d) (some (.ref a)) → NoOwn H' a e σ → Q (.ref a) H'
  | .ok (.ex c e) => ∀ F' H', ER K A0 H0 F0 e σ F' H' → W (cl c) none σ H'
  | _ => False
section
variable {K : PySem.W.Frag} {W : WX} {cl : Nat → Value} {A0 H0 F0 F H F' H' : Hp} {e : Env} {σ : St} {Q : VK} {QB : Bool → Hp → Prop}
theorem PostX.step {r : R Fx} (s : Same F F') (h : PostX K W cl A0 H0 F0 F σ Q r) : PostX K W cl A0 H0 F0 F' σ Q r := by
  cases r with
  | ok f =>
    cases f with
    | val d e => exact fun v F2 H2 s2 => h v F2 H2 (s.trans s2)
    | ex c e => exact h
  | exc c => exact h
  | bad => exact h
theorem PostT.step {r : R Fx} (s : Same F F') (h : PostT K W cl A0 H0 F0 F σ QB r) : PostT K W cl A0 H0 F0 F' σ QB r := by
  cases r with
  | ok f =>
    cases f with
    | val d e => obtain ⟨b, h1, h2⟩ := h; exact ⟨b, h1, fun F2 H2 s2 => h2 F2 H2 (s.trans s2)⟩
    | ex c e => exact h
  | exc c => exact h
  | bad => exact h
theorem PostN.step {r : R Fx} (s : Same F F') (h : PostN K W cl A0 H0 F0 F σ Q r) : PostN K W cl A0 H0 F0 F' σ Q r := by
  cases r with
  | ok f =>
    cases f with
    | val d e => exact fun v F2 H2 s2 => h v F2 H2 (s.trans s2)
    | ex c e => exact h
  | exc c => exact h
  | bad => exact h
theorem PostX.bind {x : R Fx} {k : D → Env → R Fx} (h : PostX K W cl A0 H0 F0 F σ Q (bindX x k)) : PostX K W cl A0 H0 F0 F σ (fun v H' => ∃ d e1 F', Same F F' ∧ ER K A0 H0 F0 e1 σ F' H' ∧ Rp K F' v d ∧ PostX K W cl A0 H0 F0 F' σ Q (k d e1)) x := by
  cases x with
  | ok f =>
    cases f with
    | val d e => exact fun v F' H' s er r => ⟨d, e, F', s, er, r, PostX.step s h⟩
    | ex c e => exact h
  | exc c => exact h
  | bad => exact h
theorem PostN.bind {x : R Fx} {k : D → Env → R Fx} (h : PostN K W cl A0 H0 F0 F σ Q (bindX x k)) : PostX K W cl A0 H0 F0 F σ (fun v H' => ∃ d e1 F', Same F F' ∧ ER K A0 H0 F0 e1 σ F' H' ∧ Rp K F' v d ∧ PostN K W cl A0 H0 F0 F' σ Q (k d e1)) x := by
  cases x with
  | ok f =>
    cases f with
    | val d e => exact fun v F' H' s er r => ⟨d, e, F', s, er, r, PostN.step s h⟩
    | ex c e => exact h
  | exc c => exact h
  | bad => exact h
theorem PostT.bind {x : R Fx} {k : D → Env → R Fx} (h : PostT K W cl A0 H0 F0 F σ QB (bindX x k)) : PostX K W cl A0 H0 F0 F σ (fun v H' => ∃ d e1 F', Same F F' ∧ ER K A0 H0 F0 e1 σ F' H' ∧ Rp K F' v d ∧ PostT K W cl A0 H0 F0 F' σ QB (k d e1)) x := by
  cases x with
  | ok f =>
    cases f with
    | val d e => exact fun v F' H' s er r => ⟨d, e, F', s, er, r, PostT.step s h⟩
    | ex c e => exact h
  | exc c => exact h
  | bad => exact h
end
end Pan
namespace Pan
open PySem PySem.Spec L2
open PyProof.Rows hiding St
variable [TabsIn]
def Post2 (K : PySem.W.Frag) (W : WX) (cl : Nat → Value) (A0 H0 F0 : Hp) (D : Ends) : R Fl2 → Prop
  | .ok (.nx e) => ∀ σ F H, ER K A0 H0 F0 e σ F H → D.nx σ H
  | .ok (.rt d e) => ∀ v σ F H, ER K A0 H0 F0 e σ F H → Rp K F v d → D.rt v H
  | .ok (.ex c e) => ∀ σ F H, ER K A0 H0 F0 e σ F H → W (cl c) none σ H
  | _ => False
def tS2 (K : PySem.W.Frag) (W : WX) (cl : Nat → Value) (r : Env → R Fl2) : TS := fun D σ H => ∃ A0 H0 F0 e F, ER K A0 H0 F0 e σ F H ∧ Post2 K W cl A0 H0 F0 D (r e)
section
variable {K : PySem.W.Frag} {W : WX} {cl : Nat → Value} {A0 H0 F0 F H F' H' : Hp} {e : Env} {σ : St} {D : Ends}
theorem Post2.wp {α : Type} {r : R α} {k : α → R Fl2} (er : ER K A0 H0 F0 e σ F H) (p : Post2 K W cl A0 H0 F0 D (lift2 r e k)) : Wp W cl r σ F H fun a F' H' => ER K A0 H0 F0 e σ F' H' ∧ Post2 K W cl A0 H0 F0 D (k a) := by
  cases r with
  | ok a => exact fun F' H' x => ⟨er.mono x, p⟩
  | exc c => exact fun F' H' x => p σ F' H' (er.mono x)
  | bad => exact p.elim
/-- an expression with effects, then the rest -/
theorem Post2.x {r : R Fx} {k : Pan.D → Env → R Fl2} (p : Post2 K W cl A0 H0 F0 D (toS2 r k)) : PostX K W cl A0 H0 F0 F σ (fun v H' => ∃ d e1 F', ER K A0 H0 F0 e1 σ F' H' ∧ Rp K F' v d ∧ Post2 K W cl A0 H0 F0 D (k d e1)) r := by
  cases r with
  | ok f =>
    cases f with
    | val d e => exact fun v F' H' _ er r => ⟨d, e, F', er, r, p⟩
    | ex c e => exact fun F' H' er => p σ F' H' er
  | exc c => exact p
  | bad => exact p
theorem Post2.then {x : R Fl2} {r2 : Env → R Fl2} (h : Post2 K W cl A0 H0 F0 D (andThen2 x r2)) : Post2 K W cl A0 H0 F0 { D with nx := tS2 K W cl r2 D } x := by
  cases x with
  | ok f =>
    cases f with
    | nx e => exact fun σ F H er => ⟨A0, H0, F0, e, F, er, h⟩
    | rt d e => exact h
    | ex c e => exact h
  | exc c => exact h
  | bad => exact h
theorem Post2.up {x : R Fl} (h : Post2 K W cl A0 H0 F0 D (upS x)) : Post K W cl A0 H0 F0 D x := by
  cases x with
  | ok f =>
    cases f with
    | nx e => exact h
    | rt d => exact h.elim
    | ex c e => exact h
  | exc c => exact h
  | bad => exact h
end
end Pan
namespace Pan
open PySem PySem.Spec L2
open PyProof.Rows hiding St
end Pan
namespace Pan
open PySem PySem.Spec L2
open PyProof.Rows hiding St
variable [TabsIn]
def spInit (K : PySem.W.Frag) : Sp := fun vs H Q _ => ∃ a dx, vs = [.ref a] ∧ H a = some (.ins (deskC K) dx []) ∧ ∀ (H' : Hp) (da ua p1 p2 : Addr) (o1 o2 : Obj), (∀ b u, b ≠ a → H b = some u → H' b = some u) → H' a = some (.ins (deskC K) dx (deskF (.ref p1) (.ref p2) da ua)) →
  o1.dict = none → o2.dict = none → H' p1 = some (.frz o1 (.tup [])) → H' p2 = some (.frz o2 (.tup [])) → H p1 = none → H p2 = none → H da = none → H ua = none → da ≠ ua → H' da = some (.lst []) → H' ua = some (.lst []) → Q .non H'
def spCopy (K : PySem.W.Frag) : Sp := fun vs H Q _ => ∃ F a o, vs = [.ref a] ∧ Sub F H ∧ ObR K F H o a ∧ ∀ b F' H', Ext F H F' H' → ObR K F' H' o b → (∀ y, FootO H' b y → H y = none) → Q (.ref b) H'
structure MkX (X : Cx) (j : Nat) : Prop where
  new : ∃ f k, k + 1 ≤ j ∧ Mk X.K (deskC X.K) f ∧ X.mg "Desktop" = some (.ref (deskC X.K)) ∧ FnA X k f ["self"] (spInit X.K)
structure CpX (X : Cx) (j : Nat) : Prop where
  copy : ∃ f k, k ≤ j ∧ Meth X.K (deskC X.K) "copy" f ∧ FnA X k f ["self"] (spCopy X.K)
inductive MR2 (K : PySem.W.Frag) (F' H' H : Hp) : List Slot → List V → Prop
  | nil : MR2 K F' H' H [] []
  | cons {s : Slot} {v : V} {ss : List Slot} {vs : List V} : SlotR K F' H' s (some v) → (∀ x, Foot H' s (some v) x → H x = none) → (∀ ob, s ≠ .obj true ob) → (∀ x, Foot H' s (some v) x → ∀ (k : Nat) (t : Slot) (u : V), ss[k]? = some t → vs[k]? = some u → ¬ Foot H' t (some u) x) → MR2 K F' H' H ss vs → MR2 K F' H' H (s :: ss) (v :: vs)
section
variable {K : PySem.W.Frag} {F' H' H H1 : Hp}
theorem MR2.weak (s : SameT H H1) : ∀ {ss : List Slot} {vs : List V}, MR2 K F' H' H1 ss vs → MR2 K F' H' H ss vs
  | _, _, .nil => .nil
  | _, _, .cons h1 h2 h3 h4 r => .cons h1 (fun x f => s.free (h2 x f)) h3 h4 (MR2.weak s r)
theorem MR2.new : ∀ {ss : List Slot} {vs : List V} {k : Nat} {t : Slot} {u : V} {x : Addr}, MR2 K F' H' H ss vs → ss[k]? = some t → vs[k]? = some u → Foot H' t (some u) x → H x = none
  | _, _, _, _, _, _, .nil, h, _, _ => by simp at h
  | _, _, 0, _, _, _, .cons h1 h2 _ _ r, e1, e2, f => by simp at e1 e2; subst e1; subst e2; exact h2 _ f
  | _, _, k + 1, _, _, _, .cons _ _ _ _ r, e1, e2, f => MR2.new (k := k) r (by simpa using e1) (by simpa using e2) f
theorem MR2.length : ∀ {ss : List Slot} {vs : List V}, MR2 K F' H' H ss vs → ss.length = vs.length
  | _, _, .nil => rfl
  | _, _, .cons _ _ _ _ r => by simp [MR2.length r]
end
theorem ER.put {K : PySem.W.Frag} {A0 H0 F0 F H : Hp} {e : Env} {σ : St} (er : ER K A0 H0 F0 e σ F H) {i : Nat} {s : Slot} {v : V} (sl : SlotR K F H s (some v)) (hf : ∀ x, Foot H s (some v) x → H0 x = none) (ho : ∀ ob, s ≠ .obj true ob) (hn : ∀ x, Foot H s (some v) x → NoOwn H x e σ) : ER K A0 H0 F0 (e.set i s) (σ.set i (some v)) F H :=
  ⟨er.sub0, er.vr.set sl, er.ext, er.sls.set hf (fun x f k t q _ h1 h2 => hn x f k t q h1 h2) (fun ob a z _ => absurd z (ho ob))⟩
end Pan
namespace Pan
open PySem PySem.Spec L2
open PyProof.Rows hiding St
variable [TabsIn]
section
variable {X : Cx} {W : WX} {cl : Nat → Value} {w tt rr : Expr} {rw' rp : Env → R D} {rt : Env → R Fx} {xu xk xd xn xs : Str} {u k d n st : Nat} {k1 k2 k3 k4 : Nat} {ap cp ap2 cp2 : Pos}
/-- the names of the block -/
structure AliN (X : Cx) (x : Str) (i : Nat) : Prop where
  N : X.N[i]? = some x
  vis : Vis X.env.scope x
  loc : L2.Loc X.env.scope x
  fn : X.fn x = true ∨ X.env.scope.names.lookup x = some .local
  nd1 : (x == ("__debug__" : Str)) = false
  nd2 : (x == ("__classdict__" : Str)) = false
theorem AliN.rd {x : Str} {i : Nat} {p : Pos} (a : AliN X x i) : PE X (.Name x p) (tVar i) := pe_var a.N a.vis a.nd1 a.nd2
end
end Pan
namespace Pan
open PySem PySem.Spec L2
open PyProof.Rows hiding St
variable [TabsIn]
/-- two states of an except suite that tell the same -/
structure HRel (a b cc ei : Nat) (e1 e2 : Env) : Prop where
  len : e1.length = e2.length
  val : ∀ i d, getV e1 i = .ok d → getV e2 i = .ok d
  isi : ∀ j d, isiR a cc ei j e1 = .ok d → isiR b cc ei j e2 = .ok d
theorem getV_set {e : Env} {i k : Nat} {x d : D} : getV (e.set i (.val x)) k = .ok d ↔ (k = i ∧ i < e.length ∧ x = d) ∨ (k ≠ i ∧ getV e k = .ok d) := by
  unfold getV
  rw [List.getElem?_set]
  by_cases z : i = k
  · subst z
    by_cases hl : i < e.length
    · simp [hl]
    · simp [hl]
  · rw [if_neg z]
    simp [Ne.symm z]
theorem HRel.set {a b cc ei : Nat} {e1 e2 : Env} (h : HRel a b cc ei e1 e2) (i : Nat) (x : D) : HRel a b cc ei (e1.set i (.val x)) (e2.set i (.val x)) := by
  refine ⟨by simp [h.len], fun k d q => ?_, fun j d q => ?_⟩
  · rcases getV_set.mp q with ⟨h1, h2, h3⟩ | ⟨h1, h2⟩
    · exact getV_set.mpr (.inl ⟨h1, by rw [← h.len]; exact h2, h3⟩)
    · exact getV_set.mpr (.inr ⟨h1, h.val k d h2⟩)
  · by_cases z : i = ei
    · subst z
      unfold isiR at q
      rw [List.getElem?_set, if_pos rfl] at q
      split at q
      · rename_i hh
        split at hh <;> cases hh
      · cases q
    · have e1' : isiR a cc ei j (e1.set i (.val x)) = isiR a cc ei j e1 := by
        unfold isiR
        rw [List.getElem?_set, if_neg z]
      have e2' : isiR b cc ei j (e2.set i (.val x)) = isiR b cc ei j e2 := by
        unfold isiR
        rw [List.getElem?_set, if_neg z]
      rw [e1'] at q
      rw [e2']
      exact h.isi j d q
end Pan
namespace Pan
open PySem PySem.Spec L2
open PyProof.Rows hiding St
variable [TabsIn]
/-- what comparing asks of the class -/
structure EqF (K : PySem.W.Frag) : Prop where
  ha : PySem.W.findIn K (.ref (deskC K)) "__class__" = some (some (.builtin "object.__class__"))
  hn : PySem.W.specialIn K (.builtin "object.__class__") "__get__" = some (some (.builtin "getset_descriptor.__get__"))
  htk : PySem.W.takesIn K (.builtin "object.__class__") = some true
  hm : PySem.W.mroIn K (deskC K) (.type "object") = some true
  me : PySem.W.kitOne K (.ref (deskC K)) (.ref (deskC K)) = some true
  tup : PySem.W.kitOne K (.type "tuple") (.ref (deskC K)) = some false
  ne : PySem.W.findIn K (.ref (deskC K)) "__ne__" = some (some (.builtin "object.__ne__"))
/-- what the own == promises -/
def spEq2 (K : PySem.W.Frag) : Sp := fun vs H Q _ => ∃ F a o, Sub F H ∧ ObR K F H o a ∧
  ((∃ b q r, vs = [.ref a, .ref b] ∧ ObR K F H q b ∧ eqOb false o q = .ok (.bl r) ∧ ∀ H', SameT H H' → Q (.bl r) H') ∨ (∃ b xs, vs = [.ref a, b] ∧ Rp K F b (.tup xs) ∧ ∀ H', SameT H H' → Q (.bl false) H'))
structure EqX (X : Cx) (j : Nat) : Prop where
  eq : ∃ f k, k + 1 ≤ j ∧ Meth X.K (deskC X.K) "__eq__" f ∧ FnA X k f ["self", "other"] (spEq2 X.K)
  fa : EqF X.K
end Pan
namespace Pan
open PySem PySem.Spec L2
open PyProof.Rows hiding St
variable [TabsIn]
/-- the promise: f of the arguments' data, as a new list -/
def spN (K : PySem.W.Frag) (cl : Nat → Value) (n : Nat) (f : List D → R D) : Sp := fun vs H Q E => ∃ F ds, ds.length = n ∧ Sub F H ∧ Rps K F vs ds ∧ match f ds with
  | .ok d => ∀ a F' H', Ext F H F' H' → NewR K F' H' H a d → Q (.ref a) H'
  | .exc c => ∀ H', SameT H H' → E (cl c) none H'
  | .bad => False
section
variable {X : Cx} {W : WX} {cl : Nat → Value} {a : Expr} {es : List Expr} {pos : Pos}
def PostFr (K : PySem.W.Frag) (W : WX) (cl : Nat → Value) (A0 H0 F0 : Hp) (D : Ends) : R Fl → Prop
  | .ok (.rt d) => ∀ a F H, Ext F0 H0 F H → NewR K F H H0 a d → D.rt (.ref a) H
  | .ok (.ex c e) => ∀ σ F H, ER K A0 H0 F0 e σ F H → W (cl c) none σ H
  | _ => False
def tSFr (K : PySem.W.Frag) (W : WX) (cl : Nat → Value) (r : Env → R Fl) : TS := fun D σ H => ∃ A0 H0 F0 e F, ER K A0 H0 F0 e σ F H ∧ PostFr K W cl A0 H0 F0 D (r e)
def andThenN (r : R Fl) (k : Env → R Fl) : R Fl := match r with
  | .ok (.nx e) => k e
  | .ok (.ex c e) => .ok (.ex c e)
  | _ => .bad
variable {st : Stmt} {rest : List Stmt} {r1 r2 : Env → R Fl} {ra : Env → R D}
theorem PostFr.then {K : PySem.W.Frag} {A0 H0 F0 : Hp} {D : Ends} {x : R Fl} (h : PostFr K W cl A0 H0 F0 D (andThenN x r2)) : Post K W cl A0 H0 F0 { D with nx := tSFr K W cl r2 D } x := by
  cases x with
  | ok f =>
    cases f with
    | nx e => exact fun σ F H er => ⟨A0, H0, F0, e, F, er, h⟩
    | rt d => exact h.elim
    | ex c e => exact h
  | exc c => exact h
  | bad => exact h
end
end Pan
namespace Pan
open PySem PySem.Spec L2
open PyProof.Rows hiding St
variable [TabsIn]
structure FnGN (P : Program) (w : World) (K : PySem.W.Frag) (mg : Str → Option Value) (base : Heap) (cl : Nat → Value) (j : Nat) (r : FnR) : Prop where
  ex : ∃ (f : Addr) (fd : FuncData) (ps : List Str) (k : Nat), ps.length = r.n ∧ k ≤ j ∧ FnOk P w K mg base (L2.CX P w) k f fd ps (spN K cl r.n r.sem) ∧ mg r.name = some (.ref f) ∧ PySem.W.keepIn K (.ref f) = true ∧ Binds K fd ps []
theorem FnGN.up {P : Program} {w : World} {K : PySem.W.Frag} {mg : Str → Option Value} {base : Heap} {cl : Nat → Value} {j k : Nat} {r : FnR} (h : FnGN P w K mg base cl j r) (hk : j ≤ k) : FnGN P w K mg base cl k r := by
  obtain ⟨f, fd, ps, l, h1, h2, h3⟩ := h.ex
  exact ⟨f, fd, ps, l, h1, Nat.le_trans h2 hk, h3⟩
end Pan
namespace Pan
open PySem PySem.Spec L2
open PyProof.Rows hiding St
variable [TabsIn]
/-- a list of lists, all of them new since H0, and unknown to F -/
structure NewL (F H H0 : Hp) (r : Addr) (as : List Addr) : Prop where
  r0 : H0 r = none
  fr : F r = none
  hr : H r = some (.lst (as.map V.ref))
  el : ∀ a ∈ as, H0 a = none ∧ F a = none ∧ a ≠ r ∧ ∃ xs, H a = some (.lst xs) ∧ xs.length ≤ 1000
theorem NewL.mono {F H H0 F' H' : Hp} {r : Addr} {as : List Addr} (n : NewL F H H0 r as) (x : Ext F H F' H') : NewL F' H' H0 r as where
  r0 := n.r0
  fr := x.keepNone n.fr n.hr (by intro _ z; cases z)
  hr := x.same.at n.hr
  el := fun a ha => by
    obtain ⟨h1, h2, h3, xs, h4, h5⟩ := n.el a ha
    exact ⟨h1, x.keepNone h2 h4 (by intro _ z; cases z), h3, xs, x.same.at h4, h5⟩
def smallL : D → Bool
  | .lst l => decide (l.length ≤ 1000)
  | _ => false
theorem Wp.calm {α : Type} {W : WX} {cl : Nat → Value} {r : R α} {σ : St} {F H : Hp} {P : α → Hp → Hp → Prop} (h : Wp W cl r.calm σ F H P) : Wp W cl r σ F H P := by
  cases r with
  | ok a => exact h
  | exc c => exact h.elim
  | bad => exact h
section
variable {c : Sig} {ex : List Str} {Γ ΓN : List FnR} {cl : Nat → Value} {j : Nat} {X : Cx} {L : Loc} {W : WX} {n m : Nat} {es : List Expr} {os : List Bool} {rs : Env → R (List D)} {pos p q : Pos} {x : Str} {i : Nat}
/-- the promise: a new list of new lists, if f answers -/
def spLL (K : PySem.W.Frag) (n : Nat) (f : List D → R (List D)) : Sp := fun vs H Q E => ∃ F ds d, ds.length = n ∧ Sub F H ∧ Rps K F vs ds ∧ f ds = .ok d ∧ ∀ r as F' H', Ext F H F' H' → NewL F' H' H r as → as.length ≤ 1000 → Q (.ref r) H'
variable {c1 c2 c3 : List Expr} {q1 q2 q3 : List (Nat × Es)} {e1 e2 e3 : Expr}
end
end Pan
namespace Pan
open PySem PySem.Spec L2
open PyProof.Rows hiding St
variable [TabsIn]
section
variable {X : Cx}
/-- what is changed alone -/
structure Chd (as : List Addr) (H H' : Hp) : Prop where
  out : ∀ x, x ∉ as → H' x = H x
  lst : ∀ x ∈ as, ∃ xs, H' x = some (.lst xs)
def spCh : Sp := fun vs H Q E => ∃ r as, vs = [.ref r] ∧ H r = some (.lst (as.map V.ref)) ∧ as.length ≤ 1000 ∧ (∀ a ∈ as, a ≠ r ∧ ∃ xs, H a = some (.lst xs) ∧ xs.length ≤ 1000) ∧ ∀ H', Chd as H H' → Q (.bl true) H'
variable {i : Nat} {x : Str} {p1 p2 p3 p4 p5 p6 p7 p8 p9 pa pb pc pd pe pf pg ph pi pj : Pos} {k1 k2 k3 k4 : Nat}
end
end Pan
namespace Pan
open PySem PySem.Spec L2
open PyProof.Rows hiding St
variable [TabsIn]
theorem Chd.ext {F H F1 H1 H2 : Hp} {r : Addr} {as : List Addr} (x : Ext F H F1 H1) (nl : NewL F1 H1 H r as) (cd : Chd as H1 H2) : Ext F H F1 H2 := by
  have out : ∀ {b : Addr} {o : HO}, H b = some o → H2 b = H1 b := fun {b o} h => cd.out b fun m => by
    rw [(nl.el b m).1] at h; cases h
  have tb : LamX.Tabs TabsIn.T H1 → LamX.Tabs TabsIn.T H2 := fun t => by
    intro p hp
    obtain ⟨ps, h1, h2, h3⟩ := t p hp
    have n1 : p.1 ∉ as := fun m => by
      obtain ⟨_, _, _, xs, e, _⟩ := nl.el _ m
      rw [h1] at e; cases e
    refine ⟨ps, (cd.out _ n1).trans h1, h2, fun pos cv hc => ?_⟩
    obtain ⟨c, e1, e2⟩ := h3 pos cv hc
    refine ⟨c, e1, (cd.out _ fun m => ?_).trans e2⟩
    obtain ⟨_, _, _, xs, e, _⟩ := nl.el _ m
    rw [e2] at e; cases e
  refine ⟨⟨fun b o h n => (out h).trans (x.same.at h n), fun b ps h => ?_, fun t => tb (x.same.tabs t)⟩, x.grow, ⟨fun b u h => ⟨(x.sub.at_ b u h).1, ?_⟩, tb x.sub.tabs⟩, x.new⟩
  · obtain ⟨ps', e⟩ := x.same.tb b ps h
    exact ⟨ps', (out h).trans e⟩
  · have n1 : b ∉ as := fun m => by
      rw [(nl.el b m).2.1] at h; cases h
    rw [cd.out b n1]
    exact x.sub.at h
/-- a method that gives a new list -/
def spSn (K : PySem.W.Frag) (g : Ob → R D) : Sp := fun vs H Q _ => ∃ F a o d, vs = [.ref a] ∧ Sub F H ∧ ObR K F H o a ∧ g o = .ok d ∧ ∀ b F' H', Ext F H F' H' → NewR K F' H' H b d → Q (.ref b) H'
structure ChX (X : Cx) (j : Nat) (sl : List D → RO) (so : Ob → RO) : Prop where
  ch : ∃ f k, k ≤ j ∧ X.mg "_law_changed" = some (.ref f) ∧ PySem.W.keepIn X.K (.ref f) = true ∧ FnA X k f ["rows"] spCh
  ll : ∃ f k g, k ≤ j ∧ X.mg "_law_lists" = some (.ref f) ∧ PySem.W.keepIn X.K (.ref f) = true ∧ FnA X k f ["windows", "order"] (spLL X.K 2 g) ∧ ∀ ds d o, sl ds = .ok d o → ds.length = 2 ∧ ∃ d', g ds = .ok d'
  sn : ∃ f k g, k ≤ j ∧ Meth X.K (deskC X.K) "seen" f ∧ FnA X k f ["self"] (spSn X.K g) ∧ ∀ o d o', so o = .ok d o' → ∃ d', g o = .ok d' ∧ smallL d' = true
end Pan
namespace Pan
open PySem PySem.Spec L2
open PyProof.Rows hiding St
variable [TabsIn]
/-- what is known of acts -/
structure Sg2 where
  /-- name, whether a method, the desktop's place, the other arguments -/
  as : List (Str × Bool × Nat × Nat)
  es : List Nat
  /-- whether Desktop() and x.copy() are known -/
  nw : Bool
  cp : Bool
  /-- whether x == y is known -/
  eq : Bool := false
  /-- where the acts lie that change new lists -/
  ch : Option (Nat × Nat) := none
structure Ctx2 (c : Sig) (ex : List Str) (g : Sg2) (Γ : List FnR) (Δ : List ActR) (cl : Nat → Value) (j : Nat) (X : Cx) (L : Loc) (W : WX) : Prop where
  S : CtxS c ex Γ cl j X L W
  as : g.as = Δ.map fun r => (r.name, r.m, r.pos, r.n)
  ax : ∀ r ∈ Δ, ActX X cl j r
  er : g.es ≠ [] → ∃ B, Errs X.K X.mg g.es cl B
  mkd : g.nw = true → MkX X j
  cp : g.cp = true → CpX X j
  eq : g.eq = true → EqX X j
  ch : ∀ q, g.ch = some q → ChX X j (fun ds => psi Δ q.1 newOb ds) (fun o => psi Δ q.2 o [])
  st : X.stack = X.env :: X.outer
  fr : X.env.frame = some X.env.locals
section
variable {c : Sig} {ex : List Str} {g : Sg2} {Γ : List FnR} {Δ : List ActR} {cl : Nat → Value} {j : Nat} {X : Cx} {L : Loc} {W : WX} {n : Nat}
theorem Ctx2.desk (C : Ctx2 c ex g Γ Δ cl j X L W) {x : Str} (h : c.ob.contains x = true) : DeskX X j := C.S.C.desk fun z => by rw [z] at h; simp at h
end
end Pan
namespace Pan
open PySem PySem.Spec L2
open PyProof.Rows hiding St
end Pan
namespace Pan
open PySem PySem.Spec L2
open PyProof.Rows hiding St
variable [TabsIn]
structure ActG (P : Program) (w : World) (K : PySem.W.Frag) (mg : Str → Option Value) (base : Heap) (cl : Nat → Value) (j : Nat) (r : ActR) : Prop where
  ex : ∃ (f : Addr) (fd : FuncData) (ps : List Str) (k : Nat), ps.length = r.n + 1 ∧ k ≤ j ∧ FnOk P w K mg base (L2.CX P w) k f fd ps (spAct K cl r.pos r.n r.sem) ∧ Binds K fd ps [] ∧
    (r.m = true → Meth K (deskC K) r.name f ∧ r.pos = 0 ∧ (["panes", "now", "done", "undone"] : List Str).contains r.name = false) ∧ (r.m = false → mg r.name = some (.ref f) ∧ PySem.W.keepIn K (.ref f) = true)
theorem ActG.up {P : Program} {w : World} {K : PySem.W.Frag} {mg : Str → Option Value} {base : Heap} {cl : Nat → Value} {j k : Nat} {r : ActR} (h : ActG P w K mg base cl j r) (hk : j ≤ k) : ActG P w K mg base cl k r := by
  obtain ⟨f, fd, ps, l, h1, h2, h3⟩ := h.ex
  exact ⟨f, fd, ps, l, h1, Nat.le_trans h2 hk, h3⟩
abbrev FnB (P : Program) (w : World) (K : PySem.W.Frag) (mg : Str → Option Value) (base : Heap) (k : Nat) (f : Addr) (ps : List Str) (sp : Sp) : Prop := ∃ fd, FnOk P w K mg base (L2.CX P w) k f fd ps sp ∧ Binds K fd ps []
structure DeskG (P : Program) (w : World) (K : PySem.W.Frag) (mg : Str → Option Value) (base : Heap) (j : Nat) : Prop where
  cls : Cls K (deskC K)
  na : ∀ f ∈ (["panes", "now", "done", "undone"] : List Str), NoAttr K (deskC K) f
  rd : ∀ b : Bool, ∃ f k, k ≤ j ∧ Meth K (deskC K) (if b then ("order" : Str) else "windows") f ∧ FnB P w K mg base k f ["self"] (spRO K fun o => if b then o.n else o.p)
  len : ∃ f k, k + 1 ≤ j ∧ Meth K (deskC K) "__len__" f ∧ FnB P w K mg base k f ["self"] (spLen K)
theorem DeskG.up {P : Program} {w : World} {K : PySem.W.Frag} {mg : Str → Option Value} {base : Heap} {j k : Nat} (h : DeskG P w K mg base j) (hk : j ≤ k) : DeskG P w K mg base k := by
  refine ⟨h.cls, h.na, fun b => ?_, ?_⟩
  · obtain ⟨f, l, h1, h2⟩ := h.rd b
    exact ⟨f, l, Nat.le_trans h1 hk, h2⟩
  · obtain ⟨f, l, h1, h2⟩ := h.len
    exact ⟨f, l, Nat.le_trans h1 hk, h2⟩
structure MkG (P : Program) (w : World) (K : PySem.W.Frag) (mg : Str → Option Value) (base : Heap) (j : Nat) : Prop where
  new : ∃ f k, k + 1 ≤ j ∧ Mk K (deskC K) f ∧ mg "Desktop" = some (.ref (deskC K)) ∧ FnB P w K mg base k f ["self"] (spInit K)
theorem MkG.up {P : Program} {w : World} {K : PySem.W.Frag} {mg : Str → Option Value} {base : Heap} {j k : Nat} (h : MkG P w K mg base j) (hk : j ≤ k) : MkG P w K mg base k := by
  obtain ⟨f, l, h1, h2⟩ := h.new
  exact ⟨f, l, Nat.le_trans h1 hk, h2⟩
structure CpG (P : Program) (w : World) (K : PySem.W.Frag) (mg : Str → Option Value) (base : Heap) (j : Nat) : Prop where
  copy : ∃ f k, k ≤ j ∧ Meth K (deskC K) "copy" f ∧ FnB P w K mg base k f ["self"] (spCopy K)
theorem CpG.up {P : Program} {w : World} {K : PySem.W.Frag} {mg : Str → Option Value} {base : Heap} {j k : Nat} (h : CpG P w K mg base j) (hk : j ≤ k) : CpG P w K mg base k := by
  obtain ⟨f, l, h1, h2⟩ := h.copy
  exact ⟨f, l, Nat.le_trans h1 hk, h2⟩
structure EqG2 (P : Program) (w : World) (K : PySem.W.Frag) (mg : Str → Option Value) (base : Heap) (j : Nat) : Prop where
  eq : ∃ f k, k + 1 ≤ j ∧ Meth K (deskC K) "__eq__" f ∧ FnB P w K mg base k f ["self", "other"] (spEq2 K)
  fa : EqF K
theorem EqG2.up {P : Program} {w : World} {K : PySem.W.Frag} {mg : Str → Option Value} {base : Heap} {j k : Nat} (h : EqG2 P w K mg base j) (hk : j ≤ k) : EqG2 P w K mg base k := by
  obtain ⟨f, l, h1, h2⟩ := h.eq
  exact ⟨⟨f, l, Nat.le_trans h1 hk, h2⟩, h.fa⟩
end Pan
namespace Pan
open PySem PySem.Spec L2
open PyProof.Rows hiding St
end Pan
namespace Pan
open PySem PySem.Spec L2
open PyProof.Rows hiding St
end Pan
namespace Pan
open PySem PySem.Spec L2
open PyProof.Rows hiding St
end Pan
namespace Pan
open PySem PySem.Spec L2
open PyProof.Rows hiding St
variable [TabsIn]
section
variable {P : Program} {w : World} {K : PySem.W.Frag} {mg : Str → Option Value} {base : Heap} {gl bl ex ms : List Str} {ci : List (Str × Int)} {cs : List (Str × Str)} {fn : List He.DefD}
theorem Md.glo (M : Md P w K mg gl bl ci cs ex fn) {x : Str} (h : gl.contains x = true) : mg x = some (.ref (He.ga K x)) := by
  obtain ⟨h', X, G, c⟩ := M.in_
  refine He.glo_ok X G (fa_in c (f := .glo x) ?_)
  unfold faOf
  simp only [List.mem_append, List.mem_map]
  exact .inl ⟨x, by simpa using h, rfl⟩
variable {N ps mu di tu ob : List Str} {Γ : List FnR} {Δ : List ActR} {g : Sg2} {ss : S2s} {j n : Nat} {st : Stmt} {m qual x : Str}
abbrev BindOk (st : Stmt) (x qual : Str) (ps : List Str) : Prop := ∀ (kV doc pm : Value) (an : Option Addr) (cdv ct : Value) (us : List Value), us.length = ps.length → bindArgs (PySem.W.fnOf x qual (defArgs st) (defBody st) (defScope st) .none kV doc pm an cdv ct) ⟨us, []⟩ = pure (ps.zip us)
end
end Pan
namespace Pan
open PySem PySem.Spec L2
open PyProof.Rows hiding St
variable [TabsIn]
/-- a function's object, known to the letter -/
def FunO (f : Addr) (ob : Obj) : HO := .ext fun h => h.get? f = some ob
/-- a lambda's object -/
abbrev lamO (q : Str) (params : Arguments) (body : Expr) (scope : Scope) (cl : List (Str × Addr)) (pm : Value) (c' : Addr) (ctv : Value) : Obj := PySem.W.kla_obj "<lambda>" q params body scope cl pm c' ctv
theorem funO_ok {P : Program} {w : World} {H : Hp} {h : Heap} {f : Addr} {ob : Obj} (e : h.get? f = some ob) : ObjOk P w H h f (FunO f ob) := ⟨e, ⟨ob, e⟩, fun _ _ q st => st _ q⟩
theorem funO_get {X : Cx} {pins : List (Addr × Obj)} {σ : St} {H : Hp} {s : Shared} {f : Addr} {ob : Obj} (I : Inv X pins σ H s) (e : H f = some (FunO f ob)) : s.heap.get? f = some ob := (I.hok f _ e).1
/-- what the making of lambdas asks of the def -/
structure LamC (X : Cx) (c P : Addr) : Prop where
  tb : LamX.TabB X.base X.mg c P
  code : X.env.code = .ref c
  mem : (P, X.env.qual ++ "<lambda>") ∈ TabsIn.T
  one : ∀ p ∈ TabsIn.T, p.1 = P → p.2 = X.env.qual ++ "<lambda>"
section
variable {X : Cx} {pins : List (Addr × Obj)} {σ : St} {H : Hp} {s : Shared}
theorem lam_new {c P : Addr} {params : Arguments} {body : Expr} {scope : Scope} {pos : Pos} {E : Value → Shared → Prop} {Q : Value → Shared → Prop} (I : Inv X pins σ H s) (C : LamC X c P) (hT : LamX.Tabs TabsIn.T H) (hdef : defaultsOf params X.env = ([], []))
    (hfree : ∀ y ∈ scope.names, y.2 = .free → ∃ c, X.env.cells.lookup y.1 = some c)
    (h : ∀ (f c' : Addr) (pm ctv : Value) (H1 : Hp) (s' : Shared), Inv X pins σ (upd H1 f (FunO f (lamO (X.env.qual ++ "<lambda>") params body scope (cloFrom X.env.cells scope.names []) pm c' ctv))) s' → SameT H H1 → H f = none → H1 f = none →
      H1 c' = some (LamX.CodeO c' (X.env.qual ++ "<lambda>")) → (∀ b, H b = none → H1 b ≠ none → b = c') → Q (.ref f) s') : wpAny (model X.prog X.w) X.A (eval (.Lambda params body scope pos) X.env) Q E s := by
  obtain ⟨ps, hP, ht, ha⟩ := hT _ C.mem
  have bP : s.heap.BuiltinsAt X.mg P := C.tb.bm.keeps I.bk
  have gP : s.heap.get? P = some { cls := .none, data := .fields ps } := I.hok P _ hP
  refine PySem.W.kla_eval hdef ?_
  cases hc : codeAmong pos ps.toList with
  | some cv =>
    obtain ⟨c', rfl, hco⟩ := ha pos cv hc
    refine PySem.W.kla_makeFunctionHit (mg := X.mg) (c := c) (P := P) (ps := ps) (closure_ok hfree) I.ok.glob (I.mod.glob.keeps I.bk) C.code (C.tb.code.keeps I.bk) gP ht hc bP fun ctv h' tk hx hsz => ?_
    have I1 : Inv X pins σ H { s with heap := h', toks := tk } := I.kept (t' := tk) fun b o e => hx b o e
    have I2 := I1.laid (t' := tk) (h' := h'.push (lamO (X.env.qual ++ "<lambda>") params body scope (cloFrom X.env.cells scope.names []) ((X.mg "__name__").getD .none) c' ctv)) (a := h'.objs.size) (fun b u e => Heap.get?_push_of_some _ e) (Nat.le_refl _) (funO_ok (Heap.get?_push_size _ rfl))
    have fr : H h'.objs.size = none := I1.hok.fresh (Nat.le_refl _)
    exact h _ c' _ ctv H _ I2 (SameT.refl H) fr fr hco fun b h1 h2 => absurd h1 h2
  | none =>
    refine PySem.W.kla_makeFunction (mg := X.mg) (c := c) (P := P) (ps := ps) (closure_ok hfree) I.ok.glob (I.mod.glob.keeps I.bk) C.code (C.tb.code.keeps I.bk) gP ht hc C.tb.gP bP fun c' ctv h' tk hx hge hlt hrec htb => ?_
    obtain ⟨c2, oc, vs, t, e2, hoc, hd, hv⟩ := hrec
    cases e2
    have I1 := LamX.inv_table (t' := tk) (more := #[rawInt pos.line, rawInt pos.col, .ref c']) (h' := h') (q := X.env.qual ++ "<lambda>") I hP (fun b o hb e => hx b o hb e) htb hge ⟨oc, vs, t, hoc, hd, hv⟩
    have I2 := I1.laid (t' := tk) (h' := h'.push (lamO (X.env.qual ++ "<lambda>") params body scope (cloFrom X.env.cells scope.names []) ((X.mg "__name__").getD .none) c' ctv)) (a := h'.objs.size) (fun b u e => Heap.get?_push_of_some _ e) (Nat.le_refl _) (funO_ok (Heap.get?_push_size _ rfl))
    have nC : H c' = none := I.hok.fresh hge
    have fr1 := I1.hok.fresh (Nat.le_refl h'.objs.size)
    have fr : H h'.objs.size = none := I.hok.fresh (Nat.le_trans hge (Nat.le_of_lt hlt))
    have nP : P ≠ c' := ne_of_none hP nC
    have atP : upd (upd H P (.tbl (ps ++ #[rawInt pos.line, rawInt pos.col, .ref c']))) c' (LamX.CodeO c' (X.env.qual ++ "<lambda>")) P = some (.tbl (ps ++ #[rawInt pos.line, rawInt pos.col, .ref c'])) := by rw [upd_ne nP, upd_same]
    have keep : ∀ b o, H b = some o → b ≠ P → upd (upd H P (.tbl (ps ++ #[rawInt pos.line, rawInt pos.col, .ref c']))) c' (LamX.CodeO c' (X.env.qual ++ "<lambda>")) b = some o := fun b o e n => by
      rw [upd_ne (ne_of_none e nC), upd_ne n]; exact e
    have nt : ∀ b o, H b = some o → nT o = true → b ≠ P := fun b o e n z => by rw [z, hP] at e; cases e; cases n
    have eL : (ps ++ #[rawInt pos.line, rawInt pos.col, .ref c']).toList = ps.toList ++ [rawInt pos.line, rawInt pos.col, .ref c'] := by simp
    refine h _ c' _ ctv _ _ I2 ⟨fun b o e n => keep b o e (nt b o e n), fun b qs e => ?_, fun t0 p hp => ?_⟩ fr fr1 upd_same fun b h1 h2 => ?_
    · by_cases z : b = P
      · rw [z]; exact ⟨_, atP⟩
      · exact ⟨qs, keep b _ e z⟩
    · by_cases z : p.1 = P
      · rw [C.one p hp z, z]
        refine ⟨_, atP, by rw [eL]; exact PySem.TriplesOk_snoc _ _ _ _ ht, fun p' cv hcv => ?_⟩
        rw [eL] at hcv
        rcases LamX.among_app _ ht hcv with y | y
        · obtain ⟨c0, e1, e2⟩ := ha p' cv y
          exact ⟨c0, e1, keep c0 _ e2 fun w => by rw [w, hP] at e2; exact LamX.codeO_ne ps (Option.some.inj e2).symm⟩
        · exact ⟨c', y, upd_same⟩
      · obtain ⟨qs, a1, a2, a3⟩ := t0 p hp
        refine ⟨qs, keep _ _ a1 z, a2, fun p' cv hcv => ?_⟩
        obtain ⟨c0, e1, e2⟩ := a3 p' cv hcv
        exact ⟨c0, e1, keep c0 _ e2 fun w => by rw [w, hP] at e2; exact LamX.codeO_ne ps (Option.some.inj e2).symm⟩
    · by_cases z : b = c'
      · exact z
      · rw [upd_ne z] at h2
        by_cases y : b = P
        · rw [y, hP] at h1; cases h1
        · rw [upd_ne y] at h2; exact absurd h1 h2
/-- a lambda is made -/
def tLm (X : Cx) (params : Arguments) (body : Expr) (scope : Scope) : TE := fun σ H Q => LamX.Tabs TabsIn.T H ∧ ∀ (f c' : Addr) (pm ctv : Value) (H1 : Hp), SameT H H1 → H f = none → H1 f = none → H1 c' = some (LamX.CodeO c' (X.env.qual ++ "<lambda>")) → (∀ b, H b = none → H1 b ≠ none → b = c') →
  Q (.ref f) (upd H1 f (FunO f (lamO (X.env.qual ++ "<lambda>") params body scope (cloFrom X.env.cells scope.names []) pm c' ctv)))
theorem pe_lam {c P : Addr} {params : Arguments} {body : Expr} {scope : Scope} {pos : Pos} (C : LamC X c P) (hfr : ∀ y ∈ scope.names, y.2 = .free → X.env.scope.names.lookup y.1 = some .cell ∨ X.env.scope.names.lookup y.1 = some .free) (hdef : defaultsOf params X.env = ([], [])) : PE X (.Lambda params body scope pos) (tLm X params body scope) :=
  ⟨fun pins s σ H Q I h => lam_new I C h.1 hdef (fun y hy e => I.ok.has _ (hfr y hy e)) fun f c' pm ctv H1 s' I1 sm n1 n2 hc nw => ⟨.ref f, _, I1, rfl, h.2 f c' pm ctv H1 sm n1 n2 hc nw⟩⟩
end
abbrev keyB (p1 p2 p3 p4 p5 p6 p7 p8 p9 : Pos) (k1 k2 k3 : Nat) : Expr := .BinOp (.Constant (.int 0) k1 p1) .Sub (.BinOp (.Subscript (.Name "one" p2) (.Constant (.int 0) k2 p3) p4) .Mult (.Subscript (.Name "one" p5) (.Constant (.int 1) k3 p6) p7) p8) p9
abbrev keyP (pp : Pos) : Arguments := { posonlyargs := [], args := [{ arg := "one", annotation := none, pos := pp }], vararg := none, kwonlyargs := [], kw_defaults := [], kwarg := none, defaults := [] }
def keyI (p : Addr × Int × Int) : Int := 0 - p.2.1 * p.2.2
section
variable {prog : Program} {w : World} {A : Around} {E : Value → Shared → Prop} {s : Shared} {p1 p2 p3 p4 p5 p6 p7 p8 p9 : Pos} {k1 k2 k3 : Nat}
theorem key_eval {env : PySem.Env} {m : Str → Option Value} {a : Addr} {i j : Int} {t u : Tok} {Q : Value → Shared → Prop} (hk : env.scope.kind = .function) (hl : env.kindOf "one" = some .local) (hm : m "one" = some (.ref a)) (hb : -(2 ^ 64) < i ∧ i < 2 ^ 64)
    (ns : s.heap.Ns env.locals m) (ht : PyProof.Rows.IsTup s.heap a #[.int i t, .int j u]) (h : ∀ t' tk, Q (.int (0 - i * j) t') { s with toks := tk }) : wpAny (model prog w) A (eval (keyB p1 p2 p3 p4 p5 p6 p7 p8 p9 k1 k2 k3) env) Q E s := by
  refine wpAny_BinOp (wpAny_Constant_int (wpAny_BinOp ?_))
  refine Subscript_ (wpAny_Name (wpAny_loadName_local hk hl (s := { s with toks := s.toks + 1 }) ns hm (wpAny_Constant_int ?_)))
  refine item_tuple (s := { s with toks := s.toks + 1 + 1 }) ht (by decide) (by decide) (j := 0) rfl rfl ?_
  refine Subscript_ (wpAny_Name (wpAny_loadName_local hk hl (s := { s with toks := s.toks + 1 + 1 }) ns hm (wpAny_Constant_int ?_)))
  refine item_tuple (s := { s with toks := s.toks + 1 + 1 + 1 }) ht (by decide) (by decide) (j := 1) rfl rfl ?_
  refine PyProof.Rows.mul_int (s := { s with toks := s.toks + 1 + 1 + 1 }) ?_ (CMul.ok (.inl hb))
  exact PyProof.Rows.sub_int (s := { s with toks := s.toks + 1 + 1 + 1 + 1 }) (h _ _)
/-- the key's call -/
theorem key_call {pp : Pos} {f a c' : Addr} {q : Str} {scope : Scope} {pm ctv : Value} {i j : Int} {t u : Tok} (hs : scope.kind = .function ∧ scope.isCoroutine = false ∧ scope.isGenerator = false ∧ scope.names = [(("one" : Str), NameKind.local)]) (hf : s.heap.get? f = some (lamO q (keyP pp) (keyB p1 p2 p3 p4 p5 p6 p7 p8 p9 k1 k2 k3) scope [] pm c' ctv))
    (hc : ∃ (oc : Obj) (vs : Array Value) (t : Tok), s.heap.get? c' = some oc ∧ oc.data = .fields vs ∧ vs[1]? = some (.str q t)) (hr : A.depth < recursionLimit) (lim : s.heap.NoLimit) (hb : -(2 ^ 64) < i ∧ i < 2 ^ 64) (ht : PyProof.Rows.IsTup s.heap a #[.int i t, .int j u]) :
    wpAny (model prog w) A (call (.ref f) [.ref a]) (PySem.W.KeyPure (.int (0 - i * j)) s) (fun _ _ => False) s := by
  obtain ⟨hk, hco, hg, hn⟩ := hs
  obtain ⟨oc, vs, tq, e1, e2, e3⟩ := hc
  refine wpAny_call ?_
  refine PySem.W.kla_callFunE hr hf rfl hco hg rfl ⟨c', oc, vs, tq, rfl, e1, e2, e3⟩ ?_
  have hbind : bindArgs (PySem.W.kla_fn "<lambda>" q (keyP pp) (keyB p1 p2 p3 p4 p5 p6 p7 p8 p9 k1 k2 k3) scope [] pm (.ref c') ctv) ⟨[.ref a], []⟩ = pure [(("one" : Str), Value.ref a)] := rfl
  rw [hbind]
  refine wpAny_pure (wpAny_newFunctionEnv (fun y hy => ?_) (fun y hy => ?_) (fun h₁ hns hsb => ⟨lim.fresh _ hsb, ?_⟩) hk)
  · rw [hn] at hy
    rw [List.mem_singleton.mp hy]
    exact fun z => by cases z
  · rw [List.mem_singleton.mp hy, hn]
    rfl
  show codeAny _ _ (.expr _ (PySem.W.envX q scope s.heap.objs.size f (.ref c') [])) _ _
  have kp : ∀ b o, s.heap.get? b = some o → h₁.get? b = some o := fun b o e => hsb.extBut b o (Nat.ne_of_lt (Heap.lt_size e)) (Heap.get?_push_of_some _ e)
  refine PySem.W.kla_codeExpr ?_
  obtain ⟨o0, g1, g2⟩ := ht
  refine key_eval (s := { s with heap := h₁, toks := s.toks + 1 }) (env := PySem.W.envX q scope s.heap.objs.size f (.ref c') []) (m := fun x => [(("one" : Str), Value.ref a)].reverse.lookup x) hk (by show scope.names.lookup ("one" : Str) = _; rw [hn]; rfl) rfl hb hns ⟨o0, kp _ _ g1, g2⟩ fun t' tk => ?_
  exact ⟨h₁, tk, rfl, kp, .int _ _⟩
end
def keyRf (ks : List (Addr × Int × Int)) : List V := ks.map fun p => V.ref p.1
def keySrt (ks : List (Addr × Int × Int)) : List (Addr × Int × Int) := ks.mergeSort fun x y => decide (keyI x ≤ keyI y)
def rKeyS (K : PySem.W.Frag) (q : Str) (params : Arguments) (body : Expr) (scope : Scope) : List V → List V → Hp → VK → Prop := fun vs zs H Q => ∃ (l f c' : Addr) (pm ctv : Value) (ks : List (Addr × Int × Int)), vs = [V.ref l] ∧ zs = [V.ref f] ∧ SqL K H l (keyRf ks) ∧ (∀ p ∈ ks, SqT K H p.1 [V.int p.2.1, V.int p.2.2] ∧ -(2 ^ 64) < p.2.1 ∧ p.2.1 < 2 ^ 64) ∧
  H f = some (FunO f (lamO q params body scope [] pm c' ctv)) ∧ H c' = some (LamX.CodeO c' q) ∧ ∀ p, H p = none → Q (.ref p) (upd H p (.lst (keyRf (keySrt ks))))
theorem refs_each {ks : List (Addr × Int × Int)} : ∀ {its : List Value}, PySem.W.EachIs (fun (v : Value) (p : Addr × Int × Int) => v = .ref p.1) its ks → Vals (keyRf ks) its := by
  intro its h
  induction h with
  | nil => exact .nil
  | cons h1 h2 ih => exact .cons h1 ih
theorem each_refs : ∀ {ks : List (Addr × Int × Int)} {its : List Value}, Vals (keyRf ks) its → PySem.W.EachIs (fun (v : Value) (p : Addr × Int × Int) => v = .ref p.1) its ks
  | [], _, h => by cases h; exact .nil
  | p :: ks, _, h => by
    cases h with
    | cons h1 h2 => exact .cons h1 (each_refs h2)
theorem cr_keyS {X : Cx} {q : Str} {scope : Scope} {pp p1 p2 p3 p4 p5 p6 p7 p8 p9 : Pos} {k1 k2 k3 : Nat} (hs : scope.kind = .function ∧ scope.isCoroutine = false ∧ scope.isGenerator = false ∧ scope.names = [(("one" : Str), NameKind.local)]) (hr : X.A.in1.in1.depth < recursionLimit) (hu : X.A.units + 64 < cLine) :
    CallRK X (.builtin "sorted") [Str.ofString "key"] (rKeyS X.K q (keyP pp) (keyB p1 p2 p3 p4 p5 p6 p7 p8 p9 k1 k2 k3) scope) := by
  intro pins s σ H vs zs us ws Q I r rz h
  obtain ⟨l, f, c', pm, ctv, ks, rfl, rfl, hl, hk, hf, hc, qq⟩ := h
  obtain rfl := Vals.ref1 r
  obtain rfl := Vals.ref1 rz
  obtain ⟨its, rv, pl, hz⟩ := I.list hl
  have gf := funO_get I hf
  obtain ⟨⟨oc, us2, t, e1, e2, e3⟩, _, _⟩ := I.hok c' _ hc
  have ev := each_refs rv
  have lks : ks.length = its.length := by rw [← rv.length]; unfold keyRf; rw [List.length_map]
  have lk : (keyRf ks).length = ks.length := by unfold keyRf; rw [List.length_map]
  refine PySem.W.sorted_key_data (b := false) (fun p : Addr × Int × Int => .int (keyI p)) pl.isList ev (PySem.W.AllAlike.of fun _ _ => rfl) (PySem.W.Sortable.others fun _ => ⟨by simp, fun _ z => by cases z⟩) (by rw [← lk]; exact hz) (fun p _ => ?_) (PyProof.Rows.ksk_s1 _ _) (fun _ => PyProof.Rows.ksk_l1 _ _) (fun _ => PyProof.Rows.ksk_t1 _ _)
    (fun v p hv hp h tk kp => ?_) fun out c h' tk kp fr hD hlen eo => ?_
  · have : (PyData.int (keyI p)).depth = 0 := by simp [PyData.depth]
    omega
  · subst hv
    obtain ⟨ht, hb⟩ := hk p hp
    obtain ⟨its2, r2, ⟨o, ho, hcl, n, hd⟩, _⟩ := I.tuple ht
    obtain ⟨u1, u2, rfl, g1, g2⟩ := vals2 r2
    obtain ⟨t1, rfl⟩ := g1
    obtain ⟨t2, rfl⟩ := g2
    exact key_call (s := { s with heap := h, toks := tk }) hs (kp _ _ gf) ⟨oc, us2, t, kp _ _ e1, e2, e3⟩ hr (I.nolimit.keeps kp) hb ⟨o, kp _ _ ho, hcl, n, hd⟩
  · rw [PySem.W.dataLe_int] at eo
    have rs := refs_each eo
    have lo : (keyRf (keySrt ks)).length ≤ sizeLine := by
      have : (keyRf (keySrt ks)).length = ks.length := by unfold keyRf keySrt; rw [List.length_map, List.length_mergeSort]
      rw [this, ← lk]; exact hz
    exact ⟨.ref _, _, I.laid (a := s.heap.objs.size + 1) (o := .lst (keyRf (keySrt ks))) (t' := tk) kp (Nat.le_succ _) ⟨lo, out, c, rs, hD⟩, rfl, qq _ (I.hok.fresh (Nat.le_succ _))⟩
end Pan
namespace Pan
open PySem PySem.Spec L2
open PyProof.Rows hiding St
def isPrS : D → Bool
  | .tup [.int i, .int j] => smallI i && smallI j
  | _ => false
def kprK : D → Int
  | .tup [.int i, .int j] => 0 - i * j
  | _ => 0
def sortK (ds : List D) : List D := ds.mergeSort fun x y => decide (kprK x ≤ kprK y)
def sortKS : D → R D
  | .lst ds => if ds.all isPrS then .ok (.lst (sortK ds)) else .bad
  | _ => .bad
variable [TabsIn]
def kprD (p : Addr × Int × Int) : D := .tup [.int p.2.1, .int p.2.2]
theorem kprs_of {K : PySem.W.Frag} {F : Hp} : ∀ {xs : List V} {ds : List D}, Rps K F xs ds → ds.all isPrS = true → ∃ ks : List (Addr × Int × Int), xs = keyRf ks ∧ ds = ks.map kprD ∧ ∀ p ∈ ks, IsT F p.1 [V.int p.2.1, V.int p.2.2] ∧ -(2 ^ 64) < p.2.1 ∧ p.2.1 < 2 ^ 64
  | _, _, .nil, _ => ⟨[], rfl, rfl, fun p h => by cases h⟩
  | _, _, .cons (d := d) h r, e => by
    rw [List.all_cons, Bool.and_eq_true] at e
    obtain ⟨ks, rfl, rfl, hk⟩ := kprs_of r e.2
    have e1 := e.1
    unfold isPrS at e1
    split at e1
    · rename_i i j
      cases h with
      | tup ea rr =>
        cases rr with
        | cons a1 r2 =>
          cases r2 with
          | cons a2 r3 =>
            cases r3
            cases a1
            cases a2
            rw [Bool.and_eq_true] at e1
            have b := e1.1
            unfold smallI at b
            rw [Bool.and_eq_true, decide_eq_true_eq, decide_eq_true_eq] at b
            refine ⟨(_, i, j) :: ks, rfl, rfl, fun p hp => ?_⟩
            rcases List.mem_cons.mp hp with z | z
            · subst z
              exact ⟨ea, show -(2 ^ 64) < i by omega, show i < 2 ^ 64 by omega⟩
            · exact hk p z
    · cases e1
theorem sortK_map (ks : List (Addr × Int × Int)) : sortK (ks.map kprD) = (keySrt ks).map kprD := by
  unfold sortK keySrt
  rw [List.map_mergeSort]
  intro a _ b _
  rfl
theorem kprs_rps {K : PySem.W.Frag} {F : Hp} : ∀ {L : List (Addr × Int × Int)}, (∀ p ∈ L, IsT F p.1 [V.int p.2.1, V.int p.2.2]) → Rps K F (keyRf L) (L.map kprD)
  | [], _ => .nil
  | p :: L, h => .cons (.tup (h p List.mem_cons_self) (.cons (.int _) (.cons (.int _) .nil))) (kprs_rps fun q hq => h q (List.mem_cons_of_mem _ hq))
section
variable {X : Cx} {W : WX} {cl : Nat → Value} {a : Expr} {ra : Env → R D} {pp p1 p2 p3 p4 p5 p6 p7 p8 p9 lp kp p pos : Pos} {k1 k2 k3 : Nat} {c P : Addr} {scope : Scope}
abbrev sortCall (a : Expr) (pp p1 p2 p3 p4 p5 p6 p7 p8 p9 lp kp p pos : Pos) (k1 k2 k3 : Nat) (scope : Scope) : Expr := .Call (.Name "sorted" p) [a] [⟨some "key", .Lambda (keyP pp) (keyB p1 p2 p3 p4 p5 p6 p7 p8 p9 k1 k2 k3) scope lp, kp⟩] pos
theorem ce_sortk (hs : scope.kind = .function ∧ scope.isCoroutine = false ∧ scope.isGenerator = false ∧ scope.names = [(("one" : Str), NameKind.local)]) (C : LamC X c P) (hr : X.A.in1.in1.depth < recursionLimit) (hu : X.A.units + 64 < cLine) (hg : Gl X "sorted") (hm : X.mg "sorted" = none) (ns : ∀ x p, a ≠ .Starred x p) (ha : PE X a (tE X.K W cl ra)) :
    PE X (sortCall a pp p1 p2 p3 p4 p5 p6 p7 p8 p9 lp kp p pos k1 k2 k3 scope) (tE X.K W cl fun e => do let x ← ra e; sortKS x) := by
  have hn := hs.2.2.2
  have st := fun (es : List Expr) => star_of (es := es) (env := X.env) ns
  have hcl : cloFrom X.env.cells scope.names [] = [] := by rw [hn]; rfl
  refine PE.imp (pe_callBK (cr_keyS (q := X.env.qual ++ "<lambda>") (pp := pp) (p1 := p1) (p2 := p2) (p3 := p3) (p4 := p4) (p5 := p5) (p6 := p6) (p7 := p7) (p8 := p8) (p9 := p9) (k1 := k1) (k2 := k2) (k3 := k3) hs hr hu) hg hm (by rfl) (pa_cons ha pa_nil (st [])) (pk_cons (pe_lam C (fun y hy e => by rw [hn] at hy; rw [List.mem_singleton.mp hy] at e; cases e) rfl) pk_nil) (by decide) (by decide) (by rw [st]; rfl) (by rw [st]; rfl)) fun σ H Q _ q => ?_
  obtain ⟨e, F, vr, w⟩ := q
  refine ⟨e, F, vr, w.bind.mono fun x F1 H1 x1 w1 vx rx => ?_⟩
  refine ⟨x1.sub.tabs, fun f c' pm ctv H2 sm n1 n2 hc nw => ?_⟩
  show rKeyS _ _ _ _ _ [vx] [V.ref f] _ Q
  cases rx <;> simp only [sortKS] at w1 <;> try exact w1.elim
  rename_i l xs ds ea r
  split at w1
  · rename_i hall
    obtain ⟨ks, rfl, rfl, hk⟩ := kprs_of r hall
    rw [hcl]
    have s3 : SameT H1 (upd H2 f (FunO f (lamO (X.env.qual ++ "<lambda>") (keyP pp) (keyB p1 p2 p3 p4 p5 p6 p7 p8 p9 k1 k2 k3) scope [] pm c' ctv))) := sm.trans (.of (same_upd n2))
    have sub2 := x1.sub.same s3
    have xe : Ext F1 H1 F1 (upd H2 f (FunO f (lamO (X.env.qual ++ "<lambda>") (keyP pp) (keyB p1 p2 p3 p4 p5 p6 p7 p8 p9 k1 k2 k3) scope [] pm c' ctv))) := ⟨s3, Same.refl _, sub2, fun _ _ z => .inl z⟩
    refine ⟨l, f, c', pm, ctv, ks, rfl, rfl, SqL.of (sub2.lst ea), fun p hp => ⟨(sub2.tup (hk p hp).1).sq, (hk p hp).2⟩, upd_same, ?_, fun p hp => ?_⟩
    · rw [upd_ne (fun z => by rw [z, n2] at hc; cases hc)]
      exact hc
    · rw [sortK_map] at w1
      have x3 := Ext.laid (.lst (keyRf (keySrt ks))) sub2 hp
      refine w1 _ _ (xe.trans x3) _ (.lst upd_same ((kprs_rps fun p hp => ?_).mono x3.grow))
      exact (hk p (List.mem_mergeSort.mp hp)).1
  · exact w1.elim
end
/-- the code object of a function -/
def refOf : Value → Option Addr
  | .ref c => some c
  | _ => none
def codeOf (K : PySem.W.Frag) (f : Addr) : Option Addr := match K.lookup f with
  | some ⟨_, _, .func fd, _⟩ => refOf fd.code
  | _ => none
theorem okC {P : Program} {w : World} {K : PySem.W.Frag} {mg : Str → Option Value} {base : Heap} {x qual : Str} {params : Arguments} {body : List Stmt} {scope : Scope} {f c : Addr} {fd : FuncData} {CX : CXT} {N ps : List Str} {k : Nat} {sp : Sp} (F : FunD K x qual params body scope [] [] f fd) (hc : codeOf K f = some c) (S : FnScope N ps scope) (len : ∀ vs H Q E, sp vs H Q E → vs.length = ps.length)
    (hbody : ∀ (A : Around) (outer : List PySem.Env) (s : Shared) (H : Hp) (vs : List V) (Q : VK) (E : XK), Room k (A.deeper (envOfC qual scope s.heap.objs.size f (.ref c))) → sp vs H Q E →
      ∃ t, PSs (cxOf CX P w K mg base N qual scope f (.ref c) A outer s H E) body t ∧ t { nx := fun _ H' => Q .non H', rt := Q } (start N vs) H) : FnOk P w K mg base CX (k + 1) f fd ps sp := by
  obtain ⟨oc, od, dV, kV, doc, pm, an, cdv, ct, osl, rfl, lk, hcd, _, _⟩ := F.ex
  have ec : cdv = .ref c := by
    unfold codeOf at hc
    rw [lk] at hc
    have hc : refOf cdv = some c := hc
    unfold refOf at hc
    split at hc
    · cases hc; rfl
    · cases hc
  subst ec
  exact fn_of lk hcd S len fun A outer s H vs Q E hr hsp => hbody A outer s H vs Q E hr hsp
/-- a def's tables -/
structure LamT (base : Heap) (mg : Str → Option Value) (qual : Str) (c P : Addr) : Prop where
  tb : LamX.TabB base mg c P
  mem : (P, qual ++ ".<locals>." ++ "<lambda>") ∈ TabsIn.T
  one : ∀ p ∈ TabsIn.T, p.1 = P → p.2 = qual ++ ".<locals>." ++ "<lambda>"
section
variable {P : Program} {w : World} {K : PySem.W.Frag} {mg : Str → Option Value} {base : Heap} {ex : List Str} {cl : Nat → Value} {j : Nat} {c : Sig} {Γ : List FnR}
def srtF (Φ : Nat → List D → R D) (i : Nat) (g : G) (b post : Ss) (e : Env) : R Fl := andThen (lift (do let x ← ev Φ (.var i) e; let y ← sortKS x; itS .seq [y]) e fun ds => forM (fun d e1 => lift (asgG g d e1) e1 fun e2 => xss Φ b e2) ds e) (xss Φ post)
def runK (Φ : Nat → List D → R D) (n : Nat) (pre : List S) (i : Nat) (g : G) (b post : Ss) (ds : List D) : R D := ansF (preF Φ (srtF Φ i g b post) pre (ds.map Slot.val ++ List.replicate (n - ds.length) .no))
/-- THE RULE for a def that walks a list sorted by a key -/
theorem def_srt_ok {x qual y : Str} {params : Arguments} {body pre b post : List Stmt} {scope lscope : Scope} {f cc PP : Addr} {fd : FuncData} {ps : List Str} {n m nn i : Nat} {g : G} {l : List Pan.S} {sb sp : Ss} {tg : Expr} {pp p1 p2 p3 p4 p5 p6 p7 p8 p9 lp kp p q pos fp : Pos} {k1 k2 k3 : Nat}
    (Gl : Glob P w K mg ex c.ci c.cs c.bl cl) (fx : ∀ r ∈ Γ, FnG P w K mg base cl j r) (hfn : c.fns = Γ.map fun r => (r.name, r.n)) (hob : c.ob = []) (hcode : codeOf K f = some cc) (LT : LamT base mg qual cc PP)
    (hbody : body = pre ++ (.For tg (sortCall (.Name y q) pp p1 p2 p3 p4 p5 p6 p7 p8 p9 lp kp p pos k1 k2 k3 lscope) b [] fp :: post))
    (hls : lscope.kind = .function ∧ lscope.isCoroutine = false ∧ lscope.isGenerator = false ∧ lscope.names = [(("one" : Str), NameKind.local)])
    (F : FunD K x qual params body scope [] [] f fd) (S : FnScope c.N ps scope) (hgs : Pan.glob ⟨scope, fun _ => true⟩ "sorted" = true) (hbl : c.bl.contains "sorted" = true) (hy : Pan.slotN c ⟨scope, fun _ => true⟩ y = some i)
    (hpre : compPre c ex ⟨scope, fun _ => true⟩ (compE c (nn + 1) ⟨scope, fun _ => true⟩) pre = some l) (hg : compG c ⟨scope, fun _ => true⟩ tg = some g)
    (hb : compSs c ex ⟨scope, fun _ => true⟩ (compE c (nn + 1) ⟨scope, fun _ => true⟩) m b = some sb) (hp : compSs c ex ⟨scope, fun _ => true⟩ (compE c (nn + 1) ⟨scope, fun _ => true⟩) m post = some sp) (hn : ps.length = n) :
    FnOk P w K mg base (L2.CX P w) (j + 1) f fd ps (spOf K cl n (runK (phi Γ) c.N.length l i g sb sp)) := by
  refine okC F hcode S (spOf_len hn) fun A outer s H vs Q E hr h => ?_
  have ctx : CtxS c ex Γ cl j (cxOf (L2.CX P w) P w K mg base c.N qual scope f (.ref cc) A outer s H E) ⟨scope, fun _ => true⟩ (fun cls d _ H => E cls d H) := by
    refine ⟨⟨rfl, S.nd, rfl, fun _ _ => rfl, rfl, hr, takes_of rfl rfl rfl rfl, passes_of rfl, hfn, fun r hm => ⟨(fx r hm).ex⟩, Gl.ci, Gl.cs, Gl.bl, fun z => absurd hob z⟩, S.kind, fun i y hy => ?_⟩
    obtain ⟨C, h1, h2⟩ := Gl.exs i y hy
    exact ⟨C, h1, h2⟩
  obtain ⟨n1, n2, n3, n4⟩ := ctx.C.slotN hy
  obtain ⟨hgl, _⟩ := ctx.C.glob hgs
  have LC : LamC (cxOf (L2.CX P w) P w K mg base c.N qual scope f (.ref cc) A outer s H E) cc PP := ⟨LT.tb, rfl, LT.mem, LT.one⟩
  have un := ctx.C.room.un
  have dp := ctx.C.room.dp
  have hrm : (cxOf (L2.CX P w) P w K mg base c.N qual scope f (.ref cc) A outer s H E).A.in1.in1.depth < recursionLimit := by
    show (A.deeper (envOfC qual scope s.heap.objs.size f (.ref cc))).depth < _
    have dp : (A.deeper (envOfC qual scope s.heap.objs.size f (.ref cc))).depth + 3 * j + 5 < recursionLimit := dp
    omega
  have pv := ce_var (X := cxOf (L2.CX P w) P w K mg base c.N qual scope f (.ref cc) A outer s H E) (W := fun cls d _ H => E cls d H) (cl := cl) (pos := q) n1 n2 n3 n4
  have src := ce_sortk (pp := pp) (p1 := p1) (p2 := p2) (p3 := p3) (p4 := p4) (p5 := p5) (p6 := p6) (p7 := p7) (p8 := p8) (p9 := p9) (lp := lp) (kp := kp) (p := p) (pos := pos) (k1 := k1) (k2 := k2) (k3 := k3) hls LC hrm (by omega) hgl (ctx.C.bl _ hbl) (fun x p z => by cases z) pv
  have R1 := PSc (cs_for (pos := fp) ctx.C.pas ctx.C.calm (ci_seq src) (tg_ok ctx.C hg) (stmts_ok ctx m hb) (fun _ => rfl)) (r' := fun e => lift (do let x ← ev (phi Γ) (.var i) e; let y ← sortKS x; itS .seq [y]) e fun ds => forM (fun d e1 => lift (asgG g d e1) e1 fun e2 => xss (phi Γ) sb e2) ds e) fun e => by
    rw [R_assoc]; rfl
  subst hbody
  refine ⟨_, pre_ok ctx (k := srtF (phi Γ) i g sb sp) (cs_cons R1 (stmts_ok ctx m hp)) hpre, ?_⟩
  obtain ⟨F0, ds, hl, sub, r, q⟩ := h
  refine ⟨_, H, F0, _, F0, er_start (N := c.N) sub r, ?_⟩
  unfold runK at q
  show Post _ _ _ _ _ _ _ (preF (phi Γ) (srtF (phi Γ) i g sb sp) l (ds.map Slot.val ++ List.replicate (c.N.length - ds.length) .no))
  generalize preF (phi Γ) (srtF (phi Γ) i g sb sp) l (ds.map Slot.val ++ List.replicate (c.N.length - ds.length) .no) = z at q ⊢
  cases z with
  | bad => exact q
  | exc _ => exact q
  | ok fl =>
    cases fl with
    | nx e' => exact fun σ F H' er => q .non F H' er.ext .non
    | rt d => exact fun v F H' x rv => q v F H' x rv
    | ex cc e' => exact fun σ F H' er => q H' er.ext.same
end
end Pan
namespace Pan
open PySem PySem.Spec L2
open PyProof.Rows hiding St
/-- the code object of a def of the module, and its table -/
def tabL (K : PySem.W.Frag) (x : Str) : Option (Addr × Addr) := match codeOf K (He.ga K x) with
  | some c => (match K.lookup c with
    | some ⟨_, _, .fields vs, _⟩ => (match (vs[11]? : Option Value) with
      | some (.ref P) => some (c, P)
      | _ => none)
    | _ => none)
  | none => none
def lamQ (x : Str) : Str := x ++ ".<locals>." ++ "<lambda>"
/-- each of the defs has a table of its own that K does not tell -/
def lamOk (lam : List Str) (K : PySem.W.Frag) : Bool := (lam.all fun x => match tabL K x with
  | some q => PySem.W.codeHdIn K q.1 q.2 && (K.lookup q.2).isNone
  | none => false) && decide ((lam.filterMap fun x => (tabL K x).map (·.2)).Nodup)
def isTab0 : Option Obj → Bool
  | some ⟨.none, none, .fields vs, sl⟩ => vs.isEmpty && sl.isEmpty
  | _ => false
theorem isTab0_eq {o : Option Obj} (h : isTab0 o = true) : o = some (PySem.W.tabObj #[]) := by
  unfold isTab0 at h
  split at h
  · rename_i vs sl
    rw [Bool.and_eq_true, Array.isEmpty_iff, Array.isEmpty_iff] at h
    rw [h.1, h.2]
  · cases h
def tabG (g : Addr → Option Obj) (lam : List Str) (K : PySem.W.Frag) : Bool := lam.all fun x => match tabL K x with
  | some q => isTab0 (g q.2)
  | none => false
def cutF (K : PySem.W.Frag) (as : List Addr) : PySem.W.Frag := K.filter fun p => !as.contains p.1
theorem lookup_filter {α : Type} {q : Addr → Bool} {a : Addr} {o : α} : ∀ {K : List (Addr × α)}, (K.filter fun p => q p.1).lookup a = some o → K.lookup a = some o
  | [], h => by cases h
  | (b, u) :: K, h => by
    rw [List.filter_cons] at h
    by_cases e : a = b
    · subst e
      split at h
      · rw [List.lookup_cons] at h ⊢
        simp at h ⊢
        exact h
      · rename_i hq
        exfalso
        have go : ∀ l : List (Addr × α), (l.filter fun p => q p.1).lookup a = some o → q a = true := by
          intro l
          induction l with
          | nil => intro z; cases z
          | cons y l ih =>
            intro z
            rw [List.filter_cons] at z
            by_cases hy : q y.1 = true
            · rw [if_pos hy, List.lookup_cons] at z
              by_cases h2 : (a == y.1) = true
              · rw [eq_of_beq h2]; exact hy
              · rw [Bool.not_eq_true] at h2
                rw [h2] at z
                exact ih z
            · rw [if_neg hy] at z
              exact ih z
        exact hq (go K h)
    · rw [List.lookup_cons]
      have e2 : (a == b) = false := by simpa using e
      rw [e2]
      split at h
      · rw [List.lookup_cons, e2] at h
        exact lookup_filter h
      · exact lookup_filter h
theorem cutF_in {K : PySem.W.Frag} {h : Heap} {as : List Addr} (x : K.In h) : (cutF K as).In h := fun a o e => x a o (lookup_filter (q := fun a => !as.contains a) e)
/-- what is observed: the names' objects but the tables -/
def fragL (n : Nat) (lam : List Str) (g : Addr → Option Obj) : PySem.W.Frag := cutF (He.frG g (He.asD g n)) (lam.filterMap fun x => (tabL (He.frG g (He.asD g n)) x).map (·.2))
def obsL (n : Nat) (fa : List He.Fa) (fn : List He.DefD) (bx : PySem.W.Frag → Bool) (lam : List Str) (g : Addr → Option Obj) : He.AlD × Bool := (He.obsD fa fn (fragL n lam g), bx (fragL n lam g) && (lamOk lam (fragL n lam g) && tabG g lam (fragL n lam g)))
def hookL (n : Nat) (fa : List He.Fa) (fn : List He.DefD) (bx : PySem.W.Frag → Bool) (lam : List Str) : PySem.W.Hook where
  α := He.AlD × Bool
  obs := fun s => obsL n fa fn bx lam s.heap.get?
  val := fun _ => (He.valD fn, true)
  says := fun _ h => ∃ K : PySem.W.Frag, K.In h ∧ He.SaysD fa fn K ∧ bx K = true ∧ lamOk lam K = true ∧ ∀ x ∈ lam, ∀ q, tabL K x = some q → h.get? q.2 = some (PySem.W.tabObj #[])
  of := fun _ s e => by
    have e1 := congrArg Prod.fst e
    have e2 := congrArg Prod.snd e
    have e2 : (bx (fragL n lam s.heap.get?) && (lamOk lam (fragL n lam s.heap.get?) && tabG s.heap.get? lam (fragL n lam s.heap.get?))) = true := e2
    rw [Bool.and_eq_true, Bool.and_eq_true] at e2
    refine ⟨fragL n lam s.heap.get?, cutF_in He.frG_in, e1, e2.1, e2.2.1, fun x hx q hq => ?_⟩
    have := List.all_eq_true.mp e2.2.2 x hx
    rw [hq] at this
    exact isTab0_eq this
  keeps := fun _ _ _ ⟨K, hK, c1, c2, c3, c4⟩ k => ⟨K, PySem.W.Frag.In.keeps hK k, c1, c2, c3, fun x hx q hq => k _ _ (c4 x hx q hq)⟩
theorem obsL_eq {n : Nat} {fa : List He.Fa} {fn : List He.DefD} {bx : PySem.W.Frag → Bool} {lam : List Str} {g : Addr → Option Obj} {s : Shared} (h : ∀ a, g a = s.heap.get? a) : obsL n fa fn bx lam g = (hookL n fa fn bx lam).obs s := by
  have e : g = s.heap.get? := funext h
  subst e
  rfl
/-- the tables, by the module's facts -/
def tabsT (lam : List Str) (K : PySem.W.Frag) : List (Addr × Str) := lam.filterMap fun x => (tabL K x).map fun q => (q.2, lamQ x)
@[reducible] def tabsI (lam : List Str) (K : PySem.W.Frag) : TabsIn := ⟨tabsT lam K⟩
/-- what a def that makes lambdas asks -/
def LamG [TabsIn] (K : PySem.W.Frag) (mg : Str → Option Value) (base : Heap) (x : Str) : Prop := ∃ c P, codeOf K (He.ga K x) = some c ∧ LamT base mg x c P
theorem tabL_code {K : PySem.W.Frag} {x : Str} {q : Addr × Addr} (h : tabL K x = some q) : codeOf K (He.ga K x) = some q.1 := by
  unfold tabL at h
  split at h
  · rename_i c hc
    split at h
    · split at h
      · cases h; exact hc
      · cases h
    · cases h
  · cases h
theorem filterMap_nodup {α β : Type} {f : α → Option β} : ∀ {l : List α}, (l.filterMap f).Nodup → ∀ {a b : α} {y : β}, a ∈ l → b ∈ l → f a = some y → f b = some y → a = b
  | [], _, a, b, y, ha, _, _, _ => by cases ha
  | x :: l, nd, a, b, y, ha, hb, ea, eb => by
    have nl : (l.filterMap f).Nodup := by
      rw [List.filterMap_cons] at nd
      split at nd
      · exact nd
      · exact (List.nodup_cons.mp nd).2
    have no : ∀ {z : α}, z ∈ l → f x = some y → f z = some y → False := fun {z} hz e1 e2 => by
      rw [List.filterMap_cons, e1] at nd
      exact (List.nodup_cons.mp nd).1 (List.mem_filterMap.mpr ⟨z, hz, e2⟩)
    rcases List.mem_cons.mp ha with e1 | ha' <;> rcases List.mem_cons.mp hb with e2 | hb'
    · rw [e1, e2]
    · rw [e1] at ea; exact (no hb' ea eb).elim
    · rw [e2] at eb; exact (no ha' eb ea).elim
    · exact filterMap_nodup nl ha' hb' ea eb
theorem lamG_of {lam : List Str} {K : PySem.W.Frag} {mg : Str → Option Value} {base : Heap} (ok : lamOk lam K = true) (tb : ∀ p ∈ lam.filterMap (tabL K), LamX.TabB base mg p.1 p.2) {x : Str} (hx : x ∈ lam) : @LamG (tabsI lam K) K mg base x := by
  unfold lamOk at ok
  rw [Bool.and_eq_true, decide_eq_true_eq] at ok
  have o1 := List.all_eq_true.mp ok.1 x hx
  cases hq : tabL K x with
  | none => rw [hq] at o1; cases o1
  | some q =>
    refine ⟨q.1, q.2, tabL_code hq, ?_⟩
    refine @LamT.mk (tabsI lam K) base mg x q.1 q.2 (tb q (List.mem_filterMap.mpr ⟨x, hx, hq⟩)) (List.mem_filterMap.mpr ⟨x, hx, by rw [hq]; rfl⟩) fun p hp e => ?_
    obtain ⟨y, hy, ey⟩ := List.mem_filterMap.mp hp
    cases hr : tabL K y with
    | none => rw [hr] at ey; cases ey
    | some r =>
      rw [hr] at ey
      cases ey
      have e : r.2 = q.2 := e
      have := filterMap_nodup ok.2 hy hx (y := q.2) (by rw [hr, ← e]; rfl) (by rw [hq]; rfl)
      rw [this]
      rfl
theorem tabs_start {lam : List Str} {K : PySem.W.Frag} {H : Hp} (h : ∀ p ∈ lam.filterMap (tabL K), H p.2 = some (.tbl #[])) : LamX.Tabs (tabsT lam K) H := fun p hp => by
  obtain ⟨x, hx, e⟩ := List.mem_filterMap.mp hp
  cases hq : tabL K x with
  | none => rw [hq] at e; cases e
  | some q =>
    rw [hq] at e
    cases e
    exact LamX.TabS.nil (h q (List.mem_filterMap.mpr ⟨x, hx, hq⟩))
/-- the end -/
theorem law_lam {l : PySem.W.OpenLaw} {w : World} {lam : List Str} {K : PySem.W.Frag} {k n : Nat} {mg : Str → Option Value} {fa : Addr} {h : Heap} {fd : FuncData} {cl : Nat → Value} {sem : List D → R D} (KX : K.In h) (ok : lamOk lam K = true) (tb : ∀ x ∈ lam, ∀ q, tabL K x = some q → h.get? q.2 = some (PySem.W.tabObj #[]))
    (hb : ∀ (s : Shared) (u : Value), BindsTo s fd ⟨[u], []⟩ [(("script" : Str), u)]) (math : ∀ ns : List Int, ns.length ≤ n → sem [.scr ns] = .ok (.bl true))
    (F : ∀ base : Heap, (∀ x ∈ lam, @LamG (tabsI lam K) K mg base x) → FnOk l.prog w K mg base (L2.CX l.prog w) k fa fd [("script" : Str)] (@spOf (tabsI lam K) K cl 1 sem)) : LamX.LawAtS l w K (L2.CX l.prog w) k n "script" mg fa h := by
  have ok' := ok
  unfold lamOk at ok'
  rw [Bool.and_eq_true] at ok'
  have at_ : ∀ p ∈ lam.filterMap (tabL K), ∃ x ∈ lam, tabL K x = some p ∧ PySem.W.codeHdIn K p.1 p.2 = true ∧ K.lookup p.2 = none := fun p hp => by
    obtain ⟨x, hx, e⟩ := List.mem_filterMap.mp hp
    have := List.all_eq_true.mp ok'.1 x hx
    rw [e] at this
    dsimp only at this
    rw [Bool.and_eq_true] at this
    exact ⟨x, hx, e, this.1, Option.isNone_iff_eq_none.mp this.2⟩
  refine ⟨fd, lam.filterMap (tabL K), @spOf (tabsI lam K) K cl 1 sem, fun p hp => ?_, fun p hp => ?_, fun p hp => ?_, hb, fun H a ns hl _ hT hS => ?_, fun base _ _ TB => F base fun x hx => lamG_of ok TB hx⟩
  · obtain ⟨x, hx, e, _⟩ := at_ p hp
    exact tb x hx p e
  · obtain ⟨x, hx, e, _, z⟩ := at_ p hp
    exact z
  · obtain ⟨x, hx, e, z, _⟩ := at_ p hp
    exact PySem.W.codeHd_of_K KX z
  · exact @sp_law (tabsI lam K) K cl n sem math H a ns hl hS (tabs_start hT)
variable [TabsIn]
section
variable {P : Program} {w : World} {K : PySem.W.Frag} {mg : Str → Option Value} {base : Heap} {gl bl ex : List Str} {ci : List (Str × Int)} {cs : List (Str × Str)} {fn : List He.DefD}
theorem def_sg (M : Md P w K mg gl bl ci cs ex fn) {st : Stmt} {x y : Str} {N ps mu di tu : List Str} {Γ : List FnR} {l : List Pan.S} {sb sp : Ss} {g : G} {j i : Nat} {pre b post : List Stmt} {lscope : Scope} {tg : Expr} {pp p1 p2 p3 p4 p5 p6 p7 p8 p9 lp kp p q pos fp : Pos} {k1 k2 k3 : Nat} (lg : LamG K mg base x) (ix : Nat) (hi : fn[ix]? = some (ddOf st x)) (hx : gl.contains x = true) (S : FnScope N ps (defScope st))
    (hbody : defBody st = pre ++ (.For tg (sortCall (.Name y q) pp p1 p2 p3 p4 p5 p6 p7 p8 p9 lp kp p pos k1 k2 k3 lscope) b [] fp :: post))
    (hls : lscope.kind = .function ∧ lscope.isCoroutine = false ∧ lscope.isGenerator = false ∧ lscope.names = [(("one" : Str), NameKind.local)]) (hgs : Pan.glob ⟨defScope st, fun _ => true⟩ "sorted" = true) (hbl : bl.contains "sorted" = true) (hy : Pan.slotN (sigOf N Γ ci cs bl mu di tu) ⟨defScope st, fun _ => true⟩ y = some i)
    (hpre : compPre (sigOf N Γ ci cs bl mu di tu) ex ⟨defScope st, fun _ => true⟩ (compE (sigOf N Γ ci cs bl mu di tu) 30 ⟨defScope st, fun _ => true⟩) pre = some l) (hg : compG (sigOf N Γ ci cs bl mu di tu) ⟨defScope st, fun _ => true⟩ tg = some g)
    (hb : compSs (sigOf N Γ ci cs bl mu di tu) ex ⟨defScope st, fun _ => true⟩ (compE (sigOf N Γ ci cs bl mu di tu) 30 ⟨defScope st, fun _ => true⟩) 40 b = some sb) (hp : compSs (sigOf N Γ ci cs bl mu di tu) ex ⟨defScope st, fun _ => true⟩ (compE (sigOf N Γ ci cs bl mu di tu) 30 ⟨defScope st, fun _ => true⟩) 40 post = some sp)
    (hbd : BindOk st x x ps) (fx : ∀ r ∈ Γ, FnG P w K mg base (clK K ex) j r) : FnG P w K mg base (clK K ex) (j + 1) ⟨x, ps.length, runK (phi Γ) N.length l i g sb sp⟩ := by
  obtain ⟨fd, F, hm⟩ := M.def_ ix hi hx
  obtain ⟨cc, PP, hcode, LT⟩ := lg
  exact ⟨_, fd, ps, j + 1, rfl, Nat.le_refl _, def_srt_ok (c := sigOf N Γ ci cs bl mu di tu) (nn := 29) M.glob fx rfl rfl hcode LT hbody hls F S hgs hbl hy hpre hg hb hp rfl, hm, F.kp, F.bindsN hbd⟩
end
end Pan
namespace Pan
open PySem L2
def ir_is_int : Ss := (.cons (.ret (.and (.cons (.bi .isinst (.cons (.var 0) (.cons (.lit (.ty "int")) .nil))) (.cons (.not (.bi .isinst (.cons (.var 0) (.cons (.lit (.ty "bool")) .nil)))) (.cons (.chain .LtE .LtE (.var 1) (.var 0) (.var 2)) .nil))))) .nil)
def r_is_int : FnR := ⟨"is_int", 3, runF (phi []) 3 ir_is_int⟩
@[simp] theorem n_is_int : r_is_int.n = 3 := rfl
def ir_is_window : Ss := (.cons (.ife (.or (.cons (.not (.bi .isinst (.cons (.var 0) (.cons (.lit (.ty "tuple")) .nil)))) (.cons (.cmp .NotEq (.bi .len (.cons (.var 0) .nil)) (.lit (.int (4)))) .nil))) (.cons (.ret (.lit (.bl false))) .nil) .nil) (.cons (.ife (.not (.bi .all (.cons (.lc [1] (.name 1) .seq (.cons (.var 0) .nil) .none (.call 0 (.cons (.var 1) (.cons (.lit (.int (0))) (.cons (.lit (.int (12))) .nil))))) .nil))) (.cons (.ret (.lit (.bl false))) .nil) .nil) (.cons (.ret (.and (.cons (.cmp .Lt (.ix (.var 0) (.lit (.int (0)))) (.ix (.var 0) (.lit (.int (2))))) (.cons (.cmp .Lt (.ix (.var 0) (.lit (.int (1)))) (.ix (.var 0) (.lit (.int (3))))) .nil)))) .nil)))
def r_is_window : FnR := ⟨"is_window", 1, runF (phi [r_is_int]) 2 ir_is_window⟩
@[simp] theorem n_is_window : r_is_window.n = 1 := rfl
def ir_are_windows : Ss := (.cons (.ife (.or (.cons (.not (.bi .isinst (.cons (.var 0) (.cons (.lit (.ty "tuple")) .nil)))) (.cons (.cmp .Gt (.bi .len (.cons (.var 0) .nil)) (.lit (.int (6)))) .nil))) (.cons (.ret (.lit (.bl false))) .nil) .nil) (.cons (.ret (.bi .all (.cons (.lc [1] (.name 1) .seq (.cons (.var 0) .nil) .none (.call 0 (.cons (.var 1) .nil))) .nil))) .nil))
def r_are_windows : FnR := ⟨"are_windows", 1, runF (phi [r_is_window]) 2 ir_are_windows⟩
@[simp] theorem n_are_windows : r_are_windows.n = 1 := rfl
def ir_check_windows : Ss := (.cons (.ife (.not (.call 0 (.cons (.var 0) .nil))) (.cons (.raise 1) .nil) .nil) .nil)
def r_check_windows : FnR := ⟨"check_windows", 1, runF (phi [r_are_windows]) 1 ir_check_windows⟩
@[simp] theorem n_check_windows : r_check_windows.n = 1 := rfl
def ir_check_window : Ss := (.cons (.ife (.not (.call 0 (.cons (.var 0) .nil))) (.cons (.raise 0) .nil) .nil) .nil)
def r_check_window : FnR := ⟨"check_window", 1, runF (phi [r_is_window]) 1 ir_check_window⟩
@[simp] theorem n_check_window : r_check_window.n = 1 := rfl
def ir_find_overlap : Ss := (.cons (.asg (.name 2) (.tup (.cons (.bi .max (.cons (.ix (.var 0) (.lit (.int (0)))) (.cons (.ix (.var 1) (.lit (.int (0)))) .nil))) (.cons (.bi .max (.cons (.ix (.var 0) (.lit (.int (1)))) (.cons (.ix (.var 1) (.lit (.int (1)))) .nil))) (.cons (.bi .min (.cons (.ix (.var 0) (.lit (.int (2)))) (.cons (.ix (.var 1) (.lit (.int (2)))) .nil))) (.cons (.bi .min (.cons (.ix (.var 0) (.lit (.int (3)))) (.cons (.ix (.var 1) (.lit (.int (3)))) .nil))) .nil)))))) (.cons (.ret (.ife (.and (.cons (.cmp .Lt (.ix (.var 2) (.lit (.int (0)))) (.ix (.var 2) (.lit (.int (2))))) (.cons (.cmp .Lt (.ix (.var 2) (.lit (.int (1)))) (.ix (.var 2) (.lit (.int (3))))) .nil))) (.var 2) (.lit .non))) .nil))
def r_find_overlap : FnR := ⟨"find_overlap", 2, runF (phi []) 3 ir_find_overlap⟩
@[simp] theorem n_find_overlap : r_find_overlap.n = 2 := rfl
def ir_overlap : Ss := (.cons (.expr (.call 0 (.cons (.var 0) .nil))) (.cons (.expr (.call 0 (.cons (.var 1) .nil))) (.cons (.ret (.call 1 (.cons (.var 0) (.cons (.var 1) .nil)))) .nil)))
def r_overlap : FnR := ⟨"overlap", 2, runF (phi [r_check_window, r_find_overlap]) 2 ir_overlap⟩
@[simp] theorem n_overlap : r_overlap.n = 2 := rfl
def ir_size : Ss := (.cons (.expr (.call 0 (.cons (.var 0) .nil))) (.cons (.ret (.bin .Mult (.bin .Sub (.ix (.var 0) (.lit (.int (2)))) (.ix (.var 0) (.lit (.int (0))))) (.bin .Sub (.ix (.var 0) (.lit (.int (3)))) (.ix (.var 0) (.lit (.int (1))))))) .nil))
def r_size : FnR := ⟨"size", 1, runF (phi [r_check_window]) 1 ir_size⟩
@[simp] theorem n_size : r_size.n = 1 := rfl
def ir_cells_of : Ss := (.cons (.ret (.lc2 [1, 2] (.name 1) .rng2 (.cons (.ix (.var 0) (.lit (.int (0)))) (.cons (.ix (.var 0) (.lit (.int (2)))) .nil)) .none [2] (.name 2) .rng2 (.cons (.ix (.var 0) (.lit (.int (1)))) (.cons (.ix (.var 0) (.lit (.int (3)))) .nil)) .none (.tup (.cons (.var 1) (.cons (.var 2) .nil))))) .nil)
def r_cells_of : FnR := ⟨"cells_of", 1, runF (phi []) 3 ir_cells_of⟩
@[simp] theorem n_cells_of : r_cells_of.n = 1 := rfl
def ir_all_cells : Ss := (.cons (.mk 1 (.dnew true)) (.cons (.for_ (.name 2) .seq (.cons (.var 0) .nil) (.cons (.for_ (.name 3) .seq (.cons (.call 0 (.cons (.var 2) .nil)) .nil) (.cons (.put 1 (.var 3) (.lit (.bl true))) .nil)) .nil)) (.cons (.frz 1) (.cons (.ret (.bi .sorted (.cons (.var 1) .nil))) .nil))))
def r_all_cells : FnR := ⟨"all_cells", 1, runF (phi [r_cells_of]) 4 ir_all_cells⟩
@[simp] theorem n_all_cells : r_all_cells.n = 1 := rfl
def ir_covered : Ss := (.cons (.expr (.call 0 (.cons (.var 0) .nil))) (.cons (.ret (.bi .len (.cons (.call 1 (.cons (.var 0) .nil)) .nil))) .nil))
def r_covered : FnR := ⟨"covered", 1, runF (phi [r_check_windows, r_all_cells]) 1 ir_covered⟩
@[simp] theorem n_covered : r_covered.n = 1 := rfl
def ir__law_drawn_2 : Ss := (.cons (.asg (.name 3) (.bin .Mult (.lit (.int (7))) (.var 1))) (.cons (.ife (.cmp .NotEq (.var 0) (.lst .nil)) (.cons (.asg (.name 3) (.ix (.var 0) (.bin .Mod (.var 1) (.bi .len (.cons (.var 0) .nil))))) (.cons (.asg (.name 4) (.bin .FloorDiv (.var 1) (.bi .len (.cons (.var 0) .nil)))) (.cons (.ife (.and (.cons (.cmp .GtE (.var 3) (.bin .Pow (.lit (.int (10))) (.lit (.int (18))))) (.cons (.cmp .Lt (.var 4) (.lit (.int (60)))) .nil))) (.cons (.asg (.name 5) (.bin .FloorDiv (.var 3) (.bin .Pow (.lit (.int (10))) (.lit (.int (18)))))) (.cons (.whl 4000 (.and (.cons (.cmp .Gt (.var 5) (.lit (.int (0)))) (.cons (.cmp .Gt (.var 4) (.lit (.int (0)))) .nil))) (.cons (.asg (.name 5) (.bin .FloorDiv (.var 5) (.lit (.int (1000000))))) (.cons (.asg (.name 4) (.bin .Sub (.var 4) (.lit (.int (1))))) .nil))) (.cons (.ife (.cmp .Gt (.var 5) (.lit (.int (0)))) (.cons (.ret (.bin .Mod (.bin .Mod (.var 5) (.lit (.int (1000000)))) (.var 2))) .nil) .nil) .nil))) .nil) (.cons (.asg (.name 3) (.bin .Add (.var 3) (.bin .Mult (.lit (.int (6553))) (.bin .FloorDiv (.var 1) (.bi .len (.cons (.var 0) .nil)))))) .nil)))) .nil) (.cons (.asg (.name 3) (.bin .Mod (.bin .Add (.bin .Mult (.bin .Mod (.var 3) (.lit (.int (2147483563)))) (.lit (.int (69069)))) (.bin .Mult (.lit (.int (104723))) (.bin .Add (.var 1) (.lit (.int (1)))))) (.lit (.int (2147483563))))) (.cons (.asg (.name 3) (.bin .Mod (.bin .Add (.bin .Mult (.var 3) (.var 3)) (.bin .FloorDiv (.var 3) (.lit (.int (3))))) (.lit (.int (2147483399))))) (.cons (.ret (.bin .Mod (.bin .FloorDiv (.bin .Mod (.bin .Add (.bin .Mult (.var 3) (.var 3)) (.bin .FloorDiv (.var 3) (.lit (.int (7))))) (.lit (.int (2147483647)))) (.lit (.int (11)))) (.var 2))) .nil)))))
def r__law_drawn_2 : FnR := ⟨"_law_drawn", 3, runF (phi []) 6 ir__law_drawn_2⟩
@[simp] theorem n__law_drawn_2 : r__law_drawn_2.n = 3 := rfl
def ir__law_window : Ss := (.cons (.par [false, false] [2, 3] (.cons (.call 0 (.cons (.var 0) (.cons (.var 1) (.cons (.lit (.int (9))) .nil)))) (.cons (.call 0 (.cons (.var 0) (.cons (.bin .Add (.var 1) (.lit (.int (1)))) (.cons (.lit (.int (9))) .nil)))) .nil))) (.cons (.ret (.tup (.cons (.var 2) (.cons (.var 3) (.cons (.bin .Add (.bin .Add (.var 2) (.lit (.int (1)))) (.call 0 (.cons (.var 0) (.cons (.bin .Add (.var 1) (.lit (.int (2)))) (.cons (.lit (.int (4))) .nil))))) (.cons (.bin .Add (.bin .Add (.var 3) (.lit (.int (1)))) (.call 0 (.cons (.var 0) (.cons (.bin .Add (.var 1) (.lit (.int (3)))) (.cons (.lit (.int (4))) .nil))))) .nil)))))) .nil))
def r__law_window : FnR := ⟨"_law_window", 2, runF (phi [r__law_drawn_2]) 4 ir__law_window⟩
@[simp] theorem n__law_window : r__law_window.n = 2 := rfl
def ir__law_windows : Ss := (.cons (.mk 3 (.lst .nil)) (.cons (.for_ (.name 4) .rng1 (.cons (.call 0 (.cons (.var 0) (.cons (.var 1) (.cons (.bin .Add (.var 2) (.lit (.int (1)))) .nil)))) .nil) (.cons (.asg (.tup [5, 6, 7, 8]) (.call 1 (.cons (.var 0) (.cons (.bin .Add (.bin .Add (.var 1) (.lit (.int (1)))) (.bin .Mult (.lit (.int (4))) (.var 4))) .nil)))) (.cons (.asg (.name 9) (.bin .Add (.lit (.int (1))) (.call 0 (.cons (.var 0) (.cons (.bin .Add (.var 1) (.lit (.int (30)))) (.cons (.lit (.int (3))) .nil)))))) (.cons (.par [false, false] [10, 11] (.cons (.bin .FloorDiv (.var 5) (.var 9)) (.cons (.bin .FloorDiv (.var 6) (.var 9)) .nil))) (.cons (.app 3 (.tup (.cons (.var 10) (.cons (.var 11) (.cons (.bin .Sub (.bin .Add (.var 10) (.var 7)) (.var 5)) (.cons (.bin .Sub (.bin .Add (.var 11) (.var 8)) (.var 6)) .nil)))))) .nil))))) (.cons (.frz 3) (.cons (.ret (.bi .tuple (.cons (.var 3) .nil))) .nil))))
def r__law_windows : FnR := ⟨"_law_windows", 3, runF (phi [r__law_drawn_2, r__law_window]) 12 ir__law_windows⟩
@[simp] theorem n__law_windows : r__law_windows.n = 3 := rfl
def ir_is_size : Ss := (.cons (.ret (.and (.cons (.bi .isinst (.cons (.var 0) (.cons (.lit (.ty "tuple")) .nil))) (.cons (.cmp .Eq (.bi .len (.cons (.var 0) .nil)) (.lit (.int (2)))) (.cons (.bi .all (.cons (.lc [1] (.name 1) .seq (.cons (.var 0) .nil) .none (.call 0 (.cons (.var 1) (.cons (.lit (.int (1))) (.cons (.lit (.int (12))) .nil))))) .nil)) .nil))))) .nil)
def r_is_size : FnR := ⟨"is_size", 1, runF (phi [r_is_int]) 2 ir_is_size⟩
@[simp] theorem n_is_size : r_is_size.n = 1 := rfl
def ir_is_free : Ss := (.cons (.ret (.not (.bi .any (.cons (.lc [2] (.name 2) .seq (.cons (.var 0) .nil) .none (.cmp .IsNot (.call 0 (.cons (.var 2) (.cons (.var 1) .nil))) (.lit .non))) .nil)))) .nil)
def r_is_free : FnR := ⟨"is_free", 2, runF (phi [r_find_overlap]) 3 ir_is_free⟩
@[simp] theorem n_is_free : r_is_free.n = 2 := rfl
def ir_all_places : Ss := (.cons (.mk 1 (.lst .nil)) (.cons (.for_ (.name 2) .rng1 (.cons (.bin .Add (.bin .Sub (.lit (.int (12))) (.ix (.var 0) (.lit (.int (0))))) (.lit (.int (1)))) .nil) (.cons (.for_ (.name 3) .rng1 (.cons (.bin .Add (.bin .Sub (.lit (.int (12))) (.ix (.var 0) (.lit (.int (1))))) (.lit (.int (1)))) .nil) (.cons (.app 1 (.tup (.cons (.var 2) (.cons (.var 3) (.cons (.bin .Add (.var 2) (.ix (.var 0) (.lit (.int (0))))) (.cons (.bin .Add (.var 3) (.ix (.var 0) (.lit (.int (1))))) .nil)))))) .nil)) .nil)) (.cons (.frz 1) (.cons (.ret (.var 1)) .nil))))
def r_all_places : FnR := ⟨"all_places", 1, runF (phi []) 4 ir_all_places⟩
@[simp] theorem n_all_places : r_all_places.n = 1 := rfl
def ir_find_places : Ss := (.cons (.ret (.lc [2] (.name 2) .seq (.cons (.call 0 (.cons (.var 1) .nil)) .nil) (.some (.call 1 (.cons (.var 0) (.cons (.var 2) .nil)))) (.var 2))) .nil)
def r_find_places : FnR := ⟨"find_places", 2, runF (phi [r_all_places, r_is_free]) 3 ir_find_places⟩
@[simp] theorem n_find_places : r_find_places.n = 2 := rfl
def ir_places : Ss := (.cons (.expr (.call 0 (.cons (.var 0) .nil))) (.cons (.ife (.not (.call 2 (.cons (.var 1) .nil))) (.cons (.raise 8) .nil) .nil) (.cons (.ret (.call 1 (.cons (.var 0) (.cons (.var 1) .nil)))) .nil)))
def r_places : FnR := ⟨"places", 2, runF (phi [r_check_windows, r_find_places, r_is_size]) 2 ir_places⟩
@[simp] theorem n_places : r_places.n = 2 := rfl
def ir_check_sizes : Ss := (.cons (.expr (.call 0 (.cons (.var 0) .nil))) (.cons (.ife (.or (.cons (.not (.bi .isinst (.cons (.var 1) (.cons (.lit (.ty "list")) .nil)))) (.cons (.cmp .Gt (.bi .len (.cons (.var 1) .nil)) (.lit (.int (3)))) (.cons (.not (.bi .all (.cons (.lc [2] (.name 2) .seq (.cons (.var 1) .nil) .none (.call 1 (.cons (.var 2) .nil))) .nil))) .nil)))) (.cons (.raise 9) .nil) .nil) .nil))
def r_check_sizes : FnR := ⟨"check_sizes", 2, runF (phi [r_check_windows, r_is_size]) 3 ir_check_sizes⟩
@[simp] theorem n_check_sizes : r_check_sizes.n = 2 := rfl
def ir_are_places : Ss := (.cons (.expr (.call 0 (.cons (.var 0) (.cons (.var 1) .nil)))) (.cons (.ife (.or (.cons (.not (.bi .isinst (.cons (.var 2) (.cons (.lit (.ty "tuple")) .nil)))) (.cons (.cmp .NotEq (.bi .len (.cons (.var 2) .nil)) (.bi .len (.cons (.var 1) .nil))) .nil))) (.cons (.ret (.lit (.bl false))) .nil) .nil) (.cons (.ife (.not (.bi .all (.cons (.lc [3] (.name 3) .seq (.cons (.var 2) .nil) .none (.call 1 (.cons (.var 3) .nil))) .nil))) (.cons (.ret (.lit (.bl false))) .nil) .nil) (.cons (.for_ (.tup [4, 3]) .enum (.cons (.var 2) .nil) (.cons (.ife (.cmp .NotEq (.tup (.cons (.bin .Sub (.ix (.var 3) (.lit (.int (2)))) (.ix (.var 3) (.lit (.int (0))))) (.cons (.bin .Sub (.ix (.var 3) (.lit (.int (3)))) (.ix (.var 3) (.lit (.int (1))))) .nil))) (.ix (.var 1) (.var 4))) (.cons (.ret (.lit (.bl false))) .nil) .nil) (.cons (.ife (.or (.cons (.not (.call 2 (.cons (.var 0) (.cons (.var 3) .nil)))) (.cons (.not (.call 2 (.cons (.sl (.var 2) .none (.some (.var 4))) (.cons (.var 3) .nil)))) .nil))) (.cons (.ret (.lit (.bl false))) .nil) .nil) .nil))) (.cons (.ret (.lit (.bl true))) .nil)))))
def r_are_places : FnR := ⟨"are_places", 3, runF (phi [r_check_sizes, r_is_window, r_is_free]) 5 ir_are_places⟩
@[simp] theorem n_are_places : r_are_places.n = 3 := rfl
def ir_is_small : Ss := (.cons (.ife (.or (.cons (.not (.bi .isinst (.cons (.var 1) (.cons (.lit (.ty "tuple")) .nil)))) (.cons (.not (.bi .all (.cons (.lc [2] (.name 2) .seq (.cons (.var 1) .nil) .none (.call 0 (.cons (.var 2) (.cons (.lit (.int (0))) (.cons (.bin .Sub (.bi .len (.cons (.var 0) .nil)) (.lit (.int (1)))) .nil))))) .nil))) .nil))) (.cons (.ret (.lit (.bl false))) .nil) .nil) (.cons (.ret (.bi .all (.cons (.lc [3, 4] (.tup [3, 4]) .zip (.cons (.var 1) (.cons (.sl (.var 1) (.some (.lit (.int (1)))) .none) .nil)) .none (.cmp .Lt (.var 3) (.var 4))) .nil))) .nil))
def r_is_small : FnR := ⟨"is_small", 2, runF (phi [r_is_int]) 5 ir_is_small⟩
@[simp] theorem n_is_small : r_is_small.n = 2 := rfl
end Pan
namespace Pan
open PySem L2
def ir_find_all_k58 : Ss := (.cons (.ife (.cmp .Eq (.var 1) (.lst .nil)) (.cons (.ret (.tup .nil)) .nil) .nil) (.cons (.for_ (.name 2) .seq (.cons (.call 0 (.cons (.var 0) (.cons (.ix (.var 1) (.lit (.int (0)))) .nil))) .nil) (.cons (.asg (.name 3) (.call 1 (.cons (.bin .Add (.var 0) (.tup (.cons (.var 2) .nil))) (.cons (.sl (.var 1) (.some (.lit (.int (1)))) .none) .nil)))) (.cons (.ife (.cmp .IsNot (.var 3) (.lit .non)) (.cons (.ret (.bin .Add (.tup (.cons (.var 2) .nil)) (.var 3))) .nil) .nil) .nil))) (.cons (.ret (.lit .non)) .nil)))
def r_find_all_k58_0 : FnR := ⟨"find_all", 2, fun _ => .bad⟩
def r_find_all_k58_1 : FnR := ⟨"find_all", 2, runF (phi [r_find_places, r_find_all_k58_0]) 4 ir_find_all_k58⟩
def r_find_all_k58_2 : FnR := ⟨"find_all", 2, runF (phi [r_find_places, r_find_all_k58_1]) 4 ir_find_all_k58⟩
def r_find_all_k58 : FnR := ⟨"find_all", 2, runF (phi [r_find_places, r_find_all_k58_2]) 4 ir_find_all_k58⟩
@[simp] theorem n_find_all_k58_0 : r_find_all_k58_0.n = 2 := rfl
@[simp] theorem n_find_all_k58_1 : r_find_all_k58_1.n = 2 := rfl
@[simp] theorem n_find_all_k58_2 : r_find_all_k58_2.n = 2 := rfl
@[simp] theorem n_find_all_k58 : r_find_all_k58.n = 2 := rfl
def ir_place_all_k58 : Ss := (.cons (.expr (.call 0 (.cons (.var 0) (.cons (.var 1) .nil)))) (.cons (.ret (.call 1 (.cons (.var 0) (.cons (.var 1) .nil)))) .nil))
def r_place_all_k58 : FnR := ⟨"place_all", 2, runF (phi [r_check_sizes, r_find_all_k58]) 2 ir_place_all_k58⟩
@[simp] theorem n_place_all_k58 : r_place_all_k58.n = 2 := rfl
def pre_largest_free_k58 : List S := [.expr (.call 0 (.cons (.var 0) .nil)), .asg (.name 1) (.lc2 [2, 3] (.name 2) .rng2 (.cons (.lit (.int (1))) (.cons (.bin .Add (.lit (.int (12))) (.lit (.int (1)))) .nil)) .none [3] (.name 3) .rng2 (.cons (.lit (.int (1))) (.cons (.bin .Add (.lit (.int (12))) (.lit (.int (1)))) .nil)) .none (.tup (.cons (.var 2) (.cons (.var 3) .nil)))), .asg (.name 4) (.lit .non)]
def irb_largest_free_k58 : Ss := (.cons (.asg (.name 6) (.bin .Mult (.ix (.var 5) (.lit (.int (0)))) (.ix (.var 5) (.lit (.int (1)))))) (.cons (.ife (.and (.cons (.cmp .IsNot (.var 4) (.lit .non)) (.cons (.cmp .Lt (.var 6) (.ix (.var 4) (.lit (.int (0))))) .nil))) (.cons (.ret (.ix (.var 4) (.lit (.int (1))))) .nil) .nil) (.cons (.for_ (.name 7) .seq (.cons (.sl (.call 1 (.cons (.var 0) (.cons (.var 5) .nil))) .none (.some (.lit (.int (1))))) .nil) (.cons (.ife (.or (.cons (.cmp .Is (.var 4) (.lit .non)) (.cons (.cmp .Lt (.var 7) (.ix (.var 4) (.lit (.int (1))))) .nil))) (.cons (.asg (.name 4) (.tup (.cons (.var 6) (.cons (.var 7) .nil)))) .nil) .nil) .nil)) .nil)))
def irp_largest_free_k58 : Ss := (.cons (.ret (.ife (.cmp .Is (.var 4) (.lit .non)) (.lit .non) (.ix (.var 4) (.lit (.int (1)))))) .nil)
def r_largest_free_k58 : FnR := ⟨"largest_free", 1, runK (phi [r_check_windows, r_find_places]) 8 pre_largest_free_k58 1 (.name 5) irb_largest_free_k58 irp_largest_free_k58⟩
@[simp] theorem n_largest_free_k58 : r_largest_free_k58.n = 1 := rfl
def ir__law_best_k58 : Ss := (.cons (.asg (.name 3) (.call 0 (.cons (.var 0) .nil))) (.cons (.ife (.cmp .NotEq (.cmp .Is (.var 3) (.lit .non)) (.cmp .Eq (.call 2 (.cons (.var 0) .nil)) (.lit (.int (144))))) (.cons (.ret (.lit (.bl false))) .nil) .nil) (.cons (.ife (.cmp .IsNot (.var 3) (.lit .non)) (.cons (.ife (.cmp .NotEq (.lc [4] (.name 4) .seq (.cons (.var 0) .nil) (.some (.cmp .IsNot (.call 4 (.cons (.var 4) (.cons (.var 3) .nil))) (.lit .non))) (.var 4)) (.lst .nil)) (.cons (.ret (.lit (.bl false))) .nil) .nil) (.cons (.ife (.and (.cons (.cmp .NotEq (.var 1) (.lst .nil)) (.cons (.cmp .Lt (.call 1 (.cons (.var 3) .nil)) (.var 2)) .nil))) (.cons (.ret (.lit (.bl false))) .nil) .nil) (.cons (.ife (.and (.cons (.cmp .NotEq (.var 1) (.lst .nil)) (.cons (.cmp .Eq (.call 1 (.cons (.var 3) .nil)) (.var 2)) (.cons (.cmp .Lt (.ix (.var 1) (.lit (.int (0)))) (.var 3)) .nil)))) (.cons (.ret (.lit (.bl false))) .nil) .nil) (.cons (.ife (.cmp .NotEq (.ix (.call 3 (.cons (.var 0) (.cons (.tup (.cons (.bin .Sub (.ix (.var 3) (.lit (.int (2)))) (.ix (.var 3) (.lit (.int (0))))) (.cons (.bin .Sub (.ix (.var 3) (.lit (.int (3)))) (.ix (.var 3) (.lit (.int (1))))) .nil))) .nil))) (.lit (.int (0)))) (.var 3)) (.cons (.ret (.lit (.bl false))) .nil) .nil) (.cons (.asg (.name 5) (.call 1 (.cons (.var 3) .nil))) (.cons (.for_ (.name 6) .rng2 (.cons (.lit (.int (1))) (.cons (.lit (.int (13))) .nil)) (.cons (.ife (.and (.cons (.cmp .Eq (.bin .Mod (.var 5) (.var 6)) (.lit (.int (0)))) (.cons (.cmp .LtE (.bin .FloorDiv (.var 5) (.var 6)) (.lit (.int (12)))) .nil))) (.cons (.asg (.name 7) (.call 3 (.cons (.var 0) (.cons (.tup (.cons (.var 6) (.cons (.bin .FloorDiv (.var 5) (.var 6)) .nil))) .nil)))) (.cons (.ife (.and (.cons (.cmp .NotEq (.var 7) (.lst .nil)) (.cons (.cmp .Lt (.ix (.var 7) (.lit (.int (0)))) (.var 3)) .nil))) (.cons (.ret (.lit (.bl false))) .nil) .nil) .nil)) .nil) .nil)) .nil)))))) .nil) (.cons (.ret (.lit (.bl true))) .nil))))
def r__law_best_k58 : FnR := ⟨"_law_best", 3, runF (phi [r_largest_free_k58, r_size, r_covered, r_places, r_overlap]) 8 ir__law_best_k58⟩
@[simp] theorem n__law_best_k58 : r__law_best_k58.n = 3 := rfl
def ir_law_k58 : Ss := (.cons (.asg (.name 1) (.call 0 (.cons (.var 0) (.cons (.lit (.int (10))) (.cons (.lit (.int (4))) .nil))))) (.cons (.par [false, false] [2, 3] (.cons (.bin .Add (.lit (.int (1))) (.call 4 (.cons (.var 0) (.cons (.lit (.int (1))) (.cons (.lit (.int (9))) .nil))))) (.cons (.bin .Add (.lit (.int (1))) (.call 4 (.cons (.var 0) (.cons (.lit (.int (2))) (.cons (.lit (.int (9))) .nil))))) .nil))) (.cons (.asg (.name 4) (.call 1 (.cons (.var 1) (.cons (.tup (.cons (.var 2) (.cons (.var 3) .nil))) .nil)))) (.cons (.ife (.cmp .NotEq (.var 4) (.bi .sortset (.cons (.var 4) .nil))) (.cons (.ret (.lit (.bl false))) .nil) .nil) (.cons (.ife (.cmp .NotEq (.lc [5] (.name 5) .seq (.cons (.var 4) .nil) (.some (.cmp .NotEq (.call 8 (.cons (.var 5) .nil)) (.bin .Mult (.var 2) (.var 3)))) (.var 5)) (.lst .nil)) (.cons (.ret (.lit (.bl false))) .nil) .nil) (.cons (.for_ (.name 5) .seq (.cons (.sl (.var 4) .none (.some (.lit (.int (6))))) .nil) (.cons (.ife (.cmp .NotEq (.lc [6] (.name 6) .seq (.cons (.var 1) .nil) (.some (.cmp .IsNot (.call 9 (.cons (.var 6) (.cons (.var 5) .nil))) (.lit .non))) (.var 6)) (.lst .nil)) (.cons (.ret (.lit (.bl false))) .nil) .nil) (.cons (.ife (.cmp .NotEq (.call 5 (.cons (.bin .Add (.var 1) (.tup (.cons (.var 5) .nil))) .nil)) (.bin .Add (.call 5 (.cons (.var 1) .nil)) (.bin .Mult (.var 2) (.var 3)))) (.cons (.ret (.lit (.bl false))) .nil) .nil) .nil))) (.cons (.ife (.cmp .NotEq (.cmp .Is (.call 6 (.cons (.var 1) (.cons (.lst (.cons (.tup (.cons (.var 2) (.cons (.var 3) .nil))) .nil)) .nil))) (.lit .non)) (.cmp .Eq (.var 4) (.lst .nil))) (.cons (.ret (.lit (.bl false))) .nil) .nil) (.cons (.ife (.and (.cons (.cmp .NotEq (.var 4) (.lst .nil)) (.cons (.cmp .IsNot (.call 7 (.cons (.var 1) (.cons (.lst (.cons (.tup (.cons (.var 2) (.cons (.var 3) .nil))) .nil)) (.cons (.tup (.cons (.ix (.var 4) (.neg (.lit (.int (1))))) .nil)) .nil)))) (.lit (.bl true))) .nil))) (.cons (.ret (.lit (.bl false))) .nil) .nil) (.cons (.ife (.cmp .Lt (.bi .len (.cons (.call 1 (.cons (.sl (.var 1) (.some (.lit (.int (1)))) .none) (.cons (.tup (.cons (.var 2) (.cons (.var 3) .nil))) .nil))) .nil)) (.bi .len (.cons (.var 4) .nil))) (.cons (.ret (.lit (.bl false))) .nil) .nil) (.cons (.ife (.cmp .NotEq (.bi .len (.cons (.call 1 (.cons (.tup .nil) (.cons (.tup (.cons (.var 2) (.cons (.var 3) .nil))) .nil))) .nil)) (.bin .Mult (.bin .Sub (.lit (.int (13))) (.var 2)) (.bin .Sub (.lit (.int (13))) (.var 3)))) (.cons (.ret (.lit (.bl false))) .nil) .nil) (.cons (.ife (.and (.cons (.cmp .Gt (.var 2) (.lit (.int (1)))) (.cons (.cmp .NotEq (.var 4) (.lst .nil)) (.cons (.cmp .Eq (.call 1 (.cons (.var 1) (.cons (.tup (.cons (.bin .Sub (.var 2) (.lit (.int (1)))) (.cons (.var 3) .nil))) .nil))) (.lst .nil)) .nil)))) (.cons (.ret (.lit (.bl false))) .nil) .nil) (.cons (.asg (.name 7) (.bi .tuple (.cons (.lc [8, 9, 10, 11] (.tup [8, 9, 10, 11]) .seq (.cons (.var 1) .nil) .none (.tup (.cons (.var 9) (.cons (.var 8) (.cons (.var 11) (.cons (.var 10) .nil)))))) .nil))) (.cons (.asg (.name 12) (.lc [8, 9, 10, 11] (.tup [8, 9, 10, 11]) .seq (.cons (.call 1 (.cons (.var 7) (.cons (.tup (.cons (.var 3) (.cons (.var 2) .nil))) .nil))) .nil) .none (.tup (.cons (.var 9) (.cons (.var 8) (.cons (.var 11) (.cons (.var 10) .nil))))))) (.cons (.ife (.cmp .NotEq (.bi .sorted (.cons (.var 12) .nil)) (.var 4)) (.cons (.ret (.lit (.bl false))) .nil) .nil) (.cons (.ife (.not (.call 2 (.cons (.var 1) (.cons (.var 4) (.cons (.bin .Mult (.var 2) (.var 3)) .nil))))) (.cons (.ret (.lit (.bl false))) .nil) .nil) (.cons (.ife (.cmp .NotEq (.call 3 (.cons (.tup (.cons (.tup (.cons (.lit (.int (0))) (.cons (.lit (.int (0))) (.cons (.lit (.int (12))) (.cons (.lit (.int (6))) .nil))))) (.cons (.tup (.cons (.lit (.int (0))) (.cons (.lit (.int (6))) (.cons (.lit (.int (6))) (.cons (.lit (.int (12))) .nil))))) .nil))) .nil)) (.tup (.cons (.lit (.int (6))) (.cons (.lit (.int (6))) (.cons (.lit (.int (12))) (.cons (.lit (.int (12))) .nil)))))) (.cons (.ret (.lit (.bl false))) .nil) .nil) (.cons (.ife (.cmp .NotEq (.call 3 (.cons (.tup .nil) .nil)) (.tup (.cons (.lit (.int (0))) (.cons (.lit (.int (0))) (.cons (.lit (.int (12))) (.cons (.lit (.int (12))) .nil)))))) (.cons (.ret (.lit (.bl false))) .nil) .nil) (.cons (.ret (.and (.cons (.cmp .Is (.call 6 (.cons (.tup .nil) (.cons (.lst (.cons (.tup (.cons (.lit (.int (12))) (.cons (.lit (.int (6))) .nil))) (.cons (.tup (.cons (.lit (.int (12))) (.cons (.lit (.int (7))) .nil))) .nil))) .nil))) (.lit .non)) (.cons (.cmp .Eq (.call 6 (.cons (.tup (.cons (.tup (.cons (.lit (.int (0))) (.cons (.lit (.int (0))) (.cons (.lit (.int (12))) (.cons (.lit (.int (12))) .nil))))) .nil)) (.cons (.lst .nil) .nil))) (.tup .nil)) .nil)))) .nil))))))))))))))))))
def r_law_k58 : FnR := ⟨"law", 1, runF (phi [r__law_windows, r_places, r__law_best_k58, r_largest_free_k58, r__law_drawn_2, r_covered, r_place_all_k58, r_are_places, r_size, r_overlap]) 13 ir_law_k58⟩
@[simp] theorem n_law_k58 : r_law_k58.n = 1 := rfl
end Pan
namespace Pan
open PySem L2
/-- for a law without lambdas -/
instance (priority := 10) noTabs : TabsIn := ⟨[]⟩
section
variable (Φ : Nat → List D → R D) (e : Env)
@[simp] theorem ev_var (i : Nat) : ev Φ (.var i) e = getV e i := rfl
@[simp] theorem ev_ovar (i : Nat) : ev Φ (.ovar i) e = getO e i := rfl
@[simp] theorem ev_lit (d : D) : ev Φ (.lit d) e = .ok d := rfl
@[simp] theorem ev_dnew (t : Bool) : ev Φ (.dnew t) e = .ok (.dic t []) := rfl
@[simp] theorem ev_bin (o : Operator) (a b : E) : ev Φ (.bin o a b) e = (do let x ← ev Φ a e; let y ← ev Φ b e; binS o x y) := rfl
@[simp] theorem ev_neg (a : E) : ev Φ (.neg a) e = (do let x ← ev Φ a e; let i ← asI x; .ok (.int (-i))) := rfl
@[simp] theorem ev_not (a : E) : ev Φ (.not a) e = (do let x ← ev Φ a e; let b ← asB x; .ok (.bl (!b))) := rfl
@[simp] theorem ev_and (es : Es) : ev Φ (.and es) e = evAnd Φ es e := rfl
@[simp] theorem ev_or (es : Es) : ev Φ (.or es) e = evOr Φ es e := rfl
@[simp] theorem ev_cmp (o : CmpOp) (a b : E) : ev Φ (.cmp o a b) e = (do let x ← ev Φ a e; let y ← ev Φ b e; let r ← cmpS o x y; .ok (.bl r)) := rfl
@[simp] theorem ev_chain (o p : CmpOp) (a b c : E) : ev Φ (.chain o p a b c) e = (do
    let x ← ev Φ a e
    let y ← ev Φ b e
    let r ← cmpS o x y
    if r then do let z ← ev Φ c e; let q ← cmpS p y z; .ok (.bl q) else .ok (.bl false)) := rfl
@[simp] theorem ev_ife (c a b : E) : ev Φ (.ife c a b) e = (do let x ← ev Φ c e; let t ← asB x; if t then ev Φ a e else ev Φ b e) := rfl
@[simp] theorem ev_tup (es : Es) : ev Φ (.tup es) e = (do let xs ← evs Φ es e; fitL xs .tup) := rfl
@[simp] theorem ev_lst (es : Es) : ev Φ (.lst es) e = (do let xs ← evs Φ es e; fitL xs .lst) := rfl
@[simp] theorem ev_ix (a b : E) : ev Φ (.ix a b) e = (do let x ← ev Φ a e; let y ← ev Φ b e; ixS x y) := rfl
@[simp] theorem ev_sl (a : E) (lo hi : O) : ev Φ (.sl a lo hi) e = (do let x ← ev Φ a e; let l ← evO Φ lo e; let h ← evO Φ hi e; slS x l h) := rfl
@[simp] theorem ev_rev (a : E) : ev Φ (.rev a) e = (do let x ← ev Φ a e; revS x) := rfl
@[simp] theorem ev_callx (fs : List Nat) (w : E) (es : Es) : ev Φ (.callx fs w es) e = (do let x ← ev Φ w e; let f ← pickF fs x; let xs ← evs Φ es e; Φ f xs) := rfl
@[simp] theorem ev_call (f : Nat) (es : Es) : ev Φ (.call f es) e = (do let xs ← evs Φ es e; Φ f xs) := rfl
@[simp] theorem ev_bi (b : Bi) (es : Es) : ev Φ (.bi b es) e = (do let xs ← evs Φ es e; biS b xs) := rfl
@[simp] theorem ev_mt (m : Mt) (o : E) (es : Es) : ev Φ (.mt m o es) e = (do let x ← ev Φ o e; if mtOk m x then do let xs ← evs Φ es e; mtS m x xs else .bad) := rfl
/-- one item of a comprehension -/
def itemL (vs : List Nat) (g : G) (t : O) (b : E) (d : D) : R (List D) := do
  let e1 ← asgG g d (wipeE e vs)
  let c ← evT Φ t e1
  if c then do let y ← ev Φ b e1; .ok [y] else .ok []
@[simp] theorem ev_lc (vs : List Nat) (g : G) (k : IK) (src : Es) (t : O) (b : E) : ev Φ (.lc vs g k src t b) e = (do
    let ss ← evs Φ src e
    let ds ← itS k ss
    let r ← (lcM ds (itemL Φ e vs g t b)).calm
    .ok (.lst r)) := rfl
@[simp] theorem ev_lc2 (vs : List Nat) (g : G) (k : IK) (src : Es) (t : O) (vs1 : List Nat) (g1 : G) (k1 : IK) (src1 : Es) (t1 : O) (b : E) : ev Φ (.lc2 vs g k src t vs1 g1 k1 src1 t1 b) e = (do
    let ss ← evs Φ src e
    let ds ← itS k ss
    let r ← (lcM ds fun d => do
      let e1 ← asgG g d (wipeE e vs)
      let c ← evT Φ t e1
      if c then do
        let ss1 ← evs Φ src1 e1
        let ds1 ← itS k1 ss1
        lcM ds1 (itemL Φ e1 vs1 g1 t1 b)
      else .ok []).calm
    fitL r .lst) := rfl
@[simp] theorem evs_nil : evs Φ .nil e = .ok [] := rfl
@[simp] theorem evs_cons (a : E) (r : Es) : evs Φ (.cons a r) e = (do let x ← ev Φ a e; let xs ← evs Φ r e; .ok (x :: xs)) := rfl
@[simp] theorem evAnd_one (a : E) : evAnd Φ (.cons a .nil) e = ev Φ a e := rfl
@[simp] theorem evAnd_cons (a b : E) (r : Es) : evAnd Φ (.cons a (.cons b r)) e = (do let x ← ev Φ a e; let c ← asB x; if c then evAnd Φ (.cons b r) e else .ok (.bl false)) := rfl
@[simp] theorem evOr_one (a : E) : evOr Φ (.cons a .nil) e = ev Φ a e := rfl
@[simp] theorem evOr_cons (a b : E) (r : Es) : evOr Φ (.cons a (.cons b r)) e = (do let x ← ev Φ a e; let c ← asB x; if c then .ok (.bl true) else evOr Φ (.cons b r) e) := rfl
@[simp] theorem evO_none : evO Φ .none e = .ok none := rfl
@[simp] theorem evO_some (a : E) : evO Φ (.some a) e = (do let x ← ev Φ a e; let i ← asI x; .ok (some i)) := rfl
@[simp] theorem evT_none : evT Φ .none e = .ok true := rfl
@[simp] theorem evT_some (a : E) : evT Φ (.some a) e = (do let x ← ev Φ a e; asB x) := rfl
@[simp] theorem xss_nil : xss Φ .nil e = .ok (.nx e) := rfl
@[simp] theorem xss_cons (s : S) (r : Ss) : xss Φ (.cons s r) e = andThen (xs Φ s e) (xss Φ r) := rfl
@[simp] theorem xs_frz (i : Nat) : xs Φ (.frz i) e = .ok (.nx (frzE e i)) := rfl
@[simp] theorem xs_asg (g : G) (a : E) : xs Φ (.asg g a) e = lift (ev Φ a e) e fun d => lift (asgG g d e) e fun e' => .ok (.nx e') := rfl
@[simp] theorem xs_mk (i : Nat) (a : E) : xs Φ (.mk i a) e = lift (ev Φ a e) e fun d => .ok (.nx (e.set i (.own d))) := rfl
@[simp] theorem xs_par (os : List Bool) (is : List Nat) (es : Es) : xs Φ (.par os is es) e = lift (evs Φ es e) e fun ds => parE e os is ds := rfl
@[simp] theorem xs_expr (a : E) : xs Φ (.expr a) e = lift (ev Φ a e) e fun _ => .ok (.nx e) := rfl
def stpI (a b : Ss) (e : Env) : D → R Fl
  | .bl true => xss Φ a e
  | .bl false => xss Φ b e
  | _ => .bad
@[simp] theorem stpI_t (a b : Ss) : stpI Φ a b e (.bl true) = xss Φ a e := rfl
@[simp] theorem stpI_f (a b : Ss) : stpI Φ a b e (.bl false) = xss Φ b e := rfl
@[simp] theorem xs_ife (c : E) (a b : Ss) : xs Φ (.ife c a b) e = lift (ev Φ c e) e (stpI Φ a b e) := by
  show (lift (ev Φ c e) e fun d => _) = _
  congr 1
@[simp] theorem xs_whl (n : Nat) (c : E) (b : Ss) : xs Φ (.whl n c b) e = whlM (ev Φ c) (xss Φ b) n e := rfl
/-- one turn of a loop -/
def turnF (g : G) (b : Ss) (d : D) (e1 : Env) : R Fl := lift (asgG g d e1) e1 fun e2 => xss Φ b e2
@[simp] theorem xs_for (g : G) (k : IK) (src : Es) (b : Ss) : xs Φ (.for_ g k src b) e = lift (evs Φ src e) e fun ss => lift (itS k ss) e fun ds => forM (turnF Φ g b) ds e := rfl
@[simp] theorem xs_ret (a : E) : xs Φ (.ret a) e = lift (ev Φ a e) e fun d => .ok (.rt d) := rfl
@[simp] theorem xs_raise (c : Nat) : xs Φ (.raise c) e = .ok (.ex c e) := rfl
end
def outF : R Fl → R D
  | .ok (.nx _) => .ok .non
  | .ok (.rt d) => .ok d
  | .ok (.ex c _) => .exc c
  | .bad => .bad
  | .exc _ => .bad
@[simp] theorem outF_nx (e : Env) : outF (.ok (.nx e)) = .ok .non := rfl
@[simp] theorem outF_rt (d : D) : outF (.ok (.rt d)) = .ok d := rfl
@[simp] theorem outF_ex (c : Nat) (e : Env) : outF (.ok (.ex c e)) = .exc c := rfl
theorem runF_eq (Φ : Nat → List D → R D) (n : Nat) (b : Ss) (ds : List D) : runF Φ n b ds = outF (xss Φ b (ds.map Slot.val ++ List.replicate (n - ds.length) .no)) := by
  unfold runF outF
  rfl
@[simp] theorem ite_and (p : Prop) [Decidable p] (q : Bool) : (if p then R.ok (D.bl q) else R.ok (D.bl false)) = R.ok (D.bl (decide p && q)) := by
  by_cases h : p <;> simp [h]
@[simp] theorem ite_or (p : Prop) [Decidable p] (q : Bool) : (if p then R.ok (D.bl true) else R.ok (D.bl q)) = R.ok (D.bl (decide p || q)) := by
  by_cases h : p <;> simp [h]
@[simp] theorem getV_zero (d : D) (e : Env) : getV (.val d :: e) 0 = .ok d := rfl
@[simp] theorem getV_succ (s : Slot) (e : Env) (n : Nat) : getV (s :: e) (n + 1) = getV e n := rfl
@[simp] theorem getO_val (d : D) (e : Env) : getO (.val d :: e) 0 = .ok d := rfl
@[simp] theorem getO_own (d : D) (e : Env) : getO (.own d :: e) 0 = .ok d := rfl
@[simp] theorem getO_succ (s : Slot) (e : Env) (n : Nat) : getO (s :: e) (n + 1) = getO e n := rfl
@[simp] theorem asgG_name (i : Nat) (d : D) (e : Env) : asgG (.name i) d e = .ok (e.set i (.val d)) := rfl
@[simp] theorem asgG_lun2 (i j : Nat) (a b : D) (e : Env) : asgG (.lun [i, j]) (.lst [a, b]) e = .ok ((e.set i (.val a)).set j (.val b)) := rfl
@[simp] theorem asgG_tup2 (i j : Nat) (a b : D) (e : Env) : asgG (.tup [i, j]) (.tup [a, b]) e = .ok ((e.set i (.val a)).set j (.val b)) := rfl
@[simp] theorem asgG_prs2 (i j : Nat) (a b : D) (e : Env) : asgG (.tup [i, j]) (.prs [a, b]) e = .ok ((e.set i (.val a)).set j (.val b)) := rfl
@[simp] theorem asgG_tup3 (i j k : Nat) (a b c : D) (e : Env) : asgG (.tup [i, j, k]) (.tup [a, b, c]) e = .ok (((e.set i (.val a)).set j (.val b)).set k (.val c)) := rfl
@[simp] theorem asgG_tup4 (i j k l : Nat) (a b c d : D) (e : Env) : asgG (.tup [i, j, k, l]) (.tup [a, b, c, d]) e = .ok ((((e.set i (.val a)).set j (.val b)).set k (.val c)).set l (.val d)) := rfl
@[simp] theorem wipe_one (e : Env) (i : Nat) : wipeE e [i] = e.set i .no := rfl
@[simp] theorem wipe_two (e : Env) (i j : Nat) : wipeE e [i, j] = (e.set j .no).set i .no := rfl
@[simp] theorem frz_val (d : D) (e : Env) : frzE (.val d :: e) 0 = .val d :: e := rfl
@[simp] theorem frz_own (d : D) (e : Env) : frzE (.own d :: e) 0 = .val d :: e := rfl
@[simp] theorem frz_succ (s : Slot) (e : Env) (n : Nat) : frzE (s :: e) (n + 1) = s :: frzE e n := by
  unfold frzE
  rw [List.getElem?_cons_succ]
  cases h : e[n]? with
  | none => rfl
  | some t => cases t <;> rfl
@[simp] theorem parE_nil (e : Env) : parE e [] [] [] = .ok (.nx e) := rfl
@[simp] theorem parE_val (e : Env) (os : List Bool) (i : Nat) (is : List Nat) (d : D) (ds : List D) : parE e (false :: os) (i :: is) (d :: ds) = parE (e.set i (.val d)) os is ds := rfl
@[simp] theorem parE_own (e : Env) (os : List Bool) (i : Nat) (is : List Nat) (d : D) (ds : List D) : parE e (true :: os) (i :: is) (d :: ds) = parE (e.set i (.own d)) os is ds := rfl
@[simp] theorem phi_zero (r : FnR) (Γ : List FnR) (ds : List D) : phi (r :: Γ) 0 ds = arity r.n r.sem ds := rfl
@[simp] theorem phi_succ (r : FnR) (Γ : List FnR) (n : Nat) (ds : List D) : phi (r :: Γ) (n + 1) ds = phi Γ n ds := by
  unfold phi
  rw [List.getElem?_cons_succ]
@[simp] theorem arity_if (n : Nat) (f : List D → R D) (ds : List D) : arity n f ds = if ds.length = n then f ds else .bad := rfl
theorem eq_lst {xs ys : List D} (h1 : okd 8 (.lst xs) = true) (h2 : okd 8 (.lst ys) = true) : cmpS .Eq (.lst xs) (.lst ys) = .ok (eqvs xs ys) := by
  have q : cmpS .Eq (.lst xs) (.lst ys) = if okd 8 (.lst xs) && okd 8 (.lst ys) then .ok (eqv (.lst xs) (.lst ys)) else .bad := rfl
  rw [q, h1, h2]
  rfl
theorem ne_lst {xs ys : List D} (h1 : okd 8 (.lst xs) = true) (h2 : okd 8 (.lst ys) = true) : cmpS .NotEq (.lst xs) (.lst ys) = .ok (!eqvs xs ys) := by
  have q : cmpS .NotEq (.lst xs) (.lst ys) = if okd 8 (.lst xs) && okd 8 (.lst ys) then .ok (!eqv (.lst xs) (.lst ys)) else .bad := rfl
  rw [q, h1, h2]
  rfl
@[simp] theorem asB_bl (b : Bool) : asB (.bl b) = .ok b := rfl
@[simp] theorem asI_int (i : Int) : asI (.int i) = .ok i := rfl
@[simp] theorem lt_int (i j : Int) : cmpS .Lt (.int i) (.int j) = .ok (decide (i < j)) := rfl
@[simp] theorem le_int (i j : Int) : cmpS .LtE (.int i) (.int j) = .ok (decide (i ≤ j)) := rfl
@[simp] theorem gt_int (i j : Int) : cmpS .Gt (.int i) (.int j) = .ok (decide (j < i)) := rfl
@[simp] theorem ge_int (i j : Int) : cmpS .GtE (.int i) (.int j) = .ok (decide (j ≤ i)) := rfl
@[simp] theorem eq_int (i j : Int) : cmpS .Eq (.int i) (.int j) = .ok (i == j) := rfl
@[simp] theorem ne_int (i j : Int) : cmpS .NotEq (.int i) (.int j) = .ok (!(i == j)) := rfl
@[simp] theorem eq_bl (i j : Bool) : cmpS .Eq (.bl i) (.bl j) = .ok (i == j) := rfl
@[simp] theorem ne_bl (i j : Bool) : cmpS .NotEq (.bl i) (.bl j) = .ok (!(i == j)) := rfl
@[simp] theorem is_non (d : D) : cmpS .Is d .non = .ok (match d with | .non => true | _ => false) := by cases d <;> rfl
@[simp] theorem isnot_non (d : D) : cmpS .IsNot d .non = .ok (match d with | .non => false | _ => true) := by cases d <;> rfl
@[simp] theorem is_bl (b c : Bool) : cmpS .Is (.bl b) (.bl c) = .ok (b == c) := rfl
@[simp] theorem add_int (i j : Int) : binS .Add (.int i) (.int j) = .ok (.int (i + j)) := rfl
@[simp] theorem sub_int (i j : Int) : binS .Sub (.int i) (.int j) = .ok (.int (i - j)) := rfl
theorem mul_int {i j : Int} (h : -(2 ^ 64) < i ∧ i < 2 ^ 64) : binS .Mult (.int i) (.int j) = .ok (.int (i * j)) := by
  show mulS i j = _
  unfold mulS
  exact if_pos (.inl h)
theorem mul_int' {i j : Int} (h : -(2 ^ 64) < j ∧ j < 2 ^ 64) : binS .Mult (.int i) (.int j) = .ok (.int (i * j)) := by
  show mulS i j = _
  unfold mulS
  exact if_pos (.inr h)
theorem div_int {i j : Int} (h : 0 < j ∧ j < 2 ^ 64) : binS .FloorDiv (.int i) (.int j) = .ok (.int (i / j)) := by
  show divS i j = _
  unfold divS
  exact if_pos h
theorem mod_int {i j : Int} (h : 0 < j) : binS .Mod (.int i) (.int j) = .ok (.int (i % j)) := if_pos h
@[simp] theorem fit_tup1 (a : D) : fitL [a] .tup = .ok (.tup [a]) := rfl
theorem fit_le {xs : List D} {k : List D → D} (h : xs.length ≤ 1000000) : fitL xs k = .ok (k xs) := if_pos (Nat.le_trans h (by decide))
@[simp] theorem fit_nil (k : List D → D) : fitL [] k = .ok (k []) := fit_le (by simp)
@[simp] theorem fit_2 (a b : D) (k : List D → D) : fitL [a, b] k = .ok (k [a, b]) := fit_le (by simp)
@[simp] theorem fit_3 (a b c : D) (k : List D → D) : fitL [a, b, c] k = .ok (k [a, b, c]) := fit_le (by simp)
@[simp] theorem fit_4 (a b c d : D) (k : List D → D) : fitL [a, b, c, d] k = .ok (k [a, b, c, d]) := fit_le (by simp)
@[simp] theorem ix4_0 (a b c d : D) : ixS (.tup [a, b, c, d]) (.int 0) = .ok a := rfl
@[simp] theorem ix4_1 (a b c d : D) : ixS (.tup [a, b, c, d]) (.int 1) = .ok b := rfl
@[simp] theorem ix4_2 (a b c d : D) : ixS (.tup [a, b, c, d]) (.int 2) = .ok c := rfl
@[simp] theorem ix4_3 (a b c d : D) : ixS (.tup [a, b, c, d]) (.int 3) = .ok d := rfl
@[simp] theorem ix2_0 (a b : D) : ixS (.tup [a, b]) (.int 0) = .ok a := rfl
@[simp] theorem ix2_1 (a b : D) : ixS (.tup [a, b]) (.int 1) = .ok b := rfl
@[simp] theorem len_tup (xs : List D) : biS .len [.tup xs] = .ok (.int xs.length) := rfl
@[simp] theorem len_lst (xs : List D) : biS .len [.lst xs] = .ok (.int xs.length) := rfl
@[simp] theorem len_scr (xs : List Int) : biS .len [.scr xs] = .ok (.int xs.length) := rfl
@[simp] theorem tuple_lst (xs : List D) : biS .tuple [.lst xs] = .ok (.tup xs) := rfl
@[simp] theorem list_tup (xs : List D) : biS .list [.tup xs] = .ok (.lst xs) := rfl
@[simp] theorem max2 (i j : Int) : biS .max [.int i, .int j] = .ok (.int (if j > i then j else i)) := rfl
@[simp] theorem min2 (i j : Int) : biS .min [.int i, .int j] = .ok (.int (if j < i then j else i)) := rfl
@[simp] theorem seq_tup (xs : List D) : itS .seq [.tup xs] = .ok xs := rfl
@[simp] theorem seq_lst (xs : List D) : itS .seq [.lst xs] = .ok xs := rfl
@[simp] theorem enum_tup (xs : List D) : itS .enum [.tup xs] = .ok (enumD xs) := rfl
theorem rng1_ok {n : Int} (h0 : -1000000 ≤ n) (h : n ≤ 1000000) : itS .rng1 [.int n] = .ok (rangeD 0 n.toNat) := by
  have e : (smallI n && decide (n ≤ (sizeLine : Nat))) = true := by
    unfold smallI
    simp only [Bool.and_eq_true, decide_eq_true_eq]
    have : (1000000 : Int) ≤ ((sizeLine : Nat) : Int) := by decide
    omega
  show (if _ then _ else _) = _
  exact if_pos e
theorem rng2_ok {a b : Int} (h0 : -1000000 ≤ a ∧ a ≤ 1000000) (h : -1000000 ≤ b ∧ b ≤ 1000000) (hd : b - a ≤ 1000000) : itS .rng2 [.int a, .int b] = .ok (rangeD a (b - a).toNat) := by
  have e : (smallI a && smallI b && decide (b - a ≤ (sizeLine : Nat))) = true := by
    unfold smallI
    simp only [Bool.and_eq_true, decide_eq_true_eq]
    have : (1000000 : Int) ≤ ((sizeLine : Nat) : Int) := by decide
    omega
  show (if _ then _ else _) = _
  exact if_pos e
theorem boolsOf_map : ∀ {α : Type} (f : α → Bool) (xs : List α), boolsOf (xs.map fun x => .bl (f x)) = some (xs.map f)
  | _, f, [] => rfl
  | _, f, x :: xs => by
    rw [List.map_cons]
    show (boolsOf _).map _ = _
    rw [boolsOf_map f xs]
    rfl
theorem all_bools {α : Type} (f : α → Bool) (xs : List α) : biS .all [.lst (xs.map fun x => .bl (f x))] = .ok (.bl (xs.all f)) := by
  show (match boolsOf _ with | some bs => _ | none => _) = _
  rw [boolsOf_map]
  simp [List.all_map]
theorem lcM_flat {g : D → R (List D)} (h : D → List D) : ∀ {ds : List D}, (∀ d ∈ ds, g d = .ok (h d)) → lcM ds g = .ok (ds.flatMap h)
  | [], _ => rfl
  | d :: ds, k => by
    show (do let xs ← g d; let ys ← lcM ds g; R.ok (xs ++ ys)) = _
    rw [k d List.mem_cons_self, lcM_flat h fun x hx => k x (List.mem_cons_of_mem _ hx)]
    rfl
theorem lcM_map {g : D → R (List D)} (h : D → D) {ds : List D} (k : ∀ d ∈ ds, g d = .ok [h d]) : lcM ds g = .ok (ds.map h) := by
  rw [lcM_flat (fun d => [h d]) k]
  have : ∀ l : List D, l.flatMap (fun d => [h d]) = l.map h := fun l => by
    induction l with
    | nil => rfl
    | cons d l ih => rw [List.flatMap_cons, ih]; rfl
  rw [this]
theorem flat_if {α β : Type} (p : α → Bool) (h : α → β) : ∀ ds : List α, ds.flatMap (fun d => if p d then [h d] else []) = (ds.filter p).map h
  | [] => rfl
  | d :: ds => by
    rw [List.flatMap_cons, flat_if p h ds, List.filter_cons]
    cases p d <;> rfl
theorem forM_inv {f : D → Env → R Fl} (I : Nat → Env → Prop) : ∀ {ds : List D} {e : Env} (n : Nat), (∀ (k : Nat) (d : D) (e : Env), ds[k]? = some d → I (n + k) e → ∃ e', f d e = .ok (.nx e') ∧ I (n + k + 1) e') → I n e → ∃ e', forM f ds e = .ok (.nx e') ∧ I (n + ds.length) e'
  | [], e, n, _, h => ⟨e, rfl, h⟩
  | d :: ds, e, n, st, h => by
    obtain ⟨e1, q1, i1⟩ := st 0 d e rfl h
    obtain ⟨e2, q2, i2⟩ := forM_inv I (ds := ds) (e := e1) (n + 1) (fun k d e hk hi => by
      have := st (k + 1) d e (by rw [List.getElem?_cons_succ]; exact hk) (by rw [show n + (k + 1) = n + 1 + k by omega]; exact hi)
      rw [show n + (k + 1) + 1 = n + 1 + k + 1 by omega] at this
      exact this) i1
    refine ⟨e2, ?_, by rw [List.length_cons, show n + (ds.length + 1) = n + 1 + ds.length by omega]; exact i2⟩
    show andThen (f d e) (forM f ds) = _
    rw [q1]
    exact q2
/-- a loop that keeps one form -/
theorem forM_keep {f : D → Env → R Fl} (I : Env → Prop) {ds : List D} {e : Env} (st : ∀ d ∈ ds, ∀ e, I e → ∃ e', f d e = .ok (.nx e') ∧ I e') (h : I e) : ∃ e', forM f ds e = .ok (.nx e') ∧ I e' := by
  obtain ⟨e', q, i⟩ := forM_inv (fun _ => I) (ds := ds) (e := e) 0 (fun k d e hk hi => st d (List.mem_of_getElem? hk) e hi) h
  exact ⟨e', q, i⟩
end Pan
namespace Pan
open PySem L2
theorem okd_mono : ∀ (n m : Nat) (d : D), n ≤ m → okd n d = true → okd m d = true
  | _, _, .non, _, _ => by simp [okd]
  | _, _, .bl _, _, _ => by simp [okd]
  | _, _, .int _, _, _ => by simp [okd]
  | _, _, .str x, _, h => by simp only [okd] at h ⊢; exact h
  | 0, _, .tup _, _, h => by simp [okd] at h
  | 0, _, .lst _, _, h => by simp [okd] at h
  | n + 1, 0, _, hl, _ => by omega
  | n + 1, m + 1, .tup xs, hl, h => by
    simp only [okd, List.all_eq_true] at h ⊢
    exact fun x hx => okd_mono n m x (by omega) (h x hx)
  | n + 1, m + 1, .lst xs, hl, h => by
    simp only [okd, List.all_eq_true] at h ⊢
    exact fun x hx => okd_mono n m x (by omega) (h x hx)
  | _, _, .dic _ _, _, h => by simp [okd] at h
  | _, _, .prs _, _, h => by simp [okd] at h
  | _, _, .ty _, _, h => by simp [okd] at h
  | _, _, .scr _, _, h => by simp [okd] at h
theorem isinst_ok {d : D} {n : String} (h : okd 8 d = true) (hn : classes.contains n = true) : biS .isinst [d, .ty n] = .ok (.bl (isInstS d n)) := by
  show (if _ then _ else _) = _
  exact if_pos (by rw [h, hn]; rfl)
def isI (lo hi : Int) : D → Bool
  | .int i => decide (lo ≤ i) && decide (i ≤ hi)
  | _ => false
theorem is_int_ok (d : D) (lo hi : Int) (h : okd 8 d = true) : r_is_int.sem [d, .int lo, .int hi] = .ok (.bl (isI lo hi d)) := by
  cases d <;> simp -implicitDefEqProofs [r_is_int, ir_is_int, runF_eq, isinst_ok h, classes, isInstS, isI]
  all_goals simp [okd] at h
def ltI : D → D → Bool
  | .int i, .int j => decide (i < j)
  | _, _ => false
def isW : D → Bool
  | .tup [a, b, c, d] => [a, b, c, d].all (isI 0 12) && (ltI a c && ltI b d)
  | _ => false
theorem isI_int {lo hi : Int} {d : D} (h : isI lo hi d = true) : ∃ i, d = .int i ∧ lo ≤ i ∧ i ≤ hi := by
  cases d <;> simp [isI] at h
  exact ⟨_, rfl, h⟩
theorem okd_item {n : Nat} {xs : List D} {x : D} (h : okd (n + 1) (.tup xs) = true) (hx : x ∈ xs) : okd (n + 1) x = true := by
  simp only [okd, List.all_eq_true] at h
  exact okd_mono n (n + 1) x (by omega) (h x hx)
theorem all_lc {xs : List D} {g : D → R (List D)} (f : D → Bool) (h : ∀ d ∈ xs, g d = .ok [.bl (f d)]) : ∃ bs, lcM xs g = .ok bs ∧ biS .all [.lst bs] = .ok (.bl (xs.all f)) :=
  ⟨_, lcM_map _ h, all_bools f xs⟩
theorem isW_len {xs : List D} (h : ¬ xs.length = 4) : isW (.tup xs) = false := by
  unfold isW
  split
  · rename_i e; simp only [D.tup.injEq] at e; rw [e] at h; exact absurd rfl h
  · rfl
theorem is_window_ok (d : D) (h : okd 8 d = true) : r_is_window.sem [d] = .ok (.bl (isW d)) := by
  have hi := isinst_ok (n := "tuple") h rfl
  cases d with
  | tup xs =>
    obtain ⟨bs, hl, hA⟩ : ∃ bs, lcM xs (itemL (phi [r_is_int]) [Slot.val (.tup xs), .no] [1] (.name 1) .none (.call 0 (.cons (.var 1) (.cons (.lit (.int 0)) (.cons (.lit (.int 12)) .nil))))) = .ok bs ∧ biS .all [.lst bs] = .ok (.bl (xs.all (isI 0 12))) :=
      all_lc _ fun d hd => by simp [itemL, is_int_ok d 0 12 (okd_item h hd)]
    by_cases h4 : xs.length = 4
    · match xs, h4 with
      | [a, b, c, e], _ =>
        cases ha : [a, b, c, e].all (isI 0 12) with
        | false =>
          rw [ha] at hA
          simp only [isW, ha, Bool.false_and]
          simp -implicitDefEqProofs [r_is_window, ir_is_window, runF_eq, hi, isInstS, hl, hA]
        | true =>
          rw [ha] at hA
          have hh := List.all_eq_true.mp ha
          obtain ⟨a, rfl, _⟩ := isI_int (hh a (by simp))
          obtain ⟨b, rfl, _⟩ := isI_int (hh b (by simp))
          obtain ⟨c, rfl, _⟩ := isI_int (hh c (by simp))
          obtain ⟨e, rfl, _⟩ := isI_int (hh e (by simp))
          simp only [isW, ha, Bool.true_and, ltI]
          simp -implicitDefEqProofs [r_is_window, ir_is_window, runF_eq, hi, isInstS, hl, hA]
    · have h5 : ((xs.length : Int) == 4) = false := by simp; omega
      rw [isW_len h4]
      simp -implicitDefEqProofs [r_is_window, ir_is_window, runF_eq, hi, isInstS, h5]
  | _ => simp -implicitDefEqProofs [r_is_window, ir_is_window, runF_eq, hi, isInstS, isW]
def areW : D → Bool
  | .tup xs => decide (xs.length ≤ 6) && xs.all isW
  | _ => false
theorem are_windows_ok (d : D) (h : okd 8 d = true) : r_are_windows.sem [d] = .ok (.bl (areW d)) := by
  have hi := isinst_ok (n := "tuple") h rfl
  cases d with
  | tup xs =>
    obtain ⟨bs, hl, hA⟩ : ∃ bs, lcM xs (itemL (phi [r_is_window]) [Slot.val (.tup xs), .no] [1] (.name 1) .none (.call 0 (.cons (.var 1) .nil))) = .ok bs ∧ biS .all [.lst bs] = .ok (.bl (xs.all isW)) :=
      all_lc _ fun d hd => by simp [itemL, is_window_ok d (okd_item h hd)]
    by_cases h6 : xs.length ≤ 6
    · have h7 : ¬ (6 : Int) < xs.length := by omega
      simp -implicitDefEqProofs [r_are_windows, ir_are_windows, runF_eq, hi, isInstS, areW, h6, h7, hl, hA]
    · have h7 : (6 : Int) < xs.length := by omega
      simp -implicitDefEqProofs [r_are_windows, ir_are_windows, runF_eq, hi, isInstS, areW, h6, h7]
  | _ => simp -implicitDefEqProofs [r_are_windows, ir_are_windows, runF_eq, hi, isInstS, areW]
/-- sorted, of ints -/
theorem check_windows_ok (d : D) (h : okd 8 d = true) : r_check_windows.sem [d] = if areW d then .ok .non else .exc 1 := by
  cases ha : areW d <;> simp -implicitDefEqProofs [r_check_windows, ir_check_windows, runF_eq, are_windows_ok d h, ha]
theorem check_window_ok (d : D) (h : okd 8 d = true) : r_check_window.sem [d] = if isW d then .ok .non else .exc 0 := by
  cases ha : isW d <;> simp -implicitDefEqProofs [r_check_window, ir_check_window, runF_eq, is_window_ok d h, ha]
structure Wn where
  l : Int
  t : Int
  r : Int
  b : Int
def wD (w : Wn) : D := .tup [.int w.l, .int w.t, .int w.r, .int w.b]
def Wn.ok (w : Wn) : Prop := 0 ≤ w.l ∧ w.l < w.r ∧ w.r ≤ 12 ∧ 0 ≤ w.t ∧ w.t < w.b ∧ w.b ≤ 12
def Wn.has (w : Wn) (x y : Int) : Bool := decide (w.l ≤ x) && decide (x < w.r) && (decide (w.t ≤ y) && decide (y < w.b))
def wsD (ws : List Wn) : D := .tup (ws.map wD)
theorem okd_wD (n : Nat) (w : Wn) : okd (n + 1) (wD w) = true := by simp [wD, okd]
theorem okd_wsD (n : Nat) (ws : List Wn) : okd (n + 2) (wsD ws) = true := by simp [wsD, wD, okd]
theorem isW_wD {w : Wn} (h : w.ok) : isW (wD w) = true := by
  obtain ⟨h1, h2, h3, h4, h5, h6⟩ := h
  simp [isW, wD, isI, ltI]
  omega
theorem areW_wsD {ws : List Wn} (h : ∀ w ∈ ws, w.ok) (hl : ws.length ≤ 6) : areW (wsD ws) = true := by
  simp only [areW, wsD, List.length_map, Bool.and_eq_true, decide_eq_true_eq, List.all_map, List.all_eq_true]
  exact ⟨hl, fun w hw => isW_wD (h w hw)⟩
theorem len_wsD (ws : List Wn) : biS .len [wsD ws] = .ok (.int ws.length) := by simp [wsD]
end Pan
namespace Pan
open PySem L2
def cD (p : Int × Int) : D := .tup [.int p.1, .int p.2]
def rngI (a b : Int) : List Int := (List.range (b - a).toNat).map fun (i : Nat) => a + i
theorem mem_rngI {a b x : Int} : x ∈ rngI a b ↔ a ≤ x ∧ x < b := by
  unfold rngI
  simp only [List.mem_map, List.mem_range]
  constructor
  · rintro ⟨i, h, rfl⟩; omega
  · intro h; exact ⟨(x - a).toNat, by omega, by omega⟩
theorem rangeD_rngI (a b : Int) : rangeD a (b - a).toNat = (rngI a b).map .int := by
  unfold rangeD rngI
  rw [List.map_map]
  rfl
def cellsOf (w : Wn) : List (Int × Int) := (rngI w.l w.r).flatMap fun x => (rngI w.t w.b).map fun y => (x, y)
theorem mem_cellsOf {w : Wn} {p : Int × Int} : p ∈ cellsOf w ↔ w.has p.1 p.2 = true := by
  obtain ⟨x, y⟩ := p
  unfold cellsOf Wn.has
  simp only [List.mem_flatMap, List.mem_map, Prod.mk.injEq, mem_rngI, Bool.and_eq_true, decide_eq_true_eq]
  constructor
  · rintro ⟨a, h, b, h', rfl, rfl⟩; exact ⟨h, h'⟩
  · rintro ⟨h, h'⟩; exact ⟨x, h, y, h', rfl, rfl⟩
theorem map_flatMap' {α β γ : Type} (f : β → γ) (g : α → List β) (l : List α) : (l.flatMap g).map f = l.flatMap fun x => (g x).map f := by
  induction l with
  | nil => rfl
  | cons a l ih => rw [List.flatMap_cons, List.flatMap_cons, List.map_append, ih]
theorem len_cells {w : Wn} (h : w.ok) : (cellsOf w).length ≤ 144 := by
  obtain ⟨h1, h2, h3, h4, h5, h6⟩ := h
  have e : ∀ l : List Int, (l.flatMap fun x => (rngI w.t w.b).map fun y => (x, y)).length = l.length * (rngI w.t w.b).length := fun l => by
    induction l with
    | nil => simp
    | cons a l ih => rw [List.flatMap_cons, List.length_append, ih, List.length_map, List.length_cons, Nat.add_one_mul]; omega
  unfold cellsOf
  rw [e]
  have a : (rngI w.l w.r).length ≤ 12 := by unfold rngI; rw [List.length_map, List.length_range]; omega
  have b : (rngI w.t w.b).length ≤ 12 := by unfold rngI; rw [List.length_map, List.length_range]; omega
  calc _ ≤ 12 * 12 := Nat.mul_le_mul a b
    _ = 144 := rfl
theorem lcM_flatI {α : Type} {g : D → R (List D)} (f : α → D) (h : α → List D) {l : List α} (k : ∀ a ∈ l, g (f a) = .ok (h a)) : lcM (l.map f) g = .ok (l.flatMap h) := by
  induction l with
  | nil => rfl
  | cons a l ih =>
    rw [List.map_cons]
    show (do let xs ← g (f a); let ys ← lcM (l.map f) g; R.ok (xs ++ ys)) = _
    rw [k a List.mem_cons_self, ih fun x hx => k x (List.mem_cons_of_mem _ hx)]
    rfl
theorem lcM_mapI {α : Type} {g : D → R (List D)} (f : α → D) (h : α → D) {l : List α} (k : ∀ a ∈ l, g (f a) = .ok [h a]) : lcM (l.map f) g = .ok (l.map h) := by
  rw [lcM_flatI f (fun a => [h a]) k]
  have : ∀ l : List α, l.flatMap (fun d => [h d]) = l.map h := fun l => by
    induction l with
    | nil => rfl
    | cons d l ih => rw [List.flatMap_cons, ih]; rfl
  rw [this]
theorem lcM_filterI {α : Type} {g : D → R (List D)} (f : α → D) (p : α → Bool) (h : α → D) {l : List α} (k : ∀ a ∈ l, g (f a) = .ok (if p a then [h a] else [])) : lcM (l.map f) g = .ok ((l.filter p).map h) := by
  rw [lcM_flatI f _ k, flat_if]
theorem cells_of_ok {w : Wn} (h : w.ok) : r_cells_of.sem [wD w] = .ok (.lst ((cellsOf w).map cD)) := by
  have h' := h
  obtain ⟨h1, h2, h3, h4, h5, h6⟩ := h'
  have ra : itS .rng2 [.int w.l, .int w.r] = .ok ((rngI w.l w.r).map .int) := by rw [rng2_ok (by omega) (by omega) (by omega), rangeD_rngI]
  have rb : itS .rng2 [.int w.t, .int w.b] = .ok ((rngI w.t w.b).map .int) := by rw [rng2_ok (by omega) (by omega) (by omega), rangeD_rngI]
  have e : (cellsOf w).map cD = (rngI w.l w.r).flatMap fun x => (rngI w.t w.b).map fun y => cD (x, y) := by
    unfold cellsOf
    rw [map_flatMap']
    congr 1
    funext x
    rw [List.map_map]
    rfl
  have fit : fitL ((cellsOf w).map cD) .lst = .ok (.lst ((cellsOf w).map cD)) := fit_le (by rw [List.length_map]; have := len_cells h; omega)
  rw [e] at fit ⊢
  simp -implicitDefEqProofs only [r_cells_of, ir_cells_of, runF_eq, wD, List.map_cons, List.map_nil, List.length_cons, List.length_nil, List.cons_append, List.nil_append, Nat.zero_add, Nat.reduceAdd, Nat.reduceSub, List.replicate, xss_cons, xs_ret, ev_lc2, evs_cons, evs_nil, ev_ix, ev_var, ev_lit, getV_zero, bind_ok, ix4_0, ix4_2, ra]
  rw [lcM_flatI D.int (fun x => (rngI w.t w.b).map fun y => cD (x, y))]
  · rw [calm_ok, bind_ok, fit]
    rfl
  · intro x hx
    simp -implicitDefEqProofs only [asgG_name, bind_ok, wipe_two, evT_none, if_true, evs_cons, evs_nil, ev_ix, ev_var, ev_lit, List.set_cons_succ, List.set_cons_zero, getV_zero, ix4_1, ix4_3, rb]
    exact lcM_mapI D.int _ fun y hy => by simp -implicitDefEqProofs [itemL, cD]
theorem enum_wD (ws : List Wn) : enumD (ws.map wD) = ws.zipIdx.map fun p => .prs [.int (p.2 : Nat), wD p.1] := by
  unfold enumD
  rw [List.mapIdx_eq_zipIdx_map, List.zipIdx_map, List.map_map]
  rfl
end Pan
namespace Pan
open PySem L2
def kvT (p : Int × Int) : D × D := (cD p, .bl true)
theorem eqv_cD (p q : Int × Int) : eqv (cD p) (cD q) = decide (p = q) := by
  obtain ⟨a, b⟩ := p
  obtain ⟨c, d⟩ := q
  show ((a == c) && ((b == d) && true)) = _
  by_cases h : a = c <;> by_cases h' : b = d <;> simp [h, h']
def addK (ks : List (Int × Int)) (p : Int × Int) : List (Int × Int) := if p ∈ ks then ks else ks ++ [p]
theorem dput_cD (ks : List (Int × Int)) (p : Int × Int) : dput (cD p) (.bl true) (ks.map kvT) = (addK ks p).map kvT := by
  unfold dput addK
  have e : ((ks.map kvT).any fun q => eqv q.1 (cD p)) = decide (p ∈ ks) := by
    rw [List.any_map, Bool.eq_iff_iff, List.any_eq_true, decide_eq_true_eq]
    simp only [Function.comp_apply, kvT, eqv_cD, decide_eq_true_eq]
    constructor
    · rintro ⟨q, hq, rfl⟩; exact hq
    · intro h; exact ⟨p, h, rfl⟩
  rw [e]
  by_cases h : p ∈ ks
  · rw [decide_eq_true h, if_pos rfl, if_pos h, List.map_map]
    refine List.map_congr_left fun q _ => ?_
    show (if eqv (cD q) (cD p) = true then (cD q, D.bl true) else (cD q, D.bl true)) = (cD q, D.bl true)
    exact ite_self _
  · rw [decide_eq_false h, if_neg (by simp), if_neg h, List.map_append]
    rfl
theorem addK_mem {ks : List (Int × Int)} {p q : Int × Int} : q ∈ addK ks p ↔ q ∈ ks ∨ q = p := by
  unfold addK
  split
  · constructor
    · exact .inl
    · rintro (h | rfl) <;> assumption
  · simp
theorem addK_nodup {ks : List (Int × Int)} {p : Int × Int} (h : ks.Nodup) : (addK ks p).Nodup := by
  unfold addK
  split
  · exact h
  · rename_i hp
    rw [List.nodup_append]
    refine ⟨h, by simp, fun a ha b hb => ?_⟩
    simp at hb
    subst hb
    intro e; subst e; exact hp ha
def grid : List (Int × Int) := (rngI 0 12).flatMap fun x => (rngI 0 12).map fun y => (x, y)
theorem mem_grid {p : Int × Int} : p ∈ grid ↔ (0 ≤ p.1 ∧ p.1 < 12) ∧ (0 ≤ p.2 ∧ p.2 < 12) := by
  obtain ⟨x, y⟩ := p
  unfold grid
  simp only [List.mem_flatMap, List.mem_map, Prod.mk.injEq, mem_rngI]
  constructor
  · rintro ⟨a, h, b, h', rfl, rfl⟩; exact ⟨h, h'⟩
  · rintro ⟨h, h'⟩; exact ⟨x, h, y, h', rfl, rfl⟩
theorem rngI_nodup (a b : Int) : (rngI a b).Nodup := by
  unfold rngI
  rw [List.nodup_iff_pairwise_ne, List.pairwise_map]
  refine (List.nodup_iff_pairwise_ne.mp List.nodup_range).imp ?_
  intro i j h e
  exact h (by omega)
theorem prod_nodup {xs ys : List Int} (hx : xs.Nodup) (hy : ys.Nodup) : (xs.flatMap fun x => ys.map fun y => (x, y)).Nodup := by
  induction xs with
  | nil => simp
  | cons a l ih =>
    rw [List.flatMap_cons, List.nodup_append]
    rw [List.nodup_cons] at hx
    refine ⟨?_, ih hx.2, ?_⟩
    · rw [List.nodup_iff_pairwise_ne, List.pairwise_map]
      refine (List.nodup_iff_pairwise_ne.mp hy).imp ?_
      intro i j h e
      simp only [Prod.mk.injEq, true_and] at e
      exact h e
    · intro p hp q hq e
      subst e
      simp only [List.mem_map] at hp
      obtain ⟨y, _, rfl⟩ := hp
      simp only [List.mem_flatMap, List.mem_map, Prod.mk.injEq] at hq
      obtain ⟨x, hx', y', _, rfl, _⟩ := hq
      exact hx.1 hx'
theorem grid_nodup : grid.Nodup := prod_nodup (rngI_nodup 0 12) (rngI_nodup 0 12)
theorem grid_len : grid.length = 144 := by decide +kernel
theorem len_le_grid {ks : List (Int × Int)} (h : ks.Nodup) (hs : ∀ p ∈ ks, p ∈ grid) : ks.length ≤ 144 := by
  have : ks.Perm (grid.filter fun p => decide (p ∈ ks)) := by
    rw [List.perm_ext_iff_of_nodup h (grid_nodup.filter _)]
    intro p
    rw [List.mem_filter, decide_eq_true_eq]
    exact ⟨fun q => ⟨hs p q, q⟩, fun q => q.2⟩
  rw [this.length_eq, ← grid_len]
  exact List.length_filter_le _ _
theorem cells_grid {w : Wn} (h : w.ok) {p : Int × Int} (hp : p ∈ cellsOf w) : p ∈ grid := by
  obtain ⟨h1, h2, h3, h4, h5, h6⟩ := h
  have := mem_cellsOf.mp hp
  unfold Wn.has at this
  simp only [Bool.and_eq_true, decide_eq_true_eq] at this
  rw [mem_grid]
  omega
theorem put_ok (ks : List (Int × Int)) (p : Int × Int) (s0 s2 : Slot) (hl : ks.length ≤ 1000) : xs (phi [r_cells_of]) (.put 1 (.var 3) (.lit (.bl true))) [s0, .own (.dic true (ks.map kvT)), s2, .val (cD p)] = .ok (.nx [s0, .own (.dic true ((addK ks p).map kvT)), s2, .val (cD p)]) := by
  have q : xs (phi [r_cells_of]) (.put 1 (.var 3) (.lit (.bl true))) [s0, .own (.dic true (ks.map kvT)), s2, .val (cD p)] = if keyOf true (cD p) && decide ((ks.map kvT).length < sizeLine) then .ok (.nx [s0, .own (.dic true (dput (cD p) (.bl true) (ks.map kvT))), s2, .val (cD p)]) else .bad := rfl
  have e : (keyOf true (cD p) && decide ((ks.map kvT).length < sizeLine)) = true := by
    rw [Bool.and_eq_true]
    refine ⟨rfl, decide_eq_true ?_⟩
    rw [List.length_map]
    exact Nat.lt_of_le_of_lt hl (by decide)
  rw [q, if_pos e, dput_cD]
theorem ac_inner (d0 : D) (s2 : Slot) : ∀ (cs ks : List (Int × Int)) (s3 : Slot), ks.Nodup → (∀ p ∈ ks, p ∈ grid) → (∀ p ∈ cs, p ∈ grid) →
    ∃ (ks' : List (Int × Int)) (s3' : Slot), forM (turnF (phi [r_cells_of]) (.name 3) (.cons (.put 1 (.var 3) (.lit (.bl true))) .nil)) (cs.map cD) [.val d0, .own (.dic true (ks.map kvT)), s2, s3] = .ok (.nx [.val d0, .own (.dic true (ks'.map kvT)), s2, s3']) ∧ ks'.Nodup ∧ ∀ p, p ∈ ks' ↔ p ∈ ks ∨ p ∈ cs
  | [], ks, s3, hn, hg, _ => ⟨ks, s3, rfl, hn, fun p => by simp⟩
  | c :: cs, ks, s3, hn, hg, hc => by
    have st : turnF (phi [r_cells_of]) (.name 3) (.cons (.put 1 (.var 3) (.lit (.bl true))) .nil) (cD c) [.val d0, .own (.dic true (ks.map kvT)), s2, s3] = .ok (.nx [.val d0, .own (.dic true ((addK ks c).map kvT)), s2, .val (cD c)]) := by
      unfold turnF
      rw [asgG_name, lift_ok, xss_cons]
      show andThen (xs _ _ [.val d0, .own (.dic true (ks.map kvT)), s2, .val (cD c)]) _ = _
      rw [put_ok ks c _ _ (Nat.le_trans (len_le_grid hn hg) (by decide))]
      rfl
    obtain ⟨ks', s3', q, n', m'⟩ := ac_inner d0 s2 cs (addK ks c) (.val (cD c)) (addK_nodup hn) (fun p hp => by
      rcases addK_mem.mp hp with h | rfl
      · exact hg p h
      · exact hc _ List.mem_cons_self) fun p hp => hc p (List.mem_cons_of_mem _ hp)
    refine ⟨ks', s3', ?_, n', fun p => ?_⟩
    · rw [List.map_cons]
      show andThen (turnF _ _ _ _ _) _ = _
      rw [st]
      exact q
    · rw [m' p, addK_mem, List.mem_cons, or_assoc]
theorem ac_outer (d0 : D) : ∀ (ws : List Wn) (ks : List (Int × Int)) (s2 s3 : Slot), (∀ w ∈ ws, w.ok) → ks.Nodup → (∀ p ∈ ks, p ∈ grid) →
    ∃ (ks' : List (Int × Int)) (s2' s3' : Slot), forM (turnF (phi [r_cells_of]) (.name 2) (.cons (.for_ (.name 3) .seq (.cons (.call 0 (.cons (.var 2) .nil)) .nil) (.cons (.put 1 (.var 3) (.lit (.bl true))) .nil)) .nil)) (ws.map wD) [.val d0, .own (.dic true (ks.map kvT)), s2, s3] = .ok (.nx [.val d0, .own (.dic true (ks'.map kvT)), s2', s3']) ∧ ks'.Nodup ∧ ∀ p, p ∈ ks' ↔ p ∈ ks ∨ ∃ w ∈ ws, p ∈ cellsOf w
  | [], ks, s2, s3, _, hn, hg => ⟨ks, s2, s3, rfl, hn, fun p => by simp⟩
  | w :: ws, ks, s2, s3, hw, hn, hg => by
    have hw0 := hw w List.mem_cons_self
    obtain ⟨k1, t3, q1, n1, m1⟩ := ac_inner d0 (.val (wD w)) (cellsOf w) ks s3 hn hg fun p hp => cells_grid hw0 hp
    have g1 : ∀ p ∈ k1, p ∈ grid := fun p hp => by
      rcases (m1 p).mp hp with h | h
      · exact hg p h
      · exact cells_grid hw0 h
    obtain ⟨ks', s2', s3', q, n', m'⟩ := ac_outer d0 ws k1 (.val (wD w)) t3 (fun v hv => hw v (List.mem_cons_of_mem _ hv)) n1 g1
    refine ⟨ks', s2', s3', ?_, n', fun p => ?_⟩
    · rw [List.map_cons]
      show andThen (turnF _ _ _ _ _) _ = _
      have st : turnF (phi [r_cells_of]) (.name 2) (.cons (.for_ (.name 3) .seq (.cons (.call 0 (.cons (.var 2) .nil)) .nil) (.cons (.put 1 (.var 3) (.lit (.bl true))) .nil)) .nil) (wD w) [.val d0, .own (.dic true (ks.map kvT)), s2, s3] = .ok (.nx [.val d0, .own (.dic true (k1.map kvT)), .val (wD w), t3]) := by
        unfold turnF
        rw [asgG_name, lift_ok, xss_cons, xs_for]
        simp -implicitDefEqProofs [cells_of_ok hw0, q1]
      rw [st]
      exact q
    · rw [m' p, m1 p]
      simp only [List.mem_cons, exists_eq_or_imp, or_assoc]
theorem all_cells_ok {ws : List Wn} (h : ∀ w ∈ ws, w.ok) : ∃ cs, r_all_cells.sem [wsD ws] = .ok (.lst cs) ∧ cs.length = (grid.filter fun p => ws.any fun w => w.has p.1 p.2).length := by
  obtain ⟨ks, s2, s3, q, n, m⟩ := ac_outer (wsD ws) ws [] .no .no h List.nodup_nil (by simp)
  have pe : ks.Perm (grid.filter fun p => ws.any fun w => w.has p.1 p.2) := by
    rw [List.perm_ext_iff_of_nodup n (grid_nodup.filter _)]
    intro p
    rw [m p, List.mem_filter, List.any_eq_true]
    constructor
    · rintro (h' | ⟨w, hw, hp⟩)
      · simp at h'
      · exact ⟨cells_grid (h w hw) hp, w, hw, mem_cellsOf.mp hp⟩
    · rintro ⟨_, w, hw, hp⟩
      exact .inr ⟨w, hw, mem_cellsOf.mpr hp⟩
  have hs : sortable (ks.map cD) = true := by
    unfold sortable
    rw [Bool.or_eq_true]
    right
    simp [isTupI, cD, isIntD]
  have hS : biS .sorted [.dic true (ks.map kvT)] = .ok (.lst (sortD (ks.map cD))) := by
    have e : biS .sorted [.dic true (ks.map kvT)] = sortS ((ks.map kvT).map (·.1)) := rfl
    rw [e, List.map_map]
    show sortS (ks.map cD) = _
    unfold sortS
    exact if_pos hs
  refine ⟨sortD (ks.map cD), ?_, ?_⟩
  · have q' : forM (turnF (phi [r_cells_of]) (.name 2) (.cons (.for_ (.name 3) .seq (.cons (.call 0 (.cons (.var 2) .nil)) .nil) (.cons (.put 1 (.var 3) (.lit (.bl true))) .nil)) .nil)) (ws.map wD) [.val (.tup (ws.map wD)), .own (.dic true []), .no, .no] = .ok (.nx [.val (wsD ws), .own (.dic true (ks.map kvT)), s2, s3]) := q
    simp -implicitDefEqProofs [r_all_cells, ir_all_cells, runF_eq, wsD, q', hS]
  · rw [(sortD_perm _).length_eq, List.length_map, pe.length_eq]
theorem covered_ok {ws : List Wn} (h : ∀ w ∈ ws, w.ok) (hl : ws.length ≤ 6) : r_covered.sem [wsD ws] = .ok (.int (grid.filter fun p => ws.any fun w => w.has p.1 p.2).length) := by
  have a := check_windows_ok (wsD ws) (okd_wsD 6 ws)
  rw [areW_wsD h hl] at a
  simp only [if_true] at a
  obtain ⟨cs, b, e⟩ := all_cells_ok h
  rw [← e]
  simp -implicitDefEqProofs [r_covered, ir_covered, runF_eq, a, b]
def meet (v w : Wn) : Wn := ⟨if w.l > v.l then w.l else v.l, if w.t > v.t then w.t else v.t, if w.r < v.r then w.r else v.r, if w.b < v.b then w.b else v.b⟩
theorem check_win {w : Wn} (h : w.ok) : r_check_window.sem [wD w] = .ok .non := by
  rw [check_window_ok _ (okd_wD 7 w), isW_wD h]
  rfl
theorem find_overlap_ok (v w : Wn) : r_find_overlap.sem [wD v, wD w] = .ok (if (meet v w).l < (meet v w).r ∧ (meet v w).t < (meet v w).b then wD (meet v w) else .non) := by
  by_cases h : (meet v w).l < (meet v w).r ∧ (meet v w).t < (meet v w).b
  · rw [if_pos h]
    obtain ⟨h1, h2⟩ := h
    simp only [meet] at h1 h2
    simp -implicitDefEqProofs [r_find_overlap, ir_find_overlap, runF_eq, wD, meet, h1, h2]
  · rw [if_neg h]
    simp only [meet, gt_iff_lt] at h
    simp -implicitDefEqProofs only [r_find_overlap, ir_find_overlap, runF_eq, wD]
    simp -implicitDefEqProofs [h]
theorem overlap_ok {v w : Wn} (hv : v.ok) (hw : w.ok) : r_overlap.sem [wD v, wD w] = .ok (if (meet v w).l < (meet v w).r ∧ (meet v w).t < (meet v w).b then wD (meet v w) else .non) := by
  simp -implicitDefEqProofs only [r_overlap, ir_overlap, runF_eq, check_win hv, check_win hw, find_overlap_ok, List.map_cons, List.map_nil, List.length_cons, List.length_nil, List.cons_append, List.nil_append, Nat.zero_add, Nat.reduceAdd, Nat.reduceSub, List.replicate, xss_cons, xss_nil, xs_expr, xs_ret, ev_call, evs_cons, evs_nil, ev_var, getV_zero, getV_succ, bind_ok, phi_zero, phi_succ, arity_if, n_check_window, n_find_overlap, lift_ok, andThen_nx, andThen_rt, outF_rt, if_true]
theorem size_ok {w : Wn} (h : w.ok) : r_size.sem [wD w] = .ok (.int ((w.r - w.l) * (w.b - w.t))) := by
  have h' := h
  obtain ⟨h1, h2, h3, h4, h5, h6⟩ := h'
  have m : binS .Mult (.int (w.r - w.l)) (.int (w.b - w.t)) = .ok (.int ((w.r - w.l) * (w.b - w.t))) := mul_int (by omega)
  have c := check_win h
  unfold wD at c
  simp -implicitDefEqProofs [r_size, ir_size, runF_eq, c, wD, m]
end Pan
namespace Pan
open PySem L2
theorem pow18 : binS .Pow (.int 10) (.int 18) = .ok (.int (10 ^ 18)) := by
  have q : binS .Pow (.int 10) (.int 18) = if (0 : Int) ≤ 18 ∧ (18 : Int) ≤ 1000 ∧ (10 : Int).natAbs < 2 ^ 64 then R.ok (.int (10 ^ (18 : Int).toNat)) else .bad := rfl
  rw [q, if_pos (by decide)]
  rfl
theorem mul_small {i j : Int} (h : 0 ≤ i ∧ i ≤ 1000) : binS .Mult (.int i) (.int j) = .ok (.int (i * j)) := mul_int (by omega)
end Pan
namespace Pan
open PySem L2
end Pan
namespace Pan
open PySem L2
theorem xs_app_eq (Φ : Nat → List D → R D) (i : Nat) (a : E) (e : Env) : xs Φ (.app i a) e = match e[i]? with
    | some (.own (.lst l)) => lift (ev Φ a e) e fun d => if l.length < sizeLine then .ok (.nx (e.set i (.own (.lst (l ++ [d]))))) else .bad
    | _ => .bad := rfl
theorem app_ok {Φ : Nat → List D → R D} {i : Nat} {a : E} {e : Env} {l : List D} {d : D} (h : e[i]? = some (.own (.lst l))) (ha : ev Φ a e = .ok d) (hl : l.length ≤ 1000) : xs Φ (.app i a) e = .ok (.nx (e.set i (.own (.lst (l ++ [d]))))) := by
  rw [xs_app_eq, h]
  show lift (ev Φ a e) e _ = _
  rw [ha, lift_ok, if_pos (Nat.lt_of_le_of_lt hl (by decide))]
theorem grid_size {w : Wn} (h : w.ok) : ((grid.filter fun p => w.has p.1 p.2).length : Int) = (w.r - w.l) * (w.b - w.t) := by
  have pe : (grid.filter fun p => w.has p.1 p.2).Perm (cellsOf w) := by
    have nd : (cellsOf w).Nodup := prod_nodup (rngI_nodup _ _) (rngI_nodup _ _)
    rw [List.perm_ext_iff_of_nodup (grid_nodup.filter _) nd]
    intro p
    rw [List.mem_filter]
    exact ⟨fun q => mem_cellsOf.mpr q.2, fun q => ⟨cells_grid h q, mem_cellsOf.mp q⟩⟩
  have e : ∀ l : List Int, (l.flatMap fun x => (rngI w.t w.b).map fun y => (x, y)).length = l.length * (rngI w.t w.b).length := fun l => by
    induction l with
    | nil => simp
    | cons a l ih => rw [List.flatMap_cons, List.length_append, ih, List.length_map, List.length_cons, Nat.add_one_mul]; omega
  rw [pe.length_eq]
  unfold cellsOf
  rw [e]
  obtain ⟨h1, h2, h3, h4, h5, h6⟩ := h
  unfold rngI
  rw [List.length_map, List.length_range, List.length_map, List.length_range, Int.natCast_mul, Int.toNat_of_nonneg (by omega), Int.toNat_of_nonneg (by omega)]
/-- the law's own cells of a window -/
def cl (w : Wn) : List (Int × Int) := grid.filter fun p => w.has p.1 p.2
end Pan
namespace Pan
open PySem L2
abbrev dwC : E := .and (.cons (.cmp .Gt (.var 5) (.lit (.int (0)))) (.cons (.cmp .Gt (.var 4) (.lit (.int (0)))) .nil))
abbrev dwB : Ss := .cons (.asg (.name 5) (.bin .FloorDiv (.var 5) (.lit (.int (1000000))))) (.cons (.asg (.name 4) (.bin .Sub (.var 4) (.lit (.int (1))))) .nil)
theorem dw_turn (a b c d : D) (r g : Int) : xss (phi []) dwB [.val a, .val b, .val c, .val d, .val (.int g), .val (.int r)] = .ok (.nx [.val a, .val b, .val c, .val d, .val (.int (g - 1)), .val (.int (r / 1000000))]) := by
  have q : binS .FloorDiv (.int r) (.int 1000000) = .ok (.int (r / 1000000)) := div_int (by omega)
  simp -implicitDefEqProofs [dwB, q]
theorem dw_loop (a b c d : D) : ∀ (n : Nat) (r g : Int), g < n → ∃ r' g', whlM (ev (phi []) dwC) (xss (phi []) dwB) (n + 1) [.val a, .val b, .val c, .val d, .val (.int g), .val (.int r)] = .ok (.nx [.val a, .val b, .val c, .val d, .val (.int g'), .val (.int r')])
  | n, r, g, h => by
    have hc : ev (phi []) dwC [.val a, .val b, .val c, .val d, .val (.int g), .val (.int r)] = .ok (.bl (decide (0 < r) && decide (0 < g))) := by
      simp -implicitDefEqProofs [dwC]
    have un : ∀ m e, whlM (ev (phi []) dwC) (xss (phi []) dwB) (m + 1) e = lift (ev (phi []) dwC e) e fun x => match x with
      | .bl true => andThen (xss (phi []) dwB e) (whlM (ev (phi []) dwC) (xss (phi []) dwB) m)
      | .bl false => .ok (.nx e)
      | _ => .bad := fun _ _ => rfl
    rw [un, hc, lift_ok]
    cases hb : (decide (0 < r) && decide (0 < g)) with
    | false => exact ⟨r, g, rfl⟩
    | true =>
      rw [Bool.and_eq_true, decide_eq_true_eq, decide_eq_true_eq] at hb
      cases n with
      | zero => omega
      | succ n =>
        obtain ⟨r', g', q⟩ := dw_loop a b c d n (r / 1000000) (g - 1) (by omega)
        refine ⟨r', g', ?_⟩
        show andThen (xss (phi []) dwB _) _ = _
        rw [dw_turn]
        exact q
abbrev dr2 : S := .asg (.name 3) (.bin .Mod (.bin .Add (.bin .Mult (.bin .Mod (.var 3) (.lit (.int (2147483563)))) (.lit (.int (69069)))) (.bin .Mult (.lit (.int (104723))) (.bin .Add (.var 1) (.lit (.int (1)))))) (.lit (.int (2147483563))))
abbrev dr3 : S := .asg (.name 3) (.bin .Mod (.bin .Add (.bin .Mult (.var 3) (.var 3)) (.bin .FloorDiv (.var 3) (.lit (.int (3))))) (.lit (.int (2147483399))))
abbrev dr4 : S := .ret (.bin .Mod (.bin .FloorDiv (.bin .Mod (.bin .Add (.bin .Mult (.var 3) (.var 3)) (.bin .FloorDiv (.var 3) (.lit (.int (7))))) (.lit (.int (2147483647)))) (.lit (.int (11)))) (.var 2))
theorem dr_end (a : D) {k m : Int} (hk : 0 ≤ k ∧ k < 3000) (hm : 0 < m) (c : Int) (s4 s5 : Slot) : ∃ i, 0 ≤ i ∧ i < m ∧ xss (phi []) (.cons dr2 (.cons dr3 (.cons dr4 .nil))) [.val a, .val (.int k), .val (.int m), .val (.int c), s4, s5] = .ok (.rt (.int i)) := by
  have q1 : binS .Mod (.int c) (.int 2147483563) = .ok (.int (c % 2147483563)) := mod_int (by omega)
  have q2 : binS .Mult (.int (c % 2147483563)) (.int 69069) = .ok (.int (c % 2147483563 * 69069)) := mul_int' (by decide)
  have q3 : binS .Mult (.int 104723) (.int (k + 1)) = .ok (.int (104723 * (k + 1))) := mul_int (by decide)
  have q4 : binS .Mod (.int (c % 2147483563 * 69069 + 104723 * (k + 1))) (.int 2147483563) = .ok (.int ((c % 2147483563 * 69069 + 104723 * (k + 1)) % 2147483563)) := mod_int (by omega)
  have b1 := Int.emod_nonneg (c % 2147483563 * 69069 + 104723 * (k + 1)) (show (2147483563 : Int) ≠ 0 by omega)
  have b2 := Int.emod_lt_of_pos (c % 2147483563 * 69069 + 104723 * (k + 1)) (show (0 : Int) < 2147483563 by omega)
  generalize hx : (c % 2147483563 * 69069 + 104723 * (k + 1)) % 2147483563 = x at q4 b1 b2
  have q5 : binS .Mult (.int x) (.int x) = .ok (.int (x * x)) := mul_int (by omega)
  have q6 : binS .FloorDiv (.int x) (.int 3) = .ok (.int (x / 3)) := div_int (by omega)
  have q7 : binS .Mod (.int (x * x + x / 3)) (.int 2147483399) = .ok (.int ((x * x + x / 3) % 2147483399)) := mod_int (by omega)
  have c1 := Int.emod_nonneg (x * x + x / 3) (show (2147483399 : Int) ≠ 0 by omega)
  have c2 := Int.emod_lt_of_pos (x * x + x / 3) (show (0 : Int) < 2147483399 by omega)
  generalize hy : (x * x + x / 3) % 2147483399 = y at q7 c1 c2
  have q8 : binS .Mult (.int y) (.int y) = .ok (.int (y * y)) := mul_int (by omega)
  have q9 : binS .FloorDiv (.int y) (.int 7) = .ok (.int (y / 7)) := div_int (by omega)
  have qa : binS .Mod (.int (y * y + y / 7)) (.int 2147483647) = .ok (.int ((y * y + y / 7) % 2147483647)) := mod_int (by omega)
  have qb : binS .FloorDiv (.int ((y * y + y / 7) % 2147483647)) (.int 11) = .ok (.int ((y * y + y / 7) % 2147483647 / 11)) := div_int (by omega)
  have qc : binS .Mod (.int ((y * y + y / 7) % 2147483647 / 11)) (.int m) = .ok (.int ((y * y + y / 7) % 2147483647 / 11 % m)) := mod_int hm
  refine ⟨(y * y + y / 7) % 2147483647 / 11 % m, Int.emod_nonneg _ (Int.ne_of_gt hm), Int.emod_lt_of_pos _ hm, ?_⟩
  generalize (y * y + y / 7) % 2147483647 / 11 % m = z at qc
  generalize (y * y + y / 7) % 2147483647 / 11 = z1 at qb qc
  simp -implicitDefEqProofs only [xss_cons, xs_asg, ev_bin, ev_var, ev_lit, getV_zero, getV_succ, bind_ok, q1, q2, q3, q4, q5, q6, q7, q8, q9, qa, qb, qc, add_int, lift_ok, asgG_name, List.set_cons_succ, List.set_cons_zero, andThen_nx, xs_ret, andThen_rt]
abbrev drX : S := .ife (.cmp .NotEq (.var 0) (.lst .nil)) (.cons (.asg (.name 3) (.ix (.var 0) (.bin .Mod (.var 1) (.bi .len (.cons (.var 0) .nil))))) (.cons (.asg (.name 4) (.bin .FloorDiv (.var 1) (.bi .len (.cons (.var 0) .nil)))) (.cons (.ife (.and (.cons (.cmp .GtE (.var 3) (.bin .Pow (.lit (.int (10))) (.lit (.int (18))))) (.cons (.cmp .Lt (.var 4) (.lit (.int (60)))) .nil))) (.cons (.asg (.name 5) (.bin .FloorDiv (.var 3) (.bin .Pow (.lit (.int (10))) (.lit (.int (18)))))) (.cons (.whl 4000 dwC dwB) (.cons (.ife (.cmp .Gt (.var 5) (.lit (.int (0)))) (.cons (.ret (.bin .Mod (.bin .Mod (.var 5) (.lit (.int (1000000)))) (.var 2))) .nil) .nil) .nil))) .nil) (.cons (.asg (.name 3) (.bin .Add (.var 3) (.bin .Mult (.lit (.int (6553))) (.bin .FloorDiv (.var 1) (.bi .len (.cons (.var 0) .nil)))))) .nil)))) .nil
theorem dr_mid {ns : List Int} (hn : ns.length ≤ 63) {k m : Int} (hk : 0 ≤ k ∧ k < 3000) (hm : 0 < m) (c0 : Int) : (∃ i, 0 ≤ i ∧ i < m ∧ xs (phi []) drX [.val (.scr ns), .val (.int k), .val (.int m), .val (.int c0), .no, .no] = .ok (.rt (.int i))) ∨ ∃ c s4 s5, xs (phi []) drX [.val (.scr ns), .val (.int k), .val (.int m), .val (.int c0), .no, .no] = .ok (.nx [.val (.scr ns), .val (.int k), .val (.int m), .val (.int c), s4, s5]) := by
  cases ns with
  | nil =>
    right
    have e : cmpS .NotEq (.scr []) (.lst []) = .ok false := rfl
    refine ⟨c0, .no, .no, ?_⟩
    simp -implicitDefEqProofs [drX, e]
  | cons a l =>
    have e' : cmpS .NotEq (.scr (a :: l)) (.lst []) = .ok true := rfl
    have hp : (0 : Int) < ((a :: l).length : Nat) := by rw [List.length_cons]; omega
    have q : binS .Mod (.int k) (.int ((a :: l).length : Nat)) = .ok (.int (k % ((a :: l).length : Nat))) := mod_int hp
    have q2 : binS .FloorDiv (.int k) (.int ((a :: l).length : Nat)) = .ok (.int (k / ((a :: l).length : Nat))) := div_int (by omega)
    have h1 := Int.emod_nonneg k (Int.ne_of_gt hp)
    have h2 := Int.emod_lt_of_pos k hp
    generalize k % ((a :: l).length : Nat) = j at q h1 h2
    have hj : j.toNat < (a :: l).length := by omega
    have x : ixS (.scr (a :: l)) (.int j) = .ok (.int (a :: l)[j.toNat]) := by
      have x0 : ixS (.scr (a :: l)) (.int j) = match atI (a :: l) j with | some d => .ok (.int d) | none => .bad := rfl
      have x1 : atI (a :: l) j = some (a :: l)[j.toNat] := by
        unfold atI ixN
        rw [if_pos h1, if_pos h2]
        exact List.getElem?_eq_getElem hj
      rw [x0, x1]
    generalize (a :: l)[j.toNat] = cell at x
    have kl : k / ((a :: l).length : Nat) ≤ k := Int.ediv_le_self _ hk.1
    generalize k / ((a :: l).length : Nat) = g at q2 kl
    have lb : biS .len [.scr (a :: l)] = .ok (.int ((a :: l).length : Nat)) := rfl
    have t1 : binS .Mult (.int 6553) (.int g) = .ok (.int (6553 * g)) := mul_int (by decide)
    generalize (a :: l).length = len at *
    generalize a :: l = sc at *
    by_cases hb : (10 ^ 18 ≤ cell) ∧ g < 60
    · have d1 : decide ((10 : Int) ^ 18 ≤ cell) = true := decide_eq_true hb.1
      have d2 : decide (g < 60) = true := decide_eq_true hb.2
      have hd : binS .FloorDiv (.int cell) (.int (10 ^ 18)) = .ok (.int (cell / 10 ^ 18)) := div_int (by decide)
      obtain ⟨r', g', hw⟩ := dw_loop (.scr sc) (.int k) (.int m) (.int cell) 3999 (cell / 10 ^ 18) g (by omega)
      have hw' : whlM (ev (phi []) dwC) (xss (phi []) dwB) 4000 [.val (.scr sc), .val (.int k), .val (.int m), .val (.int cell), .val (.int g), .val (.int (cell / 10 ^ 18))] = .ok (.nx [.val (.scr sc), .val (.int k), .val (.int m), .val (.int cell), .val (.int g'), .val (.int r')]) := hw
      by_cases hr : 0 < r'
      · left
        have m1 : binS .Mod (.int r') (.int 1000000) = .ok (.int (r' % 1000000)) := mod_int (by omega)
        have m2 : binS .Mod (.int (r' % 1000000)) (.int m) = .ok (.int (r' % 1000000 % m)) := mod_int hm
        refine ⟨r' % 1000000 % m, Int.emod_nonneg _ (Int.ne_of_gt hm), Int.emod_lt_of_pos _ hm, ?_⟩
        simp -implicitDefEqProofs only [xs_ife, ev_cmp, ev_var, getV_zero, getV_succ, ev_lst, evs_nil, bind_ok, fit_nil, e', lift_ok, stpI_t, xss_cons, xss_nil, xs_asg, ev_ix, ev_bin, ev_bi, evs_cons, lb, q, x, asgG_name, List.set_cons_succ, List.set_cons_zero, andThen_nx, q2, ev_and, evAnd_cons, evAnd_one, ev_lit, pow18, ge_int, lt_int, d1, d2, asB_bl, if_true, hd, xs_whl, hw', gt_int, hr, decide_true, xs_ret, m1, m2, andThen_rt]
      · right
        refine ⟨cell + 6553 * g, .val (.int g'), .val (.int r'), ?_⟩
        simp -implicitDefEqProofs only [xs_ife, ev_cmp, ev_var, getV_zero, getV_succ, ev_lst, evs_nil, bind_ok, fit_nil, e', lift_ok, stpI_t, stpI_f, xss_cons, xss_nil, xs_asg, ev_ix, ev_bin, ev_bi, evs_cons, lb, q, x, asgG_name, List.set_cons_succ, List.set_cons_zero, andThen_nx, q2, ev_and, evAnd_cons, evAnd_one, ev_lit, pow18, ge_int, lt_int, d1, d2, asB_bl, if_true, hd, xs_whl, hw', gt_int, hr, decide_false, t1, add_int]
    · right
      refine ⟨cell + 6553 * g, .val (.int g), .no, ?_⟩
      have an : ev (phi []) (.and (.cons (.cmp .GtE (.var 3) (.bin .Pow (.lit (.int (10))) (.lit (.int (18))))) (.cons (.cmp .Lt (.var 4) (.lit (.int (60)))) .nil))) [.val (.scr sc), .val (.int k), .val (.int m), .val (.int cell), .val (.int g), .no] = .ok (.bl false) := by
        by_cases h1 : (10 : Int) ^ 18 ≤ cell
        · have d1 : decide ((10 : Int) ^ 18 ≤ cell) = true := decide_eq_true h1
          have d2 : decide (g < 60) = false := decide_eq_false fun h => hb ⟨h1, h⟩
          simp -implicitDefEqProofs only [ev_and, evAnd_cons, evAnd_one, ev_cmp, ev_var, ev_bin, ev_lit, getV_zero, getV_succ, bind_ok, pow18, ge_int, lt_int, d1, d2, asB_bl, if_true]
        · have d1 : decide ((10 : Int) ^ 18 ≤ cell) = false := decide_eq_false h1
          simp -implicitDefEqProofs only [ev_and, evAnd_cons, evAnd_one, ev_cmp, ev_var, ev_bin, ev_lit, getV_zero, getV_succ, bind_ok, pow18, ge_int, lt_int, d1, asB_bl]
          rfl
      simp -implicitDefEqProofs only [xs_ife, ev_cmp, ev_var, getV_zero, getV_succ, ev_lst, evs_nil, bind_ok, fit_nil, e', lift_ok, stpI_t, stpI_f, xss_cons, xss_nil, xs_asg, ev_ix, ev_bin, ev_bi, evs_cons, lb, q, x, asgG_name, List.set_cons_succ, List.set_cons_zero, andThen_nx, q2, an, ev_lit, t1, add_int]
theorem drawn_ok {ns : List Int} (hn : ns.length ≤ 63) {k m : Int} (hk : 0 ≤ k ∧ k < 3000) (hm : 0 < m) : ∃ i, 0 ≤ i ∧ i < m ∧ r__law_drawn_2.sem [.scr ns, .int k, .int m] = .ok (.int i) := by
  have m7 : binS .Mult (.int 7) (.int k) = .ok (.int (7 * k)) := mul_int (by decide)
  have hI : ir__law_drawn_2 = .cons (.asg (.name 3) (.bin .Mult (.lit (.int (7))) (.var 1))) (.cons drX (.cons dr2 (.cons dr3 (.cons dr4 .nil)))) := rfl
  have hr : r__law_drawn_2.sem [.scr ns, .int k, .int m] = outF (xss (phi []) ir__law_drawn_2 [.val (.scr ns), .val (.int k), .val (.int m), .no, .no, .no]) := by
    have : r__law_drawn_2.sem [.scr ns, .int k, .int m] = runF (phi []) 6 ir__law_drawn_2 [.scr ns, .int k, .int m] := rfl
    rw [this, runF_eq]
    rfl
  have s1 : xss (phi []) ir__law_drawn_2 [.val (.scr ns), .val (.int k), .val (.int m), .no, .no, .no] = andThen (xs (phi []) drX [.val (.scr ns), .val (.int k), .val (.int m), .val (.int (7 * k)), .no, .no]) (xss (phi []) (.cons dr2 (.cons dr3 (.cons dr4 .nil)))) := by
    rw [hI, xss_cons, xs_asg]
    simp -implicitDefEqProofs only [ev_bin, ev_lit, ev_var, getV_zero, getV_succ, bind_ok, m7, lift_ok, asgG_name, List.set_cons_succ, List.set_cons_zero, andThen_nx]
    rfl
  rcases dr_mid hn hk hm (7 * k) with ⟨i, h0, h1, q⟩ | ⟨c, s4, s5, q⟩
  · refine ⟨i, h0, h1, ?_⟩
    rw [hr, s1, q]
    rfl
  · obtain ⟨i, h0, h1, q'⟩ := dr_end (.scr ns) hk hm c s4 s5
    refine ⟨i, h0, h1, ?_⟩
    rw [hr, s1, q, andThen_nx, q']
    rfl
end Pan
namespace Pan
open PySem L2
theorem law_window_ok {ns : List Int} (hn : ns.length ≤ 63) {k : Int} (hk : 0 ≤ k ∧ k < 2000) : ∃ w : Wn, 0 ≤ w.l ∧ w.l ≤ 8 ∧ 0 ≤ w.t ∧ w.t ≤ 8 ∧ w.l < w.r ∧ w.r ≤ w.l + 4 ∧ w.t < w.b ∧ w.b ≤ w.t + 4 ∧ r__law_window.sem [.scr ns, .int k] = .ok (wD w) := by
  obtain ⟨p0, a0, b0, e0⟩ := drawn_ok hn (k := k) (m := 9) (by omega) (by omega)
  obtain ⟨p1, a1, b1, e1⟩ := drawn_ok hn (k := k + 1) (m := 9) (by omega) (by omega)
  obtain ⟨p2, a2, b2, e2⟩ := drawn_ok hn (k := k + 2) (m := 4) (by omega) (by omega)
  obtain ⟨p3, a3, b3, e3⟩ := drawn_ok hn (k := k + 3) (m := 4) (by omega) (by omega)
  refine ⟨⟨p0, p1, p0 + 1 + p2, p1 + 1 + p3⟩, a0, by show p0 ≤ 8; omega, a1, by show p1 ≤ 8; omega, by show p0 < p0 + 1 + p2; omega, by show p0 + 1 + p2 ≤ p0 + 4; omega, by show p1 < p1 + 1 + p3; omega, by show p1 + 1 + p3 ≤ p1 + 4; omega, ?_⟩
  simp -implicitDefEqProofs [r__law_window, ir__law_window, runF_eq, e0, e1, e2, e3, wD]
abbrev lwB : Ss := .cons (.asg (.tup [5, 6, 7, 8]) (.call 1 (.cons (.var 0) (.cons (.bin .Add (.bin .Add (.var 1) (.lit (.int (1)))) (.bin .Mult (.lit (.int (4))) (.var 4))) .nil)))) (.cons (.asg (.name 9) (.bin .Add (.lit (.int (1))) (.call 0 (.cons (.var 0) (.cons (.bin .Add (.var 1) (.lit (.int (30)))) (.cons (.lit (.int (3))) .nil)))))) (.cons (.par [false, false] [10, 11] (.cons (.bin .FloorDiv (.var 5) (.var 9)) (.cons (.bin .FloorDiv (.var 6) (.var 9)) .nil))) (.cons (.app 3 (.tup (.cons (.var 10) (.cons (.var 11) (.cons (.bin .Sub (.bin .Add (.var 10) (.var 7)) (.var 5)) (.cons (.bin .Sub (.bin .Add (.var 11) (.var 8)) (.var 6)) .nil)))))) .nil)))
theorem lw_turn {ns : List Int} (hn : ns.length ≤ 63) {k : Int} (hk : 0 ≤ k ∧ k < 1000) (mo : D) {j : Int} (hj : 0 ≤ j ∧ j < 100) (ws : List Wn) (hl : ws.length ≤ 900) (s4 s5 s6 s7 s8 s9 s10 s11 : Slot) : ∃ (w : Wn) (t5 t6 t7 t8 t9 t10 t11 : Slot), w.ok ∧ turnF (phi [r__law_drawn_2, r__law_window]) (.name 4) lwB (.int j) [.val (.scr ns), .val (.int k), .val mo, .own (.lst (ws.map wD)), s4, s5, s6, s7, s8, s9, s10, s11] = .ok (.nx [.val (.scr ns), .val (.int k), .val mo, .own (.lst ((ws ++ [w]).map wD)), .val (.int j), t5, t6, t7, t8, t9, t10, t11]) := by
  obtain ⟨w, h1, h2, h3, h4, h5, h6, h7, h8, e⟩ := law_window_ok hn (k := k + 1 + 4 * j) (by omega)
  obtain ⟨p, a, b, ep⟩ := drawn_ok hn (k := k + 30) (m := 3) (by omega) (by omega)
  have d1 : binS .FloorDiv (.int w.l) (.int (1 + p)) = .ok (.int (w.l / (1 + p))) := div_int (by omega)
  have d2 : binS .FloorDiv (.int w.t) (.int (1 + p)) = .ok (.int (w.t / (1 + p))) := div_int (by omega)
  have m4 : binS .Mult (.int 4) (.int j) = .ok (.int (4 * j)) := mul_small (by omega)
  have g1 : w.l / (1 + p) ≤ w.l := Int.ediv_le_self _ h1
  have g2 : 0 ≤ w.l / (1 + p) := Int.ediv_nonneg h1 (by omega)
  have g3 : w.t / (1 + p) ≤ w.t := Int.ediv_le_self _ h3
  have g4 : 0 ≤ w.t / (1 + p) := Int.ediv_nonneg h3 (by omega)
  have sz : (ws.map wD).length < sizeLine := by rw [List.length_map]; exact Nat.lt_of_le_of_lt hl (by decide)
  refine ⟨⟨w.l / (1 + p), w.t / (1 + p), w.l / (1 + p) + w.r - w.l, w.t / (1 + p) + w.b - w.t⟩, .val (.int w.l), .val (.int w.t), .val (.int w.r), .val (.int w.b), .val (.int (1 + p)), .val (.int (w.l / (1 + p))), .val (.int (w.t / (1 + p))), ?_, ?_⟩
  · unfold Wn.ok
    simp only
    omega
  · unfold turnF
    rw [List.map_append]
    generalize w.l / (1 + p) = x at *
    generalize w.t / (1 + p) = y at *
    generalize ws.map wD = wm at *
    unfold wD at e
    simp -implicitDefEqProofs [lwB, e, ep, m4, d1, d2, xs_app_eq, sz, wD]
theorem lw_loop {ns : List Int} (hn : ns.length ≤ 63) {k : Int} (hk : 0 ≤ k ∧ k < 1000) (mo : D) : ∀ (js : List Int) (ws : List Wn) (s4 s5 s6 s7 s8 s9 s10 s11 : Slot), (∀ j ∈ js, 0 ≤ j ∧ j < 100) → (∀ w ∈ ws, w.ok) → ws.length + js.length ≤ 900 → ∃ (vs : List Wn) (t4 t5 t6 t7 t8 t9 t10 t11 : Slot), (∀ w ∈ vs, w.ok) ∧ vs.length = ws.length + js.length ∧ forM (turnF (phi [r__law_drawn_2, r__law_window]) (.name 4) lwB) (js.map .int) [.val (.scr ns), .val (.int k), .val mo, .own (.lst (ws.map wD)), s4, s5, s6, s7, s8, s9, s10, s11] = .ok (.nx [.val (.scr ns), .val (.int k), .val mo, .own (.lst (vs.map wD)), t4, t5, t6, t7, t8, t9, t10, t11])
  | [], ws, s4, s5, s6, s7, s8, s9, s10, s11, _, h, _ => ⟨ws, s4, s5, s6, s7, s8, s9, s10, s11, h, rfl, rfl⟩
  | j :: js, ws, s4, s5, s6, s7, s8, s9, s10, s11, hj, h, hl => by
    rw [List.length_cons] at hl
    obtain ⟨w, t5, t6, t7, t8, t9, t10, t11, hw, q⟩ := lw_turn hn hk mo (hj j List.mem_cons_self) ws (by omega) s4 s5 s6 s7 s8 s9 s10 s11
    obtain ⟨vs, u4, u5, u6, u7, u8, u9, u10, u11, h1, h2, q'⟩ := lw_loop hn hk mo js (ws ++ [w]) (.val (.int j)) t5 t6 t7 t8 t9 t10 t11 (fun x hx => hj x (List.mem_cons_of_mem _ hx)) (fun v hv => by
      rcases List.mem_append.mp hv with hv | hv
      · exact h v hv
      · rw [List.mem_singleton.mp hv]; exact hw) (by rw [List.length_append, List.length_singleton]; omega)
    refine ⟨vs, u4, u5, u6, u7, u8, u9, u10, u11, h1, ?_, ?_⟩
    · rw [h2, List.length_append, List.length_singleton, List.length_cons]; omega
    · rw [List.map_cons]
      show andThen (turnF _ _ _ _ _) _ = _
      rw [q]
      exact q'
theorem law_windows_ok {ns : List Int} (hn : ns.length ≤ 63) {k m : Int} (hk : 0 ≤ k ∧ k < 1000) (hm : 0 ≤ m ∧ m < 99) : ∃ ws : List Wn, (∀ w ∈ ws, w.ok) ∧ (ws.length : Int) ≤ m ∧ r__law_windows.sem [.scr ns, .int k, .int m] = .ok (wsD ws) := by
  obtain ⟨p, a, b, e⟩ := drawn_ok hn (k := k) (m := m + 1) (by omega) (by omega)
  have rg : itS .rng1 [.int p] = .ok ((rngI 0 p).map .int) := by
    rw [rng1_ok (by omega) (by omega), ← rangeD_rngI, Int.sub_zero]
  have lr : (rngI 0 p).length = p.toNat := by unfold rngI; rw [List.length_map, List.length_range, Int.sub_zero]
  obtain ⟨vs, t4, t5, t6, t7, t8, t9, t10, t11, h, l, q⟩ := lw_loop hn hk (.int m) (rngI 0 p) [] .no .no .no .no .no .no .no .no (fun j hj => by have := mem_rngI.mp hj; omega) (by simp) (by rw [lr]; simp; omega)
  rw [List.length_nil, lr] at l
  refine ⟨vs, h, by omega, ?_⟩
  rw [List.map_nil] at q
  simp -implicitDefEqProofs [r__law_windows, ir__law_windows, runF_eq, e, rg, q, wsD]
theorem cut_take {α : Type} (xs : List α) {p : Int} (h : 0 ≤ p ∧ p ≤ xs.length) : cutL xs none (some p) = xs.take p.toNat := by
  unfold cutL HT.sIx
  simp only [Nat.sub_zero, List.drop_zero]
  rw [if_neg (by omega), Nat.min_eq_left (by omega)]
theorem cut_drop {α : Type} (xs : List α) {p : Int} (h : 0 ≤ p ∧ p ≤ xs.length) : cutL xs (some p) none = xs.drop p.toNat := by
  unfold cutL HT.sIx
  simp only
  rw [if_neg (by omega), Nat.min_eq_left (by omega)]
  exact List.take_of_length_le (by rw [List.length_drop]; omega)
theorem fit_1 (a : D) (k : List D → D) : fitL [a] k = .ok (k [a]) := fit_le (by simp)
end Pan
namespace Pan
open PySem L2
theorem meet_has (v w : Wn) (x y : Int) : (meet v w).has x y = (v.has x y && w.has x y) := by
  unfold meet Wn.has
  rw [Bool.eq_iff_iff]
  simp only [Bool.and_eq_true, decide_eq_true_eq]
  constructor
  · intro h
    split at h <;> split at h <;> split at h <;> split at h <;> omega
  · intro h
    split <;> split <;> split <;> split <;> omega
def mtB (v w : Wn) : Bool := decide ((meet v w).l < (meet v w).r ∧ (meet v w).t < (meet v w).b)
theorem mtB_iff {v w : Wn} : mtB v w = true ↔ ∃ x y, v.has x y = true ∧ w.has x y = true := by
  unfold mtB
  rw [decide_eq_true_eq]
  constructor
  · intro h
    refine ⟨(meet v w).l, (meet v w).t, ?_⟩
    have : (meet v w).has (meet v w).l (meet v w).t = true := by
      unfold Wn.has
      simp only [Bool.and_eq_true, decide_eq_true_eq]
      omega
    rw [meet_has, Bool.and_eq_true] at this
    exact this
  · rintro ⟨x, y, h1, h2⟩
    have : (meet v w).has x y = true := by rw [meet_has, h1, h2]; rfl
    unfold Wn.has at this
    simp only [Bool.and_eq_true, decide_eq_true_eq] at this
    omega
theorem ov_isnot (v w : Wn) : cmpS .IsNot (if (meet v w).l < (meet v w).r ∧ (meet v w).t < (meet v w).b then wD (meet v w) else .non) .non = .ok (mtB v w) := by
  unfold mtB
  by_cases h : (meet v w).l < (meet v w).r ∧ (meet v w).t < (meet v w).b
  · rw [if_pos h, decide_eq_true h]; rfl
  · rw [if_neg h, decide_eq_false h]; rfl
end Pan
namespace Pan
open PySem L2
def Asc (n : Nat) (l : List Nat) : Prop := l.Pairwise (· < ·) ∧ ∀ o ∈ l, o < n
theorem Asc.filter {n : Nat} {l : List Nat} (h : Asc n l) (p : Nat → Bool) : Asc n (l.filter p) := ⟨h.1.filter p, fun o ho => h.2 o (List.mem_filter.mp ho).1⟩
theorem cut_one {α : Type} (xs : List α) : cutL xs (some 1) none = xs.drop 1 := by
  cases xs with
  | nil => rfl
  | cons a l => exact cut_drop _ (by simp; omega)
theorem any_bools {α : Type} (f : α → Bool) (xs : List α) : biS .any [.lst (xs.map fun x => .bl (f x))] = .ok (.bl (xs.any f)) := by
  show (match boolsOf _ with | some bs => _ | none => _) = _
  rw [boolsOf_map]
  simp [List.any_map]
end Pan
namespace Pan
open PySem L2
end Pan
namespace Pan
open PySem L2
end Pan
namespace Pan
open PySem L2
end Pan
namespace Pan
open PySem L2
end Pan
namespace Pan
open PySem L2
end Pan
namespace Pan
open PySem L2
end Pan
namespace Pan
open PySem L2
end Pan
namespace Pan
open PySem L2
end Pan
namespace Pan
open PySem L2
end Pan
namespace Pan
open PySem L2
end Pan
namespace Pan
open PySem L2
end Pan
namespace Pan
open PySem L2
end Pan
namespace Pan
open PySem L2
end Pan
namespace Pan
open PySem L2
end Pan
namespace Pan
open PySem L2
end Pan
namespace Pan
open PySem L2
end Pan
namespace Pan
open PySem L2
section
variable {ws : List Wn}
theorem small_one {d : D} (hd : okd 7 d = true) (ht : isI 0 ((ws.length : Int) - 1) d = false) : r_is_small.sem [wsD ws, .tup [d]] = .ok (.bl false) := by
  have hi := isinst_ok (d := .tup [d]) (n := "tuple") (by simp [okd, hd]) rfl
  have i1 : isInstS (.tup [d]) "tuple" = true := rfl
  rw [i1] at hi
  have a := is_int_ok d 0 ((ws.length : Int) - 1) (okd_mono 7 8 d (by omega) hd)
  rw [ht] at a
  have lw := len_wsD ws
  have sq : itS .seq [.tup [d]] = .ok [d] := rfl
  have al : biS .all [.lst [.bl false]] = .ok (.bl false) := rfl
  have f : lcM [d] (itemL (phi [r_is_int]) [.val (wsD ws), .val (.tup [d]), .no, .no, .no] [2] (.name 2) .none (.call 0 (.cons (.var 2) (.cons (.lit (.int (0))) (.cons (.bin .Sub (.bi .len (.cons (.var 0) .nil)) (.lit (.int (1)))) .nil))))) = .ok [.bl false] := by
    refine lcM_mapI (l := [d]) id (fun _ => .bl false) fun x hx => ?_
    rw [List.mem_singleton.mp hx]
    generalize wsD ws = wd at *
    simp -implicitDefEqProofs [itemL, lw, a]
  generalize wsD ws = wd at *
  simp -implicitDefEqProofs [r_is_small, ir_is_small, runF_eq, hi, sq, f, al]
end
end Pan
namespace Pan
open PySem L2
end Pan
namespace Pan
open PySem L2
end Pan
namespace Pan
open PySem L2
end Pan
namespace Pan
open PySem L2
end Pan
namespace Pan
open PySem L2
end Pan
namespace Pan
open PySem L2
/-- a loop that grows a list -/
theorem loop_grow {α β : Type} {f : D → Env → R Fl} (inj : α → D) (I : List β → Env → Prop) (g : α → List β) (n M : Nat) : ∀ (l : List α) (acc : List β) (e : Env), (∀ a ∈ l, (g a).length ≤ n) → acc.length + n * l.length ≤ M →
    (∀ a ∈ l, ∀ (acc : List β) (e : Env), acc.length + n ≤ M → I acc e → ∃ e', f (inj a) e = .ok (.nx e') ∧ I (acc ++ g a) e') → I acc e → ∃ e', forM f (l.map inj) e = .ok (.nx e') ∧ I (acc ++ l.flatMap g) e'
  | [], acc, e, _, _, _, h => ⟨e, rfl, by simpa using h⟩
  | a :: l, acc, e, hg, hb, st, h => by
    rw [List.length_cons, Nat.mul_add] at hb
    obtain ⟨e1, q1, i1⟩ := st a List.mem_cons_self acc e (by omega) h
    have := hg a List.mem_cons_self
    obtain ⟨e2, q2, i2⟩ := loop_grow inj I g n M l (acc ++ g a) e1 (fun x hx => hg x (List.mem_cons_of_mem _ hx)) (by rw [List.length_append]; omega) (fun x hx => st x (List.mem_cons_of_mem _ hx)) i1
    refine ⟨e2, ?_, by rw [List.flatMap_cons, ← List.append_assoc]; exact i2⟩
    rw [List.map_cons]
    show andThen (f (inj a) e) (forM f (l.map inj)) = _
    rw [q1]
    exact q2
/-- a loop that may return -/
theorem loop_find {α : Type} {f : D → Env → R Fl} (inj : α → D) (I : Env → Prop) (p : α → Option D) : ∀ (l : List α) (e : Env),
    (∀ a ∈ l, ∀ e, I e → (p a = none → ∃ e', f (inj a) e = .ok (.nx e') ∧ I e') ∧ ∀ d, p a = some d → f (inj a) e = .ok (.rt d)) → I e →
    (l.findSome? p = none → ∃ e', forM f (l.map inj) e = .ok (.nx e') ∧ I e') ∧ ∀ d, l.findSome? p = some d → forM f (l.map inj) e = .ok (.rt d)
  | [], e, _, h => ⟨fun _ => ⟨e, rfl, h⟩, fun d z => by cases z⟩
  | a :: l, e, st, h => by
    obtain ⟨s1, s2⟩ := st a List.mem_cons_self e h
    rw [List.findSome?_cons, List.map_cons]
    rw [show forM f (inj a :: l.map inj) e = andThen (f (inj a) e) (forM f (l.map inj)) from rfl]
    cases hp : p a with
    | none =>
      obtain ⟨e1, q1, i1⟩ := s1 hp
      rw [q1]
      exact loop_find inj I p l e1 (fun x hx => st x (List.mem_cons_of_mem _ hx)) i1
    | some d =>
      rw [s2 d hp]
      exact ⟨fun z => (nomatch z), fun d' z => by injection z with z; rw [z]; rfl⟩
def isZ : D → Bool
  | .tup xs => decide (xs.length = 2) && xs.all (isI 1 12)
  | _ => false
theorem is_size_ok (d : D) (h : okd 8 d = true) : r_is_size.sem [d] = .ok (.bl (isZ d)) := by
  have i := isinst_ok (n := "tuple") h (by decide)
  have hr : r_is_size.sem [d] = outF (xss (phi [r_is_int]) ir_is_size [.val d, .no]) := rfl
  rw [hr]
  cases hd : isInstS d "tuple" with
  | false =>
    rw [hd] at i
    have e : isZ d = false := by cases d <;> first | rfl | cases hd
    rw [e]
    simp -implicitDefEqProofs [ir_is_size, i]
  | true =>
    rw [hd] at i
    cases d with
    | tup xs =>
      by_cases q : xs.length = 2
      · obtain ⟨bs, b1, b2⟩ := all_lc (xs := xs) (g := itemL (phi [r_is_int]) [.val (.tup xs), .no] [1] (.name 1) .none (.call 0 (.cons (.var 1) (.cons (.lit (.int 1)) (.cons (.lit (.int 12)) .nil))))) (isI 1 12) (fun x hx => by
          have a := is_int_ok x 1 12 (okd_item h hx)
          simp -implicitDefEqProofs [itemL, a])
        have e : isZ (.tup xs) = xs.all (isI 1 12) := by unfold isZ; simp [q]
        have ei : ((xs.length : Int) == 2) = true := by rw [q]; rfl
        rw [e]
        simp -implicitDefEqProofs [ir_is_size, i, ei, b1, b2]
      · have e : isZ (.tup xs) = false := by unfold isZ; simp [q]
        have ei : ((xs.length : Int) == 2) = false := by simp; omega
        rw [e]
        simp -implicitDefEqProofs [ir_is_size, i, ei]
    | _ => cases hd
abbrev Sz := Int × Int
def Szk (p : Sz) : Prop := (1 ≤ p.1 ∧ p.1 ≤ 12) ∧ 1 ≤ p.2 ∧ p.2 ≤ 12
theorem isZ_cD {p : Sz} (h : Szk p) : isZ (cD p) = true := by
  obtain ⟨⟨h1, h2⟩, h3, h4⟩ := h
  simp [isZ, cD, isI, h1, h2, h3, h4]
def plW (p : Sz) (x y : Int) : Wn := ⟨x, y, x + p.1, y + p.2⟩
def plL (p : Sz) : List Wn := (rngI 0 (13 - p.1)).flatMap fun x => (rngI 0 (13 - p.2)).map fun y => plW p x y
theorem mem_plL {p : Sz} {v : Wn} : v ∈ plL p ↔ (0 ≤ v.l ∧ v.l < 13 - p.1) ∧ (0 ≤ v.t ∧ v.t < 13 - p.2) ∧ v.r = v.l + p.1 ∧ v.b = v.t + p.2 := by
  unfold plL
  rw [List.mem_flatMap]
  constructor
  · rintro ⟨x, hx, h⟩
    obtain ⟨y, hy, rfl⟩ := List.mem_map.mp h
    rw [mem_rngI] at hx hy
    exact ⟨hx, hy, rfl, rfl⟩
  · rintro ⟨h1, h2, h3, h4⟩
    refine ⟨v.l, mem_rngI.mpr h1, List.mem_map.mpr ⟨v.t, mem_rngI.mpr h2, ?_⟩⟩
    cases v
    simp only at h3 h4
    rw [h3, h4]
    rfl
theorem plL_ok {p : Sz} (h : Szk p) {v : Wn} (hv : v ∈ plL p) : v.ok := by
  obtain ⟨h1, h2, h3, h4⟩ := mem_plL.mp hv
  obtain ⟨⟨k1, k2⟩, k3, k4⟩ := h
  unfold Wn.ok
  omega
theorem rngI_len (a b : Int) : (rngI a b).length = (b - a).toNat := by
  unfold rngI
  rw [List.length_map, List.length_range]
def plB : Ss := .cons (.app 1 (.tup (.cons (.var 2) (.cons (.var 3) (.cons (.bin .Add (.var 2) (.ix (.var 0) (.lit (.int (0))))) (.cons (.bin .Add (.var 3) (.ix (.var 0) (.lit (.int (1))))) .nil)))))) .nil
def plA : Ss := .cons (.for_ (.name 3) .rng1 (.cons (.bin .Add (.bin .Sub (.lit (.int (12))) (.ix (.var 0) (.lit (.int (1))))) (.lit (.int (1)))) .nil) plB) .nil
theorem rng1_int {n : Int} (h0 : -1000000 ≤ n) (h : n ≤ 1000000) : itS .rng1 [.int n] = .ok ((rngI 0 n).map .int) := by
  rw [rng1_ok h0 h, ← rangeD_rngI, Int.sub_zero]
theorem all_places_ok {p : Sz} (h : Szk p) : r_all_places.sem [cD p] = .ok (.lst ((plL p).map wD)) := by
  obtain ⟨⟨k1, k2⟩, k3, k4⟩ := h
  have i0 : ixS (cD p) (.int 0) = .ok (.int p.1) := rfl
  have i1 : ixS (cD p) (.int 1) = .ok (.int p.2) := rfl
  have l1 : (rngI 0 (13 - p.1)).length ≤ 12 := by rw [rngI_len]; omega
  have l2 : (rngI 0 (13 - p.2)).length ≤ 12 := by rw [rngI_len]; omega
  have ra : itS .rng1 [.int (12 - p.1 + 1)] = .ok ((rngI 0 (13 - p.1)).map .int) := by rw [rng1_int (by omega) (by omega), show (12 - p.1 + 1) = 13 - p.1 by omega]
  have rb : itS .rng1 [.int (12 - p.2 + 1)] = .ok ((rngI 0 (13 - p.2)).map .int) := by rw [rng1_int (by omega) (by omega), show (12 - p.2 + 1) = 13 - p.2 by omega]
  obtain ⟨e1, q1, s2, s3, i1'⟩ := loop_grow (f := turnF (phi []) (.name 2) plA) (fun i : Int => (.int i : D)) (fun (acc : List Wn) e => ∃ s2 s3, e = [.val (cD p), .own (.lst (acc.map wD)), s2, s3]) (fun x => (rngI 0 (13 - p.2)).map fun y => plW p x y) 12 900 (rngI 0 (13 - p.1)) [] [.val (cD p), .own (.lst []), .no, .no]
    (fun a _ => by rw [List.length_map]; exact l2) (by simp; omega) (fun x _ acc e hb => by
      rintro ⟨s2, s3, rfl⟩
      obtain ⟨e1, q1, s3', i1'⟩ := loop_grow (f := turnF (phi []) (.name 3) plB) (fun i : Int => (.int i : D)) (fun (acc : List Wn) e => ∃ s3, e = [.val (cD p), .own (.lst (acc.map wD)), .val (.int x), s3]) (fun y => [plW p x y]) 1 900 (rngI 0 (13 - p.2)) acc [.val (cD p), .own (.lst (acc.map wD)), .val (.int x), s3]
        (fun _ _ => by simp) (by omega) (fun y _ acc e hb => by
          rintro ⟨s3, rfl⟩
          refine ⟨_, ?_, .val (.int y), rfl⟩
          have ap : xs (phi []) (.app 1 (.tup (.cons (.var 2) (.cons (.var 3) (.cons (.bin .Add (.var 2) (.ix (.var 0) (.lit (.int (0))))) (.cons (.bin .Add (.var 3) (.ix (.var 0) (.lit (.int (1))))) .nil)))))) [.val (cD p), .own (.lst (acc.map wD)), .val (.int x), .val (.int y)] = .ok (.nx [.val (cD p), .own (.lst (acc.map wD ++ [wD (plW p x y)])), .val (.int x), .val (.int y)]) := app_ok rfl rfl (by rw [List.length_map]; omega)
          rw [List.map_append, List.map_cons, List.map_nil]
          unfold turnF plB
          generalize acc.map wD = am at *
          simp -implicitDefEqProofs [ap]) ⟨s3, rfl⟩
      subst i1'
      have fm : (rngI 0 (13 - p.2)).flatMap (fun y => [plW p x y]) = (rngI 0 (13 - p.2)).map fun y => plW p x y := by
        induction rngI 0 (13 - p.2) with
        | nil => rfl
        | cons a l ih => rw [List.flatMap_cons, ih]; rfl
      rw [fm] at q1
      refine ⟨_, ?_, .val (.int x), s3', rfl⟩
      unfold turnF plA
      generalize (acc ++ (rngI 0 (13 - p.2)).map fun y => plW p x y).map wD = a2 at *
      generalize acc.map wD = am at *
      have q1 : forM (turnF (phi []) (.name 3) plB) ((rngI 0 (13 - p.2)).map .int) [.val (cD p), .own (.lst am), .val (.int x), s3] = _ := q1
      generalize (rngI 0 (13 - p.2)).map D.int = r2 at *
      generalize plB = b at *
      generalize cD p = pd at *
      simp -implicitDefEqProofs [i1, rb, q1]) ⟨.no, .no, rfl⟩
  subst i1'
  rw [List.nil_append] at q1
  have q1 : forM (turnF (phi []) (.name 2) plA) ((rngI 0 (13 - p.1)).map .int) [.val (cD p), .own (.lst []), .no, .no] = .ok (.nx [.val (cD p), .own (.lst ((plL p).map wD)), s2, s3]) := q1
  have hI : ir_all_places = .cons (.mk 1 (.lst .nil)) (.cons (.for_ (.name 2) .rng1 (.cons (.bin .Add (.bin .Sub (.lit (.int (12))) (.ix (.var 0) (.lit (.int (0))))) (.lit (.int (1)))) .nil) plA) (.cons (.frz 1) (.cons (.ret (.var 1)) .nil))) := rfl
  have hr : ∀ ds, r_all_places.sem ds = runF (phi []) 4 ir_all_places ds := fun _ => rfl
  rw [hr, runF_eq, hI]
  generalize (plL p).map wD = pm at *
  generalize (rngI 0 (13 - p.1)).map D.int = r1 at *
  generalize plA = b at *
  generalize cD p = pd at *
  simp -implicitDefEqProofs [i0, ra, q1]
def frB (ws : List Wn) (v : Wn) : Bool := !ws.any fun w => mtB w v
theorem is_free_ok (ws : List Wn) (v : Wn) : r_is_free.sem [wsD ws, wD v] = .ok (.bl (frB ws v)) := by
  have f : lcM (ws.map wD) (itemL (phi [r_find_overlap]) [.val (wsD ws), .val (wD v), .no] [2] (.name 2) .none (.cmp .IsNot (.call 0 (.cons (.var 2) (.cons (.var 1) .nil))) (.lit .non))) = .ok (ws.map fun u => .bl (mtB u v)) := by
    refine lcM_mapI wD _ fun u _ => ?_
    have a := find_overlap_ok u v
    have b := ov_isnot u v
    generalize (if (meet u v).l < (meet u v).r ∧ (meet u v).t < (meet u v).b then wD (meet u v) else D.non) = mm at *
    generalize wD u = ud at *
    generalize wD v = vd at *
    generalize wsD ws = um at *
    simp -implicitDefEqProofs only [itemL, wipe_one, List.set_cons_succ, List.set_cons_zero, asgG_name, bind_ok, evT_none, if_true, ev_cmp, ev_call, evs_cons, evs_nil, ev_var, getV_zero, getV_succ, ev_lit, phi_zero, arity_if, n_find_overlap, List.length_cons, List.length_nil, Nat.zero_add, Nat.reduceAdd, a, b]
  have an := any_bools (fun u => mtB u v) ws
  have sq : itS .seq [wsD ws] = .ok (ws.map wD) := rfl
  have hr : ∀ ds, r_is_free.sem ds = runF (phi [r_find_overlap]) 3 ir_is_free ds := fun _ => rfl
  rw [hr, runF_eq]
  unfold frB
  generalize ws.any (fun u => mtB u v) = aa at *
  generalize ws.map (fun u => (.bl (mtB u v) : D)) = bb at *
  generalize ws.map wD = um at *
  generalize wsD ws = wd at *
  generalize wD v = vd at *
  simp -implicitDefEqProofs [ir_is_free, sq, f, an]
def fpN (ws : List Wn) (p : Sz) : List Wn := (plL p).filter (frB ws)
theorem find_places_ok (ws : List Wn) {p : Sz} (h : Szk p) : r_find_places.sem [wsD ws, cD p] = .ok (.lst ((fpN ws p).map wD)) := by
  have a := all_places_ok h
  have f : lcM ((plL p).map wD) (itemL (phi [r_all_places, r_is_free]) [.val (wsD ws), .val (cD p), .no] [2] (.name 2) (.some (.call 1 (.cons (.var 0) (.cons (.var 2) .nil)))) (.var 2)) = .ok ((fpN ws p).map wD) := by
    refine lcM_filterI wD (frB ws) wD fun v _ => ?_
    have a2 := is_free_ok ws v
    generalize frB ws v = fb at *
    generalize wD v = vd at *
    generalize wsD ws = um at *
    generalize cD p = pd at *
    cases fb <;> simp -implicitDefEqProofs [itemL, a2]
  have sq : itS .seq [.lst ((plL p).map wD)] = .ok ((plL p).map wD) := rfl
  have hr : ∀ ds, r_find_places.sem ds = runF (phi [r_all_places, r_is_free]) 3 ir_find_places ds := fun _ => rfl
  rw [hr, runF_eq]
  generalize (fpN ws p).map wD = ff at *
  generalize (plL p).map wD = pm at *
  generalize wsD ws = um at *
  generalize cD p = pd at *
  simp -implicitDefEqProofs [ir_find_places, a, sq, f]
end Pan
namespace Pan
open PySem L2
def ir_find_all_k56 : Ss := (.cons (.ife (.cmp .Eq (.var 1) (.lst .nil)) (.cons (.ret (.tup .nil)) .nil) .nil) (.cons (.for_ (.name 2) .seq (.cons (.call 0 (.cons (.var 0) (.cons (.ix (.var 1) (.lit (.int (0)))) .nil))) .nil) (.cons (.asg (.name 3) (.call 1 (.cons (.bin .Add (.var 0) (.tup (.cons (.var 2) .nil))) (.cons (.sl (.var 1) (.some (.lit (.int (1)))) .none) .nil)))) (.cons (.ife (.cmp .IsNot (.var 3) (.lit .non)) (.cons (.ret (.bin .Add (.tup (.cons (.var 2) .nil)) (.var 3))) .nil) .nil) .nil))) (.cons (.ret (.lit .non)) .nil)))
def r_find_all_k56_0 : FnR := ⟨"find_all", 2, fun _ => .bad⟩
def r_find_all_k56_1 : FnR := ⟨"find_all", 2, runF (phi [r_find_places, r_find_all_k56_0]) 4 ir_find_all_k56⟩
def r_find_all_k56_2 : FnR := ⟨"find_all", 2, runF (phi [r_find_places, r_find_all_k56_1]) 4 ir_find_all_k56⟩
def r_find_all_k56 : FnR := ⟨"find_all", 2, runF (phi [r_find_places, r_find_all_k56_2]) 4 ir_find_all_k56⟩
@[simp] theorem n_find_all_k56_0 : r_find_all_k56_0.n = 2 := rfl
@[simp] theorem n_find_all_k56_1 : r_find_all_k56_1.n = 2 := rfl
@[simp] theorem n_find_all_k56_2 : r_find_all_k56_2.n = 2 := rfl
@[simp] theorem n_find_all_k56 : r_find_all_k56.n = 2 := rfl
def ir_place_all_k56 : Ss := (.cons (.expr (.call 0 (.cons (.var 0) (.cons (.var 1) .nil)))) (.cons (.ret (.call 1 (.cons (.var 0) (.cons (.var 1) .nil)))) .nil))
def r_place_all_k56 : FnR := ⟨"place_all", 2, runF (phi [r_check_sizes, r_find_all_k56]) 2 ir_place_all_k56⟩
@[simp] theorem n_place_all_k56 : r_place_all_k56.n = 2 := rfl
end Pan
namespace Pan
open PySem L2
theorem okd_itemL {n : Nat} {xs : List D} {x : D} (h : okd (n + 1) (.lst xs) = true) (hx : x ∈ xs) : okd (n + 1) x = true := by
  unfold okd at h
  exact okd_mono n (n + 1) x (by omega) (List.all_eq_true.mp h x hx)
def szD (ps : List Sz) : D := .lst (ps.map cD)
theorem okd_cD (n : Nat) (p : Sz) : okd (n + 1) (cD p) = true := by simp [cD, okd]
theorem okd_szD (n : Nat) (ps : List Sz) : okd (n + 2) (szD ps) = true := by simp [szD, cD, okd]
theorem add_tup56 {xs ys : List D} (h : xs.length + ys.length ≤ 100000) : binS .Add (.tup xs) (.tup ys) = .ok (.tup (xs ++ ys)) := by
  show fitL _ _ = _
  exact fit_le (by rw [List.length_append]; omega)
section
variable {ws : List Wn} (h : ∀ w ∈ ws, w.ok) (hl : ws.length ≤ 6)
include h hl
theorem chkw : r_check_windows.sem [wsD ws] = .ok .non := by
  rw [check_windows_ok _ (okd_wsD 6 ws), areW_wsD h hl]; rfl
theorem places_ok {p : Sz} (hp : Szk p) : r_places.sem [wsD ws, cD p] = .ok (.lst ((fpN ws p).map wD)) := by
  have a := chkw h hl
  have b := is_size_ok (cD p) (okd_cD 7 p)
  rw [isZ_cD hp] at b
  have c := find_places_ok ws hp
  have hr : ∀ ds, r_places.sem ds = runF (phi [r_check_windows, r_find_places, r_is_size]) 2 ir_places ds := fun _ => rfl
  rw [hr, runF_eq]
  generalize (fpN ws p).map wD = ff at *
  generalize wsD ws = um at *
  generalize cD p = pd at *
  simp -implicitDefEqProofs [ir_places, a, b, c]
/-- whether a value is sizes -/
def areZ : D → Bool
  | .lst xs => decide (xs.length ≤ 3) && xs.all isZ
  | _ => false
omit h hl in
theorem areZ_szD {ps : List Sz} (hp : ∀ p ∈ ps, Szk p) (hn : ps.length ≤ 3) : areZ (szD ps) = true := by
  unfold areZ szD
  rw [Bool.and_eq_true, List.all_map, List.length_map]
  exact ⟨decide_eq_true hn, List.all_eq_true.mpr fun p hm => isZ_cD (hp p hm)⟩
theorem check_sizes_ok {d : D} (hd : okd 8 d = true) (hs : ∀ ns, d ≠ .scr ns) : r_check_sizes.sem [wsD ws, d] = if areZ d then .ok .non else .exc 9 := by
  have a := chkw h hl
  have i := isinst_ok (n := "list") hd (by decide)
  have hr : ∀ ds, r_check_sizes.sem ds = runF (phi [r_check_windows, r_is_size]) 3 ir_check_sizes ds := fun _ => rfl
  rw [hr, runF_eq]
  generalize wsD ws = um at *
  cases hq : isInstS d "list" with
  | false =>
    rw [hq] at i
    have e : areZ d = false := by cases d <;> first | rfl | cases hq
    rw [e]
    simp -implicitDefEqProofs [ir_check_sizes, a, i]
  | true =>
    rw [hq] at i
    cases d with
    | scr ns => exact absurd rfl (hs ns)
    | lst xs =>
      by_cases q : xs.length ≤ 3
      · obtain ⟨bs, b1, b2⟩ := all_lc (xs := xs) (g := itemL (phi [r_check_windows, r_is_size]) [.val um, .val (.lst xs), .no] [2] (.name 2) .none (.call 1 (.cons (.var 2) .nil))) isZ (fun x hx => by
          have a := is_size_ok x (okd_itemL hd hx)
          generalize D.lst xs = dl at *
          simp -implicitDefEqProofs [itemL, a])
        have e : areZ (.lst xs) = xs.all isZ := by unfold areZ; simp [q]
        have ei : decide ((3 : Int) < xs.length) = false := by simp; omega
        rw [e]
        generalize xs.all isZ = al at *
        cases al <;> simp -implicitDefEqProofs [ir_check_sizes, a, i, ei, b1, b2]
      · have e : areZ (.lst xs) = false := by unfold areZ; simp [q]
        have ei : decide ((3 : Int) < xs.length) = true := by simp; omega
        rw [e]
        simp -implicitDefEqProofs [ir_check_sizes, a, i, ei]
    | _ => cases hq
end
def faN : List Wn → List Sz → Option (List Wn)
  | _, [] => some []
  | ws, p :: ps => (fpN ws p).findSome? fun v => (faN (ws ++ [v]) ps).map (v :: ·)
def faD : Option (List Wn) → D
  | none => .non
  | some vs => wsD vs
theorem find_map {α β γ : Type} (f : α → Option β) (g : β → γ) : ∀ l : List α, (l.findSome? fun a => (f a).map g) = (l.findSome? f).map g
  | [] => rfl
  | a :: l => by
    rw [List.findSome?_cons, List.findSome?_cons]
    cases f a with
    | none => exact find_map f g l
    | some b => rfl
theorem ix_lst {L : List D} {k : Nat} {d : D} (h : L[k]? = some d) : ixS (.lst L) (.int k) = .ok d := by
  have hk : k < L.length := (List.getElem?_eq_some_iff.mp h).1
  have q : ixS (.lst L) (.int k) = match atI L (k : Int) with | some d => .ok d | none => .bad := rfl
  have e : atI L (k : Int) = some d := by
    unfold atI ixN
    rw [if_pos (by omega), if_pos (by omega)]
    show L[(k : Int).toNat]? = _
    rw [Int.toNat_natCast, h]
  rw [q, e]
theorem ix_szD {ps : List Sz} {k : Nat} {p : Sz} (h : ps[k]? = some p) : ixS (szD ps) (.int k) = .ok (cD p) := ix_lst (by rw [List.getElem?_map, h]; rfl)
theorem ix_hd (p : Sz) (ps : List Sz) : ixS (szD (p :: ps)) (.int 0) = .ok (cD p) := ix_szD (k := 0) rfl
def faB : Ss := .cons (.asg (.name 3) (.call 1 (.cons (.bin .Add (.var 0) (.tup (.cons (.var 2) .nil))) (.cons (.sl (.var 1) (.some (.lit (.int (1)))) .none) .nil)))) (.cons (.ife (.cmp .IsNot (.var 3) (.lit .non)) (.cons (.ret (.bin .Add (.tup (.cons (.var 2) .nil)) (.var 3))) .nil) .nil) .nil)
theorem find_all_step {rr : FnR} (hn : rr.n = 2) {ws : List Wn} (hw : ws.length ≤ 900) {ps : List Sz} (hp : ∀ p ∈ ps, Szk p) (hl : ps.length ≤ 100)
    (hrec : ∀ p ps' v, ps = p :: ps' → v ∈ fpN ws p → rr.sem [wsD (ws ++ [v]), szD ps'] = .ok (faD (faN (ws ++ [v]) ps')) ∧ ∀ vs, faN (ws ++ [v]) ps' = some vs → vs.length ≤ 100) : runF (phi [r_find_places, rr]) 4 ir_find_all_k56 [wsD ws, szD ps] = .ok (faD (faN ws ps)) := by
  rw [runF_eq]
  have hI : ir_find_all_k56 = .cons (.ife (.cmp .Eq (.var 1) (.lst .nil)) (.cons (.ret (.tup .nil)) .nil) .nil) (.cons (.for_ (.name 2) .seq (.cons (.call 0 (.cons (.var 0) (.cons (.ix (.var 1) (.lit (.int (0)))) .nil))) .nil) faB) (.cons (.ret (.lit .non)) .nil)) := rfl
  rw [hI]
  cases ps with
  | nil =>
    have e : cmpS .Eq (szD []) (.lst []) = .ok true := rfl
    show _ = R.ok (D.tup [])
    generalize faB = fb at *
    generalize wsD ws = wd at *
    generalize szD [] = sd at *
    simp -implicitDefEqProofs [e]
  | cons p ps' =>
    have e : cmpS .Eq (szD (p :: ps')) (.lst []) = .ok false := by
      unfold szD
      rw [eq_lst (okd_szD 6 (p :: ps')) (by simp [okd])]
      rfl
    have ix : ixS (szD (p :: ps')) (.int 0) = .ok (cD p) := ix_hd _ _
    have fp := find_places_ok ws (hp p List.mem_cons_self)
    have sq : itS .seq [.lst ((fpN ws p).map wD)] = .ok ((fpN ws p).map wD) := rfl
    have sl : slS (szD (p :: ps')) (some 1) none = .ok (szD ps') := by
      unfold szD
      show R.ok (D.lst (cutL ((p :: ps').map cD) (some 1) none)) = _
      rw [cut_one]
      rfl
    have p1 : ∀ ds, phi [r_find_places, rr] 1 ds = arity rr.n rr.sem ds := fun _ => rfl
    have lf := loop_find (f := turnF (phi [r_find_places, rr]) (.name 2) faB) wD (fun e => ∃ s2 s3, e = [.val (wsD ws), .val (szD (p :: ps')), s2, s3]) (fun v => (faN (ws ++ [v]) ps').map fun r => wsD (v :: r)) (fpN ws p) [.val (wsD ws), .val (szD (p :: ps')), .no, .no] (fun v hv e => by
      rintro ⟨s2, s3, rfl⟩
      obtain ⟨r1, r2⟩ := hrec p ps' v rfl hv
      have ad : binS .Add (wsD ws) (.tup [wD v]) = .ok (wsD (ws ++ [v])) := by
        unfold wsD
        rw [add_tup56 (by simp; omega), List.map_append]
        rfl
      refine ⟨fun z => ?_, fun d z => ?_⟩
      · cases hf : faN (ws ++ [v]) ps' with
        | some vs => rw [hf] at z; cases z
        | none =>
          rw [hf] at r1
          have r1 : rr.sem [wsD (ws ++ [v]), szD ps'] = .ok .non := r1
          refine ⟨_, ?_, .val (wD v), .val .non, rfl⟩
          unfold turnF faB
          generalize wsD (ws ++ [v]) = w2 at *
          generalize wsD ws = wd at *
          generalize wD v = vd at *
          generalize szD ps' = sd' at *
          generalize szD (p :: ps') = sd at *
          simp -implicitDefEqProofs [ad, sl, p1, hn, r1]
      · cases hf : faN (ws ++ [v]) ps' with
        | none => rw [hf] at z; cases z
        | some vs =>
          rw [hf] at z r1
          have z : wsD (v :: vs) = d := by injection z
          subst z
          have r1 : rr.sem [wsD (ws ++ [v]), szD ps'] = .ok (wsD vs) := r1
          have a2 : binS .Add (.tup [wD v]) (wsD vs) = .ok (wsD (v :: vs)) := by
            have := r2 vs hf
            unfold wsD
            rw [add_tup56 (by simp; omega)]
            rfl
          have nn : cmpS .IsNot (wsD vs) .non = .ok true := by unfold wsD; rfl
          unfold turnF faB
          generalize wsD (v :: vs) = w3 at *
          generalize wsD vs = w4 at *
          generalize wsD (ws ++ [v]) = w2 at *
          generalize wsD ws = wd at *
          generalize wD v = vd at *
          generalize szD ps' = sd' at *
          generalize szD (p :: ps') = sd at *
          simp -implicitDefEqProofs [ad, sl, p1, hn, r1, nn, a2, -isnot_non]) ⟨.no, .no, rfl⟩
    have fe : faN ws (p :: ps') = (fpN ws p).findSome? fun v => (faN (ws ++ [v]) ps').map (v :: ·) := rfl
    have fm : ((fpN ws p).findSome? fun v => (faN (ws ++ [v]) ps').map fun r => wsD (v :: r)) = (faN ws (p :: ps')).map wsD := by
      rw [fe, ← find_map]
      congr 1
      funext v
      rw [Option.map_map]
      rfl
    rw [fm] at lf
    cases hf : faN ws (p :: ps') with
    | none =>
      obtain ⟨e', q, s2, s3, rfl⟩ := lf.1 (by rw [hf]; rfl)
      generalize (fpN ws p).map wD = ff at *
      generalize szD (p :: ps') = sd at *
      generalize wsD ws = wd at *
      generalize cD p = pd at *
      generalize faB = fb at *
      show _ = R.ok D.non
      simp -implicitDefEqProofs [e, ix, fp, sq, q]
    | some vs =>
      have q := lf.2 (wsD vs) (by rw [hf]; rfl)
      show _ = R.ok (wsD vs)
      generalize (fpN ws p).map wD = ff at *
      generalize szD (p :: ps') = sd at *
      generalize wsD vs = vd at *
      generalize wsD ws = wd at *
      generalize cD p = pd at *
      generalize faB = fb at *
      simp -implicitDefEqProofs [e, ix, fp, sq, q]
theorem faN_len : ∀ {ps : List Sz} {ws vs : List Wn}, faN ws ps = some vs → vs.length = ps.length
  | [], ws, vs, h => by cases h; rfl
  | p :: ps, ws, vs, h => by
    obtain ⟨v, _, hv⟩ := List.exists_of_findSome?_eq_some h
    cases hf : faN (ws ++ [v]) ps with
    | none => rw [hf] at hv; cases hv
    | some r =>
      rw [hf] at hv
      cases hv
      rw [List.length_cons, List.length_cons, faN_len hf]
theorem find_all_ok {ws : List Wn} (hw : ws.length ≤ 100) {ps : List Sz} (hp : ∀ p ∈ ps, Szk p) (hl : ps.length ≤ 2) : r_find_all_k56.sem [wsD ws, szD ps] = .ok (faD (faN ws ps)) := by
  have sm : ∀ {ps' : List Sz} {ws' vs : List Wn}, ps'.length ≤ 2 → faN ws' ps' = some vs → vs.length ≤ 100 := fun hz hf => by rw [faN_len hf]; omega
  refine find_all_step (rr := r_find_all_k56_2) rfl (by omega) hp (by omega) fun p ps' v e _ => ?_
  subst e
  rw [List.length_cons] at hl
  refine ⟨?_, fun vs => sm (by omega)⟩
  refine find_all_step (rr := r_find_all_k56_1) rfl (by simp; omega) (fun q hq => hp q (List.mem_cons_of_mem _ hq)) (by omega) fun p2 ps2 v2 e _ => ?_
  subst e
  rw [List.length_cons] at hl
  refine ⟨?_, fun vs => sm (by omega)⟩
  have e : ps2 = [] := List.eq_nil_of_length_eq_zero (by omega)
  subst e
  exact find_all_step (ps := []) (rr := r_find_all_k56_0) rfl (by simp; omega) (fun q hq => nomatch hq) (by simp) (fun p ps' v e _ => nomatch e)
end Pan
namespace Pan
open PySem L2
theorem zip_take {α : Type} {l : List α} {v : α} {k : Nat} (h : (v, k) ∈ l.zipIdx) : l[k]? = some v := by
  rw [List.mem_iff_getElem?] at h
  obtain ⟨i, hi⟩ := h
  rw [List.getElem?_zipIdx] at hi
  cases q : l[i]? with
  | none => rw [q] at hi; cases hi
  | some x =>
    rw [q] at hi
    have hi : (x, 0 + i) = (v, k) := by injection hi
    rw [Nat.zero_add] at hi
    cases hi
    exact q
theorem take_wsD (vs : List Wn) {k : Nat} (hk : k ≤ vs.length) : slS (wsD vs) none (some (k : Int)) = .ok (wsD (vs.take k)) := by
  unfold wsD
  show R.ok (D.tup (cutL (vs.map wD) none (some (k : Int)))) = _
  rw [cut_take _ (by rw [List.length_map]; omega), Int.toNat_natCast, List.map_take]
def szB (v : Wn) : Sz := (v.r - v.l, v.b - v.t)
/-- one place fits -/
def fitB (ws : List Wn) (ps : List Sz) (vs : List Wn) (v : Wn) (k : Nat) : Bool := decide (ps[k]? = some (szB v)) && (frB ws v && frB (vs.take k) v)
def arB (ws : List Wn) (ps : List Sz) (vs : List Wn) : Bool := decide (vs.length = ps.length) && vs.zipIdx.all fun q => fitB ws ps vs q.1 q.2
theorem ne_size (ps : List Sz) (v : Wn) {k : Nat} {p : Sz} (h : ps[k]? = some p) : cmpS .NotEq (.tup [.int (v.r - v.l), .int (v.b - v.t)]) (cD p) = .ok (!decide (ps[k]? = some (szB v))) := by
  have q : cmpS .NotEq (.tup [.int (v.r - v.l), .int (v.b - v.t)]) (cD p) = if okd 8 (.tup [.int (v.r - v.l), .int (v.b - v.t)]) && okd 8 (cD p) then .ok (!eqv (cD (szB v)) (cD p)) else .bad := rfl
  have o1 : okd 8 (.tup [.int (v.r - v.l), .int (v.b - v.t)]) = true := by simp [okd]
  rw [q, o1, okd_cD, eqv_cD, h]
  simp only [Bool.and_self, if_true]
  congr 2
  exact decide_eq_decide.mpr ⟨fun z => by rw [z], fun z => by injection z with z; exact z.symm⟩
theorem find_ite {α : Type} (f : α → Bool) (d : D) : ∀ l : List α, (l.findSome? fun a => if f a then none else some d) = if l.all f then none else some d
  | [] => rfl
  | a :: l => by
    rw [List.findSome?_cons, List.all_cons]
    cases f a with
    | false => rfl
    | true => exact find_ite f d l
section
variable {ws : List Wn} (h : ∀ w ∈ ws, w.ok) (hl : ws.length ≤ 6)
include h hl
theorem sizes_fine {ps : List Sz} (hp : ∀ p ∈ ps, Szk p) (hn : ps.length ≤ 3) : r_check_sizes.sem [wsD ws, szD ps] = .ok .non := by
  rw [check_sizes_ok h hl (okd_szD 6 ps) (fun ns z => by unfold szD at z; cases z), areZ_szD hp hn]; rfl
theorem place_all_ok {ps : List Sz} (hp : ∀ p ∈ ps, Szk p) (hn : ps.length ≤ 2) : r_place_all_k56.sem [wsD ws, szD ps] = .ok (faD (faN ws ps)) := by
  have a := sizes_fine h hl hp (by omega)
  have b := find_all_ok (ws := ws) (by omega) hp hn
  have hr : ∀ ds, r_place_all_k56.sem ds = runF (phi [r_check_sizes, r_find_all_k56]) 2 ir_place_all_k56 ds := fun _ => rfl
  rw [hr, runF_eq]
  generalize faD (faN ws ps) = ff at *
  generalize wsD ws = um at *
  generalize szD ps = pd at *
  simp -implicitDefEqProofs [ir_place_all_k56, a, b]
def rB : Ss := .cons (.ife (.cmp .NotEq (.tup (.cons (.bin .Sub (.ix (.var 3) (.lit (.int (2)))) (.ix (.var 3) (.lit (.int (0))))) (.cons (.bin .Sub (.ix (.var 3) (.lit (.int (3)))) (.ix (.var 3) (.lit (.int (1))))) .nil))) (.ix (.var 1) (.var 4))) (.cons (.ret (.lit (.bl false))) .nil) .nil) (.cons (.ife (.or (.cons (.not (.call 2 (.cons (.var 0) (.cons (.var 3) .nil)))) (.cons (.not (.call 2 (.cons (.sl (.var 2) .none (.some (.var 4))) (.cons (.var 3) .nil)))) .nil))) (.cons (.ret (.lit (.bl false))) .nil) .nil) .nil)
def rC : Ss := .cons (.for_ (.tup [4, 3]) .enum (.cons (.var 2) .nil) rB) (.cons (.ret (.lit (.bl true))) .nil)
def rI : Ss := .cons (.expr (.call 0 (.cons (.var 0) (.cons (.var 1) .nil)))) (.cons (.ife (.or (.cons (.not (.bi .isinst (.cons (.var 2) (.cons (.lit (.ty "tuple")) .nil)))) (.cons (.cmp .NotEq (.bi .len (.cons (.var 2) .nil)) (.bi .len (.cons (.var 1) .nil))) .nil))) (.cons (.ret (.lit (.bl false))) .nil) .nil) (.cons (.ife (.not (.bi .all (.cons (.lc [3] (.name 3) .seq (.cons (.var 2) .nil) .none (.call 1 (.cons (.var 3) .nil))) .nil))) (.cons (.ret (.lit (.bl false))) .nil) .nil) rC))
abbrev Γr : List FnR := [r_check_sizes, r_is_window, r_is_free]
omit h hl in
theorem are_places_run (ds : List D) : r_are_places.sem ds = outF (xss (phi Γr) rI (ds.map Slot.val ++ List.replicate (5 - ds.length) .no)) := by
  have hI : ir_are_places = rI := rfl
  have hr : r_are_places.sem ds = runF (phi Γr) 5 ir_are_places ds := rfl
  rw [hr, runF_eq, hI]
omit h hl in
theorem len_szD (ps : List Sz) : biS .len [szD ps] = .ok (.int ps.length) := by unfold szD; rw [len_lst, List.length_map]
theorem are_places_no {ps : List Sz} (hp : ∀ p ∈ ps, Szk p) (hn : ps.length ≤ 3) {d : D} (hd : okd 8 d = true) (hx : ∀ xs, d = .tup xs → xs.length ≠ ps.length) : r_are_places.sem [wsD ws, szD ps, d] = .ok (.bl false) := by
  have a := sizes_fine h hl hp hn
  have i := isinst_ok (n := "tuple") hd (by decide)
  have lz := len_szD ps
  rw [are_places_run]
  unfold rI
  generalize wsD ws = um at *
  generalize szD ps = pd at *
  generalize rC = rc at *
  cases hq : isInstS d "tuple" with
  | false =>
    rw [hq] at i
    simp -implicitDefEqProofs [a, i]
  | true =>
    rw [hq] at i
    cases d with
    | tup xs =>
      have e : ((xs.length : Int) == (ps.length : Int)) = false := by
        have := hx xs rfl
        simp; omega
      simp -implicitDefEqProofs [a, i, lz, e]
    | _ => cases hq
theorem are_places_ok {ps : List Sz} (hp : ∀ p ∈ ps, Szk p) (hn : ps.length ≤ 3) {vs : List Wn} (hv : ∀ v ∈ vs, v.ok) (hvl : vs.length ≤ 100) : r_are_places.sem [wsD ws, szD ps, wsD vs] = .ok (.bl (arB ws ps vs)) := by
  by_cases q : vs.length = ps.length
  rotate_left
  · have e : arB ws ps vs = false := by unfold arB; simp [q]
    rw [e]
    exact are_places_no h hl hp hn (okd_wsD 6 vs) fun xs z => by
      unfold wsD at z
      cases z
      rw [List.length_map]; exact q
  · have a := sizes_fine h hl hp hn
    have i : biS .isinst [wsD vs, .ty "tuple"] = .ok (.bl true) := isinst_ok (n := "tuple") (okd_wsD 6 vs) (by decide)
    have lz := len_szD ps
    have lv := len_wsD vs
    have sq : itS .seq [wsD vs] = .ok (vs.map wD) := rfl
    have se : itS .enum [wsD vs] = .ok (enumD (vs.map wD)) := rfl
    have f : lcM (vs.map wD) (itemL (phi Γr) [.val (wsD ws), .val (szD ps), .val (wsD vs), .no, .no] [3] (.name 3) .none (.call 1 (.cons (.var 3) .nil))) = .ok (vs.map fun _ => .bl true) := by
      refine lcM_mapI wD _ fun v hm => ?_
      have b := is_window_ok (wD v) (okd_wD 7 v)
      rw [isW_wD (hv v hm)] at b
      generalize wD v = vd at *
      generalize wsD ws = um at *
      generalize wsD vs = vm at *
      generalize szD ps = pd at *
      simp -implicitDefEqProofs [itemL, b]
    have al : biS .all [.lst (vs.map fun _ => .bl true)] = .ok (.bl true) := by
      rw [all_bools (fun _ : Wn => true) vs]
      simp
    have lf := loop_find (f := turnF (phi Γr) (.tup [4, 3]) rB) (fun q : Wn × Nat => (.prs [.int (q.2 : Nat), wD q.1] : D)) (fun e => ∃ s3 s4, e = [.val (wsD ws), .val (szD ps), .val (wsD vs), s3, s4]) (fun q => if fitB ws ps vs q.1 q.2 then none else some (.bl false)) vs.zipIdx [.val (wsD ws), .val (szD ps), .val (wsD vs), .no, .no] (fun q hq e => by
      rintro ⟨s3, s4, rfl⟩
      obtain ⟨v, k⟩ := q
      have vk := zip_take hq
      have hk : k < vs.length := (List.getElem?_eq_some_iff.mp vk).1
      obtain ⟨p, pk⟩ : ∃ p, ps[k]? = some p := ⟨_, List.getElem?_eq_getElem (by omega)⟩
      have ix := ix_szD pk
      have w0 : ixS (wD v) (.int 0) = .ok (.int v.l) := rfl
      have w1 : ixS (wD v) (.int 1) = .ok (.int v.t) := rfl
      have w2 : ixS (wD v) (.int 2) = .ok (.int v.r) := rfl
      have w3 : ixS (wD v) (.int 3) = .ok (.int v.b) := rfl
      have nn := ne_size ps v pk
      have f1 := is_free_ok ws v
      have f2 := is_free_ok (vs.take k) v
      have tk := take_wsD vs (k := k) (by omega)
      have p2 : ∀ ds, phi Γr 2 ds = arity r_is_free.n r_is_free.sem ds := fun _ => rfl
      show ((if fitB ws ps vs v k then (none : Option D) else some (.bl false)) = none → _) ∧ ∀ d, (if fitB ws ps vs v k then (none : Option D) else some (.bl false)) = some d → _
      unfold fitB
      generalize decide (ps[k]? = some (szB v)) = b0 at *
      generalize frB ws v = b1 at *
      generalize frB (vs.take k) v = b2 at *
      generalize wsD (vs.take k) = tm at *
      generalize wD v = vd at *
      generalize wsD ws = um at *
      generalize wsD vs = vm at *
      generalize szD ps = pd at *
      have st : turnF (phi Γr) (.tup [4, 3]) rB (.prs [.int (k : Nat), vd]) [.val um, .val pd, .val vm, s3, s4] = if b0 && (b1 && b2) then .ok (.nx [.val um, .val pd, .val vm, .val vd, .val (.int k)]) else .ok (.rt (.bl false)) := by
        unfold turnF rB
        cases b0 <;> cases b1 <;> cases b2 <;> simp -implicitDefEqProofs [w0, w1, w2, w3, ix, nn, p2, f1, f2, tk]
      rw [st]
      generalize (b0 && (b1 && b2)) = bb
      cases bb with
      | true => exact ⟨fun _ => ⟨_, rfl, _, _, rfl⟩, fun d z => nomatch z⟩
      | false => exact ⟨fun z => (nomatch z), fun d z => by
          have z : (.bl false : D) = d := by injection z
          rw [← z]; rfl⟩) ⟨.no, .no, rfl⟩
    rw [find_ite] at lf
    have ar : arB ws ps vs = vs.zipIdx.all fun q => fitB ws ps vs q.1 q.2 := by unfold arB; simp [q]
    rw [← ar, ← enum_wD] at lf
    have e : ((vs.length : Int) == (ps.length : Int)) = true := by rw [q]; simp
    rw [are_places_run]
    unfold rI rC
    cases hb : arB ws ps vs with
    | true =>
      obtain ⟨e', q1, s3, s4, rfl⟩ := lf.1 (by rw [hb]; rfl)
      generalize enumD (vs.map wD) = ed at *
      generalize (vs.map fun _ => (.bl true : D)) = bt at *
      generalize vs.map wD = vmm at *
      generalize wsD ws = um at *
      generalize wsD vs = vm at *
      generalize szD ps = pd at *
      generalize rB = rb at *
      simp -implicitDefEqProofs [a, i, lz, lv, e, sq, se, f, al, q1]
    | false =>
      have q1 := lf.2 (.bl false) (by rw [hb]; rfl)
      generalize enumD (vs.map wD) = ed at *
      generalize (vs.map fun _ => (.bl true : D)) = bt at *
      generalize vs.map wD = vmm at *
      generalize wsD ws = um at *
      generalize wsD vs = vm at *
      generalize szD ps = pd at *
      generalize rB = rb at *
      simp -implicitDefEqProofs [a, i, lz, lv, e, sq, se, f, al, q1]
end
end Pan
namespace Pan
open PySem L2
def wlt (u v : Wn) : Bool := HT.lexLt [u.l, u.t, u.r, u.b] [v.l, v.t, v.r, v.b]
theorem wlt_iff (u v : Wn) : wlt u v = true ↔ u.l < v.l ∨ (u.l = v.l ∧ (u.t < v.t ∨ (u.t = v.t ∧ (u.r < v.r ∨ (u.r = v.r ∧ u.b < v.b))))) := by
  unfold wlt
  simp only [HT.lexLt]
  by_cases a : u.l = v.l <;> by_cases b : u.t = v.t <;> by_cases c : u.r = v.r <;> by_cases d : u.b = v.b <;> simp [a, b, c, d]
theorem wlt_ff {u v : Wn} : wlt u v = false ↔ ¬ (u.l < v.l ∨ (u.l = v.l ∧ (u.t < v.t ∨ (u.t = v.t ∧ (u.r < v.r ∨ (u.r = v.r ∧ u.b < v.b)))))) := by
  rw [← wlt_iff, Bool.not_eq_true]
theorem wn_eq {u v : Wn} (h1 : u.l = v.l) (h2 : u.t = v.t) (h3 : u.r = v.r) (h4 : u.b = v.b) : u = v := by
  cases u; cases v; simp_all
theorem lt_wD (u v : Wn) : cmpS .Lt (wD u) (wD v) = .ok (wlt u v) := rfl
theorem plL_srt (p : Sz) : (plL p).Pairwise fun u v => wlt u v = true := by
  unfold plL
  have rs : ∀ n : Int, (rngI 0 n).Pairwise (· < ·) := fun n => by
    unfold rngI
    rw [List.pairwise_map]
    exact List.pairwise_lt_range.imp fun h => by omega
  rw [List.pairwise_flatMap]
  refine ⟨fun x _ => ?_, (rs _).imp fun {x y} h a ha b hb => ?_⟩
  · rw [List.pairwise_map]
    refine (rs _).imp fun {a b} h => ?_
    rw [wlt_iff]
    exact .inr ⟨rfl, .inl h⟩
  · obtain ⟨_, _, rfl⟩ := List.mem_map.mp ha
    obtain ⟨_, _, rfl⟩ := List.mem_map.mp hb
    rw [wlt_iff]
    exact .inl h
theorem fpN_srt (ws : List Wn) (p : Sz) : (fpN ws p).Pairwise fun u v => wlt u v = true := (plL_srt p).sublist List.filter_sublist
theorem head_least {l : List Wn} (h : l.Pairwise fun u v => wlt u v = true) {u v : Wn} (hu : l.head? = some u) (hv : v ∈ l) : wlt v u = false := by
  cases l with
  | nil => cases hu
  | cons a l =>
    cases hu
    rw [wlt_ff]
    rcases List.mem_cons.mp hv with rfl | hv
    · omega
    · have := (List.pairwise_cons.mp h).1 v hv
      rw [wlt_iff] at this
      omega
def cl_ (p : Sz) : Int := p.1 * p.2
def upB (ws : List Wn) (p : Sz) (b : Option (Int × Wn)) : Option (Int × Wn) := match (fpN ws p).head? with
  | none => b
  | some u => (match b with
    | none => some (cl_ p, u)
    | some (c, v) => if wlt u v then some (cl_ p, u) else some (c, v))
def lfL (ws : List Wn) : List Sz → Option (Int × Wn) → Option Wn
  | [], b => b.map (·.2)
  | p :: ps, b => match b with
    | some (c, v) => if cl_ p < c then some v else lfL ws ps (upB ws p (some (c, v)))
    | none => lfL ws ps (upB ws p none)
def optD : Option (Int × Wn) → D
  | none => .non
  | some (c, v) => .tup [.int c, wD v]
def oW : Option Wn → D
  | none => .non
  | some v => wD v
/-- what is told of the best so far -/
structure BestI (ws : List Wn) (pre : List Sz) (b : Option (Int × Wn)) : Prop where
  no : b = none → ∀ p ∈ pre, fpN ws p = []
  yes : ∀ c v, b = some (c, v) → (∃ p ∈ pre, c = cl_ p ∧ v ∈ fpN ws p) ∧ ∀ q ∈ pre, ∀ u ∈ fpN ws q, cl_ q ≤ c ∧ (cl_ q = c → wlt u v = false)
structure Best (ws : List Wn) (S : List Sz) (b : Option Wn) : Prop where
  no : b = none → ∀ p ∈ S, fpN ws p = []
  yes : ∀ v, b = some v → ∃ p ∈ S, v ∈ fpN ws p ∧ ∀ q ∈ S, ∀ u ∈ fpN ws q, cl_ q ≤ cl_ p ∧ (cl_ q = cl_ p → wlt u v = false)
theorem BestI.step {ws : List Wn} {pre : List Sz} {b : Option (Int × Wn)} (B : BestI ws pre b) {p : Sz} (hle : ∀ c v, b = some (c, v) → cl_ p = c) : BestI ws (pre ++ [p]) (upB ws p b) := by
  have srt := fpN_srt ws p
  unfold upB
  cases hh : (fpN ws p).head? with
  | none =>
    have e : fpN ws p = [] := List.head?_eq_none_iff.mp hh
    dsimp only
    refine ⟨fun h q hq => ?_, fun c v h => ?_⟩
    · rcases List.mem_append.mp hq with hq | hq
      · exact B.no h q hq
      · rw [List.mem_singleton.mp hq]; exact e
    · obtain ⟨⟨q, q1, q2, q3⟩, q4⟩ := B.yes c v h
      refine ⟨⟨q, List.mem_append_left _ q1, q2, q3⟩, fun r hr u hu => ?_⟩
      rcases List.mem_append.mp hr with hr | hr
      · exact q4 r hr u hu
      · rw [List.mem_singleton.mp hr, e] at hu; cases hu
  | some u =>
    have um : u ∈ fpN ws p := List.mem_of_mem_head? (by rw [hh]; rfl)
    cases b with
    | none =>
      dsimp only
      refine ⟨fun h => (by cases h), fun c v h => ?_⟩
      cases h
      refine ⟨⟨p, by simp, rfl, um⟩, fun r hr x hx => ?_⟩
      rcases List.mem_append.mp hr with hr | hr
      · rw [B.no rfl r hr] at hx; cases hx
      · rw [List.mem_singleton.mp hr] at hx ⊢
        exact ⟨Int.le_refl _, fun _ => head_least srt hh hx⟩
    | some cv =>
      obtain ⟨c, v⟩ := cv
      have hc := hle c v rfl
      obtain ⟨⟨q, q1, q2, q3⟩, q4⟩ := B.yes c v rfl
      dsimp only
      cases hw : wlt u v with
      | true =>
        rw [if_pos rfl]
        refine ⟨fun h => (by cases h), fun c' v' h => ?_⟩
        cases h
        refine ⟨⟨p, by simp, rfl, um⟩, fun r hr x hx => ?_⟩
        rcases List.mem_append.mp hr with hr | hr
        · obtain ⟨z1, z2⟩ := q4 r hr x hx
          refine ⟨by omega, fun e => ?_⟩
          have := z2 (by omega)
          rw [wlt_ff] at this ⊢
          rw [wlt_iff] at hw
          omega
        · rw [List.mem_singleton.mp hr] at hx ⊢
          exact ⟨Int.le_refl _, fun _ => head_least srt hh hx⟩
      | false =>
        rw [if_neg (by decide)]
        refine ⟨fun h => (by cases h), fun c' v' h => ?_⟩
        cases h
        refine ⟨⟨q, List.mem_append_left _ q1, q2, q3⟩, fun r hr x hx => ?_⟩
        rcases List.mem_append.mp hr with hr | hr
        · exact q4 r hr x hx
        · rw [List.mem_singleton.mp hr] at hx ⊢
          refine ⟨by omega, fun _ => ?_⟩
          have := head_least srt hh hx
          rw [wlt_ff] at this hw ⊢
          omega
theorem lfL_best {ws : List Wn} : ∀ (S pre : List Sz) (b : Option (Int × Wn)), BestI ws pre b → (pre ++ S).Pairwise (fun p q => cl_ q ≤ cl_ p) → Best ws (pre ++ S) (lfL ws S b)
  | [], pre, b, B, _ => by
    rw [List.append_nil]
    unfold lfL
    refine ⟨fun h => ?_, fun v h => ?_⟩
    · exact B.no (by cases b with | none => rfl | some x => cases h)
    · cases b with
      | none => cases h
      | some x =>
        cases h
        obtain ⟨⟨q, q1, q2, q3⟩, q4⟩ := B.yes x.1 x.2 rfl
        refine ⟨q, q1, q3, fun r hr u hu => ?_⟩
        rw [← q2]
        exact q4 r hr u hu
  | p :: S, pre, b, B, srt => by
    have e : pre ++ p :: S = (pre ++ [p]) ++ S := by simp
    have srt' := srt
    rw [e] at srt'
    have pw := List.pairwise_append.mp srt
    cases b with
    | none =>
      show Best ws (pre ++ p :: S) (lfL ws S (upB ws p none))
      rw [e]
      exact lfL_best S (pre ++ [p]) _ (B.step fun c v h => by cases h) srt'
    | some cv =>
      obtain ⟨c, v⟩ := cv
      obtain ⟨⟨q, q1, q2, q3⟩, q4⟩ := B.yes c v rfl
      have hpc : cl_ p ≤ c := by rw [q2]; exact pw.2.2 q q1 p (by simp)
      show Best ws (pre ++ p :: S) (if cl_ p < c then some v else lfL ws S (upB ws p (some (c, v))))
      by_cases hlt : cl_ p < c
      · rw [if_pos hlt]
        refine ⟨fun h => (by cases h), fun v' h => ?_⟩
        cases h
        refine ⟨q, List.mem_append_left _ q1, q3, fun r hr u hu => ?_⟩
        rw [← q2]
        rcases List.mem_append.mp hr with hr | hr
        · exact q4 r hr u hu
        · have : cl_ r ≤ cl_ p := by
            rcases List.mem_cons.mp hr with rfl | hr
            · exact Int.le_refl _
            · exact (List.pairwise_cons.mp pw.2.1).1 r hr
          exact ⟨by omega, fun z => by omega⟩
      · rw [if_neg hlt, e]
        exact lfL_best S (pre ++ [p]) _ (B.step fun c' v' h => by cases h; omega) srt'
def szsN : List Sz := (rngI 1 13).flatMap fun w => (rngI 1 13).map fun h => (w, h)
def srtN : List Sz := szsN.mergeSort fun p q => decide (0 - cl_ p ≤ 0 - cl_ q)
theorem mem_szsN {p : Sz} : p ∈ szsN ↔ Szk p := by
  unfold szsN Szk
  rw [List.mem_flatMap]
  constructor
  · rintro ⟨w, hw, h⟩
    obtain ⟨y, hy, rfl⟩ := List.mem_map.mp h
    rw [mem_rngI] at hw hy
    exact ⟨⟨hw.1, by omega⟩, hy.1, by omega⟩
  · rintro ⟨⟨h1, h2⟩, h3, h4⟩
    exact ⟨p.1, mem_rngI.mpr ⟨h1, by omega⟩, List.mem_map.mpr ⟨p.2, mem_rngI.mpr ⟨h3, by omega⟩, rfl⟩⟩
theorem mem_srtN {p : Sz} : p ∈ srtN ↔ Szk p := by
  unfold srtN
  rw [List.mem_mergeSort, mem_szsN]
theorem srtN_srt : srtN.Pairwise (fun p q => cl_ q ≤ cl_ p) := by
  have := List.pairwise_mergeSort (le := fun p q : Sz => decide (0 - cl_ p ≤ 0 - cl_ q)) (fun a b c h1 h2 => by
    rw [decide_eq_true_eq] at *
    omega) (fun a b => by
    rw [Bool.or_eq_true, decide_eq_true_eq, decide_eq_true_eq]
    omega) szsN
  refine List.Pairwise.imp (fun h => ?_) this
  rw [decide_eq_true_eq] at h
  omega
def lfN (ws : List Wn) : Option Wn := lfL ws srtN none
theorem lfN_best (ws : List Wn) : Best ws srtN (lfN ws) := lfL_best srtN [] none ⟨fun _ p h => (by cases h), fun c v h => (by cases h)⟩ srtN_srt
theorem sortK_cD (l : List Sz) : sortK (l.map cD) = (l.mergeSort fun p q => decide (0 - cl_ p ≤ 0 - cl_ q)).map cD := by
  unfold sortK
  rw [List.map_mergeSort]
  intro a _ b _
  rfl
end Pan
namespace Pan
open PySem L2
theorem andThen_assoc (x : R Fl) (f g : Env → R Fl) : andThen (andThen x f) g = andThen x fun e => andThen (f e) g := by
  cases x with
  | ok fl => cases fl <;> rfl
  | exc c => rfl
  | bad => rfl
abbrev Γf : List FnR := [r_check_windows, r_find_places]
abbrev lbA : S := .asg (.name 6) (.bin .Mult (.ix (.var 5) (.lit (.int (0)))) (.ix (.var 5) (.lit (.int (1)))))
abbrev lbB : S := .ife (.and (.cons (.cmp .IsNot (.var 4) (.lit .non)) (.cons (.cmp .Lt (.var 6) (.ix (.var 4) (.lit (.int (0))))) .nil))) (.cons (.ret (.ix (.var 4) (.lit (.int (1))))) .nil) .nil
abbrev lbD : Ss := .cons (.ife (.or (.cons (.cmp .Is (.var 4) (.lit .non)) (.cons (.cmp .Lt (.var 7) (.ix (.var 4) (.lit (.int (1))))) .nil))) (.cons (.asg (.name 4) (.tup (.cons (.var 6) (.cons (.var 7) .nil)))) .nil) .nil) .nil
abbrev lbC : S := .for_ (.name 7) .seq (.cons (.sl (.call 1 (.cons (.var 0) (.cons (.var 5) .nil))) .none (.some (.lit (.int (1))))) .nil) lbD
theorem irb_eq : irb_largest_free_k58 = .cons lbA (.cons lbB (.cons lbC .nil)) := rfl
theorem take_lst (l : List Wn) : slS (.lst (l.map wD)) none (some 1) = .ok (.lst ((l.take 1).map wD)) := by
  cases l with
  | nil => rfl
  | cons v l =>
    show R.ok (D.lst (cutL ((v :: l).map wD) none (some 1))) = _
    rw [cut_take _ (by simp; omega), ← List.map_take]; rfl
theorem inner1 (Φ : Nat → List D → R D) (s0 s1 s2 s3 s5 : Slot) (c : Int) (u : Wn) (b : Option (Int × Wn)) (s7 : Slot) : turnF Φ (.name 7) lbD (wD u) [s0, s1, s2, s3, .val (optD b), s5, .val (.int c), s7] = .ok (.nx [s0, s1, s2, s3, .val (optD (match b with
    | none => some (c, u)
    | some (c', v) => if wlt u v then some (c, u) else some (c', v))), s5, .val (.int c), .val (wD u)]) := by
  cases b with
  | none =>
    have e : optD none = .non := rfl
    have f : fitL [.int c, wD u] D.tup = .ok (optD (some (c, u))) := rfl
    rw [e]
    generalize optD (some (c, u)) = o1 at *
    generalize wD u = ud at *
    unfold turnF
    simp -implicitDefEqProofs [f]
  | some x =>
    obtain ⟨c', v⟩ := x
    have e : optD (some (c', v)) = .tup [.int c', wD v] := rfl
    have f : fitL [.int c, wD u] D.tup = .ok (optD (some (c, u))) := rfl
    have i : cmpS .Is (.tup [.int c', wD v]) .non = .ok false := rfl
    have l := lt_wD u v
    have x1 : ixS (.tup [.int c', wD v]) (.int 1) = .ok (wD v) := rfl
    rw [← e] at i x1
    dsimp only
    cases hw : wlt u v with
    | true =>
      rw [hw] at l
      rw [if_pos rfl]
      generalize optD (some (c, u)) = o1 at *
      generalize optD (some (c', v)) = o2 at *
      generalize wD u = ud at *
      generalize wD v = vd at *
      unfold turnF
      simp -implicitDefEqProofs [f, i, x1, l, -is_non, -isnot_non]
    | false =>
      rw [hw] at l
      rw [if_neg (by decide)]
      generalize optD (some (c, u)) = o1 at *
      generalize optD (some (c', v)) = o2 at *
      generalize wD u = ud at *
      generalize wD v = vd at *
      unfold turnF
      simp -implicitDefEqProofs [f, i, x1, l, -is_non, -isnot_non]
theorem turn58 {ws : List Wn} {p : Sz} (hp : Szk p) (s1 s2 s3 : Slot) (b : Option (Int × Wn)) (s5 s6 s7 : Slot) : ∃ t7, turnF (phi Γf) (.name 5) irb_largest_free_k58 (cD p) [.val (wsD ws), s1, s2, s3, .val (optD b), s5, s6, s7] =
    match b with
    | some (c, v) => if cl_ p < c then .ok (.rt (wD v)) else .ok (.nx [.val (wsD ws), s1, s2, s3, .val (optD (upB ws p (some (c, v)))), .val (cD p), .val (.int (cl_ p)), t7])
    | none => .ok (.nx [.val (wsD ws), s1, s2, s3, .val (optD (upB ws p none)), .val (cD p), .val (.int (cl_ p)), t7]) := by
  have fp := find_places_ok ws hp
  have tk := take_lst (fpN ws p)
  have x0 : ixS (cD p) (.int 0) = .ok (.int p.1) := rfl
  have x1 : ixS (cD p) (.int 1) = .ok (.int p.2) := rfl
  have ml : binS .Mult (.int p.1) (.int p.2) = .ok (.int (cl_ p)) := mul_int (by obtain ⟨⟨h1, h2⟩, _⟩ := hp; omega)
  have tail : ∃ t7, xs (phi Γf) lbC [.val (wsD ws), s1, s2, s3, .val (optD b), .val (cD p), .val (.int (cl_ p)), s7] = .ok (.nx [.val (wsD ws), s1, s2, s3, .val (optD (upB ws p b)), .val (cD p), .val (.int (cl_ p)), t7]) := by
    have ev1 : evs (phi Γf) (.cons (.sl (.call 1 (.cons (.var 0) (.cons (.var 5) .nil))) .none (.some (.lit (.int (1))))) .nil) [.val (wsD ws), s1, s2, s3, .val (optD b), .val (cD p), .val (.int (cl_ p)), s7] = .ok [.lst (((fpN ws p).take 1).map wD)] := by
      generalize ((fpN ws p).take 1).map wD = tk1 at *
      generalize (fpN ws p).map wD = fm at *
      generalize optD b = ob at *
      generalize wsD ws = wd at *
      generalize cD p = pd at *
      simp -implicitDefEqProofs [fp, tk]
    have it : itS .seq [.lst (((fpN ws p).take 1).map wD)] = .ok (((fpN ws p).take 1).map wD) := rfl
    rw [xs_for, ev1, lift_ok, it, lift_ok]
    unfold upB
    cases hf : fpN ws p with
    | nil => exact ⟨s7, rfl⟩
    | cons u l =>
      have q := inner1 (phi Γf) (.val (wsD ws)) s1 s2 s3 (.val (cD p)) (cl_ p) u b s7
      refine ⟨.val (wD u), ?_⟩
      have e1 : ((u :: l).take 1).map wD = [wD u] := rfl
      rw [e1]
      show andThen (turnF (phi Γf) (.name 7) lbD (wD u) _) (forM _ []) = _
      rw [q]
      rfl
  obtain ⟨t7, tl⟩ := tail
  refine ⟨t7, ?_⟩
  rw [irb_eq]
  cases b with
  | none =>
    have e : optD none = .non := rfl
    rw [e] at tl ⊢
    dsimp only
    generalize optD (upB ws p none) = ou at *
    generalize wsD ws = wd at *
    generalize cD p = pd at *
    generalize lbC = lc at *
    unfold turnF
    simp -implicitDefEqProofs [x0, x1, ml, tl]
  | some x =>
    obtain ⟨c, v⟩ := x
    have e : optD (some (c, v)) = .tup [.int c, wD v] := rfl
    have i : cmpS .IsNot (.tup [.int c, wD v]) .non = .ok true := rfl
    have y0 : ixS (.tup [.int c, wD v]) (.int 0) = .ok (.int c) := rfl
    have y1 : ixS (.tup [.int c, wD v]) (.int 1) = .ok (wD v) := rfl
    rw [← e] at i y0 y1
    dsimp only
    by_cases hlt : cl_ p < c
    · have d : decide (cl_ p < c) = true := decide_eq_true hlt
      rw [if_pos hlt]
      clear tl hlt
      generalize optD (some (c, v)) = o2 at *
      generalize wsD ws = wd at *
      generalize cD p = pd at *
      generalize wD v = vd at *
      generalize lbC = lc at *
      unfold turnF
      simp -implicitDefEqProofs [x0, x1, ml, i, y0, y1, d, -is_non, -isnot_non]
    · have d : decide (cl_ p < c) = false := decide_eq_false hlt
      rw [if_neg hlt]
      clear hlt
      generalize optD (upB ws p (some (c, v))) = ou at *
      generalize optD (some (c, v)) = o2 at *
      generalize wsD ws = wd at *
      generalize cD p = pd at *
      generalize wD v = vd at *
      generalize lbC = lc at *
      unfold turnF
      simp -implicitDefEqProofs [x0, x1, ml, i, y0, y1, d, tl, -is_non, -isnot_non]
theorem loop58 {ws : List Wn} (s1 s2 s3 : Slot) : ∀ (ps : List Sz) (b : Option (Int × Wn)) (s5 s6 s7 : Slot), (∀ p ∈ ps, Szk p) →
    andThen (forM (turnF (phi Γf) (.name 5) irb_largest_free_k58) (ps.map cD) [.val (wsD ws), s1, s2, s3, .val (optD b), s5, s6, s7]) (xss (phi Γf) irp_largest_free_k58) = .ok (.rt (oW (lfL ws ps b)))
  | [], b, s5, s6, s7, _ => by
    show xss (phi Γf) irp_largest_free_k58 [.val (wsD ws), s1, s2, s3, .val (optD b), s5, s6, s7] = _
    unfold lfL
    generalize wsD ws = wd
    cases b with
    | none => rfl
    | some x => rfl
  | p :: ps, b, s5, s6, s7, h => by
    obtain ⟨t7, q⟩ := turn58 (ws := ws) (h p List.mem_cons_self) s1 s2 s3 b s5 s6 s7
    have hr := fun q hq => h q (List.mem_cons_of_mem _ hq)
    show andThen (andThen (turnF (phi Γf) (.name 5) irb_largest_free_k58 (cD p) _) (forM _ (ps.map cD))) _ = _
    rw [andThen_assoc, q]
    cases b with
    | none =>
      dsimp only
      rw [andThen_nx]
      exact loop58 s1 s2 s3 ps _ _ _ _ hr
    | some x =>
      obtain ⟨c, v⟩ := x
      show andThen (if cl_ p < c then _ else _) _ = .ok (.rt (oW (if cl_ p < c then some v else lfL ws ps (upB ws p (some (c, v))))))
      by_cases hlt : cl_ p < c
      · rw [if_pos hlt, if_pos hlt]
        rfl
      · rw [if_neg hlt, if_neg hlt, andThen_nx]
        exact loop58 s1 s2 s3 ps _ _ _ _ hr
theorem sizes_val (Φ : Nat → List D → R D) (wd : D) : ev Φ (.lc2 [2, 3] (.name 2) .rng2 (.cons (.lit (.int (1))) (.cons (.bin .Add (.lit (.int (12))) (.lit (.int (1)))) .nil)) .none [3] (.name 3) .rng2 (.cons (.lit (.int (1))) (.cons (.bin .Add (.lit (.int (12))) (.lit (.int (1)))) .nil)) .none (.tup (.cons (.var 2) (.cons (.var 3) .nil)))) [.val wd, .no, .no, .no, .no, .no, .no, .no] = .ok (.lst (szsN.map cD)) := by
  have r : itS .rng2 [.int 1, .int (12 + 1)] = .ok ((rngI 1 13).map .int) := by rw [rng2_ok (by omega) (by omega) (by omega), rangeD_rngI]; rfl
  have r13 : itS .rng2 [.int 1, .int 13] = .ok ((rngI 1 13).map .int) := r
  have inn : ∀ w : Int, lcM ((rngI 1 13).map .int) (itemL Φ [.val wd, .no, .val (.int w), .no, .no, .no, .no, .no] [3] (.name 3) .none (.tup (.cons (.var 2) (.cons (.var 3) .nil)))) = .ok ((rngI 1 13).map fun y => cD (w, y)) := fun w => by
    refine lcM_mapI D.int _ fun y _ => ?_
    simp -implicitDefEqProofs [itemL, cD]
  have out : lcM ((rngI 1 13).map D.int) (fun d => do
      let e1 ← asgG (.name 2) d (wipeE [.val wd, .no, .no, .no, .no, .no, .no, .no] [2, 3])
      let c ← evT Φ .none e1
      if c then do
        let ss1 ← evs Φ (.cons (.lit (.int (1))) (.cons (.bin .Add (.lit (.int (12))) (.lit (.int (1)))) .nil)) e1
        let ds1 ← itS .rng2 ss1
        lcM ds1 (itemL Φ e1 [3] (.name 3) .none (.tup (.cons (.var 2) (.cons (.var 3) .nil))))
      else .ok []) = .ok (szsN.map cD) := by
    have fl := lcM_flat (g := fun d => do
      let e1 ← asgG (.name 2) d (wipeE [.val wd, .no, .no, .no, .no, .no, .no, .no] [2, 3])
      let c ← evT Φ .none e1
      if c then do
        let ss1 ← evs Φ (.cons (.lit (.int (1))) (.cons (.bin .Add (.lit (.int (12))) (.lit (.int (1)))) .nil)) e1
        let ds1 ← itS .rng2 ss1
        lcM ds1 (itemL Φ e1 [3] (.name 3) .none (.tup (.cons (.var 2) (.cons (.var 3) .nil))))
      else .ok []) (fun d => match d with
        | .int w => (rngI 1 13).map fun y => cD (w, y)
        | _ => []) (ds := (rngI 1 13).map D.int) (fun d hd => by
      obtain ⟨w, _, rfl⟩ := List.mem_map.mp hd
      have i := inn w
      clear hd
      generalize (rngI 1 13).map D.int = r1 at *
      have i : ∀ r2, r2 = (rngI 1 13).map (fun y => cD (w, y)) → lcM r1 (itemL Φ [.val wd, .no, .val (.int w), .no, .no, .no, .no, .no] [3] (.name 3) .none (.tup (.cons (.var 2) (.cons (.var 3) .nil)))) = .ok r2 := fun r2 e => by rw [e]; exact i
      have i := i _ rfl
      show _ = R.ok ((rngI 1 13).map fun y => cD (w, y))
      generalize (rngI 1 13).map (fun y => cD (w, y)) = r2 at *
      simp -implicitDefEqProofs [r13, i])
    rw [fl]
    congr 1
  have ft : fitL (szsN.map cD) D.lst = .ok (.lst (szsN.map cD)) := fit_le (by decide +kernel)
  rw [ev_lc2]
  have es : evs Φ (.cons (.lit (.int (1))) (.cons (.bin .Add (.lit (.int (12))) (.lit (.int (1)))) .nil)) [.val wd, .no, .no, .no, .no, .no, .no, .no] = .ok [.int 1, .int (12 + 1)] := rfl
  rw [es, bind_ok, r, bind_ok, out]
  exact ft
theorem largest_free_ok {ws : List Wn} (h : ∀ w ∈ ws, w.ok) (hl : ws.length ≤ 6) : r_largest_free_k58.sem [wsD ws] = .ok (oW (lfN ws)) := by
  have a := chkw h hl
  have sv := sizes_val (phi Γf) (wsD ws)
  have hall : (szsN.map cD).all isPrS = true := by decide +kernel
  have srt : sortKS (.lst (szsN.map cD)) = .ok (.lst (srtN.map cD)) := by
    have q : sortKS (.lst (szsN.map cD)) = if (szsN.map cD).all isPrS then .ok (.lst (sortK (szsN.map cD))) else .bad := rfl
    rw [q, if_pos hall, sortK_cD]
    rfl
  have lp := loop58 (ws := ws) (.val (.lst (szsN.map cD))) .no .no srtN none .no .no .no (fun p hp => mem_srtN.mp hp)
  have e : optD none = .non := rfl
  rw [e] at lp
  have hs : ∀ ds, r_largest_free_k58.sem ds = ansF (preF (phi Γf) (srtF (phi Γf) 1 (.name 5) irb_largest_free_k58 irp_largest_free_k58) pre_largest_free_k58 (ds.map Slot.val ++ List.replicate (8 - ds.length) .no)) := fun _ => rfl
  rw [hs]
  have s1 : xs (phi Γf) (.expr (.call 0 (.cons (.var 0) .nil))) [.val (wsD ws), .no, .no, .no, .no, .no, .no, .no] = .ok (.nx [.val (wsD ws), .no, .no, .no, .no, .no, .no, .no]) := by
    generalize wsD ws = wd at *
    simp -implicitDefEqProofs [a]
  show ansF (andThen (xs (phi Γf) (.expr (.call 0 (.cons (.var 0) .nil))) [.val (wsD ws), .no, .no, .no, .no, .no, .no, .no]) (preF (phi Γf) _ _)) = _
  rw [s1, andThen_nx]
  show ansF (andThen (xs (phi Γf) (.asg (.name 1) _) _) (preF (phi Γf) _ _)) = _
  rw [xs_asg, sv, lift_ok, asgG_name, lift_ok, andThen_nx]
  show ansF (andThen (xs (phi Γf) (.asg (.name 4) (.lit .non)) [.val (wsD ws), .val (.lst (szsN.map cD)), .no, .no, .no, .no, .no, .no]) (preF (phi Γf) _ [])) = _
  rw [xs_asg, ev_lit, lift_ok, asgG_name, lift_ok, andThen_nx]
  show ansF (srtF (phi Γf) 1 (.name 5) irb_largest_free_k58 irp_largest_free_k58 [.val (wsD ws), .val (.lst (szsN.map cD)), .no, .no, .val .non, .no, .no, .no]) = _
  unfold srtF
  have src : (do let x ← ev (phi Γf) (.var 1) [.val (wsD ws), .val (.lst (szsN.map cD)), .no, .no, .val .non, .no, .no, .no]; let y ← sortKS x; itS .seq [y]) = .ok (srtN.map cD) := by
    show (do let y ← sortKS (.lst (szsN.map cD)); itS .seq [y]) = _
    rw [srt]
    rfl
  rw [src, lift_ok]
  have lp2 : andThen (forM (fun d e1 => lift (asgG (.name 5) d e1) e1 fun e2 => xss (phi Γf) irb_largest_free_k58 e2) (srtN.map cD) [.val (wsD ws), .val (.lst (szsN.map cD)), .no, .no, .val .non, .no, .no, .no]) (xss (phi Γf) irp_largest_free_k58) = .ok (.rt (oW (lfL ws srtN none))) := lp
  rw [lp2]
  rfl
end Pan
namespace Pan
open PySem L2
theorem srt_wD {l : List Wn} (h : l.Pairwise fun u v => wlt u v = true) : SrtO.Srtd ltD (l.map wD) := by
  unfold SrtO.Srtd
  rw [List.pairwise_map]
  refine h.imp fun {u v} z => ?_
  show wlt v u = false
  rw [wlt_ff]
  rw [wlt_iff] at z
  omega
theorem wlt_nodup {l : List Wn} (h : l.Pairwise fun u v => wlt u v = true) : l.Nodup := h.imp fun {u v} z e => by
  subst e
  rw [wlt_iff] at z
  omega
theorem wD_inj {u v : Wn} (h : wD u = wD v) : u = v := by
  unfold wD at h
  injection h with h
  injection h with h1 h
  injection h with h2 h
  injection h with h3 h
  injection h with h4 h
  injection h1 with h1
  injection h2 with h2
  injection h3 with h3
  injection h4 with h4
  exact wn_eq h1 h2 h3 h4
theorem isTup_wDs (l : List Wn) : (l.map wD).all isTupI = true := by
  rw [List.all_map, List.all_eq_true]
  intro x _
  rfl
theorem nodup_wD {l : List Wn} (h : l.Nodup) : (l.map wD).Nodup := List.pairwise_map.mpr (h.imp fun a e => a (wD_inj e))
theorem dedup_wD {l : List Wn} (h : l.Nodup) : (l.map wD).Perm (dedupD (l.map wD) []) := by
  obtain ⟨a, b⟩ := dedup_spec (all := l.map wD) (fun x hx y hy => by
    obtain ⟨u, _, rfl⟩ := List.mem_map.mp hx
    obtain ⟨v, _, rfl⟩ := List.mem_map.mp hy
    exact eqv_tupI [u.l, u.t, u.r, u.b] [v.l, v.t, v.r, v.b]) (l.map wD) [] (fun x hx => hx) (fun x hx => by cases hx) List.nodup_nil
  refine (List.perm_ext_iff_of_nodup (nodup_wD h) a).mpr fun x => ?_
  rw [b x]
  simp
theorem sset_wD {l : List Wn} (h : l.Pairwise fun u v => wlt u v = true) (hl : l.length ≤ 200) : biS .sortset [.lst (l.map wD)] = .ok (.lst (l.map wD)) := by
  have pm := dedup_wD (wlt_nodup h)
  have ln := pm.length_eq
  rw [List.length_map] at ln
  have st : setable (l.map wD) = true := by
    unfold setable
    rw [Bool.or_eq_true]
    right
    rw [Bool.and_eq_true, Bool.or_eq_true]
    exact ⟨isTup_wDs l, .inr (decide_eq_true (by omega))⟩
  have all : (dedupD (l.map wD) []).all isTupI = true := List.all_eq_true.mpr fun d hd => List.all_eq_true.mp (isTup_wDs l) d (pm.mem_iff.mpr hd)
  have so : sortable (dedupD (l.map wD) []) = true := by
    unfold sortable
    rw [Bool.or_eq_true, Bool.or_eq_true]
    exact .inr (.inl all)
  have q : biS .sortset [.lst (l.map wD)] = if setable (l.map wD) then sortS (dedupD (l.map wD) []) else .bad := rfl
  have q2 : sortS (dedupD (l.map wD) []) = if sortable (dedupD (l.map wD) []) then .ok (.lst (sortD (dedupD (l.map wD) []))) else .bad := rfl
  rw [q, if_pos st, q2, if_pos so, ← sortD_uniq so pm (srt_wD h)]
theorem sort_wD {l m : List Wn} (h : l.Pairwise fun u v => wlt u v = true) (p : m.Perm l) : biS .sorted [.lst (m.map wD)] = .ok (.lst (l.map wD)) := by
  have so : sortable (m.map wD) = true := by
    unfold sortable
    rw [Bool.or_eq_true, Bool.or_eq_true]
    exact .inr (.inl (isTup_wDs m))
  have q : biS .sorted [.lst (m.map wD)] = if sortable (m.map wD) then .ok (.lst (sortD (m.map wD))) else .bad := rfl
  rw [q, if_pos so, ← sortD_uniq so ((p.map wD).symm) (srt_wD h)]
theorem len_grid {α β γ : Type} (f : α → β → γ) (ys : List β) : ∀ xs : List α, (xs.flatMap fun x => ys.map fun y => f x y).length = xs.length * ys.length
  | [] => by simp
  | x :: xs => by
    rw [List.flatMap_cons, List.length_append, len_grid f ys xs, List.length_map, List.length_cons, Nat.add_mul, Nat.one_mul, Nat.add_comm]
theorem plL_len {p : Sz} (h : Szk p) : ((plL p).length : Int) = (13 - p.1) * (13 - p.2) := by
  unfold plL
  rw [len_grid, rngI_len, rngI_len]
  obtain ⟨⟨h1, h2⟩, h3, h4⟩ := h
  rw [Int.natCast_mul, Int.toNat_of_nonneg (by omega), Int.toNat_of_nonneg (by omega)]
  simp
theorem plL_le {p : Sz} (h : Szk p) : (plL p).length ≤ 144 := by
  unfold plL
  rw [len_grid, rngI_len, rngI_len]
  obtain ⟨⟨h1, h2⟩, h3, h4⟩ := h
  exact Nat.mul_le_mul (show _ ≤ 12 by omega) (show _ ≤ 12 by omega)
theorem fpN_le {ws : List Wn} {p : Sz} (h : Szk p) : (fpN ws p).length ≤ 144 := Nat.le_trans (List.length_filter_le ..) (plL_le h)
theorem fpN_nil (p : Sz) : fpN [] p = plL p := by
  unfold fpN
  exact List.filter_eq_self.mpr fun v _ => rfl
theorem frB_iff {ws : List Wn} {v : Wn} : frB ws v = true ↔ ∀ w ∈ ws, mtB w v = false := by
  unfold frB
  rw [Bool.not_eq_true', List.any_eq_false]
  constructor
  · intro h w hw
    simpa using h w hw
  · intro h w hw
    simp [h w hw]
theorem frB_sub {ws us : List Wn} (hs : ∀ w ∈ us, w ∈ ws) {v : Wn} (h : frB ws v = true) : frB us v = true := frB_iff.mpr fun w hw => frB_iff.mp h w (hs w hw)
theorem fpN_mem {ws : List Wn} {p : Sz} {v : Wn} : v ∈ fpN ws p ↔ v ∈ plL p ∧ frB ws v = true := List.mem_filter
theorem fpN_ok {ws : List Wn} {p : Sz} (h : Szk p) {v : Wn} (hv : v ∈ fpN ws p) : v.ok := plL_ok h (fpN_mem.mp hv).1
theorem fpN_more (ws us : List Wn) (hs : ∀ w ∈ us, w ∈ ws) (p : Sz) : (fpN ws p).length ≤ (fpN us p).length := by
  unfold fpN
  rw [← List.countP_eq_length_filter, ← List.countP_eq_length_filter]
  exact List.countP_mono_left fun v _ h => frB_sub hs h
/-- a window inside a free one is free -/
theorem free_in {ws : List Wn} {u v : Wn} (hs : ∀ x y, u.has x y = true → v.has x y = true) (h : frB ws v = true) : frB ws u = true := frB_iff.mpr fun w hw => by
  have := frB_iff.mp h w hw
  cases hm : mtB w u with
  | false => rfl
  | true =>
    obtain ⟨x, y, h1, h2⟩ := mtB_iff.mp hm
    rw [mtB_iff.mpr ⟨x, y, h1, hs x y h2⟩] at this
    cases this
theorem has_iff {w : Wn} {x y : Int} : w.has x y = true ↔ w.l ≤ x ∧ x < w.r ∧ w.t ≤ y ∧ y < w.b := by
  unfold Wn.has
  simp only [Bool.and_eq_true, decide_eq_true_eq]
  omega
theorem lesser {ws : List Wn} {p : Sz} (hp : 1 < p.1) (h : fpN ws p ≠ []) : fpN ws (p.1 - 1, p.2) ≠ [] := by
  obtain ⟨v, hv⟩ := List.exists_mem_of_ne_nil _ h
  obtain ⟨h1, h2⟩ := fpN_mem.mp hv
  obtain ⟨g1, g2, g3, g4⟩ := mem_plL.mp h1
  refine List.ne_nil_of_mem (a := ⟨v.l, v.t, v.r - 1, v.b⟩) (fpN_mem.mpr ⟨mem_plL.mpr ⟨?_, ?_, ?_, ?_⟩, free_in (v := v) (fun x y hx => ?_) h2⟩)
  · show 0 ≤ v.l ∧ v.l < 13 - (p.1 - 1); omega
  · exact g2
  · show v.r - 1 = v.l + (p.1 - 1); omega
  · exact g4
  · rw [has_iff] at hx ⊢
    dsimp only at hx
    omega
def cvN (ws : List Wn) : Nat := (grid.filter fun p => ws.any fun w => w.has p.1 p.2).length
theorem filter_or {α : Type} (f g : α → Bool) : ∀ l : List α, (∀ x ∈ l, ¬ (f x = true ∧ g x = true)) → (l.filter fun x => f x || g x).length = (l.filter f).length + (l.filter g).length
  | [], _ => rfl
  | x :: l, h => by
    have ih := filter_or f g l fun y hy => h y (List.mem_cons_of_mem _ hy)
    have hx := h x List.mem_cons_self
    rw [List.filter_cons, List.filter_cons, List.filter_cons]
    cases hf : f x <;> cases hg : g x <;> simp_all <;> omega
theorem cvN_add {ws : List Wn} {v : Wn} (hv : v.ok) (hf : frB ws v = true) : (cvN (ws ++ [v]) : Int) = cvN ws + (v.r - v.l) * (v.b - v.t) := by
  have e : cvN (ws ++ [v]) = cvN ws + (grid.filter fun p => v.has p.1 p.2).length := by
    unfold cvN
    have e1 : (fun p : Int × Int => (ws ++ [v]).any fun w => w.has p.1 p.2) = fun p => (ws.any fun w => w.has p.1 p.2) || v.has p.1 p.2 := by
      funext p
      simp
    rw [e1]
    refine filter_or _ _ _ fun p _ ⟨h1, h2⟩ => ?_
    obtain ⟨w, hw, h3⟩ := List.any_eq_true.mp h1
    have := frB_iff.mp hf w hw
    rw [mtB_iff.mpr ⟨_, _, h3, h2⟩] at this
    cases this
  rw [e, Int.natCast_add, grid_size hv]
theorem cvN_full {ws : List Wn} : cvN ws = 144 ↔ ∀ x y : Int, 0 ≤ x → x < 12 → 0 ≤ y → y < 12 → ∃ w ∈ ws, w.has x y = true := by
  unfold cvN
  have gl := grid_len
  constructor
  · intro h x y h1 h2 h3 h4
    have hm : (x, y) ∈ grid := mem_grid.mpr ⟨⟨h1, h2⟩, h3, h4⟩
    have := (List.length_filter_eq_length_iff (p := fun p : Int × Int => ws.any fun w => w.has p.1 p.2) (l := grid)).mp (by rw [h, gl]) (x, y) hm
    exact List.any_eq_true.mp this
  · intro h
    rw [← gl]
    refine List.length_filter_eq_length_iff.mpr fun p hp => ?_
    obtain ⟨⟨h1, h2⟩, h3, h4⟩ := mem_grid.mp hp
    exact List.any_eq_true.mpr (h p.1 p.2 h1 h2 h3 h4)
theorem lf_none {ws : List Wn} (hw : ∀ w ∈ ws, w.ok) : lfN ws = none ↔ cvN ws = 144 := by
  have B := lfN_best ws
  rw [cvN_full]
  constructor
  · intro h x y h1 h2 h3 h4
    have e := B.no h (1, 1) (mem_srtN.mpr ⟨⟨by decide, by decide⟩, by decide, by decide⟩)
    have hp : plW (1, 1) x y ∈ plL (1, 1) := mem_plL.mpr ⟨⟨h1, show x < 13 - 1 by omega⟩, ⟨h3, show y < 13 - 1 by omega⟩, rfl, rfl⟩
    cases hf : frB ws (plW (1, 1) x y) with
    | true =>
      have := fpN_mem.mpr ⟨hp, hf⟩
      rw [e] at this
      cases this
    | false =>
      have hf : ¬ ∀ w ∈ ws, mtB w (plW (1, 1) x y) = false := fun z => by rw [frB_iff.mpr z] at hf; cases hf
      obtain ⟨w, hw⟩ := Classical.not_forall.mp hf
      obtain ⟨hm, hw⟩ := Classical.not_imp.mp hw
      have hw : mtB w (plW (1, 1) x y) = true := by simpa using hw
      obtain ⟨x', y', g1, g2⟩ := mtB_iff.mp hw
      rw [has_iff] at g2
      have g2 : x ≤ x' ∧ x' < x + 1 ∧ y ≤ y' ∧ y' < y + 1 := g2
      have ex : x' = x := by omega
      have ey : y' = y := by omega
      rw [ex, ey] at g1
      exact ⟨w, hm, g1⟩
  · intro h
    cases hl : lfN ws with
    | none => rfl
    | some v =>
      obtain ⟨p, hp, hv, _⟩ := B.yes v hl
      have sz := mem_srtN.mp hp
      obtain ⟨k1, k2, k3, k4, k5, k6⟩ := fpN_ok sz hv
      have fr := (fpN_mem.mp hv).2
      obtain ⟨w, hm, hh⟩ := h v.l v.t k1 (by omega) k4 (by omega)
      have := frB_iff.mp fr w hm
      rw [mtB_iff.mpr ⟨v.l, v.t, hh, has_iff.mpr ⟨Int.le_refl _, k2, Int.le_refl _, k5⟩⟩] at this
      cases this
theorem fpN_cells {ws : List Wn} {p : Sz} {v : Wn} (hv : v ∈ fpN ws p) : (v.r - v.l, v.b - v.t) = p := by
  obtain ⟨_, _, h3, h4⟩ := mem_plL.mp (fpN_mem.mp hv).1
  have e1 : v.r - v.l = p.1 := by omega
  have e2 : v.b - v.t = p.2 := by omega
  rw [e1, e2]
/-- what is told of it -/
theorem lf_some {ws : List Wn} {v : Wn} (h : lfN ws = some v) : v.ok ∧ frB ws v = true ∧ Szk (v.r - v.l, v.b - v.t) ∧ (fpN ws (v.r - v.l, v.b - v.t)).head? = some v ∧ ∀ q, Szk q → ∀ u ∈ fpN ws q, cl_ q ≤ (v.r - v.l) * (v.b - v.t) ∧ (cl_ q = (v.r - v.l) * (v.b - v.t) → wlt u v = false) := by
  obtain ⟨p, hp, hv, ha⟩ := (lfN_best ws).yes v h
  have sz := mem_srtN.mp hp
  have ep := fpN_cells hv
  have ec : cl_ p = (v.r - v.l) * (v.b - v.t) := by rw [← ep]; rfl
  refine ⟨fpN_ok sz hv, (fpN_mem.mp hv).2, by rw [ep]; exact sz, ?_, fun q hq u hu => ?_⟩
  · rw [ep]
    cases hh : (fpN ws p).head? with
    | none => rw [List.head?_eq_none_iff.mp hh] at hv; cases hv
    | some u =>
      have h1 := head_least (fpN_srt ws p) hh hv
      have h2 := (ha p hp u (List.mem_of_mem_head? (by rw [hh]; rfl))).2 rfl
      rw [wlt_ff] at h1 h2
      have : u = v := wn_eq (by omega) (by omega) (by omega) (by omega)
      rw [this]
  · rw [← ec]
    exact ha q (mem_srtN.mpr hq) u hu
end Pan
namespace Pan
open PySem L2
theorem okd_wL (n : Nat) (l : List Wn) : okd (n + 2) (.lst (l.map wD)) = true := by
  unfold okd
  rw [List.all_map, List.all_eq_true]
  intro x _
  simp [wD, okd]
theorem ne_emp (l : List Wn) : cmpS .NotEq (.lst (l.map wD)) (.lst []) = .ok (!l.isEmpty) := by
  rw [ne_lst (okd_wL 6 l) rfl]
  cases l <;> rfl
theorem eq_emp (l : List Wn) : cmpS .Eq (.lst (l.map wD)) (.lst []) = .ok l.isEmpty := by
  rw [eq_lst (okd_wL 6 l) rfl]
  cases l <;> rfl
theorem ne_selfW (l : List Wn) : cmpS .NotEq (.lst (l.map wD)) (.lst (l.map wD)) = .ok false := by
  rw [ne_lst (okd_wL 6 l) (okd_wL 6 l)]
  have : ∀ l : List Wn, eqvs (l.map wD) (l.map wD) = true := fun l => by
    induction l with
    | nil => rfl
    | cons v l ih =>
      show (eqv (wD v) (wD v) && eqvs (l.map wD) (l.map wD)) = true
      rw [ih]
      simp [wD, eqv, eqvs]
  rw [this]
  rfl
theorem ne_selfV (v : Wn) : cmpS .NotEq (wD v) (wD v) = .ok false := by
  have q : cmpS .NotEq (wD v) (wD v) = .ok (!eqv (wD v) (wD v)) := rfl
  rw [q]
  simp [wD, eqv, eqvs]
theorem ix_hd0 {l : List Wn} {v : Wn} (h : l.head? = some v) : ixS (.lst (l.map wD)) (.int 0) = .ok (wD v) := by
  cases l with
  | nil => cases h
  | cons u l => cases h; exact ix_lst (k := 0) rfl
abbrev Γb : List FnR := [r_largest_free_k58, r_size, r_covered, r_places, r_overlap]
abbrev bF : Ss := .cons (.ret (.lit (.bl false))) .nil
def lbCond : E := .and (.cons (.cmp .NotEq (.var 7) (.lst .nil)) (.cons (.cmp .Lt (.ix (.var 7) (.lit (.int (0)))) (.var 3)) .nil))
abbrev bTurn : Ss := .cons (.ife (.and (.cons (.cmp .Eq (.bin .Mod (.var 5) (.var 6)) (.lit (.int (0)))) (.cons (.cmp .LtE (.bin .FloorDiv (.var 5) (.var 6)) (.lit (.int (12)))) .nil))) (.cons (.asg (.name 7) (.call 3 (.cons (.var 0) (.cons (.tup (.cons (.var 6) (.cons (.bin .FloorDiv (.var 5) (.var 6)) .nil))) .nil)))) (.cons (.ife lbCond bF .nil) .nil)) .nil) .nil
abbrev bS1 : S := .asg (.name 3) (.call 0 (.cons (.var 0) .nil))
abbrev bS2 : S := .ife (.cmp .NotEq (.cmp .Is (.var 3) (.lit .non)) (.cmp .Eq (.call 2 (.cons (.var 0) .nil)) (.lit (.int (144))))) bF .nil
abbrev bA : S := .ife (.cmp .NotEq (.lc [4] (.name 4) .seq (.cons (.var 0) .nil) (.some (.cmp .IsNot (.call 4 (.cons (.var 4) (.cons (.var 3) .nil))) (.lit .non))) (.var 4)) (.lst .nil)) bF .nil
abbrev bB : S := .ife (.and (.cons (.cmp .NotEq (.var 1) (.lst .nil)) (.cons (.cmp .Lt (.call 1 (.cons (.var 3) .nil)) (.var 2)) .nil))) bF .nil
abbrev bC : S := .ife (.and (.cons (.cmp .NotEq (.var 1) (.lst .nil)) (.cons (.cmp .Eq (.call 1 (.cons (.var 3) .nil)) (.var 2)) (.cons (.cmp .Lt (.ix (.var 1) (.lit (.int (0)))) (.var 3)) .nil)))) bF .nil
abbrev bD : S := .ife (.cmp .NotEq (.ix (.call 3 (.cons (.var 0) (.cons (.tup (.cons (.bin .Sub (.ix (.var 3) (.lit (.int (2)))) (.ix (.var 3) (.lit (.int (0))))) (.cons (.bin .Sub (.ix (.var 3) (.lit (.int (3)))) (.ix (.var 3) (.lit (.int (1))))) .nil))) .nil))) (.lit (.int (0)))) (.var 3)) bF .nil
abbrev bE : S := .asg (.name 5) (.call 1 (.cons (.var 3) .nil))
abbrev bL : S := .for_ (.name 6) .rng2 (.cons (.lit (.int (1))) (.cons (.lit (.int (13))) .nil)) bTurn
def bBlk : Ss := .cons bA (.cons bB (.cons bC (.cons bD (.cons bE (.cons bL .nil)))))
abbrev bS3 : S := .ife (.cmp .IsNot (.var 3) (.lit .non)) bBlk .nil
theorem best_eq : ir__law_best_k58 = .cons bS1 (.cons bS2 (.cons bS3 (.cons (.ret (.lit (.bl true))) .nil))) := rfl
section
variable {ws : List Wn} (h : ∀ w ∈ ws, w.ok) (hl : ws.length ≤ 6) {p : Sz} (hp : Szk p)
include h hl hp
theorem bLoop {v : Wn} (hv : lfN ws = some v) (s1 s2 s4 s6 s7 : Slot) : ∃ t6 t7, xs (phi Γb) bL [.val (wsD ws), s1, s2, .val (wD v), s4, .val (.int ((v.r - v.l) * (v.b - v.t))), s6, s7] = .ok (.nx [.val (wsD ws), s1, s2, .val (wD v), s4, .val (.int ((v.r - v.l) * (v.b - v.t))), t6, t7]) := by
  obtain ⟨ok, fr, sz, hd, all⟩ := lf_some hv
  generalize hm : (v.r - v.l) * (v.b - v.t) = m at *
  have mpos : 1 ≤ m := by
    rw [← hm]
    obtain ⟨⟨a1, a2⟩, a3, a4⟩ := sz
    exact Int.le_trans (by decide) (Int.mul_le_mul a1 a3 (by decide) (by omega))
  have r : itS .rng2 [.int 1, .int 13] = .ok ((rngI 1 13).map .int) := by rw [rng2_ok (by omega) (by omega) (by omega), rangeD_rngI]
  have es : evs (phi Γb) (.cons (.lit (.int (1))) (.cons (.lit (.int (13))) .nil)) [.val (wsD ws), s1, s2, .val (wD v), s4, .val (.int m), s6, s7] = .ok [.int 1, .int 13] := rfl
  rw [xs_for, es, lift_ok, r, lift_ok]
  obtain ⟨e', q, t6, t7, rfl⟩ := forM_keep (f := turnF (phi Γb) (.name 6) bTurn) (fun e => ∃ t6 t7, e = [.val (wsD ws), s1, s2, .val (wD v), s4, .val (.int m), t6, t7]) (ds := (rngI 1 13).map D.int) (e := [.val (wsD ws), s1, s2, .val (wD v), s4, .val (.int m), s6, s7]) (fun d hd e he => by
    obtain ⟨w, hw, rfl⟩ := List.mem_map.mp hd
    obtain ⟨t6, t7, rfl⟩ := he
    rw [mem_rngI] at hw
    have md : binS .Mod (.int m) (.int w) = .ok (.int (m % w)) := mod_int (by omega)
    have dv : binS .FloorDiv (.int m) (.int w) = .ok (.int (m / w)) := div_int (by omega)
    by_cases c1 : m % w = 0
    · by_cases c2 : m / w ≤ 12
      · have h1 : 1 ≤ m / w := by
          have := Int.mul_ediv_add_emod m w
          rw [c1, Int.add_zero] at this
          rcases Int.lt_or_le 0 (m / w) with z | z
          · omega
          · have : w * (m / w) ≤ 0 := Int.mul_nonpos_of_nonneg_of_nonpos (by omega) z
            omega
        have sq : Szk (w, m / w) := ⟨⟨hw.1, by show w ≤ 12; omega⟩, h1, c2⟩
        have pl := places_ok h hl sq
        have pl : r_places.sem [wsD ws, .tup [.int w, .int (m / w)]] = .ok (.lst ((fpN ws (w, m / w)).map wD)) := pl
        have cm : cl_ (w, m / w) = m := by
          show w * (m / w) = m
          have := Int.mul_ediv_add_emod m w
          omega
        have e1 : (m % w == 0) = true := by rw [c1]; rfl
        have e2 : decide (m / w ≤ 12) = true := decide_eq_true c2
        have ne := ne_emp (fpN ws (w, m / w))
        have cond : ev (phi Γb) lbCond [.val (wsD ws), s1, s2, .val (wD v), s4, .val (.int m), .val (.int w), .val (.lst ((fpN ws (w, m / w)).map wD))] = .ok (.bl false) := by
          cases hh : (fpN ws (w, m / w)).head? with
          | none =>
            rw [List.head?_eq_none_iff.mp hh] at ne ⊢
            have ne : cmpS .NotEq (.lst (([] : List Wn).map wD)) (.lst []) = .ok false := ne
            generalize D.lst (([] : List Wn).map wD) = fe at *
            clear pl md dv es all fr ok
            generalize wD v = vd at *
            generalize wsD ws = wd at *
            unfold lbCond
            simp -implicitDefEqProofs [ne]
          | some u =>
            have hx := ix_hd0 hh
            have um : u ∈ fpN ws (w, m / w) := List.mem_of_mem_head? (by rw [hh]; rfl)
            have wl := (all _ sq u um).2 cm
            have lt := lt_wD u v
            rw [wl] at lt
            have nb : (fpN ws (w, m / w)).isEmpty = false := by
              cases hz : fpN ws (w, m / w) with
              | nil => rw [hz] at um; cases um
              | cons a l => rfl
            rw [nb] at ne
            generalize (fpN ws (w, m / w)).map wD = fm at *
            clear pl md dv es all fr ok
            generalize wD v = vd at *
            generalize wD u = ud at *
            generalize wsD ws = wd at *
            unfold lbCond
            simp -implicitDefEqProofs [ne, hx, lt]
        refine ⟨_, ?_, .val (.int w), .val (.lst ((fpN ws (w, m / w)).map wD)), rfl⟩
        clear ne cm sq h1
        generalize (fpN ws (w, m / w)).map wD = fm at *
        generalize wD v = vd at *
        generalize wsD ws = wd at *
        unfold turnF
        simp -implicitDefEqProofs [md, dv, e1, e2, pl, cond]
      · have e1 : (m % w == 0) = true := by rw [c1]; rfl
        have e2 : decide (m / w ≤ 12) = false := decide_eq_false c2
        refine ⟨_, ?_, .val (.int w), t7, rfl⟩
        clear all fr ok hd hv h
        generalize wD v = vd at *
        generalize wsD ws = wd at *
        unfold turnF
        simp -implicitDefEqProofs [md, dv, e1, e2]
    · have e1 : (m % w == 0) = false := by simpa using c1
      refine ⟨_, ?_, .val (.int w), t7, rfl⟩
      clear all fr ok hd hv h
      generalize wD v = vd at *
      generalize wsD ws = wd at *
      unfold turnF
      simp -implicitDefEqProofs [md, dv, e1]) ⟨s6, s7, rfl⟩
  exact ⟨t6, t7, q⟩
theorem law_best_ok : r__law_best_k58.sem [wsD ws, .lst ((fpN ws p).map wD), .int (cl_ p)] = .ok (.bl true) := by
  have lf := largest_free_ok h hl
  have cv := covered_ok h hl
  have hs : ∀ ds, r__law_best_k58.sem ds = runF (phi Γb) 8 ir__law_best_k58 ds := fun _ => rfl
  rw [hs, runF_eq, best_eq]
  have cvq : cmpS .Eq (.int (cvN ws : Nat)) (.int 144) = .ok (decide (lfN ws = none)) := by
    have := lf_none h
    rw [eq_int]
    congr 1
    rw [Bool.eq_iff_iff, decide_eq_true_eq, this, beq_iff_eq]
    omega
  have cv : r_covered.sem [wsD ws] = .ok (.int (cvN ws : Nat)) := cv
  cases hv : lfN ws with
  | none =>
    rw [hv] at lf cvq
    have lf : r_largest_free_k58.sem [wsD ws] = .ok .non := lf
    have cvq : cmpS .Eq (.int (cvN ws : Nat)) (.int 144) = .ok true := cvq
    have i1 : cmpS .Is .non .non = .ok true := rfl
    have i2 : cmpS .IsNot .non .non = .ok false := rfl
    clear hs
    generalize (cvN ws : Int) = n at *
    generalize (fpN ws p).map wD = fm at *
    generalize wsD ws = wd at *
    simp -implicitDefEqProofs [lf, cv, cvq, i1, i2, -is_non, -isnot_non, -eq_int]
  | some v =>
    rw [hv] at lf cvq
    have lf : r_largest_free_k58.sem [wsD ws] = .ok (wD v) := lf
    have cvq : cmpS .Eq (.int (cvN ws : Nat)) (.int 144) = .ok false := cvq
    obtain ⟨ok, fr, sz, hd, all⟩ := lf_some hv
    have i1 : cmpS .Is (wD v) .non = .ok false := rfl
    have i2 : cmpS .IsNot (wD v) .non = .ok true := rfl
    have szv := size_ok ok
    have qA : ∀ s4 s5 s6 s7 : Slot, xs (phi Γb) bA [.val (wsD ws), .val (.lst ((fpN ws p).map wD)), .val (.int (cl_ p)), .val (wD v), s4, s5, s6, s7] = .ok (.nx [.val (wsD ws), .val (.lst ((fpN ws p).map wD)), .val (.int (cl_ p)), .val (wD v), s4, s5, s6, s7]) := fun s4 s5 s6 s7 => by
      have l1 : lcM (ws.map wD) (itemL (phi Γb) [.val (wsD ws), .val (.lst ((fpN ws p).map wD)), .val (.int (cl_ p)), .val (wD v), s4, s5, s6, s7] [4] (.name 4) (.some (.cmp .IsNot (.call 4 (.cons (.var 4) (.cons (.var 3) .nil))) (.lit .non))) (.var 4)) = .ok ((ws.filter fun w => mtB w v).map wD) := by
        refine lcM_filterI wD _ wD fun w hw => ?_
        have a := overlap_ok (h w hw) ok
        have b := ov_isnot w v
        generalize (if (meet w v).l < (meet w v).r ∧ (meet w v).t < (meet w v).b then wD (meet w v) else D.non) = mm at *
        generalize wD w = ud at *
        generalize wD v = vd at *
        generalize (fpN ws p).map wD = fm at *
        generalize wsD ws = um at *
        cases hb : mtB w v <;> rw [hb] at b <;> simp -implicitDefEqProofs [itemL, a, b, -isnot_non]
      have l2 : ws.filter (fun w => mtB w v) = [] := List.filter_eq_nil_iff.mpr fun w hw => by simp [frB_iff.mp fr w hw]
      rw [l2] at l1
      have ne : cmpS .NotEq (.lst (([] : List Wn).map wD)) (.lst []) = .ok false := rfl
      have sq : itS .seq [wsD ws] = .ok (ws.map wD) := rfl
      generalize (([] : List Wn).map wD) = fe at *
      generalize ws.map wD = wm at *
      generalize wD v = vd at *
      generalize (fpN ws p).map wD = fm at *
      generalize wsD ws = um at *
      simp -implicitDefEqProofs [sq, l1, ne]
    have cmpL : fpN ws p ≠ [] → ∃ u, (fpN ws p).head? = some u ∧ cl_ p ≤ (v.r - v.l) * (v.b - v.t) ∧ (cl_ p = (v.r - v.l) * (v.b - v.t) → wlt u v = false) := fun hne => by
      cases hh : (fpN ws p).head? with
      | none => exact absurd (List.head?_eq_none_iff.mp hh) hne
      | some u => exact ⟨u, rfl, all p hp u (List.mem_of_mem_head? (by rw [hh]; rfl))⟩
    have ne := ne_emp (fpN ws p)
    have qB : ∀ s4 s5 s6 s7 : Slot, xs (phi Γb) bB [.val (wsD ws), .val (.lst ((fpN ws p).map wD)), .val (.int (cl_ p)), .val (wD v), s4, s5, s6, s7] = .ok (.nx [.val (wsD ws), .val (.lst ((fpN ws p).map wD)), .val (.int (cl_ p)), .val (wD v), s4, s5, s6, s7]) := fun s4 s5 s6 s7 => by
      by_cases hne : fpN ws p = []
      · rw [hne] at ne ⊢
        have ne : cmpS .NotEq (.lst (([] : List Wn).map wD)) (.lst []) = .ok false := ne
        clear cmpL qA
        generalize (([] : List Wn).map wD) = fe at *
        generalize wD v = vd at *
        generalize wsD ws = um at *
        simp -implicitDefEqProofs [ne]
      · obtain ⟨u, hu, g1, g2⟩ := cmpL hne
        have nb : (fpN ws p).isEmpty = false := by simpa using hne
        rw [nb] at ne
        have d : decide ((v.r - v.l) * (v.b - v.t) < cl_ p) = false := decide_eq_false (by omega)
        clear cmpL qA
        generalize (v.r - v.l) * (v.b - v.t) = m at *
        generalize (fpN ws p).map wD = fm at *
        generalize wD v = vd at *
        generalize wsD ws = um at *
        simp -implicitDefEqProofs [ne, szv, d]
    have qC : ∀ s4 s5 s6 s7 : Slot, xs (phi Γb) bC [.val (wsD ws), .val (.lst ((fpN ws p).map wD)), .val (.int (cl_ p)), .val (wD v), s4, s5, s6, s7] = .ok (.nx [.val (wsD ws), .val (.lst ((fpN ws p).map wD)), .val (.int (cl_ p)), .val (wD v), s4, s5, s6, s7]) := fun s4 s5 s6 s7 => by
      by_cases hne : fpN ws p = []
      · rw [hne] at ne ⊢
        have ne : cmpS .NotEq (.lst (([] : List Wn).map wD)) (.lst []) = .ok false := ne
        clear cmpL qA qB
        generalize (([] : List Wn).map wD) = fe at *
        generalize wD v = vd at *
        generalize wsD ws = um at *
        simp -implicitDefEqProofs [ne]
      · obtain ⟨u, hu, g1, g2⟩ := cmpL hne
        have nb : (fpN ws p).isEmpty = false := by simpa using hne
        rw [nb] at ne
        have hx := ix_hd0 hu
        by_cases ec : cl_ p = (v.r - v.l) * (v.b - v.t)
        · have lt := lt_wD u v
          rw [g2 ec] at lt
          have d : ((v.r - v.l) * (v.b - v.t) == cl_ p) = true := by rw [ec]; simp
          clear cmpL qA qB ec g1 g2
          generalize (v.r - v.l) * (v.b - v.t) = m at *
          generalize (fpN ws p).map wD = fm at *
          generalize wD v = vd at *
          generalize wD u = ud at *
          generalize wsD ws = um at *
          simp -implicitDefEqProofs [ne, szv, d, hx, lt]
        · have d : ((v.r - v.l) * (v.b - v.t) == cl_ p) = false := by
            simp
            exact fun z => ec z.symm
          clear cmpL qA qB ec g1 g2
          generalize (v.r - v.l) * (v.b - v.t) = m at *
          generalize (fpN ws p).map wD = fm at *
          generalize wD v = vd at *
          generalize wsD ws = um at *
          simp -implicitDefEqProofs [ne, szv, d]
    have qD : ∀ s4 s5 s6 s7 : Slot, xs (phi Γb) bD [.val (wsD ws), .val (.lst ((fpN ws p).map wD)), .val (.int (cl_ p)), .val (wD v), s4, s5, s6, s7] = .ok (.nx [.val (wsD ws), .val (.lst ((fpN ws p).map wD)), .val (.int (cl_ p)), .val (wD v), s4, s5, s6, s7]) := fun s4 s5 s6 s7 => by
      have x0 : ixS (wD v) (.int 0) = .ok (.int v.l) := rfl
      have x1 : ixS (wD v) (.int 1) = .ok (.int v.t) := rfl
      have x2 : ixS (wD v) (.int 2) = .ok (.int v.r) := rfl
      have x3 : ixS (wD v) (.int 3) = .ok (.int v.b) := rfl
      have pl := places_ok h hl sz
      have pl : r_places.sem [wsD ws, .tup [.int (v.r - v.l), .int (v.b - v.t)]] = .ok (.lst ((fpN ws (v.r - v.l, v.b - v.t)).map wD)) := pl
      have hx := ix_hd0 hd
      have nn := ne_selfV v
      clear cmpL qA qB qC
      generalize (fpN ws (v.r - v.l, v.b - v.t)).map wD = f2 at *
      generalize (fpN ws p).map wD = fm at *
      generalize wD v = vd at *
      generalize wsD ws = um at *
      simp -implicitDefEqProofs [x0, x1, x2, x3, pl, hx, nn]
    have qE : ∀ s4 s5 s6 s7 : Slot, xs (phi Γb) bE [.val (wsD ws), .val (.lst ((fpN ws p).map wD)), .val (.int (cl_ p)), .val (wD v), s4, s5, s6, s7] = .ok (.nx [.val (wsD ws), .val (.lst ((fpN ws p).map wD)), .val (.int (cl_ p)), .val (wD v), s4, .val (.int ((v.r - v.l) * (v.b - v.t))), s6, s7]) := fun s4 s5 s6 s7 => by
      clear cmpL qA qB qC qD
      generalize (v.r - v.l) * (v.b - v.t) = m at *
      generalize (fpN ws p).map wD = fm at *
      generalize wD v = vd at *
      generalize wsD ws = um at *
      simp -implicitDefEqProofs [szv]
    obtain ⟨t6, t7, qL⟩ := bLoop h hl hp hv (.val (.lst ((fpN ws p).map wD))) (.val (.int (cl_ p))) .no .no .no
    have blk : xss (phi Γb) bBlk [.val (wsD ws), .val (.lst ((fpN ws p).map wD)), .val (.int (cl_ p)), .val (wD v), .no, .no, .no, .no] = .ok (.nx [.val (wsD ws), .val (.lst ((fpN ws p).map wD)), .val (.int (cl_ p)), .val (wD v), .no, .val (.int ((v.r - v.l) * (v.b - v.t))), t6, t7]) := by
      unfold bBlk
      rw [xss_cons, qA, andThen_nx, xss_cons, qB, andThen_nx, xss_cons, qC, andThen_nx, xss_cons, qD, andThen_nx, xss_cons, qE, andThen_nx, xss_cons, qL, andThen_nx, xss_nil]
    clear hs cmpL qA qB qC qD qE qL
    generalize (v.r - v.l) * (v.b - v.t) = m at *
    generalize (cvN ws : Int) = n at *
    generalize (fpN ws p).map wD = fm at *
    generalize wD v = vd at *
    generalize wsD ws = wd at *
    simp -implicitDefEqProofs [lf, cv, cvq, i1, i2, blk, -is_non, -isnot_non, -eq_int]
end
end Pan
namespace Pan
open PySem L2
abbrev wS0 : S := .asg (.name 1) (.call 0 (.cons (.var 0) (.cons (.lit (.int (10))) (.cons (.lit (.int (4))) .nil))))
abbrev wS1 : S := .par [false, false] [2, 3] (.cons (.bin .Add (.lit (.int (1))) (.call 4 (.cons (.var 0) (.cons (.lit (.int (1))) (.cons (.lit (.int (9))) .nil))))) (.cons (.bin .Add (.lit (.int (1))) (.call 4 (.cons (.var 0) (.cons (.lit (.int (2))) (.cons (.lit (.int (9))) .nil))))) .nil))
abbrev wS2 : S := .asg (.name 4) (.call 1 (.cons (.var 1) (.cons (.tup (.cons (.var 2) (.cons (.var 3) .nil))) .nil)))
abbrev wS3 : S := .ife (.cmp .NotEq (.var 4) (.bi .sortset (.cons (.var 4) .nil))) (.cons (.ret (.lit (.bl false))) .nil) .nil
abbrev wS4 : S := .ife (.cmp .NotEq (.lc [5] (.name 5) .seq (.cons (.var 4) .nil) (.some (.cmp .NotEq (.call 8 (.cons (.var 5) .nil)) (.bin .Mult (.var 2) (.var 3)))) (.var 5)) (.lst .nil)) (.cons (.ret (.lit (.bl false))) .nil) .nil
abbrev wB5 : Ss := .cons (.ife (.cmp .NotEq (.lc [6] (.name 6) .seq (.cons (.var 1) .nil) (.some (.cmp .IsNot (.call 9 (.cons (.var 6) (.cons (.var 5) .nil))) (.lit .non))) (.var 6)) (.lst .nil)) (.cons (.ret (.lit (.bl false))) .nil) .nil) (.cons (.ife (.cmp .NotEq (.call 5 (.cons (.bin .Add (.var 1) (.tup (.cons (.var 5) .nil))) .nil)) (.bin .Add (.call 5 (.cons (.var 1) .nil)) (.bin .Mult (.var 2) (.var 3)))) (.cons (.ret (.lit (.bl false))) .nil) .nil) .nil)
abbrev wS5 : S := .for_ (.name 5) .seq (.cons (.sl (.var 4) .none (.some (.lit (.int (6))))) .nil) wB5
abbrev wS6 : S := .ife (.cmp .NotEq (.cmp .Is (.call 6 (.cons (.var 1) (.cons (.lst (.cons (.tup (.cons (.var 2) (.cons (.var 3) .nil))) .nil)) .nil))) (.lit .non)) (.cmp .Eq (.var 4) (.lst .nil))) (.cons (.ret (.lit (.bl false))) .nil) .nil
abbrev wS7 : S := .ife (.and (.cons (.cmp .NotEq (.var 4) (.lst .nil)) (.cons (.cmp .IsNot (.call 7 (.cons (.var 1) (.cons (.lst (.cons (.tup (.cons (.var 2) (.cons (.var 3) .nil))) .nil)) (.cons (.tup (.cons (.ix (.var 4) (.neg (.lit (.int (1))))) .nil)) .nil)))) (.lit (.bl true))) .nil))) (.cons (.ret (.lit (.bl false))) .nil) .nil
abbrev wS8 : S := .ife (.cmp .Lt (.bi .len (.cons (.call 1 (.cons (.sl (.var 1) (.some (.lit (.int (1)))) .none) (.cons (.tup (.cons (.var 2) (.cons (.var 3) .nil))) .nil))) .nil)) (.bi .len (.cons (.var 4) .nil))) (.cons (.ret (.lit (.bl false))) .nil) .nil
abbrev wS9 : S := .ife (.cmp .NotEq (.bi .len (.cons (.call 1 (.cons (.tup .nil) (.cons (.tup (.cons (.var 2) (.cons (.var 3) .nil))) .nil))) .nil)) (.bin .Mult (.bin .Sub (.lit (.int (13))) (.var 2)) (.bin .Sub (.lit (.int (13))) (.var 3)))) (.cons (.ret (.lit (.bl false))) .nil) .nil
abbrev wS10 : S := .ife (.and (.cons (.cmp .Gt (.var 2) (.lit (.int (1)))) (.cons (.cmp .NotEq (.var 4) (.lst .nil)) (.cons (.cmp .Eq (.call 1 (.cons (.var 1) (.cons (.tup (.cons (.bin .Sub (.var 2) (.lit (.int (1)))) (.cons (.var 3) .nil))) .nil))) (.lst .nil)) .nil)))) (.cons (.ret (.lit (.bl false))) .nil) .nil
abbrev wS11 : S := .asg (.name 7) (.bi .tuple (.cons (.lc [8, 9, 10, 11] (.tup [8, 9, 10, 11]) .seq (.cons (.var 1) .nil) .none (.tup (.cons (.var 9) (.cons (.var 8) (.cons (.var 11) (.cons (.var 10) .nil)))))) .nil))
abbrev wS12 : S := .asg (.name 12) (.lc [8, 9, 10, 11] (.tup [8, 9, 10, 11]) .seq (.cons (.call 1 (.cons (.var 7) (.cons (.tup (.cons (.var 3) (.cons (.var 2) .nil))) .nil))) .nil) .none (.tup (.cons (.var 9) (.cons (.var 8) (.cons (.var 11) (.cons (.var 10) .nil))))))
abbrev wS13 : S := .ife (.cmp .NotEq (.bi .sorted (.cons (.var 12) .nil)) (.var 4)) (.cons (.ret (.lit (.bl false))) .nil) .nil
abbrev wS14 : S := .ife (.not (.call 2 (.cons (.var 1) (.cons (.var 4) (.cons (.bin .Mult (.var 2) (.var 3)) .nil))))) (.cons (.ret (.lit (.bl false))) .nil) .nil
abbrev wS15 : S := .ife (.cmp .NotEq (.call 3 (.cons (.tup (.cons (.tup (.cons (.lit (.int (0))) (.cons (.lit (.int (0))) (.cons (.lit (.int (12))) (.cons (.lit (.int (6))) .nil))))) (.cons (.tup (.cons (.lit (.int (0))) (.cons (.lit (.int (6))) (.cons (.lit (.int (6))) (.cons (.lit (.int (12))) .nil))))) .nil))) .nil)) (.tup (.cons (.lit (.int (6))) (.cons (.lit (.int (6))) (.cons (.lit (.int (12))) (.cons (.lit (.int (12))) .nil)))))) (.cons (.ret (.lit (.bl false))) .nil) .nil
abbrev wS16 : S := .ife (.cmp .NotEq (.call 3 (.cons (.tup .nil) .nil)) (.tup (.cons (.lit (.int (0))) (.cons (.lit (.int (0))) (.cons (.lit (.int (12))) (.cons (.lit (.int (12))) .nil)))))) (.cons (.ret (.lit (.bl false))) .nil) .nil
abbrev wS17 : S := .ret (.and (.cons (.cmp .Is (.call 6 (.cons (.tup .nil) (.cons (.lst (.cons (.tup (.cons (.lit (.int (12))) (.cons (.lit (.int (6))) .nil))) (.cons (.tup (.cons (.lit (.int (12))) (.cons (.lit (.int (7))) .nil))) .nil))) .nil))) (.lit .non)) (.cons (.cmp .Eq (.call 6 (.cons (.tup (.cons (.tup (.cons (.lit (.int (0))) (.cons (.lit (.int (0))) (.cons (.lit (.int (12))) (.cons (.lit (.int (12))) .nil))))) .nil)) (.cons (.lst .nil) .nil))) (.tup .nil)) .nil)))
theorem law58_eq : ir_law_k58 = (.cons wS0 (.cons wS1 (.cons wS2 (.cons wS3 (.cons wS4 (.cons wS5 (.cons wS6 (.cons wS7 (.cons wS8 (.cons wS9 (.cons wS10 (.cons wS11 (.cons wS12 (.cons wS13 (.cons wS14 (.cons wS15 (.cons wS16 (.cons wS17 .nil)))))))))))))))))) := rfl
end Pan
namespace Pan
open PySem L2
def trW (v : Wn) : Wn := ⟨v.t, v.l, v.b, v.r⟩
theorem trW_tr (v : Wn) : trW (trW v) = v := rfl
theorem trW_ok {v : Wn} (h : v.ok) : (trW v).ok := by
  obtain ⟨h1, h2, h3, h4, h5, h6⟩ := h
  exact ⟨h4, h5, h6, h1, h2, h3⟩
theorem has_tr (v : Wn) (x y : Int) : (trW v).has x y = v.has y x := by
  rw [Bool.eq_iff_iff, has_iff, has_iff]
  show v.t ≤ x ∧ x < v.b ∧ v.l ≤ y ∧ y < v.r ↔ _
  omega
theorem mtB_tr (w v : Wn) : mtB (trW w) (trW v) = mtB w v := by
  rw [Bool.eq_iff_iff, mtB_iff, mtB_iff]
  constructor
  · rintro ⟨x, y, h1, h2⟩
    rw [has_tr] at h1 h2
    exact ⟨y, x, h1, h2⟩
  · rintro ⟨x, y, h1, h2⟩
    exact ⟨y, x, by rw [has_tr]; exact h1, by rw [has_tr]; exact h2⟩
theorem frB_tr (ws : List Wn) (v : Wn) : frB (ws.map trW) (trW v) = frB ws v := by
  unfold frB
  rw [List.any_map]
  congr 2
  funext w
  exact mtB_tr w v
theorem plL_tr {p : Sz} {v : Wn} : trW v ∈ plL (p.2, p.1) ↔ v ∈ plL p := by
  rw [mem_plL, mem_plL]
  show (0 ≤ v.t ∧ v.t < 13 - p.2) ∧ (0 ≤ v.l ∧ v.l < 13 - p.1) ∧ v.b = v.t + p.2 ∧ v.r = v.l + p.1 ↔ _
  omega
theorem turned_perm (ws : List Wn) (p : Sz) : ((fpN (ws.map trW) (p.2, p.1)).map trW).Perm (fpN ws p) := by
  have n1 : ((fpN (ws.map trW) (p.2, p.1)).map trW).Nodup := List.pairwise_map.mpr ((wlt_nodup (fpN_srt _ _)).imp fun {x y} a e => a (by have := congrArg trW e; exact this))
  refine (List.perm_ext_iff_of_nodup n1 (wlt_nodup (fpN_srt _ _))).mpr fun v => ?_
  rw [List.mem_map]
  constructor
  · rintro ⟨u, hu, rfl⟩
    obtain ⟨h1, h2⟩ := fpN_mem.mp hu
    refine fpN_mem.mpr ⟨?_, ?_⟩
    · rw [← plL_tr, trW_tr]; exact h1
    · rw [← frB_tr, trW_tr]; exact h2
  · intro hv
    obtain ⟨h1, h2⟩ := fpN_mem.mp hv
    exact ⟨trW v, fpN_mem.mpr ⟨plL_tr.mpr h1, by rw [frB_tr]; exact h2⟩, rfl⟩
theorem faN_one (ws : List Wn) (p : Sz) : faN ws [p] = (fpN ws p).head?.map fun v => [v] := by
  show ((fpN ws p).findSome? fun v => (some []).map (v :: ·)) = _
  cases fpN ws p <;> rfl
theorem arB_last {ws : List Wn} {p : Sz} {u : Wn} (hu : u ∈ fpN ws p) : arB ws [p] [u] = true := by
  have hc := fpN_cells hu
  have fr := (fpN_mem.mp hu).2
  unfold arB
  rw [Bool.and_eq_true]
  refine ⟨rfl, ?_⟩
  show (fitB ws [p] [u] u 0 && true) = true
  rw [Bool.and_true]
  unfold fitB
  rw [Bool.and_eq_true, Bool.and_eq_true, decide_eq_true_eq]
  refine ⟨?_, fr, rfl⟩
  show some p = some (szB u)
  rw [← hc]
  rfl
theorem ix_last {l : List Wn} {v : Wn} (h : l.getLast? = some v) : ixS (.lst (l.map wD)) (.int (-1)) = .ok (wD v) := by
  obtain ⟨ys, rfl⟩ := List.getLast?_eq_some_iff.mp h
  have q : ixS (.lst ((ys ++ [v]).map wD)) (.int (-1)) = match atI ((ys ++ [v]).map wD) (-1) with | some d => .ok d | none => .bad := rfl
  rw [q, List.map_append]
  show (match atI (ys.map wD ++ [wD v]) (-1) with | some d => R.ok d | none => .bad) = _
  rw [L2.atI_last]
theorem tail_ws (ws : List Wn) : slS (wsD ws) (some 1) none = .ok (wsD ws.tail) := by
  unfold wsD
  cases ws with
  | nil => rfl
  | cons w ws =>
    show R.ok (D.tup (cutL ((w :: ws).map wD) (some 1) none)) = _
    rw [cut_drop _ (by simp; omega), ← List.map_drop]
    rfl
theorem lf_uniq {ws : List Wn} {v : Wn} {q : Sz} (hq : Szk q) (hv : v ∈ fpN ws q) (hm : (szsN.all fun p => (!decide (cl_ q < cl_ p) || (fpN ws p).isEmpty) && (!decide (cl_ p = cl_ q) || (fpN ws p).all fun u => !wlt u v)) = true) : lfN ws = some v := by
  have ec := fpN_cells hv
  have cq : cl_ q = (v.r - v.l) * (v.b - v.t) := by rw [← ec]; rfl
  cases h : lfN ws with
  | none =>
    have := (lfN_best ws).no h q (mem_srtN.mpr hq)
    rw [this] at hv
    cases hv
  | some u =>
    obtain ⟨ok, fr, sz, hd, all⟩ := lf_some h
    have um : u ∈ fpN ws (u.r - u.l, u.b - u.t) := List.mem_of_mem_head? (by rw [hd]; rfl)
    obtain ⟨g1, g2⟩ := all q hq v hv
    have hz := List.all_eq_true.mp hm (u.r - u.l, u.b - u.t) (mem_szsN.mpr sz)
    rw [Bool.and_eq_true, Bool.or_eq_true, Bool.or_eq_true] at hz
    have ne : (fpN ws (u.r - u.l, u.b - u.t)).isEmpty = false := by
      cases hy : fpN ws (u.r - u.l, u.b - u.t) with
      | nil => rw [hy] at um; cases um
      | cons a l => rfl
    have e1 : ¬ cl_ q < (u.r - u.l) * (u.b - u.t) := by
      rcases hz.1 with z | z
      · have z : cl_ (u.r - u.l, u.b - u.t) ≤ cl_ q := by simpa using z
        have z : (u.r - u.l) * (u.b - u.t) ≤ cl_ q := z
        omega
      · rw [ne] at z; cases z
    have e2 : cl_ q = (u.r - u.l) * (u.b - u.t) := by omega
    have w1 := g2 e2
    have w2 : wlt u v = false := by
      rcases hz.2 with z | z
      · have z : ¬ (cl_ (u.r - u.l, u.b - u.t) = cl_ q) := by simpa using z
        exact absurd e2.symm z
      · have := List.all_eq_true.mp z u um
        simpa using this
    rw [wlt_ff] at w1 w2
    rw [show u = v from wn_eq (by omega) (by omega) (by omega) (by omega)]
theorem lf_two : lfN [⟨0, 0, 12, 6⟩, ⟨0, 6, 6, 12⟩] = some ⟨6, 6, 12, 12⟩ := lf_uniq (q := (6, 6)) ⟨⟨by decide, by decide⟩, by decide, by decide⟩ (fpN_mem.mpr ⟨mem_plL.mpr ⟨⟨by decide, by decide⟩, ⟨by decide, by decide⟩, by decide, by decide⟩, by decide +kernel⟩) (by decide +kernel)
theorem lf_emp : lfN [] = some ⟨0, 0, 12, 12⟩ := lf_uniq (q := (12, 12)) ⟨⟨by decide, by decide⟩, by decide, by decide⟩ (fpN_mem.mpr ⟨mem_plL.mpr ⟨⟨by decide, by decide⟩, ⟨by decide, by decide⟩, by decide, by decide⟩, by decide +kernel⟩) (by decide +kernel)
theorem fa_two58 : faN [] [(12, 6), (12, 7)] = none := by decide +kernel
end Pan
namespace Pan
open PySem L2
abbrev Γ58 : List FnR := [r__law_windows, r_places, r__law_best_k58, r_largest_free_k58, r__law_drawn_2, r_covered, r_place_all_k58, r_are_places, r_size, r_overlap]
abbrev W8 (sc : D) (ws : List Wn) (p : Sz) (s5 s6 s7 s8 s9 s10 s11 s12 : Slot) : Env := [.val sc, .val (wsD ws), .val (.int p.1), .val (.int p.2), .val (.lst ((fpN ws p).map wD)), s5, s6, s7, s8, s9, s10, s11, s12]
theorem mul_sz {p : Sz} (hp : Szk p) : binS .Mult (.int p.1) (.int p.2) = .ok (.int (cl_ p)) := mul_int (by obtain ⟨⟨h1, h2⟩, _⟩ := hp; omega)
theorem filter_ff (l : List Wn) : l.filter (fun _ => false) = [] := List.filter_eq_nil_iff.mpr fun _ _ => by simp
section
variable {sc : D} {ws : List Wn} (h : ∀ w ∈ ws, w.ok) (hl : ws.length ≤ 4) {p : Sz} (hp : Szk p) (s5 s6 s7 s8 s9 s10 s11 s12 : Slot)
include h hl hp
theorem w3_ok : xs (phi Γ58) wS3 (W8 sc ws p s5 s6 s7 s8 s9 s10 s11 s12) = .ok (.nx (W8 sc ws p s5 s6 s7 s8 s9 s10 s11 s12)) := by
  have a := sset_wD (fpN_srt ws p) (Nat.le_trans (fpN_le hp) (by decide))
  have b := ne_selfW (fpN ws p)
  unfold W8
  generalize (fpN ws p).map wD = fm at *
  generalize wsD ws = wd at *
  simp -implicitDefEqProofs [a, b]
theorem w4_ok : xs (phi Γ58) wS4 (W8 sc ws p s5 s6 s7 s8 s9 s10 s11 s12) = .ok (.nx (W8 sc ws p s5 s6 s7 s8 s9 s10 s11 s12)) := by
  have ml := mul_sz hp
  have l1 : lcM ((fpN ws p).map wD) (itemL (phi Γ58) (W8 sc ws p s5 s6 s7 s8 s9 s10 s11 s12) [5] (.name 5) (.some (.cmp .NotEq (.call 8 (.cons (.var 5) .nil)) (.bin .Mult (.var 2) (.var 3)))) (.var 5)) = .ok (((fpN ws p).filter fun _ => false).map wD) := by
    refine lcM_filterI wD _ wD fun v hv => ?_
    have sz := size_ok (fpN_ok hp hv)
    have ec := fpN_cells hv
    have e : (v.r - v.l) * (v.b - v.t) = cl_ p := by rw [← ec]; rfl
    rw [e] at sz
    have ne : cmpS .NotEq (.int (cl_ p)) (.int (cl_ p)) = .ok false := by rw [ne_int]; simp
    unfold W8
    generalize cl_ p = c at *
    generalize wD v = vd at *
    generalize (fpN ws p).map wD = fm at *
    generalize wsD ws = wd at *
    simp -implicitDefEqProofs [itemL, sz, ml, ne, -ne_int]
  rw [filter_ff] at l1
  have ne : cmpS .NotEq (.lst (([] : List Wn).map wD)) (.lst []) = .ok false := rfl
  unfold W8 at *
  generalize (([] : List Wn).map wD) = fe at *
  generalize (fpN ws p).map wD = fm at *
  generalize wsD ws = wd at *
  simp -implicitDefEqProofs [l1, ne]
theorem w5_ok : ∃ t5 t6, xs (phi Γ58) wS5 (W8 sc ws p s5 s6 s7 s8 s9 s10 s11 s12) = .ok (.nx (W8 sc ws p t5 t6 s7 s8 s9 s10 s11 s12)) := by
  have ml := mul_sz hp
  have es : evs (phi Γ58) (.cons (.sl (.var 4) .none (.some (.lit (.int (6))))) .nil) (W8 sc ws p s5 s6 s7 s8 s9 s10 s11 s12) = .ok [.lst (cutL ((fpN ws p).map wD) none (some 6))] := rfl
  have it : itS .seq [.lst (cutL ((fpN ws p).map wD) none (some 6))] = .ok (cutL ((fpN ws p).map wD) none (some 6)) := rfl
  rw [xs_for, es, lift_ok, it, lift_ok]
  obtain ⟨e', q, t5, t6, rfl⟩ := forM_keep (f := turnF (phi Γ58) (.name 5) wB5) (fun e => ∃ t5 t6, e = W8 sc ws p t5 t6 s7 s8 s9 s10 s11 s12) (ds := cutL ((fpN ws p).map wD) none (some 6)) (e := W8 sc ws p s5 s6 s7 s8 s9 s10 s11 s12) (fun d hd e he => by
    unfold cutL at hd
    obtain ⟨v, hv, rfl⟩ := List.mem_map.mp (List.mem_of_mem_drop (List.mem_of_mem_take hd))
    obtain ⟨t5, t6, rfl⟩ := he
    have ok := fpN_ok hp hv
    have fr := (fpN_mem.mp hv).2
    have l1 : lcM (ws.map wD) (itemL (phi Γ58) (W8 sc ws p (.val (wD v)) t6 s7 s8 s9 s10 s11 s12) [6] (.name 6) (.some (.cmp .IsNot (.call 9 (.cons (.var 6) (.cons (.var 5) .nil))) (.lit .non))) (.var 6)) = .ok ((ws.filter fun w => mtB w v).map wD) := by
      refine lcM_filterI wD _ wD fun w hw => ?_
      have a := overlap_ok (h w hw) ok
      have b := ov_isnot w v
      unfold W8
      generalize (if (meet w v).l < (meet w v).r ∧ (meet w v).t < (meet w v).b then wD (meet w v) else D.non) = mm at *
      generalize wD w = ud at *
      generalize wD v = vd at *
      generalize (fpN ws p).map wD = fm at *
      generalize wsD ws = um at *
      cases hb : mtB w v <;> rw [hb] at b <;> simp -implicitDefEqProofs [itemL, a, b, -isnot_non]
    have l2 : ws.filter (fun w => mtB w v) = [] := List.filter_eq_nil_iff.mpr fun w hw => by simp [frB_iff.mp fr w hw]
    rw [l2] at l1
    have ne : cmpS .NotEq (.lst (([] : List Wn).map wD)) (.lst []) = .ok false := rfl
    have sq : itS .seq [wsD ws] = .ok (ws.map wD) := rfl
    have c1 : r_covered.sem [wsD ws] = .ok (.int (cvN ws : Nat)) := covered_ok h (by omega)
    have c2 : r_covered.sem [wsD (ws ++ [v])] = .ok (.int (cvN (ws ++ [v]) : Nat)) := covered_ok (fun w hw => by
      rcases List.mem_append.mp hw with hw | hw
      · exact h w hw
      · rw [List.mem_singleton.mp hw]; exact ok) (by rw [List.length_append, List.length_singleton]; omega)
    have ad : binS .Add (wsD ws) (.tup [wD v]) = .ok (wsD (ws ++ [v])) := by
      unfold wsD
      rw [add_tup56 (by rw [List.length_map, List.length_singleton]; omega), List.map_append]
      rfl
    have cv := cvN_add ok fr
    have ec := fpN_cells hv
    have e : (v.r - v.l) * (v.b - v.t) = cl_ p := by rw [← ec]; rfl
    rw [e] at cv
    have nn : cmpS .NotEq (.int (cvN (ws ++ [v]) : Nat)) (.int ((cvN ws : Nat) + cl_ p)) = .ok false := by rw [ne_int, cv]; simp
    refine ⟨_, ?_, .val (wD v), t6, rfl⟩
    unfold W8 at *
    clear l2 hd cv e ec
    generalize (cvN (ws ++ [v]) : Int) = n2 at *
    generalize (cvN ws : Int) = n1 at *
    generalize (([] : List Wn).map wD) = fe at *
    generalize ws.map wD = wm at *
    generalize wsD (ws ++ [v]) = w2 at *
    generalize wD v = vd at *
    generalize (fpN ws p).map wD = fm at *
    generalize wsD ws = um at *
    unfold turnF
    simp -implicitDefEqProofs [sq, l1, ne, c1, c2, ad, ml, nn, fit_1, -ne_int]) ⟨s5, s6, rfl⟩
  exact ⟨t5, t6, q⟩
theorem w6_ok : xs (phi Γ58) wS6 (W8 sc ws p s5 s6 s7 s8 s9 s10 s11 s12) = .ok (.nx (W8 sc ws p s5 s6 s7 s8 s9 s10 s11 s12)) := by
  have pa : r_place_all_k58.sem [wsD ws, .lst [.tup [.int p.1, .int p.2]]] = .ok (faD (faN ws [p])) := place_all_ok h (by omega) (ps := [p]) (fun q hq => by rw [List.mem_singleton.mp hq]; exact hp) (by simp)
  have eq := eq_emp (fpN ws p)
  have is : cmpS .Is (faD (faN ws [p])) .non = .ok (fpN ws p).isEmpty := by
    rw [faN_one]
    cases fpN ws p <;> rfl
  unfold W8
  generalize faD (faN ws [p]) = fa at *
  generalize (fpN ws p).isEmpty = b at *
  generalize (fpN ws p).map wD = fm at *
  generalize wsD ws = wd at *
  simp -implicitDefEqProofs [pa, eq, is, fit_1, -is_non]
theorem w7_ok : xs (phi Γ58) wS7 (W8 sc ws p s5 s6 s7 s8 s9 s10 s11 s12) = .ok (.nx (W8 sc ws p s5 s6 s7 s8 s9 s10 s11 s12)) := by
  have ne := ne_emp (fpN ws p)
  cases hg : (fpN ws p).getLast? with
  | none =>
    have hz := List.getLast?_eq_none_iff.mp hg
    unfold W8
    rw [hz] at ne ⊢
    have ne : cmpS .NotEq (.lst (([] : List Wn).map wD)) (.lst []) = .ok false := ne
    generalize (([] : List Wn).map wD) = fm at *
    generalize wsD ws = wd at *
    simp -implicitDefEqProofs [ne]
  | some u =>
    have um : u ∈ fpN ws p := List.mem_of_getLast? hg
    have nb : (fpN ws p).isEmpty = false := by
      cases hy : fpN ws p with
      | nil => rw [hy] at um; cases um
      | cons a l => rfl
    rw [nb] at ne
    have ix := ix_last hg
    have ar := are_places_ok h (by omega) (ps := [p]) (fun q hq => by rw [List.mem_singleton.mp hq]; exact hp) (by simp) (vs := [u]) (fun v hv => by rw [List.mem_singleton.mp hv]; exact fpN_ok hp um) (by simp)
    rw [arB_last um] at ar
    have ar : r_are_places.sem [wsD ws, .lst [.tup [.int p.1, .int p.2]], .tup [wD u]] = .ok (.bl true) := ar
    have i2 : cmpS .IsNot (.bl true) (.bl true) = .ok false := rfl
    unfold W8
    generalize (fpN ws p).map wD = fm at *
    generalize wD u = ud at *
    generalize wsD ws = wd at *
    simp -implicitDefEqProofs [ne, ix, ar, i2, fit_1]
theorem w8_ok : xs (phi Γ58) wS8 (W8 sc ws p s5 s6 s7 s8 s9 s10 s11 s12) = .ok (.nx (W8 sc ws p s5 s6 s7 s8 s9 s10 s11 s12)) := by
  have tl := tail_ws ws
  have pl : r_places.sem [wsD ws.tail, .tup [.int p.1, .int p.2]] = .ok (.lst ((fpN ws.tail p).map wD)) := places_ok (fun w hw => h w (List.mem_of_mem_tail hw)) (by rw [List.length_tail]; omega) hp
  have l1 : biS .len [.lst ((fpN ws.tail p).map wD)] = .ok (.int (fpN ws.tail p).length) := by rw [len_lst, List.length_map]
  have l2 : biS .len [.lst ((fpN ws p).map wD)] = .ok (.int (fpN ws p).length) := by rw [len_lst, List.length_map]
  have le := fpN_more ws ws.tail (fun w hw => List.mem_of_mem_tail hw) p
  have d : decide (((fpN ws.tail p).length : Int) < ((fpN ws p).length : Int)) = false := decide_eq_false (by omega)
  have d2 : decide ((fpN ws.tail p).length < (fpN ws p).length) = false := decide_eq_false (by omega)
  unfold W8
  generalize (fpN ws.tail p).map wD = f2 at *
  generalize (fpN ws p).map wD = fm at *
  generalize wsD ws.tail = wt at *
  generalize wsD ws = wd at *
  simp -implicitDefEqProofs [tl, pl, l1, l2, d, d2, -len_lst]
theorem w9_ok : xs (phi Γ58) wS9 (W8 sc ws p s5 s6 s7 s8 s9 s10 s11 s12) = .ok (.nx (W8 sc ws p s5 s6 s7 s8 s9 s10 s11 s12)) := by
  have pl : r_places.sem [.tup [], .tup [.int p.1, .int p.2]] = .ok (.lst ((fpN [] p).map wD)) := places_ok (ws := []) (fun w hw => by cases hw) (by decide) hp
  rw [fpN_nil] at pl
  have l1 : biS .len [.lst ((plL p).map wD)] = .ok (.int (plL p).length) := by rw [len_lst, List.length_map]
  rw [plL_len hp] at l1
  have ml : binS .Mult (.int (13 - p.1)) (.int (13 - p.2)) = .ok (.int ((13 - p.1) * (13 - p.2))) := mul_int (by obtain ⟨⟨h1, h2⟩, _⟩ := hp; omega)
  have ne : cmpS .NotEq (.int ((13 - p.1) * (13 - p.2))) (.int ((13 - p.1) * (13 - p.2))) = .ok false := by rw [ne_int]; simp
  unfold W8
  generalize (plL p).map wD = f2 at *
  generalize (fpN ws p).map wD = fm at *
  generalize (13 - p.1) * (13 - p.2) = m at *
  generalize wsD ws = wd at *
  simp -implicitDefEqProofs [pl, l1, ml, ne, -len_lst, -ne_int]
theorem w10_ok : xs (phi Γ58) wS10 (W8 sc ws p s5 s6 s7 s8 s9 s10 s11 s12) = .ok (.nx (W8 sc ws p s5 s6 s7 s8 s9 s10 s11 s12)) := by
  have ne := ne_emp (fpN ws p)
  by_cases hw : 1 < p.1
  · have sq : Szk (p.1 - 1, p.2) := by
      obtain ⟨⟨h1, h2⟩, h3, h4⟩ := hp
      exact ⟨⟨by show 1 ≤ p.1 - 1; omega, by show p.1 - 1 ≤ 12; omega⟩, h3, h4⟩
    have pl : r_places.sem [wsD ws, .tup [.int (p.1 - 1), .int p.2]] = .ok (.lst ((fpN ws (p.1 - 1, p.2)).map wD)) := places_ok h (by omega) sq
    have d : decide (1 < p.1) = true := decide_eq_true hw
    have ee := eq_emp (fpN ws (p.1 - 1, p.2))
    have imp : (fpN ws p).isEmpty = false → (fpN ws (p.1 - 1, p.2)).isEmpty = false := fun z => by
      have := lesser (ws := ws) hw (by simpa using z)
      simpa using this
    unfold W8
    generalize (fpN ws (p.1 - 1, p.2)).map wD = f2 at *
    generalize (fpN ws p).map wD = fm at *
    generalize wsD ws = wd at *
    cases hb : (fpN ws p).isEmpty with
    | true =>
      rw [hb] at ne
      simp -implicitDefEqProofs [d, ne]
    | false =>
      rw [hb] at ne
      rw [imp hb] at ee
      simp -implicitDefEqProofs [d, ne, pl, ee]
  · have d : decide (1 < p.1) = false := decide_eq_false hw
    unfold W8
    generalize (fpN ws p).map wD = fm at *
    generalize wsD ws = wd at *
    simp -implicitDefEqProofs [d]
end
end Pan
namespace Pan
open PySem L2
abbrev tg58 : E := .tup (.cons (.var 9) (.cons (.var 8) (.cons (.var 11) (.cons (.var 10) .nil))))
theorem item58 (a0 a1 a2 a3 a4 a5 a6 a7 s8 s9 s10 s11 s12 : Slot) (v : Wn) : itemL (phi Γ58) [a0, a1, a2, a3, a4, a5, a6, a7, s8, s9, s10, s11, s12] [8, 9, 10, 11] (.tup [8, 9, 10, 11]) .none tg58 (wD v) = .ok [wD (trW v)] := by
  have e : wipeE [a0, a1, a2, a3, a4, a5, a6, a7, s8, s9, s10, s11, s12] [8, 9, 10, 11] = [a0, a1, a2, a3, a4, a5, a6, a7, .no, .no, .no, .no, s12] := rfl
  unfold itemL wD trW
  rw [e]
  rfl
theorem w11_ok (a0 a2 a3 a4 a5 a6 s7 s8 s9 s10 s11 s12 : Slot) (ws : List Wn) : xs (phi Γ58) wS11 [a0, .val (wsD ws), a2, a3, a4, a5, a6, s7, s8, s9, s10, s11, s12] = .ok (.nx [a0, .val (wsD ws), a2, a3, a4, a5, a6, .val (wsD (ws.map trW)), s8, s9, s10, s11, s12]) := by
  have l1 : lcM (ws.map wD) (itemL (phi Γ58) [a0, .val (wsD ws), a2, a3, a4, a5, a6, s7, s8, s9, s10, s11, s12] [8, 9, 10, 11] (.tup [8, 9, 10, 11]) .none tg58) = .ok (ws.map fun v => wD (trW v)) := lcM_mapI wD _ fun v _ => item58 ..
  have e : (ws.map fun v => wD (trW v)) = (ws.map trW).map wD := by rw [List.map_map]; rfl
  rw [e] at l1
  have sq : itS .seq [wsD ws] = .ok (ws.map wD) := rfl
  have tu : biS .tuple [.lst ((ws.map trW).map wD)] = .ok (wsD (ws.map trW)) := rfl
  generalize wsD (ws.map trW) = w2 at *
  generalize (ws.map trW).map wD = m2 at *
  generalize ws.map wD = m1 at *
  generalize wsD ws = wd at *
  simp -implicitDefEqProofs [sq, l1, tu]
section
variable {sc : D} {ws : List Wn} (h : ∀ w ∈ ws, w.ok) (hl : ws.length ≤ 4) {p : Sz} (hp : Szk p) (s5 s6 s7 s8 s9 s10 s11 s12 : Slot)
include h hl hp
theorem w12_ok (a0 a4 : Slot) : xs (phi Γ58) wS12 [a0, .val (wsD ws), .val (.int p.1), .val (.int p.2), a4, s5, s6, .val (wsD (ws.map trW)), s8, s9, s10, s11, s12] = .ok (.nx [a0, .val (wsD ws), .val (.int p.1), .val (.int p.2), a4, s5, s6, .val (wsD (ws.map trW)), s8, s9, s10, s11, .val (.lst (((fpN (ws.map trW) (p.2, p.1)).map trW).map wD))]) := by
  have pl : r_places.sem [wsD (ws.map trW), .tup [.int p.2, .int p.1]] = .ok (.lst ((fpN (ws.map trW) (p.2, p.1)).map wD)) := places_ok (fun w hw => by
    obtain ⟨u, hu, rfl⟩ := List.mem_map.mp hw
    exact trW_ok (h u hu)) (by rw [List.length_map]; omega) (p := (p.2, p.1)) ⟨hp.2, hp.1⟩
  generalize hq : fpN (ws.map trW) (p.2, p.1) = us at *
  have l1 : lcM (us.map wD) (itemL (phi Γ58) [a0, .val (wsD ws), .val (.int p.1), .val (.int p.2), a4, s5, s6, .val (wsD (ws.map trW)), s8, s9, s10, s11, s12] [8, 9, 10, 11] (.tup [8, 9, 10, 11]) .none tg58) = .ok (us.map fun v => wD (trW v)) := lcM_mapI wD _ fun v _ => item58 ..
  have e : (us.map fun v => wD (trW v)) = (us.map trW).map wD := by rw [List.map_map]; rfl
  rw [e] at l1
  have sq : itS .seq [.lst (us.map wD)] = .ok (us.map wD) := rfl
  clear hq e
  generalize (us.map trW).map wD = m2 at *
  generalize us.map wD = m1 at *
  generalize wsD (ws.map trW) = w2 at *
  generalize wsD ws = wd at *
  simp -implicitDefEqProofs [sq, l1, pl]
theorem w13_ok (a0 : Slot) : xs (phi Γ58) wS13 [a0, .val (wsD ws), .val (.int p.1), .val (.int p.2), .val (.lst ((fpN ws p).map wD)), s5, s6, s7, s8, s9, s10, s11, .val (.lst (((fpN (ws.map trW) (p.2, p.1)).map trW).map wD))] = .ok (.nx [a0, .val (wsD ws), .val (.int p.1), .val (.int p.2), .val (.lst ((fpN ws p).map wD)), s5, s6, s7, s8, s9, s10, s11, .val (.lst (((fpN (ws.map trW) (p.2, p.1)).map trW).map wD))]) := by
  have so := sort_wD (fpN_srt ws p) (turned_perm ws p)
  have ne := ne_selfW (fpN ws p)
  generalize ((fpN (ws.map trW) (p.2, p.1)).map trW).map wD = m2 at *
  generalize (fpN ws p).map wD = m1 at *
  generalize wsD ws = wd at *
  simp -implicitDefEqProofs [so, ne]
theorem w14_ok : xs (phi Γ58) wS14 (W8 sc ws p s5 s6 s7 s8 s9 s10 s11 s12) = .ok (.nx (W8 sc ws p s5 s6 s7 s8 s9 s10 s11 s12)) := by
  have ml := mul_sz hp
  have lb := law_best_ok h (by omega) hp
  unfold W8
  generalize (fpN ws p).map wD = m1 at *
  generalize cl_ p = c at *
  generalize wsD ws = wd at *
  simp -implicitDefEqProofs [ml, lb]
end
theorem okE : ∀ w ∈ ([] : List Wn), w.ok := fun w hw => by cases hw
theorem okF : ∀ w ∈ ([⟨0, 0, 12, 12⟩] : List Wn), w.ok := fun w hw => by
  rw [List.mem_singleton.mp hw]
  exact ⟨by decide, by decide, by decide, by decide, by decide, by decide⟩
theorem okT : ∀ w ∈ ([⟨0, 0, 12, 6⟩, ⟨0, 6, 6, 12⟩] : List Wn), w.ok := fun w hw => by
  simp only [List.mem_cons, List.not_mem_nil, or_false] at hw
  rcases hw with rfl | rfl <;> exact ⟨by decide, by decide, by decide, by decide, by decide, by decide⟩
theorem w15_ok (a0 a1 a2 a3 a4 a5 a6 a7 s8 s9 s10 s11 s12 : Slot) : xs (phi Γ58) wS15 [a0, a1, a2, a3, a4, a5, a6, a7, s8, s9, s10, s11, s12] = .ok (.nx [a0, a1, a2, a3, a4, a5, a6, a7, s8, s9, s10, s11, s12]) := by
  have lf := largest_free_ok okT (by decide)
  rw [lf_two] at lf
  have lf : r_largest_free_k58.sem [.tup [.tup [.int 0, .int 0, .int 12, .int 6], .tup [.int 0, .int 6, .int 6, .int 12]]] = .ok (.tup [.int 6, .int 6, .int 12, .int 12]) := lf
  have ne : cmpS .NotEq (.tup [.int 6, .int 6, .int 12, .int 12]) (.tup [.int 6, .int 6, .int 12, .int 12]) = .ok false := rfl
  simp -implicitDefEqProofs [lf, ne]
theorem w16_ok (a0 a1 a2 a3 a4 a5 a6 a7 s8 s9 s10 s11 s12 : Slot) : xs (phi Γ58) wS16 [a0, a1, a2, a3, a4, a5, a6, a7, s8, s9, s10, s11, s12] = .ok (.nx [a0, a1, a2, a3, a4, a5, a6, a7, s8, s9, s10, s11, s12]) := by
  have lf := largest_free_ok okE (by decide)
  rw [lf_emp] at lf
  have lf : r_largest_free_k58.sem [.tup []] = .ok (.tup [.int 0, .int 0, .int 12, .int 12]) := lf
  have ne : cmpS .NotEq (.tup [.int 0, .int 0, .int 12, .int 12]) (.tup [.int 0, .int 0, .int 12, .int 12]) = .ok false := rfl
  simp -implicitDefEqProofs [lf, ne]
theorem w17_ok (a0 a1 a2 a3 a4 a5 a6 a7 s8 s9 s10 s11 s12 : Slot) : xs (phi Γ58) wS17 [a0, a1, a2, a3, a4, a5, a6, a7, s8, s9, s10, s11, s12] = .ok (.rt (.bl true)) := by
  have p1 := place_all_ok okE (by decide) (ps := [(12, 6), (12, 7)]) (fun q hq => by
    simp only [List.mem_cons, List.not_mem_nil, or_false] at hq
    rcases hq with rfl | rfl <;> exact ⟨⟨by decide, by decide⟩, by decide, by decide⟩) (by decide)
  rw [fa_two58] at p1
  have p1 : r_place_all_k58.sem [.tup [], .lst [.tup [.int 12, .int 6], .tup [.int 12, .int 7]]] = .ok .non := p1
  have p2 := place_all_ok okF (by decide) (ps := []) (fun q hq => by cases hq) (by decide)
  have p2 : r_place_all_k58.sem [.tup [.tup [.int 0, .int 0, .int 12, .int 12]], .lst []] = .ok (.tup []) := p2
  have i1 : cmpS .Is .non .non = .ok true := rfl
  have e1 : cmpS .Eq (.tup []) (.tup []) = .ok true := rfl
  simp -implicitDefEqProofs [p1, p2, i1, e1, -is_non]
end Pan
namespace Pan
open PySem L2
theorem math_k58 (ns : List Int) (hn : ns.length ≤ 63) : r_law_k58.sem [.scr ns] = .ok (.bl true) := by
  obtain ⟨ws, h, l0, ew⟩ := law_windows_ok hn (k := 10) (m := 4) (by omega) (by omega)
  have hl : ws.length ≤ 4 := by omega
  obtain ⟨a, a1, a2, ea⟩ := drawn_ok hn (k := 1) (m := 9) (by omega) (by omega)
  obtain ⟨b, b1, b2, eb⟩ := drawn_ok hn (k := 2) (m := 9) (by omega) (by omega)
  have hp : Szk (1 + a, 1 + b) := ⟨⟨by show 1 ≤ 1 + a; omega, by show 1 + a ≤ 12; omega⟩, by show 1 ≤ 1 + b; omega, by show 1 + b ≤ 12; omega⟩
  have hs : ∀ ds, r_law_k58.sem ds = runF (phi Γ58) 13 ir_law_k58 ds := fun _ => rfl
  rw [hs, runF_eq, law58_eq]
  have q0 : xs (phi Γ58) wS0 [.val (.scr ns), .no, .no, .no, .no, .no, .no, .no, .no, .no, .no, .no, .no] = .ok (.nx [.val (.scr ns), .val (wsD ws), .no, .no, .no, .no, .no, .no, .no, .no, .no, .no, .no]) := by
    generalize wsD ws = wd at *
    simp -implicitDefEqProofs [ew]
  have q1 : xs (phi Γ58) wS1 [.val (.scr ns), .val (wsD ws), .no, .no, .no, .no, .no, .no, .no, .no, .no, .no, .no] = .ok (.nx [.val (.scr ns), .val (wsD ws), .val (.int (1 + a)), .val (.int (1 + b)), .no, .no, .no, .no, .no, .no, .no, .no, .no]) := by
    have d1 : binS .Add (.int 1) (.int a) = .ok (.int (1 + a)) := add_int _ _
    have d2 : binS .Add (.int 1) (.int b) = .ok (.int (1 + b)) := add_int _ _
    generalize wsD ws = wd at *
    simp -implicitDefEqProofs [ea, eb, d1, d2]
  have q2 : xs (phi Γ58) wS2 [.val (.scr ns), .val (wsD ws), .val (.int (1 + a)), .val (.int (1 + b)), .no, .no, .no, .no, .no, .no, .no, .no, .no] = .ok (.nx (W8 (.scr ns) ws (1 + a, 1 + b) .no .no .no .no .no .no .no .no)) := by
    have pl : r_places.sem [wsD ws, .tup [.int (1 + a), .int (1 + b)]] = .ok (.lst ((fpN ws (1 + a, 1 + b)).map wD)) := places_ok h (by omega) hp
    unfold W8
    generalize (fpN ws (1 + a, 1 + b)).map wD = fm at *
    generalize wsD ws = wd at *
    simp -implicitDefEqProofs [pl]
  obtain ⟨t5, t6, q5⟩ := w5_ok (sc := .scr ns) h hl hp .no .no .no .no .no .no .no .no
  have chain : xss (phi Γ58) (.cons wS0 (.cons wS1 (.cons wS2 (.cons wS3 (.cons wS4 (.cons wS5 (.cons wS6 (.cons wS7 (.cons wS8 (.cons wS9 (.cons wS10 (.cons wS11 (.cons wS12 (.cons wS13 (.cons wS14 (.cons wS15 (.cons wS16 (.cons wS17 .nil)))))))))))))))))) [.val (.scr ns), .no, .no, .no, .no, .no, .no, .no, .no, .no, .no, .no, .no] = .ok (.rt (.bl true)) := by
    rw [xss_cons, q0, andThen_nx, xss_cons, q1, andThen_nx, xss_cons, q2, andThen_nx, xss_cons, w3_ok h hl hp, andThen_nx, xss_cons, w4_ok h hl hp, andThen_nx, xss_cons, q5, andThen_nx, xss_cons, w6_ok h hl hp, andThen_nx, xss_cons, w7_ok h hl hp, andThen_nx, xss_cons, w8_ok h hl hp, andThen_nx, xss_cons, w9_ok h hl hp, andThen_nx, xss_cons, w10_ok h hl hp, andThen_nx, xss_cons]
    unfold W8
    rw [w11_ok, andThen_nx, xss_cons, w12_ok h hl hp, andThen_nx, xss_cons, w13_ok h hl hp, andThen_nx, xss_cons, w14_ok h hl hp, andThen_nx, xss_cons, w15_ok, andThen_nx, xss_cons, w16_ok, andThen_nx, xss_cons, w17_ok]
    rfl
  have ee : (([D.scr ns] : List D).map Slot.val ++ List.replicate (13 - ([D.scr ns] : List D).length) Slot.no : Env) = [.val (.scr ns), .no, .no, .no, .no, .no, .no, .no, .no, .no, .no, .no, .no] := rfl
  rw [ee, chain]
  rfl
end Pan
set_option maxHeartbeats 0
namespace Hd
open PySem PySem.Spec L2 Pan
open PyProof.Rows hiding St
def top (i : Nat) : Stmt := PySem.Challenge.pw_panestacks_k58_whole_placing.main.body.getD i (.Pass ⟨0, 0, 0, 0⟩)
def fn : List He.DefD := [ddOf (top 9) "is_int", ddOf (top 10) "is_window", ddOf (top 11) "are_windows", ddOf (top 12) "check_windows", ddOf (top 13) "check_window", ddOf (top 14) "find_overlap", ddOf (top 15) "overlap", ddOf (top 16) "size", ddOf (top 17) "cells_of", ddOf (top 18) "all_cells", ddOf (top 19) "covered", ddOf (top 22) "is_size", ddOf (top 23) "is_free", ddOf (top 24) "all_places", ddOf (top 25) "find_places", ddOf (top 26) "places", ddOf (top 27) "check_sizes", ddOf (top 28) "find_all", ddOf (top 29) "place_all", ddOf (top 30) "are_places", ddOf (top 31) "largest_free", ddOf (top 33) "_law_drawn", ddOf (top 34) "_law_window", ddOf (top 35) "_law_windows", ddOf (top 36) "_law_best", ddOf (top 37) "law"]
def gl : List Str := (["is_int", "is_window", "are_windows", "check_windows", "check_window", "find_overlap", "overlap", "size", "cells_of", "all_cells", "covered", "is_size", "is_free", "all_places", "find_places", "places", "check_sizes", "find_all", "place_all", "are_places", "largest_free", "_law_drawn", "_law_window", "_law_windows", "_law_best", "law", "InvalidSize", "InvalidSizes", "InvalidWindow", "InvalidWindows"] : List Str) ++ (["PaneError"] : List Str)
def bl : List Str := ["ValueError", "all", "any", "bool", "enumerate", "int", "isinstance", "len", "list", "max", "min", "range", "set", "sorted", "tuple"]
def ci : List (Str × Int) := [("SCREEN", 12), ("MAX_WINDOWS", 6), ("MAX_SIZES", 3)]
def cs : List (Str × Str) := []
def ex : List Str := ["InvalidWindow", "InvalidWindows", "PaneError", "PaneError", "PaneError", "PaneError", "PaneError", "PaneError", "InvalidSize", "InvalidSizes", "PaneError", "PaneError", "PaneError"]
def loose : List Str := (["__name__", "PaneError", "InvalidWindow", "InvalidWindows", "InvalidSize", "InvalidSizes", "SCREEN", "MAX_WINDOWS", "is_int", "is_window", "are_windows", "check_windows", "check_window", "find_overlap", "overlap", "size", "cells_of", "all_cells", "covered", "MAX_SIZES", "is_size", "is_free", "all_places", "find_places", "places", "check_sizes", "find_all", "place_all", "are_places", "largest_free"] : List Str) ++ (["_law_drawn", "_law_window", "_law_windows", "_law_best"] : List Str)
abbrev R : PySem.W.OpenRow := PySem.W.OpenLaw.row PySem.Challenge.rw_panestacks_k58_whole_placing
def lam : List Str := ["largest_free"]
def bx (K : PySem.W.Frag) : Bool := true
abbrev hk : PySem.W.Hook := hookL 5 (faOf gl bl ci cs ex) fn bx lam
def ob (s : PySem.W.SharedT) : He.AlD × Bool := obsL 5 (faOf gl bl ci cs ex) fn bx lam (HandSHeadRun.getT s)
theorem ob_eq (s : PySem.W.SharedT) : ob s = hk.obs s.abs := obsL_eq (HandSHeadRun.getT_eq s)
theorem run (w : World) : HandSHeadRun.RunEq R (PySem.W.view R.prog [37]) hk ob 6000 loose w := by
  intro os
  kernel_rfl
variable [TabsIn]
section
variable {P : Program} {w : World} {K : PySem.W.Frag} {mg : Str → Option Value} {base : Heap}
abbrev MM (P : Program) (w : World) (K : PySem.W.Frag) (mg : Str → Option Value) : Prop := Md P w K mg gl bl ci cs ex fn
theorem g_is_int (M : MM P w K mg) (lg : ∀ x ∈ lam, LamG K mg base x) : FnG P w K mg base (clK K ex) 1 r_is_int := by
  refine def_g M (st := top 9) (x := "is_int") (N := ["value", "least", "most"]) (ps := ["value", "least", "most"]) (mu := []) (di := []) (tu := []) (Γ := []) (ss := ir_is_int) (j := 0) 0 (by rfl) (by decide +kernel) ⟨rfl, rfl, rfl, by decide +kernel, rfl, by decide +kernel, by decide +kernel⟩ (by kernel_rfl) (fun _ _ _ _ _ _ us hl => match us, hl with | [_, _, _], _ => rfl) ?_
  exact fun r hr => by cases hr
theorem g_is_window (M : MM P w K mg) (lg : ∀ x ∈ lam, LamG K mg base x) : FnG P w K mg base (clK K ex) 2 r_is_window := by
  refine def_g M (st := top 10) (x := "is_window") (N := ["candidate", "part"]) (ps := ["candidate"]) (mu := []) (di := []) (tu := []) (Γ := [r_is_int]) (ss := ir_is_window) (j := 1) 1 (by rfl) (by decide +kernel) ⟨rfl, rfl, rfl, by decide +kernel, rfl, by decide +kernel, by decide +kernel⟩ (by kernel_rfl) (fun _ _ _ _ _ _ us hl => match us, hl with | [_], _ => rfl) ?_
  exact fun r hr => by
    simp only [List.mem_cons, List.not_mem_nil, or_false] at hr
    rcases hr with rfl
    · exact (g_is_int M lg).up (by decide)
theorem g_are_windows (M : MM P w K mg) (lg : ∀ x ∈ lam, LamG K mg base x) : FnG P w K mg base (clK K ex) 3 r_are_windows := by
  refine def_g M (st := top 11) (x := "are_windows") (N := ["candidate", "window"]) (ps := ["candidate"]) (mu := []) (di := []) (tu := []) (Γ := [r_is_window]) (ss := ir_are_windows) (j := 2) 2 (by rfl) (by decide +kernel) ⟨rfl, rfl, rfl, by decide +kernel, rfl, by decide +kernel, by decide +kernel⟩ (by kernel_rfl) (fun _ _ _ _ _ _ us hl => match us, hl with | [_], _ => rfl) ?_
  exact fun r hr => by
    simp only [List.mem_cons, List.not_mem_nil, or_false] at hr
    rcases hr with rfl
    · exact (g_is_window M lg).up (by decide)
theorem g_check_windows (M : MM P w K mg) (lg : ∀ x ∈ lam, LamG K mg base x) : FnG P w K mg base (clK K ex) 4 r_check_windows := by
  refine def_g M (st := top 12) (x := "check_windows") (N := ["value"]) (ps := ["value"]) (mu := []) (di := []) (tu := []) (Γ := [r_are_windows]) (ss := ir_check_windows) (j := 3) 3 (by rfl) (by decide +kernel) ⟨rfl, rfl, rfl, by decide +kernel, rfl, by decide +kernel, by decide +kernel⟩ (by kernel_rfl) (fun _ _ _ _ _ _ us hl => match us, hl with | [_], _ => rfl) ?_
  exact fun r hr => by
    simp only [List.mem_cons, List.not_mem_nil, or_false] at hr
    rcases hr with rfl
    · exact (g_are_windows M lg).up (by decide)
theorem g_check_window (M : MM P w K mg) (lg : ∀ x ∈ lam, LamG K mg base x) : FnG P w K mg base (clK K ex) 3 r_check_window := by
  refine def_g M (st := top 13) (x := "check_window") (N := ["value"]) (ps := ["value"]) (mu := []) (di := []) (tu := []) (Γ := [r_is_window]) (ss := ir_check_window) (j := 2) 4 (by rfl) (by decide +kernel) ⟨rfl, rfl, rfl, by decide +kernel, rfl, by decide +kernel, by decide +kernel⟩ (by kernel_rfl) (fun _ _ _ _ _ _ us hl => match us, hl with | [_], _ => rfl) ?_
  exact fun r hr => by
    simp only [List.mem_cons, List.not_mem_nil, or_false] at hr
    rcases hr with rfl
    · exact (g_is_window M lg).up (by decide)
theorem g_find_overlap (M : MM P w K mg) (lg : ∀ x ∈ lam, LamG K mg base x) : FnG P w K mg base (clK K ex) 1 r_find_overlap := by
  refine def_g M (st := top 14) (x := "find_overlap") (N := ["one", "other", "found"]) (ps := ["one", "other"]) (mu := []) (di := []) (tu := []) (Γ := []) (ss := ir_find_overlap) (j := 0) 5 (by rfl) (by decide +kernel) ⟨rfl, rfl, rfl, by decide +kernel, rfl, by decide +kernel, by decide +kernel⟩ (by kernel_rfl) (fun _ _ _ _ _ _ us hl => match us, hl with | [_, _], _ => rfl) ?_
  exact fun r hr => by cases hr
theorem g_overlap (M : MM P w K mg) (lg : ∀ x ∈ lam, LamG K mg base x) : FnG P w K mg base (clK K ex) 4 r_overlap := by
  refine def_g M (st := top 15) (x := "overlap") (N := ["one", "other"]) (ps := ["one", "other"]) (mu := []) (di := []) (tu := []) (Γ := [r_check_window, r_find_overlap]) (ss := ir_overlap) (j := 3) 6 (by rfl) (by decide +kernel) ⟨rfl, rfl, rfl, by decide +kernel, rfl, by decide +kernel, by decide +kernel⟩ (by kernel_rfl) (fun _ _ _ _ _ _ us hl => match us, hl with | [_, _], _ => rfl) ?_
  exact fun r hr => by
    simp only [List.mem_cons, List.not_mem_nil, or_false] at hr
    rcases hr with rfl | rfl
    · exact (g_check_window M lg).up (by decide)
    · exact (g_find_overlap M lg).up (by decide)
theorem g_size (M : MM P w K mg) (lg : ∀ x ∈ lam, LamG K mg base x) : FnG P w K mg base (clK K ex) 4 r_size := by
  refine def_g M (st := top 16) (x := "size") (N := ["window"]) (ps := ["window"]) (mu := []) (di := []) (tu := []) (Γ := [r_check_window]) (ss := ir_size) (j := 3) 7 (by rfl) (by decide +kernel) ⟨rfl, rfl, rfl, by decide +kernel, rfl, by decide +kernel, by decide +kernel⟩ (by kernel_rfl) (fun _ _ _ _ _ _ us hl => match us, hl with | [_], _ => rfl) ?_
  exact fun r hr => by
    simp only [List.mem_cons, List.not_mem_nil, or_false] at hr
    rcases hr with rfl
    · exact (g_check_window M lg).up (by decide)
theorem g_cells_of (M : MM P w K mg) (lg : ∀ x ∈ lam, LamG K mg base x) : FnG P w K mg base (clK K ex) 1 r_cells_of := by
  refine def_g M (st := top 17) (x := "cells_of") (N := ["window", "x", "y"]) (ps := ["window"]) (mu := []) (di := []) (tu := []) (Γ := []) (ss := ir_cells_of) (j := 0) 8 (by rfl) (by decide +kernel) ⟨rfl, rfl, rfl, by decide +kernel, rfl, by decide +kernel, by decide +kernel⟩ (by kernel_rfl) (fun _ _ _ _ _ _ us hl => match us, hl with | [_], _ => rfl) ?_
  exact fun r hr => by cases hr
theorem g_all_cells (M : MM P w K mg) (lg : ∀ x ∈ lam, LamG K mg base x) : FnG P w K mg base (clK K ex) 2 r_all_cells := by
  refine def_g M (st := top 18) (x := "all_cells") (N := ["windows", "found", "window", "cell"]) (ps := ["windows"]) (mu := ["found"]) (di := []) (tu := ["found"]) (Γ := [r_cells_of]) (ss := ir_all_cells) (j := 1) 9 (by rfl) (by decide +kernel) ⟨rfl, rfl, rfl, by decide +kernel, rfl, by decide +kernel, by decide +kernel⟩ (by kernel_rfl) (fun _ _ _ _ _ _ us hl => match us, hl with | [_], _ => rfl) ?_
  exact fun r hr => by
    simp only [List.mem_cons, List.not_mem_nil, or_false] at hr
    rcases hr with rfl
    · exact (g_cells_of M lg).up (by decide)
theorem g_covered (M : MM P w K mg) (lg : ∀ x ∈ lam, LamG K mg base x) : FnG P w K mg base (clK K ex) 5 r_covered := by
  refine def_g M (st := top 19) (x := "covered") (N := ["windows"]) (ps := ["windows"]) (mu := []) (di := []) (tu := []) (Γ := [r_check_windows, r_all_cells]) (ss := ir_covered) (j := 4) 10 (by rfl) (by decide +kernel) ⟨rfl, rfl, rfl, by decide +kernel, rfl, by decide +kernel, by decide +kernel⟩ (by kernel_rfl) (fun _ _ _ _ _ _ us hl => match us, hl with | [_], _ => rfl) ?_
  exact fun r hr => by
    simp only [List.mem_cons, List.not_mem_nil, or_false] at hr
    rcases hr with rfl | rfl
    · exact (g_check_windows M lg).up (by decide)
    · exact (g_all_cells M lg).up (by decide)
theorem g_is_size (M : MM P w K mg) (lg : ∀ x ∈ lam, LamG K mg base x) : FnG P w K mg base (clK K ex) 2 r_is_size := by
  refine def_g M (st := top 22) (x := "is_size") (N := ["value", "part"]) (ps := ["value"]) (mu := []) (di := []) (tu := []) (Γ := [r_is_int]) (ss := ir_is_size) (j := 1) 11 (by rfl) (by decide +kernel) ⟨rfl, rfl, rfl, by decide +kernel, rfl, by decide +kernel, by decide +kernel⟩ (by kernel_rfl) (fun _ _ _ _ _ _ us hl => match us, hl with | [_], _ => rfl) ?_
  exact fun r hr => by
    simp only [List.mem_cons, List.not_mem_nil, or_false] at hr
    rcases hr with rfl
    · exact (g_is_int M lg).up (by decide)
theorem g_is_free (M : MM P w K mg) (lg : ∀ x ∈ lam, LamG K mg base x) : FnG P w K mg base (clK K ex) 2 r_is_free := by
  refine def_g M (st := top 23) (x := "is_free") (N := ["windows", "place", "window"]) (ps := ["windows", "place"]) (mu := []) (di := []) (tu := []) (Γ := [r_find_overlap]) (ss := ir_is_free) (j := 1) 12 (by rfl) (by decide +kernel) ⟨rfl, rfl, rfl, by decide +kernel, rfl, by decide +kernel, by decide +kernel⟩ (by kernel_rfl) (fun _ _ _ _ _ _ us hl => match us, hl with | [_, _], _ => rfl) ?_
  exact fun r hr => by
    simp only [List.mem_cons, List.not_mem_nil, or_false] at hr
    rcases hr with rfl
    · exact (g_find_overlap M lg).up (by decide)
theorem g_all_places (M : MM P w K mg) (lg : ∀ x ∈ lam, LamG K mg base x) : FnG P w K mg base (clK K ex) 1 r_all_places := by
  refine def_g M (st := top 24) (x := "all_places") (N := ["size", "found", "left", "top"]) (ps := ["size"]) (mu := ["found"]) (di := []) (tu := []) (Γ := []) (ss := ir_all_places) (j := 0) 13 (by rfl) (by decide +kernel) ⟨rfl, rfl, rfl, by decide +kernel, rfl, by decide +kernel, by decide +kernel⟩ (by kernel_rfl) (fun _ _ _ _ _ _ us hl => match us, hl with | [_], _ => rfl) ?_
  exact fun r hr => by cases hr
theorem g_find_places (M : MM P w K mg) (lg : ∀ x ∈ lam, LamG K mg base x) : FnG P w K mg base (clK K ex) 3 r_find_places := by
  refine def_g M (st := top 25) (x := "find_places") (N := ["windows", "size", "place"]) (ps := ["windows", "size"]) (mu := []) (di := []) (tu := []) (Γ := [r_all_places, r_is_free]) (ss := ir_find_places) (j := 2) 14 (by rfl) (by decide +kernel) ⟨rfl, rfl, rfl, by decide +kernel, rfl, by decide +kernel, by decide +kernel⟩ (by kernel_rfl) (fun _ _ _ _ _ _ us hl => match us, hl with | [_, _], _ => rfl) ?_
  exact fun r hr => by
    simp only [List.mem_cons, List.not_mem_nil, or_false] at hr
    rcases hr with rfl | rfl
    · exact (g_all_places M lg).up (by decide)
    · exact (g_is_free M lg).up (by decide)
theorem g_places (M : MM P w K mg) (lg : ∀ x ∈ lam, LamG K mg base x) : FnG P w K mg base (clK K ex) 5 r_places := by
  refine def_g M (st := top 26) (x := "places") (N := ["windows", "size"]) (ps := ["windows", "size"]) (mu := []) (di := []) (tu := []) (Γ := [r_check_windows, r_find_places, r_is_size]) (ss := ir_places) (j := 4) 15 (by rfl) (by decide +kernel) ⟨rfl, rfl, rfl, by decide +kernel, rfl, by decide +kernel, by decide +kernel⟩ (by kernel_rfl) (fun _ _ _ _ _ _ us hl => match us, hl with | [_, _], _ => rfl) ?_
  exact fun r hr => by
    simp only [List.mem_cons, List.not_mem_nil, or_false] at hr
    rcases hr with rfl | rfl | rfl
    · exact (g_check_windows M lg).up (by decide)
    · exact (g_find_places M lg).up (by decide)
    · exact (g_is_size M lg).up (by decide)
theorem g_check_sizes (M : MM P w K mg) (lg : ∀ x ∈ lam, LamG K mg base x) : FnG P w K mg base (clK K ex) 5 r_check_sizes := by
  refine def_g M (st := top 27) (x := "check_sizes") (N := ["windows", "sizes", "size"]) (ps := ["windows", "sizes"]) (mu := []) (di := []) (tu := []) (Γ := [r_check_windows, r_is_size]) (ss := ir_check_sizes) (j := 4) 16 (by rfl) (by decide +kernel) ⟨rfl, rfl, rfl, by decide +kernel, rfl, by decide +kernel, by decide +kernel⟩ (by kernel_rfl) (fun _ _ _ _ _ _ us hl => match us, hl with | [_, _], _ => rfl) ?_
  exact fun r hr => by
    simp only [List.mem_cons, List.not_mem_nil, or_false] at hr
    rcases hr with rfl | rfl
    · exact (g_check_windows M lg).up (by decide)
    · exact (g_is_size M lg).up (by decide)
theorem g_find_all_0 (M : MM P w K mg) (lg : ∀ x ∈ lam, LamG K mg base x) : FnG P w K mg base (clK K ex) 4 r_find_all_k58_0 :=
  def_b M (st := top 28) (x := "find_all") (N := ["windows", "sizes", "place", "rest"]) (ps := ["windows", "sizes"]) (j := 3) 17 (by rfl) (by decide +kernel) ⟨rfl, rfl, rfl, by decide +kernel, rfl, by decide +kernel, by decide +kernel⟩ (fun _ _ _ _ _ _ us hl => match us, hl with | [_, _], _ => rfl)
theorem g_find_all_1 (M : MM P w K mg) (lg : ∀ x ∈ lam, LamG K mg base x) : FnG P w K mg base (clK K ex) 5 r_find_all_k58_1 := by
  refine def_g M (st := top 28) (x := "find_all") (N := ["windows", "sizes", "place", "rest"]) (ps := ["windows", "sizes"]) (mu := []) (di := []) (tu := []) (Γ := [r_find_places, r_find_all_k58_0]) (ss := ir_find_all_k58) (j := 4) 17 (by rfl) (by decide +kernel) ⟨rfl, rfl, rfl, by decide +kernel, rfl, by decide +kernel, by decide +kernel⟩ (by kernel_rfl) (fun _ _ _ _ _ _ us hl => match us, hl with | [_, _], _ => rfl) ?_
  exact fun r hr => by
    simp only [List.mem_cons, List.not_mem_nil, or_false] at hr
    rcases hr with rfl | rfl
    · exact (g_find_places M lg).up (by decide)
    · exact (g_find_all_0 M lg).up (by decide)
theorem g_find_all_2 (M : MM P w K mg) (lg : ∀ x ∈ lam, LamG K mg base x) : FnG P w K mg base (clK K ex) 6 r_find_all_k58_2 := by
  refine def_g M (st := top 28) (x := "find_all") (N := ["windows", "sizes", "place", "rest"]) (ps := ["windows", "sizes"]) (mu := []) (di := []) (tu := []) (Γ := [r_find_places, r_find_all_k58_1]) (ss := ir_find_all_k58) (j := 5) 17 (by rfl) (by decide +kernel) ⟨rfl, rfl, rfl, by decide +kernel, rfl, by decide +kernel, by decide +kernel⟩ (by kernel_rfl) (fun _ _ _ _ _ _ us hl => match us, hl with | [_, _], _ => rfl) ?_
  exact fun r hr => by
    simp only [List.mem_cons, List.not_mem_nil, or_false] at hr
    rcases hr with rfl | rfl
    · exact (g_find_places M lg).up (by decide)
    · exact (g_find_all_1 M lg).up (by decide)
theorem g_find_all (M : MM P w K mg) (lg : ∀ x ∈ lam, LamG K mg base x) : FnG P w K mg base (clK K ex) 7 r_find_all_k58 := by
  refine def_g M (st := top 28) (x := "find_all") (N := ["windows", "sizes", "place", "rest"]) (ps := ["windows", "sizes"]) (mu := []) (di := []) (tu := []) (Γ := [r_find_places, r_find_all_k58_2]) (ss := ir_find_all_k58) (j := 6) 17 (by rfl) (by decide +kernel) ⟨rfl, rfl, rfl, by decide +kernel, rfl, by decide +kernel, by decide +kernel⟩ (by kernel_rfl) (fun _ _ _ _ _ _ us hl => match us, hl with | [_, _], _ => rfl) ?_
  exact fun r hr => by
    simp only [List.mem_cons, List.not_mem_nil, or_false] at hr
    rcases hr with rfl | rfl
    · exact (g_find_places M lg).up (by decide)
    · exact (g_find_all_2 M lg).up (by decide)
theorem g_place_all (M : MM P w K mg) (lg : ∀ x ∈ lam, LamG K mg base x) : FnG P w K mg base (clK K ex) 8 r_place_all_k58 := by
  refine def_g M (st := top 29) (x := "place_all") (N := ["windows", "sizes"]) (ps := ["windows", "sizes"]) (mu := []) (di := []) (tu := []) (Γ := [r_check_sizes, r_find_all_k58]) (ss := ir_place_all_k58) (j := 7) 18 (by rfl) (by decide +kernel) ⟨rfl, rfl, rfl, by decide +kernel, rfl, by decide +kernel, by decide +kernel⟩ (by kernel_rfl) (fun _ _ _ _ _ _ us hl => match us, hl with | [_, _], _ => rfl) ?_
  exact fun r hr => by
    simp only [List.mem_cons, List.not_mem_nil, or_false] at hr
    rcases hr with rfl | rfl
    · exact (g_check_sizes M lg).up (by decide)
    · exact (g_find_all M lg).up (by decide)
theorem g_are_places (M : MM P w K mg) (lg : ∀ x ∈ lam, LamG K mg base x) : FnG P w K mg base (clK K ex) 6 r_are_places := by
  refine def_g M (st := top 30) (x := "are_places") (N := ["windows", "sizes", "candidate", "place", "index"]) (ps := ["windows", "sizes", "candidate"]) (mu := []) (di := []) (tu := []) (Γ := [r_check_sizes, r_is_window, r_is_free]) (ss := ir_are_places) (j := 5) 19 (by rfl) (by decide +kernel) ⟨rfl, rfl, rfl, by decide +kernel, rfl, by decide +kernel, by decide +kernel⟩ (by kernel_rfl) (fun _ _ _ _ _ _ us hl => match us, hl with | [_, _, _], _ => rfl) ?_
  exact fun r hr => by
    simp only [List.mem_cons, List.not_mem_nil, or_false] at hr
    rcases hr with rfl | rfl | rfl
    · exact (g_check_sizes M lg).up (by decide)
    · exact (g_is_window M lg).up (by decide)
    · exact (g_is_free M lg).up (by decide)
theorem g_largest_free (M : MM P w K mg) (lg : ∀ x ∈ lam, LamG K mg base x) : FnG P w K mg base (clK K ex) 5 r_largest_free_k58 := by
  refine def_sg M (st := top 31) (x := "largest_free") (y := "sizes") (N := ["windows", "sizes", "width", "height", "best", "size", "cells", "place"]) (ps := ["windows"]) (mu := []) (di := []) (tu := []) (Γ := [r_check_windows, r_find_places]) (l := pre_largest_free_k58) (sb := irb_largest_free_k58) (sp := irp_largest_free_k58) (j := 4) (pre := (defBody (top 31)).take 3) (lg _ (by decide +kernel)) 20 (by rfl) (by decide +kernel) ⟨rfl, rfl, rfl, by decide +kernel, rfl, by decide +kernel, by decide +kernel⟩ (by rfl) ⟨rfl, rfl, rfl, rfl⟩ (by decide +kernel) (by decide +kernel) (by kernel_rfl) (by kernel_rfl) (by kernel_rfl) (by kernel_rfl) (by kernel_rfl) (fun _ _ _ _ _ _ us hl => match us, hl with | [_], _ => rfl) ?_
  exact fun r hr => by
    simp only [List.mem_cons, List.not_mem_nil, or_false] at hr
    rcases hr with rfl | rfl
    · exact (g_check_windows M lg).up (by decide)
    · exact (g_find_places M lg).up (by decide)
theorem g__law_drawn (M : MM P w K mg) (lg : ∀ x ∈ lam, LamG K mg base x) : FnG P w K mg base (clK K ex) 1 r__law_drawn_2 := by
  refine def_g M (st := top 33) (x := "_law_drawn") (N := ["script", "k", "many", "cell", "turn", "rest"]) (ps := ["script", "k", "many"]) (mu := []) (di := []) (tu := []) (Γ := []) (ss := ir__law_drawn_2) (j := 0) 21 (by rfl) (by decide +kernel) ⟨rfl, rfl, rfl, by decide +kernel, rfl, by decide +kernel, by decide +kernel⟩ (by kernel_rfl) (fun _ _ _ _ _ _ us hl => match us, hl with | [_, _, _], _ => rfl) ?_
  exact fun r hr => by cases hr
theorem g__law_window (M : MM P w K mg) (lg : ∀ x ∈ lam, LamG K mg base x) : FnG P w K mg base (clK K ex) 2 r__law_window := by
  refine def_g M (st := top 34) (x := "_law_window") (N := ["script", "at", "left", "top"]) (ps := ["script", "at"]) (mu := []) (di := []) (tu := []) (Γ := [r__law_drawn_2]) (ss := ir__law_window) (j := 1) 22 (by rfl) (by decide +kernel) ⟨rfl, rfl, rfl, by decide +kernel, rfl, by decide +kernel, by decide +kernel⟩ (by kernel_rfl) (fun _ _ _ _ _ _ us hl => match us, hl with | [_, _], _ => rfl) ?_
  exact fun r hr => by
    simp only [List.mem_cons, List.not_mem_nil, or_false] at hr
    rcases hr with rfl
    · exact (g__law_drawn M lg).up (by decide)
theorem g__law_windows (M : MM P w K mg) (lg : ∀ x ∈ lam, LamG K mg base x) : FnG P w K mg base (clK K ex) 3 r__law_windows := by
  refine def_g M (st := top 35) (x := "_law_windows") (N := ["script", "at", "most", "found", "k", "left", "top", "right", "bottom", "near", "start", "above"]) (ps := ["script", "at", "most"]) (mu := ["found"]) (di := []) (tu := []) (Γ := [r__law_drawn_2, r__law_window]) (ss := ir__law_windows) (j := 2) 23 (by rfl) (by decide +kernel) ⟨rfl, rfl, rfl, by decide +kernel, rfl, by decide +kernel, by decide +kernel⟩ (by kernel_rfl) (fun _ _ _ _ _ _ us hl => match us, hl with | [_, _, _], _ => rfl) ?_
  exact fun r hr => by
    simp only [List.mem_cons, List.not_mem_nil, or_false] at hr
    rcases hr with rfl | rfl
    · exact (g__law_drawn M lg).up (by decide)
    · exact (g__law_window M lg).up (by decide)
theorem g__law_best (M : MM P w K mg) (lg : ∀ x ∈ lam, LamG K mg base x) : FnG P w K mg base (clK K ex) 6 r__law_best_k58 := by
  refine def_g M (st := top 36) (x := "_law_best") (N := ["windows", "found", "cells", "best", "window", "many", "wide", "rows"]) (ps := ["windows", "found", "cells"]) (mu := []) (di := []) (tu := []) (Γ := [r_largest_free_k58, r_size, r_covered, r_places, r_overlap]) (ss := ir__law_best_k58) (j := 5) 24 (by rfl) (by decide +kernel) ⟨rfl, rfl, rfl, by decide +kernel, rfl, by decide +kernel, by decide +kernel⟩ (by kernel_rfl) (fun _ _ _ _ _ _ us hl => match us, hl with | [_, _, _], _ => rfl) ?_
  exact fun r hr => by
    simp only [List.mem_cons, List.not_mem_nil, or_false] at hr
    rcases hr with rfl | rfl | rfl | rfl | rfl
    · exact (g_largest_free M lg).up (by decide)
    · exact (g_size M lg).up (by decide)
    · exact (g_covered M lg).up (by decide)
    · exact (g_places M lg).up (by decide)
    · exact (g_overlap M lg).up (by decide)
theorem ok_law {fd : FuncData} (M : MM P w K mg) (lg : ∀ x ∈ lam, LamG K mg base x) (F : FunD K "law" "law" (defArgs (top 37)) (defBody (top 37)) (defScope (top 37)) [] [] (He.ga K "law") fd) : FnOk P w K mg base (L2.CX P w) 9 (He.ga K "law") fd ["script"] (spOf K (clK K ex) 1 r_law_k58.sem) := by
  refine def_k M (st := top 37) (x := "law") (N := ["script", "windows", "wide", "high", "found", "place", "window", "turned", "left", "top", "right", "bottom", "other"]) (ps := ["script"]) (mu := []) (di := []) (tu := []) (Γ := [r__law_windows, r_places, r__law_best_k58, r_largest_free_k58, r__law_drawn_2, r_covered, r_place_all_k58, r_are_places, r_size, r_overlap]) (ss := ir_law_k58) (j := 8) F ⟨rfl, rfl, rfl, by decide +kernel, rfl, by decide +kernel, by decide +kernel⟩ (by kernel_rfl) ?_
  exact fun r hr => by
    simp only [List.mem_cons, List.not_mem_nil, or_false] at hr
    rcases hr with rfl | rfl | rfl | rfl | rfl | rfl | rfl | rfl | rfl | rfl
    · exact (g__law_windows M lg).up (by decide)
    · exact (g_places M lg).up (by decide)
    · exact (g__law_best M lg).up (by decide)
    · exact (g_largest_free M lg).up (by decide)
    · exact (g__law_drawn M lg).up (by decide)
    · exact (g_covered M lg).up (by decide)
    · exact (g_place_all M lg).up (by decide)
    · exact (g_are_places M lg).up (by decide)
    · exact (g_size M lg).up (by decide)
    · exact (g_overlap M lg).up (by decide)
end
end Hd
open PySem PySem.W PySem.Calls PyProof.Rows
theorem PySem.Challenge.cw_panestacks_k58_whole_placing_holds : PySem.Challenge.rw_panestacks_k58_whole_placing.Holds := by
  w_on; o_law
  refine HandSHeadRun.head_any (r := OpenLaw.row PySem.Challenge.rw_panestacks_k58_whole_placing) (q := view (OpenLaw.row PySem.Challenge.rw_panestacks_k58_whole_placing).prog [37]) (H := Hd.hk) (ob := Hd.ob) (M := 6000) (loose := Hd.loose) (d := HandSHeadRun.topDef (OpenLaw.row PySem.Challenge.rw_panestacks_k58_whole_placing).prog 37) (kwd := []) Hd.ob_eq
    (by kernel_rfl) (fun s => by kernel_rfl) Hd.run (by kernel_rfl) (by kernel_rfl) (by kernel_rfl) (by rfl) (by first | assumption | decide +kernel) (by decide +kernel) ⟨rfl, rfl, rfl, rfl, rfl, by decide +kernel⟩ ?hw ?hc
  case hw => w_witness2
  case hc =>
    refine LamX.walk_ofTsE (l := PySem.Challenge.rw_panestacks_k58_whole_placing) (n := 63) (k := 9) (x := "script") (CX := fun w => L2.CX (PySem.Challenge.rw_panestacks_k58_whole_placing).prog w) rfl (by decide) (by kernel_rfl) ⟨rfl, by decide, by decide⟩ ?F (fun w H s e s' z => Pan.cx_false _ w H s e s' z)
    intro w mg fa h Y G hmg0
    obtain ⟨K, KX, c, hbx, hlm, htb⟩ := Y
    have hmg : mg ("law" : PySem.Str) = some (.ref fa) := by
      have e : (HandSHeadRun.topDef (OpenLaw.row PySem.Challenge.rw_panestacks_k58_whole_placing).prog 37).name = ("law" : PySem.Str) := by kernel_rfl
      rw [← e]
      exact hmg0
    have M : Hd.MM (PySem.Challenge.rw_panestacks_k58_whole_placing).prog w K mg := ⟨⟨h, KX, G, c⟩, by decide +kernel⟩
    obtain ⟨fd, F, hm⟩ := M.def_ (st := Hd.top 37) (x := "law") 25 (by rfl) (by decide +kernel)
    rw [hm] at hmg
    cases hmg
    have b := L2.FunD.bindsA (ps := ["script"]) F fun _ _ _ _ _ _ us hl => match us, hl with | [_], _ => rfl
    refine ⟨K, KX, Pan.law_lam (lam := Hd.lam) (cl := Pan.clK K Hd.ex) KX hlm htb (fun s u => b s [u] rfl) Pan.math_k58 fun base lg => ?_⟩
    exact @Hd.ok_law (Pan.tabsI Hd.lam K) _ _ _ _ _ _ M lg F
