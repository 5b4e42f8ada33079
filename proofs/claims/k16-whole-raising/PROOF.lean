import PyProof.Rows.All
import Wide.All
import OpenK.AllK
import Wide.FinOn
import HandS.ForMost
import HandS.ForExc
import HandS.Walk
import HandS.Zip
import HandS.Wide
import HandS.TupAny
import HandS.TupMul
import HandS.Deep
import HandS.Style
import HandS.IsInst
import HandS.Conv
import HandS.SortInts
import HandS.Strs
import HandS.SortRule
import KE.KDictSum
import HandS.Set
import HandS.TupSets
import HandS.Iter
import HandS.DictComp
import KE.KDictPairs
import KE.KDictDisplayH
import PyProof.Rows.TupDisplay
import HandS.SetFor
import KE.GoesMore
import HandS.HeadHook1
import HandS.HeadHook2
import HandS.HeadEnd
import HandS.ExcIs
import KE.KStateDown
import HandS.Head0
import HandS.Head1
import HandS.Head2
import PySem.Challenge.RW_panestacks_k16_whole_raising
set_option Elab.async false
set_option linter.all false
set_option maxRecDepth 100000
set_option autoImplicit false
/-! Panestacks, part A: data without a heap, and a small evaluator of a resolved form of the program's defs. -/
namespace Pan
open PySem L2

/-- data -/
inductive D where
  | non
  | bl (b : Bool)
  | int (i : Int)
  | str (x : Str)
  | tup (xs : List D)
  | lst (xs : List D)
  /-- a pair that a walk has just made -/
  | prs (xs : List D)
  /-- a dict; whether its keys are tuples -/
  | dic (t : Bool) (kvs : List (D × D))
  | ty (n : String)
  /-- the law's script -/
  | scr (ns : List Int)
  deriving Inhabited

/-- an answer: a value, an exception of the program's own (by its number), or nothing that is told -/
inductive R (α : Type) where
  | ok (a : α)
  | exc (c : Nat)
  | bad
  deriving Inhabited

def R.bind {α β : Type} : R α → (α → R β) → R β
  | .ok a, f => f a
  | .exc c, _ => .exc c
  | .bad, _ => .bad
instance : Monad R where
  pure := .ok
  bind := R.bind
@[simp] theorem bind_ok {α β : Type} (a : α) (f : α → R β) : (R.ok a >>= f) = f a := rfl
@[simp] theorem bind_exc {α β : Type} (c : Nat) (f : α → R β) : ((R.exc c : R α) >>= f) = .exc c := rfl
@[simp] theorem bind_bad {α β : Type} (f : α → R β) : ((R.bad : R α) >>= f) = .bad := rfl
@[simp] theorem pure_ok {α : Type} (a : α) : (pure a : R α) = .ok a := rfl
/-- what may not be raised here is not told -/
def R.calm {α : Type} : R α → R α
  | .ok a => .ok a
  | _ => .bad
@[simp] theorem calm_ok {α : Type} (a : α) : (R.ok a).calm = .ok a := rfl

/-- a local name's place: empty, data that stays, or a list or dict that this def alone holds and may change -/
inductive Slot where
  | no
  | val (d : D)
  | own (d : D)
  /-- an exception of the class c, at a -/
  | held (c a : Nat)
  deriving Inhabited
abbrev Env := List Slot
def wipeE (e : Env) : List Nat → Env
  | [] => e
  | v :: vs => (wipeE e vs).set v .no

/-! ### equality, shape -/
def b2i (b : Bool) : Int := if b then 1 else 0
mutual
def eqv : D → D → Bool
  | .non, .non => true
  | .bl a, .bl b => a == b
  | .bl a, .int j => b2i a == j
  | .int i, .bl b => i == b2i b
  | .int i, .int j => i == j
  | .str x, .str y => x == y
  | .lst xs, .lst ys => eqvs xs ys
  | .tup xs, .tup ys => eqvs xs ys
  | _, _ => false
def eqvs : List D → List D → Bool
  | [], [] => true
  | x :: xs, y :: ys => eqv x y && eqvs xs ys
  | _, _ => false
end
/-- no dict, no class, not deeper than n -/
def okd : Nat → D → Bool
  | _, .non => true
  | _, .bl _ => true
  | _, .int _ => true
  | _, .str x => PyData.strOk x
  | n + 1, .tup xs => xs.all (okd n)
  | n + 1, .lst xs => xs.all (okd n)
  | _, _ => false
/-- flat: no tuple, list, dict -/
def flatD : D → Bool
  | .non => true
  | .bl _ => true
  | .int _ => true
  | .str _ => true
  | _ => false

/-! ### operators -/
def cutL {α : Type} (xs : List α) (lo hi : Option Int) : List α := (xs.drop (HT.sIx xs.length 0 lo)).take (HT.sIx xs.length xs.length hi - HT.sIx xs.length 0 lo)
def fitL {α : Type} (xs : List α) (k : List α → D) : R D := if xs.length ≤ sizeLine then .ok (k xs) else .bad
def divS (i j : Int) : R D := if 0 < j ∧ j < 2 ^ 64 then .ok (.int (i / j)) else .bad
def mulS (i j : Int) : R D := if (-(2 ^ 64) < i ∧ i < 2 ^ 64) ∨ (-(2 ^ 64) < j ∧ j < 2 ^ 64) then .ok (.int (i * j)) else .bad
def binS : Operator → D → D → R D
  | .Add, .int i, .int j => .ok (.int (i + j))
  | .Add, .str x, .str y => if x.length + y.length ≤ sizeLine then .ok (.str (x ++ y)) else .bad
  | .Add, .tup xs, .tup ys => fitL (xs ++ ys) .tup
  | .Add, .lst xs, .lst ys => fitL (xs ++ ys) .lst
  | .Sub, .int i, .int j => .ok (.int (i - j))
  | .Mult, .int i, .int j => mulS i j
  | .Mult, .tup xs, .int k => if 2 ≤ k ∧ k ≤ 1000 ∧ xs.length ≤ 1000 ∧ 0 < xs.length then .ok (.tup (List.replicate k.toNat xs).flatten) else .bad
  | .Mult, .lst xs, .int k => if 0 ≤ k ∧ k ≤ 1000 ∧ xs.length ≤ 1000 then .ok (.lst (List.replicate k.toNat xs).flatten) else .bad
  | .FloorDiv, .int i, .int j => divS i j
  | .Mod, .int i, .int j => if 0 < j then .ok (.int (i % j)) else .bad
  | .Pow, .int i, .int j => if 0 ≤ j ∧ j ≤ 1000 ∧ i.natAbs < 2 ^ 64 then .ok (.int (i ^ j.toNat)) else .bad
  | _, _, _ => .bad
def intsOf : List D → Option (List Int)
  | [] => some []
  | .int i :: r => (intsOf r).map (i :: ·)
  | _ => none
def dlook (k : D) : List (D × D) → Option D
  | [] => none
  | (a, v) :: r => if eqv a k then some v else dlook k r
def dput (k v : D) (kvs : List (D × D)) : List (D × D) :=
  if kvs.any (fun p => eqv p.1 k) then kvs.map (fun p => if eqv p.1 k then (p.1, v) else p) else kvs ++ [(k, v)]
/-- of one kind: ints; tuples of ints -/
def isIntD : D → Bool
  | .int _ => true
  | _ => false
/-- a dict's key: an int or a text, or a tuple of ints -/
def keyD : D → Bool
  | .int _ => true
  | .str _ => true
  | _ => false
def keyT : D → Bool
  | .tup xs => xs.all isIntD
  | _ => false
def keyOf (t : Bool) (d : D) : Bool := if t then keyT d else keyD d
def inS (a : D) : D → R Bool
  | .tup xs => if flatD a && xs.all flatD then .ok (xs.any (eqv · a)) else .bad
  | .lst xs => if okd 8 a && xs.all (okd 8) then .ok (xs.any (eqv · a)) else .bad
  | .dic t kvs => if keyOf t a then .ok (dlook a kvs).isSome else .bad
  | .str z => match a with
    | .str y => (match y.cps.toList with
      | [c] => .ok (decide (c ∈ z.cps.toList))
      | _ => .bad)
    | _ => .bad
  | _ => .bad
def isS (a : D) : D → R Bool
  | .non => match a with
    | .non => .ok true
    | _ => .ok false
  | .bl b => match a with
    | .bl c => .ok (c == b)
    | .non => .ok false
    | _ => .bad
  | _ => .bad
def ltS : D → D → R Bool
  | .int i, .int j => .ok (decide (i < j))
  | .tup xs, .tup ys => match intsOf xs, intsOf ys with
    | some ns, some ms => .ok (HT.lexLt ns ms)
    | _, _ => .bad
  | _, _ => .bad
def cmpS : CmpOp → D → D → R Bool
  | .Eq, .scr ns, .lst [] => .ok ns.isEmpty
  | .NotEq, .scr ns, .lst [] => .ok (!ns.isEmpty)
  | .Eq, a, b => if okd 8 a && okd 8 b then .ok (eqv a b) else .bad
  | .NotEq, a, b => if okd 8 a && okd 8 b then .ok (!eqv a b) else .bad
  | .Lt, a, b => ltS a b
  | .LtE, .int i, .int j => .ok (decide (i ≤ j))
  | .Gt, .int i, .int j => .ok (decide (j < i))
  | .GtE, .int i, .int j => .ok (decide (j ≤ i))
  | .In, a, b => inS a b
  | .NotIn, a, b => do let r ← inS a b; .ok (!r)
  | .Is, a, b => isS a b
  | .IsNot, a, b => do let r ← isS a b; .ok (!r)
  | _, _, _ => .bad
def ixS : D → D → R D
  | .scr ns, .int i => match atI ns i with
    | some d => .ok (.int d)
    | none => .bad
  | .lst xs, .int i => match atI xs i with
    | some d => .ok d
    | none => .bad
  | .tup xs, .int i => match atI xs i with
    | some d => .ok d
    | none => .bad
  | .str z, .int i => if z.length ≤ sizeLine then (match atI z.cps.toList i with
    | some c => .ok (.str ⟨#[c]⟩)
    | none => .bad) else .bad
  | .dic t kvs, k => if keyOf t k then (match dlook k kvs with
    | some v => .ok v
    | none => .bad) else .bad
  | _, _ => .bad
def slS : D → Option Int → Option Int → R D
  | .lst xs, lo, hi => .ok (.lst (cutL xs lo hi))
  | .tup xs, lo, hi => .ok (.tup (cutL xs lo hi))
  | .str z, lo, hi => if z.length ≤ sizeLine then .ok (.str (cutS z lo hi)) else .bad
  | _, _, _ => .bad
def revS : D → R D
  | .lst xs => .ok (.lst xs.reverse)
  | _ => .bad
/-! ### built-ins -/
inductive Bi where
  | len | max | min | abs | all | any | sum | tuple | list | sorted | str | int | isinst | dict | sortset | lenset | lrange
  deriving DecidableEq
inductive Mt where
  | index | count | split | join
  deriving DecidableEq
/-- what is walked: a list or tuple, range(n), range(a, b), enumerate, zip, a dict's keys -/
inductive IK where
  | seq | rng1 | rng2 | enum | zip | keys
  deriving DecidableEq
def rangeD (lo : Int) (n : Nat) : List D := (List.range n).map fun (i : Nat) => .int (lo + i)
def enumD (xs : List D) : List D := xs.mapIdx fun i d => .prs [.int (i : Nat), d]
def zipD (xs ys : List D) : List D := (xs.zip ys).map fun p => .prs [p.1, p.2]
def seqOf : D → Option (List D)
  | .lst xs => some xs
  | .tup xs => some xs
  | _ => none
def smallI (i : Int) : Bool := decide (-(2 ^ 62) ≤ i) && decide (i < 2 ^ 62)
def itS : IK → List D → R (List D)
  | .seq, [.lst xs] => .ok xs
  | .seq, [.tup xs] => .ok xs
  | .rng1, [.int n] => if smallI n && decide (n ≤ sizeLine) then .ok (rangeD 0 n.toNat) else .bad
  | .rng2, [.int a, .int b] => if smallI a && smallI b && decide (b - a ≤ sizeLine) then .ok (rangeD a (b - a).toNat) else .bad
  | .enum, [.lst xs] => .ok (enumD xs)
  | .enum, [.tup xs] => .ok (enumD xs)
  | .zip, [.lst xs, .lst ys] => .ok (zipD xs ys)
  | .zip, [.tup xs, .tup ys] => .ok (zipD xs ys)
  | .keys, [.dic _ kvs] => .ok (kvs.map (·.1))
  | _, _ => .bad
def boolsOf : List D → Option (List Bool)
  | [] => some []
  | .bl b :: r => (boolsOf r).map (b :: ·)
  | _ => none
/-- an item's rank: ints, tuples of ints, pairs of an int and a tuple of ints -/
def kL : D → List Int
  | .int i => [i]
  | .tup [.int n, .tup xs] => n :: (intsOf xs).getD []
  | .tup xs => (intsOf xs).getD []
  | _ => []
/-- d goes behind all that are not greater -/
def insD (d : D) : List D → List D
  | [] => [d]
  | e :: r => if HT.lexLt (kL d) (kL e) then d :: e :: r else e :: insD d r
def sortD (xs : List D) : List D := xs.foldl (fun acc d => insD d acc) []
def isTupI : D → Bool
  | .tup xs => !xs.isEmpty && xs.all isIntD
  | _ => false
def isTupN : D → Bool
  | .tup [.int _, .tup xs] => xs.all isIntD
  | _ => false
def sortable (xs : List D) : Bool := xs.all isIntD || (xs.all isTupI || xs.all isTupN)
def sortS (xs : List D) : R D := if sortable xs then .ok (.lst (sortD xs)) else .bad
def dedupD : List D → List D → List D
  | [], acc => acc
  | d :: r, acc => if acc.any (eqv · d) then dedupD r acc else dedupD r (acc ++ [d])
/-- None or an int -/
def isOptI : D → Bool
  | .non => true
  | .int _ => true
  | _ => false
/-- a tuple of such -/
def tupK : D → Bool
  | .tup xs => xs.all isOptI
  | _ => false
/-- what a set is made of: ints; tuples, less than 64 different ones -/
def setable (xs : List D) : Bool := (xs.all isIntD && decide (xs.length < 4000)) || (xs.all isTupI && (decide (xs.length < 64) || decide ((dedupD xs []).length < 63)))
/-- pairs whose keys are tuples of ints -/
def pairsOf : List D → Option (List (D × D))
  | [] => some []
  | .tup [k, v] :: r => if keyT k then (pairsOf r).map ((k, v) :: ·) else none
  | _ => none
def dictS (xs : List D) : R D := match pairsOf xs with
  | some ps => .ok (.dic true (ps.foldl (fun acc p => dput p.1 p.2 acc) []))
  | none => .bad
def classes : List String := ["int", "bool", "str", "tuple", "list"]
def isInstS : D → String → Bool
  | .int _, n => n == "int"
  | .bl _, n => n == "int" || n == "bool"
  | .str _, n => n == "str"
  | .tup _, n => n == "tuple"
  | .lst _, n => n == "list"
  | _, _ => false
def maxI (n : Int) (ns : List Int) : Int := ns.foldl (fun a b => if b > a then b else a) n
def minI (n : Int) (ns : List Int) : Int := ns.foldl (fun a b => if b < a then b else a) n
def biS : Bi → List D → R D
  | .len, [.scr ns] => .ok (.int ns.length)
  | .len, [.lst xs] => .ok (.int xs.length)
  | .len, [.tup xs] => .ok (.int xs.length)
  | .len, [.str z] => if z.length ≤ sizeLine then .ok (.int z.length) else .bad
  | .max, [.int i, .int j] => .ok (.int (if j > i then j else i))
  | .min, [.int i, .int j] => .ok (.int (if j < i then j else i))
  | .max, [.lst xs] => match intsOf xs with
    | some (n :: ns) => .ok (.int (maxI n ns))
    | _ => .bad
  | .min, [.lst xs] => match intsOf xs with
    | some (n :: ns) => .ok (.int (minI n ns))
    | _ => .bad
  | .abs, [.int i] => .ok (.int (if i < 0 then -i else i))
  | .all, [.lst xs] => match boolsOf xs with
    | some bs => .ok (.bl (bs.all id))
    | none => .bad
  | .any, [.lst xs] => match boolsOf xs with
    | some bs => .ok (.bl (bs.any id))
    | none => .bad
  | .sum, [.lst xs] => match intsOf xs with
    | some ns => .ok (.int ns.sum)
    | none => .bad
  | .tuple, [.lst xs] => .ok (.tup xs)
  | .tuple, [.tup xs] => .ok (.tup xs)
  | .list, [.lst xs] => .ok (.lst xs)
  | .list, [.tup xs] => .ok (.lst xs)
  | .lrange, [.int n] => if smallI n && decide (n ≤ sizeLine) then .ok (.lst (rangeD 0 n.toNat)) else .bad
  | .sorted, [.lst xs] => sortS xs
  | .sorted, [.tup xs] => sortS xs
  | .sorted, [.dic _ kvs] => sortS (kvs.map (·.1))
  | .sortset, [.lst xs] => if setable xs then sortS (dedupD xs []) else .bad
  | .lenset, [.lst xs] => if xs.all tupK && decide ((dedupD xs []).length < 64) then .ok (.int (dedupD xs []).length) else .bad
  | .dict, [.lst xs] => dictS xs
  | .isinst, [d, .ty n] => if okd 8 d && classes.contains n then .ok (.bl (isInstS d n)) else .bad
  | _, _ => .bad
/-- what has such a method -/
def mtOk : Mt → D → Bool
  | .index, .tup _ => true
  | .index, .lst _ => true
  | .count, .lst _ => true
  | .split, .str _ => true
  | .join, .str _ => true
  | _, _ => false
def mtS : Mt → D → List D → R D
  | .index, .tup xs, [d] => if okd 4 d && xs.all (okd 4) then (match xs.findIdx? (eqv · d) with
    | some i => .ok (.int i)
    | none => .bad) else .bad
  | .index, .lst xs, [d] => if okd 4 d && xs.all (okd 4) then (match xs.findIdx? (eqv · d) with
    | some i => .ok (.int i)
    | none => .bad) else .bad
  | .count, .lst xs, [d] => if okd 4 d && xs.all (okd 4) then .ok (.int (xs.countP (eqv · d))) else .bad
  | _, _, _ => .bad

/-! ### the resolved form -/
/-- where an item goes: one name, or the names of a tuple -/
inductive G where
  | name (i : Nat)
  | tup (is : List Nat)
mutual
inductive E where
  | var (i : Nat)
  | ovar (i : Nat)
  | lit (d : D)
  /-- {} ; whether its keys will be tuples -/
  | dnew (t : Bool)
  | bin (o : Operator) (a b : E)
  | neg (a : E)
  | not (a : E)
  | and (es : Es)
  | or (es : Es)
  | cmp (o : CmpOp) (a b : E)
  | chain (o p : CmpOp) (a b c : E)
  | ife (c a b : E)
  | tup (es : Es)
  | lst (es : Es)
  | ix (a b : E)
  | sl (a : E) (lo hi : O)
  | rev (a : E)
  | call (f : Nat) (es : Es)
  /-- [f, g, ..][w](..) -/
  | callx (fs : List Nat) (w : E) (es : Es)
  | bi (b : Bi) (es : Es)
  | mt (m : Mt) (o : E) (es : Es)
  | lc (vs : List Nat) (g : G) (k : IK) (src : Es) (t : O) (e : E)
  /-- {k: v}, the key a tuple -/
  | dsp (kx vx : E)
  | dc (vs : List Nat) (g : G) (k : IK) (src : Es) (t : O) (kx vx : E)
  | lc2 (vs : List Nat) (g : G) (k : IK) (src : Es) (t : O) (vs1 : List Nat) (g1 : G) (k1 : IK) (src1 : Es) (t1 : O) (e : E)
inductive Es where
  | nil
  | cons (e : E) (r : Es)
inductive O where
  | none
  | some (e : E)
end
def set1 (e : Env) (i : Nat) (d : D) : Env := e.set i (.val d)
def sets (e : Env) : List Nat → List D → Option Env
  | [], [] => some e
  | i :: r, d :: ds => sets (set1 e i d) r ds
  | _, _ => none
def asgG : G → D → Env → R Env
  | .name i, d, e => .ok (set1 e i d)
  | .tup is, .tup xs, e => match sets e is xs with
    | some e' => .ok e'
    | none => .bad
  | .tup is, .prs xs, e => match sets e is xs with
    | some e' => .ok e'
    | none => .bad
  | _, _, _ => .bad
def asB : D → R Bool
  | .bl b => .ok b
  | _ => .bad
def asI : D → R Int
  | .int i => .ok i
  | _ => .bad
def lcM : List D → (D → R (List D)) → R (List D)
  | [], _ => .ok []
  | d :: ds, f => do
    let xs ← f d
    let ys ← lcM ds f
    .ok (xs ++ ys)
/-- pairs put into a dict -/
def putAll : List D → List (D × D) → List (D × D)
  | [], acc => acc
  | .prs [k, v] :: r, acc => putAll r (dput k v acc)
  | _ :: r, acc => putAll r acc
def getV (e : Env) (i : Nat) : R D := match e[i]? with
  | some (.val d) => .ok d
  | _ => .bad
def getO (e : Env) (i : Nat) : R D := match e[i]? with
  | some (.val d) => .ok d
  | some (.own d) => .ok d
  | _ => .bad
def pickF (fs : List Nat) : D → R Nat
  | .int i => if 0 ≤ i then (match fs[i.toNat]? with
    | some f => .ok f
    | none => .bad) else .bad
  | _ => .bad
mutual
def ev (Φ : Nat → List D → R D) : E → Env → R D
  | .var i, e => getV e i
  | .ovar i, e => getO e i
  | .lit d, _ => .ok d
  | .dnew t, _ => .ok (.dic t [])
  | .bin o a b, e => do let x ← ev Φ a e; let y ← ev Φ b e; binS o x y
  | .neg a, e => do let x ← ev Φ a e; let i ← asI x; .ok (.int (-i))
  | .not a, e => do let x ← ev Φ a e; let b ← asB x; .ok (.bl (!b))
  | .and es, e => evAnd Φ es e
  | .or es, e => evOr Φ es e
  | .cmp o a b, e => do let x ← ev Φ a e; let y ← ev Φ b e; let r ← cmpS o x y; .ok (.bl r)
  | .chain o p a b c, e => do
    let x ← ev Φ a e
    let y ← ev Φ b e
    let r ← cmpS o x y
    if r then do let z ← ev Φ c e; let q ← cmpS p y z; .ok (.bl q) else .ok (.bl false)
  | .ife c a b, e => do let x ← ev Φ c e; let t ← asB x; if t then ev Φ a e else ev Φ b e
  | .tup es, e => do let xs ← evs Φ es e; fitL xs .tup
  | .lst es, e => do let xs ← evs Φ es e; fitL xs .lst
  | .ix a b, e => do let x ← ev Φ a e; let y ← ev Φ b e; ixS x y
  | .sl a lo hi, e => do let x ← ev Φ a e; let l ← evO Φ lo e; let h ← evO Φ hi e; slS x l h
  | .rev a, e => do let x ← ev Φ a e; revS x
  | .call f es, e => do let xs ← evs Φ es e; Φ f xs
  | .callx fs w es, e => do let x ← ev Φ w e; let f ← pickF fs x; let xs ← evs Φ es e; Φ f xs
  | .bi b es, e => do let xs ← evs Φ es e; biS b xs
  | .mt m o es, e => do let x ← ev Φ o e; if mtOk m x then do let xs ← evs Φ es e; mtS m x xs else .bad
  | .lc vs g k src t b, e => do
    let ss ← evs Φ src e
    let ds ← itS k ss
    let r ← (lcM ds fun d => do
      let e1 ← asgG g d (wipeE e vs)
      let c ← evT Φ t e1
      if c then do let y ← ev Φ b e1; .ok [y] else .ok []).calm
    .ok (.lst r)
  | .dsp kx vx, e => do let k ← ev Φ kx e; let v ← ev Φ vx e; if keyT k then .ok (.dic true [(k, v)]) else .bad
  | .dc vs g k src t kx vx, e => do
    let ss ← evs Φ src e
    let ds ← itS k ss
    let r ← (lcM ds fun d => do
      let e1 ← asgG g d (wipeE e vs)
      let c ← evT Φ t e1
      if c then do let y ← ev Φ kx e1; let z ← ev Φ vx e1; if keyD y then .ok [.prs [y, z]] else .bad else .ok []).calm
    .ok (.dic false (putAll r []))
  | .lc2 vs g k src t vs1 g1 k1 src1 t1 b, e => do
    let ss ← evs Φ src e
    let ds ← itS k ss
    let r ← (lcM ds fun d => do
      let e1 ← asgG g d (wipeE e vs)
      let c ← evT Φ t e1
      if c then do
        let ss1 ← evs Φ src1 e1
        let ds1 ← itS k1 ss1
        lcM ds1 fun d1 => do
          let e2 ← asgG g1 d1 (wipeE e1 vs1)
          let c1 ← evT Φ t1 e2
          if c1 then do let y ← ev Φ b e2; .ok [y] else .ok []
      else .ok []).calm
    fitL r .lst
def evs (Φ : Nat → List D → R D) : Es → Env → R (List D)
  | .nil, _ => .ok []
  | .cons a r, e => do let x ← ev Φ a e; let xs ← evs Φ r e; .ok (x :: xs)
def evAnd (Φ : Nat → List D → R D) : Es → Env → R D
  | .nil, _ => .bad
  | .cons a .nil, e => ev Φ a e
  | .cons a r, e => do let x ← ev Φ a e; let c ← asB x; if c then evAnd Φ r e else .ok (.bl false)
def evOr (Φ : Nat → List D → R D) : Es → Env → R D
  | .nil, _ => .bad
  | .cons a .nil, e => ev Φ a e
  | .cons a r, e => do let x ← ev Φ a e; let c ← asB x; if c then .ok (.bl true) else evOr Φ r e
def evO (Φ : Nat → List D → R D) : O → Env → R (Option Int)
  | .none, _ => .ok none
  | .some a, e => do let x ← ev Φ a e; let i ← asI x; .ok (some i)
def evT (Φ : Nat → List D → R D) : O → Env → R Bool
  | .none, _ => .ok true
  | .some a, e => do let x ← ev Φ a e; asB x
end

/-! ### statements -/
/-- how a statement ends -/
inductive Fl where
  | nx (e : Env)
  | rt (d : D)
  | ex (c : Nat) (e : Env)
mutual
inductive S where
  /-- a ghost: what the name holds is not changed any more -/
  | frz (i : Nat)
  | asg (g : G) (e : E)
  /-- a new list or dict that this def may change -/
  | mk (i : Nat) (e : E)
  | par (os : List Bool) (is : List Nat) (es : Es)
  | expr (e : E)
  | app (i : Nat) (e : E)
  | ext (i : Nat) (e : E)
  | apop (i j : Nat) (e : E)
  | put (i : Nat) (k v : E)
  | ife (c : E) (a b : Ss)
  | whl (n : Nat) (c : E) (b : Ss)
  | for_ (g : G) (k : IK) (src : Es) (b : Ss)
  | ret (e : E)
  | raise (c : Nat)
inductive Ss where
  | nil
  | cons (s : S) (r : Ss)
end
def lift {α : Type} (r : R α) (e : Env) (k : α → R Fl) : R Fl := match r with
  | .ok a => k a
  | .exc c => .ok (.ex c e)
  | .bad => .bad
@[simp] theorem lift_ok {α : Type} (a : α) (e : Env) (k : α → R Fl) : lift (.ok a) e k = k a := rfl
@[simp] theorem lift_exc {α : Type} (c : Nat) (e : Env) (k : α → R Fl) : lift (.exc c : R α) e k = .ok (.ex c e) := rfl
@[simp] theorem lift_bad {α : Type} (e : Env) (k : α → R Fl) : lift (.bad : R α) e k = .bad := rfl
/-- on, if the statement goes on -/
def andThen (r : R Fl) (k : Env → R Fl) : R Fl := match r with
  | .ok (.nx e) => k e
  | x => x
@[simp] theorem andThen_nx (e : Env) (k : Env → R Fl) : andThen (.ok (.nx e)) k = k e := rfl
@[simp] theorem andThen_rt (d : D) (k : Env → R Fl) : andThen (.ok (.rt d)) k = .ok (.rt d) := rfl
@[simp] theorem andThen_ex (c : Nat) (e : Env) (k : Env → R Fl) : andThen (.ok (.ex c e)) k = .ok (.ex c e) := rfl
@[simp] theorem andThen_bad (k : Env → R Fl) : andThen .bad k = .bad := rfl
def frzE (e : Env) (i : Nat) : Env := match e[i]? with
  | some (.own d) => e.set i (.val d)
  | _ => e
def forM (f : D → Env → R Fl) : List D → Env → R Fl
  | [], e => .ok (.nx e)
  | d :: ds, e => andThen (f d e) (forM f ds)
def whlM (c : Env → R D) (b : Env → R Fl) : Nat → Env → R Fl
  | 0, _ => .bad
  | n + 1, e => lift (c e) e fun x => match x with
    | .bl true => andThen (b e) (whlM c b n)
    | .bl false => .ok (.nx e)
    | _ => .bad
def parE (e : Env) : List Bool → List Nat → List D → R Fl
  | [], [], [] => .ok (.nx e)
  | o :: os, i :: is, d :: ds => parE (e.set i (if o then .own d else .val d)) os is ds
  | _, _, _ => .bad
mutual
def xs (Φ : Nat → List D → R D) : S → Env → R Fl
  | .frz i, e => .ok (.nx (frzE e i))
  | .asg g a, e => lift (ev Φ a e) e fun d => lift (asgG g d e) e fun e' => .ok (.nx e')
  | .mk i a, e => lift (ev Φ a e) e fun d => .ok (.nx (e.set i (.own d)))
  | .par os is es, e => lift (evs Φ es e) e fun ds => parE e os is ds
  | .expr a, e => lift (ev Φ a e) e fun _ => .ok (.nx e)
  | .app i a, e => match e[i]? with
    | some (.own (.lst l)) => lift (ev Φ a e) e fun d => if l.length < sizeLine then .ok (.nx (e.set i (.own (.lst (l ++ [d]))))) else .bad
    | _ => .bad
  | .ext i a, e => match e[i]? with
    | some (.own (.lst l)) => lift (ev Φ a e) e fun d => match d with
      | .lst m => if l.length + m.length ≤ sizeLine then .ok (.nx (e.set i (.own (.lst (l ++ m))))) else .bad
      | _ => .bad
    | _ => .bad
  | .apop i j a, e => match e[i]?, e[j]? with
    | some (.own (.lst l)), some (.own (.lst m)) => lift (ev Φ a e) e fun d => match d with
      | .int k => if 0 ≤ k then (match m[k.toNat]? with
        | some x => if l.length < sizeLine then .ok (.nx ((e.set j (.own (.lst (m.eraseIdx k.toNat)))).set i (.own (.lst (l ++ [x]))))) else .bad
        | none => .bad) else .bad
      | _ => .bad
    | _, _ => .bad
  | .put i k v, e => lift (ev Φ v e) e fun dv => match e[i]? with
    | some (.own (.dic t kvs)) => lift (ev Φ k e) e fun dk =>
      if keyOf t dk && decide (kvs.length < sizeLine) then .ok (.nx (e.set i (.own (.dic t (dput dk dv kvs))))) else .bad
    | _ => .bad
  | .ife c a b, e => lift (ev Φ c e) e fun d => match d with
    | .bl true => xss Φ a e
    | .bl false => xss Φ b e
    | _ => .bad
  | .whl n c b, e => whlM (ev Φ c) (xss Φ b) n e
  | .for_ g k src b, e => lift (evs Φ src e) e fun ss => lift (itS k ss) e fun ds =>
    forM (fun d e1 => lift (asgG g d e1) e1 fun e2 => xss Φ b e2) ds e
  | .ret a, e => lift (ev Φ a e) e fun d => .ok (.rt d)
  | .raise c, e => .ok (.ex c e)
def xss (Φ : Nat → List D → R D) : Ss → Env → R Fl
  | .nil, e => .ok (.nx e)
  | .cons s r, e => andThen (xs Φ s e) (xss Φ r)
end
/-- a def's answer -/
def runF (Φ : Nat → List D → R D) (n : Nat) (b : Ss) (ds : List D) : R D :=
  match xss Φ b (ds.map Slot.val ++ List.replicate (n - ds.length) .no) with
  | .ok (.nx _) => .ok .non
  | .ok (.rt d) => .ok d
  | .ok (.ex c _) => .exc c
  | .bad => .bad
  | .exc _ => .bad
end Pan

/-! Panestacks, part B: how data lies in the layer's heap. -/
namespace Pan
open PySem PySem.Spec L2
open PyProof.Rows hiding St

def isDic : HO → Prop
  | .dK _ => True
  | .ext _ => True
  | _ => False
/-- what F tells stands in H; a dict may be locked there -/
def Sub (F H : Hp) : Prop := ∀ a u, F a = some u → H a = some u ∨ (isDic u ∧ ∃ o, H a = some (.frz o u))
theorem Sub.refl (H : Hp) : Sub H H := fun _ _ e => .inl e
theorem Sub.trans {F G H : Hp} (a : Sub F G) (b : Sub G H) : Sub F H := fun x u e => by
  rcases a x u e with q | ⟨m, o, q⟩
  · exact b x u q
  · rcases b x _ q with q' | ⟨m', _⟩
    · exact .inr ⟨m, o, q'⟩
    · exact m'.elim
theorem Sub.same {F H H' : Hp} (a : Sub F H) (s : Same H H') : Sub F H' := fun x u e => by
  rcases a x u e with q | ⟨m, o, q⟩
  · exact .inl (s _ _ q)
  · exact .inr ⟨m, o, s _ _ q⟩
theorem Sub.none {F H : Hp} (a : Sub F H) {p : Addr} (h : H p = none) : F p = none := by
  cases q : F p with
  | none => rfl
  | some u =>
    rcases a p u q with z | ⟨_, o, z⟩ <;> rw [h] at z <;> cases z
def kD : Key → D
  | .inl i => .int i
  | .inr x => .str x
/-- a tuple: its object is known, and has no dict of its own -/
def IsT (F : Hp) (a : Addr) (xs : List V) : Prop := ∃ o : Obj, o.dict = none ∧ F a = some (.frz o (.tup xs))
theorem IsT.sq {K : PySem.W.Frag} {H : Hp} {a : Addr} {xs : List V} (h : IsT H a xs) : SqT K H a xs := by
  obtain ⟨o, _, e⟩ := h
  exact .inl (.inr ⟨o, e⟩)
theorem IsT.mono {F F' : Hp} {a : Addr} {xs : List V} (g : Same F F') (h : IsT F a xs) : IsT F' a xs := by
  obtain ⟨o, d, e⟩ := h
  exact ⟨o, d, g _ _ e⟩
theorem IsT.new {F : Hp} {a : Addr} {xs : List V} {o : Obj} (h : o.dict = none) : IsT (upd F a (.frz o (.tup xs))) a xs := ⟨o, h, upd_same⟩
/-- a row of a dict whose keys are tuples of ints: the key, where its tuple lies, the value -/
abbrev Row := List Int × Addr × V
def hT (k : List Int) : Int := reduceHash (Builtin.Tuple.tupleHashOf (k.map hashInt))
abbrev RowR (p : Row) (q : List Int × Addr × Value) : Prop := p.1 = q.1 ∧ p.2.1 = q.2.1 ∧ RelV p.2.2 q.2.2
def dRaw (a : Addr) (rows : List Row) (h : Heap) : Prop := rows.length ≤ sizeLine ∧ (a == sysModules) = false ∧ ∃ xs : List (List Int × Addr × Value), Paired RowR rows xs ∧
  ∃ o es ep, h.get? a = some o ∧ o.ExactDict ∧ o.data = .dict es ep ∧ es.toList = xs.map (fun x => (⟨hT x.1, .ref x.2.1, x.2.2⟩ : DictEntry)) ∧ (xs.map (·.1)).Nodup
/-- a dict whose keys are tuples of ints -/
def dO (a : Addr) (rows : List Row) : HO := .ext (dRaw a rows)
mutual
/-- the value v is the data d, as F tells -/
inductive Rp (K : PySem.W.Frag) (F : Hp) : V → D → Prop
  | non : Rp K F .non .non
  | bl (b : Bool) : Rp K F (.bl b) (.bl b)
  | int (i : Int) : Rp K F (.int i) (.int i)
  | str (x : Str) : Rp K F (.str x) (.str x)
  | ty (n : String) : Rp K F (.ty n) (.ty n)
  | scr {a : Addr} {ns : List Int} : SqL K F a (ns.map V.int) → Rp K F (.ref a) (.scr ns)
  | tup {a : Addr} {xs : List V} {ds : List D} : IsT F a xs → Rps K F xs ds → Rp K F (.ref a) (.tup ds)
  | prs {a : Addr} {xs : List V} {ds : List D} : F a = some (.tup xs) → Rps K F xs ds → Rp K F (.ref a) (.prs ds)
  | lst {a : Addr} {xs : List V} {ds : List D} : F a = some (.lst xs) → Rps K F xs ds → Rp K F (.ref a) (.lst ds)
  | dK {a : Addr} {kvs : List (Key × V)} {es : List (D × D)} : Rd F a (.dK kvs) → RkK K F kvs es → Rp K F (.ref a) (.dic false es)
  | dT {a : Addr} {kvs : List Row} {es : List (D × D)} : Rd F a (dO a kvs) → RkT K F kvs es → Rp K F (.ref a) (.dic true es)
inductive Rps (K : PySem.W.Frag) (F : Hp) : List V → List D → Prop
  | nil : Rps K F [] []
  | cons {v : V} {vs : List V} {d : D} {ds : List D} : Rp K F v d → Rps K F vs ds → Rps K F (v :: vs) (d :: ds)
inductive RkK (K : PySem.W.Frag) (F : Hp) : List (Key × V) → List (D × D) → Prop
  | nil : RkK K F [] []
  | cons {k : Key} {v : V} {r : List (Key × V)} {d : D} {es : List (D × D)} : Rp K F v d → RkK K F r es → RkK K F ((k, v) :: r) ((kD k, d) :: es)
inductive RkT (K : PySem.W.Frag) (F : Hp) : List Row → List (D × D) → Prop
  | nil : RkT K F [] []
  | cons {k : List Int} {q : Addr} {v : V} {r : List Row} {d : D} {es : List (D × D)} : IsT F q (k.map V.int) → Rp K F v d → RkT K F r es → RkT K F ((k, q, v) :: r) ((.tup (k.map D.int), d) :: es)
end
theorem Sub.seq {K : PySem.W.Frag} {F H : Hp} {a : Addr} {xs : List V} (s : Sub F H) (h : SqL K F a xs) : SqL K H a xs := by
  rcases h with (h | ⟨o, h⟩) | h
  · rcases s _ _ h with q | ⟨_, o, q⟩
    · exact .inl (.inl q)
    · exact .inl (.inr ⟨o, q⟩)
  · rcases s _ _ h with q | ⟨m, _⟩
    · exact .inl (.inr ⟨o, q⟩)
    · exact m.elim
  · exact .inr h
theorem Sub.lst {F H : Hp} {a : Addr} {xs : List V} (s : Sub F H) (h : F a = some (.lst xs)) : H a = some (.lst xs) := by
  rcases s _ _ h with q | ⟨m, _⟩
  · exact q
  · exact m.elim
theorem Sub.tup {F H : Hp} {a : Addr} {xs : List V} (s : Sub F H) (h : IsT F a xs) : IsT H a xs := by
  obtain ⟨o, d, e⟩ := h
  rcases s _ _ e with q | ⟨m, _⟩
  · exact ⟨o, d, q⟩
  · exact m.elim
theorem Sub.prs {F H : Hp} {a : Addr} {xs : List V} (s : Sub F H) (h : F a = some (.tup xs)) : H a = some (.tup xs) := by
  rcases s _ _ h with q | ⟨m, _⟩
  · exact q
  · exact m.elim
theorem Sub.dK {F H : Hp} {a : Addr} {xs : List (Key × V)} (s : Sub F H) (h : Rd F a (.dK xs)) : Rd H a (.dK xs) := by
  rcases h with h | ⟨o, h⟩
  · rcases s _ _ h with q | ⟨_, o, q⟩
    · exact .inl q
    · exact .inr ⟨o, q⟩
  · rcases s _ _ h with q | ⟨m, _⟩
    · exact .inr ⟨o, q⟩
    · exact m.elim
theorem Sub.dT {F H : Hp} {a : Addr} {xs : List Row} (s : Sub F H) (h : Rd F a (dO a xs)) : Rd H a (dO a xs) := by
  rcases h with h | ⟨o, h⟩
  · rcases s _ _ h with q | ⟨_, o, q⟩
    · exact .inl q
    · exact .inr ⟨o, q⟩
  · rcases s _ _ h with q | ⟨m, _⟩
    · exact .inr ⟨o, q⟩
    · exact m.elim
theorem rd_mono {F F' : Hp} {a : Addr} {u : HO} (g : Same F F') (h : Rd F a u) : Rd F' a u := by
  rcases h with h | ⟨o, h⟩
  · exact .inl (g _ _ h)
  · exact .inr ⟨o, g _ _ h⟩
/-- F' tells what F tells -/
abbrev Grow (F F' : Hp) : Prop := Same F F'
theorem Same.sub {F F' : Hp} (g : Same F F') : Sub F F' := fun a u e => .inl (g a u e)
mutual
theorem Rp.mono {K : PySem.W.Frag} {F F' : Hp} (g : Same F F') : ∀ {v : V} {d : D}, Rp K F v d → Rp K F' v d
  | _, _, .non => .non
  | _, _, .bl b => .bl b
  | _, _, .int i => .int i
  | _, _, .str x => .str x
  | _, _, .ty n => .ty n
  | _, _, .scr h => .scr ((Same.sub g).seq h)
  | _, _, .tup h r => .tup (h.mono g) (Rps.mono g r)
  | _, _, .prs h r => .prs (g _ _ h) (Rps.mono g r)
  | _, _, .lst h r => .lst (g _ _ h) (Rps.mono g r)
  | _, _, .dK h r => .dK (rd_mono g h) (RkK.mono g r)
  | _, _, .dT h r => .dT (rd_mono g h) (RkT.mono g r)
theorem Rps.mono {K : PySem.W.Frag} {F F' : Hp} (g : Same F F') : ∀ {vs : List V} {ds : List D}, Rps K F vs ds → Rps K F' vs ds
  | _, _, .nil => .nil
  | _, _, .cons h r => .cons (Rp.mono g h) (Rps.mono g r)
theorem RkK.mono {K : PySem.W.Frag} {F F' : Hp} (g : Same F F') : ∀ {kvs : List (Key × V)} {es : List (D × D)}, RkK K F kvs es → RkK K F' kvs es
  | _, _, .nil => .nil
  | _, _, .cons h r => .cons (Rp.mono g h) (RkK.mono g r)
theorem RkT.mono {K : PySem.W.Frag} {F F' : Hp} (g : Same F F') : ∀ {kvs : List Row} {es : List (D × D)}, RkT K F kvs es → RkT K F' kvs es
  | _, _, .nil => .nil
  | _, _, .cons t h r => .cons (t.mono g) (Rp.mono g h) (RkT.mono g r)
end
section
variable {K : PySem.W.Frag} {F F' H H' : Hp}
theorem Rps.length : ∀ {vs : List V} {ds : List D}, Rps K F vs ds → vs.length = ds.length
  | _, _, .nil => rfl
  | _, _, .cons _ r => by simp [Rps.length r]
theorem Rps.get : ∀ {vs : List V} {ds : List D} {i : Nat} {d : D}, Rps K F vs ds → ds[i]? = some d → ∃ v, vs[i]? = some v ∧ Rp K F v d
  | _, _, _, _, .nil, e => by simp at e
  | _, _, 0, _, .cons h _, e => by simp at e; subst e; exact ⟨_, rfl, h⟩
  | _, _, i + 1, _, .cons _ r, e => by
    obtain ⟨v, a, b⟩ := Rps.get (i := i) r (by simpa using e)
    exact ⟨v, by simpa using a, b⟩
theorem Rps.getV : ∀ {vs : List V} {ds : List D} {i : Nat} {v : V}, Rps K F vs ds → vs[i]? = some v → ∃ d, ds[i]? = some d ∧ Rp K F v d
  | _, _, _, _, .nil, e => by simp at e
  | _, _, 0, _, .cons h _, e => by simp at e; subst e; exact ⟨_, rfl, h⟩
  | _, _, i + 1, _, .cons _ r, e => by
    obtain ⟨v, a, b⟩ := Rps.getV (i := i) r (by simpa using e)
    exact ⟨v, by simpa using a, b⟩
theorem Rps.append : ∀ {vs ws : List V} {ds es : List D}, Rps K F vs ds → Rps K F ws es → Rps K F (vs ++ ws) (ds ++ es)
  | _, _, _, _, .nil, s => s
  | _, _, _, _, .cons h r, s => .cons h (Rps.append r s)
theorem Rps.take : ∀ {vs : List V} {ds : List D} (n : Nat), Rps K F vs ds → Rps K F (vs.take n) (ds.take n)
  | _, _, 0, _ => .nil
  | _, _, _ + 1, .nil => .nil
  | _, _, n + 1, .cons h r => .cons h (Rps.take n r)
theorem Rps.drop : ∀ {vs : List V} {ds : List D} (n : Nat), Rps K F vs ds → Rps K F (vs.drop n) (ds.drop n)
  | _, _, 0, r => r
  | _, _, _ + 1, .nil => .nil
  | _, _, n + 1, .cons _ r => Rps.drop n r
theorem Rps.reverse : ∀ {vs : List V} {ds : List D}, Rps K F vs ds → Rps K F vs.reverse ds.reverse
  | _, _, .nil => .nil
  | _, _, .cons h r => by
    rw [List.reverse_cons, List.reverse_cons]
    exact Rps.append (Rps.reverse r) (.cons h .nil)
theorem Rps.eraseIdx : ∀ {vs : List V} {ds : List D} (i : Nat), Rps K F vs ds → Rps K F (vs.eraseIdx i) (ds.eraseIdx i)
  | _, _, _, .nil => .nil
  | _, _, 0, .cons _ r => r
  | _, _, i + 1, .cons h r => .cons h (Rps.eraseIdx i r)
theorem Rps.rep {vs : List V} {ds : List D} (r : Rps K F vs ds) : ∀ n : Nat, Rps K F (List.replicate n vs).flatten (List.replicate n ds).flatten
  | 0 => .nil
  | n + 1 => by
    rw [List.replicate_succ, List.replicate_succ, List.flatten_cons, List.flatten_cons]
    exact r.append (Rps.rep r n)
theorem Rps.cut {vs : List V} {ds : List D} (r : Rps K F vs ds) (lo hi : Option Int) : Rps K F (cutV vs lo hi) (cutL ds lo hi) := by
  unfold cutV cutL
  rw [r.length]
  exact (r.drop _).take _
theorem Rps.ints : ∀ {vs : List V} {ds : List D} {ns : List Int}, Rps K F vs ds → intsOf ds = some ns → vs = ns.map V.int
  | _, _, _, .nil, e => by simp [intsOf] at e; subst e; rfl
  | _, _, _, .cons h r, e => by
    cases h <;> simp [intsOf] at e
    obtain ⟨ms, e1, e2⟩ := e
    subst e2
    rw [Rps.ints r e1]
    rfl
theorem Rps.bools : ∀ {vs : List V} {ds : List D} {bs : List Bool}, Rps K F vs ds → boolsOf ds = some bs → vs = bs.map V.bl
  | _, _, _, .nil, e => by simp [boolsOf] at e; subst e; rfl
  | _, _, _, .cons h r, e => by
    cases h <;> simp [boolsOf] at e
    obtain ⟨ms, e1, e2⟩ := e
    subst e2
    rw [Rps.bools r e1]
    rfl

/-- nothing that was tracked has changed; F' tells more, of new things alone -/
structure Ext (F H F' H' : Hp) : Prop where
  same : Same H H'
  grow : Same F F'
  sub : Sub F' H'
  new : ∀ a u, F' a = some u → F a = some u ∨ H a = none ∨ ∃ ys, u = .tup ys
theorem Ext.refl (s : Sub F H) : Ext F H F H := ⟨Same.refl _, Same.refl _, s, fun _ _ e => .inl e⟩
theorem Ext.trans {F1 H1 F2 H2 : Hp} (a : Ext F H F1 H1) (b : Ext F1 H1 F2 H2) : Ext F H F2 H2 :=
  ⟨a.same.trans b.same, a.grow.trans b.grow, b.sub, fun x u e => by
    rcases b.new x u e with q | q | q
    · exact a.new x u q
    · exact .inr (.inl (a.same.free q))
    · exact .inr (.inr q)⟩
theorem same_upd {p : Addr} {o : HO} (h : H p = none) : Same H (upd H p o) := fun b x e => by
  rw [upd_ne (ne_of_none e h)]
  exact e
/-- a new object that stays -/
theorem Ext.laid {p : Addr} (o : HO) (s : Sub F H) (h : H p = none) : Ext F H (upd F p o) (upd H p o) where
  same := same_upd h
  grow := same_upd (s.none h)
  sub := fun a u e => by
    by_cases q : a = p
    · subst q
      rw [upd_same] at e ⊢
      exact .inl e
    · rw [upd_ne q] at e ⊢
      exact s a u e
  new := fun a u e => by
    by_cases q : a = p
    · subst q
      exact .inr (.inl h)
    · rw [upd_ne q] at e
      exact .inl e
/-- a new object that may change -/
theorem Ext.made {p : Addr} (o : HO) (s : Sub F H) (h : H p = none) : Ext F H F (upd H p o) where
  same := same_upd h
  grow := Same.refl _
  sub := s.same (same_upd h)
  new := fun a u e => .inl e

/-- a name's place -/
def SlotR (K : PySem.W.Frag) (F H : Hp) : Slot → Option V → Prop
  | .no, _ => True
  | .val d, some v => Rp K F v d
  | .own (.lst ds), some (.ref a) => F a = none ∧ ∃ xs, H a = some (.lst xs) ∧ Rps K F xs ds
  | .own (.dic false es), some (.ref a) => F a = none ∧ ∃ kvs, H a = some (.dK kvs) ∧ RkK K F kvs es
  | .own (.dic true es), some (.ref a) => F a = none ∧ ∃ kvs, H a = some (dO a kvs) ∧ RkT K F kvs es
  | .held _ a, some v => v = .ref a
  | _, _ => False
/-- an address that only this def holds stays unknown to F -/
theorem Ext.keepNone {a : Addr} {o : HO} (x : Ext F H F' H') (h : F a = none) (h' : H a = some o) (hn : ∀ ys, o ≠ .tup ys) : F' a = none := by
  cases q : F' a with
  | none => rfl
  | some u =>
    rcases x.new a u q with z | z | ⟨ys, z⟩
    · rw [h] at z; cases z
    · rw [h'] at z; cases z
    · subst z
      have e1 := x.sub.prs q
      rw [x.same _ _ h'] at e1
      exact absurd (Option.some.inj e1) (hn ys)
theorem SlotR.mono (x : Ext F H F' H') : ∀ {s : Slot} {o : Option V}, SlotR K F H s o → SlotR K F' H' s o
  | .no, _, _ => trivial
  | .val d, some v, h => Rp.mono x.grow h
  | .own (.lst ds), some (.ref a), ⟨n, xs, e, r⟩ => ⟨x.keepNone n e (by intro _ z; cases z), xs, x.same _ _ e, r.mono x.grow⟩
  | .own (.dic false es), some (.ref a), ⟨n, kvs, e, r⟩ => ⟨x.keepNone n e (by intro _ z; cases z), kvs, x.same _ _ e, r.mono x.grow⟩
  | .own (.dic true es), some (.ref a), ⟨n, kvs, e, r⟩ => ⟨x.keepNone n e (by intro _ z; cases z), kvs, x.same _ _ e, r.mono x.grow⟩
  | .held _ a, some v, h => h
structure VR (K : PySem.W.Frag) (e : Env) (σ : St) (F H : Hp) : Prop where
  sub : Sub F H
  len : e.length = σ.length
  slot : ∀ (i : Nat) (s : Slot) (o : Option V), e[i]? = some s → σ[i]? = some o → SlotR K F H s o
theorem VR.mono {e : Env} {σ : St} (v : VR K e σ F H) (x : Ext F H F' H') : VR K e σ F' H' := ⟨x.sub, v.len, fun i s o a b => (v.slot i s o a b).mono x⟩
theorem VR.set {e : Env} {σ : St} {i : Nat} {s : Slot} {o : Option V} (v : VR K e σ F H) (h : SlotR K F H s o) : VR K (e.set i s) (σ.set i o) F H := by
  refine ⟨v.sub, by simp [v.len], fun j s' o' a b => ?_⟩
  rw [List.getElem?_set] at a b
  by_cases q : i = j
  · rw [if_pos q] at a b
    split at a
    · split at b
      · cases a; cases b; exact h
      · cases b
    · cases a
  · rw [if_neg q] at a b
    exact v.slot j s' o' a b
theorem VR.wipe {e : Env} {σ : St} (v : VR K e σ F H) : ∀ vs : List Nat, VR K (wipeE e vs) (wipe σ vs) F H
  | [] => v
  | i :: vs => VR.set (s := .no) (o := none) (VR.wipe v vs) trivial
theorem VR.get {e : Env} {σ : St} {i : Nat} {d : D} (v : VR K e σ F H) (h : e[i]? = some (.val d)) : ∃ x, σ[i]? = some (some x) ∧ Rp K F x d := by
  have hl : i < e.length := (List.getElem?_eq_some_iff.mp h).1
  have hl2 : i < σ.length := v.len ▸ hl
  have e2 : σ[i]? = some σ[i] := List.getElem?_eq_getElem hl2
  have q := v.slot i _ _ h e2
  cases z : σ[i] with
  | none => rw [z] at q; exact q.elim
  | some x => rw [z] at q e2; exact ⟨x, e2, q⟩
theorem VR.getOwn {e : Env} {σ : St} {i : Nat} {d : D} (v : VR K e σ F H) (h : e[i]? = some (.own d)) : ∃ a, σ[i]? = some (some (.ref a)) ∧ SlotR K F H (.own d) (some (.ref a)) := by
  have hl : i < e.length := (List.getElem?_eq_some_iff.mp h).1
  have hl2 : i < σ.length := v.len ▸ hl
  have e2 : σ[i]? = some σ[i] := List.getElem?_eq_getElem hl2
  have q := v.slot i _ _ h e2
  cases z : σ[i] with
  | none => rw [z] at q; cases d <;> first | exact q.elim | (rename_i t _; cases t <;> exact q.elim)
  | some x =>
    rw [z] at q e2
    cases x with
    | ref a => exact ⟨a, e2, q⟩
    | _ => cases d <;> first | exact q.elim | (rename_i t _; cases t <;> exact q.elim)

/-! ### what an answer asks -/
/-- the wish for an answer r: P of its value, W of its exception -/
def Wp {α : Type} (W : WX) (cl : Nat → Value) (r : R α) (σ : St) (F H : Hp) (P : α → Hp → Hp → Prop) : Prop := match r with
  | .ok a => ∀ F' H', Ext F H F' H' → P a F' H'
  | .exc c => ∀ F' H', Ext F H F' H' → W (cl c) none σ H'
  | .bad => False
variable {W : WX} {cl : Nat → Value} {α β : Type} {σ : St}
theorem Wp.bind {r : R α} {f : α → R β} {P : β → Hp → Hp → Prop} (h : Wp W cl (r >>= f) σ F H P) : Wp W cl r σ F H fun a F' H' => Wp W cl (f a) σ F' H' P := by
  cases r with
  | ok a =>
    intro F' H' x
    have h : Wp W cl (f a) σ F H P := h
    show Wp W cl (f a) σ F' H' P
    cases q : f a with
    | ok b => rw [q] at h; exact fun F2 H2 y => h F2 H2 (x.trans y)
    | exc c => rw [q] at h; exact fun F2 H2 y => h F2 H2 (x.trans y)
    | bad => rw [q] at h; exact h.elim
  | exc c => exact h
  | bad => exact h.elim
theorem Wp.mono {r : R α} {P P' : α → Hp → Hp → Prop} (h : Wp W cl r σ F H P) (i : ∀ a F' H', Ext F H F' H' → P a F' H' → P' a F' H') : Wp W cl r σ F H P' := by
  cases r with
  | ok a => exact fun F' H' x => i a F' H' x (h F' H' x)
  | exc c => exact h
  | bad => exact h.elim
theorem Wp.now {a : α} {P : α → Hp → Hp → Prop} (s : Sub F H) (h : Wp W cl (.ok a) σ F H P) : P a F H := h F H (Ext.refl s)
theorem Wp.step {r : R α} {P : α → Hp → Hp → Prop} (h : Wp W cl r σ F H P) (x : Ext F H F' H') : Wp W cl r σ F' H' P := by
  cases r with
  | ok a => exact fun F2 H2 y => h F2 H2 (x.trans y)
  | exc c => exact fun F2 H2 y => h F2 H2 (x.trans y)
  | bad => exact h.elim
end
/-- an expression's wish -/
def tE (K : PySem.W.Frag) (W : WX) (cl : Nat → Value) (r : Env → R D) : TE := fun σ H Q => ∃ e F, VR K e σ F H ∧ Wp W cl (r e) σ F H fun d F' H' => ∀ v, Rp K F' v d → Q v H'
/-- .. of a value that is looked at now alone -/
def tW (K : PySem.W.Frag) (W : WX) (cl : Nat → Value) (r : Env → R D) : TE := fun σ H Q => ∃ e F, VR K e σ F H ∧ Wp W cl (r e) σ F H fun d F' H' => ∀ v G, Sub G H' → Rp K G v d → Q v H'
/-- .. of a new list or dict that is not yet known to others -/
def NewR (K : PySem.W.Frag) (F H : Hp) (H0 : Hp) (a : Addr) (d : D) : Prop := H0 a = none ∧ SlotR K F H (.own d) (some (.ref a))
def tN (K : PySem.W.Frag) (W : WX) (cl : Nat → Value) (r : Env → R D) : TE := fun σ H Q => ∃ e F, VR K e σ F H ∧ Wp W cl (r e) σ F H fun d F' H' => ∀ a, NewR K F' H' H a d → Q (.ref a) H'
/-- a test's wish -/
def tT (K : PySem.W.Frag) (W : WX) (cl : Nat → Value) (r : Env → R Bool) : TT := fun σ H Q => ∃ e F, VR K e σ F H ∧ Wp W cl (r e) σ F H fun b F' H' => Q b H'
/-- arguments -/
def tA (K : PySem.W.Frag) (W : WX) (cl : Nat → Value) (r : Env → R (List D)) : TA := fun σ H Q => ∃ e F, VR K e σ F H ∧ Wp W cl (r e) σ F H fun ds F' H' => ∀ vs, Rps K F' vs ds → Q vs H'
def tAW (K : PySem.W.Frag) (W : WX) (cl : Nat → Value) (r : Env → R (List D)) : TA := fun σ H Q => ∃ e F, VR K e σ F H ∧ Wp W cl (r e) σ F H fun ds F' H' => ∀ vs G, Sub G H' → Rps K G vs ds → Q vs H'
/-- what the heap always tells: lists and tuples have a length -/
structure Good (K : PySem.W.Frag) (H : Hp) : Prop where
  lst : ∀ a xs, SqL K H a xs → xs.length ≤ sizeLine
  tup : ∀ a xs, SqT K H a xs → xs.length ≤ sizeLine
  dK : ∀ a kvs, Rd H a (.dK kvs) → kvs.length ≤ sizeLine
  dT : ∀ a kvs, Rd H a (dO a kvs) → kvs.length ≤ sizeLine
section
variable {X : Cx}
theorem Inv.good {pins : List (Addr × Obj)} {σ : St} {H : Hp} {s : Shared} (I : Inv X pins σ H s) : Good X.K H :=
  ⟨fun a xs h => (let ⟨_, _, _, z⟩ := I.list h; z), fun a xs h => (let ⟨_, _, _, z⟩ := I.tuple h; z), fun a kvs h => (dk_rd I.hok h).1, fun a kvs h => (show ObjOk X.prog X.w H s.heap a (dO a kvs) from rd_of I.hok h).1.1⟩
theorem PE.imp {e : Expr} {t t' : TE} (h : PE X e t) (i : ∀ σ H Q, Good X.K H → t' σ H Q → t σ H Q) : PE X e t' :=
  ⟨fun pins s σ H Q I q => h.run pins s σ H Q I (i σ H Q (Inv.good I) q)⟩
theorem PT.imp {e : Expr} {t t' : TT} (h : PT X e t) (i : ∀ σ H Q, Good X.K H → t' σ H Q → t σ H Q) : PT X e t' :=
  ⟨fun pins s σ H Q I q => h.run pins s σ H Q I (i σ H Q (Inv.good I) q)⟩
theorem PW.imp {e : Expr} {t t' : TT} (h : PW X e t) (i : ∀ σ H Q, Good X.K H → t' σ H Q → t σ H Q) : PW X e t' :=
  ⟨fun wh pins s σ H Q I q => h.run wh pins s σ H Q I (i σ H Q (Inv.good I) q)⟩
theorem PA.imp {es : List Expr} {t t' : TA} (h : PA X es t) (i : ∀ σ H Q, Good X.K H → t' σ H Q → t σ H Q) : PA X es t' :=
  ⟨fun pos pins s σ H Q I q => h.run pos pins s σ H Q I (i σ H Q (Inv.good I) q)⟩
theorem PS.imp {st : Stmt} {t t' : TS} (h : PS X st t) (i : ∀ D σ H, Good X.K H → t' D σ H → t D σ H) : PS X st t' :=
  ⟨fun pins s σ H D I q => h.run pins s σ H D I (i D σ H (Inv.good I) q)⟩
theorem PSs.imp {st : List Stmt} {t t' : TS} (h : PSs X st t) (i : ∀ D σ H, Good X.K H → t' D σ H → t D σ H) : PSs X st t' :=
  ⟨fun pins s σ H D I q => h.run pins s σ H D I (i D σ H (Inv.good I) q)⟩
theorem PI.imp {tg e : Expr} {t t' : TI} (h : PI X tg e t) (i : ∀ σ H R, Good X.K H → t' σ H R → t σ H R) : PI X tg e t' :=
  ⟨fun pins s σ H R I q => h.run pins s σ H R I (i σ H R (Inv.good I) q)⟩
/-- what is known of the heap when the iterator has come -/
theorem PI.good {tg e : Expr} {t : TI} (h : PI X tg e t) : PI X tg e (fun σ H R => t σ H fun J H' => Good X.K H' → R J H') :=
  ⟨fun pins s σ H R I q => thn (h.run pins s σ H _ I q) fun v s1 h1 => thn h1 fun itv s2 h2 => by
    obtain ⟨it, fp, tn, J, H', e, I2, T, st, f, r⟩ := h2
    exact ⟨it, fp, tn, J, H', e, I2, T, st, f, r (Inv.good I2)⟩⟩
theorem PI.or {tg e : Expr} {t t' : TI} (h : PI X tg e t) (h' : PI X tg e t') : PI X tg e (fun σ H R => t σ H R ∨ t' σ H R) :=
  ⟨fun pins s σ H R I q => q.elim (h.run pins s σ H R I) (h'.run pins s σ H R I)⟩
theorem PS.or {st : Stmt} {t t' : TS} (h : PS X st t) (h' : PS X st t') : PS X st (fun D σ H => t D σ H ∨ t' D σ H) :=
  ⟨fun pins s σ H D I q => q.elim (fun z => h.run pins s σ H D I z) fun z => h'.run pins s σ H D I z⟩
theorem PE.or {e : Expr} {t t' : TE} (h : PE X e t) (h' : PE X e t') : PE X e (fun σ H Q => t σ H Q ∨ t' σ H Q) :=
  ⟨fun pins s σ H Q I q => q.elim (h.run pins s σ H Q I) (h'.run pins s σ H Q I)⟩
theorem OpR.imp {f : Value → Value → Sem Value} {r r' : R2} (h : OpR X f r) (i : ∀ x y H Q, Good X.K H → r' x y H Q → r x y H Q) : OpR X f r' :=
  fun pins s σ H x y v u Q I rx ry q => h pins s σ H x y v u Q I rx ry (i x y H Q (Inv.good I) q)
theorem CallR.imp {f : Value} {r r' : List V → Hp → VK → Prop} (h : CallR X f r) (i : ∀ xs H Q, Good X.K H → r' xs H Q → r xs H Q) : CallR X f r' :=
  fun pins s σ H xs us Q I rx q => h pins s σ H xs us Q I rx (i xs H Q (Inv.good I) q)
theorem MtR.imp {id : String} {r r' : V → List V → Hp → VK → Prop} (h : MtR X id r) (i : ∀ x xs H Q, Good X.K H → r' x xs H Q → r x xs H Q) : MtR X id r' :=
  fun pins s σ H x xs v us Q I rx rs q => h pins s σ H x xs v us Q I rx rs (i x xs H Q (Inv.good I) q)
theorem IxR.imp {r r' : R2} (h : IxR X r) (i : ∀ x y H Q, Good X.K H → r' x y H Q → r x y H Q) : IxR X r' :=
  fun a b pins s σ H x y v u Q I rx ry q => h a b pins s σ H x y v u Q I rx ry (i x y H Q (Inv.good I) q)
end
end Pan

/-! Panestacks, part B2: tuples that are made, with their objects known; subscripts of dicts whose keys are tuples. -/
namespace Pan
open PySem PySem.Spec L2
open PyProof.Rows hiding St
/-- whatever new tuple xs: -/
abbrev NewT (H : Hp) (xs : List V) (Q : VK) : Prop := ∀ (p : Addr) (o : Obj), H p = none → o.dict = none → Q (.ref p) (upd H p (.frz o (.tup xs)))
section
variable {X : Cx}
theorem put_tup {pins : List (Addr × Obj)} {σ : St} {H : Hp} {s : Shared} {h1 : Heap} {xs : List V} {its : List Value} {Q : VK} {tk : Nat} (J : Inv X pins σ H { s with heap := h1, toks := tk }) (r : Vals xs its) (hz : xs.length ≤ sizeLine) (q : NewT H xs Q) :
    ∃ (x : V) (H' : Hp), Inv X pins σ H' { s with heap := h1.push { cls := .type "tuple", data := .seq its.toArray }, toks := tk } ∧ RelV x (.ref h1.objs.size) ∧ Q x H' :=
  ⟨.ref h1.objs.size, upd H h1.objs.size (.frz { cls := .type "tuple", data := .seq its.toArray } (.tup xs)),
    J.laid (t' := tk) (fun b ob z => Heap.get?_push_of_some _ z) (Nat.le_refl _) ⟨Heap.get?_push_size _ rfl, hz, its, r, IsTup.new _ _⟩, rfl, q _ _ (J.hok.fresh (Nat.le_refl _)) rfl⟩
def tTupF (t : TA) : TE := fun σ H Q => t σ H fun xs H1 => xs.length ≤ sizeLine ∧ NewT H1 xs Q
theorem pe_tupF {es : List Expr} {t : TA} {pos : Pos} {k : Nat} (h : PA X es t) : PE X (.Tuple es k pos) (tTupF t) := by
  refine ⟨fun pins s σ H Q I hq => ?_⟩
  refine wpAny_Tuple_spliced (thn (h.run pos pins s σ H _ I hq) fun us s1 ⟨xs, H1, I1, r, z, q⟩ => ⟨by rw [← r.length]; exact z, ?_⟩)
  exact put_tup (s := s1) (h1 := s1.heap) (tk := s1.toks) I1 r z q
def rCatF (K : PySem.W.Frag) : R2 := fun x y H Q => ∃ a b xs ys, x = .ref a ∧ y = .ref b ∧ SqT K H a xs ∧ SqT K H b ys ∧ xs.length + ys.length ≤ sizeLine ∧
  (xs = [] → Q (.ref b) H) ∧ (xs ≠ [] → ys = [] → Q (.ref a) H) ∧ (xs ≠ [] → ys ≠ [] → NewT H (xs ++ ys) Q)
theorem op_catF : OpR X (binaryOp .Add) (rCatF X.K) := by
  intro pins s σ H x y v u Q I rx ry h
  obtain ⟨a, b, xs, ys, rfl, rfl, ha, hb, hz, q0, q1, q2⟩ := h
  cases rx
  cases ry
  obtain ⟨its, r1, p1, _⟩ := I.tuple ha
  obtain ⟨its2, r2, p2, _⟩ := I.tuple hb
  by_cases hx : xs = []
  · subst hx
    cases r1
    exact cat_tup0 p1 p2 ⟨.ref b, H, I, rfl, q0 rfl⟩
  · refine HT.cat_tup p1 p2 (fun z => hx (r1.nil_iff.mp z)) (fun z => ⟨.ref a, H, I, rfl, q1 hx (r2.nil_iff.mp z)⟩) (fun z => ?_) (by rw [← r1.length, ← r2.length]; exact hz)
    exact put_tup (s := s) (h1 := s.heap) (tk := s.toks) I (r1.append r2) (by rw [List.length_append]; exact hz) (q2 hx fun w => z (r2.nil_iff.mpr w))
def rSlF (K : PySem.W.Frag) : V → Option Int → Option Int → Hp → VK → Prop := fun x lo hi H Q => ∃ a xs, x = .ref a ∧ SqT K H a xs ∧
  (HT.sIx xs.length 0 lo = 0 ∧ HT.sIx xs.length xs.length hi = xs.length → Q (.ref a) H) ∧ (¬ (HT.sIx xs.length 0 lo = 0 ∧ HT.sIx xs.length xs.length hi = xs.length) → NewT H (cutV xs lo hi) Q)
theorem sl_tupF : SlR X (rSlF X.K) := by
  intro pins s σ H x v vl vu lo hi sl Q I rx hs pl pu h
  obtain ⟨a, xs, rfl, hx, q1, q2⟩ := h
  cases rx
  obtain ⟨its, r, ht, hz⟩ := I.tuple hx
  have hlen : its.toArray.size = xs.length := by rw [List.size_toArray]; exact r.length.symm
  refine ⟨"tuple", _, PyProof.Rows.slot_tuple_getitem.lookup, ht.typeIs, ?_⟩
  by_cases hw : HT.sIx xs.length 0 lo = 0 ∧ HT.sIx xs.length xs.length hi = xs.length
  · exact getItem_tuple_whole ht hs pl pu (by rw [hlen]; exact hw) ⟨.ref a, H, I, rfl, q1 hw⟩
  · refine HT.getItem_tuple_cut ht hs pl pu (by rw [hlen]; exact hw) ?_ (by rw [hlen]; exact hz)
    rw [hlen]
    exact put_tup (s := s) (h1 := s.heap) (tk := s.toks) I ((r.drop (HT.sIx xs.length 0 lo)).take (HT.sIx xs.length xs.length hi - HT.sIx xs.length 0 lo)) (Nat.le_trans (cutV_length xs lo hi) hz) (q2 hw)
theorem call_tupF : CallR X (.type "tuple") (fun xs H Q => ∃ p ys, xs = [.ref p] ∧ ((SqL X.K H p ys ∧ NewT H ys Q) ∨ (SqT X.K H p ys ∧ Q (.ref p) H))) := by
  intro pins s σ H xs us Q I r h
  obtain ⟨p, ys, rfl, h⟩ := h
  obtain ⟨u, rfl, rx⟩ := vals1 r
  cases rx
  rcases h with ⟨hq, q⟩ | ⟨hq, q⟩
  · obtain ⟨its, r', pl, hz⟩ := I.list hq
    have hlen := r'.length
    refine call_tuple_list pl.isList (fun h' kp => ?_) (by simp only [List.size_toArray] <;> omega)
    exact put_tup (s := s) (h1 := h') (tk := s.toks) (I.kept (t' := s.toks) kp) r' hz q
  · obtain ⟨its, r', pl, hz⟩ := I.tuple hq
    exact call_tuple_same pl ⟨.ref p, H, I, rfl, q⟩
def rRepF (K : PySem.W.Frag) : R2 := fun x y H Q => ∃ (l : Addr) (k : Int) (xs : List V), x = .ref l ∧ y = .int k ∧ SqT K H l xs ∧ xs ≠ [] ∧ 2 ≤ k ∧ k ≤ 1000 ∧ xs.length ≤ 1000 ∧ NewT H (List.replicate k.toNat xs).flatten Q
theorem op_repF : OpR X (binaryOp .Mult) (rRepF X.K) := by
  intro pins s σ H x y v u Q I rx ry h
  obtain ⟨l, k, xs, rfl, rfl, hT, hne, h1, h2, hz, q⟩ := h
  cases rx
  obtain ⟨t, rfl⟩ := ry
  obtain ⟨its, r, ⟨⟨cls, dd, data, sl⟩, ho, hc, n, hd⟩, hs⟩ := I.tuple hT
  simp only at hc hd
  subst hc hd
  have len : its.length = xs.length := r.length.symm
  have hi : its.toArray.isEmpty = false := by
    cases its with
    | nil => exact absurd (List.eq_nil_of_length_eq_zero len.symm) hne
    | cons a b => rfl
  have sz : its.toArray.size = xs.length := by rw [List.size_toArray, len]
  have prod : k.toNat * xs.length ≤ 1000 * 1000 := Nat.mul_le_mul (by omega) hz
  have prodI : ((its.toArray.size : Nat) : Int) * k ≤ 1000000 := by
    have e1 : ((xs.length : Nat) : Int) * k ≤ 1000 * k := Int.mul_le_mul_of_nonneg_right (by omega) (by omega)
    rw [sz]
    omega
  have fl : (List.replicate k.toNat its).flatten.length ≤ sizeLine := by
    rw [PyProof.Rows.lm_len_rep_flat, len, sizeLine_eq]
    omega
  have b0 : (decide (k < -(2 ^ 63)) || decide (k ≥ 2 ^ 63)) = false := by
    rw [decide_eq_false (by omega), decide_eq_false (by omega)]
    rfl
  have b1 : (its.toArray.isEmpty || k == 1) = false := by
    rw [hi, Bool.false_or]
    exact beq_eq_false_iff_ne.mpr (by omega)
  have b2 : (decide (k ≤ 0) || its.toArray.isEmpty) = false := by
    rw [hi, Bool.or_false]
    exact decide_eq_false (by omega)
  have b4 : Builtin.Tuple.tupleTooMany (((its.toArray.size : Nat) : Int) * k) = false := by
    unfold Builtin.Tuple.tupleTooMany
    rw [sizeLine_eq]
    exact decide_eq_false (by omega)
  refine wpAny_binaryOp_repeat_ref (T := "tuple") (U := "int") (by decide) ⟨_, ho, rfl⟩ (fun s' => typeIs_int s' k t) noFill_tuple_mul F.fills_int_mul F.slot_int_rmul repeat_tuple F.slot_int_index.lookup
    (call_meets F.slot_int_rmul (typeIs_int s k t) F.entry_int_rmul (F.args_int_rmul_2 _ _) (int_rmul_tuple k t l its.toArray n dd sl)
      ⟨ho, rfl, ⟨_, ho, rfl⟩, call_meets F.slot_tuple_mul ⟨_, ho, rfl⟩ F.entry_tuple_mul (F.args_tuple_mul_2 _ _) (tuple_mulW l its.toArray n dd sl k t b0 b1 b2 (by omega) b4 (by rw [size_rep, List.size_toArray]; exact fl)) ⟨ho, ?_⟩⟩)
  rw [size_rep]
  exact put_tup (s := s) (h1 := s.heap) (tk := s.toks) I (r.rep k.toNat) (by rw [PyProof.Rows.lm_len_rep_flat, sizeLine_eq]; omega) q
end
/-! ### a dict whose keys are tuples of ints -/
section
variable {X : Cx} {pins : List (Addr × Obj)} {σ : St} {H : Hp} {s : Shared}
theorem items_ints {P : Program} {w : World} : ∀ {k : List Int} {us : List Value}, Vals (k.map V.int) us → ItemsAre (intKind P w) k us
  | [], _, .nil => .nil
  | n :: k, _, .cons r t => by
    obtain ⟨tk, rfl⟩ := r
    exact .cons (intKind_is P w n tk) (items_ints t)
theorem keyOfT (I : Inv X pins σ H s) {b : Addr} {k : List Int} (h : SqT X.K H b (k.map V.int)) : (tupleKind (intKind X.prog X.w)).is s.heap k b := by
  obtain ⟨its, r, ⟨o, ho, hc, n, hd⟩, _⟩ := I.tuple h
  exact ⟨o, its.toArray, n, ho, hc, hd, by simpa using items_ints r⟩
/-- the keys' tuples stand -/
def KeysIn (H : Hp) (rows : List Row) : Prop := ∀ r ∈ rows, IsT H r.2.1 (r.1.map V.int)
theorem paired_mem {α β : Type} {R : α → β → Prop} {l : List α} {m : List β} (p : Paired R l m) {y : β} (h : y ∈ m) : ∃ x ∈ l, R x y := by
  induction p with
  | nil => cases h
  | cons q _ ih =>
    rcases List.mem_cons.mp h with e | h
    · exact ⟨_, List.mem_cons_self, e ▸ q⟩
    · obtain ⟨x, hx, r⟩ := ih h
      exact ⟨x, List.mem_cons_of_mem _ hx, r⟩
theorem dict_of (I : Inv X pins σ H s) {a : Addr} {rows : List Row} (h : Rd H a (dO a rows)) (hk : KeysIn H rows) :
    rows.length ≤ sizeLine ∧ (a == sysModules) = false ∧ ∃ xs, Paired RowR rows xs ∧ s.heap.DictOfH (tupleKind (intKind X.prog X.w)) a xs := by
  obtain ⟨z, y, xs, r, o, es, ep, h1, h2, h3, h4, h5⟩ := (show ObjOk X.prog X.w H s.heap a (dO a rows) from rd_of I.hok h).1
  refine ⟨z, y, xs, r, o, es, ep, h1, h2, h3, h4, fun x hx => ?_, h5⟩
  obtain ⟨p, hp, e1, e2, _⟩ := paired_mem r hx
  rw [← e1, ← e2]
  exact keyOfT I (hk p hp).sq
def rval (rows : List Row) (k : List Int) : Option V := (rows.find? fun r => decide (r.1 = k)).map (·.2.2)
theorem rows_val {rows : List Row} {xs : List (List Int × Addr × Value)} (r : Paired RowR rows xs) (k : List Int) : RelO (rval rows k) ((atKey xs k).map (·.2)) := by
  induction r with
  | nil => exact True.intro
  | @cons p q ps qs h t ih =>
    obtain ⟨h1, _, h2⟩ := h
    by_cases e : p.1 = k
    · have e' : q.1 = k := h1.symm.trans e
      have b : atKey (q :: qs) k = some q.2 := by simp [atKey, List.find?_cons, e']
      have c : rval (p :: ps) k = some p.2.2 := by simp [rval, List.find?_cons, e]
      rw [b, c]
      exact h2
    · have e' : ¬ q.1 = k := fun z => e (h1.trans z)
      have b : atKey (q :: qs) k = atKey qs k := by simp [atKey, List.find?_cons, e']
      have c : rval (p :: ps) k = rval ps k := by simp [rval, List.find?_cons, e]
      rw [b, c]
      exact ih
def rput (rows : List Row) (k : List Int) (b : Addr) (v : V) : List Row := if (rval rows k).isSome then rows.map fun r => if r.1 = k then (r.1, r.2.1, v) else r else rows ++ [(k, b, v)]
theorem rows_put {rows : List Row} {xs : List (List Int × Addr × Value)} (r : Paired RowR rows xs) (k : List Int) (b : Addr) {v : V} {u : Value} (rv : RelV v u) : Paired RowR (rput rows k b v) (storedH xs k b u) := by
  have e : (rval rows k).isSome = (atKey xs k).isSome := by
    rw [(rows_val r k).isSome_eq, Option.isSome_map]
  unfold rput storedH
  rw [e]
  split
  · clear e
    induction r with
    | nil => exact .nil
    | @cons p q ps qs h t ih =>
      rename_i hh
      rw [List.map_cons, List.map_cons]
      obtain ⟨h1, h2, h3⟩ := h
      refine .cons ?_ ?_
      · unfold putAt
        by_cases e : p.1 = k
        · rw [if_pos e, if_pos (h1.symm.trans e)]; exact ⟨h1, h2, rv⟩
        · rw [if_neg e, if_neg (fun z => e (h1.trans z))]; exact ⟨h1, h2, h3⟩
      · have all : ∀ {l : List Row} {m : List (List Int × Addr × Value)}, Paired RowR l m → Paired RowR (l.map fun r => if r.1 = k then (r.1, r.2.1, v) else r) (m.map (putAt k u)) := by
          intro l m pr
          induction pr with
          | nil => exact .nil
          | @cons p q ps qs h t ih =>
            obtain ⟨h1, h2, h3⟩ := h
            rw [List.map_cons, List.map_cons]
            refine .cons ?_ ih
            unfold putAt
            by_cases e : p.1 = k
            · rw [if_pos e, if_pos (h1.symm.trans e)]; exact ⟨h1, h2, rv⟩
            · rw [if_neg e, if_neg (fun z => e (h1.trans z))]; exact ⟨h1, h2, h3⟩
        exact all t
  · exact Paired.snoc r ⟨rfl, rfl, rv⟩
theorem rput_len (rows : List Row) (k : List Int) (b : Addr) (v : V) : (rput rows k b v).length ≤ rows.length + 1 := by
  unfold rput
  split
  · rw [List.length_map]; omega
  · rw [List.length_append]; exact Nat.le_refl _
/-- the dict at a holds at the tuple y: -/
def TGet (K : PySem.W.Frag) (H : Hp) (a : Addr) (y : V) (r : Option V) : Prop := ∃ rows k b, Rd H a (dO a rows) ∧ KeysIn H rows ∧ y = .ref b ∧ SqT K H b (k.map V.int) ∧ r = rval rows k
variable {a : Addr} {y v : V} {u r : Value} {o : Option V} {A : Around} {E : Value → Shared → Prop}
theorem t_getItem {Q : Value → Shared → Prop} (hu : A.units + 1 < cLine) (I : Inv X pins σ H s) (g : TGet X.K H a y (some v)) (ry : RelV y u) (h : ∀ w' s', Inv X pins σ H s' → RelV v w' → Q w' s') : wpAny (model X.prog X.w) A (getItem (.ref a) u) Q E s := by
  obtain ⟨rows, k, b, e, hk, rfl, eb, l⟩ := g
  cases (show u = Value.ref b from ry)
  obtain ⟨z, hd, xs, rel, dd⟩ := dict_of I e hk
  obtain ⟨w', hw, rw'⟩ := RelO.some_of (v := v) (o := (atKey xs k).map (·.2)) (by rw [l]; exact rows_val rel k)
  obtain ⟨p, hp, hp2⟩ := Option.map_eq_some_iff.mp hw
  refine wpAny_getItem_heap (tupleKind_room_in1 hu) (keyOfT I eb) dd hp ?_
  rw [hp2]
  exact h w' _ (I.tok _) rw'
theorem t_in {Q : Value → Shared → Prop} (hu : A.units + 1 < cLine) (I : Inv X pins σ H s) (g : TGet X.K H a y o) (ry : RelV y u) (h : ∀ s', Inv X pins σ H s' → Q (.bool o.isSome) s') : wpAny (model X.prog X.w) A (compareOp .In u (.ref a)) Q E s := by
  obtain ⟨rows, k, b, e, hk, rfl, eb, l⟩ := g
  cases (show u = Value.ref b from ry)
  obtain ⟨z, hd, xs, rel, dd⟩ := dict_of I e hk
  refine wpAny_in_heap (tupleKind_room_in1 hu) (keyOfT I eb) hd dd ?_
  have q := (rows_val rel k).isSome_eq
  rw [Option.isSome_map, ← l] at q
  rw [← q]
  exact h _ (I.tok _)
theorem t_notIn {Q : Value → Shared → Prop} (hu : A.units + 1 < cLine) (I : Inv X pins σ H s) (g : TGet X.K H a y o) (ry : RelV y u) (h : ∀ s', Inv X pins σ H s' → Q (.bool (!o.isSome)) s') : wpAny (model X.prog X.w) A (compareOp .NotIn u (.ref a)) Q E s := by
  obtain ⟨rows, k, b, e, hk, rfl, eb, l⟩ := g
  cases (show u = Value.ref b from ry)
  obtain ⟨z, hd, xs, rel, dd⟩ := dict_of I e hk
  refine wpAny_notIn_heap (tupleKind_room_in1 hu) (keyOfT I eb) hd dd ?_
  have q := (rows_val rel k).isSome_eq
  rw [Option.isSome_map, ← l] at q
  rw [← q]
  exact h _ (I.tok _)
theorem dO_ok {P : Program} {w : World} {H' : Hp} {h' : Heap} {rows : List Row} (h : dRaw a rows h') : ObjOk P w H' h' a (dO a rows) := by
  refine ⟨h, ?_, fun h1 h2 p kp => ?_⟩
  · obtain ⟨_, _, _, _, o, _, _, e, _⟩ := h
    exact ⟨o, e⟩
  · obtain ⟨z, y, xs, r, o, es, ep, e1, e2, e3, e4, e5⟩ := p
    exact ⟨z, y, xs, r, o, es, ep, kp o e1, e2, e3, e4, e5⟩
/-- d[t] = v -/
theorem t_setItem {rows : List Row} {k : List Int} {b : Addr} {Q : Unit → Shared → Prop} (hu : A.units + 1 < cLine) (I : Inv X pins σ H s) (e : H a = some (dO a rows)) (hk : KeysIn H rows) (eb : SqT X.K H b (k.map V.int)) (hl : rows.length < sizeLine) (rv : RelV v r)
    (h : ∀ s', Inv X pins σ (upd H a (dO a (rput rows k b v))) s' → Q () s') : wpAny (model X.prog X.w) A (setItem (.ref a) (.ref b) r) Q E s := by
  obtain ⟨z, hd, xs, rel, dd⟩ := dict_of I (.inl e) hk
  have hz : xs.length ≤ sizeLine := by rw [← Paired.length rel]; exact z
  refine wpAny_setItem_heap (hsz := hz) (tupleKind_room_in1 hu) (keyOfT I eb) dd fun h' dd' hs => h _ ?_
  obtain ⟨q, es, ep, hq, h2, h3, h4, _, h5⟩ := dd'
  refine d_write I (by rw [e]; exact True.intro) hs ⟨q, hq⟩ (dO_ok ⟨?_, hd, _, rows_put rel k b rv, q, es, ep, hq, h2, h3, h4, h5⟩)
  have := rput_len rows k b v
  omega
end
/-! ### the rules over them -/
def tTGet (K : PySem.W.Frag) (td ty : TE) : TE := fun σ H Q => td σ H fun x H1 => ty σ H1 fun y H2 => ∃ a v, x = .ref a ∧ TGet K H2 a y (some v) ∧ Q v H2
def sTPut (K : PySem.W.Frag) (td ty tv : TE) : TS := fun D σ H => tv σ H fun v H1 => td σ H1 fun x H2 => ty σ H2 fun y H3 => ∃ a rows k b, x = .ref a ∧ y = .ref b ∧ H3 a = some (dO a rows) ∧ KeysIn H3 rows ∧ SqT K H3 b (k.map V.int) ∧ rows.length < sizeLine ∧ D.nx σ (upd H3 a (dO a (rput rows k b v)))
def tTNew : TE := fun _ H Q => ∀ p, H p = none → Q (.ref p) (upd H p (dO p []))
section
variable {X : Cx} {o i value : Expr} {pos pos' : Pos} {td ty tv : TE}
theorem tdict_type {pins : List (Addr × Obj)} {σ : St} {H : Hp} {s : Shared} {a : Addr} {y : V} {r : Option V} (I : Inv X pins σ H s) (g : TGet X.K H a y r) : s.TypeIs (.ref a) "dict" := by
  obtain ⟨rows, k, b, e, hk, _, _, _⟩ := g
  obtain ⟨_, _, xs, _, dd⟩ := dict_of I e hk
  exact dd.typeIs
theorem pe_tget (hu : X.A.units + 1 < cLine) (ho : PE X o td) (hi : PE X i ty) (hs : NoSl i) : PE X (.Subscript o i pos) (tTGet X.K td ty) := by
  refine ⟨fun pins s σ H Q I h => ?_⟩
  refine subD_of PySem.F.slot_dict_getitem.lookup hs (thn (ho.run pins s σ H _ I h) fun u s1 ⟨x, H1, I1, rx, q1⟩ => thn (hi.run pins s1 σ H1 _ I1 q1) fun iv s2 ⟨y, H2, I2, ry, a, v, ex, g, q2⟩ => ?_)
  subst ex
  cases (show u = Value.ref a from rx)
  exact ⟨tdict_type I2 g, t_getItem hu I2 g ry fun w' s3 I3 rw' => ⟨v, H2, I3, rw', q2⟩⟩
theorem op_tin (hu : X.A.units + 1 < cLine) : OpR X (compareOp .In) (fun x y H Q => ∃ a r, y = .ref a ∧ TGet X.K H a x r ∧ Q (.bl r.isSome) H) := by
  intro pins s σ H x y v u Q I rx ry h
  obtain ⟨a, r, rfl, g, q⟩ := h
  cases ry
  exact t_in hu I g rx fun s' I' => ⟨.bl _, H, I', rfl, q⟩
theorem op_tnotIn (hu : X.A.units + 1 < cLine) : OpR X (compareOp .NotIn) (fun x y H Q => ∃ a r, y = .ref a ∧ TGet X.K H a x r ∧ Q (.bl (!r.isSome)) H) := by
  intro pins s σ H x y v u Q I rx ry h
  obtain ⟨a, r, rfl, g, q⟩ := h
  cases ry
  exact t_notIn hu I g rx fun s' I' => ⟨.bl _, H, I', rfl, q⟩
theorem ps_tput (hu : X.A.units + 1 < cLine) (ho : PE X o td) (hi : PE X i ty) (hv : PE X value tv) (hs : swapsWith value (some (.Subscript o i pos')) pos.line X.env = pure false) : PS X (.Assign [.Subscript o i pos'] value pos) (sTPut X.K td ty tv) := by
  refine ⟨fun pins s σ H D I h => ?_⟩
  refine wpAny_Assign_Subscript (thn (hv.run pins s σ H _ I h) fun r s1 ⟨v, H1, I1, rv, q1⟩ => thn (ho.run pins s1 σ H1 _ I1 q1) fun u s2 ⟨x, H2, I2, rx, q2⟩ => thn (hi.run pins s2 σ H2 _ I2 q2) fun iv s3 ⟨y, H3, I3, ry, a, rows, k, b, ex, ey, e, hk, eb, hl, q3⟩ => ?_) hs
  subst ex ey
  cases (show u = Value.ref a from rx)
  cases (show iv = Value.ref b from ry)
  exact t_setItem hu I3 e hk eb hl rv fun s4 I4 => ⟨σ, _, I4, q3⟩
theorem dO_empty {P : Program} {w : World} {H : Hp} (h : Heap) (hb : sysModules < h.objs.size) : ObjOk P w H (h.push { cls := .type "dict", data := .dict #[] }) h.objs.size (dO h.objs.size []) :=
  dO_ok ⟨Nat.zero_le _, beq_eq_false_iff_ne.mpr (Ne.symm (Nat.ne_of_lt hb)), [], .nil, _, #[], 0, Heap.get?_push_size _ rfl, ⟨rfl, rfl, rfl⟩, rfl, rfl, List.nodup_nil⟩
theorem pe_tnew : PE X (.Dict [] [] pos) tTNew := ⟨fun pins s σ H Q I h =>
  wpAny_Dict_empty ⟨.ref s.heap.objs.size, _, I.laid (a := s.heap.objs.size) (o := dO s.heap.objs.size []) (t' := s.toks) (fun _ _ q => Heap.get?_push_of_some _ q) (Nat.le_refl _) (dO_empty s.heap I.big), rfl, h _ (I.hok.fresh (Nat.le_refl _))⟩⟩
end
/-- a dict of either kind -/
def AGet (K : PySem.W.Frag) (H : Hp) (a : Addr) (y : V) (r : Option V) : Prop := DGet H a y r ∨ TGet K H a y r
def tAGet (K : PySem.W.Frag) (td ty : TE) : TE := fun σ H Q => td σ H fun x H1 => ty σ H1 fun y H2 => ∃ a v, x = .ref a ∧ AGet K H2 a y (some v) ∧ Q v H2
section
variable {X : Cx} {o i : Expr} {pos : Pos} {td ty : TE}
theorem pe_aget (hu : X.A.units + 1 < cLine) (ho : PE X o td) (hi : PE X i ty) (hs : NoSl i) : PE X (.Subscript o i pos) (tAGet X.K td ty) := by
  refine ⟨fun pins s σ H Q I h => ?_⟩
  refine subD_of PySem.F.slot_dict_getitem.lookup hs (thn (ho.run pins s σ H _ I h) fun u s1 ⟨x, H1, I1, rx, q1⟩ => thn (hi.run pins s1 σ H1 _ I1 q1) fun iv s2 ⟨y, H2, I2, ry, a, v, ex, g, q2⟩ => ?_)
  subst ex
  cases (show u = Value.ref a from rx)
  rcases g with g | g
  · exact ⟨dict_typeIs I2 g, d_getItem hu I2 g ry fun w' s3 I3 rw' => ⟨v, H2, I3, rw', q2⟩⟩
  · exact ⟨tdict_type I2 g, t_getItem hu I2 g ry fun w' s3 I3 rw' => ⟨v, H2, I3, rw', q2⟩⟩
end
end Pan

/-! Panestacks, part C: operators by their data. -/
namespace Pan
open PySem PySem.Spec L2
open PyProof.Rows hiding St

/-! ### data as the library has it -/
mutual
def toPy : D → PyData
  | .non => .none
  | .bl b => .bool b
  | .int i => .int i
  | .str x => .str x
  | .tup xs => .tuple (toPys xs)
  | .lst xs => .list (toPys xs)
  | _ => .none
def toPys : List D → List PyData
  | [] => []
  | d :: r => toPy d :: toPys r
end
theorem toPys_map : ∀ xs : List D, toPys xs = xs.map toPy
  | [] => by rw [toPys, List.map_nil]
  | d :: r => by rw [toPys, toPys_map r, List.map_cons]
theorem okd_canLay : ∀ (n : Nat) (d : D), okd n d = true → (toPy d).canLay0 = true := by
  have all : ∀ (n : Nat) (xs : List D), (∀ d, okd n d = true → (toPy d).canLay0 = true) → xs.all (okd n) = true → PyData.canLayAll0 (toPys xs) = true := by
    intro n xs ih
    induction xs with
    | nil => intro _; rw [toPys, PyData.canLayAll0]
    | cons d r i =>
      intro h
      rw [List.all_cons, Bool.and_eq_true] at h
      rw [toPys, PyData.canLayAll0, ih d h.1, i h.2]
      rfl
  intro n
  induction n with
  | zero => intro d h; cases d <;> simp [okd] at h <;> simp [toPy, PyData.canLay0, h]
  | succ n ih =>
    intro d h
    cases d <;> simp only [okd] at h <;> first | (simp only [toPy, PyData.canLay0, h]; done) | (simp only [toPy, PyData.canLay0]; exact all n _ ih h) | cases h
theorem okd_depth : ∀ (n : Nat) (d : D), okd n d = true → (toPy d).depth ≤ n := by
  have all : ∀ (n : Nat) (xs : List D), (∀ d, okd n d = true → (toPy d).depth ≤ n) → xs.all (okd n) = true → PyData.depthAll (toPys xs) ≤ n := by
    intro n xs ih
    induction xs with
    | nil => intro _; rw [toPys, PyData.depthAll]; exact Nat.zero_le _
    | cons d r i =>
      intro h
      rw [List.all_cons, Bool.and_eq_true] at h
      rw [toPys, PyData.depthAll]
      exact Nat.max_le.mpr ⟨ih d h.1, i h.2⟩
  intro n
  induction n with
  | zero => intro d h; cases d <;> simp [okd] at h <;> simp [toPy, PyData.depth]
  | succ n ih =>
    intro d h
    cases d <;> simp only [okd] at h <;> first | (simp only [toPy, PyData.depth]; exact Nat.zero_le _) | (simp only [toPy, PyData.depth]; exact Nat.succ_le_succ (all n _ ih h)) | cases h
theorem okd_shaped {n : Nat} {d : D} (hn : n ≤ 64) (h : okd n d = true) : SeqAt.shaped (toPy d) = true := by
  unfold SeqAt.shaped
  rw [okd_canLay n d h, decide_eq_true (Nat.le_trans (okd_depth n d h) hn)]
  rfl
theorem okd_up : ∀ {n : Nat} {d : D}, okd n d = true → okd (n + 1) d = true := by
  intro n
  induction n with
  | zero => intro d h; cases d <;> simp_all [okd]
  | succ n ih =>
    intro d h
    cases d <;> simp only [okd] at h ⊢ <;> first | exact h | (rw [List.all_eq_true] at h ⊢; exact fun x hx => ih (h x hx))
theorem okd_le {n m : Nat} {d : D} (hm : n ≤ m) (h : okd n d = true) : okd m d = true := by
  induction hm with
  | refl => exact h
  | step _ ih => exact okd_up ih
theorem eqv_py : ∀ (n : Nat) (a b : D), okd n a = true → okd n b = true → PyData.eqv (toPy a) (toPy b) = eqv a b := by
  have all : ∀ (n : Nat), (∀ a b : D, okd n a = true → okd n b = true → PyData.eqv (toPy a) (toPy b) = eqv a b) → ∀ (xs ys : List D), xs.all (okd n) = true → ys.all (okd n) = true → PyData.eqvAll (toPys xs) (toPys ys) = eqvs xs ys := by
    intro n ih xs
    induction xs with
    | nil => intro ys _ _; cases ys <;> simp [toPys, PyData.eqvAll, eqvs]
    | cons d r i =>
      intro ys h1 h2
      cases ys with
      | nil => simp [toPys, PyData.eqvAll, eqvs]
      | cons y ys =>
        rw [List.all_cons, Bool.and_eq_true] at h1 h2
        simp only [toPys, PyData.eqvAll, eqvs]
        rw [ih d y h1.1 h2.1, i ys h1.2 h2.2]
  intro n
  induction n with
  | zero => intro a b ha hb; cases a <;> cases b <;> simp [okd] at ha hb <;> simp [toPy, PyData.eqv, eqv, b2i]
  | succ n ih =>
    intro a b ha hb
    cases a <;> cases b <;> simp only [okd] at ha hb <;> first | (simp only [toPy, PyData.eqv, eqv, b2i]; done) | (simp only [toPy, PyData.eqv, eqv]; exact all n ih _ _ ha hb) | (cases ha; done) | (cases hb; done)
section
variable {K : PySem.W.Frag} {F H : Hp}
theorem Rp.dp (s : Sub F H) : ∀ (n : Nat) {v : V} {d : D}, Rp K F v d → okd n d = true → Dp K H v (toPy d) := by
  have all : ∀ (n : Nat), (∀ {v : V} {d : D}, Rp K F v d → okd n d = true → Dp K H v (toPy d)) → ∀ {vs : List V} {ds : List D}, Rps K F vs ds → ds.all (okd n) = true → DpAll K H vs (toPys ds) := by
    intro n ih vs ds r
    induction ds generalizing vs with
    | nil => intro _; cases r; rw [toPys]; exact .nil
    | cons d ds i =>
      intro h
      cases r with
      | cons h1 h2 =>
        rw [List.all_cons, Bool.and_eq_true] at h
        rw [toPys]
        exact .cons (ih h1 h.1) (i h2 h.2)
  intro n
  induction n with
  | zero =>
    intro v d r h
    cases r <;> simp [okd] at h <;> simp only [toPy]
    · exact .non
    · exact .bl _
    · exact .int _
    · exact .str _
  | succ n ih =>
    intro v d r h
    cases r with
    | non => rw [toPy]; exact .non
    | bl b => rw [toPy]; exact .bl _
    | int i => rw [toPy]; exact .int _
    | str x => rw [toPy]; exact .str _
    | ty _ => simp [okd] at h
    | scr _ => simp [okd] at h
    | dK _ _ => simp [okd] at h
    | dT _ _ => simp [okd] at h
    | prs _ _ => simp [okd] at h
    | tup e r => rw [toPy]; exact .tup ((s.tup e).sq) (all n ih r (by simpa only [okd] using h))
    | lst e r => rw [toPy]; exact .lst (SqL.of (s.lst e)) (all n ih r (by simpa only [okd] using h))
/-- flat things -/
theorem Rp.flat {v : V} {d : D} (r : Rp K F v d) (h : flatD d = true) : flatV v = true := by
  cases r <;> first | rfl | simp [flatD] at h
theorem Rps.flat : ∀ {vs : List V} {ds : List D}, Rps K F vs ds → ds.all flatD = true → vs.all flatV = true
  | _, _, .nil, _ => rfl
  | _, _, .cons h r, e => by
    rw [List.all_cons, Bool.and_eq_true] at e
    rw [List.all_cons, h.flat e.1, Rps.flat r e.2]
    rfl
theorem Rp.eqV {F F' : Hp} {v w : V} {d e : D} (r : Rp K F v d) (q : Rp K F' w e) (hd : flatD d = true) (he : flatD e = true) : L2.eqV v w = eqv d e := by
  cases r <;> cases q <;> first | rfl | simp [flatD] at hd | simp [flatD] at he | simp [L2.eqV, eqv, b2i]
theorem Rps.inV {F F' : Hp} {w : V} {e : D} (q : Rp K F' w e) (he : flatD e = true) : ∀ {vs : List V} {ds : List D}, Rps K F vs ds → ds.all flatD = true → L2.inV w vs = ds.any (eqv · e)
  | _, _, .nil, _ => rfl
  | _, _, .cons h r, z => by
    rw [List.all_cons, Bool.and_eq_true] at z
    have ih := Rps.inV q he r z.2
    unfold L2.inV at ih ⊢
    rw [List.any_cons, List.any_cons, ih, h.eqV q z.1 he]
end
/-! ### binary operators -/
/-- the answer d of data, as values -/
abbrev Gives (K : PySem.W.Frag) (F H : Hp) (d : D) (Q : VK) : Prop := ∀ v F' H', Ext F H F' H' → Rp K F' v d → Q v H'
def rBin (K : PySem.W.Frag) (op : Operator) : R2 := fun x y H Q => ∃ F a b d, Sub F H ∧ Rp K F x a ∧ Rp K F y b ∧ binS op a b = .ok d ∧ Gives K F H d Q
section
variable {X : Cx}
theorem Gives.int {K : PySem.W.Frag} {F H : Hp} {i : Int} {Q : VK} (s : Sub F H) (g : Gives K F H (.int i) Q) : Q (.int i) H := g _ _ _ (Ext.refl s) (.int i)
theorem Gives.bl {K : PySem.W.Frag} {F H : Hp} {i : Bool} {Q : VK} (s : Sub F H) (g : Gives K F H (.bl i) Q) : Q (.bl i) H := g _ _ _ (Ext.refl s) (.bl i)
theorem Gives.str {K : PySem.W.Frag} {F H : Hp} {i : Str} {Q : VK} (s : Sub F H) (g : Gives K F H (.str i) Q) : Q (.str i) H := g _ _ _ (Ext.refl s) (.str i)
theorem Gives.was {K : PySem.W.Frag} {F H : Hp} {d : D} {v : V} {Q : VK} (s : Sub F H) (r : Rp K F v d) (g : Gives K F H d Q) : Q v H := g _ _ _ (Ext.refl s) r
theorem Gives.tup {K : PySem.W.Frag} {F H : Hp} {ds : List D} {vs : List V} {Q : VK} (s : Sub F H) (r : Rps K F vs ds) (g : Gives K F H (.tup ds) Q) : NewT H vs Q := fun p o hp ho =>
  have x := Ext.laid (.frz o (.tup vs)) s hp
  g _ _ _ x (.tup (.new ho) (r.mono x.grow))
theorem Gives.lst {K : PySem.W.Frag} {F H : Hp} {ds : List D} {vs : List V} {Q : VK} (s : Sub F H) (r : Rps K F vs ds) (g : Gives K F H (.lst ds) Q) : ∀ p, H p = none → Q (.ref p) (upd H p (.lst vs)) := fun p hp =>
  have x := Ext.laid (.lst vs) s hp
  g _ _ _ x (.lst upd_same (r.mono x.grow))
theorem fitL_ok {α : Type} {xs : List α} {k : List α → D} {d : D} (h : fitL xs k = .ok d) : xs.length ≤ sizeLine ∧ d = k xs := by
  unfold fitL at h
  split at h
  · cases h; exact ⟨by assumption, rfl⟩
  · cases h
theorem bin_add : OpR X (binaryOp .Add) (rBin X.K .Add) := by
  refine OpR.imp (((op_add (X := X)).or op_add_str).or (op_catF.or op_cat)) fun x y H Q _ h => ?_
  obtain ⟨F, a, b, d, s, ra, rb, e, g⟩ := h
  cases ra <;> cases rb <;> simp only [binS] at e <;> try cases e
  · exact .inl (.inl ⟨_, _, rfl, rfl, g.int s⟩)
  · split at e
    · cases e
      exact .inl (.inr ⟨_, _, rfl, rfl, by assumption, g.str s⟩)
    · cases e
  · rename_i a xs ds ea r1 b ys es eb r2
    obtain ⟨hl, rfl⟩ := fitL_ok e
    refine .inr (.inl ⟨a, b, xs, ys, rfl, rfl, (s.tup ea).sq, (s.tup eb).sq, ?_, fun z => ?_, fun _ z => ?_, fun _ _ => g.tup s (r1.append r2)⟩)
    · rw [r1.length, r2.length, ← List.length_append]; exact hl
    · subst z; cases r1; exact g.was s (.tup eb r2)
    · subst z
      cases r2
      rw [List.append_nil] at g
      exact g.was s (.tup ea r1)
  · rename_i a xs ds ea r1 b ys es eb r2
    obtain ⟨hl, rfl⟩ := fitL_ok e
    refine .inr (.inr ⟨a, b, xs, ys, rfl, rfl, s.lst ea, s.lst eb, ?_, g.lst s (r1.append r2)⟩)
    rw [r1.length, r2.length, ← List.length_append]; exact hl
theorem bin_sub : OpR X (binaryOp .Sub) (rBin X.K .Sub) := by
  refine OpR.imp (op_sub (X := X)) fun x y H Q _ h => ?_
  obtain ⟨F, a, b, d, s, ra, rb, e, g⟩ := h
  cases ra <;> cases rb <;> simp only [binS] at e <;> try cases e
  exact ⟨_, _, rfl, rfl, g.int s⟩
theorem bin_mod : OpR X (binaryOp .Mod) (rBin X.K .Mod) := by
  refine OpR.imp (op_mod (X := X)) fun x y H Q _ h => ?_
  obtain ⟨F, a, b, d, s, ra, rb, e, g⟩ := h
  cases ra <;> cases rb <;> simp only [binS] at e <;> try cases e
  split at e
  · cases e
    exact ⟨_, _, rfl, rfl, by assumption, g.int s⟩
  · cases e
theorem bin_fdiv : OpR X (binaryOp .FloorDiv) (rBin X.K .FloorDiv) := by
  refine OpR.imp (op_fdivW (X := X)) fun x y H Q _ h => ?_
  obtain ⟨F, a, b, d, s, ra, rb, e, g⟩ := h
  cases ra <;> cases rb <;> simp only [binS, divS] at e <;> try cases e
  split at e
  · rename_i h
    cases e
    exact ⟨_, _, rfl, rfl, wide_div h.1 (b := 64) (by omega) (by decide) (by decide), g.int s⟩
  · cases e
theorem bin_pow : OpR X (binaryOp .Pow) (rBin X.K .Pow) := by
  refine OpR.imp (op_pow (X := X)) fun x y H Q _ h => ?_
  obtain ⟨F, a, b, d, s, ra, rb, e, g⟩ := h
  cases ra <;> cases rb <;> simp only [binS] at e <;> try cases e
  split at e
  · rename_i h
    cases e
    exact ⟨_, _, rfl, rfl, ⟨h.1, by omega, h.2.2⟩, g.int s⟩
  · cases e
theorem bin_mul : OpR X (binaryOp .Mult) (rBin X.K .Mult) := by
  refine OpR.imp ((op_mul (X := X)).or (op_repF.or op_rep)) fun x y H Q _ h => ?_
  obtain ⟨F, a, b, d, s, ra, rb, e, g⟩ := h
  cases ra <;> cases rb <;> simp only [binS, mulS] at e <;> try cases e
  · split at e
    · rename_i h
      cases e
      exact .inl ⟨_, _, rfl, rfl, h, g.int s⟩
    · cases e
  · rename_i a xs ds ea r1 k
    split at e
    · rename_i hk
      cases e
      refine .inr (.inl ⟨a, k, xs, rfl, rfl, (s.tup ea).sq, fun z => ?_, hk.1, hk.2.1, by rw [r1.length]; exact hk.2.2.1, g.tup s (r1.rep _)⟩)
      subst z
      cases r1
      exact absurd hk.2.2.2 (by decide)
    · cases e
  · rename_i a xs ds ea r1 k
    split at e
    · rename_i hk
      cases e
      refine .inr (.inr ⟨a, k, xs, rfl, rfl, s.lst ea, by omega, by omega, ?_, g.lst s (r1.rep _)⟩)
      have : ds.length * k.toNat ≤ 1000 * 1000 := Nat.mul_le_mul hk.2.2 (by omega)
      rw [r1.length]
      exact Nat.le_trans this (by decide)
    · cases e
/-- an operator that has a rule here -/
def binOk : Operator → Bool
  | .Add => true
  | .Sub => true
  | .Mult => true
  | .FloorDiv => true
  | .Mod => true
  | .Pow => true
  | _ => false
theorem bin_any {op : Operator} (h : binOk op = true) : OpR X (binaryOp op) (rBin X.K op) := by
  cases op <;> first | exact bin_add | exact bin_sub | exact bin_mul | exact bin_fdiv | exact bin_mod | exact bin_pow | cases h
/-! ### comparisons -/
def rCmp (K : PySem.W.Frag) (op : CmpOp) : R2 := fun x y H Q => ∃ F G a b c, Sub F H ∧ Sub G H ∧ Rp K F x a ∧ Rp K G y b ∧ cmpS op a b = .ok c ∧ Q (.bl c) H
theorem cmp_lt (hu : X.A.units < cLine) : OpR X (compareOp .Lt) (rCmp X.K .Lt) := by
  refine OpR.imp ((op_lt (X := X)).or (op_ltT hu)) fun x y H Q _ h => ?_
  obtain ⟨F, G, a, b, d, s, s', ra, rb, e, g⟩ := h
  cases ra <;> cases rb <;> simp only [cmpS, ltS] at e <;> try cases e
  · exact .inl ⟨_, _, rfl, rfl, g⟩
  · rename_i a xs ds ea r1 b ys es eb r2
    split at e
    · rename_i ns ms e1 e2
      cases e
      have q1 := r1.ints e1
      have q2 := r2.ints e2
      subst q1 q2
      exact .inr ⟨a, b, ns, ms, rfl, rfl, (s.tup ea).sq, (s'.tup eb).sq, g⟩
    · cases e
theorem cmp_le : OpR X (compareOp .LtE) (rCmp X.K .LtE) := by
  refine OpR.imp (op_le (X := X)) fun x y H Q _ h => ?_
  obtain ⟨F, G, a, b, d, s, s', ra, rb, e, g⟩ := h
  cases ra <;> cases rb <;> simp only [cmpS] at e <;> try cases e
  exact ⟨_, _, rfl, rfl, g⟩
theorem cmp_gt : OpR X (compareOp .Gt) (rCmp X.K .Gt) := by
  refine OpR.imp (op_gt (X := X)) fun x y H Q _ h => ?_
  obtain ⟨F, G, a, b, d, s, s', ra, rb, e, g⟩ := h
  cases ra <;> cases rb <;> simp only [cmpS] at e <;> try cases e
  exact ⟨_, _, rfl, rfl, g⟩
theorem cmp_ge : OpR X (compareOp .GtE) (rCmp X.K .GtE) := by
  refine OpR.imp (op_ge (X := X)) fun x y H Q _ h => ?_
  obtain ⟨F, G, a, b, d, s, s', ra, rb, e, g⟩ := h
  cases ra <;> cases rb <;> simp only [cmpS] at e <;> try cases e
  exact ⟨_, _, rfl, rfl, g⟩
theorem isEmpty_of_beq (ns : List Int) : PyData.eqv (.list (ns.map PyData.int)) (.list []) = ns.isEmpty := by
  cases ns <;> simp [PyData.eqv, PyData.eqvAll]
theorem scr_lay : ∀ ns : List Int, PyData.canLayAll0 (ns.map PyData.int) = true
  | [] => by rw [List.map_nil, PyData.canLayAll0]
  | n :: ns => by rw [List.map_cons, PyData.canLayAll0, scr_lay ns, PyData.canLay0]; rfl
theorem scr_depth : ∀ ns : List Int, PyData.depthAll (ns.map PyData.int) = 0
  | [] => by rw [List.map_nil, PyData.depthAll]
  | n :: ns => by rw [List.map_cons, PyData.depthAll, scr_depth ns, PyData.depth]; rfl
theorem scr_dp {K : PySem.W.Frag} {H : Hp} : ∀ ns : List Int, DpAll K H (ns.map V.int) (ns.map PyData.int)
  | [] => .nil
  | n :: ns => .cons (.int n) (scr_dp ns)
theorem scr_shaped (ns : List Int) : SeqAt.shaped (.list (ns.map PyData.int)) = true := by
  unfold SeqAt.shaped
  rw [PyData.canLay0, scr_lay, PyData.depth, scr_depth]
  rfl
theorem cmp_eq (hu : X.A.units + 64 < cLine) : OpR X (compareOp .Eq) (rCmp X.K .Eq) := by
  refine OpR.imp (op_eqD hu) fun x y H Q _ h => ?_
  obtain ⟨F, G, a, b, d, s, s', ra, rb, e, g⟩ := h
  by_cases hz : ∃ ns, a = .scr ns ∧ b = .lst []
  · obtain ⟨ns, rfl, rfl⟩ := hz
    cases ra with
    | scr hs =>
      cases rb with
      | lst eb r2 =>
        cases r2
        simp only [cmpS] at e
        cases e
        refine ⟨_, _, .lst (s.seq hs) (scr_dp ns), .lst (SqL.of (s'.lst eb)) .nil, scr_shaped ns, by decide, ?_⟩
        rw [isEmpty_of_beq]
        exact g
  · have e' : (if okd 8 a && okd 8 b then R.ok (eqv a b) else .bad) = R.ok d := by
      rw [← e]
      unfold cmpS
      split <;> first | rfl | (exfalso; exact hz ⟨_, rfl, rfl⟩) | simp_all
    split at e'
    · rename_i h
      rw [Bool.and_eq_true] at h
      cases e'
      refine ⟨_, _, ra.dp s 8 h.1, rb.dp s' 8 h.2, okd_shaped (by decide) h.1, okd_shaped (by decide) h.2, ?_⟩
      rw [eqv_py 8 a b h.1 h.2]
      exact g
    · cases e'
theorem cmp_ne (hu : X.A.units + 64 < cLine) : OpR X (compareOp .NotEq) (rCmp X.K .NotEq) := by
  refine OpR.imp (op_neD hu) fun x y H Q _ h => ?_
  obtain ⟨F, G, a, b, d, s, s', ra, rb, e, g⟩ := h
  by_cases hz : ∃ ns, a = .scr ns ∧ b = .lst []
  · obtain ⟨ns, rfl, rfl⟩ := hz
    cases ra with
    | scr hs =>
      cases rb with
      | lst eb r2 =>
        cases r2
        simp only [cmpS] at e
        cases e
        refine ⟨_, _, .lst (s.seq hs) (scr_dp ns), .lst (SqL.of (s'.lst eb)) .nil, scr_shaped ns, by decide, ?_⟩
        rw [isEmpty_of_beq]
        exact g
  · have e' : (if okd 8 a && okd 8 b then R.ok (!eqv a b) else .bad) = R.ok d := by
      rw [← e]
      unfold cmpS
      split <;> first | rfl | (exfalso; exact hz ⟨_, rfl, rfl⟩) | simp_all
    split at e'
    · rename_i h
      rw [Bool.and_eq_true] at h
      cases e'
      refine ⟨_, _, ra.dp s 8 h.1, rb.dp s' 8 h.2, okd_shaped (by decide) h.1, okd_shaped (by decide) h.2, ?_⟩
      rw [eqv_py 8 a b h.1 h.2]
      exact g
    · cases e'
end
end Pan

/-! Panestacks, part C2: in, is, subscripts, slices. -/
namespace Pan
open PySem PySem.Spec L2
open PyProof.Rows hiding St
/-! ### keys of dicts -/
section
variable {K : PySem.W.Frag} {F G H : Hp}
theorem eqv_kD (a b : Key) : eqv (kD a) (kD b) = decide (a = b) := by
  rcases a with a | a <;> rcases b with b | b <;> simp only [kD, eqv]
  · by_cases h : a = b <;> simp [h]
  · simp
  · simp
  · by_cases h : a = b <;> simp [h]
theorem eqvs_kD : ∀ a b : List Key, eqvs (a.map kD) (b.map kD) = decide (a = b)
  | [], [] => by simp [eqvs]
  | [], _ :: _ => by simp [eqvs]
  | _ :: _, [] => by simp [eqvs]
  | x :: xs, y :: ys => by
    rw [List.map_cons, List.map_cons, eqvs, eqv_kD, eqvs_kD xs ys]
    by_cases h : x = y <;> by_cases h' : xs = ys <;> simp [h, h']
theorem keyD_of {v : V} {d : D} (r : Rp K F v d) (h : keyD d = true) : ∃ k, d = kD k ∧ v = kV k := by
  cases r <;> simp [keyD] at h
  · exact ⟨.inl _, rfl, rfl⟩
  · exact ⟨.inr _, rfl, rfl⟩
theorem keysD_of : ∀ {vs : List V} {ds : List D}, Rps K F vs ds → ds.all keyD = true → ∃ ks : List Key, ds = ks.map kD ∧ vs = ks.map kV
  | _, _, .nil, _ => ⟨[], rfl, rfl⟩
  | _, _, .cons h r, e => by
    rw [List.all_cons, Bool.and_eq_true] at e
    obtain ⟨k, rfl, rfl⟩ := keyD_of h e.1
    obtain ⟨ks, rfl, rfl⟩ := keysD_of r e.2
    exact ⟨k :: ks, rfl, rfl⟩
theorem intsD_of : ∀ {vs : List V} {ds : List D}, Rps K F vs ds → ds.all isIntD = true → ∃ ks : List Int, ds = ks.map D.int ∧ vs = ks.map V.int
  | _, _, .nil, _ => ⟨[], rfl, rfl⟩
  | _, _, .cons h r, e => by
    rw [List.all_cons, Bool.and_eq_true] at e
    obtain ⟨ks, rfl, rfl⟩ := intsD_of r e.2
    cases h <;> simp only [isIntD] at e <;> first | exact absurd e.1 Bool.false_ne_true | exact ⟨_ :: ks, rfl, rfl⟩
theorem keyT_of {v : V} {d : D} (r : Rp K F v d) (h : keyT d = true) : ∃ (b : Addr) (ks : List Int), v = .ref b ∧ d = .tup (ks.map D.int) ∧ IsT F b (ks.map V.int) := by
  cases r <;> simp only [keyT] at h <;> try cases h
  rename_i a xs ds e r
  obtain ⟨ks, rfl, rfl⟩ := intsD_of r h
  exact ⟨a, ks, rfl, rfl, e⟩
theorem eqvs_ints : ∀ a b : List Int, eqvs (a.map D.int) (b.map D.int) = decide (a = b)
  | [], [] => by simp [eqvs]
  | [], _ :: _ => by simp [eqvs]
  | _ :: _, [] => by simp [eqvs]
  | x :: xs, y :: ys => by
    rw [List.map_cons, List.map_cons, eqvs, eqv, eqvs_ints xs ys]
    by_cases h : x = y <;> by_cases h' : xs = ys <;> simp [h, h']
theorem RkT.keys (s : Sub F H) : ∀ {rows : List Row} {es : List (D × D)}, RkT K F rows es → KeysIn H rows
  | _, _, .nil => fun r h => by cases h
  | _, _, .cons t _ q => fun r h => by
    rcases List.mem_cons.mp h with e | h
    · subst e; exact s.tup t
    · exact RkT.keys s q r h
theorem RkK.val (k : Key) : ∀ {kvs : List (Key × V)} {es : List (D × D)}, RkK K F kvs es → (valV kvs k = none ∧ dlook (kD k) es = none) ∨ ∃ v d, valV kvs k = some v ∧ dlook (kD k) es = some d ∧ Rp K F v d
  | _, _, .nil => .inl ⟨rfl, rfl⟩
  | _, _, .cons (k := j) h r => by
    rw [dlook, eqv_kD]
    by_cases e : j = k
    · rw [valV_pos e, decide_eq_true e]
      exact .inr ⟨_, _, rfl, rfl, h⟩
    · rw [valV_neg e, decide_eq_false e]
      exact RkK.val k r
theorem RkT.val (k : List Int) : ∀ {kvs : List Row} {es : List (D × D)}, RkT K F kvs es → (rval kvs k = none ∧ dlook (.tup (k.map D.int)) es = none) ∨ ∃ v d, rval kvs k = some v ∧ dlook (.tup (k.map D.int)) es = some d ∧ Rp K F v d
  | _, _, .nil => .inl ⟨rfl, rfl⟩
  | _, _, .cons (k := j) (r := rr) t h r => by
    rw [dlook, eqv, eqvs_ints]
    by_cases e : j = k
    · rw [decide_eq_true e]
      exact .inr ⟨_, _, by simp [rval, List.find?_cons, e], rfl, h⟩
    · rw [decide_eq_false e]
      have c : ∀ z : Addr × V, rval ((j, z) :: rr) k = rval rr k := fun z => by simp [rval, List.find?_cons, e]
      rw [c]
      exact RkT.val k r
/-- what the dict holds at a key -/
theorem dic_get {t : Bool} {es : List (D × D)} {v w : V} {d : D} (s : Sub F H) (s' : Sub G H) (r : Rp K F v (.dic t es)) (q : Rp K G w d) (h : keyOf t d = true) :
    ∃ a o, v = .ref a ∧ AGet K H a w o ∧ ((o = none ∧ dlook d es = none) ∨ ∃ u e, o = some u ∧ dlook d es = some e ∧ Rp K F u e) := by
  cases r with
  | dK e r =>
    obtain ⟨k, rfl, rfl⟩ := keyD_of q h
    exact ⟨_, _, rfl, .inl (.inl ⟨_, k, s.dK e, rfl, rfl⟩), (RkK.val k r)⟩
  | dT e r =>
    obtain ⟨b, ks, rfl, rfl, eb⟩ := keyT_of q h
    exact ⟨_, _, rfl, .inr ⟨_, ks, b, s.dT e, r.keys s, rfl, (s'.tup eb).sq, rfl⟩, (RkT.val ks r)⟩
end
section
variable {X : Cx}
theorem op_in_dic (hu : X.A.units + 1 < cLine) : OpR X (compareOp .In) (fun x y H Q => ∃ a o, y = .ref a ∧ AGet X.K H a x o ∧ Q (.bl o.isSome) H) := by
  intro pins s σ H x y v u Q I rx ry h
  obtain ⟨a, o, rfl, g, q⟩ := h
  cases ry
  rcases g with g | g
  · exact d_in hu I g rx fun s' I' => ⟨.bl _, H, I', rfl, q⟩
  · exact t_in hu I g rx fun s' I' => ⟨.bl _, H, I', rfl, q⟩
theorem op_notIn_dic (hu : X.A.units + 1 < cLine) : OpR X (compareOp .NotIn) (fun x y H Q => ∃ a o, y = .ref a ∧ AGet X.K H a x o ∧ Q (.bl (!o.isSome)) H) := by
  intro pins s σ H x y v u Q I rx ry h
  obtain ⟨a, o, rfl, g, q⟩ := h
  cases ry
  rcases g with g | g
  · exact d_notIn hu I g rx fun s' I' => ⟨.bl _, H, I', rfl, q⟩
  · exact t_notIn hu I g rx fun s' I' => ⟨.bl _, H, I', rfl, q⟩
theorem any_py (n : Nat) {d : D} (h : okd n d = true) : ∀ (ds : List D), ds.all (okd n) = true → ((toPys ds).any fun z => PyData.eqv z (toPy d)) = ds.any (eqv · d)
  | [], _ => by rw [toPys]; rfl
  | e :: r, z => by
    rw [List.all_cons, Bool.and_eq_true] at z
    rw [toPys, List.any_cons, List.any_cons, any_py n h r z.2, eqv_py n e d z.1 h]
theorem cmp_in (hu : X.A.units + 65 < cLine) : OpR X (compareOp .In) (rCmp X.K .In) := by
  refine OpR.imp (((op_in_seq (X := X)).or (op_inD hu)).or ((op_in_dic (by omega)).or op_in_sign)) fun x y H Q _ h => ?_
  obtain ⟨F, G, a, b, c, s, s', ra, rb, e, g⟩ := h
  cases rb <;> simp only [cmpS, inS] at e <;> try cases e
  · cases ra <;> simp only at e <;> try cases e
    rename_i y
    obtain ⟨y⟩ := y
    split at e
    · rename_i c0 hc
      cases e
      have : y = #[c0] := by
        have := congrArg List.toArray hc
        simpa using this
      subst this
      exact .inr (.inr ⟨_, _, rfl, rfl, g⟩)
    · cases e
  · rename_i p xs ds eb r
    split at e
    · rename_i z
      rw [Bool.and_eq_true] at z
      cases e
      refine .inl (.inl ⟨p, xs, rfl, .inr ((s'.tup eb).sq), ra.flat z.1, r.flat z.2, ?_⟩)
      rw [if_neg (by decide), Rps.inV ra z.1 r z.2]
      exact g
    · cases e
  · rename_i p xs ds eb r
    split at e
    · rename_i z
      rw [Bool.and_eq_true] at z
      cases e
      refine .inl (.inr ⟨toPy a, toPys ds, ra.dp s 8 z.1, ?_, okd_shaped (by decide) z.1, ?_, ?_⟩)
      · have := (Rp.lst eb r).dp s' 9 (by rw [okd]; exact z.2)
        rw [toPy] at this
        exact this
      · have := okd_shaped (n := 9) (d := .lst ds) (by decide) (by rw [okd]; exact z.2)
        rw [toPy] at this
        exact this
      · rw [any_py 8 z.1 ds z.2]
        exact g
    · cases e
  all_goals
    split at e
    · rename_i z
      cases e
      obtain ⟨q, o, e1, dg, ho⟩ := dic_get s' s (by first | exact Rp.dK (by assumption) (by assumption) | exact Rp.dT (by assumption) (by assumption)) ra z
      cases e1
      refine .inr (.inl ⟨_, o, rfl, dg, ?_⟩)
      rcases ho with ⟨h1, h2⟩ | ⟨u, e', h1, h2, _⟩
      · rw [h1]; rw [h2] at g; exact g
      · rw [h1]; rw [h2] at g; exact g
    · cases e
theorem not_ok {r : R Bool} {c : Bool} (h : (do let x ← r; R.ok (!x)) = R.ok c) : ∃ x, r = .ok x ∧ c = !x := by
  cases r with
  | ok x => exact ⟨x, rfl, by cases h; rfl⟩
  | exc _ => cases h
  | bad => cases h
theorem cmp_notIn (hu : X.A.units + 65 < cLine) : OpR X (compareOp .NotIn) (rCmp X.K .NotIn) := by
  refine OpR.imp (((op_notIn_seq (X := X)).or (op_notInD hu)).or ((op_notIn_dic (by omega)).or op_notIn_sign)) fun x y H Q _ h => ?_
  obtain ⟨F, G, a, b, c, s, s', ra, rb, e, g⟩ := h
  rw [cmpS] at e
  obtain ⟨c', e2, rfl⟩ := not_ok e
  clear e
  have e := e2
  clear e2
  cases rb <;> simp only [inS] at e <;> try cases e
  · cases ra <;> simp only at e <;> try cases e
    rename_i y
    obtain ⟨y⟩ := y
    split at e
    · rename_i c0 hc
      cases e
      have : y = #[c0] := by
        have := congrArg List.toArray hc
        simpa using this
      subst this
      exact .inr (.inr ⟨_, _, rfl, rfl, g⟩)
    · cases e
  · rename_i p xs ds eb r
    split at e
    · rename_i z
      rw [Bool.and_eq_true] at z
      cases e
      refine .inl (.inl ⟨p, xs, rfl, .inr ((s'.tup eb).sq), ra.flat z.1, r.flat z.2, ?_⟩)
      rw [if_pos rfl, Rps.inV ra z.1 r z.2]
      exact g
    · cases e
  · rename_i p xs ds eb r
    split at e
    · rename_i z
      rw [Bool.and_eq_true] at z
      cases e
      refine .inl (.inr ⟨toPy a, toPys ds, ra.dp s 8 z.1, ?_, okd_shaped (by decide) z.1, ?_, ?_⟩)
      · have := (Rp.lst eb r).dp s' 9 (by rw [okd]; exact z.2)
        rw [toPy] at this
        exact this
      · have := okd_shaped (n := 9) (d := .lst ds) (by decide) (by rw [okd]; exact z.2)
        rw [toPy] at this
        exact this
      · rw [any_py 8 z.1 ds z.2]
        exact g
    · cases e
  all_goals
    split at e
    · rename_i z
      cases e
      obtain ⟨q, o, e1, dg, ho⟩ := dic_get s' s (by first | exact Rp.dK (by assumption) (by assumption) | exact Rp.dT (by assumption) (by assumption)) ra z
      cases e1
      refine .inr (.inl ⟨_, o, rfl, dg, ?_⟩)
      rcases ho with ⟨h1, h2⟩ | ⟨u, e', h1, h2, _⟩
      · rw [h1]; rw [h2] at g; exact g
      · rw [h1]; rw [h2] at g; exact g
    · cases e
/-- is True, is False, where the left one is None -/
theorem op_is_nb : OpR X (compareOp .Is) (fun x y H Q => ∃ b, x = .non ∧ y = .bl b ∧ Q (.bl false) H) := by
  intro pins s σ H x y v u Q I rx ry h
  obtain ⟨b, rfl, rfl, q⟩ := h
  cases (show v = Value.none from rx)
  cases (show u = Value.bool b from ry)
  exact wpAny_is_other rfl (fun z => nomatch z) ⟨.bl false, H, I, rfl, q⟩
theorem op_not_nb : OpR X (compareOp .IsNot) (fun x y H Q => ∃ b, x = .non ∧ y = .bl b ∧ Q (.bl true) H) := by
  intro pins s σ H x y v u Q I rx ry h
  obtain ⟨b, rfl, rfl, q⟩ := h
  cases (show v = Value.none from rx)
  cases (show u = Value.bool b from ry)
  exact wpAny_isNot_other rfl (fun z => nomatch z) ⟨.bl true, H, I, rfl, q⟩
theorem cmp_is : OpR X (compareOp .Is) (rCmp X.K .Is) := by
  refine OpR.imp ((op_isN (X := X)).or (op_isBl.or op_is_nb)) fun x y H Q _ h => ?_
  obtain ⟨F, G, a, b, c, s, s', ra, rb, e, g⟩ := h
  cases rb <;> simp only [cmpS, isS] at e <;> try cases e
  · refine .inl ⟨rfl, ?_⟩
    cases ra <;> simp only [R.ok.injEq] at e <;> subst e <;> exact g
  · cases ra <;> simp only [R.ok.injEq, reduceCtorEq] at e <;> subst e
    · exact .inr (.inr ⟨_, rfl, rfl, g⟩)
    · rename_i b' b
      refine .inr (.inl ⟨b, b', rfl, rfl, ?_⟩)
      have : decide (b = b') = (b == b') := by cases b <;> cases b' <;> rfl
      rw [this]
      exact g
theorem cmp_isNot : OpR X (compareOp .IsNot) (rCmp X.K .IsNot) := by
  refine OpR.imp ((op_notN (X := X)).or (op_notBl.or op_not_nb)) fun x y H Q _ h => ?_
  obtain ⟨F, G, a, b, c, s, s', ra, rb, e, g⟩ := h
  rw [cmpS] at e
  obtain ⟨c', e2, rfl⟩ := not_ok e
  clear e
  have e := e2
  clear e2
  cases rb <;> simp only [isS] at e <;> try cases e
  · refine .inl ⟨rfl, ?_⟩
    cases ra <;> simp only [R.ok.injEq] at e <;> subst e <;> exact g
  · cases ra <;> simp only [R.ok.injEq, reduceCtorEq] at e <;> subst e
    · exact .inr (.inr ⟨_, rfl, rfl, g⟩)
    · rename_i b' b
      refine .inr (.inl ⟨b, b', rfl, rfl, ?_⟩)
      have : decide (b = b') = (b == b') := by cases b <;> cases b' <;> rfl
      rw [this]
      exact g
theorem cmp_any (hu : X.A.units + 65 < cLine) (op : CmpOp) : OpR X (compareOp op) (rCmp X.K op) := by
  cases op with
  | Eq => exact cmp_eq (by omega)
  | NotEq => exact cmp_ne (by omega)
  | Lt => exact cmp_lt (by omega)
  | LtE => exact cmp_le
  | Gt => exact cmp_gt
  | GtE => exact cmp_ge
  | In => exact cmp_in hu
  | NotIn => exact cmp_notIn hu
  | Is => exact cmp_is
  | IsNot => exact cmp_isNot
end
end Pan

/-! Panestacks, part C3: what a store does to a dict's data. -/
namespace Pan
open PySem PySem.Spec L2
open PyProof.Rows hiding St
theorem RkK.any {K : PySem.W.Frag} {F : Hp} (key : Key) : ∀ {kvs : List (Key × V)} {es : List (D × D)}, RkK K F kvs es → (es.any fun p => eqv p.1 (kD key)) = kvs.any fun kv => decide (kv.1 = key)
  | _, _, .nil => rfl
  | _, _, .cons h r => by rw [List.any_cons, List.any_cons, RkK.any key r, eqv_kD]
theorem RkT.any {K : PySem.W.Frag} {F : Hp} (key : List Int) : ∀ {kvs : List Row} {es : List (D × D)}, RkT K F kvs es → (es.any fun p => eqv p.1 (.tup (key.map D.int))) = (rval kvs key).isSome
  | _, _, .nil => rfl
  | _, _, .cons (k := j) (r := rr) t h r => by
    rw [List.any_cons, RkT.any key r, eqv, eqvs_ints]
    by_cases e : j = key
    · simp [rval, List.find?_cons, e]
    · have c : ∀ z : Addr × V, rval ((j, z) :: rr) key = rval rr key := fun z => by simp [rval, List.find?_cons, e]
      rw [c, decide_eq_false e, Bool.false_or]
theorem RkK.mapPut {K : PySem.W.Frag} {F : Hp} (key : Key) {v : V} {d : D} (rv : Rp K F v d) : ∀ {kvs : List (Key × V)} {es : List (D × D)}, RkK K F kvs es → RkK K F (kvs.map fun kv => if kv.1 = key then (kv.1, v) else kv) (es.map fun p => if eqv p.1 (kD key) then (p.1, d) else p)
  | _, _, .nil => .nil
  | _, _, .cons (k := j) h r => by
    rw [List.map_cons, List.map_cons]
    dsimp only
    rw [eqv_kD]
    by_cases e : j = key
    · rw [if_pos e, decide_eq_true e, if_pos rfl]
      exact .cons rv (RkK.mapPut key rv r)
    · rw [if_neg e, decide_eq_false e, if_neg (by decide)]
      exact .cons h (RkK.mapPut key rv r)
theorem RkT.mapPut {K : PySem.W.Frag} {F : Hp} (key : List Int) {v : V} {d : D} (rv : Rp K F v d) : ∀ {kvs : List Row} {es : List (D × D)}, RkT K F kvs es → RkT K F (kvs.map fun r => if r.1 = key then (r.1, r.2.1, v) else r) (es.map fun p => if eqv p.1 (.tup (key.map D.int)) then (p.1, d) else p)
  | _, _, .nil => .nil
  | _, _, .cons (k := j) t h r => by
    rw [List.map_cons, List.map_cons]
    dsimp only
    rw [eqv, eqvs_ints]
    by_cases e : j = key
    · rw [if_pos e, decide_eq_true e, if_pos rfl]
      exact .cons t rv (RkT.mapPut key rv r)
    · rw [if_neg e, decide_eq_false e, if_neg (by decide)]
      exact .cons t h (RkT.mapPut key rv r)
theorem RkK.snoc {K : PySem.W.Frag} {F : Hp} (key : Key) {v : V} {d : D} (rv : Rp K F v d) : ∀ {kvs : List (Key × V)} {es : List (D × D)}, RkK K F kvs es → RkK K F (kvs ++ [(key, v)]) (es ++ [(kD key, d)])
  | _, _, .nil => .cons rv .nil
  | _, _, .cons h r => .cons h (RkK.snoc key rv r)
theorem RkT.snoc {K : PySem.W.Frag} {F : Hp} (key : List Int) {q : Addr} (tq : IsT F q (key.map V.int)) {v : V} {d : D} (rv : Rp K F v d) : ∀ {kvs : List Row} {es : List (D × D)}, RkT K F kvs es → RkT K F (kvs ++ [(key, q, v)]) (es ++ [(.tup (key.map D.int), d)])
  | _, _, .nil => .cons tq rv .nil
  | _, _, .cons t h r => .cons t h (RkT.snoc key tq rv r)
theorem dput_K {K : PySem.W.Frag} {F : Hp} (key : Key) {v : V} {d : D} (rv : Rp K F v d) {kvs : List (Key × V)} {es : List (D × D)} (r : RkK K F kvs es) : RkK K F (putK kvs key v) (dput (kD key) d es) := by
  unfold putK dput
  rw [r.any key]
  split
  · exact r.mapPut key rv
  · exact r.snoc key rv
theorem dput_T {K : PySem.W.Frag} {F : Hp} (key : List Int) {q : Addr} (tq : IsT F q (key.map V.int)) {v : V} {d : D} (rv : Rp K F v d) {kvs : List Row} {es : List (D × D)} (r : RkT K F kvs es) : RkT K F (rput kvs key q v) (dput (.tup (key.map D.int)) d es) := by
  unfold rput dput
  rw [r.any key]
  split
  · exact r.mapPut key rv
  · exact r.snoc key tq rv
theorem RkK.length {K : PySem.W.Frag} {F : Hp} : ∀ {kvs : List (Key × V)} {es : List (D × D)}, RkK K F kvs es → kvs.length = es.length
  | _, _, .nil => rfl
  | _, _, .cons _ r => by simp [RkK.length r]
theorem RkT.length {K : PySem.W.Frag} {F : Hp} : ∀ {kvs : List Row} {es : List (D × D)}, RkT K F kvs es → kvs.length = es.length
  | _, _, .nil => rfl
  | _, _, .cons _ _ r => by simp [RkT.length r]
theorem dput_len (k v : D) (es : List (D × D)) : (dput k v es).length ≤ es.length + 1 := by
  unfold dput
  split
  · rw [List.length_map]; omega
  · rw [List.length_append]; exact Nat.le_refl _
end Pan

/-! Panestacks, part D1: expressions by their data. -/
namespace Pan
open PySem PySem.Spec L2
open PyProof.Rows hiding St

section
variable {K : PySem.W.Frag} {W : WX} {cl : Nat → Value} {F H F' H' : Hp} {σ : St}
theorem tE_tW {r : Env → R D} {Q : VK} (h : tW K W cl r σ H Q) : tE K W cl r σ H Q := by
  obtain ⟨e, F, v, w⟩ := h
  exact ⟨e, F, v, w.mono fun d F' H' x p v r => p v F' x.sub r⟩
theorem tA_tAW {r : Env → R (List D)} {Q : List V → Hp → Prop} (h : tAW K W cl r σ H Q) : tA K W cl r σ H Q := by
  obtain ⟨e, F, v, w⟩ := h
  exact ⟨e, F, v, w.mono fun d F' H' x p v r => p v F' x.sub r⟩
/-- what is told of a new object may be told for good -/
theorem Ext.tell {a : Addr} {o : HO} (x : Ext F H F' H') (s : Sub F H) (h : H a = none) (h' : H' a = some o) : Ext F H (upd F' a o) H' where
  same := x.same
  grow := fun b u e => by
    by_cases q : b = a
    · subst q; rw [s.none h] at e; cases e
    · rw [upd_ne q]; exact x.grow b u e
  sub := fun b u e => by
    by_cases q : b = a
    · subst q; rw [upd_same] at e; cases e; exact .inl h'
    · rw [upd_ne q] at e; exact x.sub b u e
  new := fun b u e => by
    by_cases q : b = a
    · subst q; exact .inr (.inl h)
    · rw [upd_ne q] at e; exact x.new b u e
theorem same_tell {a : Addr} {o : HO} (h : F a = none) : Same F (upd F a o) := same_upd h
/-- a new thing, told for good -/
theorem NewR.told {a : Addr} {d : D} (x : Ext F H F' H') (s : Sub F H) (n : NewR K F' H' H a d) : ∃ F2, Ext F H F2 H' ∧ Rp K F2 (.ref a) d := by
  obtain ⟨h, n⟩ := n
  cases d with
  | lst ds =>
    obtain ⟨n, xs, e, r⟩ := n
    exact ⟨_, x.tell s h e, .lst upd_same (r.mono (same_tell n))⟩
  | dic t es =>
    cases t with
    | false =>
      obtain ⟨n, xs, e, r⟩ := n
      exact ⟨_, x.tell s h e, .dK (.inl upd_same) (r.mono (same_tell n))⟩
    | true =>
      obtain ⟨n, xs, e, r⟩ := n
      exact ⟨_, x.tell s h e, .dT (.inl upd_same) (r.mono (same_tell n))⟩
  | _ => exact n.elim
theorem tN_tE {r : Env → R D} {Q : VK} (h : tE K W cl r σ H Q) : tN K W cl r σ H Q := by
  obtain ⟨e, F, v, w⟩ := h
  refine ⟨e, F, v, ?_⟩
  cases q : r e with
  | ok d =>
    rw [q] at w
    intro F' H' x a n
    obtain ⟨F2, x2, rp⟩ := n.told x v.sub
    exact w F2 H' x2 _ rp
  | exc c => rw [q] at w; exact w
  | bad => rw [q] at w; exact w
end

section
variable {X : Cx} {W : WX} {cl : Nat → Value} {a b c : Expr} {ra rb rc : Env → R D} {pos : Pos}
theorem ce_weak (h : PE X a (tE X.K W cl ra)) : PE X a (tW X.K W cl ra) := PE.imp h fun _ _ _ _ q => tE_tW q
theorem ce_new (h : PE X a (tN X.K W cl ra)) : PE X a (tE X.K W cl ra) := PE.imp h fun _ _ _ _ q => tN_tE q
theorem ce_var {i : Nat} {x : Str} (hN : X.N[i]? = some x) (hv : Vis X.env.scope x) (hd : (x == ("__debug__" : Str)) = false) (hcd : (x == ("__classdict__" : Str)) = false) : PE X (.Name x pos) (tE X.K W cl fun e => getV e i) := by
  refine PE.imp (pe_var hN hv hd hcd) fun σ H Q _ h => ?_
  obtain ⟨e, F, v, w⟩ := h
  dsimp only [getV] at w
  split at w
  · rename_i d hd
    obtain ⟨x, e1, r⟩ := v.get hd
    exact ⟨x, e1, w.now v.sub x r⟩
  · exact w.elim
theorem ce_ovar {i : Nat} {x : Str} (hN : X.N[i]? = some x) (hv : Vis X.env.scope x) (hd : (x == ("__debug__" : Str)) = false) (hcd : (x == ("__classdict__" : Str)) = false) : PE X (.Name x pos) (tW X.K W cl fun e => getO e i) := by
  refine PE.imp (pe_var hN hv hd hcd) fun σ H Q _ h => ?_
  obtain ⟨e, F, v, w⟩ := h
  dsimp only [getO] at w
  split at w
  · rename_i d hd
    obtain ⟨x, e1, r⟩ := v.get hd
    exact ⟨x, e1, w.now v.sub x F v.sub r⟩
  · rename_i d hd
    obtain ⟨a, e1, r⟩ := v.getOwn hd
    refine ⟨.ref a, e1, ?_⟩
    have w := w.now v.sub
    cases d with
    | lst ds =>
      obtain ⟨n, xs, e, r⟩ := r
      exact w _ (upd F a (.lst xs)) (fun b u q => by
        by_cases z : b = a
        · subst z; rw [upd_same] at q; cases q; exact .inl e
        · rw [upd_ne z] at q; exact v.sub b u q) (.lst upd_same (r.mono (same_tell n)))
    | dic t es =>
      cases t with
      | false =>
        obtain ⟨n, xs, e, r⟩ := r
        exact w _ (upd F a (.dK xs)) (fun b u q => by
          by_cases z : b = a
          · subst z; rw [upd_same] at q; cases q; exact .inl e
          · rw [upd_ne z] at q; exact v.sub b u q) (.dK (.inl upd_same) (r.mono (same_tell n)))
      | true =>
        obtain ⟨n, xs, e, r⟩ := r
        exact w _ (upd F a (dO a xs)) (fun b u q => by
          by_cases z : b = a
          · subst z; rw [upd_same] at q; cases q; exact .inl e
          · rw [upd_ne z] at q; exact v.sub b u q) (.dT (.inl upd_same) (r.mono (same_tell n)))
    | _ => exact r.elim
  · exact w.elim
theorem ce_lit {v : V} {d : D} (h : PE X a (tC v)) (r : ∀ F, Rp X.K F v d) : PE X a (tE X.K W cl fun _ => .ok d) := by
  refine PE.imp h fun σ H Q _ q => ?_
  obtain ⟨e, F, vr, w⟩ := q
  exact w.now vr.sub v (r F)
theorem ce_bin {op : Operator} (ho : binOk op = true) (ha : PE X a (tE X.K W cl ra)) (hb : PE X b (tE X.K W cl rb)) : PE X (.BinOp a op b pos) (tE X.K W cl fun e => do let x ← ra e; let y ← rb e; binS op x y) := by
  refine PE.imp (pe_op (bin_any ho) ha hb) fun σ H Q _ q => ?_
  obtain ⟨e, F, vr, w⟩ := q
  refine ⟨e, F, vr, w.bind.mono fun x F1 H1 x1 w1 vx rx => ⟨e, F1, vr.mono x1, w1.bind.mono fun y F2 H2 x2 w2 vy ry => ?_⟩⟩
  cases hz : binS op x y with
  | ok d => rw [hz] at w2; exact ⟨F2, x, y, d, x2.sub, rx.mono x2.grow, ry, hz, fun v F' H' x3 r => w2 F' H' x3 v r⟩
  | bad => rw [hz] at w2; exact w2.elim
  | exc c => exact absurd hz (by cases op <;> cases x <;> cases y <;> simp [binS, mulS, divS, fitL] <;> (try split) <;> simp)
theorem ce_neg (ha : PE X a (tE X.K W cl ra)) : PE X (.UnaryOp .USub a pos) (tE X.K W cl fun e => do let x ← ra e; let i ← asI x; .ok (.int (-i))) := by
  refine PE.imp (pe_un un_neg ha) fun σ H Q _ q => ?_
  obtain ⟨e, F, vr, w⟩ := q
  refine ⟨e, F, vr, w.bind.mono fun x F1 H1 x1 w1 vx rx => ?_⟩
  cases rx <;> simp only [asI] at w1 <;> first | exact w1.elim | exact ⟨_, rfl, w1.now x1.sub _ (.int _)⟩
theorem ce_not (ha : PE X a (tE X.K W cl ra)) : PE X (.UnaryOp .Not a pos) (tE X.K W cl fun e => do let x ← ra e; let i ← asB x; .ok (.bl (!i))) := by
  refine PE.imp (pe_not ha) fun σ H Q _ q => ?_
  obtain ⟨e, F, vr, w⟩ := q
  refine ⟨e, F, vr, w.bind.mono fun x F1 H1 x1 w1 vx rx => ?_⟩
  cases rx <;> simp only [asB] at w1 <;> first | exact w1.elim | exact ⟨_, rfl, w1.now x1.sub _ (.bl _)⟩
theorem ct_not {ta : Env → R Bool} (ha : PT X a (tT X.K W cl ta)) : PT X (.UnaryOp .Not a pos) (tT X.K W cl fun e => do let i ← ta e; .ok (!i)) := by
  refine PT.imp (pt_not ha) fun σ H Q _ q => ?_
  obtain ⟨e, F, vr, w⟩ := q
  exact ⟨e, F, vr, w.bind.mono fun x F1 H1 x1 w1 => w1.now x1.sub⟩
/-- a value that is True or False, as a test -/
theorem ct_val (ha : PE X a (tE X.K W cl ra)) (he : ∀ whole, isTrue a X.env whole = (do let v ← whole; standAt a.pos; holding [v] (truthy v))) : PT X a (tT X.K W cl fun e => do let x ← ra e; asB x) := by
  refine PT.imp (pt_val ha he) fun σ H Q _ q => ?_
  obtain ⟨e, F, vr, w⟩ := q
  refine ⟨e, F, vr, w.bind.mono fun x F1 H1 x1 w1 vx rx => ?_⟩
  cases rx <;> simp only [asB] at w1 <;> first | exact w1.elim | exact ⟨_, rfl, w1.now x1.sub⟩
/-- two operands that are looked at -/
theorem two {op : CmpOp} {σ : St} {H : Hp} {Q : VK} {k : Bool → R D} (h : tE X.K W cl (fun e => do let x ← ra e; let y ← rb e; let r ← cmpS op x y; k r) σ H Q) :
    tOp (fun x y H Q => ∃ F e, VR X.K e σ F H ∧ ∃ r a b G G', Sub G H ∧ Sub G' H ∧ Rp X.K G x a ∧ Rp X.K G' y b ∧ cmpS op a b = .ok r ∧ Wp W cl (k r) σ F H fun d F' H' => ∀ v, Rp X.K F' v d → Q v H') (tW X.K W cl ra) (tW X.K W cl rb) σ H Q := by
  obtain ⟨e, F, vr, w⟩ := h
  refine ⟨e, F, vr, w.bind.mono fun x F1 H1 x1 w1 vx G sg rx => ⟨e, F1, vr.mono x1, w1.bind.mono fun y F2 H2 x2 w2 vy G' sg' ry => ?_⟩⟩
  cases hz : cmpS op x y with
  | ok r => rw [hz] at w2; exact ⟨F2, e, (vr.mono x1).mono x2, r, x, y, G, G', sg.same x2.same, sg', rx, ry, hz, w2⟩
  | bad => rw [hz] at w2; exact w2.elim
  | exc c => exact absurd hz (by
      cases op <;> cases x <;> cases y <;> simp only [cmpS, ltS, inS, isS] <;> (try split) <;> (try simp) <;> (try split) <;> simp)
theorem ce_cmp {op : CmpOp} (hu : X.A.units + 65 < cLine) (hm : behindInMarks op b = false) (ha : PE X a (tW X.K W cl ra)) (hb : PE X b (tW X.K W cl rb)) : PE X (.Compare a [op] [b] pos) (tE X.K W cl fun e => do let x ← ra e; let y ← rb e; let r ← cmpS op x y; .ok (.bl r)) := by
  refine PE.imp (pe_cmpR (cmp_any hu op) ha hb hm) fun σ H Q _ q => ?_
  obtain ⟨e, F, vr, w⟩ := two (W := W) (cl := cl) q
  refine ⟨e, F, vr, w.mono fun x F1 H1 x1 w1 vx G sg rx => ?_⟩
  obtain ⟨e2, F2, vr2, w2⟩ := w1 vx G sg rx
  refine ⟨e2, F2, vr2, w2.mono fun y F3 H3 x3 w3 vy G' sg' ry => ?_⟩
  obtain ⟨F4, e4, vr4, r, a, b, G1, G2, s1, s2, r1, r2, e5, w5⟩ := w3 vy G' sg' ry
  exact ⟨G1, G2, a, b, r, s1, s2, r1, r2, e5, w5.now vr4.sub _ (.bl _)⟩
end
end Pan

/-! Panestacks, part D2: chains, tests, displays, subscripts, calls. -/
namespace Pan
open PySem PySem.Spec L2
open PyProof.Rows hiding St

theorem R_assoc {α β γ : Type} (m : R α) (f : α → R β) (g : β → R γ) : (m >>= f) >>= g = m >>= fun x => f x >>= g := by cases m <;> rfl
abbrev tst (r : Env → R D) : Env → R Bool := fun e => r e >>= asB
section
variable {K : PySem.W.Frag} {W : WX} {cl : Nat → Value} {σ : St} {H : Hp} {r ra rb rc : Env → R D}
theorem tE_of_tT {Q : Bool → Hp → Prop} (h : tT K W cl (tst r) σ H Q) : tE K W cl r σ H fun x H' => ∃ k, x = .bl k ∧ Q k H' := by
  obtain ⟨e, F, vr, w⟩ := h
  refine ⟨e, F, vr, w.bind.mono fun x F1 H1 x1 w1 vx rx => ?_⟩
  cases rx <;> simp only [asB] at w1 <;> first | exact w1.elim | exact ⟨_, rfl, w1.now x1.sub⟩
theorem imp_cmp {op : CmpOp} {Q : VK} (q : tE K W cl (fun e => do let x ← ra e; let y ← rb e; let r ← cmpS op x y; .ok (.bl r)) σ H Q) : tOp (rCmp K op) (tW K W cl ra) (tW K W cl rb) σ H Q := by
  obtain ⟨e, F, vr, w⟩ := q
  refine ⟨e, F, vr, w.bind.mono fun x F1 H1 x1 w1 vx G sg rx => ⟨e, F1, vr.mono x1, w1.bind.mono fun y F2 H2 x2 w2 vy G' sg' ry => ?_⟩⟩
  cases hz : cmpS op x y with
  | ok r => rw [hz] at w2; exact ⟨G, G', x, y, r, sg.same x2.same, sg', rx, ry, hz, w2.now x2.sub _ (.bl _)⟩
  | bad => rw [hz] at w2; exact w2.elim
  | exc c => exact absurd hz (by
      cases op <;> cases x <;> cases y <;> simp only [cmpS, ltS, inS, isS] <;> (try split) <;> (try simp) <;> (try split) <;> simp)
theorem cmpS_noexc {op : CmpOp} {x y : D} {c : Nat} : cmpS op x y ≠ .exc c := by
  cases op <;> cases x <;> cases y <;> simp only [cmpS, ltS, inS, isS] <;> (try split) <;> (try simp) <;> (try split) <;> simp
theorem imp_chain {op op' : CmpOp} {Q : VK} (q : tE K W cl (fun e => do
      let x ← ra e
      let y ← rb e
      let r ← cmpS op x y
      if r then do let z ← rc e; let q ← cmpS op' y z; .ok (.bl q) else .ok (.bl false)) σ H Q) : tChain (rCmp K op) (rCmp K op') (tW K W cl ra) (tW K W cl rb) (tW K W cl rc) σ H Q := by
  obtain ⟨e, F, vr, w⟩ := q
  refine ⟨e, F, vr, w.bind.mono fun x F1 H1 x1 w1 vx G sg rx => ⟨e, F1, vr.mono x1, w1.bind.mono fun y F2 H2 x2 w2 vy G' sg' ry => ?_⟩⟩
  cases hz : cmpS op x y with
  | ok r =>
    rw [hz] at w2
    refine ⟨G, G', x, y, r, sg.same x2.same, sg', rx, ry, hz, r, rfl, ?_⟩
    cases r with
    | false => exact iteF (w2.now x2.sub _ (.bl _))
    | true =>
      refine iteT ⟨e, F2, (vr.mono x1).mono x2, ?_⟩
      have w3 : Wp W cl (rc e >>= fun z => cmpS op' y z >>= fun q => R.ok (D.bl q)) σ F2 H2 _ := w2
      refine w3.bind.mono fun z F3 H3 x3 w4 vz G3 sg3 rz => ?_
      cases hy : cmpS op' y z with
      | ok k => rw [hy] at w4; exact ⟨G', G3, y, z, k, sg'.same x3.same, sg3, ry, rz, hy, w4.now x3.sub _ (.bl _)⟩
      | bad => rw [hy] at w4; exact w4.elim
      | exc c => exact absurd hy cmpS_noexc
  | bad => rw [hz] at w2; exact w2.elim
  | exc c => exact absurd hz cmpS_noexc
end
section
variable {X : Cx} {W : WX} {cl : Nat → Value} {a b c : Expr} {r ra rb rc : Env → R D} {pos : Pos}
theorem ct_cmp {op : CmpOp} (hu : X.A.units + 65 < cLine) (hm : behindInMarks op b = false) (ha : PE X a (tW X.K W cl ra)) (hb : PE X b (tW X.K W cl rb)) : PT X (.Compare a [op] [b] pos) (tT X.K W cl (tst fun e => do let x ← ra e; let y ← rb e; let r ← cmpS op x y; .ok (.bl r))) :=
  PT.imp (pt_cmpR (cmp_any hu op) ha hb hm) fun σ H Q _ q => imp_cmp (tE_of_tT q)
theorem ce_chain {op op' : CmpOp} (hu : X.A.units + 65 < cLine) (hm : lastMarks [op, op'] [b, c] = false) (ha : PE X a (tW X.K W cl ra)) (hb : PE X b (tW X.K W cl rb)) (hc : PE X c (tW X.K W cl rc)) : PE X (.Compare a [op, op'] [b, c] pos) (tE X.K W cl fun e => do
      let x ← ra e
      let y ← rb e
      let r ← cmpS op x y
      if r then do let z ← rc e; let q ← cmpS op' y z; .ok (.bl q) else .ok (.bl false)) :=
  PE.imp (pe_chain (cmp_any hu op) (cmp_any hu op') ha hb hc hm) fun σ H Q _ q => imp_chain q
theorem ct_chain {op op' : CmpOp} (hu : X.A.units + 65 < cLine) (hm : lastMarks [op, op'] [b, c] = false) (ha : PE X a (tW X.K W cl ra)) (hb : PE X b (tW X.K W cl rb)) (hc : PE X c (tW X.K W cl rc)) : PT X (.Compare a [op, op'] [b, c] pos) (tT X.K W cl (tst fun e => do
      let x ← ra e
      let y ← rb e
      let r ← cmpS op x y
      if r then do let z ← rc e; let q ← cmpS op' y z; .ok (.bl q) else .ok (.bl false))) :=
  PT.imp (pt_chain (cmp_any hu op) (cmp_any hu op') ha hb hc hm) fun σ H Q _ q => imp_chain (tE_of_tT q)
theorem ct_not' (ha : PT X a (tT X.K W cl (tst ra))) : PT X (.UnaryOp .Not a pos) (tT X.K W cl (tst fun e => do let x ← ra e; let i ← asB x; .ok (.bl (!i)))) := by
  refine PT.imp (pt_not ha) fun σ H Q _ q => ?_
  obtain ⟨e, F, vr, w⟩ := q
  have w2 : Wp W cl (tst ra e >>= fun i => asB (.bl (!i))) σ F H fun b F' H' => Q b H' := by
    have : (tst (fun e => do let x ← ra e; let i ← asB x; R.ok (.bl (!i))) e) = (tst ra e >>= fun i => asB (.bl (!i))) := by
      show ((ra e >>= fun x => asB x >>= fun i => R.ok (.bl (!i))) >>= asB) = ((ra e >>= asB) >>= fun i => asB (.bl (!i)))
      rw [R_assoc, R_assoc]
      congr 1
      funext x
      rw [R_assoc]
      rfl
    rw [this] at w
    exact w
  exact ⟨e, F, vr, w2.bind.mono fun x F1 H1 x1 w1 => w1.now x1.sub⟩
/-! ### and, or, if -/
variable {es : List Expr}
theorem ce_and (ha : PE X a (tE X.K W cl ra)) (hb : PE X (.BoolOp .And (b :: es) pos) (tE X.K W cl rb)) : PE X (.BoolOp .And (a :: b :: es) pos) (tE X.K W cl fun e => do let x ← ra e; let c ← asB x; if c then rb e else .ok (.bl false)) := by
  refine PE.imp (pe_and ha hb) fun σ H Q _ q => ?_
  obtain ⟨e, F, vr, w⟩ := q
  refine ⟨e, F, vr, w.bind.mono fun x F1 H1 x1 w1 vx rx => ?_⟩
  cases rx <;> simp only [asB] at w1 <;> try exact w1.elim
  rename_i k
  refine ⟨k, rfl, ?_⟩
  cases k with
  | true => exact iteT ⟨e, F1, vr.mono x1, w1⟩
  | false => exact iteF (w1.now x1.sub _ (.bl _))
theorem ce_or (ha : PE X a (tE X.K W cl ra)) (hb : PE X (.BoolOp .Or (b :: es) pos) (tE X.K W cl rb)) : PE X (.BoolOp .Or (a :: b :: es) pos) (tE X.K W cl fun e => do let x ← ra e; let c ← asB x; if c then .ok (.bl true) else rb e) := by
  refine PE.imp (pe_or ha hb) fun σ H Q _ q => ?_
  obtain ⟨e, F, vr, w⟩ := q
  refine ⟨e, F, vr, w.bind.mono fun x F1 H1 x1 w1 vx rx => ?_⟩
  cases rx <;> simp only [asB] at w1 <;> try exact w1.elim
  rename_i k
  refine ⟨k, rfl, ?_⟩
  cases k with
  | true => exact iteT (w1.now x1.sub _ (.bl _))
  | false => exact iteF ⟨e, F1, vr.mono x1, w1⟩
theorem cw_and (ha : PT X a (tT X.K W cl (tst ra))) (hb : PW X (.BoolOp .And (b :: es) pos) (tT X.K W cl (tst rb))) : PW X (.BoolOp .And (a :: b :: es) pos) (tT X.K W cl (tst fun e => do let x ← ra e; let c ← asB x; if c then rb e else .ok (.bl false))) := by
  refine PW.imp (pw_and ha hb) fun σ H Q _ q => ?_
  obtain ⟨e, F, vr, w⟩ := q
  have w2 : Wp W cl (tst ra e >>= fun c => (if c then rb e else .ok (.bl false)) >>= asB) σ F H fun b F' H' => Q b H' := by
    have : (tst (fun e => do let x ← ra e; let c ← asB x; if c then rb e else .ok (.bl false)) e) = (tst ra e >>= fun c => (if c then rb e else .ok (.bl false)) >>= asB) := by
      show ((ra e >>= fun x => asB x >>= fun c => if c then rb e else .ok (.bl false)) >>= asB) = ((ra e >>= asB) >>= _)
      rw [R_assoc, R_assoc]
      congr 1
      funext x
      rw [R_assoc]
    rw [this] at w
    exact w
  refine ⟨e, F, vr, w2.bind.mono fun k F1 H1 x1 w1 => ?_⟩
  cases k with
  | true => exact iteT ⟨e, F1, vr.mono x1, w1⟩
  | false => exact iteF (w1.now x1.sub)
theorem cw_or (ha : PT X a (tT X.K W cl (tst ra))) (hb : PW X (.BoolOp .Or (b :: es) pos) (tT X.K W cl (tst rb))) : PW X (.BoolOp .Or (a :: b :: es) pos) (tT X.K W cl (tst fun e => do let x ← ra e; let c ← asB x; if c then .ok (.bl true) else rb e)) := by
  refine PW.imp (pw_or ha hb) fun σ H Q _ q => ?_
  obtain ⟨e, F, vr, w⟩ := q
  have w2 : Wp W cl (tst ra e >>= fun c => (if c then .ok (.bl true) else rb e) >>= asB) σ F H fun b F' H' => Q b H' := by
    have : (tst (fun e => do let x ← ra e; let c ← asB x; if c then .ok (.bl true) else rb e) e) = (tst ra e >>= fun c => (if c then .ok (.bl true) else rb e) >>= asB) := by
      show ((ra e >>= fun x => asB x >>= fun c => if c then .ok (.bl true) else rb e) >>= asB) = ((ra e >>= asB) >>= _)
      rw [R_assoc, R_assoc]
      congr 1
      funext x
      rw [R_assoc]
    rw [this] at w
    exact w
  refine ⟨e, F, vr, w2.bind.mono fun k F1 H1 x1 w1 => ?_⟩
  cases k with
  | true => exact iteT (w1.now x1.sub)
  | false => exact iteF ⟨e, F1, vr.mono x1, w1⟩
theorem ce_ife (hc : PT X c (tT X.K W cl (tst rc))) (ha : PE X a (tE X.K W cl ra)) (hb : PE X b (tE X.K W cl rb)) : PE X (.IfExp c a b pos) (tE X.K W cl fun e => do let x ← rc e; let t ← asB x; if t then ra e else rb e) := by
  refine PE.imp (pe_ifExp hc ha hb) fun σ H Q _ q => ?_
  obtain ⟨e, F, vr, w⟩ := q
  have w2 : Wp W cl (tst rc e >>= fun t => if t then ra e else rb e) σ F H fun d F' H' => ∀ v, Rp X.K F' v d → Q v H' := by
    have : (rc e >>= fun x => asB x >>= fun t => if t then ra e else rb e) = (tst rc e >>= fun t => if t then ra e else rb e) := by
      show _ = ((rc e >>= asB) >>= _)
      rw [R_assoc]
    rw [← this]
    exact w
  refine ⟨e, F, vr, w2.bind.mono fun k F1 H1 x1 w1 => ?_⟩
  cases k with
  | true => exact iteT ⟨e, F1, vr.mono x1, w1⟩
  | false => exact iteF ⟨e, F1, vr.mono x1, w1⟩
/-! ### arguments, displays -/
theorem ca_nil : PA X [] (tA X.K W cl fun _ => .ok []) := by
  refine PA.imp pa_nil fun σ H Q _ q => ?_
  obtain ⟨e, F, vr, w⟩ := q
  exact w.now vr.sub [] .nil
theorem ca_cons {rs : Env → R (List D)} (ha : PE X a (tE X.K W cl ra)) (hr : PA X es (tA X.K W cl rs)) (hs : starEach (a :: es) X.env = (false, eval a X.env) :: starEach es X.env) : PA X (a :: es) (tA X.K W cl fun e => do let x ← ra e; let xs ← rs e; .ok (x :: xs)) := by
  refine PA.imp (pa_cons ha hr hs) fun σ H Q _ q => ?_
  obtain ⟨e, F, vr, w⟩ := q
  refine ⟨e, F, vr, w.bind.mono fun x F1 H1 x1 w1 vx rx => ⟨e, F1, vr.mono x1, w1.bind.mono fun xs F2 H2 x2 w2 vs rs => ?_⟩⟩
  exact w2.now x2.sub _ (.cons (rx.mono x2.grow) rs)
/-- one argument that is looked at -/
theorem caw_one (ha : PE X a (tW X.K W cl ra)) (hs : starEach [a] X.env = (false, eval a X.env) :: starEach [] X.env) : PA X [a] (tAW X.K W cl fun e => do let x ← ra e; .ok [x]) := by
  refine PA.imp (pa_cons ha pa_nil hs) fun σ H Q _ q => ?_
  obtain ⟨e, F, vr, w⟩ := q
  refine ⟨e, F, vr, w.bind.mono fun x F1 H1 x1 w1 vx G sg rx => ?_⟩
  exact w1.now x1.sub _ G sg (.cons rx .nil)
theorem ce_tup {k : Nat} {rs : Env → R (List D)} (h : PA X es (tA X.K W cl rs)) : PE X (.Tuple es k pos) (tE X.K W cl fun e => do let xs ← rs e; fitL xs .tup) := by
  refine PE.imp (pe_tupF h) fun σ H Q _ q => ?_
  obtain ⟨e, F, vr, w⟩ := q
  refine ⟨e, F, vr, w.bind.mono fun xs F1 H1 x1 w1 vs rs => ?_⟩
  unfold fitL at w1
  split at w1
  · rename_i hl
    refine ⟨by rw [rs.length]; exact hl, fun p o hp ho => ?_⟩
    have x2 := Ext.laid (.frz o (.tup vs)) x1.sub hp
    exact w1 _ _ x2 _ (.tup (.new ho) (rs.mono x2.grow))
  · exact w1.elim
theorem cn_lst {rs : Env → R (List D)} (h : PA X es (tA X.K W cl rs)) : PE X (.List es pos) (tN X.K W cl fun e => do let xs ← rs e; fitL xs .lst) := by
  refine PE.imp (pe_lst h) fun σ H Q _ q => ?_
  obtain ⟨e, F, vr, w⟩ := q
  refine ⟨e, F, vr, w.bind.mono fun xs F1 H1 x1 w1 vs rs => ?_⟩
  unfold fitL at w1
  split at w1
  · rename_i hl
    refine ⟨by rw [rs.length]; exact hl, fun p hp => ?_⟩
    have x2 := Ext.made (.lst vs) x1.sub hp
    exact w1 _ _ x2 p ⟨x1.same.free hp, x1.sub.none hp, vs, upd_same, rs⟩
  · exact w1.elim
/-! ### subscripts -/
def rIxD (K : PySem.W.Frag) : R2 := fun x y H Q => ∃ F G a b d, Sub F H ∧ Sub G H ∧ Rp K F x a ∧ Rp K G y b ∧ ixS a b = .ok d ∧ (∀ v, Rp K F v d → Q v H)
theorem atI_rps {K : PySem.W.Frag} {F : Hp} {vs : List V} {ds : List D} {i : Int} {d : D} (r : Rps K F vs ds) (h : atI ds i = some d) : ∃ v, atI vs i = some v ∧ Rp K F v d := by
  unfold atI at h ⊢
  rw [r.length]
  cases q : ixN ds.length i with
  | none => rw [q] at h; cases h
  | some j =>
    rw [q] at h
    exact r.get h
def isDicD : D → Bool
  | .dic _ _ => true
  | _ => false
theorem ix_seqD {K : PySem.W.Frag} {x y : V} {H F G : Hp} {Q : VK} {a b d : D} (hd : isDicD a = false) (s : Sub F H) (s' : Sub G H) (ra : Rp K F x a) (rb : Rp K G y b) (e : ixS a b = .ok d) (g : ∀ v, Rp K F v d → Q v H) : rIx K x y H Q := by
  cases ra with
  | str z =>
    cases rb <;> simp only [ixS] at e <;> try cases e
    rename_i i
    split at e
    · split at e
      · rename_i hz _ c hc
        cases e
        exact (.inr (.inr ⟨z, i, c, rfl, rfl, hz, hc, g _ (.str _)⟩))
      · cases e
    · cases e
  | scr hs =>
    cases rb <;> simp only [ixS] at e <;> try cases e
    rename_i ns i
    split at e
    · rename_i n hn
      cases e
      have : atI (ns.map V.int) i = some (.int n) := by
        unfold atI at hn ⊢
        rw [List.length_map]
        cases q : ixN ns.length i with
        | none => rw [q] at hn; cases hn
        | some j =>
          rw [q] at hn
          have hn' : ns[j]? = some n := hn
          show (ns.map V.int)[j]? = some (.int n)
          rw [List.getElem?_map, hn']
          rfl
      exact (.inl ⟨_, _, i, _, rfl, rfl, s.seq hs, this, g _ (.int _)⟩)
    · cases e
  | tup ea r =>
    cases rb <;> simp only [ixS] at e <;> try cases e
    split at e
    · rename_i d' hd
      cases e
      obtain ⟨v, h1, h2⟩ := atI_rps r hd
      exact (.inr (.inl ⟨_, _, _, v, rfl, rfl, (s.tup ea).sq, h1, g v h2⟩))
    · cases e
  | lst ea r =>
    cases rb <;> simp only [ixS] at e <;> try cases e
    split at e
    · rename_i d' hd
      cases e
      obtain ⟨v, h1, h2⟩ := atI_rps r hd
      exact (.inl ⟨_, _, _, v, rfl, rfl, SqL.of (s.lst ea), h1, g v h2⟩)
    · cases e
  | dK ea r => cases hd
  | dT ea r => cases hd
  | prs ea r => simp only [ixS] at e; cases e
  | non => simp only [ixS] at e; cases e
  | bl _ => simp only [ixS] at e; cases e
  | int _ => simp only [ixS] at e; cases e
  | ty _ => simp only [ixS] at e; cases e
theorem ix_dicD {K : PySem.W.Frag} {x y : V} {H F G : Hp} {Q : VK} {t : Bool} {es : List (D × D)} {b d : D} (s : Sub F H) (s' : Sub G H) (ra : Rp K F x (.dic t es)) (rb : Rp K G y b) (e : ixS (.dic t es) b = .ok d) (g : ∀ v, Rp K F v d → Q v H) : ∃ a v, x = .ref a ∧ AGet K H a y (some v) ∧ Q v H := by
  simp only [ixS] at e
  split at e
  · rename_i hk
    split at e
    · rename_i d' hd
      cases e
      obtain ⟨p, o, e1, dg, ho⟩ := dic_get s s' ra rb hk
      rcases ho with ⟨_, h2⟩ | ⟨u, e', h1, h2, h3⟩
      · rw [hd] at h2; cases h2
      · rw [hd] at h2; cases h2; subst h1
        exact ⟨p, u, e1, dg, g u h3⟩
    · cases e
  · cases e
theorem ixS_noexc {x y : D} {c : Nat} : ixS x y ≠ .exc c := by
  cases x <;> cases y <;> simp only [ixS] <;> (try split) <;> (try simp) <;> (try split) <;> simp
theorem ce_ix (hu : X.A.units + 1 < cLine) (hs : PlainIx b) (ha : PE X a (tE X.K W cl ra)) (hb : PE X b (tE X.K W cl rb)) : PE X (.Subscript a b pos) (tE X.K W cl fun e => do let x ← ra e; let y ← rb e; ixS x y) := by
  refine PE.imp (PE.or (pe_ix ix_seq ha hb hs) (pe_aget hu ha hb hs)) fun σ H Q _ q => ?_
  obtain ⟨e, F, vr, w⟩ := q
  dsimp only at w
  cases hx : ra e with
  | bad => rw [hx] at w; exact w.elim
  | exc c => rw [hx] at w; exact .inl ⟨e, F, vr, by rw [hx]; exact w⟩
  | ok x =>
    rw [hx] at w
    have w1 : Wp W cl (rb e >>= fun y => ixS x y) σ F H fun d F' H' => ∀ v, Rp X.K F' v d → Q v H' := w
    cases hd : isDicD x with
    | false =>
      refine .inl ⟨e, F, vr, by
        rw [hx]
        refine fun F1 H1 x1 vx rx => ⟨e, F1, vr.mono x1, (w1.step x1).bind.mono fun y F2 H2 x2 w2 vy ry => ?_⟩
        cases hz : ixS x y with
        | bad => rw [hz] at w2; exact w2.elim
        | exc c => exact absurd hz ixS_noexc
        | ok d => rw [hz] at w2; exact ix_seqD hd x2.sub x2.sub (rx.mono x2.grow) ry hz fun v r => w2.now x2.sub v r⟩
    | true =>
      cases x <;> simp only [isDicD] at hd <;> try cases hd
      refine .inr ⟨e, F, vr, by
        rw [hx]
        refine fun F1 H1 x1 vx rx => ⟨e, F1, vr.mono x1, (w1.step x1).bind.mono fun y F2 H2 x2 w2 vy ry => ?_⟩
        cases hz : ixS (.dic _ _) y with
        | bad => rw [hz] at w2; exact w2.elim
        | exc c => exact absurd hz ixS_noexc
        | ok d => rw [hz] at w2; exact ix_dicD x2.sub x2.sub (rx.mono x2.grow) ry hz fun v r => w2.now x2.sub v r⟩
/-- a subscript of a list or dict that this def alone holds -/
theorem ce_oix {i : Nat} {x : Str} {p : Pos} (hu : X.A.units + 1 < cLine) (hs : PlainIx b) (hN : X.N[i]? = some x) (hv : Vis X.env.scope x) (hd : (x == ("__debug__" : Str)) = false) (hcd : (x == ("__classdict__" : Str)) = false) (hb : PE X b (tE X.K W cl rb)) :
    PE X (.Subscript (.Name x p) b pos) (tE X.K W cl fun e => do let x ← getO e i; let y ← rb e; ixS x y) := by
  have ha : PE X (.Name x p) (tVar i) := pe_var hN hv hd hcd
  refine PE.imp (PE.or (PE.or (pe_ix ix_seq ha hb hs) (pe_aget hu ha hb hs)) (ce_ix hu hs (ce_var (W := W) (cl := cl) hN hv hd hcd) hb)) fun σ H Q _ q => ?_
  obtain ⟨e, F, vr, w⟩ := q
  by_cases ho : ∃ d, e[i]? = some (.own d)
  · obtain ⟨d, ho⟩ := ho
    obtain ⟨p', e1, sl⟩ := vr.getOwn ho
    have hg : getO e i = .ok d := by unfold getO; rw [ho]
    dsimp only at w
    rw [hg] at w
    have w1 : Wp W cl (rb e >>= fun y => ixS d y) σ F H fun d F' H' => ∀ v, Rp X.K F' v d → Q v H' := w
    cases d with
    | lst ds =>
      obtain ⟨n, xs, eh, r⟩ := sl
      refine .inl (.inl ⟨.ref p', e1, ⟨e, F, vr, w1.bind.mono fun y F2 H2 x2 w2 vy ry => ?_⟩⟩)
      cases ry <;> simp only [ixS] at w2 <;> try exact w2.elim
      split at w2
      · rename_i d' hd
        obtain ⟨v, h1, h2⟩ := atI_rps r hd
        exact .inl ⟨p', xs, _, v, rfl, rfl, SqL.of (x2.same _ _ eh), h1, w2.now x2.sub v (h2.mono x2.grow)⟩
      · exact w2.elim
    | dic t es =>
      refine .inl (.inr ⟨.ref p', e1, ⟨e, F, vr, w1.bind.mono fun y F2 H2 x2 w2 vy ry => ?_⟩⟩)
      have sl2 := sl.mono x2
      cases hz : ixS (.dic t es) y with
      | bad => rw [hz] at w2; exact w2.elim
      | exc c => exact absurd hz ixS_noexc
      | ok d =>
        rw [hz] at w2
        simp only [ixS] at hz
        split at hz
        · rename_i hk
          split at hz
          · rename_i d' hd
            cases hz
            cases t with
            | false =>
              obtain ⟨n, kvs, eh, r⟩ := sl2
              obtain ⟨k, rfl, rfl⟩ := keyD_of ry hk
              rcases RkK.val k r with ⟨_, h2⟩ | ⟨u, e', h1, h2, h3⟩
              · rw [hd] at h2; cases h2
              · rw [hd] at h2; cases h2
                exact ⟨p', u, rfl, .inl (.inl ⟨kvs, k, .inl eh, rfl, h1.symm⟩), w2.now x2.sub u h3⟩
            | true =>
              obtain ⟨n, kvs, eh, r⟩ := sl2
              obtain ⟨b, ks, rfl, rfl, eb⟩ := keyT_of ry hk
              rcases RkT.val ks r with ⟨_, h2⟩ | ⟨u, e', h1, h2, h3⟩
              · rw [hd] at h2; cases h2
              · rw [hd] at h2; cases h2
                exact ⟨p', u, rfl, .inr ⟨kvs, ks, b, .inl eh, r.keys x2.sub, rfl, (x2.sub.tup eb).sq, h1.symm⟩, w2.now x2.sub u h3⟩
          · cases hz
        · cases hz
    | _ => exact sl.elim
  · refine .inr ⟨e, F, vr, ?_⟩
    have : getO e i = getV e i := by
      unfold getO getV
      cases q : e[i]? with
      | none => rfl
      | some s =>
        cases s with
        | own d => exact absurd ⟨d, q⟩ ho
        | _ => rfl
    dsimp only at w ⊢
    rw [← this]
    exact w
/-! ### slices -/
def rSlD (K : PySem.W.Frag) : V → Option Int → Option Int → Hp → VK → Prop := fun x lo hi H Q => ∃ F a d, Sub F H ∧ Rp K F x a ∧ slS a lo hi = .ok d ∧ Gives K F H d Q
theorem cutL_cutV (xs : List V) (lo hi : Option Int) : cutL xs lo hi = cutV xs lo hi := rfl
theorem SlR.imp {r r' : V → Option Int → Option Int → Hp → VK → Prop} (h : SlR X r) (i : ∀ x lo hi H Q, r' x lo hi H Q → r x lo hi H Q) : SlR X r' :=
  fun pins s σ H x v vl vu lo hi sl Q I rx hs pl pu q => h pins s σ H x v vl vu lo hi sl Q I rx hs pl pu (i _ _ _ _ _ q)
theorem sl_any : SlR X (rSlD X.K) := by
  refine SlR.imp ((sl_list (X := X)).or (sl_tupF.or sl_str)) fun x lo hi H Q h => ?_
  obtain ⟨F, a, d, s, ra, e, g⟩ := h
  cases ra <;> simp only [slS] at e <;> try cases e
  · split at e
    · cases e
      exact .inr (.inr ⟨_, rfl, by assumption, g.str s⟩)
    · cases e
  · rename_i p xs ds ea r
    refine .inr (.inl ⟨p, xs, rfl, (s.tup ea).sq, fun hw => ?_, fun _ => g.tup s (r.cut lo hi)⟩)
    have : cutL ds lo hi = ds := by
      unfold cutL
      rw [← r.length, hw.1, hw.2, List.drop_zero, Nat.sub_zero, r.length, List.take_length]
    rw [this] at g
    exact g.was s (.tup ea r)
  · rename_i p xs ds ea r
    exact .inl ⟨p, xs, rfl, SqL.of (s.lst ea), g.lst s (r.cut lo hi)⟩
end
end Pan

/-! Panestacks, part D3: slices, calls of defs and of built-ins. -/
namespace Pan
open PySem PySem.Spec L2
open PyProof.Rows hiding St

/-- a part of a slice -/
def tP (K : PySem.W.Frag) (W : WX) (cl : Nat → Value) (r : Env → R (Option Int)) : TO := fun σ H Q => ∃ e F, VR K e σ F H ∧ Wp W cl (r e) σ F H fun o F' H' => Q o H'
section
variable {X : Cx} {W : WX} {cl : Nat → Value} {a b c : Expr} {r ra rb rc : Env → R D} {pos p2 : Pos} {lo hi : Option Expr} {rl rh : Env → R (Option Int)}
theorem PO.imp {t t' : TO} (h : PO X lo t) (i : ∀ σ H Q, t' σ H Q → t σ H Q) : PO X lo t' := ⟨fun pins s σ H Q I q => h.run pins s σ H Q I (i σ H Q q)⟩
theorem cp_none : PO X none (tP X.K W cl fun _ => .ok none) := PO.imp po_none fun σ H Q q => by
  obtain ⟨e, F, vr, w⟩ := q
  exact w.now vr.sub
theorem cp_some (ha : PE X a (tE X.K W cl ra)) : PO X (some a) (tP X.K W cl fun e => do let x ← ra e; let i ← asI x; .ok (some i)) := PO.imp (po_some ha) fun σ H Q q => by
  obtain ⟨e, F, vr, w⟩ := q
  refine ⟨e, F, vr, w.bind.mono fun x F1 H1 x1 w1 vx rx => ?_⟩
  cases rx <;> simp only [asI] at w1 <;> first | exact w1.elim | exact ⟨_, rfl, w1.now x1.sub⟩
theorem slS_noexc {x : D} {l h : Option Int} {c : Nat} : slS x l h ≠ .exc c := by
  cases x <;> simp only [slS] <;> (try split) <;> simp
theorem ce_sl (ha : PE X a (tE X.K W cl ra)) (hl : PO X lo (tP X.K W cl rl)) (hh : PO X hi (tP X.K W cl rh)) : PE X (.Subscript a (.Slice lo hi none p2) pos) (tE X.K W cl fun e => do let x ← ra e; let l ← rl e; let h ← rh e; slS x l h) := by
  refine PE.imp (pe_slice sl_any ha hl hh) fun σ H Q _ q => ?_
  obtain ⟨e, F, vr, w⟩ := q
  refine ⟨e, F, vr, w.bind.mono fun x F1 H1 x1 w1 vx rx => ⟨e, F1, vr.mono x1, w1.bind.mono fun l F2 H2 x2 w2 => ⟨e, F2, (vr.mono x1).mono x2, w2.bind.mono fun h F3 H3 x3 w3 => ?_⟩⟩⟩
  cases hz : slS x l h with
  | bad => rw [hz] at w3; exact w3.elim
  | exc c => exact absurd hz slS_noexc
  | ok d => rw [hz] at w3; exact ⟨F3, x, d, x3.sub, (rx.mono x2.grow).mono x3.grow, hz, fun v F' H' x r => w3 F' H' x v r⟩
theorem ce_rev {k : Nat} {p1 p3 p4 : Pos} (ha : PE X a (tE X.K W cl ra)) : PE X (.Subscript a (.Slice none none (some (.UnaryOp .USub (.Constant (.int 1) k p1) p2)) p3) pos) (tE X.K W cl fun e => do let x ← ra e; revS x) := by
  refine PE.imp (pe_revL ha) fun σ H Q _ q => ?_
  obtain ⟨e, F, vr, w⟩ := q
  refine ⟨e, F, vr, w.bind.mono fun x F1 H1 x1 w1 vx rx => ?_⟩
  cases rx <;> simp only [revS] at w1 <;> try exact w1.elim
  rename_i p xs ds ea r
  exact ⟨p, xs, rfl, SqL.of (x1.sub.lst ea), Gives.lst x1.sub r.reverse fun v F' H' x r => w1 F' H' x v r⟩
/-! ### a def of the program -/
/-- the promise: f of the arguments' data -/
def spOf (K : PySem.W.Frag) (cl : Nat → Value) (n : Nat) (f : List D → R D) : Sp := fun vs H Q E => ∃ F ds, ds.length = n ∧ Sub F H ∧ Rps K F vs ds ∧ match f ds with
  | .ok d => ∀ v F' H', Ext F H F' H' → Rp K F' v d → Q v H'
  | .exc c => ∀ H', Same H H' → E (cl c) none H'
  | .bad => False
theorem spOf_len {K : PySem.W.Frag} {n : Nat} {f : List D → R D} {ps : List Str} (h : ps.length = n) (vs : List V) (H : Hp) (Q : VK) (E : XK) (q : spOf K cl n f vs H Q E) : vs.length = ps.length := by
  obtain ⟨F, ds, hl, s, r, _⟩ := q
  rw [r.length, hl, h]
/-- f, of n arguments alone -/
def arity (n : Nat) (f : List D → R D) (ds : List D) : R D := if ds.length = n then f ds else .bad
/-- where a def stands, and what it answers -/
structure FnR where
  name : Str
  n : Nat
  sem : List D → R D
structure FnX (X : Cx) (cl : Nat → Value) (j : Nat) (r : FnR) : Prop where
  ex : ∃ (f : Addr) (fd : FuncData) (ps : List Str) (k : Nat), ps.length = r.n ∧ k ≤ j ∧ FnOk X.prog X.w X.K X.mg X.base (L2.CX X.prog X.w) k f fd ps (spOf X.K cl r.n r.sem) ∧ X.mg r.name = some (.ref f) ∧ PySem.W.keepIn X.K (.ref f) = true ∧ Binds X.K fd ps []
theorem Ext.same_of {F H H' : Hp} (s : Sub F H) (e : Same H H') : Ext F H F H' := ⟨e, Same.refl _, s.same e, fun _ _ q => .inl q⟩
theorem sp_of_wp {K : PySem.W.Frag} {n : Nat} {f : List D → R D} {F H : Hp} {σ : St} {ds : List D} {vs : List V} {Q : VK} (s : Sub F H) (r : Rps K F vs ds) (w : Wp W cl (arity n f ds) σ F H fun d F' H' => ∀ v, Rp K F' v d → Q v H') : spOf K cl n f vs H Q (WE W σ) := by
  unfold arity at w
  split at w
  · rename_i hl
    refine ⟨F, ds, hl, s, r, ?_⟩
    cases hz : f ds with
    | ok d => rw [hz] at w; exact fun v F' H' x r => w F' H' x v r
    | exc c => rw [hz] at w; exact fun H' e => w F H' (Ext.same_of s e)
    | bad => rw [hz] at w; exact w.elim
  · exact w.elim
variable {es : List Expr}
theorem ce_call {x : Str} {p : Pos} {j : Nat} {fr : FnR} {rs : Env → R (List D)} (fx : FnX X cl j fr) (hr : Room j X.A) (tk : Takes X W) (hx : x = fr.name) (hg : Gl X x) (ha : PA X (a :: es) (tA X.K W cl rs)) (hdb : (x == ("__debug__" : Str)) = false)
    (he : starEach (a :: es) X.env = (false, eval a X.env) :: starEach es X.env) (hpl : (backTo pos (starEach es X.env)).any (·.1) = false) : PE X (.Call (.Name x p) (a :: es) [] pos) (tE X.K W cl fun e => do let xs ← rs e; arity fr.n fr.sem xs) := by
  obtain ⟨f, fd, ps, k, hn, hk, F, hm, kp, hb⟩ := fx.ex
  subst hx
  refine PE.imp (pe_callS F (hr.mono hk) hg hm kp hb (fun σ => passAt tk σ) ha hdb he hpl) fun σ H Q _ q => ?_
  obtain ⟨e, F, vr, w⟩ := q
  exact ⟨e, F, vr, w.bind.mono fun xs F1 H1 x1 w1 vs rs => sp_of_wp x1.sub rs w1⟩
/-! ### built-ins -/
def rBi (K : PySem.W.Frag) (b : Bi) : List V → Hp → VK → Prop := fun vs H Q => ∃ F ds d, Sub F H ∧ Rps K F vs ds ∧ biS b ds = .ok d ∧ Gives K F H d Q
theorem biS_noexc {b : Bi} {ds : List D} {c : Nat} : biS b ds ≠ .exc c := by
  unfold biS
  repeat' split
  all_goals first
    | (intro h; cases h; done)
    | (unfold sortS; split <;> (intro h; cases h; done))
    | (unfold dictS; split <;> (intro h; cases h; done))
theorem ce_biB {x : Str} {p : Pos} {id : String} {k : Bi} {rs : Env → R (List D)} (hc : CallR X (.builtin id) (rBi X.K k)) (hg : Gl X x) (hm : X.mg x = none) (hv : bootBuiltins x = some (.builtin id)) (hn : x ≠ "__name__") (ha : PA X (a :: es) (tA X.K W cl rs)) (hdb : (x == ("__debug__" : Str)) = false)
    (he : starEach (a :: es) X.env = (false, eval a X.env) :: starEach es X.env) (hpl : (backTo pos (starEach es X.env)).any (·.1) = false) : PE X (.Call (.Name x p) (a :: es) [] pos) (tE X.K W cl fun e => do let xs ← rs e; biS k xs) := by
  refine PE.imp (pe_callB hc hg hm hv ha hn hdb he hpl) fun σ H Q _ q => ?_
  obtain ⟨e, F, vr, w⟩ := q
  refine ⟨e, F, vr, w.bind.mono fun xs F1 H1 x1 w1 vs rs => ?_⟩
  cases hz : biS k xs with
  | bad => rw [hz] at w1; exact w1.elim
  | exc c => exact absurd hz biS_noexc
  | ok d => rw [hz] at w1; exact ⟨F1, xs, d, x1.sub, rs, hz, fun v F' H' x r => w1 F' H' x v r⟩
theorem ce_biT {x : Str} {p : Pos} {id : String} {k : Bi} {rs : Env → R (List D)} (hc : CallR X (.type id) (rBi X.K k)) (hg : Gl X x) (hm : X.mg x = none) (hv : bootBuiltins x = some (.type id)) (hn : x ≠ "__name__") (ha : PA X (a :: es) (tA X.K W cl rs)) (hdb : (x == ("__debug__" : Str)) = false)
    (he : starEach (a :: es) X.env = (false, eval a X.env) :: starEach es X.env) (hpl : (backTo pos (starEach es X.env)).any (·.1) = false) : PE X (.Call (.Name x p) (a :: es) [] pos) (tE X.K W cl fun e => do let xs ← rs e; biS k xs) := by
  refine PE.imp (pe_callTy hc hg hm hv ha hn hdb he hpl) fun σ H Q _ q => ?_
  obtain ⟨e, F, vr, w⟩ := q
  refine ⟨e, F, vr, w.bind.mono fun xs F1 H1 x1 w1 vs rs => ?_⟩
  cases hz : biS k xs with
  | bad => rw [hz] at w1; exact w1.elim
  | exc c => exact absurd hz biS_noexc
  | ok d => rw [hz] at w1; exact ⟨F1, xs, d, x1.sub, rs, hz, fun v F' H' x r => w1 F' H' x v r⟩
end
end Pan

/-! Panestacks, part D4: built-ins by their data. -/
namespace Pan
open PySem PySem.Spec L2
open PyProof.Rows hiding St
section
variable {X : Cx} {W : WX} {cl : Nat → Value}
/-- len, of what is only looked at -/
def rLenW (K : PySem.W.Frag) : List V → Hp → VK → Prop := fun vs H Q => ∃ G ds n, Sub G H ∧ Rps K G vs ds ∧ biS .len ds = .ok (.int n) ∧ Q (.int n) H
theorem call_lenW : CallR X (.builtin "len") (rLenW X.K) := by
  refine CallR.imp ((call_len_seq (X := X)).or call_len_str) fun vs H Q _ h => ?_
  obtain ⟨G, ds, n, s, r, e, q⟩ := h
  cases r with
  | nil => simp [biS] at e
  | cons h1 r =>
    cases r with
    | cons _ _ => simp [biS] at e
    | nil =>
      cases h1 <;> simp only [biS] at e <;> try cases e
      · split at e
        · cases e; exact .inr ⟨_, rfl, by assumption, q⟩
        · cases e
      · rename_i hs
        refine .inl ⟨_, _, rfl, .inl (s.seq hs), ?_⟩
        rw [List.length_map]
        exact q
      · rename_i ea r
        refine .inl ⟨_, _, rfl, .inr ((s.tup ea).sq), ?_⟩
        rw [r.length]
        exact q
      · rename_i ea r
        refine .inl ⟨_, _, rfl, .inl (SqL.of (s.lst ea)), ?_⟩
        rw [r.length]
        exact q
theorem len_int {ds : List D} {d : D} (h : biS .len ds = .ok d) : ∃ n, d = .int n := by
  unfold biS at h
  split at h <;> first | (cases h; exact ⟨_, rfl⟩) | (split at h <;> first | (cases h; exact ⟨_, rfl⟩) | cases h) | cases h | skip
  all_goals first | (simp at *; done) | contradiction
theorem bi_len : CallR X (.builtin "len") (rBi X.K .len) := CallR.imp call_lenW fun vs H Q _ h => by
  obtain ⟨F, ds, d, s, r, e, g⟩ := h
  obtain ⟨n, rfl⟩ := len_int e
  exact ⟨F, ds, n, s, r, e, g.int s⟩
theorem maxI_spec : ∀ (ns : List Int) (n m : Int), m ∈ n :: ns → (∀ y ∈ n :: ns, y ≤ m) → maxI n ns = m
  | [], n, m, h, _ => by simp at h; subst h; rfl
  | k :: ns, n, m, h, hm => by
    unfold maxI
    rw [List.foldl_cons]
    refine maxI_spec ns (if k > n then k else n) m ?_ fun y hy => ?_
    · have h1 := hm n (by simp)
      have h2 := hm k (by simp)
      rcases List.mem_cons.mp h with e | e
      · subst e; exact List.mem_cons.mpr (.inl (by split <;> omega))
      · rcases List.mem_cons.mp e with e | e
        · subst e; exact List.mem_cons.mpr (.inl (by split <;> omega))
        · exact List.mem_cons_of_mem _ e
    · rcases List.mem_cons.mp hy with e | e
      · subst e; have h1 := hm n (by simp); have h2 := hm k (by simp); split <;> omega
      · exact hm y (by simp [e])
theorem minI_spec : ∀ (ns : List Int) (n m : Int), m ∈ n :: ns → (∀ y ∈ n :: ns, m ≤ y) → minI n ns = m
  | [], n, m, h, _ => by simp at h; subst h; rfl
  | k :: ns, n, m, h, hm => by
    unfold minI
    rw [List.foldl_cons]
    refine minI_spec ns (if k < n then k else n) m ?_ fun y hy => ?_
    · have h1 := hm n (by simp)
      have h2 := hm k (by simp)
      rcases List.mem_cons.mp h with e | e
      · subst e; exact List.mem_cons.mpr (.inl (by split <;> omega))
      · rcases List.mem_cons.mp e with e | e
        · subst e; exact List.mem_cons.mpr (.inl (by split <;> omega))
        · exact List.mem_cons_of_mem _ e
    · rcases List.mem_cons.mp hy with e | e
      · subst e; have h1 := hm n (by simp); have h2 := hm k (by simp); split <;> omega
      · exact hm y (by simp [e])
theorem bi_max (hc : X.calm = true) : CallR X (.builtin "max") (rBi X.K .max) := by
  refine CallR.imp ((call_max2 hc).or (cr_max hc)) fun vs H Q _ h => ?_
  obtain ⟨F, ds, d, s, r, e, g⟩ := h
  cases r with
  | nil => simp [biS] at e
  | cons h1 r =>
    cases r with
    | nil =>
      cases h1 <;> simp only [biS] at e <;> try cases e
      rename_i ea r
      split at e
      · rename_i n ns hn
        cases e
        have := r.ints hn
        subst this
        refine .inr ⟨_, _, rfl, SqL.of (s.lst ea), by simp, fun m hm hl => ?_⟩
        rw [← maxI_spec ns n m hm hl]
        exact g.int s
      · cases e
    | cons h2 r =>
      cases r with
      | cons _ _ => simp [biS] at e
      | nil =>
        cases h1 <;> cases h2 <;> simp only [biS] at e <;> try cases e
        exact .inl ⟨_, _, rfl, g.int s⟩
theorem bi_min (hc : X.calm = true) : CallR X (.builtin "min") (rBi X.K .min) := by
  refine CallR.imp ((call_min2 hc).or (cr_min hc)) fun vs H Q _ h => ?_
  obtain ⟨F, ds, d, s, r, e, g⟩ := h
  cases r with
  | nil => simp [biS] at e
  | cons h1 r =>
    cases r with
    | nil =>
      cases h1 <;> simp only [biS] at e <;> try cases e
      rename_i ea r
      split at e
      · rename_i n ns hn
        cases e
        have := r.ints hn
        subst this
        refine .inr ⟨_, _, rfl, SqL.of (s.lst ea), by simp, fun m hm hl => ?_⟩
        rw [← minI_spec ns n m hm hl]
        exact g.int s
      · cases e
    | cons h2 r =>
      cases r with
      | cons _ _ => simp [biS] at e
      | nil =>
        cases h1 <;> cases h2 <;> simp only [biS] at e <;> try cases e
        exact .inl ⟨_, _, rfl, g.int s⟩
/-- one argument -/
theorem one_of {K : PySem.W.Frag} {F : Hp} {vs : List V} {ds : List D} {k : Bi} {d : D} (r : Rps K F vs ds) (e : biS k ds = .ok d) (hk : k = .abs ∨ k = .all ∨ k = .any ∨ k = .sum ∨ k = .tuple ∨ k = .list ∨ k = .sorted ∨ k = .sortset ∨ k = .lenset) :
    ∃ v a, vs = [v] ∧ ds = [a] ∧ Rp K F v a := by
  cases r with
  | nil => rcases hk with h | h | h | h | h | h | h | h | h <;> subst h <;> simp [biS] at e
  | cons h1 r =>
    cases r with
    | nil => exact ⟨_, _, rfl, rfl, h1⟩
    | cons _ _ => rcases hk with h | h | h | h | h | h | h | h | h <;> subst h <;> simp [biS] at e
theorem bi_abs : CallR X (.builtin "abs") (rBi X.K .abs) := by
  refine CallR.imp (call_abs (X := X)) fun vs H Q _ h => ?_
  obtain ⟨F, ds, d, s, r, e, g⟩ := h
  obtain ⟨v, a, rfl, rfl, h1⟩ := one_of r e (by simp)
  clear r
  cases h1 <;> simp only [biS] at e <;> try cases e
  exact ⟨_, rfl, g.int s⟩
theorem bi_all (hc : X.calm = true) : CallR X (.builtin "all") (rBi X.K .all) := by
  refine CallR.imp (cr_all hc) fun vs H Q _ h => ?_
  obtain ⟨F, ds, d, s, r, e, g⟩ := h
  obtain ⟨v, a, rfl, rfl, h1⟩ := one_of r e (by simp)
  clear r
  cases h1 <;> simp only [biS] at e <;> try cases e
  rename_i ea r
  split at e
  · rename_i bs hb
    cases e
    have := r.bools hb
    subst this
    exact ⟨_, bs, rfl, SqL.of (s.lst ea), g.bl s⟩
  · cases e
theorem bi_any (hc : X.calm = true) : CallR X (.builtin "any") (rBi X.K .any) := by
  refine CallR.imp (cr_any hc) fun vs H Q _ h => ?_
  obtain ⟨F, ds, d, s, r, e, g⟩ := h
  obtain ⟨v, a, rfl, rfl, h1⟩ := one_of r e (by simp)
  clear r
  cases h1 <;> simp only [biS] at e <;> try cases e
  rename_i ea r
  split at e
  · rename_i bs hb
    cases e
    have := r.bools hb
    subst this
    exact ⟨_, bs, rfl, SqL.of (s.lst ea), g.bl s⟩
  · cases e
theorem bi_sum (hc : X.calm = true) : CallR X (.builtin "sum") (rBi X.K .sum) := by
  refine CallR.imp (cr_sum hc) fun vs H Q _ h => ?_
  obtain ⟨F, ds, d, s, r, e, g⟩ := h
  obtain ⟨v, a, rfl, rfl, h1⟩ := one_of r e (by simp)
  clear r
  cases h1 <;> simp only [biS] at e <;> try cases e
  rename_i ea r
  split at e
  · rename_i bs hb
    cases e
    have := r.ints hb
    subst this
    exact ⟨_, bs, rfl, SqL.of (s.lst ea), g.int s⟩
  · cases e
theorem bi_tuple : CallR X (.type "tuple") (rBi X.K .tuple) := by
  refine CallR.imp (call_tupF (X := X)) fun vs H Q _ h => ?_
  obtain ⟨F, ds, d, s, r, e, g⟩ := h
  obtain ⟨v, a, rfl, rfl, h1⟩ := one_of r e (by simp)
  clear r
  cases h1 <;> simp only [biS] at e <;> try cases e
  · rename_i ea r
    exact ⟨_, _, rfl, .inr ⟨(s.tup ea).sq, g.was s (.tup ea r)⟩⟩
  · rename_i ea r
    exact ⟨_, _, rfl, .inl ⟨SqL.of (s.lst ea), g.tup s r⟩⟩
theorem bi_list : CallR X (.type "list") (rBi X.K .list) := by
  refine CallR.imp (call_list_of (X := X)) fun vs H Q _ h => ?_
  obtain ⟨F, ds, d, s, r, e, g⟩ := h
  obtain ⟨v, a, rfl, rfl, h1⟩ := one_of r e (by simp)
  clear r
  cases h1 <;> simp only [biS] at e <;> try cases e
  · rename_i ea r
    exact ⟨_, _, rfl, .inr ((s.tup ea).sq), g.lst s r⟩
  · rename_i ea r
    exact ⟨_, _, rfl, .inl (SqL.of (s.lst ea)), g.lst s r⟩
/-- the type of data -/
def tyD : D → Option String
  | .non => some "NoneType"
  | .bl _ => some "bool"
  | .int _ => some "int"
  | .str _ => some "str"
  | .tup _ => some "tuple"
  | .lst _ => some "list"
  | _ => none
theorem ty_of {K : PySem.W.Frag} {F H : Hp} {v : V} {d : D} {t : String} (s : Sub F H) (r : Rp K F v d) (h : tyD d = some t) : TyX K H v (.type t) := by
  cases r <;> simp only [tyD] at h <;> cases h
  · exact .base .non
  · exact .base (.bl _)
  · exact .base (.int _)
  · exact .base (.str _)
  · rename_i ea _; obtain ⟨o, _, e⟩ := s.tup ea; exact .fTuple e
  · exact .base (.lst (s.lst (by assumption)))
theorem kit_all : (["NoneType", "bool", "int", "str", "tuple", "list"].all fun t => classes.all fun c => kitB t c == some (t == c || (t == "bool" && c == "int"))) = true := by decide +kernel
theorem bi_isinst : CallR X (.builtin "isinstance") (rBi X.K .isinst) := by
  refine CallR.imp (call_isi (X := X)) fun vs H Q _ h => ?_
  obtain ⟨F, ds, d, s, r, e, g⟩ := h
  cases r with
  | nil => simp [biS] at e
  | cons h1 r =>
    cases r with
    | nil => simp [biS] at e
    | cons h2 r =>
      cases r with
      | cons _ _ => simp [biS] at e
      | nil =>
        cases h2 <;> simp only [biS] at e <;> try cases e
        rename_i x a n
        split at e
        · rename_i hk
          cases e
          rw [Bool.and_eq_true] at hk
          obtain ⟨t, ht⟩ : ∃ t, tyD a = some t := by
            have := hk.1
            cases a <;> simp only [okd] at this <;> first | exact ⟨_, rfl⟩ | cases this
          refine ⟨x, .ty n, .type t, .type n, isInstS a n, rfl, .ty n, ty_of s h1 ht, kit_ty ?_, g.bl s⟩
          have hc : n ∈ classes := by simpa using hk.2
          have hm : t ∈ ["NoneType", "bool", "int", "str", "tuple", "list"] := by
            cases a <;> simp only [tyD] at ht <;> cases ht <;> simp
          have := List.all_eq_true.mp (List.all_eq_true.mp kit_all t hm) n hc
          rw [beq_iff_eq] at this
          rw [this]
          have hn : n = "int" ∨ n = "bool" ∨ n = "str" ∨ n = "tuple" ∨ n = "list" := by
            simpa [classes] using hc
          congr 1
          cases a <;> simp only [tyD] at ht <;> cases ht <;> rcases hn with rfl | rfl | rfl | rfl | rfl <;> rfl
        · cases e
end
end Pan

/-! Panestacks, part D5: targets, what is walked, comprehensions. -/
namespace Pan
open PySem PySem.Spec L2
open PyProof.Rows hiding St

/-! ### targets -/
def gNames : List Nat → TGs
  | [] => gNil
  | i :: r => gCons (gName i) (gNames r)
def gOf (K : PySem.W.Frag) : G → TG
  | .name i => gName i
  | .tup is => gTup K is.length (gNames is)
def slotsG : G → List Nat
  | .name i => [i]
  | .tup is => is
theorem wipe_get {σ : St} : ∀ (vs : List Nat) (i : Nat), (wipe σ vs)[i]? = if i ∈ vs then σ[i]?.map (fun _ => none) else σ[i]?
  | [], i => by simp [wipe]
  | v :: vs, i => by
    rw [wipe, List.getElem?_set, wipe_get vs i]
    by_cases h : v = i
    · subst h
      rw [if_pos rfl]
      rw [wipe_length]
      by_cases hl : v < σ.length
      · simp [hl]
      · simp [hl, List.getElem?_eq_none_iff.mpr (Nat.le_of_not_lt hl)]
    · rw [if_neg h]
      by_cases h2 : i ∈ vs
      · simp [h2]
      · have : i ∉ v :: vs := by simp [h2, Ne.symm h]
        simp [h2, this]
theorem wipe_set {σ : St} {vs : List Nat} {i : Nat} {o : Option V} (h : i ∈ vs) : wipe (σ.set i o) vs = wipe σ vs := by
  refine List.ext_getElem? fun j => ?_
  rw [wipe_get, wipe_get]
  by_cases hj : j ∈ vs
  · rw [if_pos hj, if_pos hj, List.getElem?_set]
    by_cases e : i = j
    · subst e
      rw [if_pos rfl]
      by_cases hl : i < σ.length
      · simp [hl]
      · simp [hl, List.getElem?_eq_none_iff.mpr (Nat.le_of_not_lt hl)]
    · rw [if_neg e]
  · rw [if_neg hj, if_neg hj, List.getElem?_set, if_neg (by intro e; subst e; exact hj h)]
theorem wipe_wipe {σ : St} {vs : List Nat} : wipe (wipe σ vs) vs = wipe σ vs := by
  refine List.ext_getElem? fun j => ?_
  rw [wipe_get, wipe_get]
  by_cases hj : j ∈ vs
  · rw [if_pos hj, if_pos hj]
    cases σ[j]? <;> rfl
  · rw [if_neg hj, if_neg hj]
/-- no name holds for its own what stands at p -/
def NoOwn (p : Addr) (e : Env) (σ : St) : Prop := ∀ (i : Nat) (d : D), e[i]? = some (.own d) → σ[i]? ≠ some (some (.ref p))
theorem NoOwn.set {p : Addr} {e : Env} {σ : St} (h : NoOwn p e σ) (hl : e.length = σ.length) (i : Nat) (s : Slot) (hs : ∀ d, s ≠ .own d) (o : Option V) : NoOwn p (e.set i s) (σ.set i o) := fun j d a => by
  rw [List.getElem?_set] at a ⊢
  by_cases q : i = j
  · rw [if_pos q] at a
    split at a
    · exact absurd (Option.some.inj a) (hs d)
    · cases a
  · rw [if_neg q] at a ⊢
    exact h j d a
theorem NoOwn.wipe {p : Addr} {e : Env} {σ : St} (h : NoOwn p e σ) (hl : e.length = σ.length) : ∀ vs : List Nat, NoOwn p (wipeE e vs) (wipe σ vs) ∧ (wipeE e vs).length = (L2.wipe σ vs).length
  | [] => ⟨h, hl⟩
  | v :: vs => by
    obtain ⟨a, b⟩ := NoOwn.wipe h hl vs
    exact ⟨a.set b v .no (fun _ z => by cases z) none, by simp [wipeE, L2.wipe, b]⟩
section
variable {K : PySem.W.Frag} {F H : Hp}
theorem VR.poke {e : Env} {σ : St} {p : Addr} {o : HO} (v : VR K e σ F H) (n : NoOwn p e σ) (h : F p = none) : VR K e σ F (upd H p o) := by
  refine ⟨fun b u q => ?_, v.len, fun i s q a b => ?_⟩
  · rw [upd_ne (ne_of_none q h)]
    exact v.sub b u q
  · have sl := v.slot i s q a b
    cases s with
    | no => trivial
    | held c a => cases q <;> exact sl
    | val d => cases q <;> exact sl
    | own d =>
      cases q with
      | none => cases d <;> first | exact sl.elim | (rename_i t _; cases t <;> exact sl.elim)
      | some x =>
        cases x with
        | ref c =>
          have hne : c ≠ p := fun z => n i d a (by rw [b, z])
          cases d with
          | lst ds => obtain ⟨f, xs, e1, r⟩ := sl; exact ⟨f, xs, by rw [upd_ne hne]; exact e1, r⟩
          | dic t es =>
            cases t with
            | false => obtain ⟨f, xs, e1, r⟩ := sl; exact ⟨f, xs, by rw [upd_ne hne]; exact e1, r⟩
            | true => obtain ⟨f, xs, e1, r⟩ := sl; exact ⟨f, xs, by rw [upd_ne hne]; exact e1, r⟩
          | _ => exact sl.elim
        | _ => cases d <;> first | exact sl.elim | (rename_i t _; cases t <;> exact sl.elim)
/-- what is new is no name's own -/
theorem VR.noOwn {e : Env} {σ : St} {p : Addr} (v : VR K e σ F H) (h : H p = none) : NoOwn p e σ := fun i d a b => by
  have sl := v.slot i _ _ a b
  cases d with
  | lst ds => obtain ⟨f, xs, e1, r⟩ := sl; rw [h] at e1; cases e1
  | dic t es => cases t <;> (obtain ⟨f, xs, e1, r⟩ := sl; rw [h] at e1; cases e1)
  | _ => exact sl.elim
theorem sets_ok {Q : St → Hp → Prop} : ∀ (is : List Nat) {ds : List D} {vs : List V} {e e' : Env} {σ : St}, sets e is ds = some e' → Rps K F vs ds → VR K e σ F H →
    (∀ σ', VR K e' σ' F H → (∀ ws, (∀ i ∈ is, i ∈ ws) → wipe σ' ws = wipe σ ws) → (∀ p, NoOwn p e σ → NoOwn p e' σ') → Q σ' H) → gNames is vs σ H Q
  | [], [], vs, e, e', σ, h, r, v, q => by
    cases r
    cases h
    exact ⟨rfl, q σ v (fun _ _ => rfl) fun _ n => n⟩
  | [], _ :: _, _, _, _, _, h, _, _, _ => by cases h
  | _ :: _, [], _, _, _, _, h, _, _, _ => by cases h
  | i :: is, d :: ds, vs, e, e', σ, h, r, v, q => by
    cases r with
    | cons h1 r =>
      refine ⟨_, _, rfl, ?_⟩
      exact sets_ok is (e := set1 e i d) h r (v.set (s := .val d) (o := some _) h1) fun σ' v' hw hn => q σ' v' (fun ws hm => (hw ws fun j hj => hm j (by simp [hj])).trans (wipe_set (hm i (by simp)))) fun p n => hn p (n.set v.len i (.val d) (fun _ z => by cases z) _)
theorem gOf_ok {g : G} {d : D} {v : V} {e e' : Env} {σ : St} {Q : St → Hp → Prop} (h : asgG g d e = .ok e') (r : Rp K F v d) (vr : VR K e σ F H)
    (q : ∀ σ', VR K e' σ' F H → (∀ ws, (∀ i ∈ slotsG g, i ∈ ws) → wipe σ' ws = wipe σ ws) → (∀ p, NoOwn p e σ → NoOwn p e' σ') → Q σ' H) : gOf K g v σ H Q := by
  cases g with
  | name i =>
    cases h
    exact q _ (vr.set (s := .val d) (o := some v) r) (fun ws hm => wipe_set (hm i (by simp [slotsG]))) fun p n => n.set vr.len i (.val d) (fun _ z => by cases z) _
  | tup is =>
    have main : ∀ {a : Addr} {xs : List V} {ds : List D} {e2 : Env}, SqT K H a xs → Rps K F xs ds → sets e is ds = some e2 → (∀ σ', VR K e2 σ' F H → (∀ ws, (∀ i ∈ slotsG (.tup is), i ∈ ws) → wipe σ' ws = wipe σ ws) → (∀ p, NoOwn p e σ → NoOwn p e2 σ') → Q σ' H) → gOf K (.tup is) (.ref a) σ H Q := by
      intro a xs ds e2 sq r he q
      refine ⟨a, xs, rfl, sq, ?_, sets_ok is he r vr q⟩
      rw [r.length]
      have : ∀ (is : List Nat) (ds : List D) (e e' : Env), sets e is ds = some e' → ds.length = is.length := by
        intro is
        induction is with
        | nil => intro ds e e' h; cases ds with
          | nil => rfl
          | cons _ _ => cases h
        | cons i is ih => intro ds e e' h; cases ds with
          | nil => cases h
          | cons d ds => simp only [List.length_cons]; rw [ih ds _ _ h]
      exact this is ds e _ he
    cases r <;> simp only [asgG] at h <;> try cases h
    all_goals
      rename_i ea r
      split at h
      · rename_i e2 he
        cases h
        first | exact main (vr.sub.tup ea).sq r he q | exact main (SqT.of (vr.sub.prs ea)) r he q
      · cases h
end
/-! ### what is walked -/
structure WalksD (K : PySem.W.Frag) (J : It) (F : Hp) (ds : List D) : Prop where
  size : ds.length ≤ sizeLine
  stop : ∀ F1 H1, Same F F1 → Sub F1 H1 → J.stop ds.length H1
  go : ∀ i d, ds[i]? = some d → ∀ F1 H1, Same F F1 → Sub F1 H1 → J.go i H1 ∧ ∀ x H2, J.yld i H1 x H2 → ∃ F2, Ext F1 H1 F2 H2 ∧ Rp K F2 x d
def tIt (K : PySem.W.Frag) (W : WX) (cl : Nat → Value) (r : Env → R (List D)) : TI := fun σ H R => ∃ e F, VR K e σ F H ∧ Wp W cl (r e) σ F H fun ds F' H' => ∀ J, WalksD K J F' ds → R J H'
theorem itS_noexc {k : IK} {ds : List D} {c : Nat} : itS k ds ≠ .exc c := by
  unfold itS
  split <;> (try split) <;> simp
section
variable {K : PySem.W.Frag} {F H : Hp}
theorem walks_lst {a : Addr} {xs : List V} {ds : List D} (h : F a = some (.lst xs)) (r : Rps K F xs ds) (hz : ds.length ≤ sizeLine) : WalksD K (Itl K a) F ds where
  size := hz
  stop := fun F1 H1 g s => walk_list.stops H1 (SqL.of (s.lst (g _ _ h))) |> fun z => by rw [← r.length]; exact z
  go := fun i d hd F1 H1 g s => by
    have q := SqL.of (K := K) (s.lst (g _ _ h))
    obtain ⟨v, hv, rv⟩ := r.get hd
    refine ⟨⟨xs, v, q, hv⟩, fun x H2 y => ?_⟩
    obtain ⟨rfl, y⟩ := y
    have := y xs q
    rw [hv] at this
    cases this
    exact ⟨F1, Ext.refl s, rv.mono g⟩
theorem walks_tup {a : Addr} {xs : List V} {ds : List D} (h : IsT F a xs) (r : Rps K F xs ds) (hz : ds.length ≤ sizeLine) : WalksD K (Itt K a) F ds where
  size := hz
  stop := fun F1 H1 g s => walk_tup.stops H1 (s.tup (h.mono g)).sq |> fun z => by rw [← r.length]; exact z
  go := fun i d hd F1 H1 g s => by
    have q := (s.tup (h.mono g)).sq (K := K)
    obtain ⟨v, hv, rv⟩ := r.get hd
    refine ⟨⟨xs, v, q, hv⟩, fun x H2 y => ?_⟩
    obtain ⟨rfl, y⟩ := y
    have := y xs q
    rw [hv] at this
    cases this
    exact ⟨F1, Ext.refl s, rv.mono g⟩
theorem walks_rng {lo : Int} {n : Nat} (hz : n ≤ sizeLine) : WalksD K (Itr lo n) F (rangeD lo n) where
  size := by rw [rangeD, List.length_map, List.length_range]; exact hz
  stop := fun F1 H1 g s => by
    rw [rangeD, List.length_map, List.length_range]
    exact Nat.le_refl _
  go := fun i d hd F1 H1 g s => by
    rw [rangeD, List.getElem?_map] at hd
    have hi : i < n := by
      by_cases h : i < n
      · exact h
      · rw [List.getElem?_eq_none_iff.mpr (by rw [List.length_range]; omega)] at hd
        cases hd
    rw [List.getElem?_range hi] at hd
    cases hd
    refine ⟨hi, fun x H2 y => ?_⟩
    obtain ⟨rfl, rfl⟩ := y
    exact ⟨F1, Ext.refl s, .int _⟩
/-- pairs that are made at each turn -/
theorem walks_pair {J : It} {n : Nat} {fx fy : Nat → Option V} {ds : List D} (hn : ds.length = n) (hz : n ≤ sizeLine) (G : Hp → Prop) (w : Walk J n G (YPair fx fy)) (hG : ∀ F1 H1, Same F F1 → Sub F1 H1 → G H1)
    (hp : ∀ i d, ds[i]? = some d → ∀ x y, fx i = some x → fy i = some y → ∃ a b, d = .prs [a, b] ∧ Rp K F x a ∧ Rp K F y b) : WalksD K J F ds where
  size := by rw [hn]; exact hz
  stop := fun F1 H1 g s => by rw [hn]; exact w.stops H1 (hG F1 H1 g s)
  go := fun i d hd F1 H1 g s => by
    have hi : i < n := by
      rw [← hn]
      exact (List.getElem?_eq_some_iff.mp hd).1
    refine ⟨w.goes i H1 hi (hG F1 H1 g s), fun z H2 hy => ?_⟩
    obtain ⟨T, x, y, rfl, hT, rfl, h1, h2⟩ := w.yields i H1 z H2 hi (hG F1 H1 g s) hy
    obtain ⟨a, b, rfl, r1, r2⟩ := hp i d hd x y h1 h2
    have x1 := Ext.laid (.tup [x, y]) s hT
    exact ⟨_, x1, .prs upd_same (.cons ((r1.mono g).mono x1.grow) (.cons ((r2.mono g).mono x1.grow) .nil))⟩
end
section
variable {X : Cx} {W : WX} {cl : Nat → Value} {a b tg : Expr} {ra rb : Env → R D} {pos p : Pos}
theorem ci_seq (ha : PE X a (tE X.K W cl ra)) : PI X tg a (tIt X.K W cl fun e => do let x ← ra e; itS .seq [x]) := by
  refine PI.imp (PI.good (PI.or (pi_list ha) (pi_tup ha))) fun σ H R _ q => ?_
  obtain ⟨e, F, vr, w⟩ := q
  dsimp only at w
  cases hx : ra e with
  | bad => rw [hx] at w; exact w.elim
  | exc c => rw [hx] at w; exact .inl ⟨e, F, vr, by rw [hx]; exact w⟩
  | ok x =>
    rw [hx] at w
    have w1 : Wp W cl (itS .seq [x]) σ F H fun ds F' H' => ∀ J, WalksD X.K J F' ds → R J H' := w
    by_cases ht : ∃ xs, x = .tup xs
    · obtain ⟨ds, rfl⟩ := ht
      refine .inr ⟨e, F, vr, by
        rw [hx]
        intro F1 H1 x1 v rv
        cases rv with
        | tup ea r =>
          refine ⟨_, rfl, ⟨_, (x1.sub.tup ea).sq⟩, fun gd => ?_⟩
          refine w1 F1 H1 x1 _ (walks_tup ea r ?_)
          rw [← r.length]
          exact gd.tup _ _ ((x1.sub.tup ea).sq)⟩
    · refine .inl ⟨e, F, vr, by
        rw [hx]
        intro F1 H1 x1 v rv
        cases rv with
        | lst ea r =>
          refine ⟨_, rfl, ⟨_, SqL.of (x1.sub.lst ea)⟩, fun gd => ?_⟩
          refine w1 F1 H1 x1 _ (walks_lst ea r ?_)
          rw [← r.length]
          exact gd.lst _ _ (SqL.of (x1.sub.lst ea))
        | tup ea r => exact absurd ⟨_, rfl⟩ ht
        | _ => exact w1.elim⟩
theorem ci_rng1 (hg : Gl X "range") (hm : X.mg "range" = none) (hs : starEach [a] X.env = [(false, eval a X.env)]) (ha : PA X [a] (tA X.K W cl fun e => do let x ← ra e; .ok [x])) : PI X tg (.Call (.Name "range" p) [a] [] pos) (tIt X.K W cl fun e => do let x ← ra e; itS .rng1 [x]) := by
  refine PI.imp (pi_range1 hg hm ha hs) fun σ H R _ q => ?_
  obtain ⟨e, F, vr, w⟩ := q
  refine ⟨e, F, vr, ?_⟩
  dsimp only at w ⊢
  cases hx : ra e with
  | bad => rw [hx] at w; exact w.elim
  | exc c => rw [hx] at w; exact w
  | ok x =>
    rw [hx] at w
    have w1 : Wp W cl (itS .rng1 [x]) σ F H fun ds F' H' => ∀ J, WalksD X.K J F' ds → R J H' := w
    intro F1 H1 x1 vs rv
    cases rv with
    | cons h1 r =>
      cases r
      cases h1 <;> simp only [itS] at w1 <;> try exact w1.elim
      rename_i n
      split at w1
      · rename_i hn
        simp only [smallI, Bool.and_eq_true, decide_eq_true_eq] at hn
        refine ⟨n, rfl, hn.1.1, hn.1.2, w1 F1 H1 x1 _ (walks_rng ?_)⟩
        omega
      · exact w1.elim
theorem ci_rng2 (hg : Gl X "range") (hm : X.mg "range" = none) (hs : starEach [a, b] X.env = [(false, eval a X.env), (false, eval b X.env)]) (hs2 : starEach [b] X.env = [(false, eval b X.env)])
    (ha : PA X [a, b] (tA X.K W cl fun e => do let x ← ra e; let y ← rb e; .ok [x, y])) : PI X tg (.Call (.Name "range" p) [a, b] [] pos) (tIt X.K W cl fun e => do let x ← ra e; let y ← rb e; itS .rng2 [x, y]) := by
  refine PI.imp (pi_range2 hg hm ha hs hs2) fun σ H R _ q => ?_
  obtain ⟨e, F, vr, w⟩ := q
  refine ⟨e, F, vr, ?_⟩
  dsimp only at w ⊢
  cases hx : ra e with
  | bad => rw [hx] at w; exact w.elim
  | exc c => rw [hx] at w; exact w
  | ok x =>
    rw [hx] at w
    have w0 : Wp W cl (rb e >>= fun y => itS .rng2 [x, y]) σ F H fun ds F' H' => ∀ J, WalksD X.K J F' ds → R J H' := w
    cases hy : rb e with
    | bad => rw [hy] at w0; exact w0.elim
    | exc c => rw [hy] at w0; exact w0
    | ok y =>
      rw [hy] at w0
      have w1 : Wp W cl (itS .rng2 [x, y]) σ F H fun ds F' H' => ∀ J, WalksD X.K J F' ds → R J H' := w0
      intro F1 H1 x1 vs rv
      cases rv with
      | cons h1 r =>
        cases r with
        | cons h2 r =>
          cases r
          cases h1 <;> cases h2 <;> simp only [itS] at w1 <;> try exact w1.elim
          rename_i n m
          split at w1
          · rename_i hn
            simp only [smallI, Bool.and_eq_true, decide_eq_true_eq] at hn
            refine ⟨n, m, rfl, ⟨hn.1.1.1, hn.1.1.2, hn.1.2.1, hn.1.2.2⟩, w1 F1 H1 x1 _ (walks_rng ?_)⟩
            omega
          · exact w1.elim
end
end Pan

/-! Panestacks, part D6: list comprehensions. -/
namespace Pan
open PySem PySem.Spec L2
open PyProof.Rows hiding St

/-- nothing is wished of an exception -/
abbrev W0 : WX := fun _ _ _ _ => False
section
variable {K : PySem.W.Frag} {F H F' H' : Hp}
/-- a thing that is new is changed -/
theorem Ext.poke {p : Addr} {o : HO} (x : Ext F H F' H') (h : H p = none) (h' : F' p = none) : Ext F H F' (upd H' p o) where
  same := fun b u e => by
    rw [upd_ne (ne_of_none e h)]
    exact x.same b u e
  grow := x.grow
  sub := fun b u e => by
    rw [upd_ne (ne_of_none e h')]
    exact x.sub b u e
  new := x.new
/-- one item of a comprehension -/
def lcF (g : G) (vs : List Nat) (rt : Env → R Bool) (re : Env → R D) (e : Env) : D → R (List D) := fun d => do
  let e1 ← asgG g d (wipeE e vs)
  let c ← rt e1
  if c then do let y ← re e1; .ok [y] else .ok []
theorem bind_eq_ok {α β : Type} {m : R α} {f : α → R β} {b : β} (h : (m >>= f) = .ok b) : ∃ a, m = .ok a ∧ f a = .ok b := by
  cases m with
  | ok a => exact ⟨a, rfl, h⟩
  | exc _ => cases h
  | bad => cases h
theorem lcM_cons {d : D} {ds r : List D} {f : D → R (List D)} (h : lcM (d :: ds) f = .ok r) : ∃ a b, f d = .ok a ∧ lcM ds f = .ok b ∧ r = a ++ b := by
  rw [lcM] at h
  obtain ⟨a, h1, h⟩ := bind_eq_ok h
  obtain ⟨b, h2, h⟩ := bind_eq_ok h
  cases h
  exact ⟨a, b, h1, h2, rfl⟩
theorem lcM_len {f : D → R (List D)} (hf : ∀ d a, f d = .ok a → a.length ≤ 1) : ∀ {ds r : List D}, lcM ds f = .ok r → r.length ≤ ds.length
  | [], r, h => by cases h; exact Nat.le_refl _
  | d :: ds, r, h => by
    obtain ⟨a, b, h1, h2, rfl⟩ := lcM_cons h
    have := hf d a h1
    have := lcM_len hf h2
    rw [List.length_append, List.length_cons]
    omega
theorem lcF_len {g : G} {vs : List Nat} {rt : Env → R Bool} {re : Env → R D} {e : Env} (d : D) (a : List D) (h : lcF g vs rt re e d = .ok a) : a.length ≤ 1 := by
  unfold lcF at h
  obtain ⟨e1, _, h⟩ := bind_eq_ok h
  obtain ⟨c, _, h⟩ := bind_eq_ok h
  split at h
  · obtain ⟨y, _, h⟩ := bind_eq_ok h
    cases h
    exact Nat.le_refl _
  · cases h
    exact Nat.zero_le _
theorem lc_walk {cl : Nat → Value} {σ : St} {Q : VK} {g : G} {vs : List Nat} {rt : Env → R Bool} {re : Env → R D} (hv : ∀ i ∈ slotsG g, i ∈ vs) {e : Env} {F1 H1 : Hp} (vr1 : VR K e σ F1 H1) (x1 : Sub F1 H1) {J : It} {ds r : List Pan.D} (wk : WalksD K J F1 ds) {D : Addr} (hD : H1 D = none)
    (hr : lcM ds (lcF g vs rt re e) = .ok r) (w2 : ∀ F' H', Ext F1 H1 F' H' → (∃ acc, F' D = none ∧ H' D = some (.lst acc) ∧ Rps K F' acc r) → Q (.ref D) H') :
    ∃ Wf : Nat → Nat → Hp → Prop, (∃ m, Wf 0 m (upd H1 D (.lst []))) ∧ ∀ i m H, Wf i m H → (J.stop i H ∧ Q (.ref D) H) ∨ (J.go i H ∧ ∃ Nx : Hp → Prop, (∀ H', Nx H' → ∃ m', m' < m ∧ Wf (i + 1) m' H') ∧ ∀ x H', J.yld i H x H' →
      gOf K g x (wipe σ vs) H' fun σ2 H2 => wipe σ2 vs = wipe σ vs ∧ tT K W0 cl rt σ2 H2 fun b H3 => if b = true then tE K W0 cl re σ2 H3 fun v H4 => ∃ acc, H4 D = some (.lst acc) ∧ acc.length < sizeLine ∧ Nx (upd H4 D (.lst (acc ++ [v]))) else Nx H3) := by
  refine ⟨fun i m Hi => i + m = ds.length ∧ ∃ Fi acc done rest, Ext F1 H1 Fi Hi ∧ Hi D = some (.lst acc) ∧ Fi D = none ∧ Rps K Fi acc done ∧ lcM (ds.drop i) (lcF g vs rt re e) = .ok rest ∧ r = done ++ rest ∧ done.length ≤ i,
    ⟨ds.length, by omega, F1, [], [], r, Ext.made _ x1 hD, upd_same, x1.none hD, .nil, hr, rfl, Nat.zero_le _⟩, fun i m Hi hW => ?_⟩
  obtain ⟨him, Fi, acc, done, rest, xi, hDi, fDi, ra, hrest, hrr, hdl⟩ := hW
  by_cases hi : i < ds.length
  · -- a turn
    have hd : ds[i]? = some ds[i] := List.getElem?_eq_getElem hi
    have hdrop : ds.drop i = ds[i] :: ds.drop (i + 1) := List.drop_eq_getElem_cons hi
    rw [hdrop] at hrest
    obtain ⟨xs, rest', h1, h2, rfl⟩ := lcM_cons hrest
    obtain ⟨hgo, hy⟩ := wk.go i ds[i] hd Fi Hi xi.grow xi.sub
    refine .inr ⟨hgo, _, fun H' hN => ⟨m - 1, by omega, hN⟩, fun x H' y => ?_⟩
    obtain ⟨F2, x2, rx⟩ := hy x H' y
    unfold lcF at h1
    obtain ⟨e1, h3, h1⟩ := bind_eq_ok h1
    obtain ⟨c, h4, h1⟩ := bind_eq_ok h1
    have vr2 : VR K (wipeE e vs) (wipe σ vs) F2 H' := ((vr1.mono xi).mono x2).wipe vs
    refine gOf_ok h3 rx vr2 fun σ2 vr3 hw _ => ⟨?_, e1, F2, vr3, ?_⟩
    · rw [hw vs hv]
      exact wipe_wipe
    rw [h4]
    intro F3 H3 x3
    have hD3 : H3 D = some (.lst acc) := x3.same _ _ (x2.same _ _ hDi)
    have fD2 : F2 D = none := x2.keepNone fDi hDi (by intro _ z; cases z)
    have fD3 : F3 D = none := x3.keepNone fD2 (x2.same _ _ hDi) (by intro _ z; cases z)
    cases c with
    | false =>
      refine iteF ?_
      cases h1
      exact ⟨by omega, F3, acc, done, rest', (xi.trans x2).trans x3, hD3, fD3, (ra.mono x2.grow).mono x3.grow, h2, by rw [hrr]; rfl, by omega⟩
    | true =>
      refine iteT ⟨e1, F3, vr3.mono x3, ?_⟩
      obtain ⟨y, h5, h1⟩ := bind_eq_ok h1
      cases h1
      rw [h5]
      intro F4 H4 x4 v rv
      have hD4 : H4 D = some (.lst acc) := x4.same _ _ hD3
      have fD4 : F4 D = none := x4.keepNone fD3 hD3 (by intro _ z; cases z)
      refine ⟨acc, hD4, ?_, by omega, F4, acc ++ [v], done ++ [y], rest', (((xi.trans x2).trans x3).trans x4).poke hD fD4, upd_same, fD4, (((ra.mono x2.grow).mono x3.grow).mono x4.grow).append (.cons rv .nil), h2, by rw [hrr]; simp, by rw [List.length_append]; simp; omega⟩
      rw [ra.length]
      have := wk.size
      omega
  · -- the end
    have e0 : i = ds.length := by omega
    subst e0
    rw [List.drop_length] at hrest
    cases hrest
    rw [List.append_nil] at hrr
    subst hrr
    exact .inl ⟨wk.stop Fi Hi xi.grow xi.sub, w2 Fi Hi xi ⟨acc, fDi, hDi, ra⟩⟩
theorem imp_lc {W : WX} {cl : Nat → Value} {σ : St} {Q : VK} {g : G} {vs : List Nat} {rit : Env → R (List D)} {rt : Env → R Bool} {re : Env → R D} (hv : ∀ i ∈ slotsG g, i ∈ vs)
    (h : tN K W cl (fun e => do let ds ← rit e; let r ← (lcM ds (lcF g vs rt re e)).calm; .ok (.lst r)) σ H Q) :
    tLc (tIt K W cl rit) (gOf K g) (tT K W0 cl rt) (tE K W0 cl re) vs σ H Q := by
  obtain ⟨e, F, vr, w⟩ := h
  refine ⟨e, F, vr, w.bind.mono fun ds F1 H1 x1 w1 J wk D hD => ?_⟩
  cases hr : lcM ds (lcF g vs rt re e) with
  | bad => rw [hr] at w1; exact w1.elim
  | exc c => rw [hr] at w1; exact w1.elim
  | ok r =>
    rw [hr] at w1
    have w2 : Wp W cl (.ok (.lst r)) σ F1 H1 fun d F' H' => ∀ a, NewR K F' H' H a d → Q (.ref a) H' := w1
    have hD0 : H D = none := x1.same.free hD
    exact lc_walk hv (vr.mono x1) x1.sub wk hD hr fun F' H' x ⟨acc, a1, a2, a3⟩ => w2 F' H' x D ⟨hD0, a1, acc, a2, a3⟩
end
section
variable {X : Cx} {W : WX} {cl : Nat → Value} {elt tg iter : Expr} {ifs : List Expr} {scope : Scope} {own : List (Str × Nat)} {pos : Pos} {g : G} {rit : Env → R (List D)} {rt : Env → R Bool} {re : Env → R D}
theorem cn_lc (hc : X.calm = true) (hN : X.N.Nodup) (hi : PI X tg iter (tIt X.K W cl rit)) (ok : BlkOk X.N X.env.scope scope own) (hv : ∀ i ∈ slotsG g, i ∈ own.map (·.2))
    (hg : ∀ (s : Shared) (H : Hp) (C : Addr) (cl : List (Str × Addr)) (fp : List Addr), PG (X.blk s H scope (compEnvC scope cl C X.env) fp) tg (gOf X.K g))
    (ht : ∀ (s : Shared) (H : Hp) (C : Addr) (cs : List (Str × Addr)) (fp : List Addr), PTs (X.blk s H scope (compEnvC scope cs C X.env) fp) ifs (tT X.K W0 cl rt))
    (he : ∀ (s : Shared) (H : Hp) (C : Addr) (cs : List (Str × Addr)) (fp : List Addr), PE (X.blk s H scope (compEnvC scope cs C X.env) fp) elt (tE X.K W0 cl re)) (hs : ∀ x, foldedSetIterable iter X.env x = pure x) :
    PE X (.ListComp elt [⟨tg, iter, ifs, 0⟩] scope pos) (tN X.K W cl fun e => do let ds ← rit e; let r ← (lcM ds (lcF g (own.map (·.2)) rt re e)).calm; .ok (.lst r)) :=
  PE.imp (pe_lc hc hN hi ok hg ht he hs) fun σ H Q _ q => imp_lc hv q
end
end Pan

/-! Panestacks, part D7: list comprehensions of two clauses. -/
namespace Pan
open PySem PySem.Spec L2
open PyProof.Rows hiding St
section
variable {K : PySem.W.Frag} {F H F' H' : Hp}
def lcF2 (g : G) (vs : List Nat) (rt : Env → R Bool) (rit1 : Env → R (List D)) (g1 : G) (vs1 : List Nat) (rt1 : Env → R Bool) (re : Env → R D) (e : Env) : D → R (List D) := fun d => do
  let e1 ← asgG g d (wipeE e vs)
  let c ← rt e1
  if c then do let ds1 ← rit1 e1; lcM ds1 (lcF g1 vs1 rt1 re e1) else .ok []
theorem imp_lc2 {W : WX} {cl : Nat → Value} {σ : St} {Q : VK} {g g1 : G} {vs vs1 : List Nat} {rit rit1 : Env → R (List D)} {rt rt1 : Env → R Bool} {re : Env → R D} (hv : ∀ i ∈ slotsG g, i ∈ vs) (hv1 : ∀ i ∈ slotsG g1, i ∈ vs1)
    (h : tN K W cl (fun e => do let ds ← rit e; let r ← (lcM ds (lcF2 g vs rt rit1 g1 vs1 rt1 re e)).calm; fitL r .lst) σ H Q) :
    tLc2 (tIt K W cl rit) (gOf K g) (tT K W0 cl rt) (tIt K W0 cl rit1) (gOf K g1) (tT K W0 cl rt1) (tE K W0 cl re) vs vs1 σ H Q := by
  obtain ⟨e, F, vr, w⟩ := h
  refine ⟨e, F, vr, w.bind.mono fun ds F1 H1 x1 w1 J wk D hD => ?_⟩
  cases hr : lcM ds (lcF2 g vs rt rit1 g1 vs1 rt1 re e) with
  | bad => rw [hr] at w1; exact w1.elim
  | exc c => rw [hr] at w1; exact w1.elim
  | ok r =>
    rw [hr] at w1
    have w1' : Wp W cl (fitL r Pan.D.lst) σ F1 H1 fun d F' H' => ∀ a, NewR K F' H' H a d → Q (.ref a) H' := w1
    unfold fitL at w1'
    split at w1'
    case isFalse => exact w1'.elim
    rename_i hfit
    have w2 := w1'
    have hD0 : H D = none := x1.same.free hD
    refine ⟨fun i m Hi => i + m = ds.length ∧ ∃ Fi acc done rest, Ext F1 H1 Fi Hi ∧ Hi D = some (.lst acc) ∧ Fi D = none ∧ Rps K Fi acc done ∧ lcM (ds.drop i) (lcF2 g vs rt rit1 g1 vs1 rt1 re e) = .ok rest ∧ r = done ++ rest,
      ⟨ds.length, by omega, F1, [], [], r, Ext.made _ x1.sub hD, upd_same, x1.sub.none hD, .nil, hr, rfl⟩, fun i m Hi hW => ?_⟩
    obtain ⟨him, Fi, acc, done, rest, xi, hDi, fDi, ra, hrest, hrr⟩ := hW
    by_cases hi : i < ds.length
    · have hd : ds[i]? = some ds[i] := List.getElem?_eq_getElem hi
      have hdrop : ds.drop i = ds[i] :: ds.drop (i + 1) := List.drop_eq_getElem_cons hi
      rw [hdrop] at hrest
      obtain ⟨xs, rest', h1, h2, rfl⟩ := lcM_cons hrest
      obtain ⟨hgo, hy⟩ := wk.go i ds[i] hd Fi Hi xi.grow xi.sub
      refine .inr ⟨hgo, _, fun H' hN => ⟨m - 1, by omega, hN⟩, fun x H' y => ?_⟩
      obtain ⟨F2, x2, rx⟩ := hy x H' y
      unfold lcF2 at h1
      obtain ⟨e1, h3, h1⟩ := bind_eq_ok h1
      obtain ⟨c, h4, h1⟩ := bind_eq_ok h1
      have vr2 : VR K (wipeE e vs) (wipe σ vs) F2 H' := (((vr.mono x1).mono xi).mono x2).wipe vs
      have no1 : NoOwn D e σ := vr.noOwn hD0
      refine gOf_ok h3 rx vr2 fun σ2 vr3 hw hno => ⟨?_, e1, F2, vr3, ?_⟩
      · rw [hw vs hv]
        exact wipe_wipe
      rw [h4]
      intro F3 H3 x3
      have hD3 : H3 D = some (.lst acc) := x3.same _ _ (x2.same _ _ hDi)
      have fD2 : F2 D = none := x2.keepNone fDi hDi (by intro _ z; cases z)
      have fD3 : F3 D = none := x3.keepNone fD2 (x2.same _ _ hDi) (by intro _ z; cases z)
      have ra3 : Rps K F3 acc done := (ra.mono x2.grow).mono x3.grow
      have xi3 := (xi.trans x2).trans x3
      have vr4 := vr3.mono x3
      have no2 : NoOwn D e1 σ2 := hno D (no1.wipe vr.len vs).1
      cases c with
      | false =>
        refine iteF ?_
        cases h1
        exact ⟨by omega, F3, acc, done, rest', xi3, hD3, fD3, ra3, h2, by rw [hrr]; rfl⟩
      | true =>
        refine iteT ⟨e1, F3, vr4, ?_⟩
        obtain ⟨ds1, h5, h1⟩ := bind_eq_ok h1
        rw [h5]
        intro F4 H4 x4 J1 wk1
        have hD4 : H4 D = some (.lst acc) := x4.same _ _ hD3
        have fD4 : F4 D = none := x4.keepNone fD3 hD3 (by intro _ z; cases z)
        refine ⟨fun j k Hj => j + k = ds1.length ∧ ∃ Fj acc done rest1, Ext F1 H1 Fj Hj ∧ Same F4 Fj ∧ VR K e1 σ2 Fj Hj ∧ Hj D = some (.lst acc) ∧ Fj D = none ∧ Rps K Fj acc done ∧ lcM (ds1.drop j) (lcF g1 vs1 rt1 re e1) = .ok rest1 ∧ r = done ++ rest1 ++ rest',
          ⟨ds1.length, by omega, F4, acc, done, xs, xi3.trans x4, Same.refl _, vr4.mono x4, hD4, fD4, ra3.mono x4.grow, h1, by rw [hrr, List.append_assoc]⟩, fun j k Hj hW1 => ?_⟩
        obtain ⟨hjk, Fj, acc1, done1, rest1, xj, sj, vrj, hDj, fDj, raj, hrest1, hrr1⟩ := hW1
        by_cases hj : j < ds1.length
        · have hd1 : ds1[j]? = some ds1[j] := List.getElem?_eq_getElem hj
          have hdrop1 : ds1.drop j = ds1[j] :: ds1.drop (j + 1) := List.drop_eq_getElem_cons hj
          rw [hdrop1] at hrest1
          obtain ⟨ys, rest1', k1, k2, rfl⟩ := lcM_cons hrest1
          obtain ⟨hgo1, hy1⟩ := wk1.go j ds1[j] hd1 Fj Hj sj xj.sub
          refine .inr ⟨hgo1, _, fun H' hN => ⟨k - 1, by omega, hN⟩, fun x' H5 y' => ?_⟩
          obtain ⟨F5, x5, rx5⟩ := hy1 x' H5 y'
          unfold lcF at k1
          obtain ⟨e2, k3, k1⟩ := bind_eq_ok k1
          obtain ⟨c1, k4, k1⟩ := bind_eq_ok k1
          have vr5 : VR K (wipeE e1 vs1) (wipe σ2 vs1) F5 H5 := (vrj.mono x5).wipe vs1
          refine gOf_ok k3 rx5 vr5 fun σ3 vr6 hw1 _ => ⟨?_, e2, F5, vr6, ?_⟩
          · rw [hw1 vs1 hv1]
            exact wipe_wipe
          rw [k4]
          intro F6 H6 x6
          have hD6 : H6 D = some (.lst acc1) := x6.same _ _ (x5.same _ _ hDj)
          have fD5 : F5 D = none := x5.keepNone fDj hDj (by intro _ z; cases z)
          have fD6 : F6 D = none := x6.keepNone fD5 (x5.same _ _ hDj) (by intro _ z; cases z)
          cases c1 with
          | false =>
            refine iteF ?_
            cases k1
            exact ⟨by omega, F6, acc1, done1, rest1', (xj.trans x5).trans x6, (sj.trans x5.grow).trans x6.grow, (vrj.mono x5).mono x6, hD6, fD6, (raj.mono x5.grow).mono x6.grow, k2, by rw [hrr1]; rfl⟩
          | true =>
            refine iteT ⟨e2, F6, vr6.mono x6, ?_⟩
            obtain ⟨z, k5, k1⟩ := bind_eq_ok k1
            cases k1
            rw [k5]
            intro F7 H7 x7 v rv
            have hD7 : H7 D = some (.lst acc1) := x7.same _ _ hD6
            have fD7 : F7 D = none := x7.keepNone fD6 hD6 (by intro _ z; cases z)
            have raF : Rps K F7 acc1 done1 := ((raj.mono x5.grow).mono x6.grow).mono x7.grow
            have xF := (((xj.trans x5).trans x6).trans x7)
            refine ⟨acc1, hD7, ?_, by omega, F7, acc1 ++ [v], done1 ++ [z], rest1', xF.poke hD fD7, ((sj.trans x5.grow).trans x6.grow).trans x7.grow, ?_, upd_same, fD7, raF.append (.cons rv .nil), k2, by rw [hrr1]; simp⟩
            · rw [raF.length]
              have := congrArg List.length hrr1
              simp only [List.length_append, List.length_cons, List.length_nil] at this
              omega
            · exact (((vrj.mono x5).mono x6).mono x7).poke no2 fD7
        · have e0 : j = ds1.length := by omega
          subst e0
          rw [List.drop_length] at hrest1
          cases hrest1
          rw [List.append_nil] at hrr1
          exact .inl ⟨wk1.stop Fj Hj sj xj.sub, by omega, Fj, acc1, done1, rest', xj, hDj, fDj, raj, h2, hrr1⟩
    · have e0 : i = ds.length := by omega
      subst e0
      rw [List.drop_length] at hrest
      cases hrest
      rw [List.append_nil] at hrr
      subst hrr
      exact .inl ⟨wk.stop Fi Hi xi.grow xi.sub, w2 Fi Hi xi D ⟨hD0, fDi, acc, hDi, ra⟩⟩
end
section
variable {X : Cx} {W : WX} {cl : Nat → Value} {elt tg iter tg1 iter1 : Expr} {ifs ifs1 : List Expr} {scope : Scope} {own : List (Str × Nat)} {vs1 : List Nat} {pos : Pos} {g g1 : G} {rit rit1 : Env → R (List D)} {rt rt1 : Env → R Bool} {re : Env → R D}
theorem cn_lc2 (hc : X.calm = true) (hN : X.N.Nodup) (hi : PI X tg iter (tIt X.K W cl rit)) (ok : BlkOk X.N X.env.scope scope own) (hw : ∀ i ∈ vs1, i ∈ own.map (·.2)) (hv : ∀ i ∈ slotsG g, i ∈ own.map (·.2)) (hv1 : ∀ i ∈ slotsG g1, i ∈ vs1)
    (hg : ∀ (s : Shared) (H : Hp) (C : Addr) (cl : List (Str × Addr)) (fp : List Addr), PG (X.blk s H scope (compEnvC scope cl C X.env) fp) tg (gOf X.K g))
    (ht : ∀ (s : Shared) (H : Hp) (C : Addr) (cs : List (Str × Addr)) (fp : List Addr), PTs (X.blk s H scope (compEnvC scope cs C X.env) fp) ifs (tT X.K W0 cl rt))
    (hi1 : ∀ (s : Shared) (H : Hp) (C : Addr) (cs : List (Str × Addr)) (fp : List Addr), PI (X.blk s H scope (compEnvC scope cs C X.env) fp) tg1 iter1 (tIt X.K W0 cl rit1))
    (hg1 : ∀ (s : Shared) (H : Hp) (C : Addr) (cl : List (Str × Addr)) (fp : List Addr), PG (X.blk s H scope (compEnvC scope cl C X.env) fp) tg1 (gOf X.K g1))
    (ht1 : ∀ (s : Shared) (H : Hp) (C : Addr) (cs : List (Str × Addr)) (fp : List Addr), PTs (X.blk s H scope (compEnvC scope cs C X.env) fp) ifs1 (tT X.K W0 cl rt1))
    (he : ∀ (s : Shared) (H : Hp) (C : Addr) (cs : List (Str × Addr)) (fp : List Addr), PE (X.blk s H scope (compEnvC scope cs C X.env) fp) elt (tE X.K W0 cl re)) (hs : ∀ x, foldedSetIterable iter X.env x = pure x) (hs1 : ∀ env x, foldedSetIterable iter1 env x = pure x) :
    PE X (.ListComp elt [⟨tg, iter, ifs, 0⟩, ⟨tg1, iter1, ifs1, 0⟩] scope pos) (tN X.K W cl fun e => do let ds ← rit e; let r ← (lcM ds (lcF2 g (own.map (·.2)) rt rit1 g1 vs1 rt1 re e)).calm; fitL r .lst) :=
  PE.imp (pe_lc2 hc hN hi ok hw hg ht hi1 hg1 ht1 he hs hs1) fun σ H Q _ q => imp_lc2 hv hv1 q
end
end Pan

/-! Panestacks, part D8: index and count of lists and tuples. -/
namespace Pan
open PySem PySem.Spec L2
open PyProof.Rows hiding St
section
variable {X : Cx}
/-- the sequence at a reads as ds: what its items are -/
structure SeqRd (s : Shared) (its : List Value) (ds : List PyData) : Prop where
  lay : PyData.canLayAll0 ds = true
  len : its.length = ds.length
  map : its.map (SeqAt.readOf s.heap) = ds
theorem SeqRd.at {s : Shared} {its : List Value} {ds : List PyData} (q : SeqRd s its ds) (m : Nat) (hm : m < its.toArray.size) : ds[m]? = some (SeqAt.readOf s.heap its.toArray[m]) := by
  have hml : m < its.length := by simpa using hm
  rw [← q.map, List.getElem?_map, List.getElem?_eq_getElem hml]
  simp
def rTIndex (K : PySem.W.Frag) : V → List V → Hp → VK → Prop := fun x xs H Q => ∃ (y : V) (d : PyData) (ds : List PyData) (j : Nat), xs = [y] ∧ Dp K H x (.tuple ds) ∧ Dp K H y d ∧ SeqAt.shaped (.tuple ds) = true ∧ SeqAt.shaped d = true ∧
  ds.findIdx? (fun z => PyData.eqv z d) = some j ∧ Q (.int (j : Nat)) H
theorem mt_tindex (hu : X.A.units + 65 < cLine) : MtR X "tuple.index" (rTIndex X.K) := by
  intro pins s σ H x xs v us Q I rx rxs h
  obtain ⟨y, d, ds, j, rfl, hx, hy, sx, sd, hj, q⟩ := h
  cases hx with
  | tup hs ha =>
    cases rx
    obtain ⟨u, rfl, ru⟩ := vals1 rxs
    obtain ⟨bs, r1⟩ := Dp.reads I d y u hy ru
    have lay : PyData.canLayAll0 ds = true := SeqAt.canLay_of_shaped sx
    have room : X.A.units + 1 + min (PyData.depthAll ds) d.depth < cLine := room_in_shaped sd hu
    obtain ⟨its, rv, ⟨⟨cls, dd, data, sls⟩, ho, hc, n, hdt⟩, hlen⟩ := I.tuple hs
    simp only at hc hdt
    subst hc hdt
    obtain ⟨as, h4⟩ := Dp.readsAll I ds _ its ha rv
    have rd : SeqRd s its ds := ⟨lay, SeqAt.ReadsAll.length ds its as h4, SeqAt.readsAll_map ds its as lay h4⟩
    obtain ⟨hjd, hjt, hjf⟩ := List.findIdx?_eq_some_iff_getElem.mp hj
    have hjs : j < its.toArray.size := by simpa [rd.len] using hjd
    refine call_meets PySem.F.slot_tuple_index ⟨_, ho, rfl⟩ PySem.F.entry_tuple_index (PySem.F.args_tuple_index_2 _ _)
      (TI.tuple_indexAt _ its.toArray n dd sls u (fun z => PyData.eqv (SeqAt.readOf s.heap z) d) j hjs ?_ ?_)
      ⟨ho, SeqAt.items_eqAt (vs := its.toArray) (show ReadsAll s.heap its.toArray.toList ds as from h4) r1 lay (SeqAt.canLay_of_shaped sd) room, ⟨.int (j : Nat), H, I.tok _, ⟨_, rfl⟩, q⟩⟩
    · have e := rd.at j hjs
      rw [List.getElem?_eq_getElem hjd] at e
      show PyData.eqv (SeqAt.readOf s.heap its.toArray[j]) d = true
      rw [← Option.some.inj e]
      exact hjt
    · intro m hm hmj
      have hmd : m < ds.length := by omega
      have e := rd.at m hm
      rw [List.getElem?_eq_getElem hmd] at e
      show PyData.eqv (SeqAt.readOf s.heap its.toArray[m]) d = false
      rw [← Option.some.inj e]
      simpa using hjf m hmj
def rLCount (K : PySem.W.Frag) : V → List V → Hp → VK → Prop := fun x xs H Q => ∃ (y : V) (d : PyData) (ds : List PyData), xs = [y] ∧ Dp K H x (.list ds) ∧ Dp K H y d ∧ SeqAt.shaped (.list ds) = true ∧ SeqAt.shaped d = true ∧
  Q (.int (ds.countP (fun z => PyData.eqv z d) : Nat)) H
theorem mt_count (hu : X.A.units + 65 < cLine) : MtR X "list.count" (rLCount X.K) := by
  intro pins s σ H x xs v us Q I rx rxs h
  obtain ⟨y, d, ds, rfl, hx, hy, sx, sd, q⟩ := h
  cases hx with
  | lst hs ha =>
    cases rx
    obtain ⟨u, rfl, ru⟩ := vals1 rxs
    obtain ⟨bs, r1⟩ := Dp.reads I d y u hy ru
    have lay : PyData.canLayAll0 ds = true := SeqAt.canLay_of_shaped sx
    have room : X.A.units + 1 + min (PyData.depthAll ds) d.depth < cLine := room_in_shaped sd hu
    obtain ⟨its, rv, ⟨⟨cls, dd, data, sls⟩, n, ho, hc, hdn, hdt⟩, hlen⟩ := I.list hs
    simp only at hc hdt
    subst hc hdt
    obtain ⟨as, h4⟩ := Dp.readsAll I ds _ its ha rv
    have rd : SeqRd s its ds := ⟨lay, SeqAt.ReadsAll.length ds its as h4, SeqAt.readsAll_map ds its as lay h4⟩
    refine call_meets PySem.F.slot_list_count ⟨_, ho, rfl⟩ PySem.F.entry_list_count (PySem.F.args_list_count_2 _ _)
      (SeqAt.list_countAt _ its.toArray n dd sls u (fun z => PyData.eqv (SeqAt.readOf s.heap z) d))
      ⟨ho, SeqAt.items_eqAt (vs := its.toArray) (show ReadsAll s.heap its.toArray.toList ds as from h4) r1 lay (SeqAt.canLay_of_shaped sd) room, ?_⟩
    have ec : its.toArray.toList.countP (fun z => PyData.eqv (SeqAt.readOf s.heap z) d) = ds.countP (fun z => PyData.eqv z d) := by
      show its.countP _ = _
      conv => rhs; rw [← rd.map]
      rw [List.countP_map]
      rfl
    refine ⟨.int (ds.countP (fun z => PyData.eqv z d) : Nat), H, I.tok _, ⟨s.toks, ?_⟩, q⟩
    rw [← ec]
end
theorem find_py (n : Nat) {d : D} (h : okd n d = true) : ∀ (ds : List D), ds.all (okd n) = true → ((toPys ds).findIdx? fun z => PyData.eqv z (toPy d)) = ds.findIdx? (eqv · d)
  | [], _ => by rw [toPys]; rfl
  | e :: r, z => by
    rw [List.all_cons, Bool.and_eq_true] at z
    rw [toPys, List.findIdx?_cons, List.findIdx?_cons, find_py n h r z.2, eqv_py n e d z.1 h]
theorem count_py (n : Nat) {d : D} (h : okd n d = true) : ∀ (ds : List D), ds.all (okd n) = true → ((toPys ds).countP fun z => PyData.eqv z (toPy d)) = ds.countP (eqv · d)
  | [], _ => by rw [toPys]; rfl
  | e :: r, z => by
    rw [List.all_cons, Bool.and_eq_true] at z
    rw [toPys, List.countP_cons, List.countP_cons, count_py n h r z.2, eqv_py n e d z.1 h]
theorem toPys_len : ∀ ds : List D, (toPys ds).length = ds.length
  | [] => by rw [toPys]; rfl
  | _ :: r => by rw [toPys, List.length_cons, List.length_cons, toPys_len r]
/-- a receiver that is no call -/
def noCall : Expr → Bool
  | .Call .. => false
  | _ => true
theorem base_of {o : Expr} {nm : Str} {env : PySem.Env} {wh : Sem Value} (h : noCall o = true) : attributeBase o nm env wh = wh := by
  cases o <;> first | rfl | cases h
theorem mtS_noexc {m : Mt} {x : D} {xs : List D} {c : Nat} : mtS m x xs ≠ .exc c := by
  unfold mtS
  split <;> (try simp) <;> (try split) <;> (try simp) <;> (try split) <;> simp
section
variable {X : Cx} {W : WX} {cl : Nat → Value} {o a : Expr} {ro ra : Env → R D} {ap cp : Pos}
theorem few1 (hs : starEach [a] X.env = (false, eval a X.env) :: starEach [] X.env) : ((backTo cp (starEach [a] X.env)).all (fun x => !x.1) && (backToKw cp (keywordEach [] X.env)).all (fun x => x.1.isSome)
      && decide (([a] : List Expr).length + ([] : List Keyword).length + (if ([] : List Keyword).isEmpty then 0 else 1) < 30)) = true := by
  rw [hs]
  rfl
/-- a method of a tuple -/
def tBMT (r : V → List V → Hp → VK → Prop) (to : TE) (t : TA) : TE := fun σ H Q => to σ H fun x H1 => (∃ p xs, x = .ref p ∧ IsT H1 p xs) ∧ t σ H1 fun ys H2 => r x ys H2 Q
theorem pe_bmT {nm : Str} {id : String} {r : V → List V → Hp → VK → Prop} {to : TE} {t : TA} {es : List Expr} (slot : PySem.Slot "tuple" nm id) (hty : typeOf (.builtin id) = pure (.type "method_descriptor")) (hm : MtR X id r) (ho : PE X o to) (ha : PA X (a :: es) t)
    (hbase : attributeBase o nm X.env (eval o X.env) = eval o X.env)
    (hfew : ((backTo cp (starEach (a :: es) X.env)).all (fun x => !x.1) && (backToKw cp (keywordEach [] X.env)).all (fun x => x.1.isSome)
      && decide ((a :: es).length + ([] : List Keyword).length + (if ([] : List Keyword).isEmpty then 0 else 1) < 30)) = true)
    (hline : (ap.endLine == cp.line) = true) (hs : starEach (a :: es) X.env = (false, eval a X.env) :: starEach es X.env) (hplain : (backTo cp (starEach es X.env)).any (·.1) = false) :
    PE X (.Call (.Attribute o nm ap) (a :: es) [] cp) (tBMT r to t) := by
  refine ⟨fun pins s σ H Q I h => ?_⟩
  refine wpAny_Call_method_late hbase hfew hline rfl (thn (ho.run pins s σ H _ I h) fun v s1 ⟨x, H1, I1, r1, ⟨p, xs, ex, ty⟩, q1⟩ => ?_)
  subst ex
  cases (show v = Value.ref p from r1)
  obtain ⟨o, hd, e⟩ := ty
  obtain ⟨e1, _, its, _, o2, e2, hc, _⟩ := (show ObjOk X.prog X.w H1 s1.heap p (.frz o (.tup xs)) from I1.hok p _ e)
  refine ⟨"tuple", id, PySem.F.plainAttrs_tuple, slot, hty, ⟨o2, e2, hc⟩, fun b eb => ?_, ?_⟩
  · cases eb
    exact ⟨o, e1, hd⟩
  · have hA := ha.run cp pins s1 σ H1 _ I1 q1
    rw [hs] at hA ⊢
    refine Calls.callWith_builtin (by show (false || (backTo cp (starEach es X.env)).any (·.1)) = false; rw [hplain]; rfl) (Calls.evalArgs_plain ?_)
    exact thn hA fun us s2 ⟨vs, H2, I2, r2, q2⟩ => hm pins s2 σ H2 (.ref p) vs (.ref p) us Q I2 rfl r2 q2
theorem ce_index (hu : X.A.units + 65 < cLine) (hb : noCall o = true) (hl : (ap.endLine == cp.line) = true) (hs : starEach [a] X.env = (false, eval a X.env) :: starEach [] X.env) (ho : PE X o (tW X.K W cl ro)) (ha : PE X a (tE X.K W cl ra)) :
    PE X (.Call (.Attribute o "index" ap) [a] [] cp) (tE X.K W cl fun e => do let x ← ro e; if mtOk .index x then do let y ← ra e; mtS .index x [y] else .bad) := by
  refine PE.imp (PE.or (pe_bm PySem.F.plainAttrs_list PySem.F.slot_list_index PySem.F.type_list_index (mt_indexD hu) ho (pa_cons ha pa_nil hs) (base_of hb) (few1 hs) hl hs rfl)
    (pe_bmT PySem.F.slot_tuple_index PySem.F.type_tuple_index (mt_tindex hu) ho (pa_cons ha pa_nil hs) (base_of hb) (few1 hs) hl hs rfl)) fun σ H Q _ q => ?_
  obtain ⟨e, F, vr, w⟩ := q
  dsimp only at w
  cases hx : ro e with
  | bad => rw [hx] at w; exact w.elim
  | exc c => rw [hx] at w; exact .inl ⟨e, F, vr, by rw [hx]; exact w⟩
  | ok x =>
    rw [hx] at w
    have w0 : Wp W cl (if mtOk .index x then (ra e >>= fun y => mtS .index x [y]) else .bad) σ F H fun d F' H' => ∀ v, Rp X.K F' v d → Q v H' := w
    cases x with
    | lst ds =>
      have w1 : Wp W cl (ra e >>= fun y => mtS .index (.lst ds) [y]) σ F H fun d F' H' => ∀ v, Rp X.K F' v d → Q v H' := w0
      have main : ∀ {F1 H1 : Hp}, Ext F H F1 H1 → Wp W cl (ra e) σ F1 H1 fun y F2 H2 => Wp W cl (mtS .index (.lst ds) [y]) σ F2 H2 fun d F' H' => ∀ v, Rp X.K F' v d → Q v H' := fun x1 => (w1.step x1).bind
      refine .inl ⟨e, F, vr, ?_⟩
      rw [hx]
      intro F1 H1 x1 vx G sg rx
      cases rx with
      | lst eb r =>
        refine ⟨.inl ⟨rfl, _, SqL.of (sg.lst eb)⟩, e, F1, vr.mono x1, (main x1).mono fun y F2 H2 x2 w2 vy ry => ?_⟩
        simp only [mtS] at w2
        split at w2
        · rename_i hk
          rw [Bool.and_eq_true] at hk
          have w3 := w2
          split at w3
          · rename_i j hj
            have sg2 := sg.same x2.same
            have hj' : (toPys ds).findIdx? (fun z => PyData.eqv z (toPy y)) = some j := by rw [find_py 4 hk.1 ds hk.2]; exact hj
            obtain ⟨hjd, hjt, hjf⟩ := List.findIdx?_eq_some_iff_getElem.mp hj'
            have dl := (Rp.lst eb r).dp (K := X.K) sg2 5 (by rw [okd]; exact hk.2)
            rw [toPy] at dl
            have sh := okd_shaped (n := 5) (d := .lst ds) (by decide) (by rw [okd]; exact hk.2)
            rw [toPy] at sh
            refine ⟨_, vy, toPy y, toPys ds, j, (toPys ds)[j], rfl, rfl, dl, ry.dp x2.sub 4 hk.1, sh, okd_shaped (by decide) hk.1, List.getElem?_eq_getElem hjd, hjt, fun m z' hm hz' => ?_, w3.now x2.sub _ (.int _)⟩
            obtain ⟨hml, e1⟩ := List.getElem?_eq_some_iff.mp hz'
            rw [← e1]
            simpa using hjf m hm
          · exact w3.elim
        · exact w2.elim
    | tup ds =>
      have w1 : Wp W cl (ra e >>= fun y => mtS .index (.tup ds) [y]) σ F H fun d F' H' => ∀ v, Rp X.K F' v d → Q v H' := w0
      have main : ∀ {F1 H1 : Hp}, Ext F H F1 H1 → Wp W cl (ra e) σ F1 H1 fun y F2 H2 => Wp W cl (mtS .index (.tup ds) [y]) σ F2 H2 fun d F' H' => ∀ v, Rp X.K F' v d → Q v H' := fun x1 => (w1.step x1).bind
      refine .inr ⟨e, F, vr, ?_⟩
      rw [hx]
      intro F1 H1 x1 vx G sg rx
      cases rx with
      | tup eb r =>
        refine ⟨⟨_, _, rfl, sg.tup eb⟩, e, F1, vr.mono x1, (main x1).mono fun y F2 H2 x2 w2 vy ry => ?_⟩
        simp only [mtS] at w2
        split at w2
        · rename_i hk
          rw [Bool.and_eq_true] at hk
          have w3 := w2
          split at w3
          · rename_i j hj
            have sg2 := sg.same x2.same
            have dl := (Rp.tup eb r).dp (K := X.K) sg2 5 (by rw [okd]; exact hk.2)
            rw [toPy] at dl
            have sh := okd_shaped (n := 5) (d := .tup ds) (by decide) (by rw [okd]; exact hk.2)
            rw [toPy] at sh
            exact ⟨vy, toPy y, toPys ds, j, rfl, dl, ry.dp x2.sub 4 hk.1, sh, okd_shaped (by decide) hk.1, by rw [find_py 4 hk.1 ds hk.2]; exact hj, w3.now x2.sub _ (.int _)⟩
          · exact w3.elim
        · exact w2.elim
    | _ => exact w0.elim
theorem ce_count (hu : X.A.units + 65 < cLine) (hb : noCall o = true) (hl : (ap.endLine == cp.line) = true) (hs : starEach [a] X.env = (false, eval a X.env) :: starEach [] X.env) (ho : PE X o (tW X.K W cl ro)) (ha : PE X a (tE X.K W cl ra)) :
    PE X (.Call (.Attribute o "count" ap) [a] [] cp) (tE X.K W cl fun e => do let x ← ro e; if mtOk .count x then do let y ← ra e; mtS .count x [y] else .bad) := by
  refine PE.imp (pe_bm PySem.F.plainAttrs_list PySem.F.slot_list_count PySem.F.type_list_count (mt_count hu) ho (pa_cons ha pa_nil hs) (base_of hb) (few1 hs) hl hs rfl) fun σ H Q _ q => ?_
  obtain ⟨e, F, vr, w⟩ := q
  dsimp only at w
  cases hx : ro e with
  | bad => rw [hx] at w; exact w.elim
  | exc c => rw [hx] at w; exact ⟨e, F, vr, by rw [hx]; exact w⟩
  | ok x =>
    rw [hx] at w
    have w0 : Wp W cl (if mtOk .count x then (ra e >>= fun y => mtS .count x [y]) else .bad) σ F H fun d F' H' => ∀ v, Rp X.K F' v d → Q v H' := w
    cases x with
    | lst ds =>
      have w1 : Wp W cl (ra e >>= fun y => mtS .count (.lst ds) [y]) σ F H fun d F' H' => ∀ v, Rp X.K F' v d → Q v H' := w0
      refine ⟨e, F, vr, ?_⟩
      rw [hx]
      intro F1 H1 x1 vx G sg rx
      cases rx with
      | lst eb r =>
        refine ⟨.inl ⟨rfl, _, SqL.of (sg.lst eb)⟩, e, F1, vr.mono x1, ((w1.step x1).bind).mono fun y F2 H2 x2 w2 vy ry => ?_⟩
        simp only [mtS] at w2
        split at w2
        · rename_i hk
          rw [Bool.and_eq_true] at hk
          have sg2 := sg.same x2.same
          have dl := (Rp.lst eb r).dp (K := X.K) sg2 5 (by rw [okd]; exact hk.2)
          rw [toPy] at dl
          have sh := okd_shaped (n := 5) (d := .lst ds) (by decide) (by rw [okd]; exact hk.2)
          rw [toPy] at sh
          refine ⟨vy, toPy y, toPys ds, rfl, dl, ry.dp x2.sub 4 hk.1, sh, okd_shaped (by decide) hk.1, ?_⟩
          rw [count_py 4 hk.1 ds hk.2]
          exact w2.now x2.sub _ (.int _)
        · exact w2.elim
    | _ => exact w0.elim
end
end Pan

/-! Panestacks, part S1: sorted, of ints and of tuples of ints, from a list, a tuple or a dict. -/
namespace Pan
open PySem PySem.Spec L2
open PyProof.Rows hiding St
/-! ### the order -/
theorem lx_irr : ∀ a : List Int, HT.lexLt a a = false
  | [] => rfl
  | x :: xs => by rw [HT.lexLt_cons, if_pos rfl]; exact lx_irr xs
theorem lx_asym : ∀ a b : List Int, HT.lexLt a b = true → HT.lexLt b a = false
  | [], [], h => by cases h
  | [], _ :: _, _ => rfl
  | _ :: _, [], h => by cases h
  | x :: xs, y :: ys, h => by
    rw [HT.lexLt_cons] at h ⊢
    by_cases e : x = y
    · rw [if_pos e] at h; rw [if_pos e.symm]; exact lx_asym xs ys h
    · rw [if_neg e] at h; rw [if_neg (fun z => e z.symm)]
      have := of_decide_eq_true h
      exact decide_eq_false (by omega)
theorem lx_tr : ∀ a b c : List Int, HT.lexLt b a = false → HT.lexLt c b = false → HT.lexLt c a = false
  | a, b, [], h1, h2 => by
    cases a with
    | nil => rfl
    | cons x xs =>
      cases b with
      | nil => cases h1
      | cons y ys => cases h2
  | [], b, z :: zs, h1, h2 => rfl
  | x :: xs, [], z :: zs, h1, h2 => by cases h1
  | x :: xs, y :: ys, z :: zs, h1, h2 => by
    rw [HT.lexLt_cons] at h1 h2 ⊢
    by_cases e1 : y = x
    · rw [if_pos e1] at h1
      subst e1
      by_cases e2 : z = y
      · rw [if_pos e2] at h2 ⊢
        exact lx_tr xs ys zs h1 h2
      · rw [if_neg e2] at h2 ⊢
        exact h2
    · rw [if_neg e1] at h1
      have i1 := of_decide_eq_false h1
      by_cases e2 : z = y
      · subst e2
        rw [if_neg e1]
        exact h1
      · rw [if_neg e2] at h2
        have i2 := of_decide_eq_false h2
        rw [if_neg (by omega)]
        exact decide_eq_false (by omega)
theorem lx_anti : ∀ a b : List Int, HT.lexLt a b = false → HT.lexLt b a = false → a = b
  | [], [], _, _ => rfl
  | [], _ :: _, h, _ => by cases h
  | _ :: _, [], _, h => by cases h
  | x :: xs, y :: ys, h1, h2 => by
    rw [HT.lexLt_cons] at h1 h2
    by_cases e : x = y
    · subst e
      rw [if_pos rfl] at h1 h2
      rw [lx_anti xs ys h1 h2]
    · rw [if_neg e] at h1
      rw [if_neg (fun z => e z.symm)] at h2
      have := of_decide_eq_false h1
      have := of_decide_eq_false h2
      omega
theorem swo_lx {α : Type} (k : α → List Int) : SrtO.Swo fun x y => HT.lexLt (k x) (k y) := ⟨fun x y => lx_asym (k x) (k y), fun x y z => lx_tr (k x) (k y) (k z)⟩
abbrev ltD (d e : D) : Bool := HT.lexLt (kL d) (kL e)
theorem insD_perm (d : D) : ∀ l : List D, (insD d l).Perm (d :: l)
  | [] => .refl _
  | e :: r => by
    unfold insD
    split
    · exact .refl _
    · exact ((insD_perm d r).cons e).trans (.swap ..)
theorem insD_srt (d : D) : ∀ {l : List D}, SrtO.Srtd ltD l → SrtO.Srtd ltD (insD d l)
  | [], _ => List.pairwise_singleton _ _
  | e :: r, h => by
    unfold insD
    have h' := List.pairwise_cons.mp h
    split
    · rename_i q
      refine List.pairwise_cons.mpr ⟨fun x hx => ?_, h⟩
      rcases List.mem_cons.mp hx with rfl | hx
      · exact lx_asym _ _ q
      · exact lx_tr _ _ _ (lx_asym _ _ q) (h'.1 x hx)
    · rename_i q
      refine List.pairwise_cons.mpr ⟨fun x hx => ?_, insD_srt d h'.2⟩
      rcases List.mem_cons.mp ((insD_perm d r).mem_iff.mp hx) with rfl | hx
      · exact Bool.eq_false_iff.mpr q
      · exact h'.1 x hx
theorem sortF_spec : ∀ (l acc : List D), SrtO.Srtd ltD acc → (l.foldl (fun acc d => insD d acc) acc).Perm (acc ++ l) ∧ SrtO.Srtd ltD (l.foldl (fun acc d => insD d acc) acc)
  | [], acc, h => ⟨by rw [List.append_nil]; exact .refl _, h⟩
  | d :: l, acc, h => by
    obtain ⟨p, s⟩ := sortF_spec l (insD d acc) (insD_srt d h)
    refine ⟨p.trans (((insD_perm d acc).append_right l).trans ?_), s⟩
    exact (List.perm_middle (a := d) (l₁ := acc) (l₂ := l)).symm
theorem sortD_perm (l : List D) : (sortD l).Perm l := (sortF_spec l [] List.Pairwise.nil).1
theorem sortD_srt (l : List D) : SrtO.Srtd ltD (sortD l) := (sortF_spec l [] List.Pairwise.nil).2
theorem srt_uniq {α : Type} {lt : α → α → Bool} (O : SrtO.Swo lt) : ∀ {l m : List α}, SrtO.Srtd lt l → SrtO.Srtd lt m → l.Perm m → (∀ x ∈ l, ∀ y ∈ l, lt x y = false → lt y x = false → x = y) → l = m
  | [], m, _, _, h, _ => (List.Perm.eq_nil h.symm).symm
  | x :: l, [], _, _, h, _ => absurd h.length_eq (by simp)
  | x :: l, y :: m, hl, hm, h, inj => by
    have hy := h.mem_iff.mpr (List.mem_cons_self (a := y) (l := m))
    have q1 : lt x y = false := by
      rcases List.mem_cons.mp (h.mem_iff.mp (List.mem_cons_self (a := x) (l := l))) with e | hx
      · rw [e]; exact O.refl y
      · exact SrtO.srtd_head hm x hx
    have q2 : lt y x = false := by
      rcases List.mem_cons.mp hy with e | hy
      · rw [e]; exact O.refl x
      · exact SrtO.srtd_head hl y hy
    have e := inj x List.mem_cons_self y hy q1 q2
    subst e
    rw [srt_uniq O (List.pairwise_cons.mp hl).2 (List.pairwise_cons.mp hm).2 h.cons_inv fun a ha b hb => inj a (List.mem_cons_of_mem _ ha) b (List.mem_cons_of_mem _ hb)]
theorem intsOf_eq : ∀ {xs : List D} {ns : List Int}, intsOf xs = some ns → xs = ns.map .int
  | [], ns, h => by cases h; rfl
  | x :: xs, ns, h => by
    cases x <;> simp only [intsOf] at h <;> try cases h
    cases q : intsOf xs with
    | none => rw [q] at h; cases h
    | some ms => rw [q] at h; cases h; rw [intsOf_eq q]; rfl
theorem intsOf_all : ∀ {xs : List D}, xs.all isIntD = true → ∃ ns, intsOf xs = some ns
  | [], _ => ⟨[], rfl⟩
  | x :: xs, h => by
    rw [List.all_cons, Bool.and_eq_true] at h
    obtain ⟨ns, e⟩ := intsOf_all h.2
    cases x with
    | int i => exact ⟨i :: ns, by simp only [intsOf, e, Option.map_some]⟩
    | _ => exact absurd h.1 Bool.false_ne_true
theorem isTupI_of {d : D} (h : isTupI d = true) : ∃ n ns, d = .tup ((n :: ns).map .int) ∧ kL d = n :: ns := by
  cases d with
  | tup xs =>
    simp only [isTupI, Bool.and_eq_true] at h
    obtain ⟨ns, e⟩ := intsOf_all h.2
    cases ns with
    | nil => rw [intsOf_eq e] at h; exact absurd h.1 (by simp)
    | cons n ns =>
      refine ⟨n, ns, by rw [intsOf_eq e], ?_⟩
      rw [intsOf_eq e]
      have e2 : intsOf ((n :: ns).map D.int) = some (n :: ns) := by rw [← intsOf_eq e]; exact e
      cases ns with
      | nil => simp only [List.map_cons, List.map_nil, kL] at e2 ⊢; rw [e2]; rfl
      | cons m ms => simp only [List.map_cons, kL] at e2 ⊢; rw [e2]; rfl
  | _ => exact absurd h Bool.false_ne_true
theorem isIntD_of {d : D} (h : isIntD d = true) : ∃ n, d = .int n := by
  cases d with
  | int i => exact ⟨_, rfl⟩
  | _ => exact absurd h Bool.false_ne_true
theorem isTupN_of {d : D} (h : isTupN d = true) : ∃ n ns, d = .tup [.int n, .tup (ns.map .int)] ∧ kL d = n :: ns := by
  unfold isTupN at h
  split at h
  · rename_i n xs
    obtain ⟨ns, e⟩ := intsOf_all h
    exact ⟨n, ns, by rw [intsOf_eq e], by simp only [kL, e, Option.getD_some]⟩
  · cases h
/-- things of one kind, by their ranks -/
inductive Rank : D → List Int → Nat → Prop
  | int (n : Int) : Rank (.int n) [n] 0
  | flat (n : Int) (ns : List Int) : Rank (.tup ((n :: ns).map .int)) (n :: ns) 1
  | nest (n : Int) (ns : List Int) : Rank (.tup [.int n, .tup (ns.map .int)]) (n :: ns) 2
theorem sortable_rank {l : List D} (h : sortable l = true) : ∃ m, ∀ x ∈ l, Rank x (kL x) m := by
  unfold sortable at h
  rw [Bool.or_eq_true, Bool.or_eq_true] at h
  rcases h with h | h | h
  · refine ⟨0, fun x hx => ?_⟩
    obtain ⟨n, rfl⟩ := isIntD_of (List.all_eq_true.mp h x hx)
    exact .int n
  · refine ⟨1, fun x hx => ?_⟩
    obtain ⟨n, ns, e, k⟩ := isTupI_of (List.all_eq_true.mp h x hx)
    rw [k, e]
    exact .flat n ns
  · refine ⟨2, fun x hx => ?_⟩
    obtain ⟨n, ns, e, k⟩ := isTupN_of (List.all_eq_true.mp h x hx)
    rw [k, e]
    exact .nest n ns
theorem Rank.inj {x y : D} {k : List Int} {m : Nat} (a : Rank x k m) (b : Rank y k m) : x = y := by
  cases a <;> cases b <;> rfl
theorem kL_inj {l : List D} (h : sortable l = true) {x y : D} (hx : x ∈ l) (hy : y ∈ l) (e : kL x = kL y) : x = y := by
  obtain ⟨m, hm⟩ := sortable_rank h
  have a := hm x hx
  rw [e] at a
  exact a.inj (hm y hy)
/-- a sorted rearrangement is the one that the law knows -/
theorem sortD_uniq {l m : List D} (h : sortable l = true) (p : m.Perm l) (s : SrtO.Srtd ltD m) : m = sortD l :=
  srt_uniq (swo_lx kL) s (sortD_srt l) (p.trans (sortD_perm l).symm) fun x hx y hy q1 q2 => kL_inj h (p.mem_iff.mp hx) (p.mem_iff.mp hy) (lx_anti _ _ q1 q2)
end Pan
/-! ### in the heap -/
namespace Pan
open PySem PySem.Spec L2
open PyProof.Rows hiding St
section
variable {prog : Program} {w : World} {A : Around} {E : Value → Shared → Prop} {s : Shared}
theorem katI {b : Bool} {Q : Bool → Shared → Prop} : ∀ {ps qs : List Value} {ns ms : List Int} (i : Nat), IntsAre ps ns → IntsAre qs ms → Q (HT.lexLt ns ms) s → PySem.W.KatLex prog w A b (decide (ns.length < ms.length)) Q (ps.zip qs) i s
  | _, _, _, _, i, .nil, .nil, h => PySem.W.kat_nil h
  | _, _, _, _, i, .nil, .cons (ns := ms) m u r, h => by
    rw [List.zip_nil_left]
    refine PySem.W.kat_nil ?_
    have e : decide (([] : List Int).length < (m :: ms).length) = true := decide_eq_true (by simp)
    rw [e]; exact h
  | _, _, _, _, i, .cons (ns := ns) n t r, .nil, h => by
    rw [List.zip_nil_right]
    refine PySem.W.kat_nil ?_
    have e : decide ((n :: ns).length < ([] : List Int).length) = false := decide_eq_false (by simp)
    rw [e]; exact h
  | _, _, _, _, i, .cons (ns := ns) n t r, .cons (ns := ms) m u r', h => by
    rw [List.zip_cons_cons]
    have el : decide ((n :: ns).length < (m :: ms).length) = decide (ns.length < ms.length) := by
      rw [List.length_cons, List.length_cons]
      exact decide_eq_decide.mpr (by omega)
    rw [el]
    rw [HT.lexLt_cons] at h
    refine PySem.W.kat_cons (SeqAt.EqAt.int_int n t m u prog w _ _ ?_)
    refine PySem.W.kat_go (fun e1 => ?_) (fun e1 => ?_)
    · have ex : n = m := by simpa using e1
      rw [if_pos ex] at h
      exact PySem.W.kat_yes (katI (i + 1) r r' h)
    · have ex : ¬ n = m := by simpa using e1
      rw [if_neg ex] at h
      refine PySem.W.kat_no ?_
      cases hb : (b && i == 0) with
      | false => exact PySem.W.kat_one _ _ (PyProof.Rows.lt_int h)
      | true => exact oneLt_int h
/-- a tuple of ints -/
def IsTI (h : Heap) (v : Value) (ns : List Int) : Prop := ∃ (a : Addr) (o : Obj) (xs : List Value) (n : Nat), v = .ref a ∧ h.get? a = some o ∧ o.cls = .type "tuple" ∧ o.data = .seq xs.toArray n ∧ IntsAre xs ns
theorem IsTI.keeps {h h' : Heap} {v : Value} {ns : List Int} (p : IsTI h v ns) (k : ∀ b o, h.get? b = some o → o.cls = .type "tuple" → h'.get? b = some o) : IsTI h' v ns := by
  obtain ⟨a, o, xs, n, e, ho, hc, hd⟩ := p
  exact ⟨a, o, xs, n, e, k _ _ ho hc, hc, hd⟩
theorem cmpTI {vs : List Value} {k : Value → List Int} (hp : ∀ v ∈ vs, IsTI s.heap v (k v)) : SrtO.Cmp prog w A s (tuples' true) (fun p => p.1 ∈ vs) (SrtO.lt2 fun v u => HT.lexLt (k v) (k u)) := by
  intro p q hm hm'
  show wpAny (model prog w) A (keyLt' (tuples' true) p.1 q.1) (fun r s' => s' = s ∧ r = HT.lexLt (k p.1) (k q.1)) (fun _ _ => False) s
  obtain ⟨a, o, xs, n, e, ho, hc, hd, r⟩ := hp _ hm
  obtain ⟨a', o', xs', n', e', ho', hc', hd', r'⟩ := hp _ hm'
  rw [e, e']
  rw [e] at r; rw [e'] at r'
  refine PySem.W.kat_lt ho hd ho' hd' ?_
  have l1 : xs.length = (k (.ref a)).length := r.length
  have l2 : xs'.length = (k (.ref a')).length := r'.length
  rw [List.size_toArray, List.size_toArray, l1, l2]
  exact katI 0 r r' ⟨rfl, rfl⟩
theorem firstsTI {h : Heap} : ∀ {vs : List Value}, (∀ v ∈ vs, ∃ n ns, IsTI h v (n :: ns)) → ∃ fs : List Value, PySem.W.KatTups h vs fs ∧ fs.length = vs.length ∧ ∀ f ∈ fs, ∃ x t, f = Value.int x t
  | [], _ => ⟨[], PySem.W.KatTups.nil, rfl, fun _ hm => by simp at hm⟩
  | v :: vs, hp => by
    obtain ⟨fs, h1, h2, h3⟩ := firstsTI (vs := vs) fun v' hm => hp v' (List.mem_cons_of_mem _ hm)
    obtain ⟨x, ns, a, o, xs, n, e, ho, hc, hd, r⟩ := hp v (List.mem_cons_self ..)
    subst e
    obtain ⟨t, xs', rfl, r2⟩ := r.cons_inv
    refine ⟨.int x t :: fs, PySem.W.KatTups.cons ho hc hd (by simp) h1, by rw [List.length_cons, List.length_cons, h2], fun f hm => ?_⟩
    rcases List.mem_cons.mp hm with rfl | hm
    · exact ⟨x, t, rfl⟩
    · exact h3 f hm
theorem sortableTI {a : Addr} {vs : List Value} {k : Value → List Int} (h0 : 0 < vs.length) (hp : ∀ v ∈ vs, IsTI s.heap v (k v)) (hk : ∀ v ∈ vs, ∃ n ns, k v = n :: ns) (ha : ∀ o, s.heap.get? a = some o → o.cls ≠ .type "tuple") : SrtO.SortableO prog w A s a vs fun v u => HT.lexLt (k v) (k u) := by
  intro h' keep
  have hp' : ∀ v ∈ vs, IsTI h' v (k v) := fun v hm => (hp v hm).keeps fun b o e c => keep b o (fun z => by subst z; exact ha o e c) e
  obtain ⟨fs, h1, h2, h3⟩ := firstsTI fun v hm => by
    obtain ⟨n, ns, e⟩ := hk v hm
    exact ⟨n, ns, e ▸ hp' v hm⟩
  refine ⟨tuples' true, fun Q E hq => ?_, cmpTI hp'⟩
  refine PySem.W.kat_kind (T := .type "int") h1 (by omega) (fun f hm => ?_) (by rfl) ?_
  · obtain ⟨x, t, rfl⟩ := h3 f hm
    exact PySem.W.Looks.now
  · have e : (Value.type "int" != Value.type "tuple") = true := by first | decide +kernel | rfl | decide
    rw [e]
    exact hq
/-- a pair of an int and a tuple of ints -/
def IsTN (h : Heap) (v : Value) (ns : List Int) : Prop := ∃ (a : Addr) (o : Obj) (x : Int) (t : Tok) (y : Addr) (n : Nat) (rest : List Int), v = .ref a ∧ h.get? a = some o ∧ o.cls = .type "tuple" ∧ o.data = .seq [Value.int x t, .ref y].toArray n ∧ IsTI h (.ref y) rest ∧ ns = x :: rest
theorem IsTN.keeps {h h' : Heap} {v : Value} {ns : List Int} (p : IsTN h v ns) (k : ∀ b o, h.get? b = some o → o.cls = .type "tuple" → h'.get? b = some o) : IsTN h' v ns := by
  obtain ⟨a, o, x, t, y, n, rest, e, ho, hc, hd, hy, hn⟩ := p
  exact ⟨a, o, x, t, y, n, rest, e, k _ _ ho hc, hc, hd, hy.keeps k, hn⟩
theorem IsTI.key {P : Program} {w : World} {h : Heap} {y : Addr} {ns : List Int} (p : IsTI h (.ref y) ns) : IsTupleKey (intKind P w) h ns y := by
  obtain ⟨a, o, xs, n, e, ho, hc, hd, r⟩ := p
  cases e
  refine ⟨o, xs.toArray, n, ho, hc, hd, ?_⟩
  have all : ∀ {us : List Value} {ms : List Int}, IntsAre us ms → ItemsAre (intKind P w) ms us := by
    intro us ms q
    induction q with
    | nil => exact .nil
    | cons m tk _ ih => exact .cons (intKind_is P w m tk) ih
  simpa using all r
theorem cmpTN {vs : List Value} {k : Value → List Int} (hu : A.units < cLine) (hp : ∀ v ∈ vs, IsTN s.heap v (k v)) : SrtO.Cmp prog w A s (tuples' true) (fun p => p.1 ∈ vs) (SrtO.lt2 fun v u => HT.lexLt (k v) (k u)) := by
  intro p q hm hm'
  show wpAny (model prog w) A (keyLt' (tuples' true) p.1 q.1) (fun r s' => s' = s ∧ r = HT.lexLt (k p.1) (k q.1)) (fun _ _ => False) s
  obtain ⟨a, o, x, t, y, n, rest, e, ho, hc, hd, hy, hn⟩ := hp _ hm
  obtain ⟨a', o', x', t', y', n', rest', e', ho', hc', hd', hy', hn'⟩ := hp _ hm'
  rw [hn, hn', e, e']
  refine PySem.W.kat_lt ho hd ho' hd' ?_
  show PySem.W.KatLex prog w A true _ _ [(Value.int x t, Value.int x' t'), (.ref y, .ref y')] 0 s
  rw [HT.lexLt_cons]
  refine PySem.W.kat_cons (SeqAt.EqAt.int_int x t x' t' prog w _ _ ?_)
  refine PySem.W.kat_go (fun e1 => ?_) (fun e1 => ?_)
  · have ex : x = x' := by simpa using e1
    rw [if_pos ex]
    refine PySem.W.kat_yes (PySem.W.kat_cons (wpAny_eqBool_tuple hu (IsTI.key (P := prog) (w := w) hy) (IsTI.key (P := prog) (w := w) hy') ?_))
    refine PySem.W.kat_go (fun e2 => ?_) (fun e2 => ?_)
    · have ey : rest = rest' := of_decide_eq_true e2
      subst ey
      refine PySem.W.kat_yes (PySem.W.kat_nil ⟨rfl, ?_⟩)
      rw [lx_irr]
      rfl
    · refine PySem.W.kat_no (PySem.W.kat_one _ _ ?_)
      obtain ⟨b, ob, xs, m, eb, hb, hcb, hdb, rb⟩ := hy
      obtain ⟨b', ob', xs', m', eb', hb', hcb', hdb', rb'⟩ := hy'
      cases eb
      cases eb'
      exact HT.lt_tupInts ⟨ob, hb, hcb, m, hdb⟩ ⟨ob', hb', hcb', m', hdb'⟩ (by simpa using rb) (by simpa using rb') hu ⟨rfl, rfl⟩
  · have ex : ¬ x = x' := by simpa using e1
    rw [if_neg ex]
    exact PySem.W.kat_no (oneLt_int ⟨rfl, rfl⟩)
theorem firstsTN {h : Heap} : ∀ {vs : List Value}, (∀ v ∈ vs, ∃ ns, IsTN h v ns) → ∃ fs : List Value, PySem.W.KatTups h vs fs ∧ fs.length = vs.length ∧ ∀ f ∈ fs, ∃ x t, f = Value.int x t
  | [], _ => ⟨[], PySem.W.KatTups.nil, rfl, fun _ hm => by simp at hm⟩
  | v :: vs, hp => by
    obtain ⟨fs, h1, h2, h3⟩ := firstsTN (vs := vs) fun v' hm => hp v' (List.mem_cons_of_mem _ hm)
    obtain ⟨_, a, o, x, t, y, n, rest, e, ho, hc, hd, hy, hn⟩ := hp v (List.mem_cons_self ..)
    subst e
    refine ⟨.int x t :: fs, PySem.W.KatTups.cons ho hc hd (by simp) h1, by rw [List.length_cons, List.length_cons, h2], fun f hm => ?_⟩
    rcases List.mem_cons.mp hm with rfl | hm
    · exact ⟨x, t, rfl⟩
    · exact h3 f hm
theorem sortableTN {a : Addr} {vs : List Value} {k : Value → List Int} (hu : A.units < cLine) (h0 : 0 < vs.length) (hp : ∀ v ∈ vs, IsTN s.heap v (k v)) (ha : ∀ o, s.heap.get? a = some o → o.cls ≠ .type "tuple") : SrtO.SortableO prog w A s a vs fun v u => HT.lexLt (k v) (k u) := by
  intro h' keep
  have hp' : ∀ v ∈ vs, IsTN h' v (k v) := fun v hm => (hp v hm).keeps fun b o e c => keep b o (fun z => by subst z; exact ha o e c) e
  obtain ⟨fs, h1, h2, h3⟩ := firstsTN fun v hm => ⟨_, hp' v hm⟩
  refine ⟨tuples' true, fun Q E hq => ?_, cmpTN hu hp'⟩
  refine PySem.W.kat_kind (T := .type "int") h1 (by omega) (fun f hm => ?_) (by rfl) ?_
  · obtain ⟨x, t, rfl⟩ := h3 f hm
    exact PySem.W.Looks.now
  · have e : (Value.type "int" != Value.type "tuple") = true := by first | decide +kernel | rfl | decide
    rw [e]
    exact hq
/-- sorted of what can be collected -/
theorem sorted_any {r : Value} {ok : List Value → Prop} {ltv : Value → Value → Bool} {Q : Value → Shared → Prop} (O : SrtO.Swo ltv)
    (hcol : ∀ Q' : List Value → Shared → Prop, (∀ s' vs, (∀ b o, s.heap.get? b = some o → s'.heap.get? b = some o) → s.heap.objs.size ≤ s'.heap.objs.size → s'.gens = s.gens → s'.os = s.os → ok vs → Q' vs s') → wpAny (model prog w) A.in1 (collect r) Q' E s)
    (hz : ∀ vs, ok vs → vs.length ≤ sizeLine)
    (hS : ∀ vs, ok vs → 2 ≤ vs.length → ∀ (s₁ : Shared) (a : Addr), s₁.heap.get? a = some (seqObj "list" vs.toArray 0) → (∀ b o, s.heap.get? b = some o → b ≠ a ∧ s₁.heap.get? b = some o) → SrtO.SortableO prog w A.in1.in1 s₁ a vs ltv)
    (h : ∀ (s' : Shared) (d : Addr) (vs out : List Value), ok vs → SrtO.Srtd ltv out → SrtO.Stb ltv out vs → (∀ b o, s.heap.get? b = some o → s'.heap.get? b = some o) → s.heap.objs.size ≤ d → s'.gens = s.gens → s'.os = s.os → (∃ n, s'.heap.get? d = some (seqObj "list" out.toArray n)) → Q (.ref d) s') :
    wpAny (model prog w) A (call (.builtin "sorted") [r]) Q E s := by
  refine Calls.call_function_entry kind_sorted plain_sorted entry_sorted (args_sorted1 _) ?_
  unfold Builtin.«sorted»
  refine wpAny_bind (m := checkCount "sorted" 1 1 _) (wpAny_pure ?_)
  refine wpAny_bind (hcol _ fun s1 vs kp hsz hg hos hok => ?_)
  have hzz := hz vs hok
  refine wpAny_bind (wpAny_newList ?_ hzz)
  have hoL : (s1.heap.push (seqObj "list" vs.toArray 0)).get? s1.heap.objs.size = some (seqObj "list" vs.toArray 0) := Heap.get?_push_size _ rfl
  have keep : ∀ b o, s.heap.get? b = some o → b ≠ s1.heap.objs.size ∧ (s1.heap.push (seqObj "list" vs.toArray 0)).get? b = some o := fun b o q =>
    ⟨Nat.ne_of_lt (Heap.lt_size (kp b o q)), Heap.get?_push_of_some _ (kp b o q)⟩
  show wpAny _ _ _ _ _ { s1 with heap := s1.heap.push (seqObj "list" vs.toArray 0) }
  refine wpAny_bind (wpAny_holding (wpAny_call_entry slot_list_sort ⟨_, hoL, rfl⟩ entry_list_sort (SrtO.list_sort_ord O hoL hzz (fun h2 => hS vs hok h2 { s1 with heap := s1.heap.push (seqObj "list" vs.toArray 0) } _ hoL keep) fun out hs hb => ⟨_, rfl, ?_⟩) (args_list_sort _)))
  refine wpAny_pure ⟨_, rfl, ?_⟩
  obtain ⟨ep, he'⟩ := PyProof.Rows.sortedHeap_at (vs := vs) (out := out.toArray) hoL
  refine h { s1 with heap := PyProof.Rows.sortedHeap (s1.heap.push (seqObj "list" vs.toArray 0)) s1.heap.objs.size vs out.toArray } _ vs out hok hs hb (fun b o q => ?_) hsz hg hos ⟨_, he'⟩
  obtain ⟨q1, q2⟩ := keep b o q
  exact (PyProof.Rows.sortedHeap_old q1 (Heap.lt_size q2)).trans q2
/-- collect, of what a list can be extended by -/
theorem collect_of {r : Value} {ok : List Value → Prop} {Q : List Value → Shared → Prop}
    (hx : ∀ R : Result → Shared → Prop, (∀ h' tk acc c, (∀ b o, s.heap.get? b = some o → h'.get? b = some o) → h'.get? s.heap.objs.size = some { cls := .type "list", dict := none, data := .seq acc c, slots := #[] } → ok acc.toList → R (.ok (.ret (.ref s.heap.objs.size))) { s with heap := h', toks := tk }) →
      wpAny (model prog w) A.in1 (Builtin.List.listExtendWith (.ref s.heap.objs.size) r (.ref s.heap.objs.size)) (fun fin s' => match fin with | .done f => R (.ok f) s' | .again c' => c'.quiet = true ∧ codeAny (model prog w) A c' R s') (fun e s' => R (.error e) s') { s with heap := s.heap.push { cls := .type "list", data := .seq ([] : List Value).toArray } })
    (h : ∀ h' tk vs, (∀ b o, s.heap.get? b = some o → h'.get? b = some o) → s.heap.objs.size ≤ h'.objs.size → ok vs → Q vs { s with heap := h', toks := tk }) : wpAny (model prog w) A (collect r) Q E s := by
  unfold collect
  refine wpAny_bind (wpAny_runValue (codeAny_builtin entry_proto_collect' ?_))
  rw [Around.under_plainId PySem.F.plain_proto_collect _]
  show wpAny _ A.in1 (newList [] >>= fun l => again (.builtin "list.__iadd__" ⟨[l, r], []⟩)) _ _ s
  refine wpAny_bind (wpAny_newObj_type ?_)
  refine wpAny_pure ⟨plainId_quiet PySem.F.plain_list_iadd _, codeAny_builtin entry_list_iadd' ?_⟩
  rw [Around.under_plainId PySem.F.plain_list_iadd _]
  have key := hx (fun (q : Result) (s' : Shared) => ∃ (h' : Heap) (tk : Nat) (acc : Array Value) (c : Nat), q = .ok (.ret (.ref s.heap.objs.size)) ∧ s' = { s with heap := h', toks := tk } ∧
      (∀ b o, s.heap.get? b = some o → h'.get? b = some o) ∧ h'.get? s.heap.objs.size = some { cls := .type "list", dict := none, data := .seq acc c, slots := #[] } ∧ ok acc.toList)
    fun h' tk acc c k e o => ⟨h', tk, acc, c, rfl, rfl, k, e, o⟩
  refine wpAny_mono key (fun fin s' x => ?_) fun e s' x => ?_
  · cases fin with
    | done f =>
      obtain ⟨h', tk, acc, c, e, rfl, hk, hS, hacc⟩ := x
      cases e
      show wpAny _ A (load s.heap.objs.size >>= _) _ _ _
      exact wpAny_bind (wpAny_load hS (wpAny_pure (h h' tk _ hk (Nat.le_of_lt (Heap.lt_size hS)) hacc)))
    | again c₁ =>
      refine ⟨x.1, codeAny_mono x.2 fun q s₂ y => ?_⟩
      obtain ⟨h', tk, acc, c, rfl, rfl, hk, hS, hacc⟩ := y
      show wpAny _ A (load s.heap.objs.size >>= _) _ _ _
      exact wpAny_bind (wpAny_load hS (wpAny_pure (h h' tk _ hk (Nat.le_of_lt (Heap.lt_size hS)) hacc)))
  · obtain ⟨_, _, _, _, e', _⟩ := x
    cases e'
theorem push_list_at (h : Heap) : (h.push { cls := .type "list", data := .seq ([] : List Value).toArray }).get? h.objs.size = some { cls := .type "list", data := .seq #[] 0 } := Heap.get?_push_size _ rfl
theorem collect_sq {it : Addr} {T : String} {o : Obj} {vs : List Value} {n : Nat} (hT : T = "list" ∨ T = "tuple") (ho : s.heap.get? it = some o) (hc : o.cls = .type T) (hd : o.data = .seq vs.toArray n) (hz : vs.length ≤ sizeLine) (Q : List Value → Shared → Prop)
    (h : ∀ h' tk us, (∀ b o, s.heap.get? b = some o → h'.get? b = some o) → s.heap.objs.size ≤ h'.objs.size → us = vs → Q us { s with heap := h', toks := tk }) : wpAny (model prog w) A (collect (.ref it)) Q E s := by
  refine collect_of (ok := fun us => us = vs) (fun R hR => ?_) h
  refine wpAny_extend_seq (s := { s with heap := s.heap.push { cls := .type "list", data := .seq ([] : List Value).toArray } }) _ it _ 0 hT (push_list_at s.heap) (Heap.get?_push_of_some _ ho) hc hd ?_ (by rw [List.size_toArray]; exact hz)
  have q := Heap.get?_update_self (Obj.mapSeq (· ++ vs.toArray)) (push_list_at s.heap) rfl
  refine hR _ s.toks _ _ (fun b u e => ?_) q (by simp)
  exact (Heap.get?_update_other _ _ (Nat.ne_of_gt (Heap.lt_size e))).trans (Heap.get?_push_of_some _ e)
theorem collect_kdl {T : String} {r d : Addr} {n : Nat} {P : Nat → Value → Prop} {OK : Heap → Prop} (K : PySem.W.KdlSrc prog w T r d n P OK) (hh : A.handled = none) (hok : OK s.heap) (hn : n ≤ sizeLine) (Q : List Value → Shared → Prop)
    (h : ∀ h' tk us, (∀ b o, s.heap.get? b = some o → h'.get? b = some o) → s.heap.objs.size ≤ h'.objs.size → (us.length = n ∧ ∀ j v, us[j]? = some v → P j v) → Q us { s with heap := h', toks := tk }) : wpAny (model prog w) A (collect (.ref r)) Q E s := by
  refine collect_of (ok := fun us => us.length = n ∧ ∀ j v, us[j]? = some v → P j v) (fun R hR => ?_) h
  have hlt := K.there _ hok
  refine PySem.W.kdl_extend (A := A) (s := { s with heap := s.heap.push { cls := .type "list", data := .seq ([] : List Value).toArray } }) K hh (K.keep _ _ hok fun b _ o e => Heap.get?_push_of_some _ e) s.heap.objs.size (Nat.ne_of_gt hlt.1) (Nat.ne_of_gt hlt.2) _ 0 (push_list_at s.heap) (fun h' tk acc c kp e it => ?_) hn
  refine hR h' tk acc c (fun b o q => kp b o (Nat.ne_of_lt (Heap.lt_size q)) (Heap.get?_push_of_some _ q)) e ⟨?_, fun j v q => it.2 j v (by rw [← Array.getElem?_toList]; exact q)⟩
  rw [Array.length_toList]; exact it.1
end
/-! ### the rule -/
/-- a set: its members in some turn -/
def SetHas (w : World) (a : Addr) (xs : List V) (h : Heap) : Prop := ∃ es ep t, SetAt h a es ep t ∧ (∀ o, h.get? a = some o → o.ExactSet) ∧ t.fits es.size = true ∧ es.size < scanBound ∧ Ris t.place.toList ∧ (w.params.followText "set-order" = true ∨ t.led = true) ∧ Vals xs (es.toList.map (·.2))
def sO (w : World) (a : Addr) (xs : List V) : HO := .ext (SetHas w a xs)
theorem sO_ok {P : Program} {w w' : World} {H : Hp} {h : Heap} {a : Addr} {xs : List V} (q : SetHas w' a xs h) : ObjOk P w H h a (sO w' a xs) := by
  refine ⟨q, ?_, fun h1 h2 p kp => ?_⟩
  · obtain ⟨_, _, _, ⟨o, e, _⟩, _⟩ := q
    exact ⟨o, e⟩
  · obtain ⟨es, ep, t, ⟨o, e, c⟩, ex, r⟩ := p
    refine ⟨es, ep, t, ⟨o, kp o e, c⟩, fun o' e' => ?_, r⟩
    rw [kp o e] at e'
    cases e'
    exact ex o e
/-- what can be sorted: a list, a tuple, a dict by its keys, a set; xs its items in some turn -/
def Src (K : PySem.W.Frag) (w : World) (H : Hp) (a : Addr) (xs : List V) : Prop := SqL K H a xs ∨ SqT K H a xs ∨ (∃ rows, Rd H a (dO a rows) ∧ xs = rows.map fun r => V.ref r.2.1) ∨ (∃ kvs : List (Key × V), Rd H a (.dK kvs) ∧ xs = kvs.map fun r => kV r.1) ∨ H a = some (sO w a xs)
theorem vals_refs' : ∀ l : List Addr, Vals (l.map V.ref) (l.map Value.ref)
  | [] => .nil
  | _ :: l => .cons rfl (vals_refs' l)
theorem key_vals {P : Program} {w : World} {kvs : List (Key × V)} {vs : List (Key × Value)} (r : KV kvs vs) : ∀ {es : List DictEntry}, Pairs (mixKind P w) es vs → Vals (kvs.map fun x => kV x.1) (es.map (·.key)) := by
  unfold KV at r
  induction r with
  | nil => intro es p; cases p; exact .nil
  | @cons p q ps qs h t ih =>
    intro es pr
    cases pr with
    | cons h1 h2 h3 =>
      refine .cons ?_ (ih h3)
      rw [← h.1] at h1
      rcases keyIs_shape h1 with ⟨i, t, e1, e2⟩ | ⟨i, t, e1, e2⟩
      · show RelV (kV p.1) (DictEntry.key _)
        rw [e1, e2]
        exact ⟨t, rfl⟩
      · show RelV (kV p.1) (DictEntry.key _)
        rw [e1, e2]
        exact ⟨t, rfl⟩
section
variable {X : Cx} {pins : List (Addr × Obj)} {s : Shared} {σ : L2.St} {H : Hp} {a : Addr}
/-- a dict's keys, gathered -/
theorem collect_keys (hc : X.calm = true) (I : Inv X pins σ H s) {o : Obj} {es : Array DictEntry} {ep : Nat} (lo : (a == sysModules) = false) (ho : s.heap.get? a = some o) (hx : o.ExactDict) (hdt : o.data = .dict es ep) (hz : es.size ≤ sizeLine) (Q : List Value → Shared → Prop)
    (hQ : ∀ s' us, (∀ b o, s.heap.get? b = some o → s'.heap.get? b = some o) → s.heap.objs.size ≤ s'.heap.objs.size → s'.gens = s.gens → s'.os = s.os → us = es.toList.map (·.key) → Q us s') : wpAny (model X.prog X.w) X.A.in1 (collect (.ref a)) Q X.xe s := by
  refine collect_kdl (A := X.A.in1) (kdl_raw lo hx hdt) (I.ok.hd hc) ho hz Q fun h' tk us kp hsz ok => hQ { s with heap := h', toks := tk } us kp hsz rfl rfl ?_
  apply List.ext_getElem?
  intro j
  rw [List.getElem?_map]
  cases hj : us[j]? with
  | none =>
    have h1 := List.getElem?_eq_none_iff.mp hj
    rw [List.getElem?_eq_none (by rw [Array.length_toList]; omega)]
    rfl
  | some v =>
    obtain ⟨en, hen, hv⟩ := ok.2 j v hj
    rw [Array.getElem?_toList, hen, hv]
    rfl
theorem src_in (hc : X.calm = true) (I : Inv X pins σ H s) {xs : List V} (h : Src X.K X.w H a xs) : ∃ its, Vals xs its ∧ xs.length ≤ sizeLine ∧
    ∀ Q : List Value → Shared → Prop, (∀ s' us, (∀ b o, s.heap.get? b = some o → s'.heap.get? b = some o) → s.heap.objs.size ≤ s'.heap.objs.size → s'.gens = s.gens → s'.os = s.os → us.Perm its → Q us s') → wpAny (model X.prog X.w) X.A.in1 (collect (.ref a)) Q X.xe s := by
  rcases h with h | h | ⟨rows, h, rfl⟩ | ⟨kvs, h, rfl⟩ | h
  · obtain ⟨its, rv, hl, hz⟩ := I.list h
    obtain ⟨o, ho, hcl, n, hd⟩ := hl.isList
    exact ⟨its, rv, hz, fun Q hQ => collect_sq (.inl rfl) ho hcl hd (by rw [← rv.length]; exact hz) Q fun h' tk us kp hsz e => hQ { s with heap := h', toks := tk } us kp hsz rfl rfl (e ▸ .refl _)⟩
  · obtain ⟨its, rv, ⟨o, ho, hcl, n, hd⟩, hz⟩ := I.tuple h
    exact ⟨its, rv, hz, fun Q hQ => collect_sq (.inr rfl) ho hcl hd (by rw [← rv.length]; exact hz) Q fun h' tk us kp hsz e => hQ { s with heap := h', toks := tk } us kp hsz rfl rfl (e ▸ .refl _)⟩
  · obtain ⟨z, hs, ks, pr, o, es, ep, ho, hx, hdt, he, hn⟩ := (show ObjOk X.prog X.w H s.heap a (dO a rows) from rd_of I.hok h).1
    have l1 : es.size = ks.length := by
      have := congrArg List.length he
      rw [Array.length_toList, List.length_map] at this
      exact this
    have l2 : rows.length = ks.length := Paired.length pr
    have ek : es.toList.map (·.key) = (rows.map fun r => r.2.1).map Value.ref := by
      rw [he, List.map_map]
      clear he l1 l2 hn h z
      induction pr with
      | nil => rfl
      | @cons p q ps qs hq t ih =>
        rw [List.map_cons, ih, List.map_cons, List.map_cons, hq.2.1]
        rfl
    refine ⟨(rows.map fun r => r.2.1).map Value.ref, by
        have := vals_refs' (rows.map fun r => r.2.1)
        rw [List.map_map] at this
        exact this, by rw [List.length_map]; exact z, fun Q hQ => collect_keys hc I hs ho hx hdt (by omega) Q fun s' us k1 k2 k3 k4 e => hQ s' us k1 k2 k3 k4 ?_⟩
    rw [e, ek]
  · obtain ⟨z, hs, vs, kv, o, es, ep, ho, hx, hdt, _, pr, _⟩ := dk_rd I.hok h
    have kvl := key_vals kv pr
    have l1 : kvs.length = es.size := by
      have := kvl.length
      simpa using this
    exact ⟨_, kvl, by rw [List.length_map]; exact z, fun Q hQ => collect_keys hc I hs ho hx hdt (by omega) Q fun s' us k1 k2 k3 k4 e => hQ s' us k1 k2 k3 k4 (e ▸ .refl _)⟩
  · obtain ⟨es, ep, t, ha, _, hf, hsz, hr, hl, rv⟩ := (show ObjOk X.prog X.w H s.heap a (sO X.w a xs) from I.hok a _ h).1
    have l1 : xs.length = es.size := by
      have := rv.length
      simpa using this
    have e1 : scanBound = 4096 := rfl
    exact ⟨_, rv, by rw [l1, sizeLine_eq]; omega, fun Q hQ => collect_set (A := X.A.in1) (I.ok.hd hc) ha hf hsz hr hl fun s' out k1 k2 k3 k4 e => hQ s' out k1 k2 k3 k4 e⟩
/-- the items: ints, tuples of ints, or pairs of an int and such a tuple; k their ranks -/
def Its (K : PySem.W.Frag) (H : Hp) (k : V → List Int) (xs : List V) : Prop := (∀ x ∈ xs, ∃ i, x = V.int i ∧ k x = [i]) ∨ (∀ x ∈ xs, ∃ t n ns, x = V.ref t ∧ k x = n :: ns ∧ SqT K H t ((n :: ns).map V.int)) ∨
  ∀ x ∈ xs, ∃ t u n ns, x = V.ref t ∧ k x = n :: ns ∧ SqT K H t [.int n, .ref u] ∧ SqT K H u (ns.map V.int)
abbrev ltV (k : V → List Int) (x y : V) : Bool := HT.lexLt (k x) (k y)
def rSortX (K : PySem.W.Frag) (w : World) : List V → Hp → VK → Prop := fun vs H Q => ∃ a xs k, vs = [V.ref a] ∧ Src K w H a xs ∧ Its K H k xs ∧ ∀ ys p, ys.Perm xs → SrtO.Srtd (ltV k) ys → H p = none → Q (.ref p) (upd H p (.lst ys))
def backI : Value → V
  | .int i _ => .int i
  | .ref a => .ref a
  | _ => .non
theorem back_of : ∀ {xs : List V} {us : List Value}, Vals xs us → (∀ x ∈ xs, (∃ i, x = V.int i) ∨ ∃ t, x = V.ref t) → xs = us.map backI ∧ ∀ u ∈ us, RelV (backI u) u
  | _, _, .nil, _ => ⟨rfl, fun u hu => absurd hu (by simp)⟩
  | x :: xs, u :: us, .cons r t, h => by
    obtain ⟨e1, e2⟩ := back_of t fun y hy => h y (List.mem_cons_of_mem _ hy)
    have : x = backI u ∧ RelV (backI u) u := by
      rcases h x List.mem_cons_self with ⟨i, rfl⟩ | ⟨a, rfl⟩
      · obtain ⟨tk, rfl⟩ := r
        exact ⟨rfl, tk, rfl⟩
      · obtain rfl := r
        exact ⟨rfl, rfl⟩
    refine ⟨by rw [List.map_cons, ← e1, ← this.1], fun v hv => ?_⟩
    rcases List.mem_cons.mp hv with rfl | hv
    · exact this.2
    · exact e2 v hv
theorem vals_backI : ∀ {us : List Value}, (∀ u ∈ us, RelV (backI u) u) → Vals (us.map backI) us
  | [], _ => .nil
  | u :: us, h => .cons (h u List.mem_cons_self) (vals_backI fun v hv => h v (List.mem_cons_of_mem _ hv))
theorem tupTI (I : Inv X pins σ H s) {h' : Heap} {t : Addr} {ns : List Int} (ht : SqT X.K H t (ns.map V.int)) (kp : ∀ b o, s.heap.get? b = some o → h'.get? b = some o) : IsTI h' (.ref t) ns := by
  obtain ⟨its2, r2, ⟨o, ho, hcl, m, hdd⟩, _⟩ := I.tuple ht
  exact ⟨t, o, its2, m, rfl, kp _ _ ho, hcl, hdd, r2.ints⟩
theorem cr_sortX (hc : X.calm = true) (hu : X.A.units + 2 < cLine) : CallR X (.builtin "sorted") (rSortX X.K X.w) := by
  intro pins s σ H vs us Q I r h
  obtain ⟨a, xs, k, rfl, src, hk, q⟩ := h
  obtain ⟨u, rfl, ru⟩ := vals1 r
  obtain rfl : u = Value.ref a := ru
  obtain ⟨its, rv, hz, col⟩ := src_in hc I src
  have hb : xs = its.map backI ∧ ∀ u ∈ its, RelV (backI u) u := by
    refine back_of rv fun x hx => ?_
    rcases hk with hk | hk | hk
    · obtain ⟨i, e, _⟩ := hk x hx; exact .inl ⟨i, e⟩
    · obtain ⟨t, _, _, e, _⟩ := hk x hx; exact .inr ⟨t, e⟩
    · obtain ⟨t, _, _, _, e, _⟩ := hk x hx; exact .inr ⟨t, e⟩
  obtain ⟨e1, e2⟩ := hb
  have mem : ∀ v ∈ its, backI v ∈ xs := fun v hv => by rw [e1]; exact List.mem_map.mpr ⟨v, hv, rfl⟩
  refine sorted_any (ok := fun vs => vs.Perm its) (swo_lx fun u => k (backI u)) col (fun vs e => by rw [e.length_eq, ← rv.length]; exact hz) (fun vs e h2 s₁ b hb kp => ?_) fun s' d vs out e hs hst kp hd hg hos hn => ?_
  · have mem' : ∀ v ∈ vs, v ∈ its := fun v hv => e.mem_iff.mp hv
    have hna : ∀ o, s₁.heap.get? b = some o → o.cls ≠ .type "tuple" := fun o e => by
      have e' : some o = some (seqObj "list" vs.toArray 0) := e.symm.trans hb
      cases e'
      exact fun c => absurd (Value.type.inj c) (by decide)
    rcases hk with hk | hk | hk
    · have hi : IntsAre vs (vs.map SrtO.iv) := SrtO.ints_iv fun v hv => by
        obtain ⟨i, e, _⟩ := hk _ (mem v (mem' v hv))
        have := e2 v (mem' v hv)
        rw [e] at this
        obtain ⟨t, rfl⟩ := this
        exact ⟨i, t, rfl⟩
      have := SrtO.ints_sortable (prog := X.prog) (w := X.w) (A := X.A.in1.in1) (s := s₁) (a := b) hi h2
      intro h' kk
      obtain ⟨κ, p1, p2⟩ := this h' kk
      refine ⟨κ, p1, fun p q hp hq => wpAny_mono (p2 p q hp hq) (fun r s' x => ⟨x.1, x.2.trans ?_⟩) fun _ _ e => e⟩
      obtain ⟨i, ei, ki⟩ := hk _ (mem _ (mem' _ hp))
      obtain ⟨j, ej, kj⟩ := hk _ (mem _ (mem' _ hq))
      have r1 := e2 _ (mem' _ hp)
      have r2 := e2 _ (mem' _ hq)
      rw [ei] at r1; rw [ej] at r2
      show SrtO.ltIv p.1 q.1 = HT.lexLt (k (backI p.1)) (k (backI q.1))
      rw [ki, kj, HT.lexLt_cons]
      obtain ⟨t1, w1⟩ := r1
      obtain ⟨t2, w2⟩ := r2
      rw [w1, w2]
      show decide (i < j) = if i = j then false else decide (i < j)
      split
      · exact decide_eq_false (by omega)
      · rfl
    · refine sortableTI (s := s₁) (k := fun u => k (backI u)) (by omega) (fun v hv => ?_) (fun v hv => ?_) hna
      · obtain ⟨t, n, ns, e, ke, ht⟩ := hk _ (mem v (mem' v hv))
        have rr := e2 v (mem' v hv)
        rw [e] at rr
        obtain rfl : v = Value.ref t := rr
        show IsTI s₁.heap _ (k (backI (.ref t)))
        have ke' : k (backI (.ref t)) = n :: ns := ke
        rw [ke']
        exact tupTI I ht fun b o z => (kp b o z).2
      · obtain ⟨t, n, ns, e, ke, ht⟩ := hk _ (mem v (mem' v hv))
        exact ⟨n, ns, ke⟩
    · refine sortableTN (s := s₁) (k := fun u => k (backI u)) (show X.A.in1.in1.units < cLine from hu) (by omega) (fun v hv => ?_) hna
      obtain ⟨t, y, n, ns, e, ke, ht, hy⟩ := hk _ (mem v (mem' v hv))
      have rr := e2 v (mem' v hv)
      rw [e] at rr
      obtain rfl : v = Value.ref t := rr
      show IsTN s₁.heap _ (k (backI (.ref t)))
      have ke' : k (backI (.ref t)) = n :: ns := ke
      rw [ke']
      obtain ⟨its2, r2, ⟨o, ho, hcl, m, hdd⟩, _⟩ := I.tuple ht
      obtain ⟨u1, u2, rfl, q1, q2⟩ := vals2 r2
      obtain ⟨tk, rfl⟩ := q1
      obtain rfl : u2 = Value.ref y := q2
      exact ⟨t, o, n, tk, y, m, ns, rfl, (kp _ _ ho).2, hcl, hdd, tupTI I hy fun b o z => (kp b o z).2, rfl⟩
  · obtain ⟨n, hn⟩ := hn
    have hp : (out.map backI).Perm xs := by rw [e1]; exact (hst.perm.trans e).map backI
    have hvo : Vals (out.map backI) out := vals_backI fun u hu => e2 u ((hst.perm.trans e).mem_iff.mp hu)
    have hnone : H d = none := I.hok.fresh hd
    have J : Inv X pins σ (upd H d (.lst (out.map backI))) { s with heap := s'.heap, gens := s'.gens, drawn := s'.drawn, toks := s'.toks } :=
      I.call (ch := []) (Un.laid kp hd hnone) (I.hok.laid kp hd ⟨by rw [hp.length_eq]; exact hz, out, n, hvo, hn⟩) (by rw [hg]; exact I.bare) (fun _ z => nomatch z)
    have es : s' = { s with heap := s'.heap, gens := s'.gens, drawn := s'.drawn, toks := s'.toks } := by
      cases s'
      cases s
      cases hos
      rfl
    rw [es]
    exact ⟨.ref d, _, J, rfl, q _ d hp (List.pairwise_map.mpr hs) hnone⟩
end
/-! ### by the data -/
def intsV : List V → List Int
  | [] => []
  | .int i :: r => i :: intsV r
  | _ :: r => intsV r
theorem intsV_map : ∀ ns : List Int, intsV (ns.map V.int) = ns
  | [] => rfl
  | n :: ns => by rw [List.map_cons]; show n :: intsV (ns.map V.int) = _; rw [intsV_map ns]
/-- a value's rank -/
def kF (F : Hp) : V → List Int
  | .int i => [i]
  | .ref t => match F t with
    | some (.frz _ (.tup [.int n, .ref u])) => n :: (match F u with
      | some (.frz _ (.tup ys)) => intsV ys
      | _ => [])
    | some (.frz _ (.tup xs)) => intsV xs
    | _ => []
  | _ => []
theorem Rps.ofInts {K : PySem.W.Frag} {F : Hp} : ∀ {xs : List V} {ns : List Int}, Rps K F xs (ns.map D.int) → xs = ns.map V.int
  | [], [], _ => rfl
  | [], _ :: _, h => by cases h
  | _ :: _, [], h => by cases h
  | x :: xs, n :: ns, h => by
    cases h with
    | cons h1 h2 =>
      cases h1
      rw [Rps.ofInts h2]; rfl
theorem kF_flat {F : Hp} {t : Addr} {n : Int} {ns : List Int} (h : IsT F t ((n :: ns).map V.int)) : kF F (.ref t) = n :: ns := by
  obtain ⟨o, _, e⟩ := h
  cases ns with
  | nil => simp only [kF, e, List.map_cons, List.map_nil, intsV]
  | cons m ms =>
    cases ms <;> simp only [kF, e, List.map_cons, List.map_nil, intsV, intsV_map]
theorem rank_rp {K : PySem.W.Frag} {F : Hp} {x : V} {d : D} {k : List Int} {m : Nat} (rk : Rank d k m) (r : Rp K F x d) :
    kF F x = k ∧ ((m = 0 ∧ ∃ i, x = V.int i ∧ k = [i]) ∨ (m = 1 ∧ ∃ t n ns, x = V.ref t ∧ k = n :: ns ∧ IsT F t ((n :: ns).map V.int)) ∨ (m = 2 ∧ ∃ t u n ns, x = V.ref t ∧ k = n :: ns ∧ IsT F t [.int n, .ref u] ∧ IsT F u (ns.map V.int))) := by
  cases rk with
  | int n =>
    cases r
    exact ⟨rfl, .inl ⟨rfl, n, rfl, rfl⟩⟩
  | flat n ns =>
    cases r with
    | tup ea rr =>
      have e := Rps.ofInts rr
      subst e
      exact ⟨kF_flat ea, .inr (.inl ⟨rfl, _, n, ns, rfl, rfl, ea⟩)⟩
  | nest n ns =>
    cases r with
    | tup ea rr =>
      cases rr with
      | cons h1 rr =>
        cases h1
        cases rr with
        | cons h2 rr =>
          cases rr
          cases h2 with
          | tup eb rb =>
            have e := Rps.ofInts rb
            subst e
            refine ⟨?_, .inr (.inr ⟨rfl, _, _, n, ns, rfl, rfl, ea, eb⟩)⟩
            obtain ⟨o, _, e⟩ := ea
            obtain ⟨o', _, e'⟩ := eb
            simp only [kF, e, e', intsV_map]
theorem rps_mem {K : PySem.W.Frag} {F : Hp} {xs : List V} {ds : List D} (r : Rps K F xs ds) {x : V} (hx : x ∈ xs) : ∃ d ∈ ds, Rp K F x d := by
  obtain ⟨j, hj⟩ := List.getElem?_of_mem hx
  obtain ⟨d, hd, rd⟩ := r.getV hj
  exact ⟨d, List.mem_of_getElem? hd, rd⟩
theorem its_of {K : PySem.W.Frag} {F H : Hp} (s : Sub F H) {xs : List V} {ds : List D} (r : Rps K F xs ds) (h : sortable ds = true) : Its K H (kF F) xs := by
  obtain ⟨m, hm⟩ := sortable_rank h
  have all : ∀ x ∈ xs, ∃ k, kF F x = k ∧ ((m = 0 ∧ ∃ i, x = V.int i ∧ k = [i]) ∨ (m = 1 ∧ ∃ t n ns, x = V.ref t ∧ k = n :: ns ∧ IsT F t ((n :: ns).map V.int)) ∨ (m = 2 ∧ ∃ t u n ns, x = V.ref t ∧ k = n :: ns ∧ IsT F t [.int n, .ref u] ∧ IsT F u (ns.map V.int))) := fun x hx => by
    obtain ⟨d, hd, rd⟩ := rps_mem r hx
    exact ⟨_, rank_rp (hm d hd) rd⟩
  by_cases h0 : m = 0
  · refine .inl fun x hx => ?_
    obtain ⟨k, e, z⟩ := all x hx
    rcases z with ⟨_, i, a1, a2⟩ | ⟨z, _⟩ | ⟨z, _⟩
    · exact ⟨i, a1, e.trans a2⟩
    · omega
    · omega
  · by_cases h1 : m = 1
    · refine .inr (.inl fun x hx => ?_)
      obtain ⟨k, e, z⟩ := all x hx
      rcases z with ⟨z, _⟩ | ⟨_, t, n, ns, a1, a2, a3⟩ | ⟨z, _⟩
      · omega
      · exact ⟨t, n, ns, a1, e.trans a2, (s.tup a3).sq⟩
      · omega
    · refine .inr (.inr fun x hx => ?_)
      obtain ⟨k, e, z⟩ := all x hx
      rcases z with ⟨z, _⟩ | ⟨z, _⟩ | ⟨_, t, u, n, ns, a1, a2, a3, a4⟩
      · omega
      · omega
      · exact ⟨t, u, n, ns, a1, e.trans a2, (s.tup a3).sq, (s.tup a4).sq⟩
theorem rps_perm {K : PySem.W.Frag} {F : Hp} {ys xs : List V} (p : ys.Perm xs) : ∀ {ds : List D}, Rps K F xs ds → ∃ es, es.Perm ds ∧ Rps K F ys es := by
  induction p with
  | nil => exact fun r => ⟨_, .refl _, r⟩
  | cons x _ ih =>
    intro ds r
    cases r with
    | cons h1 h2 =>
      obtain ⟨es, p, r⟩ := ih h2
      exact ⟨_, p.cons _, .cons h1 r⟩
  | swap x y l =>
    intro ds r
    cases r with
    | cons h1 h2 =>
      cases h2 with
      | cons h2 h3 => exact ⟨_, .swap .., .cons h2 (.cons h1 h3)⟩
  | trans _ _ ih1 ih2 =>
    intro ds r
    obtain ⟨es, p, r⟩ := ih2 r
    obtain ⟨fs, q, r⟩ := ih1 r
    exact ⟨fs, q.trans p, r⟩
theorem rps_srt {K : PySem.W.Frag} {F : Hp} {m : Nat} : ∀ {ys : List V} {es : List D}, Rps K F ys es → (∀ d ∈ es, Rank d (kL d) m) → SrtO.Srtd (ltV (kF F)) ys → SrtO.Srtd ltD es
  | _, _, .nil, _, _ => List.Pairwise.nil
  | y :: ys, e :: es, .cons h r, hk, hs => by
    have hs' := List.pairwise_cons.mp hs
    refine List.pairwise_cons.mpr ⟨fun d hd => ?_, rps_srt r (fun d hd => hk d (List.mem_cons_of_mem _ hd)) hs'.2⟩
    obtain ⟨j, hj⟩ := List.getElem?_of_mem hd
    obtain ⟨v, hv, rv⟩ := r.get hj
    have q := hs'.1 v (List.mem_of_getElem? hv)
    show HT.lexLt (kL d) (kL e) = false
    rw [← (rank_rp (hk e List.mem_cons_self) h).1, ← (rank_rp (hk d (List.mem_cons_of_mem _ hd)) rv).1]
    exact q
section
variable {X : Cx}
theorem sort_done {K : PySem.W.Frag} {F H : Hp} {Q : VK} {d : D} {xs : List V} {ds : List D} (s : Sub F H) (r : Rps K F xs ds) (e : sortS ds = .ok d) (g : Gives K F H d Q) :
    ∃ k, Its K H k xs ∧ ∀ ys p, ys.Perm xs → SrtO.Srtd (ltV k) ys → H p = none → Q (.ref p) (upd H p (.lst ys)) := by
  unfold sortS at e
  split at e
  · rename_i hs
    cases e
    refine ⟨kF F, its_of s r hs, fun ys p hp hy hn => ?_⟩
    obtain ⟨es, pe, re⟩ := rps_perm hp r
    obtain ⟨m, hm⟩ := sortable_rank hs
    have eq := sortD_uniq hs pe (rps_srt re (fun d hd => hm d (pe.mem_iff.mp hd)) hy)
    rw [← eq] at g
    have x := Ext.laid (.lst ys) s hn
    exact g _ _ _ x (.lst upd_same (re.mono x.grow))
  · cases e
theorem rps_ints {K : PySem.W.Frag} {F : Hp} : ∀ k : List Int, Rps K F (k.map V.int) (k.map D.int)
  | [] => .nil
  | n :: k => .cons (.int n) (rps_ints k)
theorem rows_rps {K : PySem.W.Frag} {F : Hp} : ∀ {rows : List Row} {es : List (D × D)}, RkT K F rows es → Rps K F (rows.map fun r => V.ref r.2.1) (es.map (·.1))
  | _, _, .nil => .nil
  | _, _, .cons t _ r => .cons (.tup t (rps_ints _)) (rows_rps r)
theorem kvs_rps {K : PySem.W.Frag} {F : Hp} : ∀ {kvs : List (Key × V)} {es : List (D × D)}, RkK K F kvs es → Rps K F (kvs.map fun r => kV r.1) (es.map (·.1))
  | _, _, .nil => .nil
  | _, _, .cons (k := .inl i) _ r => .cons (.int i) (kvs_rps r)
  | _, _, .cons (k := .inr x) _ r => .cons (.str x) (kvs_rps r)
theorem bi_sorted (hc : X.calm = true) (hu : X.A.units + 2 < cLine) : CallR X (.builtin "sorted") (rBi X.K .sorted) := by
  refine CallR.imp (cr_sortX hc hu) fun vs H Q _ h => ?_
  obtain ⟨F, ds, d, s, r, e, g⟩ := h
  obtain ⟨v, a, rfl, rfl, h1⟩ := one_of r e (by simp)
  clear r
  cases h1 <;> simp only [biS] at e <;> try cases e
  · rename_i ea r
    obtain ⟨k, h1, h2⟩ := sort_done s r e g
    exact ⟨_, _, k, rfl, .inr (.inl (s.tup ea).sq), h1, h2⟩
  · rename_i ea r
    obtain ⟨k, h1, h2⟩ := sort_done s r e g
    exact ⟨_, _, k, rfl, .inl (SqL.of (s.lst ea)), h1, h2⟩
  · rename_i ea r
    obtain ⟨k, h1, h2⟩ := sort_done s (kvs_rps r) e g
    exact ⟨_, _, k, rfl, .inr (.inr (.inr (.inl ⟨_, s.dK ea, rfl⟩))), h1, h2⟩
  · rename_i ea r
    obtain ⟨k, h1, h2⟩ := sort_done s (rows_rps r) e g
    exact ⟨_, _, k, rfl, .inr (.inr (.inl ⟨_, s.dT ea, rfl⟩)), h1, h2⟩
end
end Pan

/-! Panestacks, part D9: a dict's keys, walked by a comprehension. -/
namespace Pan
open PySem PySem.Spec L2
open PyProof.Rows hiding St
/-! ### locks -/
/-- F' is F, but for the dict at a, which may be locked here and not there -/
structure Swap (a : Addr) (u : HO) (F F' : Hp) : Prop where
  oth : ∀ b, b ≠ a → F' b = F b
  here : Rd F a u
  there : Rd F' a u
  dic : isDic u
theorem rd_dic {F : Hp} {a : Addr} {u v : HO} (d : isDic u) (h : Rd F a u) (h' : Rd F a v) (d' : isDic v) : u = v := by
  rcases h with h | ⟨o, h⟩ <;> rcases h' with h' | ⟨o', h'⟩ <;> rw [h] at h' <;> cases h' <;> first | rfl | exact d.elim | exact d'.elim
theorem Swap.rd {a b : Addr} {u v : HO} {F F' : Hp} (s : Swap a u F F') (h : Rd F b v) (d : isDic v) : Rd F' b v := by
  by_cases e : b = a
  · subst e
    rw [rd_dic d h s.here s.dic]
    exact s.there
  · unfold Rd
    rw [s.oth b e]
    exact h
theorem Swap.ne {a b : Addr} {u v : HO} {F F' : Hp} (s : Swap a u F F') (h : F b = some v) (h1 : v ≠ u) (h2 : ∀ o, v ≠ .frz o u) : F' b = some v := by
  rw [s.oth b ?_]
  · exact h
  · intro e
    subst e
    rcases s.here with z | ⟨o, z⟩ <;> rw [h] at z <;> cases z
    · exact h1 rfl
    · exact h2 _ rfl
theorem Swap.isT {a b : Addr} {u : HO} {F F' : Hp} {xs : List V} (s : Swap a u F F') (h : IsT F b xs) : IsT F' b xs := by
  obtain ⟨o, d, e⟩ := h
  refine ⟨o, d, s.ne e ?_ ?_⟩
  · intro z
    have := s.dic
    rw [← z] at this
    exact this.elim
  · intro o' z
    cases z
    exact s.dic.elim
mutual
theorem Rp.swap {K : PySem.W.Frag} {a : Addr} {u : HO} {F F' : Hp} (s : Swap a u F F') : ∀ {v : V} {d : D}, Rp K F v d → Rp K F' v d
  | _, _, .non => .non
  | _, _, .bl b => .bl b
  | _, _, .int i => .int i
  | _, _, .str x => .str x
  | _, _, .ty n => .ty n
  | _, _, .scr (a := b) h => .scr (by
    have nd : ∀ xs : List V, ¬ isDic (.lst xs) := fun xs z => z
    rcases h with (h | ⟨o, h⟩) | h
    · exact .inl (.inl (s.ne h (fun z => by have := s.dic; rw [← z] at this; exact this) (fun o z => by cases z)))
    · exact .inl (.inr ⟨o, s.ne h (fun z => by have := s.dic; rw [← z] at this; exact this) (fun o' z => by cases z; exact s.dic.elim)⟩)
    · exact .inr h)
  | _, _, .tup h r => .tup (s.isT h) (Rps.swap s r)
  | _, _, .prs h r => .prs (s.ne h (fun z => by have := s.dic; rw [← z] at this; exact this) (fun o z => by cases z)) (Rps.swap s r)
  | _, _, .lst h r => .lst (s.ne h (fun z => by have := s.dic; rw [← z] at this; exact this) (fun o z => by cases z)) (Rps.swap s r)
  | _, _, .dK h r => .dK (s.rd h trivial) (RkK.swap s r)
  | _, _, .dT h r => .dT (s.rd h trivial) (RkT.swap s r)
theorem Rps.swap {K : PySem.W.Frag} {a : Addr} {u : HO} {F F' : Hp} (s : Swap a u F F') : ∀ {vs : List V} {ds : List D}, Rps K F vs ds → Rps K F' vs ds
  | _, _, .nil => .nil
  | _, _, .cons h r => .cons (Rp.swap s h) (Rps.swap s r)
theorem RkK.swap {K : PySem.W.Frag} {a : Addr} {u : HO} {F F' : Hp} (s : Swap a u F F') : ∀ {kvs : List (Key × V)} {es : List (D × D)}, RkK K F kvs es → RkK K F' kvs es
  | _, _, .nil => .nil
  | _, _, .cons h r => .cons (Rp.swap s h) (RkK.swap s r)
theorem RkT.swap {K : PySem.W.Frag} {a : Addr} {u : HO} {F F' : Hp} (s : Swap a u F F') : ∀ {kvs : List Row} {es : List (D × D)}, RkT K F kvs es → RkT K F' kvs es
  | _, _, .nil => .nil
  | _, _, .cons t h r => .cons (s.isT t) (Rp.swap s h) (RkT.swap s r)
end
theorem Swap.none {a b : Addr} {u : HO} {F F' : Hp} (s : Swap a u F F') (h : F b = none) : F' b = none := by
  rw [s.oth b ?_]
  · exact h
  · intro e
    subst e
    rcases s.here with z | ⟨o, z⟩ <;> rw [h] at z <;> cases z
/-- a name's place, the dict at a locked otherwise in the heap too -/
theorem SlotR.swap {K : PySem.W.Frag} {a : Addr} {u : HO} {F F' H H' : Hp} (s : Swap a u F F') (hH : ∀ b, b ≠ a → H' b = H b) : ∀ {sl : Slot} {o : Option V}, SlotR K F H sl o → SlotR K F' H' sl o
  | .no, _, _ => trivial
  | .val d, some v, h => Rp.swap s h
  | .own (.lst ds), some (.ref b), ⟨n, xs, e, r⟩ => ⟨s.none n, xs, by rw [hH b (fun z => by subst z; rcases s.here with q | ⟨o, q⟩ <;> rw [n] at q <;> cases q)]; exact e, r.swap s⟩
  | .own (.dic false es), some (.ref b), ⟨n, kvs, e, r⟩ => ⟨s.none n, kvs, by rw [hH b (fun z => by subst z; rcases s.here with q | ⟨o, q⟩ <;> rw [n] at q <;> cases q)]; exact e, r.swap s⟩
  | .own (.dic true es), some (.ref b), ⟨n, kvs, e, r⟩ => ⟨s.none n, kvs, by rw [hH b (fun z => by subst z; rcases s.here with q | ⟨o, q⟩ <;> rw [n] at q <;> cases q)]; exact e, r.swap s⟩
  | .held _ b, some v, h => h
/-! ### the keys walked -/
/-- o is a dict's object whose keys are xs -/
def KeysAt (o : Obj) (d : Addr) (xs : List V) : Prop := (d == sysModules) = false ∧ o.ExactDict ∧ ∃ es ep, o.data = .dict es ep ∧ es.size = xs.length ∧ ∀ (i : Nat) (x : V), xs[i]? = some x → ∃ en : DictEntry, es[i]? = some en ∧ RelV x en.key
def ItK (d : Addr) (o : Obj) (u : HO) (xs : List V) : It :=
  ⟨fun i H => H d = some (.frz o u) ∧ i < xs.length, fun i H x H' => H' = H ∧ xs[i]? = some x, fun i H => H d = some (.frz o u) ∧ xs.length ≤ i⟩
theorem turnK {P : Program} {w : World} {K : PySem.W.Frag} {tg : Expr} {d : Addr} {o : Obj} {u : HO} {es : Array DictEntry} {ep : Nat} {xs : List V} (it : Addr) (hk : KeysAt o d xs) (hod : o.data = .dict es ep) : Turn P w K tg (ItK d o u xs) [it] it (fun i h => h.IsKeyIter it d i xs.length ep) where
  mem := List.mem_singleton.mpr rfl
  obj := fun i h st b hb => by
    cases List.mem_singleton.mp hb
    obtain ⟨oi, e, c, dd⟩ := st
    exact ⟨oi, e, fun v z => by rw [dd] at z; cases z⟩
  keep := fun i h h' st k => st.at fun oi e => k it (List.mem_singleton.mpr rfl) oi e
  item := by
    intro X hP hw hK hc i pins s σ H E I hf st hg
    subst hP hw hK
    obtain ⟨hd, hi⟩ := hg
    obtain ⟨f0, f1, f2, f3, f4, f5⟩ := hf it (List.mem_singleton.mpr rfl)
    have hgd : s.heap.get? d = some o := (show ObjOk X.prog X.w H s.heap d (.frz o u) from I.hok d _ hd).1
    obtain ⟨hs, hx, es', ep', hdt, hsz, ent⟩ := hk
    obtain ⟨rfl, rfl⟩ := dict_ep hod hdt
    obtain ⟨en, hen, rk⟩ := ent i xs[i] (List.getElem?_eq_getElem hi)
    refine next_key_item st hgd hdt hsz hen fun h' st' sb => ?_
    have I1 : Inv X pins σ H { s with heap := h' } := I.turned (t' := s.toks) (fun b ob hb e => (sb.2 b hb).trans e) f0 f1 f3 f4 f5
    obtain ⟨oi, e, c, dd⟩ := id st'
    exact ⟨en.key, rfl, go_of (s := { s with heap := h' }) e c dd (by decide) ⟨xs[i], H, I1, rk, ⟨rfl, List.getElem?_eq_getElem hi⟩, st', fun b hb => (hf b hb).1⟩⟩
  done := by
    intro X hP hw hK hc i pins s σ H E I hf st hg
    subst hP hw hK
    obtain ⟨hd, hi⟩ := hg
    obtain ⟨f0, f1, f2, f3, f4, f5⟩ := hf it (List.mem_singleton.mpr rfl)
    have hgd : s.heap.get? d = some o := (show ObjOk X.prog X.w H s.heap d (.frz o u) from I.hok d _ hd).1
    obtain ⟨hs, hx, es', ep', hdt, hsz, ent⟩ := hk
    obtain ⟨rfl, rfl⟩ := dict_ep hod hdt
    exact next_key_end (I.ok.hd hc) st hgd hdt hsz hi fun h' eb => ⟨rfl, I.turned (t' := s.toks) (fun b ob hb e => eb b ob hb e) f0 f1 f3 f4 f5⟩
  self := fun A i s Q E st h => by
    refine wpAny_pyIter_slot st.typeIs F.slot_dict_keyiterator_iter (wpAny_call_entry F.slot_dict_keyiterator_iter st.typeIs F.entry_dict_keyiterator_iter ?_ (F.args_dict_keyiterator_iter_1 _))
    exact wpAny_pure ⟨_, rfl, "dict_keyiterator", _, st.typeIs, F.slot_dict_keyiterator_next.lookup, h⟩
/-- the keys of a dict of either kind -/
inductive KeysU (d : Addr) : HO → List V → Prop
  | k (kvs : List (Key × V)) : KeysU d (.dK kvs) (kvs.map fun r => kV r.1)
  | t (rows : List Row) : KeysU d (dO d rows) (rows.map fun r => V.ref r.2.1)
section
variable {X : Cx} {pins : List (Addr × Obj)} {σ : St} {H : Hp} {s : Shared}
theorem keysAt_of (I : Inv X pins σ H s) {d : Addr} {o : Obj} {u : HO} {xs : List V} (h : H d = some (.frz o u)) (ku : KeysU d u xs) : KeysAt o d xs := by
  cases ku with
  | k kvs =>
    obtain ⟨hd, z, hs, vs, kv, o', es, ep, ho, hx, hdt, _, pr, _⟩ := I.hok d _ h
    rw [hd] at ho
    cases ho
    have vl := key_vals kv pr
    refine ⟨hs, hx, es, ep, hdt, ?_, fun i x hxx => ?_⟩
    · have := vl.length
      simpa using this.symm
    · obtain ⟨u, hu, ru⟩ := vl.get hxx
      rw [List.getElem?_map, Array.getElem?_toList] at hu
      cases q : es[i]? with
      | none => rw [q] at hu; cases hu
      | some en => rw [q] at hu; cases hu; exact ⟨en, rfl, ru⟩
  | t rows =>
    obtain ⟨hd, ⟨z, hs, xs, pr, o', es, ep, ho, hx, hdt, he, hn⟩, _⟩ := I.hok d _ h
    rw [hd] at ho
    cases ho
    refine ⟨hs, hx, es, ep, hdt, ?_, fun i x hxx => ?_⟩
    · have l1 := congrArg List.length he
      have l2 := Paired.length pr
      rw [Array.length_toList, List.length_map] at l1
      rw [List.length_map]
      omega
    · rw [List.getElem?_map] at hxx
      cases q : rows[i]? with
      | none => rw [q] at hxx; cases hxx
      | some r =>
        rw [q] at hxx
        cases hxx
        obtain ⟨b, hb, e1, e2, e3⟩ := paired_get pr q
        refine ⟨⟨hT b.1, .ref b.2.1, b.2.2⟩, ?_, ?_⟩
        · rw [← Array.getElem?_toList, he, List.getElem?_map, hb]
          rfl
        · show RelV (.ref r.2.1) (.ref b.2.1)
          rw [e2]
          rfl
end
section
variable {X : Cx} {tg e : Expr} {td : TE}
def iKeysX (td : TE) : TI := fun σ H R => td σ H fun x H1 => ∃ d o u xs, x = .ref d ∧ H1 d = some (.frz o u) ∧ KeysU d u xs ∧ R (ItK d o u xs) H1
theorem pi_keysX (he : PE X e td) : PI X tg e (iKeysX td) := by
  refine ⟨fun pins s σ H R I h => ?_⟩
  refine thn (he.run pins s σ H _ I h) fun v s1 ⟨x, H1, I1, rx, d, o, u, xs, ex, hd, ku, q⟩ => ?_
  subst ex
  cases (show v = Value.ref d from rx)
  have hk := keysAt_of I1 hd ku
  have hgd : s1.heap.get? d = some o := (show ObjOk X.prog X.w H1 s1.heap d (.frz o u) from I1.hok d _ hd).1
  obtain ⟨hs, hx, es, ep, hdt, hsz, _⟩ := id hk
  refine iter_keys hs hgd hx hdt (pi_one (tk := s1.toks) I1 _ (turnK _ hk hdt) ⟨_, Heap.get?_push_size _ rfl, rfl, ?_⟩ q)
  rw [hsz]
  rfl
end
theorem walks_keys {K : PySem.W.Frag} {F : Hp} {d : Addr} {o : Obj} {u : HO} {xs : List V} {ds : List D} (h : F d = some (.frz o u)) (r : Rps K F xs ds) (hz : ds.length ≤ sizeLine) : WalksD K (ItK d o u xs) F ds where
  size := hz
  stop := fun F1 H1 g s => by
    rcases s _ _ (g _ _ h) with q | ⟨m, _⟩
    · exact ⟨q, by rw [r.length]; exact Nat.le_refl _⟩
    · exact m.elim
  go := fun i d' hd F1 H1 g s => by
    obtain ⟨v, hv, rv⟩ := r.get hd
    rcases s _ _ (g _ _ h) with q | ⟨m, _⟩
    · refine ⟨⟨q, (List.getElem?_eq_some_iff.mp hv).1⟩, fun x H2 y => ?_⟩
      obtain ⟨rfl, y⟩ := y
      rw [hv] at y
      cases y
      exact ⟨F1, Ext.refl s, rv.mono g⟩
    · exact m.elim
/-! ### a comprehension over a dict's keys -/
theorem upd_id {H : Hp} {a : Addr} {u : HO} (h : H a = some u) : upd H a u = H := by
  funext b
  by_cases e : b = a
  · subst e; rw [upd_same, h]
  · rw [upd_ne e]
/-- into a lock -/
theorem lock_in {K : PySem.W.Frag} {e : Env} {σ : St} {F H : Hp} {a : Addr} {u : HO} (vr : VR K e σ F H) (hF : Rd F a u) (du : isDic u) (o : Obj) : Swap a u F (upd F a (.frz o u)) ∧ VR K e σ (upd F a (.frz o u)) (upd H a (.frz o u)) := by
  have sw : Swap a u F (upd F a (.frz o u)) := ⟨fun b hb => upd_ne hb, hF, .inr ⟨o, upd_same⟩, du⟩
  refine ⟨sw, fun b v hv => ?_, vr.len, fun i sl ov h1 h2 => (vr.slot i sl ov h1 h2).swap sw fun b hb => upd_ne hb⟩
  by_cases q : b = a
  · subst q
    rw [upd_same] at hv ⊢
    exact .inl hv
  · rw [upd_ne q] at hv ⊢
    exact vr.sub b v hv
/-- and out of it -/
theorem lock_out {F H F' H' : Hp} {a : Addr} {u x : HO} (s : Sub F H) (hF : F a = some u) (hH : H a = some x) (hx : x = u ∨ ∃ o, x = .frz o u) (du : isDic u) {o : Obj} (xt : Ext (upd F a (.frz o u)) (upd H a (.frz o u)) F' H') :
    Ext F H (upd F' a u) (upd H' a x) where
  same := fun b v e => by
    by_cases q : b = a
    · subst q; rw [upd_same]; rw [hH] at e; exact e
    · rw [upd_ne q]; exact xt.same b v (by rw [upd_ne q]; exact e)
  grow := fun b v e => by
    by_cases q : b = a
    · subst q; rw [upd_same]; rw [hF] at e; exact e
    · rw [upd_ne q]; exact xt.grow b v (by rw [upd_ne q]; exact e)
  sub := fun b v e => by
    by_cases q : b = a
    · subst q
      rw [upd_same] at e ⊢
      cases e
      rcases hx with rfl | ⟨o, rfl⟩
      · exact .inl rfl
      · exact .inr ⟨du, o, rfl⟩
    · rw [upd_ne q] at e ⊢
      exact xt.sub b v e
  new := fun b v e => by
    by_cases q : b = a
    · subst q; rw [upd_same] at e; exact .inl (hF.trans e)
    · rw [upd_ne q] at e
      rcases xt.new b v e with z | z | z
      · rw [upd_ne q] at z; exact .inl z
      · rw [upd_ne q] at z; exact .inr (.inl z)
      · exact .inr (.inr z)
section
variable {X : Cx} {W : WX} {cl : Nat → Value} {elt tg : Expr} {ifs : List Expr} {scope : Scope} {own : List (Str × Nat)} {pos p : Pos} {g : G} {rt : Env → R Bool} {re : Env → R D} {i : Nat} {x : Str}
theorem imp_lcK {K : PySem.W.Frag} {σ : St} {H : Hp} {Q : VK} {vs : List Nat} (gd : Good K H) (hv : ∀ i ∈ slotsG g, i ∈ vs)
    (h : tN K W cl (fun e => do let ds ← (do let x ← getV e i; itS .keys [x]); let r ← (lcM ds (lcF g vs rt re e)).calm; .ok (.lst r)) σ H Q) :
    tLockE (tLc (iKeysX (tVar i)) (gOf K g) (tT K W0 cl rt) (tE K W0 cl re) vs) σ H Q ∨ tLc (iKeysX (tVar i)) (gOf K g) (tT K W0 cl rt) (tE K W0 cl re) vs σ H Q := by
  obtain ⟨e, F, vr, w⟩ := h
  dsimp only at w
  cases hx : getV e i with
  | bad => rw [hx] at w; exact w.elim
  | exc c =>
    exfalso
    unfold getV at hx
    split at hx <;> cases hx
  | ok d =>
    rw [hx] at w
    have he : e[i]? = some (.val d) := by
      unfold getV at hx
      split at hx
      · rename_i d' hd; cases hx; exact hd
      · cases hx
    obtain ⟨v, hσ, rp⟩ := vr.get he
    cases d with
    | dic t es =>
      have w1 : Wp W cl ((lcM (es.map (·.1)) (lcF g vs rt re e)).calm >>= fun r => .ok (.lst r)) σ F H fun d F' H' => ∀ a, NewR K F' H' H a d → Q (.ref a) H' := w
      cases hr : lcM (es.map (·.1)) (lcF g vs rt re e) with
      | bad => rw [hr] at w1; exact w1.elim
      | exc c => rw [hr] at w1; exact w1.elim
      | ok r =>
        rw [hr] at w1
        have w2 : ∀ F' H', Ext F H F' H' → ∀ a, NewR K F' H' H a (.lst r) → Q (.ref a) H' := w1
        obtain ⟨a, u, xs, ev, hF, du, ku, mu, rk, hz⟩ : ∃ a u xs, v = .ref a ∧ Rd F a u ∧ isDic u ∧ KeysU a u xs ∧ Mut (some u) ∧ Rps K F xs (es.map (·.1)) ∧ (es.map (·.1)).length ≤ sizeLine := by
          cases rp with
          | dK h r =>
            have := gd.dK _ _ (vr.sub.dK h)
            exact ⟨_, _, _, rfl, h, trivial, .k _, trivial, kvs_rps r, by rw [← (kvs_rps r).length, List.length_map]; exact this⟩
          | dT h r =>
            have := gd.dT _ _ (vr.sub.dT h)
            exact ⟨_, _, _, rfl, h, trivial, .t _, trivial, rows_rps r, by rw [← (rows_rps r).length, List.length_map]; exact this⟩
        subst ev
        have hRd : Rd H a u := by
          rcases hF with q | ⟨o, q⟩
          · rcases vr.sub _ _ q with z | ⟨_, o, z⟩
            · exact .inl z
            · exact .inr ⟨o, z⟩
          · rcases vr.sub _ _ q with z | ⟨m, _⟩
            · exact .inr ⟨o, z⟩
            · exact m.elim
        rcases hRd with hH | ⟨o, hH⟩
        · -- to be locked
          have hF' : F a = some u := by
            rcases hF with q | ⟨o, q⟩
            · exact q
            · rcases vr.sub _ _ q with z | ⟨m, _⟩
              · rw [hH] at z
                cases z
              · exact m.elim
          refine .inl ⟨a, u, hH, mu, fun od => ⟨.ref a, hσ, a, od, u, xs, rfl, upd_same, ku, fun D hD => ?_⟩⟩
          obtain ⟨sw, vr2⟩ := lock_in vr hF du od
          have hDa : D ≠ a := fun z => by rw [z, upd_same] at hD; cases hD
          refine lc_walk (Q := fun v H' => H' a = some (.frz od u) ∧ Q v (upd H' a u)) hv vr2 vr2.sub (walks_keys upd_same (rk.swap sw) hz) hD hr fun F' H' xt ⟨acc, a1, a2, a3⟩ => ?_
          have hl : H' a = some (.frz od u) := xt.same _ _ upd_same
          refine ⟨hl, ?_⟩
          have xo := lock_out (x := u) vr.sub hF' hH (.inl rfl) du xt
          have sb : Swap a u F' (upd F' a u) := ⟨fun b hb => upd_ne hb, .inr ⟨od, xt.grow _ _ upd_same⟩, .inl upd_same, du⟩
          exact w2 _ _ xo D ⟨by rw [upd_ne hDa] at hD; exact hD, by rw [upd_ne hDa]; exact a1, acc, by rw [upd_ne hDa]; exact a2, a3.swap sb⟩
        · -- locked already
          refine .inr ⟨.ref a, hσ, a, o, u, xs, rfl, hH, ku, fun D hD => ?_⟩
          have hDa : D ≠ a := fun z => by rw [z, hH] at hD; cases hD
          obtain ⟨sw, vr2⟩ := lock_in vr hF du o
          rw [upd_id hH] at vr2
          refine lc_walk hv vr2 vr2.sub (walks_keys upd_same (rk.swap sw) hz) hD hr fun F' H' xt ⟨acc, a1, a2, a3⟩ => ?_
          rcases hF with hF' | ⟨o', hF'⟩
          · have hl : H' a = some (.frz o u) := xt.same _ _ hH
            have xt' : Ext (upd F a (.frz o u)) (upd H a (.frz o u)) F' H' := by rw [upd_id hH]; exact xt
            have xo := lock_out (x := .frz o u) vr.sub hF' hH (.inr ⟨o, rfl⟩) du xt'
            rw [upd_id hl] at xo
            have sb : Swap a u F' (upd F' a u) := ⟨fun b hb => upd_ne hb, .inr ⟨o, xt.grow _ _ upd_same⟩, .inl upd_same, du⟩
            exact w2 _ _ xo D ⟨hD, by rw [upd_ne hDa]; exact a1, acc, a2, a3.swap sb⟩
          · have eo : F a = some (.frz o u) := by
              rcases vr.sub _ _ hF' with z | ⟨m, _⟩
              · rw [hH] at z; cases z; exact hF'
              · exact m.elim
            rw [upd_id eo] at xt
            exact w2 _ _ xt D ⟨hD, a1, acc, a2, a3⟩
    | _ => exact w.elim
theorem cn_lcK (hc : X.calm = true) (hN : X.N.Nodup) (hi : X.N[i]? = some x) (hvs : Vis X.env.scope x) (hd : (x == ("__debug__" : Str)) = false) (hcd : (x == ("__classdict__" : Str)) = false) (ok : BlkOk X.N X.env.scope scope own) (hv : ∀ i ∈ slotsG g, i ∈ own.map (·.2))
    (hg : ∀ (s : Shared) (H : Hp) (C : Addr) (cl : List (Str × Addr)) (fp : List Addr), PG (X.blk s H scope (compEnvC scope cl C X.env) fp) tg (gOf X.K g))
    (ht : ∀ (s : Shared) (H : Hp) (C : Addr) (cs : List (Str × Addr)) (fp : List Addr), PTs (X.blk s H scope (compEnvC scope cs C X.env) fp) ifs (tT X.K W0 cl rt))
    (he : ∀ (s : Shared) (H : Hp) (C : Addr) (cs : List (Str × Addr)) (fp : List Addr), PE (X.blk s H scope (compEnvC scope cs C X.env) fp) elt (tE X.K W0 cl re)) :
    PE X (.ListComp elt [⟨tg, .Name x p, ifs, 0⟩] scope pos) (tN X.K W cl fun e => do let ds ← (do let x ← getV e i; itS .keys [x]); let r ← (lcM ds (lcF g (own.map (·.2)) rt re e)).calm; .ok (.lst r)) :=
  PE.imp (PE.or (pe_lock (pe_lc hc hN (pi_keysX (pe_var hi hvs hd hcd)) ok hg ht he (fun _ => rfl))) (pe_lc hc hN (pi_keysX (pe_var hi hvs hd hcd)) ok hg ht he (fun _ => rfl))) fun σ H Q gd q => imp_lcK gd hv q
end
end Pan

/-! Panestacks, part D10: dict comprehensions. -/
namespace Pan
open PySem PySem.Spec L2
open PyProof.Rows hiding St
section
variable {K : PySem.W.Frag} {F H F' H' : Hp}
def dcF (g : G) (vs : List Nat) (rt : Env → R Bool) (rk re : Env → R D) (e : Env) : D → R (List D) := fun d => do
  let e1 ← asgG g d (wipeE e vs)
  let c ← rt e1
  if c then do let y ← rk e1; let z ← re e1; if keyD y then .ok [.prs [y, z]] else .bad else .ok []
theorem imp_dc {W : WX} {cl : Nat → Value} {σ : St} {Q : VK} {g : G} {vs : List Nat} {rit : Env → R (List D)} {rt : Env → R Bool} {rk re : Env → R D} (hv : ∀ i ∈ slotsG g, i ∈ vs)
    (h : tN K W cl (fun e => do let ds ← rit e; let r ← (lcM ds (dcF g vs rt rk re e)).calm; .ok (.dic false (putAll r []))) σ H Q) :
    tDc (tIt K W cl rit) (gOf K g) (tT K W0 cl rt) (tE K W0 cl rk) (tE K W0 cl re) vs σ H Q := by
  obtain ⟨e, F, vr, w⟩ := h
  refine ⟨e, F, vr, w.bind.mono fun ds F1 H1 x1 w1 J wk D hD => ?_⟩
  cases hr : lcM ds (dcF g vs rt rk re e) with
  | bad => rw [hr] at w1; exact w1.elim
  | exc c => rw [hr] at w1; exact w1.elim
  | ok r =>
    rw [hr] at w1
    have w2 : Wp W cl (.ok (.dic false (putAll r []))) σ F1 H1 fun d F' H' => ∀ a, NewR K F' H' H a d → Q (.ref a) H' := w1
    have hD0 : H D = none := x1.same.free hD
    refine ⟨fun i m Hi => i + m = ds.length ∧ ∃ Fi acc done rest, Ext F1 H1 Fi Hi ∧ Hi D = some (.dK acc) ∧ Fi D = none ∧ RkK K Fi acc done ∧ lcM (ds.drop i) (dcF g vs rt rk re e) = .ok rest ∧ putAll r [] = putAll rest done ∧ done.length ≤ i,
      ⟨ds.length, by omega, F1, [], [], r, Ext.made _ x1.sub hD, upd_same, x1.sub.none hD, .nil, hr, rfl, Nat.zero_le _⟩, fun i m Hi hW => ?_⟩
    obtain ⟨him, Fi, acc, done, rest, xi, hDi, fDi, ra, hrest, hrr, hdl⟩ := hW
    by_cases hi : i < ds.length
    · have hd : ds[i]? = some ds[i] := List.getElem?_eq_getElem hi
      have hdrop : ds.drop i = ds[i] :: ds.drop (i + 1) := List.drop_eq_getElem_cons hi
      rw [hdrop] at hrest
      obtain ⟨xs, rest', h1, h2, rfl⟩ := lcM_cons hrest
      obtain ⟨hgo, hy⟩ := wk.go i ds[i] hd Fi Hi xi.grow xi.sub
      refine .inr ⟨hgo, _, fun H' hN => ⟨m - 1, by omega, hN⟩, fun x H' y => ?_⟩
      obtain ⟨F2, x2, rx⟩ := hy x H' y
      unfold dcF at h1
      obtain ⟨e1, h3, h1⟩ := bind_eq_ok h1
      obtain ⟨c, h4, h1⟩ := bind_eq_ok h1
      have vr2 : VR K (wipeE e vs) (wipe σ vs) F2 H' := (((vr.mono x1).mono xi).mono x2).wipe vs
      refine gOf_ok h3 rx vr2 fun σ2 vr3 hw _ => ⟨?_, e1, F2, vr3, ?_⟩
      · rw [hw vs hv]
        exact wipe_wipe
      rw [h4]
      intro F3 H3 x3
      have hD3 : H3 D = some (.dK acc) := x3.same _ _ (x2.same _ _ hDi)
      have fD2 : F2 D = none := x2.keepNone fDi hDi (by intro _ z; cases z)
      have fD3 : F3 D = none := x3.keepNone fD2 (x2.same _ _ hDi) (by intro _ z; cases z)
      cases c with
      | false =>
        refine iteF ?_
        cases h1
        exact ⟨by omega, F3, acc, done, rest', (xi.trans x2).trans x3, hD3, fD3, (ra.mono x2.grow).mono x3.grow, h2, hrr, by omega⟩
      | true =>
        refine iteT ⟨e1, F3, vr3.mono x3, ?_⟩
        obtain ⟨y, h5, h1⟩ := bind_eq_ok h1
        obtain ⟨z, h6, h1⟩ := bind_eq_ok h1
        split at h1
        case isFalse => cases h1
        rename_i hkey
        cases h1
        rw [h5]
        intro F4 H4 x4 v rv
        refine ⟨e1, F4, (vr3.mono x3).mono x4, ?_⟩
        rw [h6]
        intro F5 H5 x5 v' rv'
        have hD4 : H4 D = some (.dK acc) := x4.same _ _ hD3
        have fD4 : F4 D = none := x4.keepNone fD3 hD3 (by intro _ z; cases z)
        have hD5 : H5 D = some (.dK acc) := x5.same _ _ hD4
        have fD5 : F5 D = none := x5.keepNone fD4 hD4 (by intro _ z; cases z)
        obtain ⟨key, rfl, rfl⟩ := keyD_of rv hkey
        have ra5 := (((ra.mono x2.grow).mono x3.grow).mono x4.grow).mono x5.grow
        refine ⟨acc, key, rfl, hD5, ?_, by omega, F5, putK acc key v', dput (kD key) z done, rest', ((((xi.trans x2).trans x3).trans x4).trans x5).poke hD fD5, upd_same, fD5, dput_K key rv' ra5, h2, hrr, ?_⟩
        · rw [ra.length]
          have := wk.size
          omega
        · have := dput_len (kD key) z done
          omega
    · have e0 : i = ds.length := by omega
      subst e0
      rw [List.drop_length] at hrest
      cases hrest
      exact .inl ⟨wk.stop Fi Hi xi.grow xi.sub, w2 Fi Hi xi D ⟨hD0, fDi, acc, hDi, by rw [hrr]; exact ra⟩⟩
end
section
variable {X : Cx} {W : WX} {cl : Nat → Value} {kx vx tg iter : Expr} {ifs : List Expr} {scope : Scope} {own : List (Str × Nat)} {pos : Pos} {g : G} {rit : Env → R (List D)} {rt : Env → R Bool} {rk re : Env → R D}
theorem cn_dc (hc : X.calm = true) (hN : X.N.Nodup) (hi : PI X tg iter (tIt X.K W cl rit)) (ok : BlkOk X.N X.env.scope scope own) (hv : ∀ i ∈ slotsG g, i ∈ own.map (·.2))
    (hg : ∀ (s : Shared) (H : Hp) (C : Addr) (cl : List (Str × Addr)) (fp : List Addr), PG (X.blk s H scope (compEnvC scope cl C X.env) fp) tg (gOf X.K g))
    (ht : ∀ (s : Shared) (H : Hp) (C : Addr) (cs : List (Str × Addr)) (fp : List Addr), PTs (X.blk s H scope (compEnvC scope cs C X.env) fp) ifs (tT X.K W0 cl rt))
    (hk : ∀ (s : Shared) (H : Hp) (C : Addr) (cs : List (Str × Addr)) (fp : List Addr), PE (X.blk s H scope (compEnvC scope cs C X.env) fp) kx (tE X.K W0 cl rk))
    (he : ∀ (s : Shared) (H : Hp) (C : Addr) (cs : List (Str × Addr)) (fp : List Addr), PE (X.blk s H scope (compEnvC scope cs C X.env) fp) vx (tE X.K W0 cl re)) (hs : ∀ x, foldedSetIterable iter X.env x = pure x) :
    PE X (.DictComp kx vx [⟨tg, iter, ifs, 0⟩] scope pos) (tN X.K W cl fun e => do let ds ← rit e; let r ← (lcM ds (dcF g (own.map (·.2)) rt rk re e)).calm; .ok (.dic false (putAll r []))) :=
  PE.imp (pe_dc hc hN hi ok hg ht hk he hs) fun σ H Q _ q => imp_dc hv q
end
/-- name = {k: v for ..} on one line, the name a local -/
theorem ps_setDc {X : Cx} {i : Nat} {y : Str} {py : Pos} {kx vx tg iter : Expr} {ifs : List Expr} {scope : Scope} {own : List (Str × Nat)} {pos spos : Pos} {wi : TI} {g : TG} {tt : TT} {tk tv : TE} (hc : X.calm = true) (hN : X.N.Nodup) (hy : X.N[i]? = some y) (hyl : X.env.scope.names.lookup y = some .local)
    (hsw : swapsWith (.DictComp kx vx [⟨tg, iter, ifs, 0⟩] scope pos) (some (.Name y py)) spos.line X.env = pure true) (hi : PI X tg iter wi) (ok : BlkOk X.N X.env.scope scope own)
    (hg : ∀ (s : Shared) (H : Hp) (C : Addr) (cl : List (Str × Addr)) (fp : List Addr), PG (X.blk s H scope (compEnvC scope cl C X.env) fp) tg g)
    (ht : ∀ (s : Shared) (H : Hp) (C : Addr) (cl : List (Str × Addr)) (fp : List Addr), PTs (X.blk s H scope (compEnvC scope cl C X.env) fp) ifs tt)
    (hk : ∀ (s : Shared) (H : Hp) (C : Addr) (cl : List (Str × Addr)) (fp : List Addr), PE (X.blk s H scope (compEnvC scope cl C X.env) fp) kx tk)
    (he : ∀ (s : Shared) (H : Hp) (C : Addr) (cl : List (Str × Addr)) (fp : List Addr), PE (X.blk s H scope (compEnvC scope cl C X.env) fp) vx tv) (hs : ∀ x, foldedSetIterable iter X.env x = pure x) :
    PS X (.Assign [.Name y py] (.DictComp kx vx [⟨tg, iter, ifs, 0⟩] scope pos) spos) (tAsg (tDc wi g tt tk tv (own.map (·.2))) (gName i)) := by
  refine ⟨fun pins s σ H D I h => ?_⟩
  rw [exec_Assign_Name_used _ _ _ _ hsw]
  refine wpAny_bind (wpAny_standAt (wpAny_bind ?_))
  show wpAny _ X.A (do let _ ← comprehension (.DictComp kx vx [⟨tg, iter, ifs, 0⟩] scope pos) scope X.env (firstIterPos [⟨tg, iter, ifs, 0⟩] pos) newDict false (eval iter X.env) (some (assign (.Name y py) X.env))) _ _ s
  have h : tDc wi g tt tk tv (own.map (·.2)) σ H (fun x H1 => gName i x σ H1 D.nx) := h
  refine wpAny_bind (thn (dc_core (Qf := fun _ s' => SP X pins D .next s') hc hN I hi ok hg ht hk he hs h fun d C s' m H' J q hn f => ?_) fun _ s' hq => wpAny_pure (wpAny_pure hq))
  show wpAny _ _ (assign (.Name y py) X.env (.ref d)) _ _ _
  refine wpAny_assign_Name (store_ok2 (v := V.ref d) J hN hy (.inl hyl) rfl (fun s2 J2 ⟨a, sb, ha⟩ => ?_) (.inr hyl))
  obtain ⟨f0, f1, f2, f3, f4, f5⟩ := f
  have ne : C ≠ a := by
    rcases ha with z | z
    · rw [z]; exact f1
    · exact fun e => f4 y a z e.symm
  exact ⟨m, hn.sameBut sb ne, fun h3 sb3 => ⟨_, H', J2.turned (t' := s2.toks) (fun b o hb e => (sb3.2 b hb).trans e) f0 f1 f3 f4 f5, q⟩⟩
end Pan

/-! Panestacks, part D11: dict(pairs) and {k: v}, the keys tuples of ints. -/
namespace Pan
open PySem PySem.Spec L2
open PyProof.Rows hiding St
def rputs (acc rows : List Row) : List Row := rows.foldl (fun a r => rput a r.1 r.2.1 r.2.2) acc
theorem rputs_paired : ∀ {rows : List Row} {ps : List (List Int × Addr × Value)} {acc : List Row} {xs : List (List Int × Addr × Value)}, Paired RowR acc xs → Paired RowR rows ps → Paired RowR (rputs acc rows) (storedAllH xs ps)
  | _, _, _, _, h, .nil => h
  | _, _, _, _, h, .cons (a := r) (b := q) hr t => by
    obtain ⟨e1, e2, e3⟩ := hr
    show Paired RowR (rputs (rput _ r.1 r.2.1 r.2.2) _) (storedAllH (storedH _ q.1 q.2.1 q.2.2) _)
    rw [← e1, ← e2]
    exact rputs_paired (rows_put h r.1 r.2.1 e3) t
theorem rputs_len : ∀ (rows acc : List Row), (rputs acc rows).length ≤ acc.length + rows.length
  | [], acc => Nat.le_refl _
  | r :: rows, acc => by
    have h1 := rputs_len rows (rput acc r.1 r.2.1 r.2.2)
    have h2 := rput_len acc r.1 r.2.1 r.2.2
    show (rputs (rput acc r.1 r.2.1 r.2.2) rows).length ≤ _
    rw [List.length_cons]
    omega
section
variable {X : Cx} {pins : List (Addr × Obj)} {σ : St} {H : Hp} {s : Shared}
theorem pairs_in (I : Inv X pins σ H s) : ∀ {as : List Addr} {rows : List Row}, Paired (fun (p : Addr) (r : Row) => SqT X.K H p [.ref r.2.1, r.2.2] ∧ SqT X.K H r.2.1 (r.1.map V.int)) as rows →
    ∃ ps : List (List Int × Addr × Value), Paired RowR rows ps ∧ ps.length = as.length ∧ (∀ (j : Nat) (q : List Int × Addr × Value), ps[j]? = some q → ∃ b, as[j]? = some b ∧ IsTup s.heap b #[.ref q.2.1, q.2.2]) ∧ ∀ q ∈ ps, SqT X.K H q.2.1 (q.1.map V.int)
  | _, _, .nil => ⟨[], .nil, rfl, fun j q e => by simp at e, fun q h => by cases h⟩
  | _, _, .cons (a := p) (b := r) h t => by
    obtain ⟨ps, pr, hl, hp, hk⟩ := pairs_in I t
    obtain ⟨its, rv, ht, _⟩ := I.tuple h.1
    obtain ⟨u, y, ei, ru, ry⟩ := vals2 rv
    subst ei
    cases (show u = Value.ref r.2.1 from ru)
    refine ⟨(r.1, r.2.1, y) :: ps, .cons ⟨rfl, rfl, ry⟩ pr, by rw [List.length_cons, List.length_cons, hl], fun j q e => ?_, fun q hq => ?_⟩
    · cases j with
      | zero =>
        have e' : (r.1, r.2.1, y) = q := Option.some.inj e
        subst e'
        exact ⟨p, rfl, ht⟩
      | succ j =>
        obtain ⟨b, e1, e2⟩ := hp j q (by simpa using e)
        exact ⟨b, by simpa using e1, e2⟩
    · rcases List.mem_cons.mp hq with e | hq
      · subst e; exact h.2
      · exact hk q hq
end
section
variable {X : Cx}
/-- dict(pairs) -/
theorem call_dictT (hc : X.calm = true) (hu : X.A.units + 3 < cLine) : CallR X (.type "dict") (fun xs H Q => ∃ (a : Addr) (as : List Addr) (rows : List Row), xs = [.ref a] ∧ SqL X.K H a (as.map V.ref) ∧ Paired (fun (p : Addr) (r : Row) => SqT X.K H p [.ref r.2.1, r.2.2] ∧ SqT X.K H r.2.1 (r.1.map V.int)) as rows ∧
    ∀ p, H p = none → Q (.ref p) (upd H p (dO p (rputs [] rows)))) := by
  intro pins s σ H xs us Q I r h
  obtain ⟨a, as, rows, rfl, hl, pr, q⟩ := h
  obtain ⟨u, rfl, ru⟩ := vals1 r
  cases (show u = Value.ref a from ru)
  obtain ⟨its, rv, pl, hz⟩ := I.list hl
  have ei := refs_at rv
  obtain ⟨ps, rel, hlen, hpt, hkeys⟩ := pairs_in I pr
  have hrl : rows.length = ps.length := Paired.length rel
  have hn : as.length ≤ sizeLine := by rw [List.length_map] at hz; exact hz
  have okk : PlainSeq "list" s.heap a its.toArray ∧ PairItems s.heap its.toArray (fun j => (as[j]?).getD 0) (ps.map fun q => (Value.ref q.2.1, q.2.2)) := by
    refine ⟨pl, by rw [ei]; simp [hlen], fun j k v e => ?_⟩
    rw [List.getElem?_map] at e
    cases hq : ps[j]? with
    | none => rw [hq] at e; cases e
    | some q' =>
      rw [hq] at e
      cases e
      obtain ⟨b, e1, e2⟩ := hpt j q' hq
      refine ⟨by rw [ei]; simp [e1], ?_⟩
      show PairAt s.heap ((as[j]?).getD 0) _ _
      rw [e1]
      exact .inl e2
  refine call_dict_pairsH (knd := tupleKind (intKind X.prog X.w)) (ps := ps) (PairArg.list a its.toArray (fun j => (as[j]?).getD 0) (ps.map fun q => (Value.ref q.2.1, q.2.2))) (I.ok.hd hc) (show X.A.in1.in1.units < cLine from by show X.A.units + 2 < cLine; omega) okk ⟨by rw [List.length_map], fun i key v e => ?_⟩ (fun h' hk x hx => ?_) (by rw [List.length_map, hlen]; exact hn) fun h' tk hd' kp => ?_
  · have e : (ps.map fun q => (Value.ref q.2.1, q.2.2))[i]? = some (key, v) := e
    rw [List.getElem?_map] at e
    cases hq : ps[i]? with
    | none => rw [hq] at e; cases e
    | some q' =>
      rw [hq] at e
      cases e
      exact ⟨q'.1, q'.2.1, rfl, rfl⟩
  · have t := keyOfT I (hkeys x hx)
    obtain ⟨o, items, n, ho, r⟩ := t
    exact ⟨o, items, n, hk _ _ (Nat.ne_of_lt (Heap.lt_size ho)) (by simp) ho, r⟩
  · have kp' : ∀ b o, s.heap.get? b = some o → h'.get? b = some o := fun b o e => kp b o (by simp) e
    obtain ⟨o, es, ep, h1, h2, h3, h4, _, h5⟩ := hd'
    refine ⟨.ref s.heap.objs.size, _, I.laid (t' := tk) kp' (Nat.le_refl _) (dO_ok ⟨?_, beq_eq_false_iff_ne.mpr (Ne.symm (Nat.ne_of_lt I.big)), _, rputs_paired .nil rel, o, es, ep, h1, h2, h3, h4, h5⟩), rfl, q _ (I.hok.fresh (Nat.le_refl _))⟩
    have := rputs_len rows []
    rw [List.length_nil] at this
    omega
/-- {k: v} -/
def tDsp (K : PySem.W.Frag) (tk tv : TE) : TE := fun σ H Q => ∀ p, H p = none → tk σ (upd H p (dO p [])) fun x H1 => tv σ H1 fun y H2 => ∃ b k z, [(x, y)] = [(V.ref b, z)] ∧ H2 p = some (dO p []) ∧ SqT K H2 b (k.map V.int) ∧ Q (.ref p) (upd H2 p (dO p [(k, b, z)]))
theorem pe_dsp {kx vx : Expr} {pos : Pos} {tk tv : TE} (hu : X.A.units + 1 < cLine) (hk : PE X kx tk) (hv : PE X vx tv) : PE X (.Dict [some kx] [vx] pos) (tDsp X.K tk tv) := by
  refine ⟨fun pins s σ H Q I q => ?_⟩
  have hn := I.hok.fresh (Nat.le_refl s.heap.objs.size)
  have I1 := I.laid (a := s.heap.objs.size) (o := dO s.heap.objs.size []) (h' := s.heap.push { cls := .type "dict", data := .dict #[] }) (t' := s.toks) (fun _ _ q => Heap.get?_push_of_some _ q) (Nat.le_refl _) (dO_empty s.heap I.big)
  have q0 : tPairs [(tk, tv)] σ (upd H s.heap.objs.size (dO s.heap.objs.size [])) fun ps H2 => ∃ b k y, ps = [(V.ref b, y)] ∧ H2 s.heap.objs.size = some (dO s.heap.objs.size []) ∧ SqT X.K H2 b (k.map V.int) ∧ Q (.ref s.heap.objs.size) (upd H2 s.heap.objs.size (dO s.heap.objs.size [(k, b, y)])) :=
    q _ hn
  refine wpAny_Dict_any rfl rfl (by simp) (by simp) (thn ((pps_cons (X := X) (pos := pos) hk hv pps_nil).run pins _ σ _ _ I1 q0) fun ws s2 ⟨ps, H2, I2, rel, b, k, y, ep, e, eb, q2⟩ => ?_)
  subst ep
  cases rel with
  | @cons p0 w ps0 ws0 h1 t =>
    cases t
    obtain ⟨w1, w2⟩ := w
    cases (show w1 = Value.ref b from h1.1)
    obtain ⟨_, hd, xs, rx, dd⟩ := dict_of I2 (.inl e) (fun r hr => by cases hr)
    cases rx
    refine wpAny_storeAllH (knd := tupleKind (intKind X.prog X.w)) (show X.A.units < cLine by omega) [(.ref b, w2)] [(k, b, w2)] [] s2 _ ⟨rfl, rfl, keyOfT I2 eb, trivial⟩ dd (show 1 ≤ sizeLine by decide) fun h' tk dd' hs => ?_
    obtain ⟨o, es, ep, z1, z2, z3, z4, _, z5⟩ := dd'
    refine ⟨.ref s.heap.objs.size, _, ?_, rfl, q2⟩
    exact d_write I2 (by rw [e]; exact True.intro) hs ⟨o, z1⟩ (dO_ok ⟨show 1 ≤ sizeLine by decide, hd, [(k, b, w2)], .cons ⟨rfl, rfl, h1.2⟩ .nil, o, es, ep, z1, z2, z3, z4, z5⟩)
end
/-! ### by the data -/
section
variable {X : Cx} {W : WX} {cl : Nat → Value} {kx vx : Expr} {rk rv : Env → R D} {pos : Pos}
theorem cn_dsp (hu : X.A.units + 1 < cLine) (hk : PE X kx (tE X.K W cl rk)) (hv : PE X vx (tE X.K W cl rv)) : PE X (.Dict [some kx] [vx] pos) (tN X.K W cl fun e => do let k ← rk e; let v ← rv e; if keyT k then .ok (.dic true [(k, v)]) else .bad) := by
  refine PE.imp (pe_dsp hu hk hv) fun σ H Q _ q => ?_
  obtain ⟨e, F, vr, w⟩ := q
  intro p hp
  have x0 := Ext.made (dO p []) vr.sub hp
  dsimp only at w
  cases hk : rk e with
  | bad => rw [hk] at w; exact w.elim
  | exc c => rw [hk] at w; exact ⟨e, F, vr.mono x0, by rw [hk]; exact Wp.step w x0⟩
  | ok k =>
    rw [hk] at w
    refine ⟨e, F, vr.mono x0, ?_⟩
    rw [hk]
    intro F1 H1 x1 vk rk'
    have w1 : Wp W cl (rv e >>= fun v => if keyT k then .ok (.dic true [(k, v)]) else .bad) σ F H fun d F' H' => ∀ a, NewR X.K F' H' H a d → Q (.ref a) H' := w
    cases hv : rv e with
    | bad => rw [hv] at w1; exact w1.elim
    | exc c => rw [hv] at w1; exact ⟨e, F1, (vr.mono x0).mono x1, by rw [hv]; exact Wp.step w1 (x0.trans x1)⟩
    | ok v =>
      rw [hv] at w1
      have w2 : Wp W cl (if keyT k then .ok (.dic true [(k, v)]) else .bad) σ F H fun d F' H' => ∀ a, NewR X.K F' H' H a d → Q (.ref a) H' := w1
      split at w2
      · rename_i hkt
        refine ⟨e, F1, (vr.mono x0).mono x1, ?_⟩
        rw [hv]
        intro F2 H2 x2 vv rv'
        obtain ⟨b, ks, rfl, rfl, eb⟩ := keyT_of (rk'.mono x2.grow) hkt
        have hp2 : H2 p = some (dO p []) := x2.same _ _ (x1.same _ _ upd_same)
        have f1 : F1 p = none := x1.keepNone (vr.sub.none hp) upd_same (by intro _ z; cases z)
        have f2 : F2 p = none := x2.keepNone f1 (x1.same _ _ upd_same) (by intro _ z; cases z)
        refine ⟨b, ks, vv, rfl, hp2, (x2.sub.tup eb).sq, ?_⟩
        exact w2 F2 _ (((x0.trans x1).trans x2).poke hp f2) p ⟨hp, f2, _, upd_same, .cons eb rv' .nil⟩
      · exact w2.elim
theorem pairs_rows {K : PySem.W.Frag} {F : Hp} : ∀ {xs : List V} {ds : List D} {es : List (D × D)}, Rps K F xs ds → pairsOf ds = some es → ∃ (as : List Addr) (rows : List Row), xs = as.map V.ref ∧ Paired (fun (p : Addr) (r : Row) => IsT F p [.ref r.2.1, r.2.2] ∧ IsT F r.2.1 (r.1.map V.int)) as rows ∧
    ∀ {acc : List Row} {accd : List (D × D)}, RkT K F acc accd → RkT K F (rputs acc rows) (es.foldl (fun a p => dput p.1 p.2 a) accd)
  | _, _, es, .nil, h => by
    cases h
    exact ⟨[], [], rfl, .nil, fun r => r⟩
  | _, _, es, .cons (d := d) h1 r, h => by
    rename_i xs' v0 ds'
    cases d with
    | tup l =>
     match l, h1, h with
     | [k, v], h1, h =>
      simp only [pairsOf] at h
      split at h
      · rename_i hk
        cases hq : pairsOf ds' with
        | none => rw [hq] at h; cases h
        | some es' =>
          rw [hq] at h
          cases h
          obtain ⟨as, rows, e1, pr, fin⟩ := pairs_rows r hq
          cases h1 with
          | tup ea ra =>
            cases ra with
            | cons g1 ra =>
              cases ra with
              | cons g2 ra =>
                cases ra
                obtain ⟨b, ks, rfl, rfl, eb⟩ := keyT_of g1 hk
                refine ⟨_ :: as, (ks, b, _) :: rows, by rw [e1]; rfl, .cons ⟨ea, eb⟩ pr, fun rt => ?_⟩
                exact fin (dput_T ks eb g2 rt)
      · cases h
     | [], h1, h => simp [pairsOf] at h
     | [_], h1, h => simp [pairsOf] at h
     | _ :: _ :: _ :: _, h1, h => simp [pairsOf] at h
    | _ => simp [pairsOf] at h
theorem bi_dict (hc : X.calm = true) (hu : X.A.units + 3 < cLine) : CallR X (.type "dict") (rBi X.K .dict) := by
  refine CallR.imp (call_dictT hc hu) fun vs H Q _ h => ?_
  obtain ⟨F, ds, d, s, r, e, g⟩ := h
  obtain ⟨v, a, rfl, rfl, h1⟩ : ∃ v a, vs = [v] ∧ ds = [a] ∧ Rp X.K F v a := by
    cases r with
    | nil => simp [biS] at e
    | cons h1 r =>
      cases r with
      | nil => exact ⟨_, _, rfl, rfl, h1⟩
      | cons _ _ => simp [biS] at e
  clear r
  cases h1 <;> simp only [biS] at e <;> try cases e
  rename_i ea r
  unfold dictS at e
  split at e
  · rename_i es he
    cases e
    obtain ⟨as, rows, rfl, pr, fin⟩ := pairs_rows r he
    refine ⟨_, as, rows, rfl, SqL.of (s.lst ea), Paired.mapP pr fun _ _ z => ⟨(s.tup z.1).sq, (s.tup z.2).sq⟩, fun p hp => ?_⟩
    have x := Ext.laid (dO p (rputs [] rows)) s hp
    exact g _ _ _ x (.dT (.inl upd_same) ((fin .nil).mono x.grow))
  · cases e
end
end Pan

/-! Panestacks, part S2: set(list), whatever the loop leaves; sets of ints. -/
namespace Pan
open PySem PySem.Spec L2
open PyProof.Rows hiding St
/-- an empty set's object -/
abbrev set0 (w : World) : Obj := { cls := .type "set", dict := none, data := .set #[] 0 (.fresh 0 0 (!w.params.followText "set-order")) }
/-- a heap with an empty set and an iterator over the list l -/
abbrev setHp (w : World) (h : Heap) (l : Addr) : Heap := (h.push (set0 w)).push { cls := .type "list_iterator", data := .fields #[.ref l, .int 0 0] }
section
variable {P : Program} {w : World} {A : Around} {E : Value → Shared → Prop} {s : Shared}
set_option maxHeartbeats 3200000 in
theorem call_setL {l : Addr} {items : Array Value} {Left : Heap → Prop} {Q : Value → Shared → Prop} (hl : s.heap.IsList l items)
    (loop : ∀ R : Result → Shared → Prop, (∀ h' tk, Left h' → (∀ b o, s.heap.get? b = some o → h'.get? b = some o) → R (.ok (.ret .none)) { s with heap := h', toks := tk }) →
      codeAny (model P w) A.in1.in1 (.builtin "set.update.loop" ⟨[.ref s.heap.objs.size, .ref (s.heap.push (set0 w)).objs.size], []⟩) R { s with heap := setHp w s.heap l })
    (fin : ∀ (h' : Heap) (tk : Nat), Left h' → (∀ b o, s.heap.get? b = some o → h'.get? b = some o) → Q (.ref s.heap.objs.size) { s with heap := h', toks := tk }) :
    wpAny (model P w) A (call (.type "set") [.ref l]) Q E s := by
  obtain ⟨mc, mt, hmro⟩ := F.called_set.mro
  have hmade := F.called_set.made
  have hsub := F.called_set.sub
  refine wpAny_call (codeAny_of_tree ?_)
  show wpAny _ _ (callAny (.type "set") _) _ _ _
  refine wpAny_pure ⟨Code.quiet_builtin _ (by decide +kernel), codeAny_builtin F.entry_type_call ?_⟩
  rw [Around.under_plain (weight_type_call_type "set" [.ref l] []) rfl]
  have k1 := F.called_set.notType
  have k2 := F.called_set.canCreate
  have k3 := F.typeCall_set_1 (.ref l)
  repeat (any_goals (first | assumption | wp_step))
  refine codeAny_mono (code_set_led1 (.ref l) (E := E) (Q₁ := fun ob s₁ => ob = .ref s.heap.objs.size ∧ s₁ = { s with heap := s.heap.push (set0 w) }) ⟨rfl, rfl⟩) fun r s₁ hr => ?_
  cases r with
  | error e => exact hr
  | ok fl =>
    cases fl with
    | ret ob =>
      obtain ⟨rfl, rfl⟩ := hr
      have hS : (s.heap.push (set0 w)).get? s.heap.objs.size = some (set0 w) := Heap.get?_push_size _ rfl
      have hT : Shared.TypeIs { s with heap := s.heap.push (set0 w) } (.ref s.heap.objs.size) "set" := ⟨_, hS, rfl⟩
      have k4 := F.called_set.init.lookup
      have k5 := F.called_set.init.bind (.ref s.heap.objs.size)
      repeat (any_goals (first | assumption | wp_step))
      refine codeAny_mono (codeAny_call_builtin (R := wants (fun r s₂ => r = .none ∧ ∃ h' tk, s₂ = { s with heap := h', toks := tk } ∧ Left h' ∧ (∀ b o, s.heap.get? b = some o → h'.get? b = some o)) E) F.called_set.init.plain F.entry_set_init (check_set_init_1 hT ?_)) fun r₂ s₂ hr₂ => ?_
      · obtain ⟨⟨oc, od, odt, osl⟩, hol, hcl, nl, hdl⟩ := hl
        simp only at hcl hdl
        subst hcl hdl
        have hol' : (s.heap.push (set0 w)).get? l = some { cls := .type "list", dict := od, data := .seq items nl, slots := osl } := Heap.get?_push_of_some _ hol
        have k6 := F.sub_list_set
        have k7 := F.sub_list_frozenset
        have k8 : (Value.type "list" == Value.type "dict") = false := by decide
        have hl1 : (s.heap.push (set0 w)).IsList l items := ⟨_, hol', rfl, nl, rfl⟩
        unfold Builtin.«set.__init__» noKeywords Builtin.Frozenset.updateFrom
        generalize hPI : pyIter = PI
        wp_walk
        subst hPI
        refine wpAny_pyIter_list hl1 (wpAny_bind (wpAny_runValue ?_))
        refine loop _ fun h' tk lf kp => ?_
        show wpAny _ _ _ _ _ _
        refine wpAny_pure ?_
        show wpAny _ _ (ret Value.none) _ _ _
        exact wpAny_pure ⟨rfl, h', tk, rfl, lf, kp⟩
      · cases r₂ with
        | error e => exact hr₂
        | ok fl₂ =>
          cases fl₂ with
          | ret r =>
            obtain ⟨rfl, h', tk, rfl, lf, kp⟩ := hr₂
            repeat (any_goals (first | assumption | wp_step))
            exact fin _ _ lf kp
          | _ => exact hr₂.elim
    | _ => exact hr.elim
/-- the loop over ints -/
theorem set_ints_loop {l : Addr} {items : Array Value} {ns : List Int} (hh : A.handled = none) (hl : s.heap.IsList l items) (hit : IntsAre items.toList ns) (hb : ns.length + 1 < scanBound) (R : Result → Shared → Prop)
    (hR : ∀ h' tk, (∃ c, SetR w h' s.heap.objs.size (fun j => decide (j ∈ ns)) c) → (∀ b o, s.heap.get? b = some o → h'.get? b = some o) → R (.ok (.ret .none)) { s with heap := h', toks := tk }) :
    codeAny (model P w) A (.builtin "set.update.loop" ⟨[.ref s.heap.objs.size, .ref (s.heap.push (set0 w)).objs.size], []⟩) R { s with heap := setHp w s.heap l } := by
  obtain ⟨⟨oc, od, odt, osl⟩, hol, hcl, nl, hdl⟩ := hl
  simp only at hcl hdl
  subst hcl hdl
  have hll : l < s.heap.objs.size := Heap.lt_size hol
  have hz : (s.heap.push (set0 w)).objs.size = s.heap.objs.size + 1 := Heap.size_push ..
  have e0 : setHp w s.heap l = setHp w s.heap l := rfl
  have isz : items.size = ns.length := by
    have := IntsAre.length hit
    rwa [Array.length_toList] at this
  have at_ : ∀ (i : Nat) (v : Value), items[i]? = some v → ∃ k t, ns[i]? = some k ∧ v = .int k t := fun i v hv => by
    have hi : i < ns.length := by rw [← isz]; exact (Array.getElem?_eq_some_iff.mp hv).1
    obtain ⟨t, e⟩ := PyProof.Rows.IntsAre.int_at hit i v (by rw [Array.getElem?_toList]; exact hv)
    refine ⟨ns[i], t, List.getElem?_eq_getElem hi, ?_⟩
    rw [e, List.getD_eq_getElem?_getD, List.getElem?_eq_getElem hi] <;> rfl
  have hl2 : (setHp w s.heap l).IsList l items := ⟨_, Heap.get?_push_of_some _ (Heap.get?_push_of_some _ hol), rfl, nl, rfl⟩
  have hne : l ≠ (s.heap.push (set0 w)).objs.size := by rw [hz]; exact Nat.ne_of_lt (Nat.lt_succ_of_lt hll)
  have hnf : s.heap.objs.size ∉ [(s.heap.push (set0 w)).objs.size, l] := by
    simp only [List.mem_cons, List.not_mem_nil, or_false, not_or]
    exact ⟨by rw [hz]; exact Nat.ne_of_lt (Nat.lt_succ_self _), Nat.ne_of_gt hll⟩
  refine set_update_ints ((Walks.list (prog := P) (w := w) (A := A.in1) hh (s.heap.push (set0 w)).objs.size l hne items).toS) s.heap.objs.size hnf ns isz hb at_ items.size 0 _ (by omega) (Nat.zero_le _)
    ⟨⟨_, Heap.get?_push_size _ rfl, rfl, rfl⟩, hl2⟩ ⟨0, Nat.le_refl 0, setR_new_at (Heap.get?_push_of_some _ (Heap.get?_push_size _ rfl))⟩ fun s' c hm hc hS' => ?_
  obtain ⟨h', g2, d', tk', os'⟩ := s'
  have eg : g2 = s.gens := hm.gens
  have ed : d' = s.drawn := hm.drawn
  have eo : os' = s.os := hm.os
  subst eg ed eo
  refine hR h' tk' ⟨c, hS'⟩ fun b o e => ?_
  have hb0 : b < s.heap.objs.size := Heap.lt_size e
  exact hm.heap b o (by simp only [List.mem_cons, List.not_mem_nil, or_false, not_or]; exact ⟨Nat.ne_of_lt hb0, by rw [hz]; exact Nat.ne_of_lt (Nat.lt_succ_of_lt hb0)⟩) (Heap.get?_push_of_some _ (Heap.get?_push_of_some _ e))
end
/-- a set of ints, by its members -/
theorem SetR.has {w : World} {h : Heap} {a : Addr} {S : Int → Bool} {n : Nat} (q : SetR w h a S n) : ∃ ns : List Int, ns.Nodup ∧ (∀ k, k ∈ ns ↔ S k = true) ∧ SetHas w a (ns.map V.int) h := by
  obtain ⟨o, es, ep, t, ho, hx, hd, good, nd, mem, hsz, hf, _, hr, hl⟩ := q
  refine ⟨es.toList.map L2.keyOf, nd, fun k => (mem k).symm, es, ep, t, ⟨o, ho, hx.1, hd⟩, fun o' e => ?_, hf, hsz, hr, hl, ?_⟩
  · rw [ho] at e
    cases e
    exact hx
  · have all : ∀ {l : List (Int × Value)}, (∀ e ∈ l, GoodE e) → Vals ((l.map L2.keyOf).map V.int) (l.map (·.2)) := by
      intro l
      induction l with
      | nil => intro _; exact .nil
      | cons e l ih =>
        intro hg
        refine .cons ?_ (ih fun x hx => hg x (List.mem_cons_of_mem _ hx))
        obtain ⟨k, tk, e1, _⟩ := hg e List.mem_cons_self
        show RelV (V.int (L2.keyOf e)) e.2
        unfold L2.keyOf
        rw [e1]
        exact ⟨tk, rfl⟩
    exact all good
end Pan

/-! Panestacks, part S3: sorted(set(list)). -/
namespace Pan
open PySem PySem.Spec L2
open PyProof.Rows hiding St
section
variable {X : Cx}
/-- less than 63 different ones -/
def FewT (ks : List (Addr × List Int)) : Prop := ∀ L : List (Addr × List Int), (∀ p ∈ L, p ∈ ks) → (L.map (·.2)).Nodup → L.length < 63
def rSetX (K : PySem.W.Frag) (w : World) : List V → Hp → VK → Prop := fun vs H Q => ∃ l xs, vs = [V.ref l] ∧ SqL K H l xs ∧
  ((∃ ns : List Int, xs = ns.map V.int ∧ ns.length + 1 < scanBound ∧ ∀ (p : Addr) (ms : List Int), H p = none → ms.Nodup → (∀ k, k ∈ ms ↔ k ∈ ns) → Q (.ref p) (upd H p (sO w p (ms.map V.int)))) ∨
   ∃ ks : List (Addr × List Int), xs = ks.map (fun p => V.ref p.1) ∧ (∀ p ∈ ks, SqT K H p.1 (p.2.map V.int)) ∧ (ks.length < 64 ∨ FewT ks) ∧ ∀ (a : Addr) (L : List (Addr × List Int)), H a = none → (∀ p ∈ L, p ∈ ks) → (∀ p ∈ ks, p.2 ∈ L.map (·.2)) → (L.map (·.2)).Nodup → Q (.ref a) (upd H a (sO w a (L.map fun p => V.ref p.1))))
theorem SetTR.has {P : Program} {w : World} {h : Heap} {a : Addr} {L : List (Addr × List Int)} {es : Array (Int × Value)} {ep : Nat} {t : SetTable} (q : SetTR P w h a L es ep t) : SetHas w a (L.map fun p => V.ref p.1) h := by
  obtain ⟨o, ho, hx, hd⟩ := q.ob
  have sz : es.size = L.length := by
    have := congrArg List.length q.rows
    rwa [Array.length_toList, rowsOf, List.length_map] at this
  have few := q.few
  have hfit : t.fits es.size = true := by
    have z := q.tab.sz
    rw [List.length_map] at z
    have room := q.room
    unfold SetTable.fits SetTable.fill
    rw [q.tab.dm, Bool.and_eq_true, beq_iff_eq, decide_eq_true_eq]
    show t.place.size = es.size ∧ t.place.size + 0 ≤ t.mask
    omega
  refine ⟨es, ep, t, ⟨o, ho, hx.1, hd⟩, fun o' e => ?_, hfit, by unfold scanBound; omega, q.tab.ris, q.led, ?_⟩
  · rw [ho] at e
    cases e
    exact hx
  · rw [q.rows]
    unfold rowsOf
    rw [List.map_map]
    have := vals_refs' (L.map (·.1))
    rw [List.map_map, List.map_map] at this
    exact this
/-- the turns of set.update: a set of tuples, of which there are few different ones -/
theorem set_few_tups {Pg : Program} {wd : World} {Ar : Around} {J : Addr} {fp wr : List Addr} {Gg : Array GenState → Array GenState → Prop} {n : Nat} {Pv : Nat → Value → Prop} {St : Nat → Shared → Prop} {Rr : Result → Shared → Prop}
    (Wk : WalksS Pg wd Ar.in1 J fp wr Gg n Pv St) (T : Addr) (hTf : T ∉ fp) (ks : List (Addr × List Int)) (hn : n = ks.length) (few : FewT ks) (hv : ∀ i v, Pv i v → ∃ p, ks[i]? = some p ∧ v = .ref p.1)
    (hb : Heap) (hk : ∀ p ∈ ks, L2.IsT Pg wd hb p.2 p.1) (hT0 : hb.get? T = none) (hw0 : ∀ b ∈ wr, hb.get? b = none) (room : Ar.in1.units < cLine) :
    ∀ (k i : Nat) (sh : Shared), n - i = k → i ≤ n → St i sh → (∀ b o, hb.get? b = some o → sh.heap.get? b = some o) → (∃ L es ep t, SetTR Pg wd sh.heap T L es ep t ∧ Got ks i L) →
      (∀ sh' L es ep t, Moved (T :: wr) Gg sh sh' → SetTR Pg wd sh'.heap T L es ep t → Got ks n L → (∀ b o, hb.get? b = some o → sh'.heap.get? b = some o) → Rr (.ok (.ret .none)) sh') →
      codeAny (model Pg wd) Ar (.builtin "set.update.loop" ⟨[.ref T, .ref J], []⟩) Rr sh := by
  have hTw : T ∉ wr := fun z => hTf (Wk.sub _ z)
  have more : ∀ b ∈ wr, b ∈ T :: wr := fun b z => List.mem_cons_of_mem _ z
  have stay : ∀ {s1 s2 : Shared}, Moved wr Gg s1 s2 → (∀ b o, hb.get? b = some o → s1.heap.get? b = some o) → ∀ b o, hb.get? b = some o → s2.heap.get? b = some o := fun mv kp b o e =>
    mv.heap b o (fun z => by rw [hw0 b z] at e; cases e) (kp b o e)
  intro k
  induction k with
  | zero =>
    intro i sh hki hin hst kp ⟨L, es, ep, t, hTR, got⟩ fin
    have e : i = n := by omega
    subst e
    refine codeAny_builtin F.entry_set_update_loop ?_
    rw [Around.under_plainId F.plain_set_update_loop _]
    show wpAny _ Ar.in1 (pyNext (.ref J) >>= _) _ _ sh
    refine wpAny_bind (Wk.done sh _ _ hst fun s2 mv => ?_)
    show wpAny _ Ar.in1 (ret Value.none) _ _ s2
    have kp2 := stay mv kp
    have inn : ∀ p ∈ L, p ∈ ks := fun p z => List.mem_of_mem_take (got.sub p z)
    exact wpAny_pure (fin s2 L es ep t (mv.mono more) (hTR.keep (fun o z => mv.heap T o hTw z) fun p z => isT_keep (hk p (inn p z)) kp2) got kp2)
  | succ k ih =>
    intro i sh hki hin hst kp ⟨L, es, ep, t, hTR, got⟩ fin
    have lt : i < n := by omega
    refine codeAny_builtin F.entry_set_update_loop ?_
    rw [Around.under_plainId F.plain_set_update_loop _]
    show wpAny _ Ar.in1 (pyNext (.ref J) >>= _) _ _ sh
    refine wpAny_bind (Wk.item i sh _ _ lt hst fun v s2 hP hst2 mv => ?_)
    obtain ⟨p, hp, rfl⟩ := hv i v hP
    have kp2 := stay mv kp
    have inn : ∀ p ∈ L, p ∈ ks := fun p z => List.mem_of_mem_take (got.sub p z)
    have hT2 : SetTR Pg wd s2.heap T L es ep t := hTR.keep (fun o z => mv.heap T o hTw z) fun q z => isT_keep (hk q (inn q z)) kp2
    have isp : L2.IsT Pg wd s2.heap p.2 p.1 := isT_keep (hk p (List.mem_of_getElem? hp)) kp2
    show wpAny _ Ar.in1 (holding [Value.ref p.1] (setAdd T (.ref p.1)) >>= _) _ _ s2
    refine wpAny_bind (wpAny_holding ?_)
    unfold setAdd
    refine wpAny_holding ?_
    refine wpAny_bind (wpAny_pyHash_tuple room isp ?_)
    refine add_at (s := { s2 with toks := s2.toks + (p.2.length + 1) }) hT2 isp room (by have := few L inn hT2.nd; omega) fun b h3 L3 es3 ep3 t3 hsb hT3 c1 c2 => ?_
    have got3 : Got ks (i + 1) L3 := by
      rcases Classical.em (p.2 ∈ L.map (·.2)) with z | z
      · rw [c1 z]; exact got.same hp z
      · exact got.more hp (c2 z)
    have kp3 : ∀ b o, hb.get? b = some o → h3.get? b = some o := fun b o e => (hsb.2 b (fun z => by rw [z, hT0] at e; cases e)).trans (kp2 b o e)
    refine wpAny_pure ⟨plainId_quiet F.plain_set_update_loop _, ih (i + 1) _ (by omega) lt (Wk.frame _ s2 _ _ hst2 (Nat.le_add_right _ _) fun b z o e => ?_) kp3 ⟨L3, es3, ep3, t3, hT3, got3⟩ fun s4 L4 es4 ep4 t4 mv4 hT4 got4 kp4 => ?_⟩
    · rw [hsb.2 b (fun y : b = T => hTf (by rw [← y]; exact z))]; exact e
    · refine fin s4 L4 es4 ep4 t4 (Moved.trans Wk.gtrans ((mv.mono more).then_heap (Nat.le_add_right _ _) fun b o z e => ?_) mv4) hT4 got4 kp4
      rw [hsb.2 b (fun y : b = T => z (by rw [y]; exact List.mem_cons_self))]; exact e
/-- the loop over tuples of which there are few different ones -/
theorem setT_loop {Pg : Program} {wd : World} {Ar : Around} {sh : Shared} {lst : Addr} {items : Array Value} {ks : List (Addr × List Int)} (hh : Ar.handled = none) (hl : sh.heap.IsList lst items) (hit : items.toList = ks.map fun p => Value.ref p.1)
    (hk : ∀ p ∈ ks, L2.IsT Pg wd sh.heap p.2 p.1) (few : FewT ks) (room : Ar.in1.units < cLine) (Rr : Result → Shared → Prop)
    (hR : ∀ h' tk, (∃ L es ep t, SetTR Pg wd h' sh.heap.objs.size L es ep t ∧ Got ks ks.length L) → (∀ b o, sh.heap.get? b = some o → h'.get? b = some o) → Rr (.ok (.ret .none)) { sh with heap := h', toks := tk }) :
    codeAny (model Pg wd) Ar (.builtin "set.update.loop" ⟨[.ref sh.heap.objs.size, .ref (sh.heap.push (set0 wd)).objs.size], []⟩) Rr { sh with heap := setHp wd sh.heap lst } := by
  obtain ⟨⟨oc, od, odt, osl⟩, hol, hcl, nl, hdl⟩ := hl
  simp only at hcl hdl
  subst hcl hdl
  have hll : lst < sh.heap.objs.size := Heap.lt_size hol
  have hz : (sh.heap.push (set0 wd)).objs.size = sh.heap.objs.size + 1 := Heap.size_push ..
  have isz : items.size = ks.length := by
    have := congrArg List.length hit
    rwa [Array.length_toList, List.length_map] at this
  have at_ : ∀ (i : Nat) (v : Value), items[i]? = some v → ∃ p, ks[i]? = some p ∧ v = .ref p.1 := fun i v hv => by
    have z : items.toList[i]? = some v := by rw [Array.getElem?_toList]; exact hv
    rw [hit, List.getElem?_map] at z
    cases zz : ks[i]? with
    | none => rw [zz] at z; cases z
    | some p => rw [zz] at z; exact ⟨p, rfl, (Option.some.inj z).symm⟩
  have hl2 : (setHp wd sh.heap lst).IsList lst items := ⟨_, Heap.get?_push_of_some _ (Heap.get?_push_of_some _ hol), rfl, nl, rfl⟩
  have hne : lst ≠ (sh.heap.push (set0 wd)).objs.size := by rw [hz]; exact Nat.ne_of_lt (Nat.lt_succ_of_lt hll)
  have hnf : sh.heap.objs.size ∉ [(sh.heap.push (set0 wd)).objs.size, lst] := by
    simp only [List.mem_cons, List.not_mem_nil, or_false, not_or]
    exact ⟨by rw [hz]; exact Nat.ne_of_lt (Nat.lt_succ_self _), Nat.ne_of_gt hll⟩
  have fresh : ∀ b, sh.heap.objs.size ≤ b → sh.heap.get? b = none := fun b hb => by
    cases z : sh.heap.get? b with
    | none => rfl
    | some o => exact absurd (Nat.lt_of_lt_of_le (Heap.lt_size z) hb) (Nat.lt_irrefl _)
  have Wk := (Walks.list (prog := Pg) (w := wd) (A := Ar.in1) hh (sh.heap.push (set0 wd)).objs.size lst hne items).toS
  have hset : (setHp wd sh.heap lst).get? sh.heap.objs.size = some (set0 wd) := Heap.get?_push_of_some _ (Heap.get?_push_size _ rfl)
  refine set_few_tups Wk sh.heap.objs.size hnf ks isz few at_ sh.heap hk (fresh _ (Nat.le_refl _)) (fun b hb => fresh b (by rw [List.mem_singleton.mp hb, hz]; exact Nat.le_succ _)) room items.size 0 _ (by omega) (Nat.zero_le _)
    ⟨⟨_, Heap.get?_push_size _ rfl, rfl, rfl⟩, hl2⟩ (fun b o e => Heap.get?_push_of_some _ (Heap.get?_push_of_some _ e)) ⟨[], #[], 0, _, setTR_fresh hset, Got.zero ks⟩ fun s' L es ep t hm hS' g' hkp => ?_
  obtain ⟨h', g2, d', tk', os'⟩ := s'
  have eg : g2 = sh.gens := hm.gens
  have ed : d' = sh.drawn := hm.drawn
  have eo : os' = sh.os := hm.os
  subst eg ed eo
  rw [isz] at g'
  exact hR h' tk' ⟨L, es, ep, t, hS', g'⟩ hkp
theorem cr_setX (hc : X.calm = true) (hu : X.A.units + 64 < cLine) : CallR X (.type "set") (rSetX X.K X.w) := by
  intro pins s σ H vs us Q I r h
  obtain ⟨l, xs, rfl, hl, h⟩ := h
  rw [Vals.ref1 r]
  obtain ⟨its, rv, pl, hz⟩ := I.list hl
  have hn : H s.heap.objs.size = none := I.hok.fresh (Nat.le_refl _)
  rcases h with ⟨ns, rfl, hb, q⟩ | ⟨ks, rfl, hk, hf, q⟩
  · refine call_setL (Left := fun h' => ∃ c, SetR X.w h' s.heap.objs.size (fun j => decide (j ∈ ns)) c) pl.isList (fun R hR => set_ints_loop (A := X.A.in1.in1) (show X.A.in1.in1.handled = none from I.ok.hd hc) pl.isList (by simpa using rv.ints) hb R hR) fun h' tk ⟨c, lf⟩ kp => ?_
    obtain ⟨ms, nd, mem, has⟩ := SetR.has lf
    exact ⟨.ref s.heap.objs.size, _, I.laid (t' := tk) kp (Nat.le_refl _) (sO_ok has), rfl, q _ ms hn nd fun k => by rw [mem k, decide_eq_true_eq]⟩
  · rcases hf with hf | hf
    rotate_left
    · refine call_setL (Left := fun h' => ∃ L es ep t, SetTR X.prog X.w h' s.heap.objs.size L es ep t ∧ Got ks ks.length L) pl.isList (fun R hR => setT_loop (Ar := X.A.in1.in1) (show X.A.in1.in1.handled = none from I.ok.hd hc) pl.isList (by simpa using refs_of_vals rv) (fun p hp => I.isT (hk p hp)) hf (show X.A.in1.in1.in1.units < cLine by simp; omega) R hR) fun h' tk ⟨L, es, ep, t, R, g⟩ kp => ?_
      exact ⟨.ref s.heap.objs.size, _, I.laid (t' := tk) kp (Nat.le_refl _) (sO_ok (SetTR.has R)), rfl, q _ L hn (fun p hp => List.mem_of_mem_take (g.sub p hp)) (fun p hp => g.all p (by rw [List.take_length]; exact hp)) R.nd⟩
    refine call_set_tups (P := X.prog) (w := X.w) ks (I.ok.hd hc) pl.isList (by simpa using refs_of_vals rv) (fun p hp => I.isT (hk p hp)) hf (by omega) fun h' tk L es ep t R g kp => ?_
    exact ⟨.ref s.heap.objs.size, _, I.laid (t' := tk) kp (Nat.le_refl _) (sO_ok (SetTR.has R)), rfl, q _ L hn (fun p hp => List.mem_of_mem_take (g.sub p hp)) (fun p hp => g.all p (by rw [List.take_length]; exact hp)) R.nd⟩
end
/-! ### by the data -/
theorem dedup_spec {all : List D} (he : ∀ x ∈ all, ∀ y ∈ all, (eqv x y = true ↔ x = y)) : ∀ (xs acc : List D), (∀ x ∈ xs, x ∈ all) → (∀ x ∈ acc, x ∈ all) → acc.Nodup → (dedupD xs acc).Nodup ∧ ∀ x, x ∈ dedupD xs acc ↔ x ∈ acc ∨ x ∈ xs
  | [], acc, _, _, nd => ⟨nd, fun x => by simp [dedupD]⟩
  | d :: r, acc, h1, h2, nd => by
    have hd : (acc.any fun z => eqv z d) = true ↔ d ∈ acc := by
      rw [List.any_eq_true]
      constructor
      · rintro ⟨z, hz, e⟩
        rw [← (he z (h2 z hz) d (h1 d List.mem_cons_self)).mp e]
        exact hz
      · intro hm
        exact ⟨d, hm, (he d (h2 d hm) d (h2 d hm)).mpr rfl⟩
    unfold dedupD
    split
    · rename_i hc
      obtain ⟨a, b⟩ := dedup_spec he r acc (fun x hx => h1 x (List.mem_cons_of_mem _ hx)) h2 nd
      refine ⟨a, fun x => ?_⟩
      rw [b x, List.mem_cons]
      have := hd.mp hc
      constructor
      · rintro (q | q)
        · exact .inl q
        · exact .inr (.inr q)
      · rintro (q | q | q)
        · exact .inl q
        · subst q; exact .inl this
        · exact .inr q
    · rename_i hc
      have hn : d ∉ acc := fun z => hc (hd.mpr z)
      obtain ⟨a, b⟩ := dedup_spec he r (acc ++ [d]) (fun x hx => h1 x (List.mem_cons_of_mem _ hx)) (fun x hx => by
        rcases List.mem_append.mp hx with q | q
        · exact h2 x q
        · rw [List.mem_singleton.mp q]; exact h1 d List.mem_cons_self) (List.nodup_append.mpr ⟨nd, by simp, fun a ha b hb => by
          rw [List.mem_singleton.mp hb]
          intro z
          subst z
          exact hn ha⟩)
      refine ⟨a, fun x => ?_⟩
      rw [b x, List.mem_append, List.mem_singleton, List.mem_cons, or_assoc]
theorem mapI_inj : ∀ {a b : List Int}, a.map D.int = b.map D.int → a = b
  | [], [], _ => rfl
  | [], _ :: _, h => by cases h
  | _ :: _, [], h => by cases h
  | x :: a, y :: b, h => by
    rw [List.map_cons, List.map_cons] at h
    injection h with h1 h2
    injection h1 with h1
    rw [h1, mapI_inj h2]
theorem eqv_tupI (a b : List Int) : eqv (.tup (a.map .int)) (.tup (b.map .int)) = true ↔ D.tup (a.map D.int) = D.tup (b.map D.int) := by
  rw [eqv, eqvs_ints, decide_eq_true_eq]
  constructor
  · rintro rfl; rfl
  · intro h
    injection h with h
    exact mapI_inj h
theorem intsD_eq {xs : List D} (h : xs.all isIntD = true) : ∃ ns : List Int, xs = ns.map D.int := by
  obtain ⟨ns, e⟩ := intsOf_all h
  exact ⟨ns, intsOf_eq e⟩
theorem tupI_key {d : D} (h : isTupI d = true) : ∃ ns : List Int, d = .tup (ns.map .int) := by
  obtain ⟨n, ns, e, _⟩ := isTupI_of h
  exact ⟨n :: ns, e⟩
/-- the tuples of ints in a list of values -/
theorem tups_of {K : PySem.W.Frag} {F : Hp} : ∀ {xs : List V} {ds : List D}, Rps K F xs ds → ds.all isTupI = true → ∃ ks : List (Addr × List Int), xs = ks.map (fun p => V.ref p.1) ∧ ds = ks.map (fun p => D.tup (p.2.map D.int)) ∧ ∀ p ∈ ks, IsT F p.1 (p.2.map V.int)
  | _, _, .nil, _ => ⟨[], rfl, rfl, fun p h => by cases h⟩
  | _, _, .cons h r, e => by
    rw [List.all_cons, Bool.and_eq_true] at e
    obtain ⟨ks, rfl, rfl, hk⟩ := tups_of r e.2
    obtain ⟨ns, rfl⟩ := tupI_key e.1
    cases h with
    | tup ea rr =>
      have e1 := Rps.ofInts rr
      subst e1
      refine ⟨(_, ns) :: ks, rfl, rfl, fun p hp => ?_⟩
      rcases List.mem_cons.mp hp with z | z
      · subst z; exact ea
      · exact hk p z
theorem nodup_le : ∀ {l m : List D}, l.Nodup → (∀ d ∈ l, d ∈ m) → l.length ≤ m.length
  | [], m, _, _ => Nat.zero_le _
  | d :: l, m, nd, h => by
    obtain ⟨h1, h2⟩ := List.nodup_cons.mp nd
    obtain ⟨u, v, rfl⟩ := List.append_of_mem (h d List.mem_cons_self)
    have := nodup_le (m := u ++ v) h2 fun x hx => by
      have := h x (List.mem_cons_of_mem _ hx)
      rcases List.mem_append.mp this with z | z
      · exact List.mem_append_left _ z
      · rcases List.mem_cons.mp z with rfl | z
        · exact absurd hx h1
        · exact List.mem_append_right _ z
    simp only [List.length_append, List.length_cons] at this ⊢
    omega
theorem rps_refs {K : PySem.W.Frag} {F : Hp} : ∀ {L : List (Addr × List Int)}, (∀ p ∈ L, IsT F p.1 (p.2.map V.int)) → Rps K F (L.map fun p => V.ref p.1) (L.map fun p => D.tup (p.2.map D.int))
  | [], _ => .nil
  | p :: L, h => .cons (.tup (h p List.mem_cons_self) (rps_ints _)) (rps_refs fun q hq => h q (List.mem_cons_of_mem _ hq))
section
variable {X : Cx}
/-- what the set of a list of data is: its members' data, in some turn -/
theorem set_data {K : PySem.W.Frag} {w : World} {F H : Hp} {Q : VK} {l : Addr} {xs : List V} {ds : List D} (s : Sub F H) (ea : F l = some (.lst xs)) (r : Rps K F xs ds) (hs : setable ds = true)
    (q : ∀ p ys es, H p = none → Rps K F ys es → es.Perm (dedupD ds []) → Q (.ref p) (upd H p (sO w p ys))) : rSetX K w [.ref l] H Q := by
  refine ⟨l, xs, rfl, SqL.of (s.lst ea), ?_⟩
  unfold setable at hs
  rw [Bool.or_eq_true, Bool.and_eq_true, Bool.and_eq_true] at hs
  rcases hs with ⟨hi, hl⟩ | ⟨ht, hl⟩
  · obtain ⟨ns, rfl⟩ := intsD_eq hi
    have e1 := Rps.ofInts r
    subst e1
    have hlen := of_decide_eq_true hl
    rw [List.length_map] at hlen
    refine .inl ⟨ns, rfl, by unfold scanBound; omega, fun p ms hp nd mem => q p _ (ms.map D.int) hp (rps_ints ms) ?_⟩
    obtain ⟨nd2, mem2⟩ := dedup_spec (all := ns.map D.int) (fun x hx y hy => by
      obtain ⟨i, _, rfl⟩ := List.mem_map.mp hx
      obtain ⟨j, _, rfl⟩ := List.mem_map.mp hy
      simp [eqv]) (ns.map D.int) [] (fun x hx => hx) (fun x hx => by cases hx) List.nodup_nil
    refine (List.perm_ext_iff_of_nodup ?_ nd2).mpr fun x => ?_
    · exact List.pairwise_map.mpr (List.Pairwise.imp (fun hne e => hne (by injection e)) nd)
    · rw [mem2 x]
      simp only [List.mem_map, List.not_mem_nil, false_or]
      constructor
      · rintro ⟨i, hi, rfl⟩; exact ⟨i, (mem i).mp hi, rfl⟩
      · rintro ⟨i, hi, rfl⟩; exact ⟨i, (mem i).mpr hi, rfl⟩
  · obtain ⟨ks, rfl, rfl, hk⟩ := tups_of r ht
    have hlen : ks.length < 64 ∨ FewT ks := by
      rcases Bool.or_eq_true _ _ |>.mp hl with hl | hl
      · have hlen := of_decide_eq_true hl
        rw [List.length_map] at hlen
        exact .inl hlen
      · right
        have hl := of_decide_eq_true hl
        intro L sub nd
        obtain ⟨nd2, mem2⟩ := dedup_spec (all := ks.map fun p => D.tup (p.2.map D.int)) (fun x hx y hy => by
          obtain ⟨i, _, rfl⟩ := List.mem_map.mp hx
          obtain ⟨j, _, rfl⟩ := List.mem_map.mp hy
          exact eqv_tupI _ _) (ks.map fun p => D.tup (p.2.map D.int)) [] (fun x hx => hx) (fun x hx => by cases hx) List.nodup_nil
        have nL : (L.map fun p => D.tup (p.2.map D.int)).Nodup := by
          have : (L.map (·.2)).map (fun k : List Int => D.tup (k.map D.int)) = L.map fun p => D.tup (p.2.map D.int) := by rw [List.map_map]; rfl
          rw [← this]
          refine List.pairwise_map.mpr (List.Pairwise.imp (fun hne e => hne ?_) nd)
          injection e with e
          exact mapI_inj e
        have sb : ∀ d ∈ L.map (fun p => D.tup (p.2.map D.int)), d ∈ dedupD (ks.map fun p => D.tup (p.2.map D.int)) [] := fun d hd => by
          rw [mem2]
          right
          obtain ⟨p, hp, rfl⟩ := List.mem_map.mp hd
          exact List.mem_map.mpr ⟨p, sub p hp, rfl⟩
        have := nodup_le nL sb
        rw [List.length_map] at this
        omega
    refine .inr ⟨ks, rfl, fun p hp => (s.tup (hk p hp)).sq, hlen, fun a L ha sub all nd => q a _ _ ha (rps_refs fun p hp => hk p (sub p hp)) ?_⟩
    obtain ⟨nd2, mem2⟩ := dedup_spec (all := ks.map fun p => D.tup (p.2.map D.int)) (fun x hx y hy => by
      obtain ⟨i, _, rfl⟩ := List.mem_map.mp hx
      obtain ⟨j, _, rfl⟩ := List.mem_map.mp hy
      exact eqv_tupI _ _) (ks.map fun p => D.tup (p.2.map D.int)) [] (fun x hx => hx) (fun x hx => by cases hx) List.nodup_nil
    refine (List.perm_ext_iff_of_nodup ?_ nd2).mpr fun x => ?_
    · have : (L.map (·.2)).map (fun k : List Int => D.tup (k.map D.int)) = L.map fun p => D.tup (p.2.map D.int) := by rw [List.map_map]; rfl
      rw [← this]
      refine List.pairwise_map.mpr (List.Pairwise.imp (fun hne e => hne ?_) nd)
      injection e with e
      exact mapI_inj e
    · rw [mem2 x]
      simp only [List.mem_map, List.not_mem_nil, false_or]
      constructor
      · rintro ⟨p, hp, rfl⟩; exact ⟨p, sub p hp, rfl⟩
      · rintro ⟨p, hp, rfl⟩
        obtain ⟨p', hp', e⟩ := List.mem_map.mp (all p hp)
        exact ⟨p', hp', by rw [e]⟩
variable {W : WX} {cl : Nat → Value} {a : Expr} {ra : Env → R D} {p p2 q pos : Pos}
theorem ce_sortset (hc : X.calm = true) (hu : X.A.units + 64 < cLine) (hg : Gl X "sorted") (hm : X.mg "sorted" = none) (hg2 : Gl X "set") (hm2 : X.mg "set" = none) (na : starEach [a] X.env = (false, eval a X.env) :: starEach [] X.env) (ha : PE X a (tE X.K W cl ra)) :
    PE X (.Call (.Name "sorted" p) [.Call (.Name "set" p2) [a] [] q] [] pos) (tE X.K W cl fun e => do let x ← ra e; biS .sortset [x]) := by
  refine PE.imp (pe_callB (cr_sortX hc (by omega)) hg hm (by decide +kernel) (pa_cons (pe_callTy (cr_setX hc hu) hg2 hm2 (by decide +kernel) (pa_cons ha pa_nil na) (by decide) (by decide) na rfl) pa_nil rfl) (by decide) (by decide) rfl rfl) fun σ H Q _ q => ?_
  obtain ⟨e, F, vr, w⟩ := q
  refine ⟨e, F, vr, w.bind.mono fun x F1 H1 x1 w1 vx rx => ?_⟩
  cases rx <;> simp only [biS] at w1 <;> try exact w1.elim
  rename_i l xs ds ea r
  split at w1
  · rename_i hs
    show rSetX X.K X.w [V.ref l] H1 fun x H1 => rSortX X.K X.w [x] H1 Q
    refine set_data x1.sub ea r hs fun p ys es hp ry pe => ?_
    have x2 := Ext.made (sO X.w p ys) x1.sub hp
    unfold sortS at w1
    split at w1
    · rename_i hso
      have hso' : sortable es = true := by
        unfold sortable at hso ⊢
        rw [Bool.or_eq_true, Bool.or_eq_true] at hso ⊢
        rcases hso with h | h | h
        · exact .inl (List.all_eq_true.mpr fun z hz => List.all_eq_true.mp h z (pe.mem_iff.mp hz))
        · exact .inr (.inl (List.all_eq_true.mpr fun z hz => List.all_eq_true.mp h z (pe.mem_iff.mp hz)))
        · exact .inr (.inr (List.all_eq_true.mpr fun z hz => List.all_eq_true.mp h z (pe.mem_iff.mp hz)))
      have es_eq : sortD es = sortD (dedupD ds []) := sortD_uniq hso ((sortD_perm es).trans pe) (sortD_srt es)
      obtain ⟨k, h1, h2⟩ := sort_done (K := X.K) (Q := Q) (d := .lst (sortD es)) x2.sub ry (by unfold sortS; rw [if_pos hso']) (fun v F' H' x r => by
        rw [es_eq] at r
        exact w1 F' H' (x2.trans x) v r)
      exact ⟨p, ys, k, rfl, .inr (.inr (.inr (.inr upd_same))), h1, h2⟩
    · exact w1.elim
  · exact w1.elim
end
end Pan

/-! Panestacks, part D12: [f, g, ..][w](..), a call by a list of defs. -/
namespace Pan
open PySem PySem.Spec L2
open PyProof.Rows hiding St
section
variable {X : Cx} {W : WX} {cl : Nat → Value} {a b : Expr} {rb : Env → R D} {pos p1 p2 : Pos} {es : List Expr} {j : Nat}
/-- the defs that a list names -/
inductive FnL (X : Cx) (cl : Nat → Value) (j : Nat) : List Expr → List FnR → List V → Prop
  | nil : FnL X cl j [] [] []
  | cons {x : Str} {p : Pos} {r : List Expr} {fr : FnR} {l : List FnR} {vs : List V} {f : Addr} {fd : FuncData} {ps : List Str} {k : Nat} : Gl X x → (x == ("__debug__" : Str)) = false → X.mg x = some (.ref f) → ps.length = fr.n → k ≤ j → FnOk X.prog X.w X.K X.mg X.base (L2.CX X.prog X.w) k f fd ps (spOf X.K cl fr.n fr.sem) → PySem.W.keepIn X.K (.ref f) = true → Binds X.K fd ps [] → FnL X cl j r l vs → FnL X cl j (.Name x p :: r) (fr :: l) (.ref f :: vs)
theorem FnL.pa {fs : List Expr} {l : List FnR} {vs : List V} (h : FnL X cl j fs l vs) : PA X fs fun _ H Q => Q vs H := by
  induction h with
  | nil => exact pa_nil
  | cons g d m _ _ _ _ _ _ ih => exact PA.imp (pa_cons (pe_glob (v := .ref _) g m rfl d) ih rfl) fun σ H Q _ q => q
theorem FnL.len {fs : List Expr} {l : List FnR} {vs : List V} (h : FnL X cl j fs l vs) : l.length = vs.length := by
  induction h with
  | nil => rfl
  | cons _ _ _ _ _ _ _ _ _ ih => simp [ih]
theorem FnL.get {fs : List Expr} {l : List FnR} {vs : List V} (h : FnL X cl j fs l vs) : ∀ {i : Nat} {fr : FnR}, l[i]? = some fr → ∃ (f : Addr) (fd : FuncData) (ps : List Str) (k : Nat), vs[i]? = some (.ref f) ∧ k ≤ j ∧ FnOk X.prog X.w X.K X.mg X.base (L2.CX X.prog X.w) k f fd ps (spOf X.K cl fr.n fr.sem) ∧ PySem.W.keepIn X.K (.ref f) = true ∧ Binds X.K fd ps [] := by
  induction h with
  | nil => intro i fr e; cases e
  | cons g d m e1 e2 e3 e4 e5 _ ih =>
    intro i fr e
    cases i with
    | zero =>
      cases e
      exact ⟨_, _, _, _, rfl, e2, e3, e4, e5⟩
    | succ i => exact ih e
def pickR (l : List FnR) : D → R FnR
  | .int i => if 0 ≤ i then (match l[i.toNat]? with
    | some f => .ok f
    | none => .bad) else .bad
  | _ => .bad
theorem ce_callx {fs : List Expr} {l : List FnR} {vs : List V} {rs : Env → R (List D)} (hf : FnL X cl j fs l vs) (hl : l.length ≤ 1000) (hr : Room j X.A) (tk : Takes X W) (hs : PlainIx b) (hb : PE X b (tE X.K W cl rb)) (ha : PA X (a :: es) (tA X.K W cl rs))
    (he : starEach (a :: es) X.env = (false, eval a X.env) :: starEach es X.env) (hpl : (backTo pos (starEach es X.env)).any (·.1) = false) :
    PE X (.Call (.Subscript (.List fs p1) b p2) (a :: es) [] pos) (tE X.K W cl fun e => do let x ← rb e; let fr ← pickR l x; let xs ← rs e; arity fr.n fr.sem xs) := by
  refine ⟨fun pins s σ H Q I h => ?_⟩
  obtain ⟨e, F, vr, w⟩ := h
  have callee : PE X (.Subscript (.List fs p1) b p2) (tOp (rIx X.K) (tLst fun _ H Q => Q vs H) (tE X.K W cl rb)) := pe_ix ix_seq (pe_lst hf.pa) hb hs
  have hlv : vs.length ≤ sizeLine := by rw [← hf.len]; exact Nat.le_trans hl (by decide)
  refine Call_ (thn (callee.run pins s σ H (fun v H1 => ∃ (fr : FnR) (f : Addr) (fd : FuncData) (ps : List Str) (k : Nat) (F1 : Hp), v = .ref f ∧ k ≤ j ∧ FnOk X.prog X.w X.K X.mg X.base (L2.CX X.prog X.w) k f fd ps (spOf X.K cl fr.n fr.sem) ∧ PySem.W.keepIn X.K (.ref f) = true ∧ Binds X.K fd ps [] ∧ VR X.K e σ F1 H1 ∧ Wp W cl (rs e >>= fun xs => arity fr.n fr.sem xs) σ F1 H1 fun d F' H' => ∀ v, Rp X.K F' v d → Q v H') I ?_) fun u s1 ⟨v, H1, I1, r1, q1⟩ => ?_) rfl
  · refine ⟨hlv, fun p hp => ⟨e, F, (vr.mono (Ext.made (.lst vs) vr.sub hp)), ?_⟩⟩
    have x0 := Ext.made (.lst vs) vr.sub hp
    refine (w.step x0).bind.mono fun x F1 H1 x1 w1 vx rx => ?_
    unfold pickR at w1
    split at w1
    · rename_i i
      split at w1
      · rename_i hi
        cases q : l[i.toNat]? with
        | none => rw [q] at w1; exact w1.elim
        | some fr =>
          rw [q] at w1
          obtain ⟨f, fd, ps, k, e1, e2, e3, e4, e5⟩ := hf.get q
          cases rx
          refine .inl ⟨p, vs, i, .ref f, rfl, rfl, SqL.of (x1.same _ _ upd_same), ?_, ⟨fr, f, fd, ps, k, F1, rfl, e2, e3, e4, e5, (vr.mono x0).mono x1, w1⟩⟩
          unfold atI ixN
          rw [if_pos hi, if_pos (by
            have := (List.getElem?_eq_some_iff.mp e1).1
            omega)]
          exact e1
      · exact w1.elim
    · exact w1.elim
  · obtain ⟨fr, f, fd, ps, k, F1, rfl, e2, e3, e4, e5, vr1, w1⟩ := q1
    cases r1
    refine PySem.W.callWith_K (h₀ := X.base) I.ok.mod.kin e4 (thn (ha.run pos pins s1 σ H1 (fun vs H2 => spOf X.K cl fr.n fr.sem vs H2 Q (WE W σ)) I1 ⟨e, F1, vr1, w1.bind.mono fun xs F2 H2 x2 w2 vs rs => sp_of_wp x2.sub rs w2⟩) fun us s2 ⟨vs, H2, I2, r, q⟩ => ⟨I2.kIn, ?_⟩) he hpl
    exact run_fnS e3 (hr.mono e2) e5 (passAt tk σ) I2 r q
end
end Pan

/-! Panestacks, part E1: from the text to the resolved form. -/
namespace Pan
open PySem PySem.Spec L2
open PyProof.Rows hiding St

def o2 {α β γ : Type} (f : α → β → γ) : Option α → Option β → Option γ
  | some a, some b => some (f a b)
  | _, _ => none
def o3 {α β γ δ : Type} (f : α → β → γ → δ) : Option α → Option β → Option γ → Option δ
  | some a, some b, some c => some (f a b c)
  | _, _, _ => none
def when {α : Type} (b : Bool) (x : Option α) : Option α := if b then x else none
theorem o1_some {α β : Type} {f : α → β} {x : Option α} {z : β} (h : x.map f = some z) : ∃ a, x = some a ∧ z = f a := by
  cases x with
  | none => cases h
  | some a => cases h; exact ⟨a, rfl, rfl⟩
theorem o2_some {α β γ : Type} {f : α → β → γ} {x : Option α} {y : Option β} {z : γ} (h : o2 f x y = some z) : ∃ a b, x = some a ∧ y = some b ∧ z = f a b := by
  cases x <;> cases y <;> simp only [o2] at h <;> cases h
  exact ⟨_, _, rfl, rfl, rfl⟩
theorem o3_some {α β γ δ : Type} {f : α → β → γ → δ} {x : Option α} {y : Option β} {u : Option γ} {z : δ} (h : o3 f x y u = some z) : ∃ a b c, x = some a ∧ y = some b ∧ u = some c ∧ z = f a b c := by
  cases x <;> cases y <;> cases u <;> simp only [o3] at h <;> cases h
  exact ⟨_, _, _, rfl, rfl, rfl, rfl⟩
theorem when_some {α : Type} {b : Bool} {x : Option α} {z : α} (h : when b x = some z) : b = true ∧ x = some z := by
  unfold when at h
  split at h
  · exact ⟨by assumption, h⟩
  · cases h

/-- what is known of a def's names and of the module's -/
structure Sig where
  N : List Str
  fns : List (Str × Nat)
  ci : List (Str × Int)
  cs : List (Str × Str)
  bl : List Str
  mu : List Str
  di : List Str
  /-- dicts whose keys are tuples -/
  tu : List Str
/-- where one stands: the scope, and the names whose cells were made at its entry -/
structure Loc where
  sc : Scope
  fc : Str → Bool
def vis (L : Loc) (x : Str) : Bool := match L.sc.names.lookup x with
  | some .local => true
  | some .cell => true
  | some .free => true
  | _ => false
def nodb (x : Str) : Bool := !(x == ("__debug__" : Str)) && !(x == ("__classdict__" : Str))
def slotN (c : Sig) (L : Loc) (x : Str) : Option Nat := when (vis L x && nodb x) (c.N.findIdx? (· == x))
def glob (L : Loc) (x : Str) : Bool := decide (L.sc.names.lookup x = some .globalImplicit) && nodb x
def tyTab : List (Str × String) := [("int", "int"), ("bool", "bool"), ("str", "str"), ("tuple", "tuple"), ("list", "list")]
def biTab : List (Str × Bi × Value) := [("len", .len, .builtin "len"), ("max", .max, .builtin "max"), ("min", .min, .builtin "min"), ("abs", .abs, .builtin "abs"), ("all", .all, .builtin "all"), ("any", .any, .builtin "any"), ("sum", .sum, .builtin "sum"),
  ("tuple", .tuple, .type "tuple"), ("list", .list, .type "list"), ("isinstance", .isinst, .builtin "isinstance"), ("sorted", .sorted, .builtin "sorted"), ("dict", .dict, .type "dict")]
def compName (c : Sig) (L : Loc) (x : Str) : Option E := match slotN c L x with
  | some i => some (.var i)
  | none => when (glob L x) (match c.ci.lookup x with
    | some i => some (.lit (.int i))
    | none => match c.cs.lookup x with
      | some s => some (.lit (.str s))
      | none => match tyTab.lookup x with
        | some t => when (c.bl.contains x) (some (.lit (.ty t)))
        | none => none)
def compEs (f : Expr → Option E) : List Expr → Option Es
  | [] => some .nil
  | e :: r => o2 Es.cons (f e) (compEs f r)
/-- an operand that is only looked at: a name that this def changes may be read so -/
def compO (c : Sig) (L : Loc) (f : Expr → Option E) (e : Expr) : Option E := match e with
  | .Name x _ => if c.mu.contains x then (slotN c L x).map E.ovar else f e
  | _ => f e
def compP (f : Expr → Option E) : Option Expr → Option O
  | none => some .none
  | some e => (f e).map O.some
def compT (f : Expr → Option E) : List Expr → Option O
  | [] => some .none
  | [e] => (match e with
    | .IfExp .. => none
    | _ => (f e).map O.some)
  | _ => none
def tgN (c : Sig) (L : Loc) (x : Str) : Option Nat := when ((match L.sc.names.lookup x with
  | some .local => true
  | some .cell => L.fc x
  | _ => false) && nodb x) (c.N.findIdx? (· == x))
def tgNs (c : Sig) (L : Loc) : List Expr → Option (List Nat)
  | [] => some []
  | .Name x _ :: r => o2 List.cons (tgN c L x) (tgNs c L r)
  | _ => none
def compG (c : Sig) (L : Loc) : Expr → Option G
  | .Name x _ => (tgN c L x).map G.name
  | .Tuple es _ _ => (tgNs c L es).map G.tup
  | _ => none
def isTup : Expr → Bool
  | .Tuple .. => true
  | _ => false
def isSet : Expr → Bool
  | .Set .. => true
  | _ => false
def compI (c : Sig) (L : Loc) (f : Expr → Option E) (tg e : Expr) : Option (IK × Es) := match e with
  | .Call (.Name x _) [a] [] _ =>
    if glob L x && c.bl.contains x && (x == ("range" : Str)) then (f a).map fun z => (.rng1, .cons z .nil) else
    if glob L x && c.bl.contains x && (x == ("enumerate" : Str)) && isTup tg then (f a).map fun z => (.enum, .cons z .nil) else
    when (!(x == ("range" : Str))) ((f e).map fun z => (.seq, .cons z .nil))
  | .Call (.Name x _) [a, b] [] _ =>
    if glob L x && c.bl.contains x && (x == ("range" : Str)) then o2 (fun z y => (.rng2, .cons z (.cons y .nil))) (f a) (f b) else
    if glob L x && c.bl.contains x && (x == ("zip" : Str)) && isTup tg then o2 (fun z y => (.zip, .cons z (.cons y .nil))) (f a) (f b) else (f e).map fun z => (.seq, .cons z .nil)
  | _ => (f e).map fun z => (.seq, .cons z .nil)
/-- the block of a comprehension -/
def blk (L : Loc) (scope : Scope) : Loc := ⟨relS scope L.sc, fun x => scope.names.lookup x == some .cell⟩
/-- the block's own names, by their places -/
def ownOf (c : Sig) (scope : Scope) : List (Str × Nat) := scope.names.filterMap fun y => match y.2 with
  | .local => (c.N.findIdx? (· == y.1)).map fun i => (y.1, i)
  | .cell => (c.N.findIdx? (· == y.1)).map fun i => (y.1, i)
  | _ => none
def within (is js : List Nat) : Bool := is.all js.contains
def isIf : Expr → Bool
  | .IfExp .. => true
  | _ => false
def isOwnName (c : Sig) : Expr → Bool
  | .Name x _ => c.mu.contains x
  | _ => false
def isSlice : Expr → Bool
  | .Slice .. => true
  | _ => false
/-- a name that holds a dict -/
def diName (c : Sig) : Expr → Option Str
  | .Name x _ => if c.di.contains x then some x else none
  | _ => none
def compIK (c : Sig) (L : Loc) (f : Expr → Option E) (tg it : Expr) : Option (IK × Es) := match diName c it with
  | some x => (slotN c L x).map fun i => (IK.keys, Es.cons (.var i) .nil)
  | none => compI c L f tg it
/-- set(a) -/
def isSetCall (c : Sig) (L : Loc) : Expr → Option Expr
  | .Call (.Name y _) [b] [] _ => if (y == ("set" : Str)) && glob L y && c.bl.contains y then some b else none
  | _ => none
def mtTab : List (Str × Mt) := [("index", .index), ("count", .count)]
/-- names of defs -/
def fnIdx (c : Sig) (L : Loc) : List Expr → Option (List Nat)
  | [] => some []
  | .Name x _ :: r => when (glob L x) (o2 List.cons (c.fns.findIdx? (fun r => r.1 == x)) (fnIdx c L r))
  | _ => none
def stepE (c : Sig) (f : Loc → Expr → Option E) (L : Loc) (e : Expr) : Option E := match e with
  | .Name x _ => compName c L x
  | .Constant (.int i) _ _ => some (.lit (.int i))
  | .Constant (.bool b) _ _ => some (.lit (.bl b))
  | .Constant .none _ _ => some (.lit .non)
  | .Constant (.str s) _ _ => some (.lit (.str s))
  | .BinOp a op b _ => when (binOk op) (o2 (E.bin op) (f L a) (f L b))
  | .UnaryOp .USub a _ => (f L a).map E.neg
  | .UnaryOp .Not a _ => when (!isIf a) ((f L a).map E.not)
  | .BoolOp .And (a :: es) _ => when ((a :: es).all (!isIf ·)) ((compEs (f L) (a :: es)).map E.and)
  | .BoolOp .Or (a :: es) _ => when ((a :: es).all (!isIf ·)) ((compEs (f L) (a :: es)).map E.or)
  | .Compare a [op] [b] _ => when (!behindInMarks op b) (o2 (E.cmp op) (compO c L (f L) a) (compO c L (f L) b))
  | .Compare a [op, op'] [b, d] _ => when (!lastMarks [op, op'] [b, d]) (o3 (E.chain op op') (compO c L (f L) a) (compO c L (f L) b) (compO c L (f L) d))
  | .IfExp t a b _ => when (!isIf t) (o3 E.ife (f L t) (f L a) (f L b))
  | .Tuple es _ _ => (compEs (f L) es).map E.tup
  | .List es _ => (compEs (f L) es).map E.lst
  | .Subscript a (.Slice lo hi none _) _ => o3 E.sl (f L a) (compP (f L) lo) (compP (f L) hi)
  | .Subscript a (.Slice none none (some (.UnaryOp .USub (.Constant (.int 1) _ _) _)) _) _ => (f L a).map E.rev
  | .Subscript a b _ => when (!isSlice b) (if isOwnName c a then o2 E.ix (compO c L (f L) a) (f L b) else o2 E.ix (f L a) (f L b))
  | .Call (.Name x _) (a :: es) [] _ => when (glob L x) (match c.fns.findIdx? (fun r => r.1 == x) with
    | some j => (compEs (f L) (a :: es)).map (E.call j)
    | none => when (c.bl.contains x) (
      if (x == ("sorted" : Str)) && es.isEmpty && (isSetCall c L a).isSome then (match isSetCall c L a with
        | some b => (f L b).map fun z => .bi .sortset (.cons z .nil)
        | none => none) else
      if (x == ("len" : Str)) && es.isEmpty then (compO c L (f L) a).map fun z => .bi .len (.cons z .nil) else
      match a, es with
      | .Call (.Name y _) [b] [] _, [] => if (x == ("list" : Str)) && (y == ("range" : Str)) && glob L y && c.bl.contains y then (f L b).map fun z => .bi .lrange (.cons z .nil) else
          (match biTab.find? (fun r => r.1 == x) with
          | some r => (compEs (f L) (a :: es)).map (E.bi r.2.1)
          | none => none)
      | _, _ => (match biTab.find? (fun r => r.1 == x) with
        | some r => (compEs (f L) (a :: es)).map (E.bi r.2.1)
        | none => none)))
  | .Call (.Subscript (.List fs _) b _) (a :: es) [] _ => when (!isSlice b && decide (fs.length ≤ 1000)) (o3 E.callx (fnIdx c L fs) (f L b) (compEs (f L) (a :: es)))
  | .Call (.Attribute o m ap) [a] [] cp => when (noCall o && (ap.endLine == cp.line)) (match mtTab.lookup m with
    | some k => o2 (fun x y => .mt k x (.cons y .nil)) (compO c L (f L) o) (f L a)
    | none => none)
  | .Dict [some k] [v] _ => o2 E.dsp (f L k) (f L v)
  | .DictComp kx vx [⟨tg, it, ifs, 0⟩] scope _ =>
    when (blkC c.N L.sc scope (ownOf c scope) && !isSet it) (match compG c (blk L scope) tg, compI c L (f L) tg it, compT (f (blk L scope)) ifs, f (blk L scope) kx, f (blk L scope) vx with
      | some g, some (k, src), some t, some b, some d => when (within (slotsG g) ((ownOf c scope).map (·.2))) (some (.dc ((ownOf c scope).map (·.2)) g k src t b d))
      | _, _, _, _, _ => none)
  | .ListComp elt [⟨tg, it, ifs, 0⟩] scope _ =>
    when (blkC c.N L.sc scope (ownOf c scope) && !isSet it) (match compG c (blk L scope) tg, compIK c L (f L) tg it, compT (f (blk L scope)) ifs, f (blk L scope) elt with
      | some g, some (k, src), some t, some b => when (within (slotsG g) ((ownOf c scope).map (·.2))) (some (.lc ((ownOf c scope).map (·.2)) g k src t b))
      | _, _, _, _ => none)
  | .ListComp elt [⟨tg, it, ifs, 0⟩, ⟨tg1, it1, ifs1, 0⟩] scope _ =>
    when (blkC c.N L.sc scope (ownOf c scope) && !isSet it && !isSet it1) (match compG c (blk L scope) tg, compI c L (f L) tg it, compT (f (blk L scope)) ifs, f (blk L scope) elt, compG c (blk L scope) tg1, compI c (blk L scope) (f (blk L scope)) tg1 it1, compT (f (blk L scope)) ifs1 with
      | some g, some (k, src), some t, some b, some g1, some (k1, src1), some t1 =>
        when (within (slotsG g) ((ownOf c scope).map (·.2)) && within (slotsG g1) ((ownOf c scope).map (·.2))) (some (.lc2 ((ownOf c scope).map (·.2)) g k src t (slotsG g1) g1 k1 src1 t1 b))
      | _, _, _, _, _, _, _ => none)
  | _ => none
def compE (c : Sig) : Nat → Loc → Expr → Option E
  | 0 => fun _ _ => none
  | n + 1 => fun L e => stepE c (compE c n) L e
end Pan

/-! Panestacks, part E2: the resolved form tells what the text does: expressions. -/
namespace Pan
open PySem PySem.Spec L2
open PyProof.Rows hiding St

def phi (Γ : List FnR) (i : Nat) (xs : List D) : R D := match Γ[i]? with
  | some r => arity r.n r.sem xs
  | none => .bad
structure Ctx (c : Sig) (Γ : List FnR) (cl : Nat → Value) (j : Nat) (X : Cx) (L : Loc) (W : WX) : Prop where
  N : X.N = c.N
  nd : c.N.Nodup
  sc : X.env.scope = L.sc
  fc : ∀ x, L.fc x = true → X.fn x = true
  calm : X.calm = true
  room : Room j X.A
  takes : Takes X W
  pas : PassesOwn (model X.prog X.w) X.A X.env X.xe
  fns : c.fns = Γ.map fun r => (r.name, r.n)
  fx : ∀ r ∈ Γ, FnX X cl j r
  ci : ∀ x i, c.ci.lookup x = some i → ∃ t, X.mg x = some (.int i t)
  cs : ∀ x s, c.cs.lookup x = some s → ∃ t, X.mg x = some (.str s t)
  bl : ∀ x, c.bl.contains x = true → X.mg x = none
section
variable {c : Sig} {Γ : List FnR} {cl : Nat → Value} {j : Nat} {X : Cx} {L : Loc} {W : WX}
theorem Ctx.blk (C : Ctx c Γ cl j X L W) (scope : Scope) (s : Shared) (H : Hp) (D : Addr) (cs : List (Str × Addr)) (fp : List Addr) : Ctx c Γ cl j (X.blk s H scope (compEnvC scope cs D X.env) fp) (Pan.blk L scope) W0 where
  N := C.N
  nd := C.nd
  sc := by
    show relabel scope X.env = relS scope L.sc
    rw [← C.sc]
    rfl
  fc := fun x h => h
  calm := C.calm
  room := C.room
  takes := takes0
  pas := PassesOwn.never
  fns := C.fns
  fx := fun r h => ⟨(C.fx r h).ex⟩
  ci := C.ci
  cs := C.cs
  bl := C.bl
theorem findIdx_get {l : List Str} {x : Str} {i : Nat} (h : l.findIdx? (· == x) = some i) : l[i]? = some x := by
  obtain ⟨hi, h1, _⟩ := List.findIdx?_eq_some_iff_getElem.mp h
  rw [List.getElem?_eq_getElem hi]
  exact congrArg some (eq_of_beq h1)
theorem nodb_of {x : Str} (h : nodb x = true) : (x == ("__debug__" : Str)) = false ∧ (x == ("__classdict__" : Str)) = false := by
  unfold nodb at h
  rw [Bool.and_eq_true] at h
  exact ⟨by simpa using h.1, by simpa using h.2⟩
theorem Ctx.slotN (C : Ctx c Γ cl j X L W) {x : Str} {i : Nat} (h : Pan.slotN c L x = some i) : X.N[i]? = some x ∧ Vis X.env.scope x ∧ (x == ("__debug__" : Str)) = false ∧ (x == ("__classdict__" : Str)) = false := by
  obtain ⟨h1, h2⟩ := when_some h
  rw [Bool.and_eq_true] at h1
  refine ⟨by rw [C.N]; exact findIdx_get h2, ?_, nodb_of h1.2⟩
  rw [C.sc]
  have := h1.1
  unfold vis at this
  unfold Vis
  split at this
  · exact .inl (by assumption)
  · exact .inr (.inl (by assumption))
  · exact .inr (.inr (by assumption))
  · cases this
theorem Ctx.glob (C : Ctx c Γ cl j X L W) {x : Str} (h : Pan.glob L x = true) : Gl X x ∧ (x == ("__debug__" : Str)) = false := by
  unfold Pan.glob at h
  rw [Bool.and_eq_true] at h
  refine ⟨?_, (nodb_of h.2).1⟩
  show X.env.scope.names.lookup x = some .globalImplicit
  rw [C.sc]
  exact of_decide_eq_true h.1
/-- forms that make a new list -/
def isNewE : E → Bool
  | .lst _ => true
  | .lc .. => true
  | .lc2 .. => true
  | .bi .lrange _ => true
  | .dnew _ => true
  | .dc .. => true
  | .dsp .. => true
  | _ => false
/-- e's resolved form is ir -/
structure Sound (X : Cx) (W : WX) (cl : Nat → Value) (Φ : Nat → List D → R D) (e : Expr) (ir : E) : Prop where
  pe : PE X e (tE X.K W cl (ev Φ ir))
  pt : isIf e = false → PT X e (tT X.K W cl (tst (ev Φ ir)))
  pn : isNewE ir = true → PE X e (tN X.K W cl (ev Φ ir))
def isTest : Expr → Bool
  | .UnaryOp .Not _ _ => true
  | .BoolOp _ _ _ => true
  | .IfExp _ _ _ _ => true
  | .Compare _ _ _ _ => true
  | _ => false
theorem plain_test {e : Expr} (h : isTest e = false) (env : PySem.Env) : ∀ whole, isTrue e env whole = (do let v ← whole; standAt e.pos; holding [v] (truthy v)) := by
  cases e <;> first | (intro _; rfl) | cases h | skip
  rename_i op x p
  cases op <;> first | (intro _; rfl) | cases h
theorem Sound.val {e : Expr} {ir : E} {Φ : Nat → List D → R D} (h : PE X e (tE X.K W cl (ev Φ ir))) (ht : isTest e = false) (hn : isNewE ir = false) : Sound X W cl Φ e ir := ⟨h, fun _ => ct_val h (plain_test ht _), fun z => by rw [hn] at z; cases z⟩
theorem Sound.new {e : Expr} {ir : E} {Φ : Nat → List D → R D} (h : PE X e (tN X.K W cl (ev Φ ir))) (ht : isTest e = false) : Sound X W cl Φ e ir := ⟨ce_new h, fun _ => ct_val (ce_new h) (plain_test ht _), fun _ => h⟩
/-- weakly -/
structure SoundO (X : Cx) (W : WX) (cl : Nat → Value) (Φ : Nat → List D → R D) (e : Expr) (ir : E) : Prop where
  pe : PE X e (tW X.K W cl (ev Φ ir))
theorem star_of {e : Expr} {es : List Expr} {env : PySem.Env} (h : ∀ x p, e ≠ .Starred x p) : starEach (e :: es) env = (false, eval e env) :: starEach es env := by
  cases e <;> first | rfl | exact absurd rfl (h _ _)
theorem tyTab_ok : (tyTab.all fun p => decide (bootBuiltins p.1 = some (.type p.2)) && decide (p.1 ≠ ("__name__" : Str))) = true := by decide +kernel
theorem biTab_ok : (biTab.all fun p => decide (bootBuiltins p.1 = some p.2.2) && decide (p.1 ≠ ("__name__" : Str))) = true := by decide +kernel
theorem lookup_mem {α : Type} {l : List (Str × α)} {x : Str} {v : α} (h : l.lookup x = some v) : (x, v) ∈ l := by
  induction l with
  | nil => cases h
  | cons p l ih =>
    obtain ⟨k, u⟩ := p
    rw [List.lookup_cons] at h
    by_cases e : x == k
    · rw [e] at h
      cases h
      rw [eq_of_beq e]
      simp
    · simp only [Bool.not_eq_true] at e
      rw [e] at h
      exact List.mem_cons_of_mem _ (ih h)
theorem biRule (hc : X.calm = true) (hu : X.A.units + 3 < cLine) : ∀ p ∈ biTab, CallR X p.2.2 (rBi X.K p.2.1) := by
  intro p hp
  simp only [biTab, List.mem_cons, List.not_mem_nil, or_false] at hp
  rcases hp with rfl | rfl | rfl | rfl | rfl | rfl | rfl | rfl | rfl | rfl | rfl | rfl
  · exact bi_len
  · exact bi_max hc
  · exact bi_min hc
  · exact bi_abs
  · exact bi_all hc
  · exact bi_any hc
  · exact bi_sum hc
  · exact bi_tuple
  · exact bi_list
  · exact bi_isinst
  · exact bi_sorted hc (by omega)
  · exact bi_dict hc hu
variable {Φ : Nat → List D → R D}
theorem name_ok (C : Ctx c Γ cl j X L W) {x : Str} {p : Pos} {ir : E} (h : compName c L x = some ir) : Sound X W cl Φ (.Name x p) ir := by
  unfold compName at h
  split at h
  · rename_i i hi
    cases h
    obtain ⟨h1, h2, h3, h4⟩ := C.slotN hi
    exact .val (ce_var h1 h2 h3 h4) rfl rfl
  · obtain ⟨hg, h⟩ := when_some h
    obtain ⟨g, hd⟩ := C.glob hg
    split at h
    · rename_i i hi
      cases h
      obtain ⟨t, ht⟩ := C.ci x i hi
      exact .val (ce_lit (pe_glob (v := .int i) g ht ⟨t, rfl⟩ hd) fun F => .int i) rfl rfl
    · split at h
      · rename_i s hs
        cases h
        obtain ⟨t, ht⟩ := C.cs x s hs
        exact .val (ce_lit (pe_glob (v := .str s) g ht ⟨t, rfl⟩ hd) fun F => .str s) rfl rfl
      · split at h
        · rename_i t ht
          obtain ⟨hb, h⟩ := when_some h
          cases h
          have := List.all_eq_true.mp tyTab_ok (x, t) (lookup_mem ht)
          rw [Bool.and_eq_true] at this
          exact .val (ce_lit (pe_bltn (v := .ty t) g (C.bl x hb) (of_decide_eq_true this.1) rfl (of_decide_eq_true this.2) hd) fun F => .ty t) rfl rfl
        · cases h
/-- the parts are sound -/
def IH (c : Sig) (Γ : List FnR) (cl : Nat → Value) (j : Nat) (f : Loc → Expr → Option E) : Prop := ∀ {L : Loc} {W : WX} {X : Cx} {e : Expr} {ir : E}, Ctx c Γ cl j X L W → f L e = some ir → Sound X W cl (phi Γ) e ir ∧ ∀ x p, e ≠ .Starred x p
structure SoundA (X : Cx) (W : WX) (cl : Nat → Value) (Φ : Nat → List D → R D) (es : List Expr) (irs : Es) : Prop where
  pa : PA X es (tA X.K W cl (evs Φ irs))
  and_ : ∀ {a : Expr} {r : List Expr} {pos : Pos}, es = a :: r → es.all (!isIf ·) = true → PE X (.BoolOp .And es pos) (tE X.K W cl (evAnd Φ irs)) ∧ PW X (.BoolOp .And es pos) (tT X.K W cl (tst (evAnd Φ irs)))
  or_ : ∀ {a : Expr} {r : List Expr} {pos : Pos}, es = a :: r → es.all (!isIf ·) = true → PE X (.BoolOp .Or es pos) (tE X.K W cl (evOr Φ irs)) ∧ PW X (.BoolOp .Or es pos) (tT X.K W cl (tst (evOr Φ irs)))
  star : ∀ env : PySem.Env, ∀ pos : Pos, (backTo pos (starEach es env)).any (·.1) = false
  one : ∀ {a : Expr} {r : List Expr} (env : PySem.Env), es = a :: r → starEach es env = (false, eval a env) :: starEach r env
theorem tE_congr {K : PySem.W.Frag} {r r' : Env → R D} (h : ∀ e, r e = r' e) : tE K W cl r = tE K W cl r' := by rw [show r = r' from funext h]
theorem tT_congr {K : PySem.W.Frag} {r r' : Env → R Bool} (h : ∀ e, r e = r' e) : tT K W cl r = tT K W cl r' := by rw [show r = r' from funext h]
theorem PEc {e : Expr} {r r' : Env → R D} (h : PE X e (tE X.K W cl r)) (hr : ∀ e, r e = r' e) : PE X e (tE X.K W cl r') := tE_congr (W := W) (cl := cl) (K := X.K) hr ▸ h
theorem PNc {e : Expr} {r r' : Env → R D} (h : PE X e (tN X.K W cl r)) (hr : ∀ e, r e = r' e) : PE X e (tN X.K W cl r') := by rw [show r' = r from funext fun e => (hr e).symm]; exact h
theorem PTc {e : Expr} {r r' : Env → R Bool} (h : PT X e (tT X.K W cl r)) (hr : ∀ e, r e = r' e) : PT X e (tT X.K W cl r') := tT_congr (W := W) (cl := cl) (K := X.K) hr ▸ h
theorem PWc {e : Expr} {r r' : Env → R Bool} (h : PW X e (tT X.K W cl r)) (hr : ∀ e, r e = r' e) : PW X e (tT X.K W cl r') := tT_congr (W := W) (cl := cl) (K := X.K) hr ▸ h
theorem PIc {tg e : Expr} {r r' : Env → R (List D)} (h : PI X tg e (tIt X.K W cl r)) (hr : ∀ e, r e = r' e) : PI X tg e (tIt X.K W cl r') := by rw [show r' = r from funext fun e => (hr e).symm]; exact h
theorem PAc {es : List Expr} {r r' : Env → R (List D)} (h : PA X es (tA X.K W cl r)) (hr : ∀ e, r e = r' e) : PA X es (tA X.K W cl r') := by rw [show r' = r from funext fun e => (hr e).symm]; exact h
theorem args_ok {f : Loc → Expr → Option E} (ih : IH c Γ cl j f) (C : Ctx c Γ cl j X L W) : ∀ {es : List Expr} {irs : Es}, compEs (f L) es = some irs → SoundA X W cl (phi Γ) es irs
  | [], irs, h => by
    cases h
    exact ⟨PAc ca_nil (fun _ => rfl), fun h => (nomatch h), fun h => (nomatch h), fun _ _ => rfl, fun _ h => (nomatch h)⟩
  | e :: es, irs, h => by
    obtain ⟨a, r, h1, h2, rfl⟩ := o2_some h
    obtain ⟨se, ns⟩ := ih C h1
    have sr := args_ok ih C h2
    refine ⟨PAc (ca_cons se.pe sr.pa (star_of ns)) fun _ => rfl, fun {a' r' pos} _ hi => ?_, fun {a' r' pos} _ hi => ?_, fun env pos => ?_, fun env h => ?_⟩
    · rw [List.all_cons, Bool.and_eq_true] at hi
      have hif : isIf e = false := by simpa using hi.1
      cases es with
      | nil =>
        cases h2
        exact ⟨pe_one se.pe, pw_and1 (se.pt hif)⟩
      | cons b bs =>
        obtain ⟨b', r2, h3, h4, rfl⟩ := o2_some h2
        obtain ⟨q1, q2⟩ := sr.and_ (pos := pos) rfl hi.2
        exact ⟨PEc (ce_and se.pe q1) fun _ => rfl, PWc (cw_and (se.pt hif) q2) fun _ => rfl⟩
    · rw [List.all_cons, Bool.and_eq_true] at hi
      have hif : isIf e = false := by simpa using hi.1
      cases es with
      | nil =>
        cases h2
        exact ⟨pe_one se.pe, pw_or1 (se.pt hif)⟩
      | cons b bs =>
        obtain ⟨b', r2, h3, h4, rfl⟩ := o2_some h2
        obtain ⟨q1, q2⟩ := sr.or_ (pos := pos) rfl hi.2
        exact ⟨PEc (ce_or se.pe q1) fun _ => rfl, PWc (cw_or (se.pt hif) q2) fun _ => rfl⟩
    · rw [star_of ns]
      show (false || (backTo pos (starEach es env)).any (·.1)) = false
      rw [sr.star env pos]
      rfl
    · cases h
      exact star_of ns
theorem opnd_ok {f : Loc → Expr → Option E} (ih : IH c Γ cl j f) (C : Ctx c Γ cl j X L W) {e : Expr} {ir : E} (h : compO c L (f L) e = some ir) : PE X e (tW X.K W cl (ev (phi Γ) ir)) ∧ ∀ x p, e ≠ .Starred x p := by
  unfold compO at h
  split at h
  · split at h
    · obtain ⟨i, h1, rfl⟩ := o1_some h
      obtain ⟨q1, q2, q3, q4⟩ := C.slotN h1
      refine ⟨?_, fun x p z => by cases z⟩
      have := ce_ovar (X := X) (W := W) (cl := cl) (pos := by assumption) q1 q2 q3 q4
      exact this
    · exact ⟨ce_weak (ih C h).1.pe, (ih C h).2⟩
  · exact ⟨ce_weak (ih C h).1.pe, (ih C h).2⟩
theorem part_ok {f : Loc → Expr → Option E} (ih : IH c Γ cl j f) (C : Ctx c Γ cl j X L W) {o : Option Expr} {ir : O} (h : compP (f L) o = some ir) : PO X o (tP X.K W cl (evO (phi Γ) ir)) := by
  cases o with
  | none => cases h; exact cp_none
  | some e =>
    obtain ⟨a, h1, rfl⟩ := o1_some h
    exact cp_some (ih C h1).1.pe
/-! ### targets -/
theorem Ctx.tgN (C : Ctx c Γ cl j X L W) {x : Str} {i : Nat} {pos : Pos} (h : Pan.tgN c L x = some i) : PG X (.Name x pos) (gName i) := by
  obtain ⟨h1, h2⟩ := when_some h
  rw [Bool.and_eq_true] at h1
  have hN : X.N[i]? = some x := by rw [C.N]; exact findIdx_get h2
  have nd : X.N.Nodup := by rw [C.N]; exact C.nd
  have q := h1.1
  split at q
  · rename_i e
    have e' : X.env.scope.names.lookup x = some .local := by rw [C.sc]; exact e
    exact pg_name nd hN (.inl e') (.inr e')
  · rename_i e
    have e' : X.env.scope.names.lookup x = some .cell := by rw [C.sc]; exact e
    exact pg_name nd hN (.inr e') (.inl (C.fc x q))
  · cases q
theorem tgNs_ok (C : Ctx c Γ cl j X L W) : ∀ {es : List Expr} {is : List Nat}, tgNs c L es = some is → PGs X es (gNames is) ∧ (assignEach es X.env).length = is.length ∧ (assignEach es X.env).findIdx? (·.1) = none
  | [], is, h => by
    cases h
    exact ⟨pgs_nil, rfl, rfl⟩
  | e :: es, is, h => by
    cases e <;> simp only [tgNs] at h <;> try cases h
    obtain ⟨i, r, h1, h2, rfl⟩ := o2_some h
    obtain ⟨q1, q2, q3⟩ := tgNs_ok C h2
    refine ⟨pgs_cons (C.tgN h1) q1 rfl, ?_, ?_⟩
    · show (assignEach es X.env).length + 1 = r.length + 1
      rw [q2]
    · show List.findIdx? (·.1) ((false, _) :: assignEach es X.env) = none
      rw [List.findIdx?_cons]
      simp [q3]
theorem tg_ok (C : Ctx c Γ cl j X L W) {tg : Expr} {g : G} (h : compG c L tg = some g) : PG X tg (gOf X.K g) := by
  cases tg <;> simp only [compG] at h <;> try cases h
  · obtain ⟨i, h1, rfl⟩ := o1_some h
    exact C.tgN h1
  · obtain ⟨is, h1, rfl⟩ := o1_some h
    obtain ⟨q1, q2, q3⟩ := tgNs_ok C h1
    exact pg_tup C.calm q1 q2 q3
theorem set_of {e : Expr} (h : isSet e = false) (env : PySem.Env) : ∀ x, foldedSetIterable e env x = pure x := by
  cases e <;> first | (intro _; rfl) | cases h
end
end Pan

/-! Panestacks, part T1: enumerate over a tuple. -/
namespace Pan
open PySem PySem.Spec L2
open PyProof.Rows hiding St
open AutoSeq1 (wpAny_loadPart')

theorem enumNewT (tp : Addr) (vals : Array Value) (m : Nat) (dd : Option Addr) (sls : Array (Option Value)) :
    Meets (Builtin.«enumerate.__new__» ⟨[.type "enumerate", .ref tp], []⟩) (fun _ R s => s.heap.get? tp = some { cls := .type "tuple", dict := dd, data := .seq vals m, slots := sls } ∧
      R (.ok (.ret (.ref (s.heap.push { cls := .type "tuple_iterator", data := .fields #[.ref tp, .int 0 0] }).objs.size)))
        { s with heap := (s.heap.push { cls := .type "tuple_iterator", data := .fields #[.ref tp, .int 0 0] }).push { cls := .type "enumerate", data := .fields #[.none, .bool false, .ref s.heap.objs.size, rawInt 0, .none, .none] } }) :=
  .of_wp fun prog w A R s q => by
    obtain ⟨hp, g, d, tk, os⟩ := s
    obtain ⟨ht, q⟩ := q
    have hsub := sub_enumerate
    have hT : Heap.IsTuple (Shared.heap ⟨hp, g, d, tk, os⟩) tp vals := ⟨_, ht, rfl, m, rfl⟩
    wp_walk using wpAny_loadPart' ht
    refine wpAny_stack_any fun st' => wpAny_pure ?_
    split
    · rename_i cx _ _ _ _ _
      cases (cx == Value.type "enumerate")
      all_goals (wp_walk using wpAny_loadPart' ht, wpAny_pyIter_tuple hT; exact ⟨_, rfl, q⟩)
    · (wp_walk using wpAny_loadPart' ht, wpAny_pyIter_tuple hT; exact ⟨_, rfl, q⟩)
section
variable {prog : Program} {w : World} {A : Around} {E : Value → Shared → Prop} {s : Shared}
theorem callEnumT {tp : Addr} {vals : Array Value} {Q : Value → Shared → Prop} (hT : s.heap.IsTuple tp vals)
    (q : ∀ h', IsEnum h' (s.heap.objs.size + 1) s.heap.objs.size 0 .none → h'.IsTupleIter s.heap.objs.size tp 0 → h'.objs.size = s.heap.objs.size + 2 → (∀ b o, s.heap.get? b = some o → h'.get? b = some o) → Q (.ref (s.heap.objs.size + 1)) { s with heap := h' }) :
    wpAny (model prog w) A (call (.type "enumerate") [.ref tp]) Q E s := by
  obtain ⟨⟨cc, dd, dt, sls⟩, ht, hc, m, hd⟩ := hT
  have hc : cc = .type "tuple" := hc
  have hd : dt = .seq vals m := hd
  subst hc hd
  refine callType_new F.called_enumerate (by decide) (F.typeCall_enumerate_1 _) (F.newCall_enumerate_1 _) (fun ob => F.args_object_init_2 ob _) F.entry_enumerate_new (enumNewT tp vals m dd sls) ⟨ht, ?_⟩
  have hz : (s.heap.push { cls := .type "tuple_iterator", data := .fields #[.ref tp, .int 0 0] }).objs.size = s.heap.objs.size + 1 := Heap.size_push ..
  show _ ∧ _
  rw [hz]
  have he : IsEnum ((s.heap.push { cls := .type "tuple_iterator", data := .fields #[.ref tp, .int 0 0] }).push { cls := .type "enumerate", data := .fields #[.none, .bool false, .ref s.heap.objs.size, rawInt 0, .none, .none] }) (s.heap.objs.size + 1) s.heap.objs.size 0 .none := by
    have := Heap.get?_push_size (s.heap.push { cls := .type "tuple_iterator", data := .fields #[.ref tp, .int 0 0] }) (o := { cls := .type "enumerate", data := .fields #[.none, .bool false, .ref s.heap.objs.size, rawInt 0, .none, .none] }) rfl
    rw [hz] at this
    exact this
  have hi : Heap.IsTupleIter ((s.heap.push { cls := .type "tuple_iterator", data := .fields #[.ref tp, .int 0 0] }).push { cls := .type "enumerate", data := .fields #[.none, .bool false, .ref s.heap.objs.size, rawInt 0, .none, .none] }) s.heap.objs.size tp 0 :=
    ⟨_, Heap.get?_push_of_some _ (Heap.get?_push_size _ rfl), rfl, rfl⟩
  exact ⟨⟨_, he, rfl⟩, q _ he hi (by rw [Heap.size_push, hz]) fun b o y => Heap.get?_push_of_some _ (Heap.get?_push_of_some _ y)⟩
end
/-- the tuple at a, each item in a new pair with its number -/
def IteT (K : PySem.W.Frag) (a : Addr) : It where
  go := fun i H => ∃ (xs : List V) (x : V), SqT K H a xs ∧ xs[i]? = some x
  yld := fun i H v H' => ∃ T x, v = .ref T ∧ H T = none ∧ H' = upd H T (.tup [.int (i : Nat), x]) ∧ ∀ xs, SqT K H a xs → xs[i]? = some x
  stop := fun i H => ∃ xs : List V, SqT K H a xs ∧ xs.length = i
theorem walkEnumT {K : PySem.W.Frag} {a : Addr} {xs : List V} : Walk (IteT K a) xs.length (fun H => SqT K H a xs) (YPair (fun i => some (.int (i : Nat))) (fun i => xs[i]?)) where
  goes := fun i H hi g => ⟨xs, xs[i], g, List.getElem?_eq_getElem hi⟩
  stops := fun H g => ⟨xs, g, rfl⟩
  yields := fun i H v H' hi g y => by
    obtain ⟨T, x, e1, e2, e3, e4⟩ := y
    exact ⟨T, .int (i : Nat), x, e1, e2, e3, rfl, e4 xs g⟩
theorem turnEnumT {P : Program} {w : World} {K : PySem.W.Frag} {elts : List Expr} {kk : Nat} {tpos : Pos} (a en it : Addr) :
    Turn P w K (.Tuple elts kk tpos) (IteT K a) [en, it] en (fun i h => (∃ old, IsEnum h en it ((i : Nat) : Int) old) ∧ h.IsTupleIter it a i ∧ en ≠ it ∧ a ≠ it ∧ a ≠ en) where
  mem := by simp
  obj := fun i h st b hb => by
    obtain ⟨⟨old, he⟩, ⟨o, ho, hc, hd⟩, _⟩ := st
    rcases List.mem_cons.mp hb with z | z
    · rw [z]; exact ⟨_, he, fun v q => nomatch q⟩
    · rw [List.mem_singleton.mp z]; exact ⟨o, ho, fun v q => by rw [hd] at q; cases q⟩
  keep := fun i h h' st k => by
    obtain ⟨⟨old, he⟩, hi, hne, ha⟩ := st
    exact ⟨⟨old, k en (by simp) _ he⟩, hi.at fun o q => k it (by simp) o q, hne, ha⟩
  item := by
    intro X hP hw hK hc i pins s σ H E I hf st hg
    subst hP; subst hw; subst hK
    obtain ⟨⟨old, he⟩, hit, hne, ha1, ha2⟩ := st
    obtain ⟨xs, x, hq, hx⟩ := hg
    obtain ⟨its, rv, hT, hz⟩ := I.tuple hq
    obtain ⟨u, hu, ru⟩ := rv.get hx
    have hlt : i < its.toArray.size := by
      have := (List.getElem?_eq_some_iff.mp hu).1
      simpa using this
    have hel : en < s.heap.objs.size := Heap.lt_size he
    have hil : it < s.heap.objs.size := by
      obtain ⟨_, q, _⟩ := hit
      exact Heap.lt_size q
    refine wpAny_pyNext_enum_itemD (Draws.tuple (A := X.A.in1) (I.ok.hd hc) it a ha1 its.toArray) he ⟨hit, hT⟩ hlt hne (by simp [hne, Ne.symm ha2]) fun y h1 tk hy ho hst hT1 hsz hk => ?_
    have hyu : y = u := by
      have h2 : its[i]? = some y := by simpa using hy
      rw [hu] at h2
      exact (Option.some.inj h2).symm
    subst hyu
    refine ⟨_, rfl, wpAny_letOwnedTupleGo_enum (s := { s with heap := h1, toks := tk + 1 }) ho fun h2 he2 sb => ?_⟩
    have hT2 : h2.get? s.heap.objs.size = some { cls := .type "tuple", data := .seq #[.int i tk, y] } := (sb.2 _ (Nat.ne_of_gt hel)).trans hT1
    have nw : ObjOk X.prog X.w (upd H s.heap.objs.size (.tup [.int (i : Nat), x])) h2 s.heap.objs.size (.tup [.int (i : Nat), x]) :=
      ⟨by show 2 ≤ sizeLine; decide, [.int i tk, y], .cons ⟨_, rfl⟩ (.cons ru .nil), ⟨_, hT2, rfl, _, rfl⟩⟩
    have I1 : Inv X pins σ (upd H s.heap.objs.size (.tup [.int (i : Nat), x])) { s with heap := h2, toks := tk + 1 } :=
      I.turnedNew (ch := [en, it]) (fun b ob hb q => (sb.2 b fun z => hb (by simp [z])).trans (hk b ob (fun z => hb (by simp [z])) (fun z => hb (by simp [z])) q)) hf (Nat.le_refl _) nw
    refine ⟨.ref s.heap.objs.size, _, I1, rfl, ⟨_, x, rfl, I.hok.fresh (Nat.le_refl _), rfl, fun ys hy' => by rw [I.tuple_inj hy' hq]; exact hx⟩, ⟨⟨y, ?_⟩, hst.1.at fun o q => (sb.2 it (Ne.symm hne)).trans q, hne, ha1, ha2⟩, fun b hb => ?_⟩
    · rw [show ((i + 1 : Nat) : Int) = (i : Int) + 1 by omega]
      exact he2
    · have hb' : b < s.heap.objs.size := by
        rcases List.mem_cons.mp hb with z | z
        · rw [z]; exact hel
        · rw [List.mem_singleton.mp z]; exact hil
      rw [upd_ne (Nat.ne_of_lt hb')]
      exact (hf b hb).1
  done := by
    intro X hP hw hK hc i pins s σ H E I hf st hg
    subst hP; subst hw; subst hK
    obtain ⟨⟨old, he⟩, hit, hne, ha1, ha2⟩ := st
    obtain ⟨xs, hq, hx⟩ := hg
    obtain ⟨its, rv, hT, hz⟩ := I.tuple hq
    obtain ⟨f0, f1, f2, f3, f4, f5⟩ := hf it (by simp)
    have hn : its.toArray.size = i := by rw [List.size_toArray, ← rv.length, hx]
    refine wpAny_pyNext_enum_endD (Draws.tuple (A := X.A.in1) (I.ok.hd hc) it a ha1 its.toArray) he (by rw [hn]; exact ⟨hit, hT⟩) fun h1 eb => ?_
    exact ⟨rfl, I.turned (t' := s.toks) (fun b o hb q => eb b o hb q) f0 f1 f3 f4 f5⟩
  self := fun A i s Q E st h => by
    obtain ⟨⟨_, he⟩, _⟩ := st
    exact wpAny_pyIter_enum he h
def iEnumT (K : PySem.W.Frag) (ta : TA) : TI := fun σ H R => ta σ H fun vs H1 => ∃ a xs, vs = [.ref a] ∧ SqT K H1 a xs ∧ R (IteT K a) H1
theorem pi_enumT {X : Cx} {e : Expr} {ta : TA} {p pos tpos : Pos} {elts : List Expr} {kk : Nat} (hg : Gl X "enumerate") (hm : X.mg "enumerate" = none) (ha : PA X [e] ta) (hs : starEach [e] X.env = [(false, eval e X.env)]) :
    PI X (.Tuple elts kk tpos) (.Call (.Name "enumerate" p) [e] [] pos) (iEnumT X.K ta) := by
  refine ⟨fun pins s σ H R I h => Call_ (ld_blt I hg hm boot_enumerate (PyProof.Rows.callWith_type1 (thn (ha.run pos pins s σ H _ I h) fun us s1 ⟨vs, H1, I1, r1, q1⟩ => ?_) hs rfl))⟩
  obtain ⟨a, xs, ex, hq, q⟩ := q1
  subst ex
  cases r1 with
  | cons r rr =>
    cases rr
    cases r
    obtain ⟨its, rv, hT, hz⟩ := I1.tuple hq
    have hal : a < s1.heap.objs.size := by
      obtain ⟨o, ho, _⟩ := hT
      exact Heap.lt_size ho
    refine callEnumT (show s1.heap.IsTuple a its.toArray from hT) fun h1 he hit hsz hk => wpAny_pyIter_enum he ?_
    have I2 : Inv X pins σ H1 { s1 with heap := h1 } := I1.kept (t' := s1.toks) hk
    refine ⟨s1.heap.objs.size + 1, [s1.heap.objs.size + 1, s1.heap.objs.size], _, _, H1, rfl, I2, turnEnumT a (s1.heap.objs.size + 1) s1.heap.objs.size, ⟨⟨.none, he⟩, hit, Nat.succ_ne_self _, Nat.ne_of_lt hal, Nat.ne_of_lt (Nat.lt_succ_of_lt hal)⟩, fun b hb => ?_, q⟩
    have hle : s1.heap.objs.size ≤ b := by
      rcases List.mem_cons.mp hb with z | z
      · rw [z]; exact Nat.le_add_right _ _
      · rw [List.mem_singleton.mp z]; exact Nat.le_refl _
    exact I1.fpOk hle (I1.hok.fresh hle)
/-! ### enumerate and zip by their data -/
section
variable {X : Cx} {W : WX} {cl : Nat → Value} {a b : Expr} {ra rb : Env → R D} {pos p tpos : Pos} {elts : List Expr} {kk : Nat}
theorem enumD_len (ds : List D) : (enumD ds).length = ds.length := by simp [enumD]
theorem walks_enumT {K : PySem.W.Frag} {F : Hp} {a : Addr} {xs : List V} {ds : List D} (h : IsT F a xs) (r : Rps K F xs ds) (hz : ds.length ≤ sizeLine) : WalksD K (IteT K a) F (enumD ds) := by
  refine walks_pair (n := xs.length) (by rw [enumD_len, r.length]) (by rw [r.length]; exact hz) _ walkEnumT (fun F1 H1 g s => (s.tup (h.mono g)).sq) fun i d hd x y hx hy => ?_
  cases hx
  obtain ⟨e, he, re⟩ := r.getV hy
  rw [enumD, List.getElem?_mapIdx, he] at hd
  cases hd
  exact ⟨_, _, rfl, .int _, re⟩
theorem walks_enumL {K : PySem.W.Frag} {F : Hp} {a : Addr} {xs : List V} {ds : List D} (h : F a = some (.lst xs)) (r : Rps K F xs ds) (hz : ds.length ≤ sizeLine) : WalksD K (Ite K a) F (enumD ds) := by
  refine walks_pair (n := xs.length) (by rw [enumD_len, r.length]) (by rw [r.length]; exact hz) _ walk_enum (fun F1 H1 g s => SqL.of (s.lst (g _ _ h))) fun i d hd x y hx hy => ?_
  cases hx
  obtain ⟨e, he, re⟩ := r.getV hy
  rw [enumD, List.getElem?_mapIdx, he] at hd
  cases hd
  exact ⟨_, _, rfl, .int _, re⟩
theorem ci_enum (hg : Gl X "enumerate") (hm : X.mg "enumerate" = none) (hs : starEach [a] X.env = [(false, eval a X.env)]) (ha : PA X [a] (tA X.K W cl fun e => do let x ← ra e; .ok [x])) :
    PI X (.Tuple elts kk tpos) (.Call (.Name "enumerate" p) [a] [] pos) (tIt X.K W cl fun e => do let x ← ra e; itS .enum [x]) := by
  refine PI.imp (PI.good (PI.or (pi_enum hg hm ha hs) (pi_enumT hg hm ha hs))) fun σ H R _ q => ?_
  obtain ⟨e, F, vr, w⟩ := q
  dsimp only at w
  cases hx : ra e with
  | bad => rw [hx] at w; exact w.elim
  | exc c => rw [hx] at w; exact .inl ⟨e, F, vr, by dsimp only; rw [hx]; exact w⟩
  | ok x =>
    rw [hx] at w
    have w1 : Wp W cl (itS .enum [x]) σ F H fun ds F' H' => ∀ J, WalksD X.K J F' ds → R J H' := w
    by_cases ht : ∃ xs, x = .tup xs
    · obtain ⟨ds, rfl⟩ := ht
      refine .inr ⟨e, F, vr, by
        dsimp only
        rw [hx]
        intro F1 H1 x1 vs rv
        cases rv with
        | cons h1 r1 =>
          cases r1
          cases h1 with
          | tup ea r =>
            refine ⟨_, _, rfl, (x1.sub.tup ea).sq, fun gd => w1 F1 H1 x1 _ (walks_enumT ea r ?_)⟩
            rw [← r.length]
            exact gd.tup _ _ ((x1.sub.tup ea).sq)⟩
    · refine .inl ⟨e, F, vr, by
        dsimp only
        rw [hx]
        intro F1 H1 x1 vs rv
        cases rv with
        | cons h1 r1 =>
          cases r1
          cases h1 with
          | lst ea r =>
            refine ⟨_, _, rfl, SqL.of (x1.sub.lst ea), fun gd => w1 F1 H1 x1 _ (walks_enumL ea r ?_)⟩
            rw [← r.length]
            exact gd.lst _ _ (SqL.of (x1.sub.lst ea))
          | tup ea r => exact absurd ⟨_, rfl⟩ ht
          | _ => exact w1.elim⟩
theorem zipD_len (xs ys : List D) : (zipD xs ys).length = min xs.length ys.length := by simp [zipD]
theorem zipD_get {xs ys : List D} {i : Nat} {d : D} (h : (zipD xs ys)[i]? = some d) : ∃ x y, xs[i]? = some x ∧ ys[i]? = some y ∧ d = .prs [x, y] := by
  rw [zipD, List.getElem?_map] at h
  cases q : (xs.zip ys)[i]? with
  | none => rw [q] at h; cases h
  | some p =>
    rw [q] at h
    cases h
    obtain ⟨h1, h2⟩ := List.getElem?_zip_eq_some.mp q
    exact ⟨_, _, h1, h2, rfl⟩
theorem walkZipT {K : PySem.W.Frag} {a b : Addr} {xs ys : List V} {n : Nat} (hn : n = min xs.length ys.length) : Walk (RZ.ItzT K a b) n (fun H => SqT K H a xs ∧ SqT K H b ys) (YPair (fun i => xs[i]?) (fun i => ys[i]?)) where
  goes := fun i H hi g => ⟨xs, ys, xs[i]'(by omega), ys[i]'(by omega), g.1, g.2, List.getElem?_eq_getElem _, List.getElem?_eq_getElem _⟩
  stops := fun H g => ⟨xs, ys, g.1, g.2, by omega⟩
  yields := fun i H v H' hi g y => by
    obtain ⟨T, x, z, e1, e2, e3, e4, e5⟩ := y
    exact ⟨T, x, z, e1, e2, e3, e4 xs g.1, e5 ys g.2⟩
theorem walks_zipT {K : PySem.W.Frag} {F : Hp} {a b : Addr} {xs ys : List V} {ds es : List D} (h : IsT F a xs) (r : Rps K F xs ds) (h' : IsT F b ys) (r' : Rps K F ys es) (hz : ds.length ≤ sizeLine) : WalksD K (RZ.ItzT K a b) F (zipD ds es) := by
  refine walks_pair (n := min xs.length ys.length) (by rw [zipD_len, r.length, r'.length]) (by rw [r.length]; omega) _ (walkZipT rfl) (fun F1 H1 g s => ⟨(s.tup (h.mono g)).sq, (s.tup (h'.mono g)).sq⟩) fun i d hd x y hx hy => ?_
  obtain ⟨u, v, q1, q2, rfl⟩ := zipD_get hd
  obtain ⟨e, he, re⟩ := r.getV hx
  obtain ⟨e', he', re'⟩ := r'.getV hy
  rw [q1] at he; rw [q2] at he'
  cases he; cases he'
  exact ⟨_, _, rfl, re, re'⟩
theorem walks_zipL {K : PySem.W.Frag} {F : Hp} {a b : Addr} {xs ys : List V} {ds es : List D} (h : F a = some (.lst xs)) (r : Rps K F xs ds) (h' : F b = some (.lst ys)) (r' : Rps K F ys es) (hz : ds.length ≤ sizeLine) : WalksD K (Itz K a b) F (zipD ds es) := by
  refine walks_pair (n := min xs.length ys.length) (by rw [zipD_len, r.length, r'.length]) (by rw [r.length]; omega) _ (walk_zip rfl) (fun F1 H1 g s => ⟨SqL.of (s.lst (g _ _ h)), SqL.of (s.lst (g _ _ h'))⟩) fun i d hd x y hx hy => ?_
  obtain ⟨u, v, q1, q2, rfl⟩ := zipD_get hd
  obtain ⟨e, he, re⟩ := r.getV hx
  obtain ⟨e', he', re'⟩ := r'.getV hy
  rw [q1] at he; rw [q2] at he'
  cases he; cases he'
  exact ⟨_, _, rfl, re, re'⟩
theorem ci_zip (hg : Gl X "zip") (hm : X.mg "zip" = none) (hs : starEach [a, b] X.env = (false, eval a X.env) :: starEach [b] X.env) (hpl : (backTo pos (starEach [b] X.env)).any (·.1) = false)
    (ha : PA X [a, b] (tA X.K W cl fun e => do let x ← ra e; let y ← rb e; .ok [x, y])) :
    PI X (.Tuple elts kk tpos) (.Call (.Name "zip" p) [a, b] [] pos) (tIt X.K W cl fun e => do let x ← ra e; let y ← rb e; itS .zip [x, y]) := by
  refine PI.imp (PI.good (RZ.pi_zipA hg hm ha hs hpl)) fun σ H R _ q => ?_
  obtain ⟨e, F, vr, w⟩ := q
  refine ⟨e, F, vr, ?_⟩
  dsimp only at w ⊢
  cases hx : ra e with
  | bad => rw [hx] at w; exact w.elim
  | exc c => rw [hx] at w; exact w
  | ok x =>
    rw [hx] at w
    have w0 : Wp W cl (rb e >>= fun y => itS .zip [x, y]) σ F H fun ds F' H' => ∀ J, WalksD X.K J F' ds → R J H' := w
    cases hy : rb e with
    | bad => rw [hy] at w0; exact w0.elim
    | exc c => rw [hy] at w0; exact w0
    | ok y =>
      rw [hy] at w0
      have w1 : Wp W cl (itS .zip [x, y]) σ F H fun ds F' H' => ∀ J, WalksD X.K J F' ds → R J H' := w0
      intro F1 H1 x1 vs rv
      cases rv with
      | cons h1 r =>
        cases r with
        | cons h2 r =>
          cases r
          cases h1 <;> cases h2 <;> simp only [itS] at w1 <;> try exact w1.elim
          · rename_i p1 xs ds ea r1 p2 ys es eb r2
            refine ⟨p1, p2, xs, ys, rfl, .inr ⟨(x1.sub.tup ea).sq, (x1.sub.tup eb).sq, fun gd => w1 F1 H1 x1 _ (walks_zipT ea r1 eb r2 ?_)⟩⟩
            rw [← r1.length]
            exact gd.tup _ _ ((x1.sub.tup ea).sq)
          · rename_i p1 xs ds ea r1 p2 ys es eb r2
            refine ⟨p1, p2, xs, ys, rfl, .inl ⟨SqL.of (x1.sub.lst ea), SqL.of (x1.sub.lst eb), fun gd => w1 F1 H1 x1 _ (walks_zipL ea r1 eb r2 ?_)⟩⟩
            rw [← r1.length]
            exact gd.lst _ _ (SqL.of (x1.sub.lst ea))
end
end Pan

/-! Panestacks, part E3: every resolved expression is sound. -/
namespace Pan
open PySem PySem.Spec L2
open PyProof.Rows hiding St
section
variable {c : Sig} {Γ : List FnR} {cl : Nat → Value} {j : Nat} {X : Cx} {L : Loc} {W : WX}
theorem evs_one {Φ : Nat → List D → R D} {a : E} {e : Env} : evs Φ (.cons a .nil) e = (do let x ← ev Φ a e; .ok [x]) := by
  show (ev Φ a e >>= fun x => (R.ok [] : R (List D)) >>= fun xs => R.ok (x :: xs)) = _
  rfl
theorem evs_two {Φ : Nat → List D → R D} {a b : E} {e : Env} : evs Φ (.cons a (.cons b .nil)) e = (do let x ← ev Φ a e; let y ← ev Φ b e; .ok [x, y]) := by
  show (ev Φ a e >>= fun x => (ev Φ b e >>= fun y => (R.ok [] : R (List D)) >>= fun ys => R.ok (y :: ys)) >>= fun xs => R.ok (x :: xs)) = _
  congr 1
  funext x
  rw [R_assoc]
  rfl
theorem it_one {Φ : Nat → List D → R D} {a : E} {k : IK} {e : Env} : (do let x ← ev Φ a e; itS k [x]) = (do let ss ← evs Φ (.cons a .nil) e; itS k ss) := by
  rw [evs_one]
  show _ = ((ev Φ a e >>= fun x => R.ok [x]) >>= fun ss => itS k ss)
  rw [R_assoc]
  rfl
theorem it_two {Φ : Nat → List D → R D} {a b : E} {k : IK} {e : Env} : (do let x ← ev Φ a e; let y ← ev Φ b e; itS k [x, y]) = (do let ss ← evs Φ (.cons a (.cons b .nil)) e; itS k ss) := by
  rw [evs_two]
  show _ = ((ev Φ a e >>= fun x => ev Φ b e >>= fun y => R.ok [x, y]) >>= fun ss => itS k ss)
  rw [R_assoc]
  congr 1
  funext x
  rw [R_assoc]
  rfl
theorem beq_str {x y : Str} (h : (x == y) = true) : x = y := eq_of_beq h
theorem iter_ok {f : Loc → Expr → Option E} (ih : IH c Γ cl j f) (C : Ctx c Γ cl j X L W) {tg e : Expr} {k : IK} {src : Es} (h : compI c L (f L) tg e = some (k, src)) :
    PI X tg e (tIt X.K W cl fun en => do let ss ← evs (phi Γ) src en; itS k ss) := by
  have seq : ∀ {e : Expr} {z : E}, f L e = some z → PI X tg e (tIt X.K W cl fun en => do let ss ← evs (phi Γ) (.cons z .nil) en; itS .seq ss) := fun h => PIc (ci_seq (ih C h).1.pe) fun e => it_one
  unfold compI at h
  split at h
  · rename_i x p a pos
    split at h
    · rename_i hc
      rw [Bool.and_eq_true, Bool.and_eq_true] at hc
      obtain ⟨z, h1, h2⟩ := o1_some h
      cases h2
      have ex := beq_str hc.2
      subst ex
      obtain ⟨s1, n1⟩ := ih C h1
      refine PIc (ci_rng1 (C.glob hc.1.1).1 (C.bl _ hc.1.2) (star_of n1) (PAc (ca_cons s1.pe ca_nil (star_of n1)) fun e => rfl)) fun e => it_one
    · split at h
      · rename_i hc
        rw [Bool.and_eq_true, Bool.and_eq_true, Bool.and_eq_true] at hc
        obtain ⟨z, h1, h2⟩ := o1_some h
        cases h2
        have ex := beq_str hc.1.2
        subst ex
        obtain ⟨s1, n1⟩ := ih C h1
        cases tg <;> simp only [isTup] at hc <;> try (exact absurd hc.2 (by decide))
        refine PIc (ci_enum (C.glob hc.1.1.1).1 (C.bl _ hc.1.1.2) (star_of n1) (PAc (ca_cons s1.pe ca_nil (star_of n1)) fun e => rfl)) fun e => it_one
      · obtain ⟨_, h⟩ := when_some h
        obtain ⟨z, h1, h2⟩ := o1_some h
        cases h2
        exact seq h1
  · rename_i x p a b pos
    split at h
    · rename_i hc
      rw [Bool.and_eq_true, Bool.and_eq_true] at hc
      obtain ⟨z, y, h1, h2, h3⟩ := o2_some h
      cases h3
      have ex := beq_str hc.2
      subst ex
      obtain ⟨s1, n1⟩ := ih C h1
      obtain ⟨s2, n2⟩ := ih C h2
      refine PIc (ci_rng2 (C.glob hc.1.1).1 (C.bl _ hc.1.2) (by rw [star_of n1, star_of n2]; rfl) (star_of n2) (PAc (ca_cons s1.pe (ca_cons s2.pe ca_nil (star_of n2)) (star_of n1)) fun e => ?_)) fun e => it_two
      rw [← evs_two]
      rfl
    · split at h
      · rename_i hc
        rw [Bool.and_eq_true, Bool.and_eq_true, Bool.and_eq_true] at hc
        obtain ⟨z, y, h1, h2, h3⟩ := o2_some h
        cases h3
        have ex := beq_str hc.1.2
        subst ex
        obtain ⟨s1, n1⟩ := ih C h1
        obtain ⟨s2, n2⟩ := ih C h2
        cases tg <;> simp only [isTup] at hc <;> try (exact absurd hc.2 (by decide))
        refine PIc (ci_zip (C.glob hc.1.1.1).1 (C.bl _ hc.1.1.2) (star_of n1) (by rw [star_of n2]; rfl) (PAc (ca_cons s1.pe (ca_cons s2.pe ca_nil (star_of n2)) (star_of n1)) fun e => ?_)) fun e => it_two
        rw [← evs_two]
        rfl
      · obtain ⟨z, h1, h2⟩ := o1_some h
        cases h2
        exact seq h1
  · obtain ⟨z, h1, h2⟩ := o1_some h
    cases h2
    exact seq h1
theorem tests_ok {f : Loc → Expr → Option E} (ih : IH c Γ cl j f) (C : Ctx c Γ cl j X L W) {es : List Expr} {t : O} (h : compT (f L) es = some t) : PTs X es (tT X.K W cl (evT (phi Γ) t)) := by
  have imp : ∀ {es : List Expr} {t t' : TT}, PTs X es t → (∀ σ H Q, t' σ H Q → t σ H Q) → PTs X es t' := fun h i => ⟨fun pins s σ H Q I q => h.run pins s σ H Q I (i σ H Q q)⟩
  cases es with
  | nil =>
    cases h
    refine imp pts_nil fun σ H Q q => ?_
    obtain ⟨e, F, vr, w⟩ := q
    exact w.now vr.sub
  | cons e es =>
    cases es with
    | cons _ _ => cases h
    | nil =>
      simp only [compT] at h
      have hi : isIf e = false ∧ (f L e).map O.some = some t := by
        split at h
        · cases h
        · rename_i hn
          refine ⟨?_, h⟩
          cases e <;> first | rfl | exact absurd rfl (hn _ _ _ _)
      obtain ⟨z, h1, rfl⟩ := o1_some hi.2
      exact pts_one ((ih C h1).1.pt hi.1)
theorem ixPlain {b : Expr} (h : isSlice b = false) : PlainIx b := by
  cases b <;> first | (intro _ _; rfl) | cases h
/-- list(range(n)) -/
theorem rps_range {K : PySem.W.Frag} {F : Hp} (lo : Int) : ∀ l : List Nat, Rps K F (l.map fun (i : Nat) => V.int (lo + (i : Nat))) (l.map fun (i : Nat) => D.int (lo + i))
  | [] => .nil
  | i :: l => .cons (.int _) (rps_range lo l)
theorem cn_lrange {a : Expr} {ra : Env → R D} {p p' pos pos' : Pos} (C : Ctx c Γ cl j X L W) (hg : Gl X "list") (hm : X.mg "list" = none) (hg' : Gl X "range") (hm' : X.mg "range" = none) (na : starEach [a] X.env = (false, eval a X.env) :: starEach [] X.env) (ha : PE X a (tE X.K W cl ra)) :
    PE X (.Call (.Name "list" p) [.Call (.Name "range" p') [a] [] pos'] [] pos) (tN X.K W cl fun e => do let x ← ra e; biS .lrange [x]) := by
  refine PE.imp (pe_listRg C.calm hg hm (prg_1 hg' hm' ha na)) fun σ H Q _ q => ?_
  obtain ⟨e, F, vr, w⟩ := q
  refine ⟨e, F, vr, w.bind.mono fun x F1 H1 x1 w1 vx rx => ?_⟩
  cases rx <;> simp only [biS] at w1 <;> try exact w1.elim
  rename_i n
  split at w1
  · rename_i hn
    simp only [smallI, Bool.and_eq_true, decide_eq_true_eq] at hn
    have hz : (sizeLine : Nat) = 2 ^ 24 := by decide
    refine ⟨n, rfl, ⟨by decide, by decide, hn.1.1, hn.1.2, ?_⟩, fun q hq => ?_⟩
    · have := hn.2
      omega
    · have x2 := Ext.made (.lst (rgV 0 n)) x1.sub hq
      refine w1 _ _ x2 q ⟨x1.same.free hq, x1.sub.none hq, _, upd_same, ?_⟩
      unfold rgV rangeD
      rw [Int.sub_zero]
      exact rps_range 0 _
  · exact w1.elim
theorem mem_of_within {is js : List Nat} (h : within is js = true) : ∀ i ∈ is, i ∈ js := fun i hi => by
  have := List.all_eq_true.mp h i hi
  simpa using this
theorem lc_sem {Φ : Nat → List D → R D} {vs : List Nat} {g : G} {k : IK} {src : Es} {t : O} {b : E} (e : Env) :
    (do let ds ← (do let ss ← evs Φ src e; itS k ss); let r ← (lcM ds (lcF g vs (evT Φ t) (ev Φ b) e)).calm; R.ok (D.lst r)) = ev Φ (.lc vs g k src t b) e := by
  show ((evs Φ src e >>= fun ss => itS k ss) >>= fun ds => (lcM ds (lcF g vs (evT Φ t) (ev Φ b) e)).calm >>= fun r => R.ok (D.lst r)) = _
  rw [R_assoc]
  rfl
theorem dc_sem {Φ : Nat → List D → R D} {vs : List Nat} {g : G} {k : IK} {src : Es} {t : O} {b d : E} (e : Env) :
    (do let ds ← (do let ss ← evs Φ src e; itS k ss); let r ← (lcM ds (dcF g vs (evT Φ t) (ev Φ b) (ev Φ d) e)).calm; R.ok (D.dic false (putAll r []))) = ev Φ (.dc vs g k src t b d) e := by
  show ((evs Φ src e >>= fun ss => itS k ss) >>= fun ds => (lcM ds (dcF g vs (evT Φ t) (ev Φ b) (ev Φ d) e)).calm >>= fun r => R.ok (D.dic false (putAll r []))) = _
  rw [R_assoc]
  rfl
theorem lc2_sem {Φ : Nat → List D → R D} {vs vs1 : List Nat} {g g1 : G} {k k1 : IK} {src src1 : Es} {t t1 : O} {b : E} (e : Env) :
    (do let ds ← (do let ss ← evs Φ src e; itS k ss); let r ← (lcM ds (lcF2 g vs (evT Φ t) (fun en => do let ss ← evs Φ src1 en; itS k1 ss) g1 vs1 (evT Φ t1) (ev Φ b) e)).calm; fitL r D.lst) = ev Φ (.lc2 vs g k src t vs1 g1 k1 src1 t1 b) e := by
  show ((evs Φ src e >>= fun ss => itS k ss) >>= fun ds => (lcM ds (lcF2 g vs (evT Φ t) (fun en => do let ss ← evs Φ src1 en; itS k1 ss) g1 vs1 (evT Φ t1) (ev Φ b) e)).calm >>= fun r => fitL r D.lst) = _
  rw [R_assoc]
  have : (lcF2 g vs (evT Φ t) (fun en => do let ss ← evs Φ src1 en; itS k1 ss) g1 vs1 (evT Φ t1) (ev Φ b) e) = (fun d => do
      let e1 ← asgG g d (wipeE e vs)
      let c ← evT Φ t e1
      if c then do
        let ss1 ← evs Φ src1 e1
        let ds1 ← itS k1 ss1
        lcM ds1 fun d1 => do
          let e2 ← asgG g1 d1 (wipeE e1 vs1)
          let c1 ← evT Φ t1 e2
          if c1 then do let y ← ev Φ b e2; .ok [y] else .ok []
      else .ok []) := by
    funext d
    unfold lcF2
    congr 1
    funext e1
    congr 1
    funext c'
    cases c' with
    | false => rfl
    | true =>
      show ((evs Φ src1 e1 >>= fun ss => itS k1 ss) >>= fun ds1 => lcM ds1 (lcF g1 vs1 (evT Φ t1) (ev Φ b) e1)) = _
      rw [R_assoc]
      rfl
  rw [this]
  rfl
theorem fnIdx_ok (C : Ctx c Γ cl j X L W) : ∀ {fs : List Expr} {js : List Nat}, fnIdx c L fs = some js → ∃ l vs, FnL X cl j fs l vs ∧ l.length = fs.length ∧ ∀ (x : D) (k : R (List D)), (pickR l x >>= fun fr => k >>= fun xs => arity fr.n fr.sem xs) = (pickF js x >>= fun f => k >>= fun xs => phi Γ f xs) := by
  have main : ∀ {fs : List Expr} {js : List Nat}, fnIdx c L fs = some js → ∃ l vs, FnL X cl j fs l vs ∧ l.length = fs.length ∧ l.length = js.length ∧ ∀ (i f : Nat) (fr : FnR), js[i]? = some f → l[i]? = some fr → Γ[f]? = some fr := by
    intro fs
    induction fs with
    | nil => intro js h; cases h; exact ⟨[], [], .nil, rfl, rfl, fun i f fr e => by cases e⟩
    | cons a r ih =>
      intro js h
      unfold fnIdx at h
      split at h
      · rename_i heq; cases heq
      · rename_i x p r' heq
        cases heq
        obtain ⟨hgl, h⟩ := when_some h
        obtain ⟨i, js', hi, h2, rfl⟩ := o2_some h
        obtain ⟨l, vs, hf, h3, h4, h5⟩ := ih h2
        obtain ⟨hg, hd⟩ := C.glob hgl
        obtain ⟨hil, hb, _⟩ := List.findIdx?_eq_some_iff_getElem.mp hi
        have hfl : i < Γ.length := by
          have := hil
          rw [C.fns, List.length_map] at this
          exact this
        have hnm : x = Γ[i].name := by
          have e1 : c.fns[i] = (Γ[i].name, Γ[i].n) := by
            have : c.fns[i]? = some (Γ[i].name, Γ[i].n) := by
              rw [C.fns, List.getElem?_map, List.getElem?_eq_getElem hfl]
              rfl
            rw [List.getElem?_eq_getElem hil] at this
            exact Option.some.inj this
          rw [e1] at hb
          exact (eq_of_beq hb).symm
        obtain ⟨f, fd, ps, k, hn, hk, F, hm, kp, hbn⟩ := (C.fx Γ[i] (List.getElem_mem hfl)).ex
        rw [← hnm] at hm
        refine ⟨Γ[i] :: l, .ref f :: vs, .cons hg hd hm hn hk F kp hbn hf, by simp [h3], by simp [h4], fun n g fr e1 e2 => ?_⟩
        cases n with
        | zero =>
          cases e1
          cases e2
          exact List.getElem?_eq_getElem hfl
        | succ n => exact h5 n g fr e1 e2
      · cases h
  intro fs js h
  obtain ⟨l, vs, hf, h3, h4, h5⟩ := main h
  refine ⟨l, vs, hf, h3, fun x k => ?_⟩
  unfold pickR pickF
  cases x <;> try rfl
  rename_i i
  dsimp only
  split
  · cases q : l[i.toNat]? with
    | none =>
      have : js[i.toNat]? = none := by
        rw [List.getElem?_eq_none_iff] at q ⊢
        omega
      rw [this]
      rfl
    | some fr =>
      have hlt := (List.getElem?_eq_some_iff.mp q).1
      have hj : js[i.toNat]? = some (js[i.toNat]'(by omega)) := List.getElem?_eq_getElem (by omega)
      have z := h5 _ _ fr hj q
      rw [hj]
      show (k >>= fun xs => arity fr.n fr.sem xs) = (k >>= fun xs => phi Γ _ xs)
      congr 1
      funext xs
      unfold phi
      rw [z]
  · rfl
theorem step_ok {f : Loc → Expr → Option E} (ih : IH c Γ cl j f) (C : Ctx c Γ cl j X L W) {e : Expr} {ir : E} (h : stepE c f L e = some ir) : Sound X W cl (phi Γ) e ir ∧ ∀ x p, e ≠ .Starred x p := by
  have hu := C.room.units
  have hu65 : X.A.units + 65 < cLine := by
    have := C.room.un
    omega
  refine ⟨?_, fun x p z => by subst z; simp [stepE] at h⟩
  unfold stepE at h
  split at h
  · exact name_ok C h
  · cases h; exact .val (ce_lit pe_int fun F => .int _) rfl rfl
  · cases h; exact .val (ce_lit pe_bl fun F => .bl _) rfl rfl
  · cases h; exact .val (ce_lit pe_non fun F => .non) rfl rfl
  · cases h; exact .val (ce_lit pe_str fun F => .str _) rfl rfl
  · obtain ⟨h1, h⟩ := when_some h
    obtain ⟨x, y, h2, h3, rfl⟩ := o2_some h
    exact .val (PEc (ce_bin h1 (ih C h2).1.pe (ih C h3).1.pe) fun _ => rfl) rfl rfl
  · obtain ⟨x, h2, rfl⟩ := o1_some h
    exact .val (PEc (ce_neg (ih C h2).1.pe) fun _ => rfl) rfl rfl
  · obtain ⟨h1, h⟩ := when_some h
    obtain ⟨x, h2, rfl⟩ := o1_some h
    exact ⟨PEc (ce_not (ih C h2).1.pe) fun _ => rfl, fun _ => PTc (ct_not' ((ih C h2).1.pt (by simpa using h1))) fun _ => rfl, fun z => nomatch z⟩
  · obtain ⟨h1, h⟩ := when_some h
    obtain ⟨x, h2, rfl⟩ := o1_some h
    obtain ⟨q1, q2⟩ := (args_ok ih C h2).and_ rfl h1
    exact ⟨PEc q1 fun _ => rfl, fun _ => PTc q2.pt fun _ => rfl, fun z => nomatch z⟩
  · obtain ⟨h1, h⟩ := when_some h
    obtain ⟨x, h2, rfl⟩ := o1_some h
    obtain ⟨q1, q2⟩ := (args_ok ih C h2).or_ rfl h1
    exact ⟨PEc q1 fun _ => rfl, fun _ => PTc q2.pt fun _ => rfl, fun z => nomatch z⟩
  · obtain ⟨h1, h⟩ := when_some h
    obtain ⟨x, y, h2, h3, rfl⟩ := o2_some h
    have hm := by simpa using h1
    exact ⟨PEc (ce_cmp hu65 hm (opnd_ok ih C h2).1 (opnd_ok ih C h3).1) fun _ => rfl, fun _ => PTc (ct_cmp hu65 hm (opnd_ok ih C h2).1 (opnd_ok ih C h3).1) fun _ => rfl, fun z => nomatch z⟩
  · obtain ⟨h1, h⟩ := when_some h
    obtain ⟨x, y, z, h2, h3, h4, rfl⟩ := o3_some h
    have hm := (Bool.not_eq_true' _).mp h1
    exact ⟨PEc (ce_chain hu65 hm (opnd_ok ih C h2).1 (opnd_ok ih C h3).1 (opnd_ok ih C h4).1) fun _ => rfl, fun _ => PTc (ct_chain hu65 hm (opnd_ok ih C h2).1 (opnd_ok ih C h3).1 (opnd_ok ih C h4).1) fun _ => rfl, fun z => nomatch z⟩
  · obtain ⟨h1, h⟩ := when_some h
    obtain ⟨x, y, z, h2, h3, h4, rfl⟩ := o3_some h
    exact ⟨PEc (ce_ife ((ih C h2).1.pt (by simpa using h1)) (ih C h3).1.pe (ih C h4).1.pe) fun _ => rfl, (fun z => nomatch z), (fun z => nomatch z)⟩
  · obtain ⟨x, h2, rfl⟩ := o1_some h
    exact .val (PEc (ce_tup (args_ok ih C h2).pa) fun _ => rfl) rfl rfl
  · obtain ⟨x, h2, rfl⟩ := o1_some h
    exact .new (PNc (cn_lst (args_ok ih C h2).pa) fun _ => rfl) rfl
  · obtain ⟨x, y, z, h2, h3, h4, rfl⟩ := o3_some h
    exact .val (PEc (ce_sl (ih C h2).1.pe (part_ok ih C h3) (part_ok ih C h4)) fun _ => rfl) rfl rfl
  · obtain ⟨x, h2, rfl⟩ := o1_some h
    exact .val (PEc (ce_rev (p4 := ⟨0, 0, 0, 0⟩) (ih C h2).1.pe) fun _ => rfl) rfl rfl
  · rename_i a b pos _ _
    obtain ⟨h1, h⟩ := when_some h
    have hs : PlainIx b := ixPlain (by simpa using h1)
    split at h
    · rename_i ho
      obtain ⟨x, y, h2, h3, rfl⟩ := o2_some h
      cases a <;> simp only [isOwnName] at ho <;> try cases ho
      rename_i nm np
      simp only [compO, ho, if_true] at h2
      obtain ⟨i, h4, rfl⟩ := o1_some h2
      obtain ⟨q1, q2, q3, q4⟩ := C.slotN h4
      exact .val (PEc (ce_oix (by omega) hs q1 q2 q3 q4 (ih C h3).1.pe) fun _ => rfl) rfl rfl
    · obtain ⟨x, y, h2, h3, rfl⟩ := o2_some h
      exact .val (PEc (ce_ix (by omega) hs (ih C h2).1.pe (ih C h3).1.pe) fun _ => rfl) rfl rfl
  · rename_i x p a es pos
    obtain ⟨h1, h⟩ := when_some h
    obtain ⟨hg, hd⟩ := C.glob h1
    split at h
    · -- a def
      rename_i i hi
      obtain ⟨irs, h2, rfl⟩ := o1_some h
      have sa := args_ok ih C h2
      obtain ⟨hil, hb, _⟩ := List.findIdx?_eq_some_iff_getElem.mp hi
      have hfl : i < Γ.length := by
        have := hil
        rw [C.fns, List.length_map] at this
        exact this
      have hnm : x = Γ[i].name := by
        have e1 : c.fns[i] = (Γ[i].name, Γ[i].n) := by
          have : c.fns[i]? = some (Γ[i].name, Γ[i].n) := by
            rw [C.fns, List.getElem?_map, List.getElem?_eq_getElem hfl]
            rfl
          rw [List.getElem?_eq_getElem hil] at this
          exact Option.some.inj this
        rw [e1] at hb
        exact (eq_of_beq hb).symm
      obtain ⟨irs0, irs1, h5, h6, rfl⟩ := o2_some h2
      have sr := args_ok ih C h6
      refine .val (PEc (ce_call (C.fx Γ[i] (List.getElem_mem hfl)) C.room C.takes hnm hg sa.pa hd (sa.one _ rfl) (sr.star _ _)) fun e => ?_) rfl rfl
      show _ = (evs (phi Γ) (.cons irs0 irs1) e >>= fun xs => phi Γ i xs)
      congr 1
      funext xs
      unfold phi
      rw [List.getElem?_eq_getElem hfl]
    · obtain ⟨hb, h⟩ := when_some h
      have hm := C.bl x hb
      have gen : (match biTab.find? (fun r => r.1 == x) with
          | some r => (compEs (f L) (a :: es)).map (E.bi r.2.1)
          | none => none) = some ir → Sound X W cl (phi Γ) (.Call (.Name x p) (a :: es) [] pos) ir := by
        intro h
        split at h
        · rename_i r hr
          obtain ⟨irs, h2, rfl⟩ := o1_some h
          have sa := args_ok ih C h2
          obtain ⟨irs0, irs1, h5, h6, rfl⟩ := o2_some h2
          have sr := args_ok ih C h6
          have hmem := List.mem_of_find?_eq_some hr
          have hx : r.1 = x := eq_of_beq (List.find?_some (p := fun (r : Str × Bi × Value) => r.1 == x) hr)
          have ok := List.all_eq_true.mp biTab_ok r hmem
          rw [Bool.and_eq_true] at ok
          have e1 : bootBuiltins x = some r.2.2 := by rw [← hx]; exact of_decide_eq_true ok.1
          have e2 : x ≠ ("__name__" : Str) := by rw [← hx]; exact of_decide_eq_true ok.2
          have rule := biRule (X := X) C.calm (by omega) r hmem
          refine .val ?_ rfl ?_
          · obtain ⟨rn, rb, rv⟩ := r
            have hv : (∃ id, rv = .builtin id) ∨ ∃ id, rv = .type id := by
              simp only [biTab, List.mem_cons, List.not_mem_nil, or_false, Prod.mk.injEq] at hmem
              rcases hmem with ⟨_, _, rfl⟩ | ⟨_, _, rfl⟩ | ⟨_, _, rfl⟩ | ⟨_, _, rfl⟩ | ⟨_, _, rfl⟩ | ⟨_, _, rfl⟩ | ⟨_, _, rfl⟩ | ⟨_, _, rfl⟩ | ⟨_, _, rfl⟩ | ⟨_, _, rfl⟩ | ⟨_, _, rfl⟩ | ⟨_, _, rfl⟩ <;> first | exact .inl ⟨_, rfl⟩ | exact .inr ⟨_, rfl⟩
            rcases hv with ⟨id, rfl⟩ | ⟨id, rfl⟩
            · exact PEc (ce_biB rule hg hm e1 e2 sa.pa hd (sa.one _ rfl) (sr.star _ _)) fun _ => rfl
            · exact PEc (ce_biT rule hg hm e1 e2 sa.pa hd (sa.one _ rfl) (sr.star _ _)) fun _ => rfl
          · simp only [biTab, List.mem_cons, List.not_mem_nil, or_false] at hmem
            rcases hmem with rfl | rfl | rfl | rfl | rfl | rfl | rfl | rfl | rfl | rfl | rfl | rfl <;> rfl
        · cases h
      split at h
      · -- sorted(set(..))
        rename_i hl
        simp only [Bool.and_eq_true] at hl
        cases hb2 : isSetCall c L a with
        | none => rw [hb2] at h; cases h
        | some b =>
          rw [hb2] at h
          obtain ⟨z, h2, rfl⟩ := o1_some (show (f L b).map (fun z => E.bi .sortset (.cons z .nil)) = some ir from h)
          clear h gen
          have ex := beq_str hl.1.1
          have hes : es = [] := by simpa using hl.1.2
          subst ex
          subst hes
          clear hl
          unfold isSetCall at hb2
          split at hb2
          · rename_i y py b' pb
            split at hb2
            · rename_i hl
              cases hb2
              simp only [Bool.and_eq_true] at hl
              have ey := beq_str hl.1.1
              subst ey
              obtain ⟨sz, nz⟩ := ih C h2
              obtain ⟨hg', _⟩ := C.glob hl.1.2
              refine .val (PEc (ce_sortset C.calm (by omega) hg hm hg' (C.bl _ hl.2) (star_of nz) sz.pe) fun e => ?_) rfl rfl
              show _ = (evs (phi Γ) (.cons z .nil) e >>= fun xs => biS .sortset xs)
              rw [evs_one, R_assoc]
              rfl
            · cases hb2
          · cases hb2
      split at h
      · -- len of what is looked at
        rename_i hl
        obtain ⟨z, h2, rfl⟩ := o1_some h
        clear h gen
        rw [Bool.and_eq_true] at hl
        have ex := beq_str hl.1
        subst ex
        have hes : es = [] := by simpa using hl.2
        subst hes
        obtain ⟨pz, nz⟩ := opnd_ok ih C h2
        refine .val (PE.imp (pe_callB call_lenW hg hm (by decide +kernel) (caw_one pz (star_of nz)) (by decide) hd (star_of nz) rfl) fun σ H Q _ q => ?_) rfl rfl
        obtain ⟨e, F, vr, w⟩ := q
        have w' : Wp W cl ((do let x ← ev (phi Γ) z e; R.ok [x]) >>= fun xs => biS .len xs) σ F H fun d F' H' => ∀ v, Rp X.K F' v d → Q v H' := by
          have : (do let x ← ev (phi Γ) z e; R.ok [x]) = evs (phi Γ) (.cons z .nil) e := evs_one.symm
          rw [this]
          exact w
        refine ⟨e, F, vr, w'.bind.mono fun xs F1 H1 x1 w1 vs G sg rs => ?_⟩
        cases hz : biS .len xs with
        | bad => rw [hz] at w1; exact w1.elim
        | exc c => exact absurd hz biS_noexc
        | ok d =>
          rw [hz] at w1
          obtain ⟨n, rfl⟩ := len_int hz
          exact ⟨G, xs, n, sg, rs, hz, w1.now x1.sub _ (.int _)⟩
      · split at h
        · rename_i y py b pb _
          split at h
          · rename_i hl
            simp only [Bool.and_eq_true] at hl
            obtain ⟨z, h2, rfl⟩ := o1_some h
            clear h gen
            have ex := beq_str hl.1.1.1
            have ey := beq_str hl.1.1.2
            subst ex; subst ey
            obtain ⟨sz, nz⟩ := ih C h2
            obtain ⟨hg', _⟩ := C.glob hl.1.2
            refine .new (PNc (cn_lrange C hg hm hg' (C.bl _ hl.2) (star_of nz) sz.pe) fun e => ?_) rfl
            show _ = (evs (phi Γ) (.cons z .nil) e >>= fun xs => biS .lrange xs)
            rw [evs_one, R_assoc]
            rfl
          · exact gen h
        · exact gen h
  · rename_i fs p1 b p2 a es pos
    obtain ⟨hsl, h⟩ := when_some h
    rw [Bool.and_eq_true] at hsl
    obtain ⟨js, z, irs, h1, h2, h3, rfl⟩ := o3_some h
    have sa := args_ok ih C h3
    obtain ⟨irs0, irs1, h5, h6, rfl⟩ := o2_some h3
    have sr := args_ok ih C h6
    obtain ⟨l, vs, hf, hlen, hpick⟩ := fnIdx_ok C h1
    refine .val (PEc (ce_callx hf (by have := of_decide_eq_true hsl.2; omega) C.room C.takes (ixPlain (by simpa using hsl.1)) (ih C h2).1.pe sa.pa (sa.one _ rfl) (sr.star _ _)) fun e => ?_) rfl rfl
    show _ = (ev (phi Γ) z e >>= fun x => pickF js x >>= fun f => evs (phi Γ) (.cons irs0 irs1) e >>= fun xs => phi Γ f xs)
    congr 1
    funext x
    exact hpick x _
  · -- a method
    rename_i o m ap a cp
    obtain ⟨hb, h⟩ := when_some h
    rw [Bool.and_eq_true] at hb
    split at h
    · rename_i k hk
      obtain ⟨x, y, h2, h3, rfl⟩ := o2_some h
      obtain ⟨px, _⟩ := opnd_ok ih C h2
      obtain ⟨sy, ny⟩ := ih C h3
      have fin : ∀ k', (fun e => do let x ← ev (phi Γ) x e; if mtOk k' x then do let y ← ev (phi Γ) y e; mtS k' x [y] else .bad) = ev (phi Γ) (.mt k' x (.cons y .nil)) := fun k' => funext fun e => by
        show (ev (phi Γ) x e >>= fun v => if mtOk k' v then (ev (phi Γ) y e >>= fun y => mtS k' v [y]) else .bad) = (ev (phi Γ) x e >>= fun v => if mtOk k' v then (evs (phi Γ) (.cons y .nil) e >>= fun xs => mtS k' v xs) else .bad)
        congr 1
        funext v
        rw [evs_one, R_assoc]
        rfl
      have hm2 := lookup_mem hk
      simp only [mtTab, List.mem_cons, List.not_mem_nil, or_false, Prod.mk.injEq] at hm2
      rcases hm2 with ⟨rfl, rfl⟩ | ⟨rfl, rfl⟩
      · exact .val (fin .index ▸ ce_index hu65 hb.1 hb.2 (star_of ny) px sy.pe) rfl rfl
      · exact .val (fin .count ▸ ce_count hu65 hb.1 hb.2 (star_of ny) px sy.pe) rfl rfl
    · cases h
  · obtain ⟨x, y, h2, h3, rfl⟩ := o2_some h
    exact .new (PNc (cn_dsp (by omega) (ih C h2).1.pe (ih C h3).1.pe) fun e => rfl) rfl
  · -- a dict comprehension
    rename_i kx vx tg it ifs scope pos
    obtain ⟨hb, h⟩ := when_some h
    rw [Bool.and_eq_true] at hb
    have hset : isSet it = false := by simpa using hb.2
    split at h
    · rename_i g k src t b d h1 h2 h3 h4 h5
      obtain ⟨hw, h⟩ := when_some h
      cases h
      have ok : BlkOk X.N X.env.scope scope (ownOf c scope) := by
        rw [C.N, C.sc]
        exact blkOk_by hb.1
      exact .new (PNc (cn_dc C.calm (by rw [C.N]; exact C.nd) (iter_ok ih C h2) ok (mem_of_within hw) (fun s H D cs fp => tg_ok (C.blk scope s H D cs fp) h1) (fun s H D cs fp => tests_ok ih (C.blk scope s H D cs fp) h3) (fun s H D cs fp => (ih (C.blk scope s H D cs fp) h4).1.pe) (fun s H D cs fp => (ih (C.blk scope s H D cs fp) h5).1.pe) (set_of hset _)) fun e => dc_sem e) rfl
    · cases h
  · -- one clause
    rename_i elt tg it ifs scope pos
    obtain ⟨hb, h⟩ := when_some h
    rw [Bool.and_eq_true] at hb
    have hset : isSet it = false := by simpa using hb.2
    split at h
    · rename_i g k src t b h1 h2 h3 h4
      obtain ⟨hw, h⟩ := when_some h
      cases h
      have ok : BlkOk X.N X.env.scope scope (ownOf c scope) := by
        rw [C.N, C.sc]
        exact blkOk_by hb.1
      unfold compIK at h2
      split at h2
      · rename_i x hx
        obtain ⟨i, h5, h6⟩ := o1_some h2
        cases h6
        unfold diName at hx
        split at hx
        · rename_i x' p'
          split at hx
          · cases hx
            obtain ⟨q1, q2, q3, q4⟩ := C.slotN h5
            refine .new (PNc (cn_lcK C.calm (by rw [C.N]; exact C.nd) q1 q2 q3 q4 ok (mem_of_within hw) (fun s H D cs fp => tg_ok (C.blk scope s H D cs fp) h1) (fun s H D cs fp => tests_ok ih (C.blk scope s H D cs fp) h3) (fun s H D cs fp => (ih (C.blk scope s H D cs fp) h4).1.pe)) fun e => ?_) rfl
            rw [← lc_sem]
            have : (do let x ← getV e i; itS .keys [x]) = (do let ss ← evs (phi Γ) (.cons (.var i) .nil) e; itS .keys ss) := it_one (a := .var i) (k := .keys) (Φ := phi Γ)
            rw [this]
          · cases hx
        · cases hx
      refine .new (PNc (cn_lc C.calm (by rw [C.N]; exact C.nd) (iter_ok ih C h2) ok (mem_of_within hw) (fun s H D cs fp => tg_ok (C.blk scope s H D cs fp) h1) (fun s H D cs fp => tests_ok ih (C.blk scope s H D cs fp) h3) (fun s H D cs fp => (ih (C.blk scope s H D cs fp) h4).1.pe) (set_of hset _)) fun e => lc_sem e) rfl
    · cases h
  · rename_i elt tg it ifs tg1 it1 ifs1 scope pos
    obtain ⟨hb, h⟩ := when_some h
    rw [Bool.and_eq_true, Bool.and_eq_true] at hb
    have hset : isSet it = false := by simpa using hb.1.2
    have hset1 : isSet it1 = false := by simpa using hb.2
    split at h
    · rename_i g k src t b g1 k1 src1 t1 h1 h2 h3 h4 h5 h6 h7
      obtain ⟨hw, h⟩ := when_some h
      rw [Bool.and_eq_true] at hw
      cases h
      have ok : BlkOk X.N X.env.scope scope (ownOf c scope) := by
        rw [C.N, C.sc]
        exact blkOk_by hb.1.1
      refine .new (PNc (cn_lc2 (vs1 := slotsG g1) C.calm (by rw [C.N]; exact C.nd) (iter_ok ih C h2) ok (mem_of_within hw.2) (mem_of_within hw.1) (fun i hi => hi) (fun s H D cs fp => tg_ok (C.blk scope s H D cs fp) h1) (fun s H D cs fp => tests_ok ih (C.blk scope s H D cs fp) h3)
        (fun s H D cs fp => iter_ok ih (C.blk scope s H D cs fp) h6) (fun s H D cs fp => tg_ok (C.blk scope s H D cs fp) h5) (fun s H D cs fp => tests_ok ih (C.blk scope s H D cs fp) h7) (fun s H D cs fp => (ih (C.blk scope s H D cs fp) h4).1.pe) (set_of hset _) (fun env => set_of hset1 env)) fun e => lc2_sem e) rfl
    · cases h
  · cases h
theorem compE_ok : ∀ n : Nat, IH c Γ cl j (compE c n)
  | 0 => fun _ h => by cases h
  | n + 1 => fun C h => step_ok (compE_ok n) C h
end
end Pan

/-! Panestacks, part F1: statements by their data. -/
namespace Pan
open PySem PySem.Spec L2
open PyProof.Rows hiding St

/-- a def's state: what stood at its entry (H0, F0) is as it was; what its names hold for their own is new, and apart -/
structure ER (K : PySem.W.Frag) (H0 F0 : Hp) (e : Env) (σ : St) (F H : Hp) : Prop where
  sub0 : Sub F0 H0
  vr : VR K e σ F H
  ext : Ext F0 H0 F H
  fresh : ∀ (i : Nat) (d : D) (a : Addr), e[i]? = some (.own d) → σ[i]? = some (some (.ref a)) → H0 a = none
  apart : ∀ (i k : Nat) (d d' : D) (a : Addr), e[i]? = some (.own d) → e[k]? = some (.own d') → σ[i]? = some (some (.ref a)) → σ[k]? = some (some (.ref a)) → i = k
def Post (K : PySem.W.Frag) (W : WX) (cl : Nat → Value) (H0 F0 : Hp) (D : Ends) : R Fl → Prop
  | .ok (.nx e) => ∀ σ F H, ER K H0 F0 e σ F H → D.nx σ H
  | .ok (.rt d) => ∀ v F H, Ext F0 H0 F H → Rp K F v d → D.rt v H
  | .ok (.ex c e) => ∀ σ F H, ER K H0 F0 e σ F H → W (cl c) none σ H
  | _ => False
def tS (K : PySem.W.Frag) (W : WX) (cl : Nat → Value) (r : Env → R Fl) : TS := fun D σ H => ∃ H0 F0 e F, ER K H0 F0 e σ F H ∧ Post K W cl H0 F0 D (r e)
section
variable {K : PySem.W.Frag} {W : WX} {cl : Nat → Value} {H0 F0 F H F' H' : Hp} {e : Env} {σ : St} {D : Ends}
theorem ER.mono (r : ER K H0 F0 e σ F H) (x : Ext F H F' H') : ER K H0 F0 e σ F' H' := ⟨r.sub0, r.vr.mono x, r.ext.trans x, r.fresh, r.apart⟩
theorem Post.wp {α : Type} {r : R α} {k : α → R Fl} (er : ER K H0 F0 e σ F H) (p : Post K W cl H0 F0 D (lift r e k)) : Wp W cl r σ F H fun a F' H' => ER K H0 F0 e σ F' H' ∧ Post K W cl H0 F0 D (k a) := by
  cases r with
  | ok a => exact fun F' H' x => ⟨er.mono x, p⟩
  | exc c => exact fun F' H' x => p σ F' H' (er.mono x)
  | bad => exact p.elim
/-- a name is given a value -/
theorem ER.val (er : ER K H0 F0 e σ F H) {i : Nat} {d : Pan.D} {v : V} (r : Rp K F v d) : ER K H0 F0 (e.set i (.val d)) (σ.set i (some v)) F H := by
  refine ⟨er.sub0, er.vr.set (s := .val d) (o := some v) r, er.ext, fun k d' a h1 h2 => ?_, fun k l d1 d2 a h1 h2 h3 h4 => ?_⟩
  · rw [List.getElem?_set] at h1 h2
    by_cases q : i = k
    · rw [if_pos q] at h1
      split at h1 <;> cases h1
    · rw [if_neg q] at h1 h2
      exact er.fresh k d' a h1 h2
  · rw [List.getElem?_set] at h1 h2 h3 h4
    by_cases q : i = k
    · rw [if_pos q] at h1
      split at h1 <;> cases h1
    · rw [if_neg q] at h1 h3
      by_cases q2 : i = l
      · rw [if_pos q2] at h2
        split at h2 <;> cases h2
      · rw [if_neg q2] at h2 h4
        exact er.apart k l d1 d2 a h1 h2 h3 h4
/-- what stands at a is no other name's own -/
def NotOwn (e : Env) (σ : St) (i : Nat) (a : Addr) : Prop := ∀ (k : Nat) (d : Pan.D), k ≠ i → e[k]? = some (.own d) → σ[k]? ≠ some (some (.ref a))
theorem ER.own (er : ER K H0 F0 e σ F H) {i : Nat} {d : Pan.D} {a : Addr} (h0 : H0 a = none) (hs : SlotR K F H (.own d) (some (.ref a))) (hn : NotOwn e σ i a) : ER K H0 F0 (e.set i (.own d)) (σ.set i (some (.ref a))) F H := by
  refine ⟨er.sub0, er.vr.set (s := .own d) (o := some (.ref a)) hs, er.ext, fun k d' b h1 h2 => ?_, fun k l d1 d2 b h1 h2 h3 h4 => ?_⟩
  · rw [List.getElem?_set] at h1 h2
    by_cases q : i = k
    · rw [if_pos q] at h2
      split at h2
      · cases h2; exact h0
      · cases h2
    · rw [if_neg q] at h1 h2
      exact er.fresh k d' b h1 h2
  · rw [List.getElem?_set] at h1 h2 h3 h4
    by_cases q : i = k
    · by_cases q2 : i = l
      · exact q.symm.trans q2
      · rw [if_neg q2] at h2 h4
        rw [if_pos q] at h3
        split at h3
        · cases h3
          exact absurd h4 (hn l d2 (Ne.symm q2) h2)
        · cases h3
    · rw [if_neg q] at h1 h3
      by_cases q2 : i = l
      · rw [if_pos q2] at h4
        split at h4
        · cases h4
          exact absurd h3 (hn k d1 (Ne.symm q) h1)
        · cases h4
      · rw [if_neg q2] at h2 h4
        exact er.apart k l d1 d2 b h1 h2 h3 h4
/-- a thing that the name i holds for its own is changed -/
theorem ER.upd (er : ER K H0 F0 e σ F H) {i : Nat} {d d' : Pan.D} {a : Addr} {o : HO} (he : e[i]? = some (.own d)) (hσ : σ[i]? = some (some (.ref a))) (hf : F a = none) (hs : SlotR K F (L2.upd H a o) (.own d') (some (.ref a))) : ER K H0 F0 (e.set i (.own d')) σ F (L2.upd H a o) := by
  have h0 := er.fresh i d a he hσ
  have hset : σ.set i (some (.ref a)) = σ := by
    refine List.ext_getElem? fun k => ?_
    rw [List.getElem?_set]
    by_cases q : i = k
    · subst q
      rw [if_pos rfl, hσ]
      have := (List.getElem?_eq_some_iff.mp hσ).1
      simp [this]
    · rw [if_neg q]
  have nown : NotOwn e σ i a := fun k d1 hk h1 h2 => hk (er.apart k i d1 d a h1 he h2 hσ)
  have er2 : ER K H0 F0 (e.set i .no) (σ.set i none) F (L2.upd H a o) := by
    refine ⟨er.sub0, ?_, er.ext.poke h0 hf, fun k d1 b h1 h2 => ?_, fun k l d1 d2 b h1 h2 h3 h4 => ?_⟩
    · refine VR.poke (er.vr.set (s := .no) (o := none) trivial) (fun k d1 h1 h2 => ?_) hf
      rw [List.getElem?_set] at h1 h2
      by_cases q : i = k
      · rw [if_pos q] at h1
        split at h1 <;> cases h1
      · rw [if_neg q] at h1 h2
        exact nown k d1 (Ne.symm q) h1 h2
    · rw [List.getElem?_set] at h1 h2
      by_cases q : i = k
      · rw [if_pos q] at h1
        split at h1 <;> cases h1
      · rw [if_neg q] at h1 h2
        exact er.fresh k d1 b h1 h2
    · rw [List.getElem?_set] at h1 h2 h3 h4
      by_cases q : i = k
      · rw [if_pos q] at h1
        split at h1 <;> cases h1
      · rw [if_neg q] at h1 h3
        by_cases q2 : i = l
        · rw [if_pos q2] at h2
          split at h2 <;> cases h2
        · rw [if_neg q2] at h2 h4
          exact er.apart k l d1 d2 b h1 h2 h3 h4
  have er3 := er2.own (i := i) (d := d') (a := a) h0 hs (fun k d1 hk h1 h2 => by
    rw [List.getElem?_set, if_neg (Ne.symm hk)] at h1 h2
    exact nown k d1 hk h1 h2)
  rw [List.set_set, List.set_set, hset] at er3
  exact er3
theorem VR.told {a : Addr} {o : HO} (v : VR K e σ F H) (hf : F a = none) (hH : H a = some o) (n : NoOwn a e σ) : VR K e σ (L2.upd F a o) H := by
  refine ⟨fun b u q => ?_, v.len, fun k s q h1 h2 => ?_⟩
  · by_cases z : b = a
    · subst z; rw [upd_same] at q; cases q; exact .inl hH
    · rw [upd_ne z] at q; exact v.sub b u q
  · have sl := v.slot k s q h1 h2
    have g : Same F (L2.upd F a o) := same_tell hf
    cases s with
    | no => trivial
    | held c b => cases q <;> exact sl
    | val d =>
      cases q with
      | none => exact sl
      | some x => exact Rp.mono g sl
    | own d =>
      cases q with
      | none => cases d <;> first | exact sl.elim | (rename_i t _; cases t <;> exact sl.elim)
      | some x =>
        cases x with
        | ref c =>
          have hne : c ≠ a := fun z => n k d h1 (by rw [h2, z])
          cases d with
          | lst ds => obtain ⟨f, xs, e1, r⟩ := sl; exact ⟨by rw [upd_ne hne]; exact f, xs, e1, r.mono g⟩
          | dic t es =>
            cases t with
            | false => obtain ⟨f, xs, e1, r⟩ := sl; exact ⟨by rw [upd_ne hne]; exact f, xs, e1, r.mono g⟩
            | true => obtain ⟨f, xs, e1, r⟩ := sl; exact ⟨by rw [upd_ne hne]; exact f, xs, e1, r.mono g⟩
          | _ => exact sl.elim
        | _ => cases d <;> first | exact sl.elim | (rename_i t _; cases t <;> exact sl.elim)
theorem set_same {i : Nat} {a : Addr} (hσ : σ[i]? = some (some (.ref a))) : σ.set i (some (.ref a)) = σ := by
  refine List.ext_getElem? fun k => ?_
  rw [List.getElem?_set]
  by_cases q : i = k
  · subst q
    rw [if_pos rfl, hσ]
    have := (List.getElem?_eq_some_iff.mp hσ).1
    simp [this]
  · rw [if_neg q]
/-- a name is forgotten -/
theorem ER.drop (er : ER K H0 F0 e σ F H) (i : Nat) : ER K H0 F0 (e.set i .no) (σ.set i none) F H := by
  refine ⟨er.sub0, er.vr.set (s := .no) (o := none) trivial, er.ext, fun k d' a h1 h2 => ?_, fun k l d1 d2 a h1 h2 h3 h4 => ?_⟩
  · rw [List.getElem?_set] at h1 h2
    by_cases q : i = k
    · rw [if_pos q] at h1
      split at h1 <;> cases h1
    · rw [if_neg q] at h1 h2
      exact er.fresh k d' a h1 h2
  · rw [List.getElem?_set] at h1 h2 h3 h4
    by_cases q : i = k
    · rw [if_pos q] at h1
      split at h1 <;> cases h1
    · rw [if_neg q] at h1 h3
      by_cases q2 : i = l
      · rw [if_pos q2] at h2
        split at h2 <;> cases h2
      · rw [if_neg q2] at h2 h4
        exact er.apart k l d1 d2 a h1 h2 h3 h4
/-- what a name holds is not changed any more -/
theorem ER.frz (er : ER K H0 F0 e σ F H) (i : Nat) : ∃ F', ER K H0 F0 (frzE e i) σ F' H := by
  unfold frzE
  split
  · rename_i d he
    obtain ⟨a, hσ, sl⟩ := er.vr.getOwn he
    have h0 := er.fresh i d a he hσ
    have nown : NotOwn e σ i a := fun k d1 hk h1 h2 => hk (er.apart k i d1 d a h1 he h2 hσ)
    have main : ∀ o : HO, F a = none → H a = some o → (Rp K (L2.upd F a o) (.ref a) d) → ∃ F', ER K H0 F0 (e.set i (.val d)) σ F' H := by
      intro o hf hH rp
      have dr := er.drop i
      have no : NoOwn a (e.set i .no) (σ.set i none) := fun k d1 h1 h2 => by
        rw [List.getElem?_set] at h1 h2
        by_cases q : i = k
        · rw [if_pos q] at h1
          split at h1 <;> cases h1
        · rw [if_neg q] at h1 h2
          exact nown k d1 (Ne.symm q) h1 h2
      have er2 : ER K H0 F0 (e.set i .no) (σ.set i none) (L2.upd F a o) H := ⟨er.sub0, dr.vr.told hf hH no, er.ext.tell er.sub0 h0 hH, dr.fresh, dr.apart⟩
      have er3 := er2.val (i := i) rp
      rw [List.set_set, List.set_set, set_same hσ] at er3
      exact ⟨_, er3⟩
    cases d with
    | lst ds =>
      obtain ⟨f, xs, e1, r⟩ := sl
      exact main _ f e1 (.lst upd_same (r.mono (same_tell f)))
    | dic t es =>
      cases t with
      | false =>
        obtain ⟨f, xs, e1, r⟩ := sl
        exact main _ f e1 (.dK (.inl upd_same) (r.mono (same_tell f)))
      | true =>
        obtain ⟨f, xs, e1, r⟩ := sl
        exact main _ f e1 (.dT (.inl upd_same) (r.mono (same_tell f)))
    | _ => exact sl.elim
  · exact ⟨F, er⟩
/-- another ground: what stands now, but for the names' own -/
theorem ER.rebase (er : ER K H0 F0 e σ F H) : ∃ Hb, ER K Hb F e σ F H ∧ Ext F0 H0 F Hb := by
  have cls : ∀ a : Addr, Decidable (∃ (i : Nat) (d : Pan.D), e[i]? = some (.own d) ∧ σ[i]? = some (some (.ref a))) := fun a => Classical.propDecidable _
  refine ⟨fun a => @ite _ (∃ (i : Nat) (d : Pan.D), e[i]? = some (.own d) ∧ σ[i]? = some (some (.ref a))) (cls a) none (H a), ?_, ?_⟩
  · have hsub : Sub F fun a => @ite _ (∃ (i : Nat) (d : Pan.D), e[i]? = some (.own d) ∧ σ[i]? = some (some (.ref a))) (cls a) none (H a) := fun a u q => by
      have hn : ¬ ∃ (i : Nat) (d : Pan.D), e[i]? = some (.own d) ∧ σ[i]? = some (some (.ref a)) := by
        rintro ⟨i, d, h1, h2⟩
        have sl := er.vr.slot i _ _ h1 h2
        cases d with
        | lst ds => obtain ⟨f, _⟩ := sl; rw [q] at f; cases f
        | dic t es => cases t <;> (obtain ⟨f, _⟩ := sl; rw [q] at f; cases f)
        | _ => exact sl.elim
      simp only [if_neg hn]
      exact er.vr.sub a u q
    refine ⟨hsub, er.vr, ⟨fun a u q => ?_, Same.refl _, er.vr.sub, fun a u q => .inl q⟩, fun i d a h1 h2 => ?_, er.apart⟩
    · by_cases hn : ∃ (i : Nat) (d : Pan.D), e[i]? = some (.own d) ∧ σ[i]? = some (some (.ref a))
      · simp only [if_pos hn] at q; cases q
      · simp only [if_neg hn] at q; exact q
    · exact if_pos ⟨i, d, h1, h2⟩
  · have hno : ∀ a o, H0 a = some o → ¬ ∃ (i : Nat) (d : Pan.D), e[i]? = some (.own d) ∧ σ[i]? = some (some (.ref a)) := by
      rintro a o q ⟨i, d, h1, h2⟩
      have := er.fresh i d a h1 h2
      rw [q] at this; cases this
    refine ⟨fun a o q => ?_, er.ext.grow, fun a u q => ?_, er.ext.new⟩
    · simp only [if_neg (hno a o q)]
      exact er.ext.same a o q
    · have hn : ¬ ∃ (i : Nat) (d : Pan.D), e[i]? = some (.own d) ∧ σ[i]? = some (some (.ref a)) := by
        rintro ⟨i, d, h1, h2⟩
        have sl := er.vr.slot i _ _ h1 h2
        cases d with
        | lst ds => obtain ⟨f, _⟩ := sl; rw [q] at f; cases f
        | dic t es => cases t <;> (obtain ⟨f, _⟩ := sl; rw [q] at f; cases f)
        | _ => exact sl.elim
      simp only [if_neg hn]
      exact er.vr.sub a u q
/-- back to the former ground -/
theorem ER.back {Hb Fb : Hp} (x : Ext F0 H0 Fb Hb) (s : Sub F0 H0) (er : ER K Hb Fb e σ F H) : ER K H0 F0 e σ F H := ⟨s, er.vr, x.trans er.ext, fun i d a h1 h2 => x.same.free (er.fresh i d a h1 h2), er.apart⟩
end
end Pan

/-! Panestacks, part F2: statements one by one. -/
namespace Pan
open PySem PySem.Spec L2
open PyProof.Rows hiding St
section
variable {X : Cx} {W : WX} {cl : Nat → Value} {st : Stmt} {rest : List Stmt} {pos : Pos} {r1 r2 : Env → R Fl} {a : Expr} {ra : Env → R D}
theorem Post.then {K : PySem.W.Frag} {H0 F0 : Hp} {D : Ends} {x : R Fl} (h : Post K W cl H0 F0 D (andThen x r2)) : Post K W cl H0 F0 { D with nx := tS K W cl r2 D } x := by
  cases x with
  | ok f =>
    cases f with
    | nx e => exact fun σ F H er => ⟨H0, F0, e, F, er, h⟩
    | rt d => exact h
    | ex c e => exact h
  | exc c => exact h
  | bad => exact h
theorem cs_nil : PSs X [] (tS X.K W cl fun e => .ok (.nx e)) := PSs.imp pss_nil fun D σ H _ h => by
  obtain ⟨H0, F0, e, F, er, p⟩ := h
  exact p σ F H er
theorem cs_cons (h1 : PS X st (tS X.K W cl r1)) (h2 : PSs X rest (tS X.K W cl r2)) : PSs X (st :: rest) (tS X.K W cl fun e => andThen (r1 e) r2) := PSs.imp (pss_cons h1 h2) fun D σ H _ h => by
  obtain ⟨H0, F0, e, F, er, p⟩ := h
  exact ⟨H0, F0, e, F, er, p.then⟩
theorem cs_frz {sts : List Stmt} {i : Nat} (h : PSs X sts (tS X.K W cl r2)) : PSs X sts (tS X.K W cl fun e => andThen (.ok (.nx (frzE e i))) r2) := PSs.imp h fun D σ H _ q => by
  obtain ⟨H0, F0, e, F, er, p⟩ := q
  obtain ⟨F', er'⟩ := er.frz i
  exact ⟨H0, F0, _, F', er', p⟩
theorem cs_expr (ha : PE X a (tE X.K W cl ra)) (hs : swapsWith a none pos.line X.env = pure false) : PS X (.Expr a pos) (tS X.K W cl fun e => lift (ra e) e fun _ => .ok (.nx e)) := PS.imp (ps_expr ha hs) fun D σ H _ h => by
  obtain ⟨H0, F0, e, F, er, p⟩ := h
  exact ⟨e, F, er.vr, (p.wp er).mono fun d F' H' x ⟨er', q⟩ v r => q σ F' H' er'⟩
theorem cs_ret (ha : PE X a (tE X.K W cl ra)) : PS X (.Return (some a) pos) (tS X.K W cl fun e => lift (ra e) e fun d => .ok (.rt d)) := PS.imp (ps_ret ha) fun D σ H _ h => by
  obtain ⟨H0, F0, e, F, er, p⟩ := h
  exact ⟨e, F, er.vr, (p.wp er).mono fun d F' H' x ⟨er', q⟩ v r => q v F' H' er'.ext r⟩
theorem cs_pass : PS X (.Pass pos) (tS X.K W cl fun e => .ok (.nx e)) := PS.imp ps_pass fun D σ H _ h => by
  obtain ⟨H0, F0, e, F, er, p⟩ := h
  exact p σ F H er
/-! ### assignments -/
theorem ER.sets {K : PySem.W.Frag} {H0 F0 F H : Hp} {Q : St → Hp → Prop} : ∀ (is : List Nat) {ds : List D} {vs : List V} {e e' : Env} {σ : St}, sets e is ds = some e' → Rps K F vs ds → ER K H0 F0 e σ F H → (∀ σ', ER K H0 F0 e' σ' F H → Q σ' H) → gNames is vs σ H Q
  | [], [], vs, e, e', σ, h, r, er, q => by
    cases r
    cases h
    exact ⟨rfl, q σ er⟩
  | [], _ :: _, _, _, _, _, h, _, _, _ => by cases h
  | _ :: _, [], _, _, _, _, h, _, _, _ => by cases h
  | i :: is, d :: ds, vs, e, e', σ, h, r, er, q => by
    cases r with
    | cons h1 r => exact ⟨_, _, rfl, ER.sets is (e := set1 e i d) h r (er.val h1) q⟩
theorem ER.asg {K : PySem.W.Frag} {H0 F0 F H : Hp} {g : G} {d : D} {v : V} {e e' : Env} {σ : St} {Q : St → Hp → Prop} (h : asgG g d e = .ok e') (r : Rp K F v d) (er : ER K H0 F0 e σ F H) (q : ∀ σ', ER K H0 F0 e' σ' F H → Q σ' H) : gOf K g v σ H Q := by
  cases g with
  | name i => cases h; exact q _ (er.val r)
  | tup is =>
    have main : ∀ {a : Addr} {xs : List V} {ds : List D} {e2 : Env}, SqT K H a xs → Rps K F xs ds → Pan.sets e is ds = some e2 → (∀ σ', ER K H0 F0 e2 σ' F H → Q σ' H) → gOf K (.tup is) (.ref a) σ H Q := by
      intro a xs ds e2 sq r he q
      refine ⟨a, xs, rfl, sq, ?_, ER.sets is he r er q⟩
      have : ∀ (is : List Nat) (ds : List D) (e e' : Env), Pan.sets e is ds = some e' → ds.length = is.length := by
        intro is
        induction is with
        | nil => intro ds e e' h; cases ds with
          | nil => rfl
          | cons _ _ => cases h
        | cons i is ih => intro ds e e' h; cases ds with
          | nil => cases h
          | cons d ds => simp only [List.length_cons]; rw [ih ds _ _ h]
      rw [r.length]
      exact this is ds e _ he
    cases r <;> simp only [asgG] at h <;> try cases h
    all_goals
      rename_i ea r
      split at h
      · rename_i e2 he
        cases h
        first | exact main (er.vr.sub.tup ea).sq r he q | exact main (SqT.of (er.vr.sub.prs ea)) r he q
      · cases h
theorem asgG_noexc {g : G} {d : D} {e : Env} {c : Nat} : asgG g d e ≠ .exc c := by
  cases g <;> cases d <;> simp only [asgG] <;> (try split) <;> simp
/-- target = value, by the value's wish and the target's -/
theorem imp_asg {K : PySem.W.Frag} {σ : St} {H : Hp} {D : Ends} {g : G} (h : tS K W cl (fun e => lift (ra e) e fun d => lift (asgG g d e) e fun e' => .ok (.nx e')) D σ H) : tAsg (tE K W cl ra) (gOf K g) D σ H := by
  obtain ⟨H0, F0, e, F, er, p⟩ := h
  refine ⟨e, F, er.vr, (p.wp er).mono fun d F' H' x ⟨er', q⟩ v r => ?_⟩
  cases hg : asgG g d e with
  | bad => rw [hg] at q; exact q.elim
  | exc c => exact absurd hg asgG_noexc
  | ok e' => rw [hg] at q; exact ER.asg hg r er' fun σ' er2 => q σ' F' H' er2
theorem cs_asg {tg : Expr} {g : G} (ha : PE X a (tE X.K W cl ra)) (hg : PG X tg (gOf X.K g)) (hs : swapsWithSole [tg] a pos.line X.env = pure false) (hw : swappedStores [tg] a X.env = pure none) (h1 : (assignEach [tg] X.env).map (·.2) = [assign tg X.env]) :
    PS X (.Assign [tg] a pos) (tS X.K W cl fun e => lift (ra e) e fun d => lift (asgG g d e) e fun e' => .ok (.nx e')) :=
  PS.imp (ps_asg ha hg hs hw h1) fun D σ H _ h => imp_asg h
/-- name = a new list or dict that will be changed -/
theorem NotOwn.new {K : PySem.W.Frag} {F H : Hp} {e : Env} {σ : St} {b : Addr} (vr : VR K e σ F H) (h : H b = none) (i : Nat) : NotOwn e σ i b := fun k d _ h1 h2 => vr.noOwn h k d h1 h2
theorem imp_mk {K : PySem.W.Frag} {σ : St} {H : Hp} {D : Ends} {i : Nat} (h : tS K W cl (fun e => lift (ra e) e fun d => .ok (.nx (e.set i (.own d)))) D σ H) : tAsg (tN K W cl ra) (gName i) D σ H := by
  obtain ⟨H0, F0, e, F, er, p⟩ := h
  refine ⟨e, F, er.vr, (p.wp er).mono fun d F' H' x ⟨er', q⟩ b nb => ?_⟩
  exact q _ F' H' (er'.own (er.ext.same.free nb.1) nb.2 (NotOwn.new er.vr nb.1 i))
/-! ### tests and loops -/
theorem cs_if {c : Expr} {x y : List Stmt} {rc : Env → R D} {rx ry : Env → R Fl} (hc : PT X c (tT X.K W cl (tst rc))) (hx : PSs X x (tS X.K W cl rx)) (hy : PSs X y (tS X.K W cl ry)) :
    PS X (.If c x y pos) (tS X.K W cl fun e => lift (rc e) e fun d => match d with
      | .bl true => rx e
      | .bl false => ry e
      | _ => .bad) := PS.imp (ps_if hc hx hy) fun D σ H _ h => by
  obtain ⟨H0, F0, e, F, er, p⟩ := h
  refine ⟨e, F, er.vr, ?_⟩
  have w := p.wp er
  show Wp W cl (rc e >>= asB) σ F H _
  cases hr : rc e with
  | bad => rw [hr] at w; exact w
  | exc c => rw [hr] at w; exact w
  | ok d =>
    rw [hr] at w
    cases d with
    | bl b =>
      intro F' H' x
      obtain ⟨er', q⟩ := w F' H' x
      cases b with
      | true => exact iteT ⟨H0, F0, e, F', er', q⟩
      | false => exact iteF ⟨H0, F0, e, F', er', q⟩
    | _ => exact (w F H (Ext.refl er.vr.sub)).2.elim
theorem cs_while {c : Expr} {b : List Stmt} {rc : Env → R D} {rb : Env → R Fl} {n : Nat} (hp : PassesOwn (model X.prog X.w) X.A X.env X.xe) (hc : PT X c (tT X.K W cl (tst rc))) (hb : PSs X b (tS X.K W cl rb)) :
    PS X (.While c b [] pos) (tS X.K W cl fun e => whlM rc rb n e) := PS.imp (ps_while hp hc hb) fun D σ H _ h => by
  obtain ⟨H0, F0, e, F, er, p⟩ := h
  refine ⟨fun m σ H => ∃ e F, ER X.K H0 F0 e σ F H ∧ Post X.K W cl H0 F0 D (whlM rc rb m e), ⟨n, e, F, er, p⟩, fun m σ H hW => ?_⟩
  obtain ⟨e, F, er, p⟩ := hW
  cases m with
  | zero => exact p.elim
  | succ m =>
    refine ⟨e, F, er.vr, ?_⟩
    rw [whlM] at p
    have w := p.wp er
    show Wp W cl (rc e >>= asB) σ F H _
    cases hr : rc e with
    | bad => rw [hr] at w; exact w
    | exc c => rw [hr] at w; exact w
    | ok d =>
      rw [hr] at w
      cases d with
      | bl b =>
        intro F' H' x
        obtain ⟨er', q⟩ := w F' H' x
        cases b with
        | true =>
          refine iteT ⟨fun σ' H' => ∃ e F, ER X.K H0 F0 e σ' F H' ∧ Post X.K W cl H0 F0 D (whlM rc rb m e), fun σ' H' hN => ⟨m, Nat.lt_succ_self _, hN⟩, H0, F0, e, F', er', ?_⟩
          have q : Post X.K W cl H0 F0 D (andThen (rb e) (whlM rc rb m)) := q
          cases hf : rb e with
          | ok f =>
            rw [hf] at q
            cases f with
            | nx e2 => exact fun σ2 F2 H2 er2 => ⟨e2, F2, er2, q⟩
            | rt d => exact q
            | ex c e2 => exact q
          | exc c => rw [hf] at q; exact q
          | bad => rw [hf] at q; exact q
        | false => exact iteF (q σ F' H' er')
      | _ => exact (w F H (Ext.refl er.vr.sub)).2.elim
theorem cs_for {tg iter : Expr} {b : List Stmt} {g : G} {rit : Env → R (List D)} {rb : Env → R Fl} (hp : PassesOwn (model X.prog X.w) X.A X.env X.xe) (hc : X.calm = true) (hi : PI X tg iter (tIt X.K W cl rit)) (hg : PG X tg (gOf X.K g)) (hb : PSs X b (tS X.K W cl rb)) (hs : ∀ x, foldedSetIterable iter X.env x = pure x) :
    PS X (.For tg iter b [] pos) (tS X.K W cl fun e => lift (rit e) e fun ds => forM (fun d e1 => lift (asgG g d e1) e1 fun e2 => rb e2) ds e) := PS.imp (ps_for hp hc hi hg hb hs) fun D σ H _ h => by
  obtain ⟨H0, F0, e, F, er, p⟩ := h
  refine ⟨e, F, er.vr, (p.wp er).mono fun ds F1 H1 x1 ⟨er1, q1⟩ J wk => ?_⟩
  obtain ⟨Hb, erb, xb⟩ := er1.rebase
  refine ⟨fun i m σ H => i + m = ds.length ∧ ∃ e F, ER X.K Hb F1 e σ F H ∧ Post X.K W cl H0 F0 D (forM (fun d e1 => lift (asgG g d e1) e1 fun e2 => rb e2) (ds.drop i) e), ⟨ds.length, by omega, e, F1, erb, q1⟩, fun i m σ2 H2 hW => ?_⟩
  obtain ⟨him, e2, F2, er2, q2⟩ := hW
  by_cases hlt : i < ds.length
  · have hd : ds[i]? = some ds[i] := List.getElem?_eq_getElem hlt
    have hdrop : ds.drop i = ds[i] :: ds.drop (i + 1) := List.drop_eq_getElem_cons hlt
    rw [hdrop, forM] at q2
    obtain ⟨hgo, hy⟩ := wk.go i ds[i] hd F2 H2 er2.ext.grow er2.vr.sub
    refine .inr ⟨hgo, fun σ' H' => ∃ e F, ER X.K Hb F1 e σ' F H' ∧ Post X.K W cl H0 F0 D (forM (fun d e1 => lift (asgG g d e1) e1 fun e2 => rb e2) (ds.drop (i + 1)) e), fun σ' H' hN => ⟨m - 1, by omega, by omega, hN⟩, fun x H' y => ?_⟩
    obtain ⟨F3, x3, rx⟩ := hy x H' y
    have er3 := er2.mono x3
    cases hg : asgG g ds[i] e2 with
    | bad => rw [hg] at q2; exact q2.elim
    | exc c => exact absurd hg asgG_noexc
    | ok e3 =>
      rw [hg] at q2
      have q3 : Post X.K W cl H0 F0 D (andThen (rb e3) (forM (fun d e1 => lift (asgG g d e1) e1 fun e2 => rb e2) (ds.drop (i + 1)))) := q2
      refine ER.asg hg rx er3 fun σ4 er4 => ⟨Hb, F1, e3, F3, er4, ?_⟩
      cases hf : rb e3 with
      | ok f =>
        rw [hf] at q3
        cases f with
        | nx e5 => exact fun σ5 F5 H5 er5 => ⟨e5, F5, er5, q3⟩
        | rt d => exact fun v F5 H5 x5 r5 => q3 v F5 H5 (xb.trans x5) r5
        | ex c e5 => exact fun σ5 F5 H5 er5 => q3 σ5 F5 H5 (er5.back xb er.sub0)
      | exc c => rw [hf] at q3; exact q3
      | bad => rw [hf] at q3; exact q3
  · have e0 : i = ds.length := by omega
    subst e0
    rw [List.drop_length] at q2
    exact .inl ⟨wk.stop F2 H2 er2.ext.grow er2.vr.sub, q2 σ2 F2 H2 (er2.back xb er.sub0)⟩
end
end Pan

/-! Panestacks, part F3: statements that change a def's own list or dict; several names at once; raise. -/
namespace Pan
open PySem PySem.Spec L2
open PyProof.Rows hiding St
section
variable {X : Cx} {W : WX} {cl : Nat → Value} {pos p1 p2 ap cp ap2 cp2 : Pos} {a b : Expr} {ra rb : Env → R D} {i k : Nat} {x y : Str}
theorem few_one (hs : starEach [a] X.env = (false, eval a X.env) :: starEach [] X.env) : ((backTo cp (starEach [a] X.env)).all (fun x => !x.1) && (backToKw cp (keywordEach [] X.env)).all (fun x => x.1.isSome)
      && decide (([a] : List Expr).length + ([] : List Keyword).length + (if ([] : List Keyword).isEmpty then 0 else 1) < 30)) = true := by
  rw [hs]
  rfl
theorem cs_app (hN : X.N[i]? = some x) (hv : Vis X.env.scope x) (hd : (x == ("__debug__" : Str)) = false) (hcd : (x == ("__classdict__" : Str)) = false) (hs : starEach [a] X.env = (false, eval a X.env) :: starEach [] X.env) (hl : (ap.endLine == cp.line) = true) (ha : PE X a (tE X.K W cl ra)) :
    PS X (.Expr (.Call (.Attribute (.Name x p1) "append" ap) [a] [] cp) pos) (tS X.K W cl fun e => match e[i]? with
      | some (.own (.lst l)) => lift (ra e) e fun d => if l.length < sizeLine then .ok (.nx (e.set i (.own (.lst (l ++ [d]))))) else .bad
      | _ => .bad) := by
  refine PS.imp (ps_expr (pe_bm PySem.F.plainAttrs_list PySem.F.slot_list_append PySem.F.type_list_append mt_append (pe_var hN hv hd hcd) (pa_cons ha pa_nil hs) rfl (few_one hs) hl hs rfl) rfl) fun D σ H _ h => ?_
  obtain ⟨H0, F0, e, F, er, p⟩ := h
  dsimp only at p
  split at p
  · rename_i l he
    obtain ⟨q, hσ, sl⟩ := er.vr.getOwn he
    obtain ⟨fq, xs, hH, r⟩ := sl
    refine ⟨.ref q, hσ, .inl ⟨rfl, xs, SqL.of hH⟩, e, F, er.vr, (p.wp er).mono fun d F' H' x1 ⟨er', p'⟩ v rv => ?_⟩
    split at p'
    · rename_i hlen
      have fq' : F' q = none := x1.keepNone fq hH (by intro _ z; cases z)
      refine ⟨q, xs, v, rfl, rfl, x1.same _ _ hH, by rw [r.length]; exact hlen, p' _ F' _ (er'.upd he hσ fq' ⟨fq', _, upd_same, (r.mono x1.grow).append (.cons rv .nil)⟩)⟩
    · exact p'.elim
  · exact p.elim
theorem cs_ext (hN : X.N[i]? = some x) (hv : Vis X.env.scope x) (hd : (x == ("__debug__" : Str)) = false) (hcd : (x == ("__classdict__" : Str)) = false) (hs : starEach [a] X.env = (false, eval a X.env) :: starEach [] X.env) (hl : (ap.endLine == cp.line) = true) (ha : PE X a (tE X.K W cl ra)) :
    PS X (.Expr (.Call (.Attribute (.Name x p1) "extend" ap) [a] [] cp) pos) (tS X.K W cl fun e => match e[i]? with
      | some (.own (.lst l)) => lift (ra e) e fun d => match d with
        | .lst m => if l.length + m.length ≤ sizeLine then .ok (.nx (e.set i (.own (.lst (l ++ m))))) else .bad
        | _ => .bad
      | _ => .bad) := by
  refine PS.imp (ps_expr (pe_bm PySem.F.plainAttrs_list PySem.F.slot_list_extend PySem.F.type_list_extend mt_extend (pe_var hN hv hd hcd) (pa_cons ha pa_nil hs) rfl (few_one hs) hl hs rfl) rfl) fun D σ H _ h => ?_
  obtain ⟨H0, F0, e, F, er, p⟩ := h
  dsimp only at p
  split at p
  · rename_i l he
    obtain ⟨q, hσ, sl⟩ := er.vr.getOwn he
    obtain ⟨fq, xs, hH, r⟩ := sl
    refine ⟨.ref q, hσ, .inl ⟨rfl, xs, SqL.of hH⟩, e, F, er.vr, (p.wp er).mono fun d F' H' x1 ⟨er', p'⟩ v rv => ?_⟩
    have fq' : F' q = none := x1.keepNone fq hH (by intro _ z; cases z)
    cases rv with
    | lst eb rz =>
      simp only at p'
      split at p'
      · rename_i hlen
        refine ⟨q, _, xs, _, rfl, rfl, x1.same _ _ hH, x1.sub.lst eb, by rw [r.length, rz.length]; exact hlen, p' _ F' _ (er'.upd he hσ fq' ⟨fq', _, upd_same, (r.mono x1.grow).append rz⟩)⟩
      · exact p'.elim
    | _ => exact p'.elim
  · exact p.elim
/-- x.append(y.pop(a)) -/
theorem cs_apop (hik : i ≠ k) (hN : X.N[i]? = some x) (hv : Vis X.env.scope x) (hd : (x == ("__debug__" : Str)) = false) (hcd : (x == ("__classdict__" : Str)) = false) (hN2 : X.N[k]? = some y) (hv2 : Vis X.env.scope y) (hd2 : (y == ("__debug__" : Str)) = false) (hcd2 : (y == ("__classdict__" : Str)) = false)
    (hs : starEach [a] X.env = (false, eval a X.env) :: starEach [] X.env) (hl : (ap.endLine == cp.line) = true) (hl2 : (ap2.endLine == cp2.line) = true) (ha : PE X a (tE X.K W cl ra)) :
    PS X (.Expr (.Call (.Attribute (.Name x p1) "append" ap) [.Call (.Attribute (.Name y p2) "pop" ap2) [a] [] cp2] [] cp) pos) (tS X.K W cl fun e => match e[i]?, e[k]? with
      | some (.own (.lst l)), some (.own (.lst m)) => lift (ra e) e fun d => match d with
        | .int z => if 0 ≤ z then (match m[z.toNat]? with
          | some u => if l.length < sizeLine then .ok (.nx ((e.set k (.own (.lst (m.eraseIdx z.toNat)))).set i (.own (.lst (l ++ [u]))))) else .bad
          | none => .bad) else .bad
        | _ => .bad
      | _, _ => .bad) := by
  refine PS.imp (ps_expr (pe_bm PySem.F.plainAttrs_list PySem.F.slot_list_append PySem.F.type_list_append mt_append (pe_var hN hv hd hcd) (pa_cons (pe_bm PySem.F.plainAttrs_list PySem.F.slot_list_pop PySem.F.type_list_pop mt_popAt (pe_var hN2 hv2 hd2 hcd2) (pa_cons ha pa_nil hs) rfl (few_one hs) hl2 hs rfl) pa_nil rfl) rfl (few_one rfl) hl rfl rfl) rfl) fun D σ H gd h => ?_
  obtain ⟨H0, F0, e, F, er, p⟩ := h
  dsimp only at p
  split at p
  · rename_i l m he hek
    obtain ⟨q, hσ, sl⟩ := er.vr.getOwn he
    obtain ⟨fq, xs, hH, r⟩ := sl
    obtain ⟨q2, hσ2, sl2⟩ := er.vr.getOwn hek
    obtain ⟨fq2, ys, hH2, r2⟩ := sl2
    have hne : q ≠ q2 := fun z => hik (er.apart i k _ _ q he hek hσ (by rw [hσ2, z]))
    refine ⟨.ref q, hσ, .inl ⟨rfl, xs, SqL.of hH⟩, .ref q2, hσ2, .inl ⟨rfl, ys, SqL.of hH2⟩, e, F, er.vr, (p.wp er).mono fun d F' H' x1 ⟨er', p'⟩ v rv => ?_⟩
    have fq' : F' q = none := x1.keepNone fq hH (by intro _ z; cases z)
    have fq2' : F' q2 = none := x1.keepNone fq2 hH2 (by intro _ z; cases z)
    cases rv with
    | int z =>
     simp only at p'
     split at p'
     · rename_i hz
       split at p'
       · rename_i u hu
         split at p'
         · rename_i hlen
           obtain ⟨vu, hvu, ru⟩ := (r2.mono x1.grow).get hu
           have hk : z.toNat < ys.length := (List.getElem?_eq_some_iff.mp hvu).1
           have hly : ys.length ≤ sizeLine := gd.lst q2 ys (SqL.of hH2)
           have hsz : (sizeLine : Nat) = 16777216 := by decide
           have hix : seqIndex? z ys.length = some z.toNat := (ixN_seq (n := ys.length) (i := z) (j := z.toNat) (by
             unfold ixN
             rw [if_pos hz, if_pos (by omega)])).1
           have er2 := er'.upd (o := .lst (ys.eraseIdx z.toNat)) (d' := .lst (m.eraseIdx z.toNat)) hek hσ2 fq2' ⟨fq2', _, upd_same, (r2.mono x1.grow).eraseIdx _⟩
           have he2 : (e.set k (.own (.lst (m.eraseIdx z.toNat))))[i]? = some (.own (.lst l)) := by
             rw [List.getElem?_set, if_neg (Ne.symm hik)]
             exact he
           refine ⟨q2, ys, z, z.toNat, vu, rfl, rfl, x1.same _ _ hH2, by omega, by omega, hix, hvu, q, xs, vu, rfl, rfl, ?_, by rw [r.length]; exact hlen, ?_⟩
           · rw [upd_ne hne]
             exact x1.same _ _ hH
           · exact p' _ F' _ (er2.upd he2 hσ fq' ⟨fq', _, upd_same, (r.mono x1.grow).append (.cons ru .nil)⟩)
         · exact p'.elim
       · exact p'.elim
     · exact p'.elim
    | _ => exact p'.elim
  · exact p.elim
/-- x[k] = v of a dict of this def's own -/
theorem cs_put {rv : Env → R D} (hu : X.A.units + 1 < cLine) (hN : X.N[i]? = some x) (hv : Vis X.env.scope x) (hd : (x == ("__debug__" : Str)) = false) (hcd : (x == ("__classdict__" : Str)) = false) (hk : PE X a (tE X.K W cl ra)) (hvv : PE X b (tE X.K W cl rv))
    (hs : swapsWith b (some (.Subscript (.Name x p1) a p2)) pos.line X.env = pure false) :
    PS X (.Assign [.Subscript (.Name x p1) a p2] b pos) (tS X.K W cl fun e => lift (rv e) e fun dv => match e[i]? with
      | some (.own (.dic t kvs)) => lift (ra e) e fun dk => if keyOf t dk && decide (kvs.length < sizeLine) then .ok (.nx (e.set i (.own (.dic t (dput dk dv kvs))))) else .bad
      | _ => .bad) := by
  refine PS.imp (PS.or (ps_dput hu (pe_var hN hv hd hcd) hk hvv hs) (ps_tput hu (pe_var hN hv hd hcd) hk hvv hs)) fun D σ H _ h => ?_
  obtain ⟨H0, F0, e, F, er, p⟩ := h
  by_cases ht : ∃ kvs, e[i]? = some (.own (.dic true kvs))
  · obtain ⟨kvs, he⟩ := ht
    refine .inr ⟨e, F, er.vr, (p.wp er).mono fun dv F1 H1 x1 ⟨er1, p1⟩ vv rvv => ?_⟩
    rw [he] at p1
    obtain ⟨q, hσ, _⟩ := er1.vr.getOwn he
    refine ⟨.ref q, hσ, e, F1, er1.vr, (p1.wp er1).mono fun dk F2 H2 x2 ⟨er2, p2⟩ vk rk => ?_⟩
    split at p2
    · rename_i hc
      rw [Bool.and_eq_true] at hc
      have hlen := of_decide_eq_true hc.2
      have sl := er2.vr.slot i _ _ he hσ
      obtain ⟨f, kv, e1, r⟩ := sl
      obtain ⟨b', key, rfl, rfl, eb⟩ := keyT_of rk hc.1
      exact ⟨q, _, key, b', rfl, rfl, e1, r.keys er2.vr.sub, (er2.vr.sub.tup eb).sq, by rw [r.length]; exact hlen, p2 _ F2 _ (er2.upd he hσ f ⟨f, _, upd_same, dput_T key eb (rvv.mono x2.grow) r⟩)⟩
    · exact p2.elim
  · refine .inl ⟨e, F, er.vr, (p.wp er).mono fun dv F1 H1 x1 ⟨er1, p1⟩ vv rvv => ?_⟩
    split at p1
    · rename_i t kvs he
      obtain ⟨q, hσ, _⟩ := er1.vr.getOwn he
      refine ⟨.ref q, hσ, e, F1, er1.vr, (p1.wp er1).mono fun dk F2 H2 x2 ⟨er2, p2⟩ vk rk => ?_⟩
      split at p2
      · rename_i hc
        rw [Bool.and_eq_true] at hc
        have hlen := of_decide_eq_true hc.2
        have sl := er2.vr.slot i _ _ he hσ
        cases t with
        | false =>
          obtain ⟨f, kv, e1, r⟩ := sl
          obtain ⟨key, rfl, rfl⟩ := keyD_of rk hc.1
          exact ⟨q, _, rfl, DPut.k e1 (by rw [r.length]; exact hlen), p2 _ F2 _ (er2.upd he hσ f ⟨f, _, upd_same, dput_K key (rvv.mono x2.grow) r⟩)⟩
        | true => exact absurd ⟨kvs, he⟩ ht
      · exact p2.elim
    · exact p1.elim
/-! ### raise -/
/-- the class of an exception of the program's own, over ValueError -/
structure ExcAt (X : Cx) (x : Str) (u : Value) : Prop where
  ex : ∃ C, u = .ref C ∧ X.mg x = some (.ref C) ∧ PySem.W.excIn X.K C He.veBase "ValueError.__new__" = true ∧ PySem.W.keepIn X.K (.ref C) = true ∧ PySem.W.subIn X.K (.ref C) (.type "BaseException") = some true ∧ PySem.W.typeIn X.K (.ref C) = some (.type "type")
theorem cs_raise {m : Str} {jj : Nat} {c : Nat} (hc : X.calm = true) (tk : Takes X W) (hx : ExcAt X x (cl c)) (hg : Gl X x) (hd : (x == ("__debug__" : Str)) = false) :
    PS X (.Raise (some (.Call (.Name x p1) [.Constant (.str m) jj p2] [] cp)) none pos) (tS X.K W cl fun e => .ok (.ex c e)) := by
  obtain ⟨C, e1, gC, ex, kC, sC, tC⟩ := hx.ex
  refine PS.imp (ps_raise hc tk (pmk_own PySem.F.excBase_ValueError ex gC kC (raises_own sC tC) hg hd)) fun D σ H _ h => ?_
  obtain ⟨H0, F0, e, F, er, p⟩ := h
  have := p σ F H er
  rw [e1] at this
  exact this
end
end Pan

/-! Panestacks, part F4: several names at once. -/
namespace Pan
open PySem PySem.Spec L2
open PyProof.Rows hiding St
/-- values of which some are new lists or dicts (new since H) -/
inductive MR (K : PySem.W.Frag) (F' H' H : Hp) : List Bool → List V → List D → Prop
  | nil : MR K F' H' H [] [] []
  | val {v : V} {d : D} {os : List Bool} {vs : List V} {ds : List D} : Rp K F' v d → MR K F' H' H os vs ds → MR K F' H' H (false :: os) (v :: vs) (d :: ds)
  | own {a : Addr} {d : D} {os : List Bool} {vs : List V} {ds : List D} : H a = none → SlotR K F' H' (.own d) (some (.ref a)) → (∀ i : Nat, os[i]? = some true → vs[i]? ≠ some (.ref a)) → MR K F' H' H os vs ds → MR K F' H' H (true :: os) (.ref a :: vs) (d :: ds)
section
variable {K : PySem.W.Frag} {F' H' H H1 : Hp}
theorem MR.weak (s : Same H H1) : ∀ {os : List Bool} {vs : List V} {ds : List D}, MR K F' H' H1 os vs ds → MR K F' H' H os vs ds
  | _, _, _, .nil => .nil
  | _, _, _, .val h r => .val h (MR.weak s r)
  | _, _, _, .own h1 h2 h3 r => .own (s.free h1) h2 h3 (MR.weak s r)
theorem MR.new {a : Addr} {o : HO} (h : H a = some o) : ∀ {os : List Bool} {vs : List V} {ds : List D}, MR K F' H' H os vs ds → ∀ i : Nat, os[i]? = some true → vs[i]? ≠ some (.ref a)
  | _, _, _, .nil, i, e => by simp at e
  | _, _, _, .val _ r, 0, e => by simp at e
  | _, _, _, .val _ r, i + 1, e => MR.new h r i (by simpa using e)
  | _, _, _, .own h1 _ _ r, 0, e => by
    intro z
    have : V.ref _ = V.ref a := Option.some.inj z
    cases this
    rw [h] at h1; cases h1
  | _, _, _, .own _ _ _ r, i + 1, e => MR.new h r i (by simpa using e)
theorem MR.length : ∀ {os : List Bool} {vs : List V} {ds : List D}, MR K F' H' H os vs ds → os.length = vs.length ∧ ds.length = vs.length
  | _, _, _, .nil => ⟨rfl, rfl⟩
  | _, _, _, .val _ r => by simp [(MR.length r).1, (MR.length r).2]
  | _, _, _, .own _ _ _ r => by simp [(MR.length r).1, (MR.length r).2]
end
def tAM (K : PySem.W.Frag) (W : WX) (cl : Nat → Value) (os : List Bool) (r : Env → R (List D)) : TA := fun σ H Q => ∃ e F, VR K e σ F H ∧ Wp W cl (r e) σ F H fun ds F' H' => ∀ vs, MR K F' H' H os vs ds → Q vs H'
section
variable {X : Cx} {W : WX} {cl : Nat → Value} {a : Expr} {es : List Expr} {ra : Env → R D} {rs : Env → R (List D)} {os : List Bool}
theorem cam_nil : PA X [] (tAM X.K W cl [] fun _ => .ok []) := PA.imp pa_nil fun σ H Q _ q => by
  obtain ⟨e, F, vr, w⟩ := q
  exact w.now vr.sub [] .nil
theorem cam_val (ha : PE X a (tE X.K W cl ra)) (hr : PA X es (tAM X.K W cl os rs)) (hs : starEach (a :: es) X.env = (false, eval a X.env) :: starEach es X.env) : PA X (a :: es) (tAM X.K W cl (false :: os) fun e => do let x ← ra e; let xs ← rs e; .ok (x :: xs)) := PA.imp (pa_cons ha hr hs) fun σ H Q _ q => by
  obtain ⟨e, F, vr, w⟩ := q
  refine ⟨e, F, vr, w.bind.mono fun x F1 H1 x1 w1 vx rx => ⟨e, F1, vr.mono x1, w1.bind.mono fun xs F2 H2 x2 w2 vs m => ?_⟩⟩
  exact w2.now x2.sub _ (.val (rx.mono x2.grow) (m.weak x1.same))
theorem cam_own (ha : PE X a (tN X.K W cl ra)) (hr : PA X es (tAM X.K W cl os rs)) (hs : starEach (a :: es) X.env = (false, eval a X.env) :: starEach es X.env) : PA X (a :: es) (tAM X.K W cl (true :: os) fun e => do let x ← ra e; let xs ← rs e; .ok (x :: xs)) := PA.imp (pa_cons ha hr hs) fun σ H Q _ q => by
  obtain ⟨e, F, vr, w⟩ := q
  refine ⟨e, F, vr, w.bind.mono fun x F1 H1 x1 w1 b nb => ⟨e, F1, vr.mono x1, w1.bind.mono fun xs F2 H2 x2 w2 vs m => ?_⟩⟩
  have ho : ∃ o, H1 b = some o := by
    have sl := nb.2
    cases x with
    | lst ds => obtain ⟨_, xs, e1, _⟩ := sl; exact ⟨_, e1⟩
    | dic t es => cases t <;> (obtain ⟨_, xs, e1, _⟩ := sl; exact ⟨_, e1⟩)
    | _ => exact sl.elim
  obtain ⟨o, ho⟩ := ho
  exact w2.now x2.sub _ (.own nb.1 (nb.2.mono x2) (m.new ho) (m.weak x1.same))
end
def setsV (σ : St) : List Nat → List V → St
  | i :: is, v :: vs => setsV (σ.set i (some v)) is vs
  | _, _ => σ
theorem ER.par {K : PySem.W.Frag} {H0 F0 F' H' H : Hp} (hs : Same H0 H) : ∀ {os : List Bool} {vs : List V} {ds : List D} {is : List Nat} {e e' : Env} {σ : St}, MR K F' H' H os vs ds → ER K H0 F0 e σ F' H' → (∀ (i : Nat) (a : Addr), os[i]? = some true → vs[i]? = some (.ref a) → NoOwn a e σ) → parE e os is ds = .ok (.nx e') →
    ER K H0 F0 e' (setsV σ is vs) F' H' ∧ is.length = vs.length
  | _, _, _, [], e, e', σ, .nil, er, hn, h => by
    cases h
    exact ⟨er, rfl⟩
  | _, _, _, _ :: _, e, e', σ, .nil, er, hn, h => by cases h
  | _, _, _, [], e, e', σ, .val _ _, er, hn, h => by cases h
  | _, _, _, [], e, e', σ, .own _ _ _ _, er, hn, h => by cases h
  | _, _, _, i :: is, e, e', σ, .val (v := v) (d := d) h1 r, er, hn, h => by
    have h : parE (e.set i (.val d)) _ is _ = .ok (.nx e') := h
    obtain ⟨q1, q2⟩ := ER.par hs r (er.val (i := i) h1) (fun k b h2 h3 => (hn (k + 1) b (by simpa using h2) (by simpa using h3)).set er.vr.len i (.val d) (fun _ z => by cases z) _) h
    exact ⟨q1, by simp [q2]⟩
  | _, _, _, i :: is, e, e', σ, .own (a := a) (d := d) h1 h2 h3 r, er, hn, h => by
    have h : parE (e.set i (.own d)) _ is _ = .ok (.nx e') := h
    have no := hn 0 a rfl rfl
    have key : ∀ (k : Nat) (b : Addr), _ → _ → NoOwn b (e.set i (.own d)) (σ.set i (some (.ref a))) := fun k b h4 h5 => by
      have nb := hn (k + 1) b (by simpa using h4) (by simpa using h5)
      have hne : a ≠ b := fun z => h3 k h4 (by rw [h5, z])
      intro l d' h6 h7
      rw [List.getElem?_set] at h6 h7
      by_cases q : i = l
      · rw [if_pos q] at h7
        split at h7
        · cases h7; exact hne rfl
        · cases h7
      · rw [if_neg q] at h6 h7
        exact nb l d' h6 h7
    obtain ⟨q1, q2⟩ := ER.par hs r (er.own (i := i) (hs.free h1) h2 fun k d' _ h4 h5 => no k d' h4 h5) key h
    exact ⟨q1, by simp [q2]⟩
theorem parE_ok {e : Env} : ∀ {os : List Bool} {is : List Nat} {ds : List D} {e : Env} {K : PySem.W.Frag} {W : WX} {cl : Nat → Value} {H0 F0 : Hp} {D : Ends}, Post K W cl H0 F0 D (parE e os is ds) → ∃ e', parE e os is ds = .ok (.nx e')
  | [], [], [], e, _, _, _, _, _, _, p => ⟨e, rfl⟩
  | [], [], _ :: _, _, _, _, _, _, _, _, p => p.elim
  | [], _ :: _, _, _, _, _, _, _, _, _, p => p.elim
  | _ :: _, [], _, _, _, _, _, _, _, _, p => p.elim
  | _ :: _, _ :: _, [], _, _, _, _, _, _, _, p => p.elim
  | o :: os, i :: is, d :: ds, e, _, _, _, _, _, _, p => parE_ok (e := e.set i (if o then .own d else .val d)) (os := os) (is := is) (ds := ds) p
section
variable {X : Cx} {W : WX} {cl : Nat → Value} {pos pt pt2 : Pos} {kt k2 : Nat} {rs : Env → R (List D)} {os : List Bool} {is : List Nat}
/-- what all of these do: the values, then the names from the left -/
theorem par_wish {K : PySem.W.Frag} {σ : St} {H : Hp} {D : Ends} (h : tS K W cl (fun e => lift (rs e) e fun ds => parE e os is ds) D σ H) :
    tAM K W cl os rs σ H fun vs H1 => is.length = vs.length ∧ D.nx (setsV σ is vs) H1 ∧ ∀ p o, H1 p = none → D.nx (setsV σ is vs) (upd H1 p o) := by
  obtain ⟨H0, F0, e, F, er, p⟩ := h
  refine ⟨e, F, er.vr, (p.wp er).mono fun ds F' H' x ⟨er', q⟩ vs m => ?_⟩
  obtain ⟨e', he⟩ := parE_ok (e := e) q
  have no : ∀ (i : Nat) (a : Addr), os[i]? = some true → vs[i]? = some (.ref a) → NoOwn a e σ := fun i a h1 h2 => by
    refine er.vr.noOwn ?_
    have : ∀ {os : List Bool} {vs : List V} {ds : List Pan.D} {i : Nat}, MR K F' H' H os vs ds → os[i]? = some true → vs[i]? = some (.ref a) → H a = none := by
      intro os vs ds i m
      induction m generalizing i with
      | nil => intro e; simp at e
      | val _ _ ih => cases i with
        | zero => intro e; simp at e
        | succ i => intro e1 e2; exact ih (by simpa using e1) (by simpa using e2)
      | own h1 _ _ _ ih => cases i with
        | zero => intro _ e2; cases (Option.some.inj e2); exact h1
        | succ i => intro e1 e2; exact ih (by simpa using e1) (by simpa using e2)
    exact this m h1 h2
  obtain ⟨er2, hl⟩ := ER.par er.ext.same m er' no he
  rw [he] at q
  exact ⟨hl, q _ F' H' er2, fun p o hp => q _ F' _ (er2.mono (Ext.made o er2.vr.sub hp))⟩
theorem gNames_sets {Q : St → Hp → Prop} {H : Hp} : ∀ {is : List Nat} {vs : List V} {σ : St}, is.length = vs.length → Q (setsV σ is vs) H → gNames is vs σ H Q
  | [], [], σ, _, q => ⟨rfl, q⟩
  | [], _ :: _, _, h, _ => by cases h
  | _ :: _, [], _, h, _ => by cases h
  | i :: is, v :: vs, σ, h, q => ⟨v, vs, rfl, gNames_sets (by simpa using h) q⟩
/-- a, b, .. = x, y, .. by a tuple -/
theorem cs_parT {ts vs : List Expr} (hg : PGs X ts (gNames is)) (hc : X.calm = true) (hn : (assignEach ts X.env).length = is.length) (hst : (assignEach ts X.env).findIdx? (·.1) = none) (ha : PA X vs (tAM X.K W cl os rs)) (hsz : is.length ≤ 1000)
    (hs : swapsWithSole [.Tuple ts kt pt] (.Tuple vs k2 pt2) pos.line X.env = pure false) (hw : swappedStores [.Tuple ts kt pt] (.Tuple vs k2 pt2) X.env = pure none) :
    PS X (.Assign [.Tuple ts kt pt] (.Tuple vs k2 pt2) pos) (tS X.K W cl fun e => lift (rs e) e fun ds => parE e os is ds) := by
  refine PS.imp (ps_asg (pe_tupF ha) (pg_tup hc hg hn hst) hs hw rfl) fun D σ H _ h => ?_
  obtain ⟨e, F, vr, w⟩ := par_wish h
  refine ⟨e, F, vr, w.mono fun ds F' H' x q vs m => ?_⟩
  obtain ⟨hl, _, q⟩ := q vs m
  have hz : (1000 : Nat) ≤ sizeLine := by decide
  refine ⟨by omega, fun p o hp ho => ⟨p, vs, rfl, (IsT.new ho).sq, hl.symm, gNames_sets hl (q p _ hp)⟩⟩
theorem cs_par2 {i j : Nat} {x y : Str} {a b : Expr} {px py : Pos} (hc : X.calm = true) (hN : X.N.Nodup) (hi : X.N[i]? = some x) (hj : X.N[j]? = some y) (hij : i ≠ j) (hx : X.env.scope.names.lookup x = some .local) (hy : X.env.scope.names.lookup y = some .local) (ha : PA X [a, b] (tAM X.K W cl os rs))
    (hw : swappedStores [.Tuple [.Name x px, .Name y py] kt pt] (.Tuple [a, b] k2 pt2) X.env = pure (some [x, y])) (hs : swapsWithSole [.Tuple [.Name x px, .Name y py] kt pt] (.Tuple [a, b] k2 pt2) pos.line X.env = pure false) :
    PS X (.Assign [.Tuple [.Name x px, .Name y py] kt pt] (.Tuple [a, b] k2 pt2) pos) (tS X.K W cl fun e => lift (rs e) e fun ds => parE e os [i, j] ds) := by
  refine PS.imp (ps_par hc hN hi hj hij hx hy ha hw hs) fun D σ H _ h => ?_
  obtain ⟨e, F, vr, w⟩ := par_wish h
  refine ⟨e, F, vr, w.mono fun ds F' H' z q vs m => ?_⟩
  obtain ⟨hl, q, _⟩ := q vs m
  match vs, hl, q with
  | [u, v], _, q => exact ⟨u, v, rfl, q⟩
theorem cs_par3 {i j l : Nat} {x y z : Str} {a b c : Expr} {px py pz : Pos} (hc : X.calm = true) (hN : X.N.Nodup) (hi : X.N[i]? = some x) (hj : X.N[j]? = some y) (hl : X.N[l]? = some z) (hij : i ≠ j) (hil : i ≠ l) (hjl : j ≠ l) (hx : X.env.scope.names.lookup x = some .local) (hy : X.env.scope.names.lookup y = some .local) (hz : X.env.scope.names.lookup z = some .local) (ha : PA X [a, b, c] (tAM X.K W cl os rs))
    (hw : swappedStores [.Tuple [.Name x px, .Name y py, .Name z pz] kt pt] (.Tuple [a, b, c] k2 pt2) X.env = pure (some [x, y, z])) (hs : swapsWithSole [.Tuple [.Name x px, .Name y py, .Name z pz] kt pt] (.Tuple [a, b, c] k2 pt2) pos.line X.env = pure false) :
    PS X (.Assign [.Tuple [.Name x px, .Name y py, .Name z pz] kt pt] (.Tuple [a, b, c] k2 pt2) pos) (tS X.K W cl fun e => lift (rs e) e fun ds => parE e os [i, j, l] ds) := by
  refine PS.imp (ps_par3 hc hN hi hj hl hij hil hjl hx hy hz ha hw hs) fun D σ H _ h => ?_
  obtain ⟨e, F, vr, w⟩ := par_wish h
  refine ⟨e, F, vr, w.mono fun ds F' H' z q vs m => ?_⟩
  obtain ⟨hl, q, _⟩ := q vs m
  match vs, hl, q with
  | [u, v, t], _, q => exact ⟨u, v, t, rfl, q⟩
end
end Pan

/-! Panestacks, part G1: statements resolved. -/
namespace Pan
open PySem PySem.Spec L2
open PyProof.Rows hiding St
mutual
/-- the names that are read as values -/
def leakE : E → List Nat
  | .var i => [i]
  | .ovar _ => []
  | .lit _ => []
  | .dnew _ => []
  | .bin _ a b => leakE a ++ leakE b
  | .neg a => leakE a
  | .not a => leakE a
  | .and es => leakEs es
  | .or es => leakEs es
  | .cmp _ a b => leakE a ++ leakE b
  | .chain _ _ a b c => leakE a ++ leakE b ++ leakE c
  | .ife c a b => leakE c ++ leakE a ++ leakE b
  | .tup es => leakEs es
  | .lst es => leakEs es
  | .ix a b => leakE a ++ leakE b
  | .sl a lo hi => leakE a ++ leakO lo ++ leakO hi
  | .rev a => leakE a
  | .call _ es => leakEs es
  | .callx _ w es => leakE w ++ leakEs es
  | .bi _ es => leakEs es
  | .mt _ o es => leakE o ++ leakEs es
  | .lc _ _ _ src t e => leakEs src ++ leakO t ++ leakE e
  | .dsp k v => leakE k ++ leakE v
  | .dc _ _ _ src t k v => leakEs src ++ leakO t ++ leakE k ++ leakE v
  | .lc2 _ _ _ src t _ _ _ src1 t1 e => leakEs src ++ leakO t ++ leakEs src1 ++ leakO t1 ++ leakE e
def leakEs : Es → List Nat
  | .nil => []
  | .cons e r => leakE e ++ leakEs r
def leakO : O → List Nat
  | .none => []
  | .some e => leakE e
end
def leakS : S → List Nat
  | .asg _ e => leakE e
  | .mk _ e => leakE e
  | .par _ _ es => leakEs es
  | .expr e => leakE e
  | .app _ e => leakE e
  | .ext _ e => leakE e
  | .apop _ _ e => leakE e
  | .put _ k v => leakE k ++ leakE v
  | .ife c _ _ => leakE c
  | .for_ _ _ src _ => leakEs src
  | .ret e => leakE e
  | _ => []
def muSlots (c : Sig) : List Nat := c.mu.filterMap fun x => c.N.findIdx? (· == x)
def leaks (c : Sig) (s : S) : List Nat := ((leakS s).filter fun i => (muSlots c).contains i).eraseDups
def frzs : List Nat → Ss → Ss
  | [], r => r
  | i :: is, r => .cons (.frz i) (frzs is r)
/-- whether name = comprehension stores within the comprehension's frame -/
def swL (L : Loc) (y : Str) (py : Pos) : Expr → Bool
  | .ListComp _ _ sc pos => decide (L.sc.names.lookup y = some .local) && (py.line == pos.line) && !(sc.names.any fun (n, k) => n == y && (k == .local || k == .cell))
  | .DictComp _ _ _ sc pos => decide (L.sc.names.lookup y = some .local) && (py.line == pos.line) && !(sc.names.any fun (n, k) => n == y && (k == .local || k == .cell))
  | _ => false
def isComp : Expr → Bool
  | .ListComp .. => true
  | .SetComp .. => true
  | .DictComp .. => true
  | _ => false
def isLC : Expr → Bool
  | .ListComp .. => true
  | .DictComp .. => true
  | _ => false
/-- a comprehension over a dict's keys -/
def lcKeys (c : Sig) : Expr → Bool
  | .ListComp _ [⟨_, it, _, _⟩] _ _ => (diName c it).isSome
  | _ => false
/-- which names a, b = x, y stores from the right -/
def swNames (L : Loc) (ts vs : List Expr) : Option (Option (List Str)) :=
  if !(ts.length == 2 || ts.length == 3) || vs.length != ts.length then some none else
  if vs.any fun | .Starred .. => true | _ => false then some none else
  let line := (ts.head?.map (·.pos.line)).getD 0
  let names := ts.filterMap fun
    | .Name id pos => if L.sc.names.lookup id == some .local && pos.line == line then some id else none
    | _ => none
  if names.length != ts.length || names.eraseDups.length != names.length then some none else
  if vs.all (foldedForSure 8) then some none else
  if vs.all (constantsAlone 8) then none else some (some names)
def namesOf : List Expr → Option (List Str)
  | [] => some []
  | .Name x _ :: r => (namesOf r).map (x :: ·)
  | _ => none
def ownOs (c : Sig) : List Str → Es → List Bool
  | x :: xs, .cons e r => (c.mu.contains x && isNewE e) :: ownOs c xs r
  | _, _ => []
def compPar (c : Sig) (L : Loc) (f : Expr → Option E) (ts vs : List Expr) : Option S := match namesOf ts, tgNs c L ts, compEs f vs, swNames L ts vs with
  | some xs, some is, some es, some none => when (decide (is.length ≤ 1000) && decide (ts.length = vs.length)) (some (.par (ownOs c xs es) is es))
  | some xs, some is, some es, some (some nm) => when (decide (nm = xs) && decide (is.Nodup) && decide (ts.length = vs.length) && (decide (is.length = 2) || decide (is.length = 3)) && xs.all fun x => decide (L.sc.names.lookup x = some .local)) (some (.par (ownOs c xs es) is es))
  | _, _, _, _ => none
def isPopOf : Expr → Option (Str × Pos × Expr × Pos)
  | .Call (.Attribute (.Name y _) m ap) [a] [] cp => if m == ("pop" : Str) then some (y, ap, a, cp) else none
  | _ => none
def oneS (c : Sig) (ex : List Str) (L : Loc) (f : Expr → Option E) (gs : List Stmt → Option Ss) : Stmt → Option S
  | .Assign [.Name x p] v _ => (match tgN c L x with
    | some i => (match v with
      | .Dict [] [] _ => when (c.mu.contains x) (some (.mk i (.dnew (c.tu.contains x))))
      | .SetComp .. => none
      | _ => when (!lcKeys c v) ((f v).map fun z => if c.mu.contains x && isNewE z then .mk i z else .asg (.name i) z))
    | none => none)
  | .Assign [.Tuple ts kt pt] v _ => (match v with
    | .Tuple vs _ _ => compPar c L f ts vs
    | _ => when (!isComp v) (o2 (fun g z => S.asg g z) ((tgNs c L ts).map G.tup) (f v)))
  | .Assign [.Subscript (.Name x _) k _] v _ => when (!isComp v) (o3 S.put (slotN c L x) (f k) (f v))
  | .Expr (.Call (.Attribute (.Name x _) m ap) [a] [] cp) _ =>
    when (ap.endLine == cp.line) (if m == ("append" : Str) then (match isPopOf a with
      | some (y, ap2, b, cp2) => when (ap2.endLine == cp2.line) (match o3 (fun i k z => (i, k, z)) (slotN c L x) (slotN c L y) (f b) with
        | some q => when (decide (q.1 ≠ q.2.1)) (some (.apop q.1 q.2.1 q.2.2))
        | none => none)
      | none => o2 S.app (slotN c L x) (f a))
      else if m == ("extend" : Str) then o2 S.ext (slotN c L x) (f a) else none)
  | .Expr e _ => when (!isComp e) ((f e).map S.expr)
  | .If t a b _ => when (!isIf t) (o3 S.ife (f t) (gs a) (gs b))
  | .While t b [] _ => when (!isIf t) (match f t, gs b with
    | some z, some s => when ((leakE z).all fun i => !(muSlots c).contains i) (some (.whl 4000 z s))
    | _, _ => none)
  | .For tg it b [] _ => when (!isSet it) (match compG c L tg, compI c L f tg it, gs b with
    | some g, some (k, src), some s => some (.for_ g k src s)
    | _, _, _ => none)
  | .Return (some e) _ => (f e).map S.ret
  | .Raise (some (.Call (.Name x _) [.Constant (.str _) _ _] [] _)) none _ => when (glob L x) ((ex.findIdx? (· == x)).map S.raise)
  | .Pass _ => some (.expr (.lit .non))
  | _ => none
def compSs (c : Sig) (ex : List Str) (L : Loc) (f : Expr → Option E) : Nat → List Stmt → Option Ss
  | 0, _ => none
  | _ + 1, [] => some .nil
  | n + 1, st :: r => (match oneS c ex L f (compSs c ex L f n) st, compSs c ex L f n r with
    | some s, some rs => some (frzs (leaks c s) (.cons s rs))
    | _, _ => none)
end Pan

/-! Panestacks, part G2: every resolved statement is sound. -/
namespace Pan
open PySem PySem.Spec L2
open PyProof.Rows hiding St
structure CtxS (c : Sig) (ex : List Str) (Γ : List FnR) (cl : Nat → Value) (j : Nat) (X : Cx) (L : Loc) (W : WX) : Prop where
  C : Ctx c Γ cl j X L W
  kind : L.sc.kind = .function
  exs : ∀ (i : Nat) (x : Str), ex[i]? = some x → ExcAt X x (cl i)
section
variable {c : Sig} {ex : List Str} {Γ : List FnR} {cl : Nat → Value} {j : Nat} {X : Cx} {L : Loc} {W : WX}
theorem PSc {st : Stmt} {r r' : Env → R Fl} (h : PS X st (tS X.K W cl r)) (hr : ∀ e, r e = r' e) : PS X st (tS X.K W cl r') := by rw [show r' = r from funext fun e => (hr e).symm]; exact h
theorem PSsc {st : List Stmt} {r r' : Env → R Fl} (h : PSs X st (tS X.K W cl r)) (hr : ∀ e, r e = r' e) : PSs X st (tS X.K W cl r') := by rw [show r' = r from funext fun e => (hr e).symm]; exact h
theorem CtxS.block (S : CtxS c ex Γ cl j X L W) : X.env.blockKind = .function := by
  unfold PySem.Env.blockKind
  rw [S.C.sc, S.kind]
  rfl
theorem sw_none {e : Expr} (h : isComp e = false) (t : Option Expr) (l : Nat) (env : PySem.Env) : swapsWith e t l env = pure false := by
  cases e <;> first | rfl | cases h
theorem sw_comp (S : CtxS c ex Γ cl j X L W) {elt : Expr} {gs : List Comprehension} {sc : Scope} {pos py : Pos} {y : Str} {l : Nat} : swapsWith (.ListComp elt gs sc pos) (some (.Name y py)) l X.env = pure (swL L y py (.ListComp elt gs sc pos)) := by
  show (pure (X.env.blockKind == .function && X.env.kindOf y == some .local && py.line == pos.line && !(sc.names.any fun (n, k) => n == y && (k == .local || k == .cell))) : Sem Bool) = _
  rw [S.block]
  have e1 : X.env.kindOf y = L.sc.names.lookup y := by
    show X.env.scope.names.lookup y = _
    rw [S.C.sc]
  rw [e1]
  unfold swL
  congr 2
  congr 1
  by_cases h : L.sc.names.lookup y = some .local
  · rw [h]; rfl
  · rw [decide_eq_false h]
    have : (L.sc.names.lookup y == some .local) = false := by
      cases hh : L.sc.names.lookup y with
      | none => rfl
      | some k =>
        rw [hh] at h
        cases k <;> first | rfl | exact absurd rfl h
    rw [this]
    rfl
theorem sw_compD (S : CtxS c ex Γ cl j X L W) {kx vx : Expr} {gs : List Comprehension} {sc : Scope} {pos py : Pos} {y : Str} {l : Nat} : swapsWith (.DictComp kx vx gs sc pos) (some (.Name y py)) l X.env = pure (swL L y py (.DictComp kx vx gs sc pos)) :=
  sw_comp (elt := kx) (gs := gs) (sc := sc) (pos := pos) (py := py) (y := y) (l := l) S
theorem tgN_parts (C : Ctx c Γ cl j X L W) {x : Str} {i : Nat} (h : Pan.tgN c L x = some i) : X.N[i]? = some x ∧ L2.Loc X.env.scope x ∧ (X.fn x = true ∨ X.env.scope.names.lookup x = some .local) := by
  obtain ⟨h1, h2⟩ := when_some h
  rw [Bool.and_eq_true] at h1
  have hN : X.N[i]? = some x := by rw [C.N]; exact findIdx_get h2
  have q := h1.1
  split at q
  · rename_i e
    have e' : X.env.scope.names.lookup x = some .local := by rw [C.sc]; exact e
    exact ⟨hN, .inl e', .inr e'⟩
  · rename_i e
    have e' : X.env.scope.names.lookup x = some .cell := by rw [C.sc]; exact e
    exact ⟨hN, .inr e', .inl (C.fc x q)⟩
  · cases q
/-- a store of a value at a name, by the value's wish -/
theorem tAsg_imp {te te' : TE} {g : TG} {D : Ends} {σ : St} {H : Hp} (h : tAsg te g D σ H) (i : ∀ Q, te σ H Q → te' σ H Q) : tAsg te' g D σ H := i _ h
/-- name = [..]: what a comprehension asks, stored -/
theorem setLc_ok {n : Nat} (S : CtxS c ex Γ cl j X L W) {x : Str} {p pos : Pos} {i : Nat} {v : Expr} {z : E} (ht : Pan.tgN c L x = some i) (hz : compE c (n + 1) L v = some z) (hl : isLC v = true) (hkk : lcKeys c v = false) (hsw : swL L x p v = true) :
    PS X (.Assign [.Name x p] v pos) (tAsg (tN X.K W cl (ev (phi Γ) z)) (gName i)) := by
  have C := S.C
  obtain ⟨hN, hloc, hf⟩ := tgN_parts C ht
  have nd : X.N.Nodup := by rw [C.N]; exact C.nd
  have ih : IH c Γ cl j (compE c n) := compE_ok n
  cases v <;> simp only [isLC] at hl <;> try cases hl
  rotate_left
  · rename_i kx vx gs scope vp
    have hsw2 : swapsWith (.DictComp kx vx gs scope vp) (some (.Name x p)) pos.line X.env = pure true := by rw [sw_compD S, hsw]
    have hy : X.env.scope.names.lookup x = some .local := by
      simp only [swL, Bool.and_eq_true, decide_eq_true_eq] at hsw
      rw [C.sc]
      exact hsw.1.1
    have hz : stepE c (compE c n) L (.DictComp kx vx gs scope vp) = some z := hz
    rcases gs with _ | ⟨⟨tg, it, ifs, as⟩, gs⟩
    · simp [stepE] at hz
    · by_cases has : as = 0
      · subst has
        rcases gs with _ | ⟨g2, gs⟩
        · simp only [stepE] at hz
          obtain ⟨hb, h⟩ := when_some hz
          rw [Bool.and_eq_true] at hb
          have hset : isSet it = false := by simpa using hb.2
          split at h
          · rename_i g k src t b d h1 h2 h3 h4 h5
            obtain ⟨hw, h⟩ := when_some h
            cases h
            have ok : BlkOk X.N X.env.scope scope (ownOf c scope) := by
              rw [C.N, C.sc]
              exact blkOk_by hb.1
            refine PS.imp (ps_setDc C.calm nd hN hy hsw2 (iter_ok ih C h2) ok (fun s H D cs fp => tg_ok (C.blk scope s H D cs fp) h1) (fun s H D cs fp => tests_ok ih (C.blk scope s H D cs fp) h3) (fun s H D cs fp => (ih (C.blk scope s H D cs fp) h4).1.pe) (fun s H D cs fp => (ih (C.blk scope s H D cs fp) h5).1.pe) (set_of hset _)) fun D σ H _ q => tAsg_imp q fun Q q => imp_dc (mem_of_within hw) ?_
            rw [show (fun e => do let ds ← (do let ss ← evs (phi Γ) src e; itS k ss); let r ← (lcM ds (dcF g ((ownOf c scope).map (·.2)) (evT (phi Γ) t) (ev (phi Γ) b) (ev (phi Γ) d) e)).calm; R.ok (Pan.D.dic false (putAll r []))) = ev (phi Γ) (.dc ((ownOf c scope).map (·.2)) g k src t b d) from funext fun e => dc_sem e]
            exact q
          · cases h
        · simp [stepE] at hz
      · simp [stepE, has] at hz
  rename_i elt gs scope vp
  have hsw2 : swapsWith (.ListComp elt gs scope vp) (some (.Name x p)) pos.line X.env = pure true := by rw [sw_comp S, hsw]
  have hy : X.env.scope.names.lookup x = some .local := by
    simp only [swL, Bool.and_eq_true, decide_eq_true_eq] at hsw
    rw [C.sc]
    exact hsw.1.1
  have hz : stepE c (compE c n) L (.ListComp elt gs scope vp) = some z := hz
  rcases gs with _ | ⟨⟨tg, it, ifs, as⟩, gs⟩
  · simp [stepE] at hz
  · by_cases has : as = 0
    · subst has
      rcases gs with _ | ⟨⟨tg1, it1, ifs1, as1⟩, gs⟩
      · simp only [stepE] at hz
        obtain ⟨hb, h⟩ := when_some hz
        rw [Bool.and_eq_true] at hb
        have hset : isSet it = false := by simpa using hb.2
        split at h
        · rename_i g k src t b h1 h2 h3 h4
          obtain ⟨hw, h⟩ := when_some h
          cases h
          have ok : BlkOk X.N X.env.scope scope (ownOf c scope) := by
            rw [C.N, C.sc]
            exact blkOk_by hb.1
          have h2 : compI c L (compE c n L) tg it = some (k, src) := by
            have hd : diName c it = none := by
              have : (diName c it).isSome = false := hkk
              cases q : diName c it with
              | none => rfl
              | some _ => rw [q] at this; cases this
            unfold compIK at h2
            rw [hd] at h2
            exact h2
          refine PS.imp (ps_setLc C.calm nd hN hy hsw2 (iter_ok ih C h2) ok (fun s H D cs fp => tg_ok (C.blk scope s H D cs fp) h1) (fun s H D cs fp => tests_ok ih (C.blk scope s H D cs fp) h3) (fun s H D cs fp => (ih (C.blk scope s H D cs fp) h4).1.pe) (set_of hset _)) fun D σ H _ q => tAsg_imp q fun Q q => imp_lc (mem_of_within hw) ?_
          rw [show (fun e => do let ds ← (do let ss ← evs (phi Γ) src e; itS k ss); let r ← (lcM ds (lcF g ((ownOf c scope).map (·.2)) (evT (phi Γ) t) (ev (phi Γ) b) e)).calm; R.ok (Pan.D.lst r)) = ev (phi Γ) (.lc ((ownOf c scope).map (·.2)) g k src t b) from funext fun e => lc_sem e]
          exact q
        · cases h
      · by_cases has1 : as1 = 0
        · subst has1
          rcases gs with _ | ⟨g3, gs⟩
          · simp only [stepE] at hz
            obtain ⟨hb, h⟩ := when_some hz
            rw [Bool.and_eq_true, Bool.and_eq_true] at hb
            have hset : isSet it = false := by simpa using hb.1.2
            have hset1 : isSet it1 = false := by simpa using hb.2
            split at h
            · rename_i g k src t b g1 k1 src1 t1 h1 h2 h3 h4 h5 h6 h7
              obtain ⟨hw, h⟩ := when_some h
              rw [Bool.and_eq_true] at hw
              cases h
              have ok : BlkOk X.N X.env.scope scope (ownOf c scope) := by
                rw [C.N, C.sc]
                exact blkOk_by hb.1.1
              refine PS.imp (ps_setLc2 (vs1 := slotsG g1) C.calm nd hN hy hsw2 (iter_ok ih C h2) ok (mem_of_within hw.2) (fun s H D cs fp => tg_ok (C.blk scope s H D cs fp) h1) (fun s H D cs fp => tests_ok ih (C.blk scope s H D cs fp) h3)
                (fun s H D cs fp => iter_ok ih (C.blk scope s H D cs fp) h6) (fun s H D cs fp => tg_ok (C.blk scope s H D cs fp) h5) (fun s H D cs fp => tests_ok ih (C.blk scope s H D cs fp) h7) (fun s H D cs fp => (ih (C.blk scope s H D cs fp) h4).1.pe) (set_of hset _) (fun env => set_of hset1 env)) fun D σ H _ q => tAsg_imp q fun Q q => imp_lc2 (mem_of_within hw.1) (fun i hi => hi) ?_
              rw [show (fun e => do let ds ← (do let ss ← evs (phi Γ) src e; itS k ss); let r ← (lcM ds (lcF2 g ((ownOf c scope).map (·.2)) (evT (phi Γ) t) (fun en => do let ss ← evs (phi Γ) src1 en; itS k1 ss) g1 (slotsG g1) (evT (phi Γ) t1) (ev (phi Γ) b) e)).calm; fitL r Pan.D.lst) = ev (phi Γ) (.lc2 ((ownOf c scope).map (·.2)) g k src t (slotsG g1) g1 k1 src1 t1 b) from funext fun e => lc2_sem e]
              exact q
            · cases h
          · simp [stepE] at hz
        · simp [stepE, has1] at hz
    · simp [stepE, has] at hz
theorem isLC_comp {v : Expr} (h : isLC v = false) (h2 : ∀ e g s p, v ≠ .SetComp e g s p) : isComp v = false := by
  cases v <;> first | rfl | exact absurd rfl (h2 _ _ _ _) | cases h
/-- name = value -/
theorem setE_ok {n : Nat} (S : CtxS c ex Γ cl j X L W) {x : Str} {p pos : Pos} {i : Nat} {v : Expr} {z : E} (ht : Pan.tgN c L x = some i) (hz : compE c (n + 1) L v = some z) (hkk : lcKeys c v = false) (h2 : ∀ e g s p, v ≠ .SetComp e g s p) :
    PS X (.Assign [.Name x p] v pos) (tS X.K W cl (xs (phi Γ) (if c.mu.contains x && isNewE z then .mk i z else .asg (.name i) z))) := by
  have C := S.C
  obtain ⟨hN, hloc, hf⟩ := tgN_parts C ht
  have nd : X.N.Nodup := by rw [C.N]; exact C.nd
  obtain ⟨sz, _⟩ := compE_ok (c := c) (Γ := Γ) (cl := cl) (j := j) (n + 1) C hz
  have plain : swapsWith v (some (.Name x p)) pos.line X.env = pure false → PS X (.Assign [.Name x p] v pos) (tS X.K W cl (xs (phi Γ) (if c.mu.contains x && isNewE z then .mk i z else .asg (.name i) z))) := fun hsw => by
    cases hm : (c.mu.contains x && isNewE z) with
    | true =>
      rw [if_pos rfl]
      rw [Bool.and_eq_true] at hm
      exact PS.imp (ps_set nd hN hloc (sz.pn hm.2) hsw hf) fun D σ H _ q => imp_mk q
    | false =>
      rw [if_neg (by decide)]
      exact PS.imp (ps_set nd hN hloc sz.pe hsw hf) fun D σ H _ q => imp_asg (g := .name i) q
  cases hl : isLC v with
  | false => exact plain (sw_none (isLC_comp hl h2) _ _ _)
  | true =>
    cases hsw : swL L x p v with
    | false =>
      refine plain ?_
      cases v <;> simp only [isLC] at hl <;> try cases hl
      · rw [sw_comp S, hsw]
      · rw [sw_compD S, hsw]
    | true =>
      refine PS.imp (setLc_ok S ht hz hl hkk hsw) fun D σ H _ q => ?_
      cases hm : (c.mu.contains x && isNewE z) with
      | true =>
        rw [hm, if_pos rfl] at q
        exact imp_mk q
      | false =>
        rw [hm, if_neg (by decide)] at q
        exact tAsg_imp (imp_asg (g := .name i) q) fun Q q => tN_tE q
theorem sw_names (S : CtxS c ex Γ cl j X L W) {ts vs : List Expr} {r : Option (List Str)} {kt k2 : Nat} {pt p2 : Pos} (h : swNames L ts vs = some r) : swappedStores [.Tuple ts kt pt] (.Tuple vs k2 p2) X.env = pure r := by
  have hk : ∀ y, X.env.kindOf y = L.sc.names.lookup y := fun y => by
    show X.env.scope.names.lookup y = _
    rw [S.C.sc]
  unfold swNames at h
  unfold swappedStores
  simp only [hk, S.block]
  split at h
  · rename_i h1
    cases h
    have : (!(ts.length == 2 || ts.length == 3) || vs.length != ts.length || (ScopeKind.function != ScopeKind.function)) = true := by
      rw [show (ScopeKind.function != ScopeKind.function) = false from rfl, Bool.or_false]
      exact h1
    rw [if_pos this]
  · rename_i h1
    have : ¬ (!(ts.length == 2 || ts.length == 3) || vs.length != ts.length || (ScopeKind.function != ScopeKind.function)) = true := by
      rw [show (ScopeKind.function != ScopeKind.function) = false from rfl, Bool.or_false]
      exact h1
    rw [if_neg this]
    split at h
    · rename_i h2
      cases h
      exact if_pos h2
    · rename_i h2
      refine Eq.trans (if_neg h2) ?_
      dsimp only at h ⊢
      split at h
      · rename_i h3
        cases h
        exact if_pos h3
      · rename_i h3
        refine Eq.trans (if_neg h3) ?_
        split at h
        · rename_i h4
          cases h
          exact if_pos h4
        · rename_i h4
          refine Eq.trans (if_neg h4) ?_
          split at h
          · cases h
          · rename_i h5
            cases h
            exact if_neg h5
theorem args_mix {n : Nat} (C : Ctx c Γ cl j X L W) : ∀ {xs : List Str} {vs : List Expr} {es : Es}, compEs (compE c n L) vs = some es → xs.length = vs.length → PA X vs (tAM X.K W cl (ownOs c xs es) (evs (phi Γ) es))
  | [], [], es, h, _ => by
    cases h
    exact cam_nil
  | [], _ :: _, _, _, hl => by cases hl
  | _ :: _, [], _, _, hl => by cases hl
  | x :: xs, v :: vs, es, h, hl => by
    obtain ⟨a, r, h1, h2, rfl⟩ := o2_some h
    obtain ⟨sv, nv⟩ := compE_ok (c := c) (Γ := Γ) (cl := cl) (j := j) n C h1
    have ih := args_mix (xs := xs) C h2 (by simpa using hl)
    show PA X (v :: vs) (tAM X.K W cl ((c.mu.contains x && isNewE a) :: ownOs c xs r) _)
    cases hm : (c.mu.contains x && isNewE a) with
    | true =>
      rw [Bool.and_eq_true] at hm
      exact cam_own (sv.pn hm.2) ih (star_of nv)
    | false => exact cam_val sv.pe ih (star_of nv)
theorem names_len : ∀ {ts : List Expr} {xs : List Str}, namesOf ts = some xs → xs.length = ts.length
  | [], xs, h => by cases h; rfl
  | t :: ts, xs, h => by
    cases t <;> simp only [namesOf] at h <;> try cases h
    obtain ⟨r, h1, rfl⟩ := o1_some h
    simp [names_len h1]
theorem tgNs_len : ∀ {ts : List Expr} {is : List Nat}, tgNs c L ts = some is → is.length = ts.length
  | [], is, h => by cases h; rfl
  | t :: ts, is, h => by
    cases t <;> simp only [tgNs] at h <;> try cases h
    obtain ⟨i, r, _, h1, rfl⟩ := o2_some h
    simp [tgNs_len h1]
theorem len2 {α : Type} {l : List α} (h : l.length = 2) : ∃ a b, l = [a, b] := by
  match l, h with
  | [a, b], _ => exact ⟨a, b, rfl⟩
theorem len3 {α : Type} {l : List α} (h : l.length = 3) : ∃ a b c, l = [a, b, c] := by
  match l, h with
  | [a, b, c], _ => exact ⟨a, b, c, rfl⟩
theorem par_ok {n : Nat} (S : CtxS c ex Γ cl j X L W) {ts vs : List Expr} {s : Pan.S} {kt k2 : Nat} {pt p2 pos : Pos} (h : compPar c L (compE c n L) ts vs = some s) : PS X (.Assign [.Tuple ts kt pt] (.Tuple vs k2 p2) pos) (tS X.K W cl (xs (phi Γ) s)) := by
  have C := S.C
  unfold compPar at h
  split at h
  · rename_i xs is es h1 h2 h3 h4
    obtain ⟨hc, h⟩ := when_some h
    cases h
    simp only [Bool.and_eq_true, decide_eq_true_eq] at hc
    obtain ⟨q1, q2, q3⟩ := tgNs_ok C h2
    exact cs_parT q1 C.calm q2 q3 (args_mix C h3 (by rw [names_len h1, hc.2])) hc.1 rfl (sw_names S h4)
  · rename_i xs is es nm h1 h2 h3 h4
    obtain ⟨hc, h⟩ := when_some h
    cases h
    simp only [Bool.and_eq_true, Bool.or_eq_true, decide_eq_true_eq] at hc
    obtain ⟨⟨⟨⟨rfl, hnd⟩, hlen⟩, h23⟩, hloc⟩ := hc
    have am := args_mix (xs := nm) C h3 (by rw [names_len h1, hlen])
    have hsw := sw_names S (kt := kt) (k2 := k2) (pt := pt) (p2 := p2) h4
    have nd : X.N.Nodup := by rw [C.N]; exact C.nd
    have il := tgNs_len h2
    rw [List.all_eq_true] at hloc
    rcases h23 with hi | hi
    · obtain ⟨i1, i2, rfl⟩ := len2 hi
      obtain ⟨t1, t2, rfl⟩ := len2 (il.symm.trans hi)
      obtain ⟨v1, v2, rfl⟩ := len2 (hlen.symm.trans (il.symm.trans hi))
      cases t1 <;> simp only [namesOf] at h1 <;> try cases h1
      rename_i nx px
      cases t2 <;> simp only [namesOf] at h1 <;> try cases h1
      rename_i ny py
      obtain ⟨a1, r1, e1, e2, e3⟩ := o2_some h2
      obtain ⟨a2, r2, e4, e5, e6⟩ := o2_some e2
      cases e5; cases e6; cases e3
      have l1 : X.env.scope.names.lookup nx = some .local := by rw [C.sc]; exact of_decide_eq_true (hloc nx (by simp))
      have l2 : X.env.scope.names.lookup ny = some .local := by rw [C.sc]; exact of_decide_eq_true (hloc ny (by simp))
      exact cs_par2 C.calm nd (tgN_parts C e1).1 (tgN_parts C e4).1 (by simp at hnd; exact hnd) l1 l2 am hsw rfl
    · obtain ⟨i1, i2, i3, rfl⟩ := len3 hi
      obtain ⟨t1, t2, t3, rfl⟩ := len3 (il.symm.trans hi)
      obtain ⟨v1, v2, v3, rfl⟩ := len3 (hlen.symm.trans (il.symm.trans hi))
      cases t1 <;> simp only [namesOf] at h1 <;> try cases h1
      rename_i nx px
      cases t2 <;> simp only [namesOf] at h1 <;> try cases h1
      rename_i ny py
      cases t3 <;> simp only [namesOf] at h1 <;> try cases h1
      rename_i nz pz
      obtain ⟨a1, r1, e1, e2, e3⟩ := o2_some h2
      obtain ⟨a2, r2, e4, e5, e6⟩ := o2_some e2
      obtain ⟨a3, r3, e7, e8, e9⟩ := o2_some e5
      cases e8; cases e9; cases e6; cases e3
      have l1 : X.env.scope.names.lookup nx = some .local := by rw [C.sc]; exact of_decide_eq_true (hloc nx (by simp))
      have l2 : X.env.scope.names.lookup ny = some .local := by rw [C.sc]; exact of_decide_eq_true (hloc ny (by simp))
      have l3 : X.env.scope.names.lookup nz = some .local := by rw [C.sc]; exact of_decide_eq_true (hloc nz (by simp))
      simp at hnd
      exact cs_par3 C.calm nd (tgN_parts C e1).1 (tgN_parts C e4).1 (tgN_parts C e7).1 hnd.1.1 hnd.1.2 hnd.2 l1 l2 l3 am hsw rfl
  · cases h
theorem dnew_ok {t : Bool} {pos : Pos} : PE X (.Dict [] [] pos) (tN X.K W cl (ev (phi Γ) (.dnew t))) := by
  cases t with
  | false =>
    refine PE.imp pe_dnewK fun σ H Q _ q => ?_
    obtain ⟨e, F, vr, w⟩ := q
    exact fun p hp => w F _ (Ext.made (.dK []) vr.sub hp) p ⟨hp, vr.sub.none hp, _, upd_same, .nil⟩
  | true =>
    refine PE.imp pe_tnew fun σ H Q _ q => ?_
    obtain ⟨e, F, vr, w⟩ := q
    exact fun p hp => w F _ (Ext.made (dO p []) vr.sub hp) p ⟨hp, vr.sub.none hp, _, upd_same, .nil⟩
theorem pop_of {a : Expr} {y : Str} {ap cp : Pos} {b : Expr} (h : isPopOf a = some (y, ap, b, cp)) : ∃ p, a = .Call (.Attribute (.Name y p) "pop" ap) [b] [] cp := by
  unfold isPopOf at h
  split at h
  · split at h
    · rename_i m _ _ _ hm
      cases h
      have := beq_str hm
      subst this
      exact ⟨_, rfl⟩
    · cases h
  · cases h
theorem one_ok {n : Nat} {gs : List Stmt → Option Ss} (S : CtxS c ex Γ cl j X L W) (ig : ∀ {sts : List Stmt} {ss : Ss}, gs sts = some ss → PSs X sts (tS X.K W cl (xss (phi Γ) ss))) {st : Stmt} {s : Pan.S} (h : oneS c ex L (compE c (n + 1) L) gs st = some s) :
    PS X st (tS X.K W cl (xs (phi Γ) s)) := by
  have C := S.C
  have ih : IH c Γ cl j (compE c (n + 1)) := compE_ok (n + 1)
  have hu1 : X.A.units + 1 < cLine := by
    have := C.room.un
    omega
  unfold oneS at h
  split at h
  · rename_i x p v pos
    split at h
    · rename_i i hi
      split at h
      · obtain ⟨hm, h⟩ := when_some h
        cases h
        obtain ⟨hN, hloc, hf⟩ := tgN_parts C hi
        exact PS.imp (ps_set (by rw [C.N]; exact C.nd) hN hloc (dnew_ok (Γ := Γ)) rfl hf) fun D σ H _ q => imp_mk q
      · cases h
      · rename_i n1 n2
        obtain ⟨hkk, h⟩ := when_some h
        obtain ⟨z, h1, rfl⟩ := o1_some h
        exact setE_ok S hi h1 (by simpa using hkk) (fun e g s p e' => n2 e g s p e')
    · cases h
  · rename_i ts kt pt v pos
    split at h
    · exact par_ok S h
    · rename_i nt
      obtain ⟨hcv, h⟩ := when_some h
      obtain ⟨g, z, h1, h2, rfl⟩ := o2_some h
      obtain ⟨is, h3, rfl⟩ := o1_some h1
      obtain ⟨q1, q2, q3⟩ := tgNs_ok C h3
      refine cs_asg (ih C h2).1.pe (pg_tup C.calm q1 q2 q3) ?_ ?_ rfl
      · show swapsWith v (some (.Tuple ts kt pt)) pos.line X.env = pure false
        exact sw_none (by simpa using hcv) _ _ _
      · cases v <;> first | rfl | exact absurd rfl (nt _ _ _)
  · rename_i x p1 k p2 v pos
    obtain ⟨hcv, h⟩ := when_some h
    obtain ⟨i, zk, zv, h1, h2, h3, rfl⟩ := o3_some h
    obtain ⟨q1, q2, q3, q4⟩ := C.slotN h1
    exact cs_put hu1 q1 q2 q3 q4 (ih C h2).1.pe (ih C h3).1.pe (sw_none (by simpa using hcv) _ _ _)
  · rename_i x p1 m ap a cp pos
    obtain ⟨hl, h⟩ := when_some h
    split at h
    · rename_i hm
      have em := beq_str hm
      split at h
      · rename_i y ap2 b cp2 hp
        obtain ⟨hl2, h5⟩ := when_some h
        obtain ⟨p2, rfl⟩ := pop_of hp
        cases hq : o3 (fun i k z => (i, k, z)) (slotN c L x) (slotN c L y) (compE c (n + 1) L b) with
        | none => rw [hq] at h5; cases h5
        | some q =>
          rw [hq] at h5
          obtain ⟨hik, h6⟩ := when_some h5
          obtain ⟨i, k, z, h1, h2, h3, rfl⟩ := o3_some hq
          cases h6
          subst em
          obtain ⟨q1, q2, q3, q4⟩ := C.slotN h1
          obtain ⟨r1, r2, r3, r4⟩ := C.slotN h2
          obtain ⟨sz, nz⟩ := ih C h3
          exact cs_apop (of_decide_eq_true hik) q1 q2 q3 q4 r1 r2 r3 r4 (star_of nz) hl hl2 sz.pe
      · obtain ⟨i, z, h1, h2, rfl⟩ := o2_some h
        subst em
        obtain ⟨q1, q2, q3, q4⟩ := C.slotN h1
        obtain ⟨sz, nz⟩ := ih C h2
        exact cs_app q1 q2 q3 q4 (star_of nz) hl sz.pe
    · split at h
      · rename_i hm
        have em := beq_str hm
        obtain ⟨i, z, h1, h2, rfl⟩ := o2_some h
        subst em
        obtain ⟨q1, q2, q3, q4⟩ := C.slotN h1
        obtain ⟨sz, nz⟩ := ih C h2
        exact cs_ext q1 q2 q3 q4 (star_of nz) hl sz.pe
      · cases h
  · obtain ⟨hcv, h⟩ := when_some h
    obtain ⟨z, h1, rfl⟩ := o1_some h
    exact cs_expr (ih C h1).1.pe (sw_none (by simpa using hcv) _ _ _)
  · obtain ⟨hi, h⟩ := when_some h
    obtain ⟨z, a, b, h1, h2, h3, rfl⟩ := o3_some h
    exact PSc (cs_if ((ih C h1).1.pt (by simpa using hi)) (ig h2) (ig h3)) fun _ => rfl
  · obtain ⟨hi, h⟩ := when_some h
    split at h
    · rename_i z s' h1 h2
      obtain ⟨_, h⟩ := when_some h
      cases h
      exact PSc (cs_while C.pas ((ih C h1).1.pt (by simpa using hi)) (ig h2)) fun _ => rfl
    · cases h
  · obtain ⟨hi, h⟩ := when_some h
    split at h
    · rename_i g k src s' h1 h2 h3
      cases h
      refine PSc (cs_for C.pas C.calm (iter_ok ih C h2) (tg_ok C h1) (ig h3) (set_of (by simpa using hi) _)) fun e => ?_
      show lift (evs (phi Γ) src e >>= fun ss => itS k ss) e _ = lift (evs (phi Γ) src e) e _
      cases evs (phi Γ) src e <;> rfl
    · cases h
  · obtain ⟨z, h1, rfl⟩ := o1_some h
    exact cs_ret (ih C h1).1.pe
  · obtain ⟨hg, h⟩ := when_some h
    obtain ⟨i, h1, rfl⟩ := o1_some h
    obtain ⟨g, hd⟩ := C.glob hg
    exact cs_raise C.calm C.takes (S.exs i _ (findIdx_get h1)) g hd
  · cases h
    exact cs_pass
  · cases h
theorem frzs_ok {sts : List Stmt} {r : Ss} (h : PSs X sts (tS X.K W cl (xss (phi Γ) r))) : ∀ is : List Nat, PSs X sts (tS X.K W cl (xss (phi Γ) (frzs is r)))
  | [] => h
  | i :: is => cs_frz (frzs_ok h is)
theorem stmts_ok {n : Nat} (S : CtxS c ex Γ cl j X L W) : ∀ (m : Nat) {sts : List Stmt} {ss : Ss}, compSs c ex L (compE c (n + 1) L) m sts = some ss → PSs X sts (tS X.K W cl (xss (phi Γ) ss))
  | 0, _, _, h => by cases h
  | m + 1, [], ss, h => by cases h; exact cs_nil
  | m + 1, st :: r, ss, h => by
    rw [compSs] at h
    split at h
    · rename_i s rs h1 h2
      cases h
      exact frzs_ok (cs_cons (one_ok S (fun q => stmts_ok S m q) h1) (stmts_ok S m h2)) _
    · cases h
end
end Pan

/-! Panestacks, part G3: a def keeps its promise. -/
namespace Pan
open PySem PySem.Spec L2
open PyProof.Rows hiding St
/-- a def's answer, as the module has it -/
structure FnG (P : Program) (w : World) (K : PySem.W.Frag) (mg : Str → Option Value) (base : Heap) (cl : Nat → Value) (j : Nat) (r : FnR) : Prop where
  ex : ∃ (f : Addr) (fd : FuncData) (ps : List Str) (k : Nat), ps.length = r.n ∧ k ≤ j ∧ FnOk P w K mg base (L2.CX P w) k f fd ps (spOf K cl r.n r.sem) ∧ mg r.name = some (.ref f) ∧ PySem.W.keepIn K (.ref f) = true ∧ Binds K fd ps []
theorem FnG.up {P : Program} {w : World} {K : PySem.W.Frag} {mg : Str → Option Value} {base : Heap} {cl : Nat → Value} {j k : Nat} {r : FnR} (h : FnG P w K mg base cl j r) (hk : j ≤ k) : FnG P w K mg base cl k r := by
  obtain ⟨f, fd, ps, l, h1, h2, h3⟩ := h.ex
  exact ⟨f, fd, ps, l, h1, Nat.le_trans h2 hk, h3⟩
/-- what the module's names are, for the defs -/
structure Glob (P : Program) (w : World) (K : PySem.W.Frag) (mg : Str → Option Value) (ex : List Str) (ci : List (Str × Int)) (cs : List (Str × Str)) (bl : List Str) (cl : Nat → Value) : Prop where
  ci : ∀ x i, ci.lookup x = some i → ∃ t, mg x = some (.int i t)
  cs : ∀ x s, cs.lookup x = some s → ∃ t, mg x = some (.str s t)
  bl : ∀ x, bl.contains x = true → mg x = none
  exs : ∀ (i : Nat) (x : Str), ex[i]? = some x → ∃ C, cl i = .ref C ∧ mg x = some (.ref C) ∧ PySem.W.excIn K C He.veBase "ValueError.__new__" = true ∧ PySem.W.keepIn K (.ref C) = true ∧ PySem.W.subIn K (.ref C) (.type "BaseException") = some true ∧ PySem.W.typeIn K (.ref C) = some (.type "type")
section
variable {P : Program} {w : World} {K : PySem.W.Frag} {mg : Str → Option Value} {base : Heap} {ex : List Str} {cl : Nat → Value} {j : Nat} {c : Sig} {Γ : List FnR}
theorem start_get {N : List Str} {vs : List V} {i : Nat} {o : Option V} (h : (start N vs)[i]? = some o) : (∃ v, vs[i]? = some v ∧ o = some v) ∨ (vs.length ≤ i ∧ o = none) := by
  unfold L2.start at h
  by_cases hi : i < vs.length
  · rw [List.getElem?_append_left (by rw [List.length_map]; exact hi), List.getElem?_map, List.getElem?_eq_getElem hi] at h
    cases h
    exact .inl ⟨_, List.getElem?_eq_getElem hi, rfl⟩
  · rw [List.getElem?_append_right (by rw [List.length_map]; omega), List.length_map] at h
    refine .inr ⟨by omega, ?_⟩
    rw [List.getElem?_replicate] at h
    split at h
    · cases h; rfl
    · cases h
theorem env_get {n : Nat} {ds : List D} {i : Nat} {s : Slot} (h : (ds.map Slot.val ++ List.replicate (n - ds.length) Slot.no)[i]? = some s) : (∃ d, ds[i]? = some d ∧ s = .val d) ∨ (ds.length ≤ i ∧ s = .no) := by
  by_cases hi : i < ds.length
  · rw [List.getElem?_append_left (by rw [List.length_map]; exact hi), List.getElem?_map, List.getElem?_eq_getElem hi] at h
    cases h
    exact .inl ⟨_, List.getElem?_eq_getElem hi, rfl⟩
  · rw [List.getElem?_append_right (by rw [List.length_map]; omega), List.length_map] at h
    refine .inr ⟨by omega, ?_⟩
    rw [List.getElem?_replicate] at h
    split at h
    · cases h; rfl
    · cases h
theorem er_start {N : List Str} {F H : Hp} {vs : List V} {ds : List D} (s : Sub F H) (r : Rps K F vs ds) : ER K H F (ds.map Slot.val ++ List.replicate (N.length - ds.length) Slot.no) (start N vs) F H where
  sub0 := s
  vr := by
    refine ⟨s, ?_, fun i sl o h1 h2 => ?_⟩
    · unfold L2.start
      rw [List.length_append, List.length_append, List.length_map, List.length_map, List.length_replicate, List.length_replicate, r.length]
    · rcases env_get h1 with ⟨d, hd, rfl⟩ | ⟨_, rfl⟩
      · obtain ⟨v, hv, rv⟩ := r.get hd
        rcases start_get h2 with ⟨v', hv', rfl⟩ | ⟨hl, _⟩
        · rw [hv] at hv'; cases hv'
          exact rv
        · have := (List.getElem?_eq_some_iff.mp hv).1
          omega
      · trivial
  ext := Ext.refl s
  fresh := fun i d a h1 h2 => by
    rcases env_get h1 with ⟨d', _, z⟩ | ⟨_, z⟩ <;> cases z
  apart := fun i k d d' a h1 h2 h3 h4 => by
    rcases env_get h1 with ⟨d'', _, z⟩ | ⟨_, z⟩ <;> cases z
/-- THE RULE: a def's resolved body answers as sem says; so the def does -/
theorem def_ok {x qual : Str} {params : Arguments} {body : List Stmt} {scope : Scope} {f : Addr} {fd : FuncData} {ps : List Str} {n m nn : Nat} {ss : Ss} {sem : List D → R D} (Gl : Glob P w K mg ex c.ci c.cs c.bl cl) (fx : ∀ r ∈ Γ, FnG P w K mg base cl j r) (hfn : c.fns = Γ.map fun r => (r.name, r.n))
    (F : FunD K x qual params body scope [] [] f fd) (S : FnScope c.N ps scope) (hc : compSs c ex ⟨scope, fun _ => true⟩ (compE c (nn + 1) ⟨scope, fun _ => true⟩) m body = some ss) (hn : ps.length = n)
    (hs : ∀ ds, ds.length = n → sem ds ≠ .bad → runF (phi Γ) c.N.length ss ds = sem ds) : FnOk P w K mg base (L2.CX P w) (j + 1) f fd ps (spOf K cl n sem) := by
  refine F.ok S (spOf_len hn) fun cdv A outer s H vs Q E hr h => ?_
  have ctx : CtxS c ex Γ cl j (cxOf (L2.CX P w) P w K mg base c.N qual scope f cdv A outer s H E) ⟨scope, fun _ => true⟩ (fun cls d _ H => E cls d H) := by
    refine ⟨⟨rfl, S.nd, rfl, fun _ _ => rfl, rfl, hr, takes_of rfl rfl rfl rfl, passes_of rfl, hfn, fun r hm => ⟨(fx r hm).ex⟩, Gl.ci, Gl.cs, Gl.bl⟩, S.kind, fun i y hy => ?_⟩
    obtain ⟨C, h1, h2⟩ := Gl.exs i y hy
    exact ⟨C, h1, h2⟩
  refine ⟨_, stmts_ok ctx m hc, ?_⟩
  obtain ⟨F0, ds, hl, sub, r, q⟩ := h
  refine ⟨H, F0, _, F0, er_start (N := c.N) sub r, ?_⟩
  have e := hs ds hl (fun z => by rw [z] at q; exact q)
  unfold runF at e
  cases hx : xss (phi Γ) ss (ds.map Slot.val ++ List.replicate (c.N.length - ds.length) .no) with
  | bad => rw [hx] at e; rw [← e] at q; exact q
  | exc _ => rw [hx] at e; rw [← e] at q; exact q
  | ok fl =>
    rw [hx] at e
    cases fl with
    | nx e' =>
      rw [← e] at q
      exact fun σ F H' er => q .non F H' er.ext .non
    | rt d =>
      rw [← e] at q
      exact fun v F H' x rv => q v F H' x rv
    | ex cc e' =>
      rw [← e] at q
      exact fun σ F H' er => q H' er.ext.same
end
end Pan

/-! Panestacks, part H: from the module's facts to the law. -/
namespace Pan
open PySem PySem.Spec L2
open PyProof.Rows hiding St
def faOf (gl bl : List Str) (ci : List (Str × Int)) (cs : List (Str × Str)) (ex : List Str) : List He.Fa :=
  gl.map .glo ++ (bl.map .free ++ (ci.map (fun p => .int p.1 p.2) ++ (cs.map (fun p => .str p.1 p.2) ++ ex.map .exc)))
section
variable {P : Program} {w : World} {K : PySem.W.Frag} {mg : Str → Option Value} {base h : Heap} {gl bl ex : List Str} {ci : List (Str × Int)} {cs : List (Str × Str)} {fn : List He.DefD}
theorem fa_in {fa : List He.Fa} (c : He.SaysD fa fn K) {f : He.Fa} (m : f ∈ fa) : f.ok K = true := by
  obtain ⟨i, hi⟩ := List.getElem?_of_mem m
  exact c.fact i hi
def clK (K : PySem.W.Frag) (ex : List Str) (i : Nat) : Value := .ref (He.ga K (ex.getD i ""))
theorem mem_of_lookup {α β : Type} [BEq α] [LawfulBEq α] {x : α} {y : β} : ∀ {l : List (α × β)}, l.lookup x = some y → (x, y) ∈ l
  | [], h => by cases h
  | (a, b) :: l, h => by
    rw [List.lookup_cons] at h
    split at h
    · rename_i e
      cases h
      rw [eq_of_beq e]
      exact List.mem_cons_self
    · exact List.mem_cons_of_mem _ (mem_of_lookup h)
theorem glob_of (X : K.In h) (G : h.Ns mainGlobals mg) (c : He.SaysD (faOf gl bl ci cs ex) fn K) (hg : ∀ x ∈ ex, x ∈ gl) : Glob P w K mg ex ci cs bl (clK K ex) where
  ci := fun x i e => He.int_ok X G (fa_in c (by
    unfold faOf
    simp only [List.mem_append, List.mem_map]
    exact .inr (.inr (.inl ⟨(x, i), mem_of_lookup e, rfl⟩))))
  cs := fun x i e => He.str_ok X G (fa_in c (by
    unfold faOf
    simp only [List.mem_append, List.mem_map]
    exact .inr (.inr (.inr (.inl ⟨(x, i), mem_of_lookup e, rfl⟩)))))
  bl := fun x e => He.free_ok X G (fa_in c (by
    unfold faOf
    simp only [List.mem_append, List.mem_map]
    exact .inr (.inl ⟨x, by simpa using e, rfl⟩)))
  exs := fun i x e => by
    have hm := List.mem_of_getElem? e
    have h1 := He.exc_ok (fa_in c (f := .exc x) (by
      unfold faOf
      simp only [List.mem_append, List.mem_map]
      exact .inr (.inr (.inr (.inr ⟨x, hm, rfl⟩)))))
    have h2 := He.glo_ok X G (fa_in c (f := .glo x) (by
      unfold faOf
      simp only [List.mem_append, List.mem_map]
      exact .inl ⟨x, hg x hm, rfl⟩))
    refine ⟨He.ga K x, ?_, h2, h1⟩
    unfold clK
    rw [List.getD_eq_getElem?_getD, e]
    rfl
/-- a def of the text -/
def ddOf (st : Stmt) (x : Str) : He.DefD := ⟨(x, none), x, x, defArgs st, defBody st, defScope st, [], []⟩
/-- what the defs rest on -/
structure Md (P : Program) (w : World) (K : PySem.W.Frag) (mg : Str → Option Value) (gl bl : List Str) (ci : List (Str × Int)) (cs : List (Str × Str)) (ex : List Str) (fn : List He.DefD) : Prop where
  in_ : ∃ h : Heap, K.In h ∧ h.Ns mainGlobals mg ∧ He.SaysD (faOf gl bl ci cs ex) fn K
  sub : ∀ x ∈ ex, x ∈ gl
theorem Md.glob (M : Md P w K mg gl bl ci cs ex fn) : Glob P w K mg ex ci cs bl (clK K ex) := by
  obtain ⟨h, X, G, c⟩ := M.in_
  exact glob_of X G c M.sub
theorem Md.def_ (M : Md P w K mg gl bl ci cs ex fn) {st : Stmt} {x : Str} (i : Nat) (hi : fn[i]? = some (ddOf st x)) (hx : gl.contains x = true) : ∃ fd, FunD K x x (defArgs st) (defBody st) (defScope st) [] [] (He.ga K x) fd ∧ mg x = some (.ref (He.ga K x)) := by
  obtain ⟨h, X, G, c⟩ := M.in_
  obtain ⟨fd, F⟩ := c.def_ i hi
  refine ⟨fd, F, He.glo_ok X G (fa_in c ?_)⟩
  unfold faOf
  simp only [List.mem_append, List.mem_map]
  exact .inl ⟨x, by simpa using hx, rfl⟩
def sigOf (N : List Str) (Γ : List FnR) (ci : List (Str × Int)) (cs : List (Str × Str)) (bl mu di tu : List Str) : Sig := ⟨N, Γ.map fun r => (r.name, r.n), ci, cs, bl, mu, di, tu⟩
/-- resolved -/
def resolve (c : Sig) (ex : List Str) (st : Stmt) : Option Ss := compSs c ex ⟨defScope st, fun _ => true⟩ (compE c 30 ⟨defScope st, fun _ => true⟩) 40 (defBody st)
theorem def_g (M : Md P w K mg gl bl ci cs ex fn) {st : Stmt} {x : Str} {N ps mu di tu : List Str} {Γ : List FnR} {ss : Ss} {j : Nat} (i : Nat) (hi : fn[i]? = some (ddOf st x)) (hx : gl.contains x = true) (S : FnScope N ps (defScope st))
    (hc : resolve (sigOf N Γ ci cs bl mu di tu) ex st = some ss)
    (hb : ∀ (kV doc pm : Value) (an : Option Addr) (cdv ct : Value) (us : List Value), us.length = ps.length → bindArgs (PySem.W.fnOf x x (defArgs st) (defBody st) (defScope st) .none kV doc pm an cdv ct) ⟨us, []⟩ = pure (ps.zip us))
    (fx : ∀ r ∈ Γ, FnG P w K mg base (clK K ex) j r) : FnG P w K mg base (clK K ex) (j + 1) ⟨x, ps.length, runF (phi Γ) N.length ss⟩ := by
  obtain ⟨fd, F, hm⟩ := M.def_ i hi hx
  exact ⟨_, fd, ps, j + 1, rfl, Nat.le_refl _, def_ok (c := sigOf N Γ ci cs bl mu di tu) M.glob fx rfl F S hc rfl (fun _ _ _ => rfl), hm, F.kp, F.bindsN hb⟩
theorem def_k (M : Md P w K mg gl bl ci cs ex fn) {st : Stmt} {x : Str} {N ps mu di tu : List Str} {Γ : List FnR} {ss : Ss} {j : Nat} {fd : FuncData} (F : FunD K x x (defArgs st) (defBody st) (defScope st) [] [] (He.ga K x) fd) (S : FnScope N ps (defScope st))
    (hc : resolve (sigOf N Γ ci cs bl mu di tu) ex st = some ss) (fx : ∀ r ∈ Γ, FnG P w K mg base (clK K ex) j r) : FnOk P w K mg base (L2.CX P w) (j + 1) (He.ga K x) fd ps (spOf K (clK K ex) ps.length (runF (phi Γ) N.length ss)) :=
  def_ok (c := sigOf N Γ ci cs bl mu di tu) M.glob fx rfl F S hc rfl (fun _ _ _ => rfl)
end
/-- a law's end, over what a call may let out -/
theorem walk_ofW {l : PySem.W.OpenLaw} {n k : Nat} {q : Program} {loose : List Str} {XP : (Str → Option Value) → Heap → Prop} {YP : World → Heap → Prop} {d : DefRec} {CX : World → CXT} {x : Str} (hn : l.most = some n) (hn2 : n ≤ sizeLine) (hdf : d.params.defaults = []) (hr : Room k callerA)
    (F : ∀ (w : World) (mg : Str → Option Value) (f : Addr) (h : Heap), YP w h → h.Ns mainGlobals mg → mg d.name = some (.ref f) →
      ∃ (K : PySem.W.Frag) (fd : FuncData) (sp : Sp), K.In h ∧ (∀ (s : Shared) (u : Value), BindsTo s fd ⟨[u], []⟩ [(x, u)]) ∧
        (∀ (H : Hp) (a : Addr) (ns : List Int), ns.length ≤ n → Only H → SqL K H a (ns.map V.int) → sp [.ref a] H (fun v _ => v = .bl true) fun _ _ _ => False) ∧
        ∀ base : Heap, K.In base → base.Ns mainGlobals mg → FnOk l.prog w K mg base (CX w) k f fd [x] sp)
    (hCX : ∀ (w : World) (H : Hp) (s : Shared) (e : Value) (s' : Shared), CX w [] H s (fun _ _ _ => False) e s' → False) : PySem.W.WalkO q loose XP YP l.row.toRowW d [] (fun f vs => PySem.call f vs) := by
  refine Att.attach_call hn hdf fun w s₀ s₁ mg mb f o pm cd doc a vs ns G Y ho hd hcd hmg hobj hints hlen hg => ?_
  obtain ⟨K, fd, sp, KX, hb, hsp, hF⟩ := F w mg f _ Y G.T.g hmg
  exact law_call KX G.T.g G.T.b G.T.builtins G.T.nolimit hg hobj hints (Nat.le_trans hlen hn2) hr hF hb (fun H hO hS => hsp H a ns hlen hO hS) fun H e s' => hCX w H s₁ e s'
theorem cx_false (P : Program) (w : World) (H : Hp) (s : Shared) (e : Value) (s' : Shared) (h : L2.CX P w [] H s (fun _ _ _ => False) e s') : False := by
  obtain ⟨_, _, _, _, _, _, _, _, _, _, _, _, z⟩ := h
  exact z
/-- the law's def: a script of at most n ints -/
theorem sp_law {K : PySem.W.Frag} {cl : Nat → Value} {n : Nat} {sem : List D → R D} (h : ∀ ns : List Int, ns.length ≤ n → sem [.scr ns] = .ok (.bl true)) (H : Hp) (a : Addr) (ns : List Int) (hl : ns.length ≤ n) (hS : SqL K H a (ns.map V.int)) :
    spOf K cl 1 sem [.ref a] H (fun v _ => v = .bl true) fun _ _ _ => False := by
  refine ⟨H, [.scr ns], rfl, Sub.refl H, .cons (.scr hS) .nil, ?_⟩
  rw [h ns hl]
  intro v F' H' _ r
  cases r
  rfl
end Pan

/-! Panestacks, part G4: try .. except PaneError as e, where the suite asks for e's class and returns. -/
namespace Pan
open PySem PySem.Spec L2
open PyProof.Rows hiding St
/-! ### the suite's forms -/
inductive HX where
  | isi (j : Nat)
  | var (i : Nat)
  | lst1 (a : HX)
  | lst2 (a b : HX)
  | lst3 (a b c : HX)
  | add (a b : HX)
  | idx (a : HX)
def isiR (a cc ei j : Nat) (e : Env) : R D := match e[ei]? with
  | some (.held c b) => if c = cc ∧ b = a then .ok (.bl (cc == j)) else .bad
  | _ => .bad
def evX (a cc ei : Nat) : HX → Env → R D
  | .isi j, e => isiR a cc ei j e
  | .var i, e => getV e i
  | .lst1 x, e => do let xs ← (do let p ← evX a cc ei x e; let r ← (.ok [] : R (List D)); .ok (p :: r)); fitL xs .lst
  | .lst2 x y, e => do let xs ← (do let p ← evX a cc ei x e; let r ← (do let p ← evX a cc ei y e; let r ← (.ok [] : R (List D)); .ok (p :: r)); .ok (p :: r)); fitL xs .lst
  | .lst3 x y z, e => do let xs ← (do let p ← evX a cc ei x e; let r ← (do let p ← evX a cc ei y e; let r ← (do let p ← evX a cc ei z e; let r ← (.ok [] : R (List D)); .ok (p :: r)); .ok (p :: r)); .ok (p :: r)); fitL xs .lst
  | .add x y, e => do let p ← evX a cc ei x e; let q ← evX a cc ei y e; binS .Add p q
  | .idx x, e => do let p ← evX a cc ei x e; if mtOk .index p then do let q ← (.ok (.bl true) : R D); mtS .index p [q] else .bad
def hRun (a cc ei : Nat) : List (Nat × HX) → HX → Env → R Fl
  | [], r, e => lift (evX a cc ei r e) e fun d => .ok (.rt d)
  | (i, x) :: l, r, e => andThen (lift (evX a cc ei x e) e fun d => lift (asgG (.name i) d e) e fun e' => .ok (.nx e')) (hRun a cc ei l r)
def isStar : Expr → Bool
  | .Starred _ _ => true
  | _ => false
def compX (c : Sig) (ex : List Str) (es : List Nat) (L : Loc) (en : Str) : Nat → Expr → Option HX
  | 0, _ => none
  | n + 1, e => match e with
    | .Call (.Name f _) [.Name x _, .Name y _] [] _ => when (decide (f = "isinstance") && decide (x = en) && (slotN c L x).isSome && Pan.glob L f && c.bl.contains f && Pan.glob L y) (match ex.findIdx? (· == y) with | some k => when (es.contains k) (some (.isi k)) | none => none)
    | .Name x _ => (slotN c L x).map .var
    | .List [a] _ => when (!isStar a) ((compX c ex es L en n a).map .lst1)
    | .List [a, b] _ => when (!isStar a && !isStar b) (o2 .lst2 (compX c ex es L en n a) (compX c ex es L en n b))
    | .List [a, b, d] _ => when (!isStar a && !isStar b && !isStar d) (o3 .lst3 (compX c ex es L en n a) (compX c ex es L en n b) (compX c ex es L en n d))
    | .BinOp a .Add b _ => o2 .add (compX c ex es L en n a) (compX c ex es L en n b)
    | .Call (.Attribute o m ap) [.Constant (.bool true) _ _] [] cp => when (decide (m = "index") && noCall o && (ap.endLine == cp.line)) ((compX c ex es L en n o).map .idx)
    | _ => none
def compH (c : Sig) (ex : List Str) (es : List Nat) (L : Loc) (en : Str) (n : Nat) : List Stmt → Option (List (Nat × HX) × HX)
  | [.Return (some e) _] => (compX c ex es L en n e).map fun x => ([], x)
  | .Assign [.Name x _] v _ :: rest => when (!isComp v) (o3 (fun i z r => ((i, z) :: r.1, r.2)) (tgN c L x) (compX c ex es L en n v) (compH c ex es L en n rest))
  | _ => none
/-- what the classes of a program say of one another -/
structure Errs (K : PySem.W.Frag) (mg : Str → Option Value) (es : List Nat) (cl : Nat → Value) (B : Addr) : Prop where
  base : mg "PaneError" = some (.ref B)
  exc : ∀ (i : Nat), i ∈ es → ∃ C, cl i = .ref C ∧ ExcC K C
  is : ∀ (i j : Nat), i ∈ es → j ∈ es → PySem.W.kitOne K (cl i) (cl j) = some (i == j)
  sub : ∀ (i : Nat), i ∈ es → PySem.W.exmOne K (cl i) (.ref B) = some true
section
variable {c : Sig} {ex : List Str} {es : List Nat} {Γ : List FnR} {cl : Nat → Value} {j : Nat} {X : Cx} {L : Loc} {W : WX} {en : Str} {ei cc : Nat} {a C B : Addr} {oe : Obj} {pn : List (Addr × Obj)}
theorem star_no {e : Expr} {es : List Expr} {env : PySem.Env} (h : isStar e = false) : starEach (e :: es) env = (false, eval e env) :: starEach es env := star_of fun x p z => by rw [z] at h; cases h
theorem isi_ok (S : CtxS c ex Γ cl j X L W) (Er : Errs X.K X.mg es cl B) (hcc : cc ∈ es) (hcl : cl cc = .ref C) (hC : ExcC X.K C) (hz : Zc (.ref C) none oe) (hf : ∃ vs, oe.data = .fields vs) (he : Pan.slotN c L en = some ei)
    {k : Nat} {y : Str} {p p1 p2 pos : Pos} (hgl : Pan.glob L "isinstance" = true) (hbl : c.bl.contains "isinstance" = true) (hy : Pan.glob L y = true) (hk : ex[k]? = some y) (hkl : k ∈ es) :
    PE (X.suite a ((a, oe) :: pn)) (.Call (.Name "isinstance" p) [.Name en p1, .Name y p2] [] pos) (tE X.K W0 cl (isiR a cc ei k)) := by
  obtain ⟨g1, d1⟩ := S.C.glob hgl
  obtain ⟨g2, d2⟩ := S.C.glob hy
  obtain ⟨n1, n2, n3, n4⟩ := S.C.slotN he
  obtain ⟨Cy, e1, e2, _⟩ := (S.exs k y hk).ex
  have hm : X.mg "isinstance" = none := S.C.bl _ hbl
  refine PE.imp (pe_callB (X := X.suite a ((a, oe) :: pn)) (call_isE hC hz hf) g1 hm (by decide +kernel) (pa_cons (pe_var (X := X.suite a ((a, oe) :: pn)) n1 n2 n3 n4) (pa_cons (pe_glob (X := X.suite a ((a, oe) :: pn)) (v := .ref Cy) (u := .ref Cy) g2 e2 rfl d2) pa_nil rfl) rfl) (by decide) (by decide) rfl rfl) fun σ H Q _ q => ?_
  obtain ⟨e, F, vr, w⟩ := q
  unfold isiR at w
  split at w
  · rename_i c' b hs
    split at w
    · rename_i hh
      obtain ⟨rfl, rfl⟩ := hh
      have hl : ei < e.length := (List.getElem?_eq_some_iff.mp hs).1
      have hl2 : ei < σ.length := vr.len ▸ hl
      have e0 : σ[ei]? = some σ[ei] := List.getElem?_eq_getElem hl2
      have sl := vr.slot ei _ _ hs e0
      cases hv : σ[ei] with
      | none => rw [hv] at sl; exact sl.elim
      | some v =>
        rw [hv] at sl e0
        have sl : v = .ref b := sl
        subst sl
        refine ⟨.ref b, e0, ?_⟩
        refine ⟨.ref Cy, .ref Cy, c' == k, rfl, fun u r => r, ?_, ?_⟩
        · have z := Er.is c' k hcc hkl
          rw [hcl, e1] at z
          exact z
        · exact w F H (Ext.refl vr.sub) _ (.bl _)
    · exact w.elim
  · exact w.elim
theorem compX_ok (S : CtxS c ex Γ cl j X L W) (Er : Errs X.K X.mg es cl B) (hcc : cc ∈ es) (hcl : cl cc = .ref C) (hC : ExcC X.K C) (hz : Zc (.ref C) none oe) (hf : ∃ vs, oe.data = .fields vs) (he : Pan.slotN c L en = some ei) :
    ∀ (n : Nat) {e : Expr} {x : HX}, compX c ex es L en n e = some x → PE (X.suite a ((a, oe) :: pn)) e (tE X.K W0 cl (evX a cc ei x))
  | 0, e, x, h => by cases h
  | n + 1, e, x, h => by
    have hu : (X.suite a ((a, oe) :: pn)).A.units + 65 < cLine := by
      have := S.C.room.un
      show (X.A.mark _).units + 65 < cLine
      simp
      omega
    unfold compX at h
    split at h
    · rename_i f p z1 p1 y p2 pos
      obtain ⟨h1, h2⟩ := when_some h
      simp only [Bool.and_eq_true, decide_eq_true_eq] at h1
      obtain ⟨⟨⟨⟨⟨rfl, rfl⟩, _⟩, g1⟩, b1⟩, g2⟩ := h1
      split at h2
      · rename_i k h3
        obtain ⟨h4, h5⟩ := when_some h2
        cases h5
        exact isi_ok S Er hcc hcl hC hz hf he g1 b1 g2 (findIdx_get h3) (by simpa using h4)
      · cases h2
    · rename_i z p
      obtain ⟨i, h1, rfl⟩ := o1_some h
      obtain ⟨n1, n2, n3, n4⟩ := S.C.slotN h1
      exact ce_var (X := X.suite a ((a, oe) :: pn)) n1 n2 n3 n4
    · rename_i z p
      obtain ⟨h1, h2⟩ := when_some h
      obtain ⟨x1, h3, rfl⟩ := o1_some h2
      have q1 := compX_ok S Er hcc hcl hC hz hf he n h3
      exact ce_new (cn_lst (ca_cons q1 ca_nil (star_no (by simpa using h1))))
    · rename_i z1 z2 p
      obtain ⟨h1, h2⟩ := when_some h
      obtain ⟨x1, x2, h3, h4, rfl⟩ := o2_some h2
      rw [Bool.and_eq_true] at h1
      have q1 := compX_ok S Er hcc hcl hC hz hf he n h3
      have q2 := compX_ok S Er hcc hcl hC hz hf he n h4
      exact ce_new (cn_lst (ca_cons q1 (ca_cons q2 ca_nil (star_no (by simpa using h1.2))) (star_no (by simpa using h1.1))))
    · rename_i z1 z2 z3 p
      obtain ⟨h1, h2⟩ := when_some h
      obtain ⟨x1, x2, x3, h3, h4, h5, rfl⟩ := o3_some h2
      rw [Bool.and_eq_true, Bool.and_eq_true] at h1
      have q1 := compX_ok S Er hcc hcl hC hz hf he n h3
      have q2 := compX_ok S Er hcc hcl hC hz hf he n h4
      have q3 := compX_ok S Er hcc hcl hC hz hf he n h5
      exact ce_new (cn_lst (ca_cons q1 (ca_cons q2 (ca_cons q3 ca_nil (star_no (by simpa using h1.2))) (star_no (by simpa using h1.1.2))) (star_no (by simpa using h1.1.1))))
    · rename_i z1 z2 p
      obtain ⟨x1, x2, h3, h4, rfl⟩ := o2_some h
      exact ce_bin rfl (compX_ok S Er hcc hcl hC hz hf he n h3) (compX_ok S Er hcc hcl hC hz hf he n h4)
    · rename_i o m ap k2 p2 cp
      obtain ⟨h1, h2⟩ := when_some h
      simp only [Bool.and_eq_true, decide_eq_true_eq] at h1
      obtain ⟨⟨rfl, h3⟩, h4⟩ := h1
      obtain ⟨x1, h5, rfl⟩ := o1_some h2
      exact ce_index hu h3 h4 rfl (ce_weak (compX_ok S Er hcc hcl hC hz hf he n h5)) (ce_lit (X := X.suite a ((a, oe) :: pn)) pe_bl fun _ => .bl _)
    · cases h
theorem rt_then {r : R D} {e : Env} {k : Env → R Fl} : andThen (lift r e fun d => .ok (.rt d)) k = lift r e fun d => .ok (.rt d) := by
  cases r <;> rfl
theorem compH_ok (S : CtxS c ex Γ cl j X L W) (Er : Errs X.K X.mg es cl B) (hcc : cc ∈ es) (hcl : cl cc = .ref C) (hC : ExcC X.K C) (hz : Zc (.ref C) none oe) (hf : ∃ vs, oe.data = .fields vs) (he : Pan.slotN c L en = some ei) {n : Nat} :
    ∀ {sts : List Stmt} {l : List (Nat × HX)} {r : HX}, compH c ex es L en n sts = some (l, r) → PSs (X.suite a ((a, oe) :: pn)) sts (tS X.K W0 cl (hRun a cc ei l r)) := by
  intro sts
  induction sts with
  | nil => intro l r h; cases h
  | cons st rest ih =>
    intro l r h
    unfold compH at h
    split at h
    · rename_i e p heq
      cases heq
      obtain ⟨x, h1, h2⟩ := o1_some h
      cases h2
      have q := compX_ok (pn := pn) (a := a) S Er hcc hcl hC hz hf he n h1
      exact PSsc (X := X.suite a ((a, oe) :: pn)) (cs_cons (cs_ret q) cs_nil) fun e => rt_then
    · rename_i x p v pos rest' heq
      cases heq
      obtain ⟨h0, h⟩ := when_some h
      obtain ⟨i, z, rr, h1, h2, h3, h4⟩ := o3_some h
      cases h4
      have q := compX_ok (pn := pn) (a := a) S Er hcc hcl hC hz hf he n h2
      obtain ⟨hN, hloc, hfn⟩ := tgN_parts S.C h1
      have nd : X.N.Nodup := by rw [S.C.N]; exact S.C.nd
      refine cs_cons (X := X.suite a ((a, oe) :: pn)) (PS.imp (ps_set (X := X.suite a ((a, oe) :: pn)) nd hN hloc q (sw_none (by simpa using h0) _ _ _) hfn) fun D σ H _ q => imp_asg (g := .name i) q) (ih (l := rr.1) (r := rr.2) h3)
    · cases h
theorem CtxS.tr (S : CtxS c ex Γ cl j X L W) {W' : WX} {pn : List (Addr × Obj)} {xe : Value → Shared → Prop} (tk : Takes (X.tr pn xe) W') (hp : PassesOwn (model X.prog X.w) X.A X.env xe) : CtxS c ex Γ cl j (X.tr pn xe) L W' where
  C := ⟨S.C.N, S.C.nd, S.C.sc, S.C.fc, S.C.calm, S.C.room, tk, hp, S.C.fns, fun r h => ⟨(S.C.fx r h).ex⟩, S.C.ci, S.C.cs, S.C.bl⟩
  kind := S.kind
  exs := fun i x h => ⟨(S.exs i x h).ex⟩
/-- how a try ends -/
def tryF (N : Nat) (body : Env → R Fl) (hans : Nat → R D) (e : Env) : R Fl := match body e with
  | .ok (.nx e) => .ok (.nx e)
  | .ok (.rt d) => .ok (.rt d)
  | .ok (.ex c e) => if e.length = N then (match hans c with
    | .ok d => .ok (.rt d)
    | _ => .bad) else .bad
  | _ => .bad
theorem ER.held {K : PySem.W.Frag} {H0 F0 F H : Hp} {e : Env} {σ : St} (er : ER K H0 F0 e σ F H) (i cc a : Nat) : ER K H0 F0 (e.set i (.held cc a)) (σ.set i (some (.ref a))) F H := by
  refine ⟨er.sub0, er.vr.set (s := .held cc a) (o := some (.ref a)) rfl, er.ext, fun k d b h1 h2 => ?_, fun k l d d' b h1 h2 h3 h4 => ?_⟩
  · rw [List.getElem?_set] at h1 h2
    by_cases q : i = k
    · rw [if_pos q] at h1
      split at h1 <;> cases h1
    · rw [if_neg q] at h1 h2
      exact er.fresh k d b h1 h2
  · rw [List.getElem?_set] at h1 h2 h3 h4
    by_cases q : i = k
    · rw [if_pos q] at h1
      split at h1 <;> cases h1
    · by_cases q2 : i = l
      · rw [if_pos q2] at h2
        split at h2 <;> cases h2
      · rw [if_neg q] at h1 h3
        rw [if_neg q2] at h2 h4
        exact er.apart k l d d' b h1 h2 h3 h4
theorem W0_no {cls : Value} {d : Option Addr} {σ : St} {H : Hp} (h : W0 cls d σ H) : False := h
theorem try_ok {n m nh : Nat} {body suite : List Stmt} {b₀ : Stmt} {ss : Ss} {l : List (Nat × HX)} {r : HX} {np pos pos' : Pos} {hans : Nat → R D} (S : CtxS c ex Γ cl j X L W) (hst : X.stack = X.env :: X.outer) (hfr : X.env.frame = some X.env.locals) (Er : Errs X.K X.mg es cl B)
    (hgp : Pan.glob L "PaneError" = true) (he : Pan.slotN c L en = some ei) (hloc : L.sc.names.lookup en = some .local) (hb : compSs c ex L (compE c (n + 1) L) m body = some ss) (hh : compH c ex es L en nh (b₀ :: suite) = some (l, r))
    (ha : ∀ cc d, hans cc = .ok d → cc ∈ es ∧ ∀ (a : Nat) (e : Env), e.length = c.N.length → hRun a cc ei l r (e.set ei (.held cc a)) = .ok (.rt d)) :
    PS X (.Try body [.ExceptHandler (some (.Name "PaneError" np)) (some en) (b₀ :: suite) pos'] [] [] pos) (tS X.K W cl (tryF c.N.length (xss (phi Γ) ss) hans)) := by
  obtain ⟨n1, n2, n3, n4⟩ := S.C.slotN he
  obtain ⟨g1, d1⟩ := S.C.glob hgp
  have nd : X.N.Nodup := by rw [S.C.N]; exact S.C.nd
  refine PS.imp (ps_try_as (tb := fun W' => tS X.K W' cl (xss (phi Γ) ss)) (ts := fun a cls d => fun D σ H => ∃ cc, cls = cl cc ∧ d = none ∧ cc ∈ es ∧ tS X.K W0 cl (hRun a cc ei l r) D σ H) (Wout := W) (c := .ref B) hst hfr nd n1 (by
    show X.env.scope.names.lookup en = some .local
    rw [S.C.sc]; exact hloc) ⟨g1, d1, .inl Er.base⟩ S.C.takes (fun W' pn xe tk hp => stmts_ok (S.tr tk hp) m hb) (fun a oe cls d pn hz hf => ⟨fun pins s σ H D I h => ?_⟩)) fun D σ H _ h => ?_
  · obtain ⟨cc, rfl, rfl, hcc, h⟩ := h
    obtain ⟨C, e1, hC⟩ := Er.exc cc hcc
    rw [e1] at hz
    exact (compH_ok S Er hcc e1 hC hz hf he hh).run pins s σ H D I h
  · obtain ⟨H0, F0, e, F, er, p⟩ := h
    refine ⟨H0, F0, e, F, er, ?_⟩
    unfold tryF at p
    cases hx : xss (phi Γ) ss e with
    | bad => rw [hx] at p; exact p
    | exc _ => rw [hx] at p; exact p
    | ok fl =>
      rw [hx] at p
      cases fl with
      | nx e' => exact p
      | rt d => exact p
      | ex cc e' =>
        dsimp only at p
        by_cases hl : e'.length = c.N.length
        rotate_left
        · rw [if_neg hl] at p; exact p.elim
        rw [if_pos hl] at p
        cases hq : hans cc with
        | bad => rw [hq] at p; exact p.elim
        | exc _ => rw [hq] at p; exact p.elim
        | ok d =>
          rw [hq] at p
          obtain ⟨hcc, hrun⟩ := ha cc d hq
          intro σ' F' H' er'
          refine ⟨true, Er.sub cc hcc, fun _ a hna => ⟨cc, rfl, rfl, hcc, H0, F0, _, F', er'.held ei cc a, ?_⟩, fun z => by cases z⟩
          rw [hrun a e' hl]
          exact fun v F2 H2 x rv => p v F2 H2 x rv
end
section
variable {P : Program} {w : World} {K : PySem.W.Frag} {mg : Str → Option Value} {base : Heap} {ex : List Str} {es : List Nat} {cl : Nat → Value} {j : Nat} {c : Sig} {Γ : List FnR} {B : Addr} {en : Str} {ei : Nat}
def preF (Φ : Nat → List D → R D) (k : Env → R Fl) : List S → Env → R Fl
  | [], e => k e
  | s :: l, e => andThen (xs Φ s e) (preF Φ k l)
def runT (Φ : Nat → List D → R D) (n : Nat) (pre : List S) (tb : Ss) (hans : Nat → R D) (ds : List D) : R D :=
  match preF Φ (fun e => andThen (tryF n (xss Φ tb) hans e) fun _ => .ok (.rt .non)) pre (ds.map Slot.val ++ List.replicate (n - ds.length) .no) with
  | .ok (.rt d) => .ok d
  | .ok (.ex c _) => .exc c
  | _ => .bad
def compPre (c : Sig) (ex : List Str) (L : Loc) (f : Expr → Option E) : List Stmt → Option (List S)
  | [] => some []
  | st :: r => o2 (fun s l => s :: l) (oneS c ex L f (fun _ => none) st) (compPre c ex L f r)
theorem pre_ok {X : Cx} {W : WX} {L : Loc} {n : Nat} (S : CtxS c ex Γ cl j X L W) {b : List Stmt} {k : Env → R Fl} (hb : PSs X b (tS X.K W cl k)) : ∀ {pre : List Stmt} {l : List Pan.S}, compPre c ex L (compE c (n + 1) L) pre = some l → PSs X (pre ++ b) (tS X.K W cl (preF (phi Γ) k l))
  | [], l, h => by cases h; exact hb
  | st :: r, l, h => by
    obtain ⟨s, l', h1, h2, rfl⟩ := o2_some h
    exact cs_cons (one_ok S (fun z => by cases z) h1) (pre_ok S hb h2)
/-- THE RULE for a def that ends: try: .. except PaneError as e: ..; return None -/
theorem def_try_ok {x qual : Str} {params : Arguments} {pre body tb suite : List Stmt} {b₀ : Stmt} {scope : Scope} {f : Addr} {fd : FuncData} {ps : List Str} {n m nn nh : Nat} {ss : List Pan.S} {tt : Ss} {l : List (Nat × HX)} {r : HX} {np pos pos' p3 p4 : Pos} {k3 : Nat} {hans : Nat → R D} {sem : List D → R D} (Gb : Glob P w K mg ex c.ci c.cs c.bl cl) (Er : Errs K mg es cl B) (fx : ∀ r ∈ Γ, FnG P w K mg base cl j r) (hfn : c.fns = Γ.map fun r => (r.name, r.n))
    (F : FunD K x qual params body scope [] [] f fd) (S : FnScope c.N ps scope) (hbody : body = pre ++ [.Try tb [.ExceptHandler (some (.Name "PaneError" np)) (some en) (b₀ :: suite) pos'] [] [] pos, .Return (some (.Constant .none k3 p3)) p4])
    (hpre : compPre c ex ⟨scope, fun _ => true⟩ (compE c (nn + 1) ⟨scope, fun _ => true⟩) pre = some ss)
    (hgp : Pan.glob ⟨scope, fun _ => true⟩ "PaneError" = true) (he : Pan.slotN c ⟨scope, fun _ => true⟩ en = some ei) (hloc : scope.names.lookup en = some .local) (hb : compSs c ex ⟨scope, fun _ => true⟩ (compE c (nn + 1) ⟨scope, fun _ => true⟩) m tb = some tt) (hh : compH c ex es ⟨scope, fun _ => true⟩ en nh (b₀ :: suite) = some (l, r))
    (ha : ∀ cc d, hans cc = .ok d → cc ∈ es ∧ ∀ (a : Nat) (e : Env), e.length = c.N.length → hRun a cc ei l r (e.set ei (.held cc a)) = .ok (.rt d)) (hn : ps.length = n)
    (hs : ∀ ds, ds.length = n → sem ds ≠ .bad → runT (phi Γ) c.N.length ss tt hans ds = sem ds) : FnOk P w K mg base (L2.CX P w) (j + 1) f fd ps (spOf K cl n sem) := by
  refine F.ok S (spOf_len hn) fun cdv A outer s H vs Q E hr h => ?_
  have ctx : CtxS c ex Γ cl j (cxOf (L2.CX P w) P w K mg base c.N qual scope f cdv A outer s H E) ⟨scope, fun _ => true⟩ (fun cls d _ H => E cls d H) := by
    refine ⟨⟨rfl, S.nd, rfl, fun _ _ => rfl, rfl, hr, takes_of rfl rfl rfl rfl, passes_of rfl, hfn, fun r hm => ⟨(fx r hm).ex⟩, Gb.ci, Gb.cs, Gb.bl⟩, S.kind, fun i y hy => ?_⟩
    obtain ⟨C, h1, h2⟩ := Gb.exs i y hy
    exact ⟨C, h1, h2⟩
  have T := try_ok (np := np) (pos := pos) (pos' := pos') ctx rfl rfl Er hgp he hloc hb hh ha
  have R2 : PSs (cxOf (L2.CX P w) P w K mg base c.N qual scope f cdv A outer s H E) [.Return (some (.Constant .none k3 p3)) p4] (tS K (fun cls d _ H => E cls d H) cl fun _ => .ok (.rt .non)) :=
    PSsc (X := cxOf (L2.CX P w) P w K mg base c.N qual scope f cdv A outer s H E) (cs_cons (cs_ret (ce_lit pe_non fun _ => .non)) cs_nil) fun e => rfl
  subst hbody
  refine ⟨_, pre_ok ctx (cs_cons T R2) hpre, ?_⟩
  obtain ⟨F0, ds, hl, sub, r, q⟩ := h
  refine ⟨H, F0, _, F0, er_start (N := c.N) sub r, ?_⟩
  have e := hs ds hl (fun z => by rw [z] at q; exact q)
  unfold runT at e
  skip
  generalize preF (phi Γ) (fun e => andThen (tryF c.N.length (xss (phi Γ) tt) hans e) fun _ => .ok (.rt .non)) ss (ds.map Slot.val ++ List.replicate (c.N.length - ds.length) .no) = z at e ⊢
  cases z with
  | bad => rw [← e] at q; exact q
  | exc _ => rw [← e] at q; exact q
  | ok fl =>
    cases fl with
    | nx e' => rw [← e] at q; exact q.elim
    | rt d =>
      rw [← e] at q
      exact fun v F H' x rv => q v F H' x rv
    | ex cc e' =>
      rw [← e] at q
      exact fun σ F H' er => q H' er.ext.same
end
end Pan

/-! Panestacks, part H2: a head that tells the classes of the exceptions too; defs that catch. -/
namespace Pan
open PySem PySem.Spec L2
open PyProof.Rows hiding St
def excOk (K : PySem.W.Frag) (D : Addr) : Bool :=
  He.eqO (PySem.W.findIn K (.ref D) "__getattribute__") (some (some (.builtin "BaseException.__getattribute__"))) && (He.eqO (PySem.W.findIn K (.ref D) "__getattr__") (some none) && (decide (PySem.W.subIn K (.ref D) (.type "BaseException") = some true) && (PySem.W.hasDictIn K D &&
  (He.eqO (PySem.W.findIn K (.ref D) "__class__") (some (some (.builtin "object.__class__"))) && (He.eqO (PySem.W.specialIn K (.builtin "object.__class__") "__get__") (some (some (.builtin "getset_descriptor.__get__"))) && (decide (PySem.W.takesIn K (.builtin "object.__class__") = some true) && decide (PySem.W.mroIn K D (.type "object") = some true)))))))
theorem excOk_ok {K : PySem.W.Frag} {D : Addr} (h : excOk K D = true) : ExcC K D := by
  unfold excOk at h
  simp only [Bool.and_eq_true, decide_eq_true_eq] at h
  obtain ⟨h1, h2, h3, h4, h5, h6, h7, h8⟩ := h
  exact ⟨He.eqO_ok h1, He.eqO_ok h2, h3, h4, He.eqO_ok h5, He.eqO_ok h6, h7, h8⟩
/-- what is asked of the classes whose numbers are es -/
def errOk (ex : List Str) (es : List Nat) (K : PySem.W.Frag) : Bool :=
  es.all fun i => excOk K (He.ga K (ex.getD i "")) && (decide (PySem.W.exmOne K (.ref (He.ga K (ex.getD i ""))) (.ref (He.ga K "PaneError")) = some true) && es.all fun j => decide (PySem.W.kitOne K (.ref (He.ga K (ex.getD i ""))) (.ref (He.ga K (ex.getD j ""))) = some (i == j)))
def obsE (n : Nat) (fa : List He.Fa) (fn : List He.DefD) (ex : List Str) (es : List Nat) (g : Addr → Option Obj) : He.AlD × Bool := (He.obsD fa fn (He.frG g (He.asD g n)), errOk ex es (He.frG g (He.asD g n)))
def hookE (n : Nat) (fa : List He.Fa) (fn : List He.DefD) (ex : List Str) (es : List Nat) : PySem.W.Hook where
  α := He.AlD × Bool
  obs := fun s => obsE n fa fn ex es s.heap.get?
  val := fun _ => (He.valD fn, true)
  says := fun _ h => ∃ K : PySem.W.Frag, K.In h ∧ He.SaysD fa fn K ∧ errOk ex es K = true
  of := fun _ _ e => ⟨_, He.frG_in, congrArg Prod.fst e, congrArg Prod.snd e⟩
  keeps := fun _ _ _ ⟨K, hK, c⟩ k => ⟨K, PySem.W.Frag.In.keeps hK k, c⟩
theorem obsE_eq {n : Nat} {fa : List He.Fa} {fn : List He.DefD} {ex : List Str} {es : List Nat} {g : Addr → Option Obj} {s : Shared} (h : ∀ a, g a = s.heap.get? a) : obsE n fa fn ex es g = (hookE n fa fn ex es).obs s := by
  have e : g = s.heap.get? := funext h
  subst e
  rfl
section
variable {P : Program} {w : World} {K : PySem.W.Frag} {mg : Str → Option Value} {base h : Heap} {gl bl ex : List Str} {es : List Nat} {ci : List (Str × Int)} {cs : List (Str × Str)} {fn : List He.DefD}
theorem errs_of (M : Md P w K mg gl bl ci cs ex fn) (hp : gl.contains "PaneError" = true) (he : errOk ex es K = true) : Errs K mg es (clK K ex) (He.ga K "PaneError") := by
  obtain ⟨h, X, G, c⟩ := M.in_
  have he : ∀ i ∈ es, _ := List.all_eq_true.mp he
  refine ⟨He.glo_ok X G (fa_in c ?_), fun i hi => ?_, fun i j hi hj => ?_, fun i hi => ?_⟩
  · unfold faOf
    simp only [List.mem_append, List.mem_map]
    exact .inl ⟨"PaneError", by simpa using hp, rfl⟩
  · have z := he i hi
    rw [Bool.and_eq_true] at z
    exact ⟨_, rfl, excOk_ok z.1⟩
  · have z := he i hi
    rw [Bool.and_eq_true, Bool.and_eq_true] at z
    exact of_decide_eq_true (List.all_eq_true.mp z.2.2 j hj)
  · have z := he i hi
    rw [Bool.and_eq_true, Bool.and_eq_true] at z
    exact of_decide_eq_true z.2.1
/-- the index of the class in a list of classes -/
def hansL (es : List Nat) (cc : Nat) : R D := match (es.map fun j => cc == j).findIdx? id with
  | some k => .ok (.int k)
  | none => .bad
theorem hansL_in {es : List Nat} {cc : Nat} {d : D} (h : hansL es cc = .ok d) : cc ∈ es := by
  unfold hansL at h
  split at h
  · rename_i k hk
    obtain ⟨hi, h1, _⟩ := List.findIdx?_eq_some_iff_getElem.mp hk
    rw [List.getElem_map] at h1
    have h1 : cc = _ := eq_of_beq h1
    rw [h1]
    exact List.getElem_mem _
  · cases h
theorem isi_at {a cc ei j : Nat} {e : Env} (h : e[ei]? = some (.held cc a)) : isiR a cc ei j e = .ok (.bl (cc == j)) := by
  unfold isiR
  rw [h]
  exact if_pos ⟨rfl, rfl⟩
theorem idx4 (b0 b1 b2 b3 : Bool) : mtS .index (.lst [.bl b0, .bl b1, .bl b2, .bl b3]) [.bl true] = match [b0, b1, b2, b3].findIdx? id with | some k => .ok (.int k) | none => .bad := by
  cases b0 <;> cases b1 <;> cases b2 <;> cases b3 <;> rfl
theorem idx3 (b0 b1 b2 : Bool) : mtS .index (.lst [.bl b0, .bl b1, .bl b2]) [.bl true] = match [b0, b1, b2].findIdx? id with | some k => .ok (.int k) | none => .bad := by
  cases b0 <;> cases b1 <;> cases b2 <;> rfl
theorem fit_small {xs : List D} {k : List D → D} (h : xs.length ≤ 1000000) : fitL xs k = .ok (k xs) := if_pos (Nat.le_trans h (by decide))
theorem hA4 {j0 j1 j2 j3 ei fi N cc : Nat} {d : D} (h1 : ei < N) (h2 : fi < N) (h3 : ei ≠ fi) (h : hansL [j0, j1, j2, j3] cc = .ok d) : cc ∈ [j0, j1, j2, j3] ∧ ∀ (a : Nat) (e : Env), e.length = N → hRun a cc ei [(fi, .lst2 (.isi j0) (.isi j1)), (fi, .add (.var fi) (.lst1 (.isi j2)))] (.idx (.add (.var fi) (.lst1 (.isi j3)))) (e.set ei (.held cc a)) = .ok (.rt d) := by
  refine ⟨hansL_in h, fun a e hl => ?_⟩
  have hh : ∀ (e' : Env) (x : D), e'.length = N → e'[ei]? = some (.held cc a) → (e'.set fi (.val x))[ei]? = some (.held cc a) ∧ (e'.set fi (.val x)).length = N ∧ getV (e'.set fi (.val x)) fi = .ok x := fun e' x l q => by
    refine ⟨by rw [List.getElem?_set_ne (fun z => h3 z.symm)]; exact q, by rw [List.length_set]; exact l, ?_⟩
    unfold getV
    rw [List.getElem?_set_self (by omega)]
  have l0 : (e.set ei (.held cc a)).length = N := by rw [List.length_set]; exact hl
  have q0 : (e.set ei (.held cc a))[ei]? = some (.held cc a) := List.getElem?_set_self (by omega)
  generalize e.set ei (.held cc a) = e0 at l0 q0
  have s1 : evX a cc ei (.lst2 (.isi j0) (.isi j1)) e0 = .ok (.lst [.bl (cc == j0), .bl (cc == j1)]) := by
    simp only [evX, isi_at q0, bind_ok]
    exact fit_small (by simp)
  obtain ⟨q1, l1, g1⟩ := hh e0 (.lst [.bl (cc == j0), .bl (cc == j1)]) l0 q0
  have a1 : asgG (.name fi) (.lst [.bl (cc == j0), .bl (cc == j1)]) e0 = .ok (e0.set fi (.val (.lst [.bl (cc == j0), .bl (cc == j1)]))) := rfl
  generalize e0.set fi (.val (.lst [.bl (cc == j0), .bl (cc == j1)])) = e1 at q1 l1 g1 a1
  have ad : ∀ (xs ys : List D), xs.length + ys.length ≤ 100 → binS .Add (.lst xs) (.lst ys) = .ok (.lst (xs ++ ys)) := fun xs ys hz => by
    show fitL (xs ++ ys) .lst = _
    exact fit_small (by rw [List.length_append]; omega)
  have s2 : evX a cc ei (.add (.var fi) (.lst1 (.isi j2))) e1 = .ok (.lst [.bl (cc == j0), .bl (cc == j1), .bl (cc == j2)]) := by
    have f1 : fitL [.bl (cc == j2)] .lst = .ok (.lst [.bl (cc == j2)]) := fit_small (by simp)
    simp only [evX, isi_at q1, g1, bind_ok, f1]
    exact ad _ _ (by simp)
  obtain ⟨q2, l2, g2⟩ := hh e1 (.lst [.bl (cc == j0), .bl (cc == j1), .bl (cc == j2)]) l1 q1
  have a2 : asgG (.name fi) (.lst [.bl (cc == j0), .bl (cc == j1), .bl (cc == j2)]) e1 = .ok (e1.set fi (.val (.lst [.bl (cc == j0), .bl (cc == j1), .bl (cc == j2)]))) := rfl
  generalize e1.set fi (.val (.lst [.bl (cc == j0), .bl (cc == j1), .bl (cc == j2)])) = e2 at q2 l2 g2 a2
  have s3 : evX a cc ei (.idx (.add (.var fi) (.lst1 (.isi j3)))) e2 = .ok d := by
    have f1 : fitL [.bl (cc == j3)] .lst = .ok (.lst [.bl (cc == j3)]) := fit_small (by simp)
    have a3 : binS .Add (.lst [.bl (cc == j0), .bl (cc == j1), .bl (cc == j2)]) (.lst [.bl (cc == j3)]) = .ok (.lst [.bl (cc == j0), .bl (cc == j1), .bl (cc == j2), .bl (cc == j3)]) := ad _ _ (by simp)
    have mo : ∀ l, mtOk .index (.lst l) = true := fun _ => rfl
    simp only [evX, isi_at q2, g2, bind_ok, f1, a3, mo, if_true, idx4]
    exact h
  simp only [hRun, s1, lift_ok, a1, andThen_nx, s2, a2, s3]
theorem def_t (M : Md P w K mg gl bl ci cs ex fn) {B : Addr} (Er : Errs K mg es (clK K ex) B) {st : Stmt} {x : Str} {N ps mu di tu : List Str} {Γ : List FnR} {j : Nat} {pre tb suite : List Stmt} {b₀ : Stmt} {en : Str} {ei nh : Nat} {ss : List Pan.S} {tt : Ss} {l : List (Nat × HX)} {r : HX} {np pos pos' p3 p4 : Pos} {k3 : Nat} {hans : Nat → R D}
    (i : Nat) (hi : fn[i]? = some (ddOf st x)) (hx : gl.contains x = true) (S : FnScope N ps (defScope st))
    (hbody : defBody st = pre ++ [.Try tb [.ExceptHandler (some (.Name "PaneError" np)) (some en) (b₀ :: suite) pos'] [] [] pos, .Return (some (.Constant .none k3 p3)) p4])
    (hpre : compPre (sigOf N Γ ci cs bl mu di tu) ex ⟨defScope st, fun _ => true⟩ (compE (sigOf N Γ ci cs bl mu di tu) 30 ⟨defScope st, fun _ => true⟩) pre = some ss)
    (hb : compSs (sigOf N Γ ci cs bl mu di tu) ex ⟨defScope st, fun _ => true⟩ (compE (sigOf N Γ ci cs bl mu di tu) 30 ⟨defScope st, fun _ => true⟩) 40 tb = some tt)
    (hh : compH (sigOf N Γ ci cs bl mu di tu) ex es ⟨defScope st, fun _ => true⟩ en nh (b₀ :: suite) = some (l, r))
    (hgp : Pan.glob ⟨defScope st, fun _ => true⟩ "PaneError" = true) (he : Pan.slotN (sigOf N Γ ci cs bl mu di tu) ⟨defScope st, fun _ => true⟩ en = some ei) (hloc : (defScope st).names.lookup en = some .local)
    (ha : ∀ cc d, hans cc = .ok d → cc ∈ es ∧ ∀ (a : Nat) (e : Env), e.length = N.length → hRun a cc ei l r (e.set ei (.held cc a)) = .ok (.rt d))
    (hbi : ∀ (kV doc pm : Value) (an : Option Addr) (cdv ct : Value) (us : List Value), us.length = ps.length → bindArgs (PySem.W.fnOf x x (defArgs st) (defBody st) (defScope st) .none kV doc pm an cdv ct) ⟨us, []⟩ = pure (ps.zip us))
    (fx : ∀ r ∈ Γ, FnG P w K mg base (clK K ex) j r) : FnG P w K mg base (clK K ex) (j + 1) ⟨x, ps.length, runT (phi Γ) N.length ss tt hans⟩ := by
  obtain ⟨fd, F, hm⟩ := M.def_ i hi hx
  exact ⟨_, fd, ps, j + 1, rfl, Nat.le_refl _, def_try_ok (c := sigOf N Γ ci cs bl mu di tu) (m := 40) (nn := 29) M.glob Er fx rfl F S hbody hpre hgp he hloc hb hh ha rfl (fun _ _ _ => rfl), hm, F.kp, F.bindsN hbi⟩
end
end Pan

/-! Panestacks, part I: the defs' resolved forms (printed by gen_law.py). -/
namespace Pan
open PySem L2
def ir_is_int : Ss := (.cons (.ret (.and (.cons (.bi .isinst (.cons (.var 0) (.cons (.lit (.ty "int")) .nil))) (.cons (.not (.bi .isinst (.cons (.var 0) (.cons (.lit (.ty "bool")) .nil)))) (.cons (.chain .LtE .LtE (.var 1) (.var 0) (.var 2)) .nil))))) .nil)
def r_is_int : FnR := ⟨"is_int", 3, runF (phi []) 3 ir_is_int⟩
@[simp] theorem n_is_int : r_is_int.n = 3 := rfl
def ir_is_window : Ss := (.cons (.ife (.or (.cons (.not (.bi .isinst (.cons (.var 0) (.cons (.lit (.ty "tuple")) .nil)))) (.cons (.cmp .NotEq (.bi .len (.cons (.var 0) .nil)) (.lit (.int (4)))) .nil))) (.cons (.ret (.lit (.bl false))) .nil) .nil) (.cons (.ife (.not (.bi .all (.cons (.lc [1] (.name 1) .seq (.cons (.var 0) .nil) .none (.call 0 (.cons (.var 1) (.cons (.lit (.int (0))) (.cons (.lit (.int (12))) .nil))))) .nil))) (.cons (.ret (.lit (.bl false))) .nil) .nil) (.cons (.ret (.and (.cons (.cmp .Lt (.ix (.var 0) (.lit (.int (0)))) (.ix (.var 0) (.lit (.int (2))))) (.cons (.cmp .Lt (.ix (.var 0) (.lit (.int (1)))) (.ix (.var 0) (.lit (.int (3))))) .nil)))) .nil)))
def r_is_window : FnR := ⟨"is_window", 1, runF (phi [r_is_int]) 2 ir_is_window⟩
@[simp] theorem n_is_window : r_is_window.n = 1 := rfl
def ir_are_windows : Ss := (.cons (.ife (.or (.cons (.not (.bi .isinst (.cons (.var 0) (.cons (.lit (.ty "tuple")) .nil)))) (.cons (.cmp .Gt (.bi .len (.cons (.var 0) .nil)) (.lit (.int (6)))) .nil))) (.cons (.ret (.lit (.bl false))) .nil) .nil) (.cons (.ret (.bi .all (.cons (.lc [1] (.name 1) .seq (.cons (.var 0) .nil) .none (.call 0 (.cons (.var 1) .nil))) .nil))) .nil))
def r_are_windows : FnR := ⟨"are_windows", 1, runF (phi [r_is_window]) 2 ir_are_windows⟩
@[simp] theorem n_are_windows : r_are_windows.n = 1 := rfl
def ir_has_order : Ss := (.cons (.ife (.or (.cons (.not (.bi .isinst (.cons (.var 1) (.cons (.lit (.ty "tuple")) .nil)))) (.cons (.not (.bi .all (.cons (.lc [2] (.name 2) .seq (.cons (.var 1) .nil) .none (.call 0 (.cons (.var 2) (.cons (.lit (.int (0))) (.cons (.bin .Sub (.bi .len (.cons (.var 0) .nil)) (.lit (.int (1)))) .nil))))) .nil))) .nil))) (.cons (.ret (.lit (.bl false))) .nil) .nil) (.cons (.ret (.cmp .Eq (.bi .sorted (.cons (.var 1) .nil)) (.bi .lrange (.cons (.bi .len (.cons (.var 0) .nil)) .nil)))) .nil))
def r_has_order : FnR := ⟨"has_order", 2, runF (phi [r_is_int]) 3 ir_has_order⟩
@[simp] theorem n_has_order : r_has_order.n = 2 := rfl
def ir_check_windows : Ss := (.cons (.ife (.not (.call 0 (.cons (.var 0) .nil))) (.cons (.raise 1) .nil) .nil) .nil)
def r_check_windows : FnR := ⟨"check_windows", 1, runF (phi [r_are_windows]) 1 ir_check_windows⟩
@[simp] theorem n_check_windows : r_check_windows.n = 1 := rfl
def ir_check_order : Ss := (.cons (.ife (.not (.call 0 (.cons (.var 0) (.cons (.var 1) .nil)))) (.cons (.raise 2) .nil) .nil) .nil)
def r_check_order : FnR := ⟨"check_order", 2, runF (phi [r_has_order]) 2 ir_check_order⟩
@[simp] theorem n_check_order : r_check_order.n = 2 := rfl
def ir_check_both : Ss := (.cons (.expr (.call 0 (.cons (.var 0) .nil))) (.cons (.expr (.call 1 (.cons (.var 0) (.cons (.var 1) .nil)))) .nil))
def r_check_both : FnR := ⟨"check_both", 2, runF (phi [r_check_windows, r_check_order]) 2 ir_check_both⟩
@[simp] theorem n_check_both : r_check_both.n = 2 := rfl
def ir_is_order : Ss := (.cons (.expr (.call 0 (.cons (.var 0) .nil))) (.cons (.ret (.call 1 (.cons (.var 0) (.cons (.var 1) .nil)))) .nil))
def r_is_order : FnR := ⟨"is_order", 2, runF (phi [r_check_windows, r_has_order]) 2 ir_is_order⟩
@[simp] theorem n_is_order : r_is_order.n = 2 := rfl
def ir_check_window : Ss := (.cons (.ife (.not (.call 0 (.cons (.var 0) .nil))) (.cons (.raise 0) .nil) .nil) .nil)
def r_check_window : FnR := ⟨"check_window", 1, runF (phi [r_is_window]) 1 ir_check_window⟩
@[simp] theorem n_check_window : r_check_window.n = 1 := rfl
def ir_find_overlap : Ss := (.cons (.asg (.name 2) (.tup (.cons (.bi .max (.cons (.ix (.var 0) (.lit (.int (0)))) (.cons (.ix (.var 1) (.lit (.int (0)))) .nil))) (.cons (.bi .max (.cons (.ix (.var 0) (.lit (.int (1)))) (.cons (.ix (.var 1) (.lit (.int (1)))) .nil))) (.cons (.bi .min (.cons (.ix (.var 0) (.lit (.int (2)))) (.cons (.ix (.var 1) (.lit (.int (2)))) .nil))) (.cons (.bi .min (.cons (.ix (.var 0) (.lit (.int (3)))) (.cons (.ix (.var 1) (.lit (.int (3)))) .nil))) .nil)))))) (.cons (.ret (.ife (.and (.cons (.cmp .Lt (.ix (.var 2) (.lit (.int (0)))) (.ix (.var 2) (.lit (.int (2))))) (.cons (.cmp .Lt (.ix (.var 2) (.lit (.int (1)))) (.ix (.var 2) (.lit (.int (3))))) .nil))) (.var 2) (.lit .non))) .nil))
def r_find_overlap : FnR := ⟨"find_overlap", 2, runF (phi []) 3 ir_find_overlap⟩
@[simp] theorem n_find_overlap : r_find_overlap.n = 2 := rfl
def ir_overlap : Ss := (.cons (.expr (.call 0 (.cons (.var 0) .nil))) (.cons (.expr (.call 0 (.cons (.var 1) .nil))) (.cons (.ret (.call 1 (.cons (.var 0) (.cons (.var 1) .nil)))) .nil)))
def r_overlap : FnR := ⟨"overlap", 2, runF (phi [r_check_window, r_find_overlap]) 2 ir_overlap⟩
@[simp] theorem n_overlap : r_overlap.n = 2 := rfl
def ir_size : Ss := (.cons (.expr (.call 0 (.cons (.var 0) .nil))) (.cons (.ret (.bin .Mult (.bin .Sub (.ix (.var 0) (.lit (.int (2)))) (.ix (.var 0) (.lit (.int (0))))) (.bin .Sub (.ix (.var 0) (.lit (.int (3)))) (.ix (.var 0) (.lit (.int (1))))))) .nil))
def r_size : FnR := ⟨"size", 1, runF (phi [r_check_window]) 1 ir_size⟩
@[simp] theorem n_size : r_size.n = 1 := rfl
def ir_covers : Ss := (.cons (.ret (.and (.cons (.chain .LtE .Lt (.ix (.var 0) (.lit (.int (0)))) (.ix (.var 1) (.lit (.int (0)))) (.ix (.var 0) (.lit (.int (2))))) (.cons (.chain .LtE .Lt (.ix (.var 0) (.lit (.int (1)))) (.ix (.var 1) (.lit (.int (1)))) (.ix (.var 0) (.lit (.int (3))))) .nil)))) .nil)
def r_covers : FnR := ⟨"covers", 2, runF (phi []) 2 ir_covers⟩
@[simp] theorem n_covers : r_covers.n = 2 := rfl
def ir_cells_of : Ss := (.cons (.ret (.lc2 [1, 2] (.name 1) .rng2 (.cons (.ix (.var 0) (.lit (.int (0)))) (.cons (.ix (.var 0) (.lit (.int (2)))) .nil)) .none [2] (.name 2) .rng2 (.cons (.ix (.var 0) (.lit (.int (1)))) (.cons (.ix (.var 0) (.lit (.int (3)))) .nil)) .none (.tup (.cons (.var 1) (.cons (.var 2) .nil))))) .nil)
def r_cells_of : FnR := ⟨"cells_of", 1, runF (phi []) 3 ir_cells_of⟩
@[simp] theorem n_cells_of : r_cells_of.n = 1 := rfl
def ir_region_at : Ss := (.cons (.ret (.bi .tuple (.cons (.lc [2, 3] (.tup [2, 3]) .enum (.cons (.var 0) .nil) (.some (.call 0 (.cons (.var 3) (.cons (.var 1) .nil)))) (.var 2)) .nil))) .nil)
def r_region_at : FnR := ⟨"region_at", 2, runF (phi [r_covers]) 4 ir_region_at⟩
@[simp] theorem n_region_at : r_region_at.n = 2 := rfl
def ir_all_cells : Ss := (.cons (.mk 1 (.dnew true)) (.cons (.for_ (.name 2) .seq (.cons (.var 0) .nil) (.cons (.for_ (.name 3) .seq (.cons (.call 0 (.cons (.var 2) .nil)) .nil) (.cons (.put 1 (.var 3) (.lit (.bl true))) .nil)) .nil)) (.cons (.frz 1) (.cons (.ret (.bi .sorted (.cons (.var 1) .nil))) .nil))))
def r_all_cells : FnR := ⟨"all_cells", 1, runF (phi [r_cells_of]) 4 ir_all_cells⟩
@[simp] theorem n_all_cells : r_all_cells.n = 1 := rfl
def ir_covered : Ss := (.cons (.expr (.call 0 (.cons (.var 0) .nil))) (.cons (.ret (.bi .len (.cons (.call 1 (.cons (.var 0) .nil)) .nil))) .nil))
def r_covered : FnR := ⟨"covered", 1, runF (phi [r_check_windows, r_all_cells]) 1 ir_covered⟩
@[simp] theorem n_covered : r_covered.n = 1 := rfl
def ir_top_of : Ss := (.cons (.asg (.name 2) (.lc [3] (.name 3) .seq (.cons (.var 0) .nil) (.some (.cmp .In (.var 3) (.var 1))) (.var 3))) (.cons (.ret (.ife (.cmp .NotEq (.var 2) (.lst .nil)) (.ix (.var 2) (.neg (.lit (.int (1))))) (.lit .non))) .nil))
def r_top_of : FnR := ⟨"top_of", 2, runF (phi []) 4 ir_top_of⟩
@[simp] theorem n_top_of : r_top_of.n = 2 := rfl
def ir_on_top : Ss := (.cons (.expr (.call 0 (.cons (.var 0) (.cons (.var 1) .nil)))) (.cons (.ife (.or (.cons (.not (.call 3 (.cons (.var 2) (.cons (.lit (.int (0))) (.cons (.bin .Sub (.lit (.int (12))) (.lit (.int (1)))) .nil))))) (.cons (.not (.call 3 (.cons (.var 3) (.cons (.lit (.int (0))) (.cons (.bin .Sub (.lit (.int (12))) (.lit (.int (1)))) .nil))))) .nil))) (.cons (.raise 4) .nil) .nil) (.cons (.ret (.call 1 (.cons (.var 1) (.cons (.call 2 (.cons (.var 0) (.cons (.tup (.cons (.var 2) (.cons (.var 3) .nil))) .nil))) .nil)))) .nil)))
def r_on_top : FnR := ⟨"on_top", 4, runF (phi [r_check_both, r_top_of, r_region_at, r_is_int]) 4 ir_on_top⟩
@[simp] theorem n_on_top : r_on_top.n = 4 := rfl
def ir__law_pick : Ss := (.cons (.asg (.name 3) (.ife (.cmp .NotEq (.var 0) (.lst .nil)) (.ix (.var 0) (.bin .Mod (.var 1) (.bi .len (.cons (.var 0) .nil)))) (.lit (.int (0))))) (.cons (.par [false, false] [4, 5] (.cons (.bin .FloorDiv (.var 3) (.bin .Pow (.lit (.int (10))) (.lit (.int (18))))) (.cons (.bin .FloorDiv (.var 1) (.bi .max (.cons (.bi .len (.cons (.var 0) .nil)) (.cons (.lit (.int (1))) .nil)))) .nil))) (.cons (.whl 4000 (.and (.cons (.cmp .Gt (.var 4) (.lit (.int (0)))) (.cons (.cmp .Gt (.var 5) (.lit (.int (0)))) .nil))) (.cons (.par [false, false] [4, 5] (.cons (.bin .FloorDiv (.var 4) (.lit (.int (840)))) (.cons (.bin .Sub (.var 5) (.lit (.int (1)))) .nil))) .nil)) (.cons (.ife (.cmp .Gt (.var 4) (.lit (.int (0)))) (.cons (.ret (.bin .Mod (.bin .Mod (.var 4) (.lit (.int (840)))) (.var 2))) .nil) .nil) (.cons (.asg (.name 6) (.bin .Mod (.bin .Mult (.bin .Add (.bin .Mult (.var 3) (.lit (.int (31)))) (.bin .Mult (.lit (.int (6151))) (.bin .Add (.var 1) (.lit (.int (1)))))) (.lit (.int (40692)))) (.lit (.int (2147483399))))) (.cons (.ret (.bin .Mod (.bin .Mod (.bin .Add (.bin .Mult (.var 6) (.var 6)) (.bin .FloorDiv (.var 6) (.lit (.int (31))))) (.lit (.int (2147483629)))) (.var 2))) .nil))))))
def r__law_pick : FnR := ⟨"_law_pick", 3, runF (phi []) 7 ir__law_pick⟩
@[simp] theorem n__law_pick : r__law_pick.n = 3 := rfl
def ir__law_pane : Ss := (.cons (.asg (.name 2) (.ix (.tup (.cons (.lit (.int (1))) (.cons (.lit (.int (2))) (.cons (.lit (.int (2))) (.cons (.lit (.int (3))) .nil))))) (.call 0 (.cons (.var 0) (.cons (.var 1) (.cons (.lit (.int (4))) .nil)))))) (.cons (.par [false, false] [3, 4] (.cons (.bin .Mult (.var 2) (.call 0 (.cons (.var 0) (.cons (.bin .Add (.var 1) (.lit (.int (1)))) (.cons (.lit (.int (3))) .nil))))) (.cons (.bin .Mult (.var 2) (.call 0 (.cons (.var 0) (.cons (.bin .Add (.var 1) (.lit (.int (2)))) (.cons (.lit (.int (3))) .nil))))) .nil))) (.cons (.par [false, false] [5, 6] (.cons (.bin .Mult (.var 2) (.bin .Add (.lit (.int (1))) (.call 0 (.cons (.var 0) (.cons (.bin .Add (.var 1) (.lit (.int (3)))) (.cons (.lit (.int (2))) .nil)))))) (.cons (.bin .Mult (.var 2) (.bin .Add (.lit (.int (1))) (.call 0 (.cons (.var 0) (.cons (.bin .Add (.var 1) (.lit (.int (4)))) (.cons (.lit (.int (2))) .nil)))))) .nil))) (.cons (.ret (.tup (.cons (.var 3) (.cons (.var 4) (.cons (.bi .min (.cons (.bin .Add (.var 3) (.var 5)) (.cons (.lit (.int (12))) .nil))) (.cons (.bi .min (.cons (.bin .Add (.var 4) (.var 6)) (.cons (.lit (.int (12))) .nil))) .nil)))))) .nil))))
def r__law_pane : FnR := ⟨"_law_pane", 2, runF (phi [r__law_pick]) 7 ir__law_pane⟩
@[simp] theorem n__law_pane : r__law_pane.n = 2 := rfl
def ir__law_panes : Ss := (.cons (.ret (.bi .tuple (.cons (.lc [3] (.name 3) .rng1 (.cons (.call 1 (.cons (.var 0) (.cons (.var 1) (.cons (.bin .Add (.var 2) (.lit (.int (1)))) .nil)))) .nil) .none (.call 0 (.cons (.var 0) (.cons (.bin .Add (.bin .Add (.var 1) (.lit (.int (1)))) (.bin .Mult (.lit (.int (5))) (.var 3))) .nil)))) .nil))) .nil)
def r__law_panes : FnR := ⟨"_law_panes", 3, runF (phi [r__law_pane, r__law_pick]) 4 ir__law_panes⟩
@[simp] theorem n__law_panes : r__law_panes.n = 3 := rfl
def ir__law_order : Ss := (.cons (.par [true, true] [3, 4] (.cons (.bi .lrange (.cons (.var 2) .nil)) (.cons (.lst .nil) .nil))) (.cons (.whl 4000 (.cmp .NotEq (.ovar 3) (.lst .nil)) (.cons (.apop 4 3 (.call 0 (.cons (.var 0) (.cons (.bin .Add (.var 1) (.bi .len (.cons (.ovar 3) .nil))) (.cons (.bi .len (.cons (.ovar 3) .nil)) .nil))))) .nil)) (.cons (.frz 4) (.cons (.ret (.bi .tuple (.cons (.var 4) .nil))) .nil))))
def r__law_order : FnR := ⟨"_law_order", 3, runF (phi [r__law_pick]) 5 ir__law_order⟩
@[simp] theorem n__law_order : r__law_order.n = 3 := rfl
def ir__law_in : Ss := (.cons (.asg (.tup [3, 4, 5, 6]) (.var 0)) (.cons (.ret (.and (.cons (.cmp .LtE (.var 3) (.var 1)) (.cons (.cmp .Lt (.var 1) (.var 5)) (.cons (.cmp .LtE (.var 4) (.var 2)) (.cons (.cmp .Lt (.var 2) (.var 6)) .nil)))))) .nil))
def r__law_in : FnR := ⟨"_law_in", 3, runF (phi []) 7 ir__law_in⟩
@[simp] theorem n__law_in : r__law_in.n = 3 := rfl
def ir__law_top : Ss := (.cons (.asg (.name 4) (.lit .non)) (.cons (.for_ (.name 5) .seq (.cons (.var 1) .nil) (.cons (.ife (.call 0 (.cons (.ix (.var 0) (.var 5)) (.cons (.var 2) (.cons (.var 3) .nil)))) (.cons (.asg (.name 4) (.var 5)) .nil) .nil) .nil)) (.cons (.ret (.var 4)) .nil)))
def r__law_top : FnR := ⟨"_law_top", 4, runF (phi [r__law_in]) 6 ir__law_top⟩
@[simp] theorem n__law_top : r__law_top.n = 4 := rfl
def ir_check_number : Ss := (.cons (.ife (.not (.call 0 (.cons (.var 1) (.cons (.lit (.int (0))) (.cons (.bin .Sub (.bi .len (.cons (.var 0) .nil)) (.lit (.int (1)))) .nil))))) (.cons (.raise 3) .nil) .nil) .nil)
def r_check_number : FnR := ⟨"check_number", 2, runF (phi [r_is_int]) 2 ir_check_number⟩
@[simp] theorem n_check_number : r_check_number.n = 2 := rfl
def ir_find_seen : Ss := (.cons (.ret (.lc [3] (.name 3) .seq (.cons (.call 0 (.cons (.ix (.var 0) (.var 2)) .nil)) .nil) (.some (.cmp .Eq (.call 1 (.cons (.var 1) (.cons (.call 2 (.cons (.var 0) (.cons (.var 3) .nil))) .nil))) (.var 2))) (.var 3))) .nil)
def r_find_seen : FnR := ⟨"find_seen", 3, runF (phi [r_cells_of, r_top_of, r_region_at]) 4 ir_find_seen⟩
@[simp] theorem n_find_seen : r_find_seen.n = 3 := rfl
def ir_check_three : Ss := (.cons (.expr (.call 0 (.cons (.var 0) (.cons (.var 1) .nil)))) (.cons (.expr (.call 1 (.cons (.var 0) (.cons (.var 2) .nil)))) .nil))
def r_check_three : FnR := ⟨"check_three", 3, runF (phi [r_check_both, r_check_number]) 3 ir_check_three⟩
@[simp] theorem n_check_three : r_check_three.n = 3 := rfl
def ir_seen_size : Ss := (.cons (.expr (.call 0 (.cons (.var 0) (.cons (.var 1) (.cons (.var 2) .nil))))) (.cons (.ret (.bi .len (.cons (.call 1 (.cons (.var 0) (.cons (.var 1) (.cons (.var 2) .nil)))) .nil))) .nil))
def r_seen_size : FnR := ⟨"seen_size", 3, runF (phi [r_check_three, r_find_seen]) 3 ir_seen_size⟩
@[simp] theorem n_seen_size : r_seen_size.n = 3 := rfl
def ir_hidden_in : Ss := (.cons (.ret (.cmp .Eq (.call 0 (.cons (.var 0) (.cons (.var 1) (.cons (.var 2) .nil)))) (.lst .nil))) .nil)
def r_hidden_in : FnR := ⟨"hidden_in", 3, runF (phi [r_find_seen]) 3 ir_hidden_in⟩
@[simp] theorem n_hidden_in : r_hidden_in.n = 3 := rfl
def ir_is_hidden : Ss := (.cons (.expr (.call 0 (.cons (.var 0) (.cons (.var 1) (.cons (.var 2) .nil))))) (.cons (.ret (.call 1 (.cons (.var 0) (.cons (.var 1) (.cons (.var 2) .nil))))) .nil))
def r_is_hidden : FnR := ⟨"is_hidden", 3, runF (phi [r_check_three, r_hidden_in]) 3 ir_is_hidden⟩
@[simp] theorem n_is_hidden : r_is_hidden.n = 3 := rfl
def ir_whole_in : Ss := (.cons (.ret (.cmp .Eq (.call 0 (.cons (.var 0) (.cons (.var 1) (.cons (.var 2) .nil)))) (.call 1 (.cons (.ix (.var 0) (.var 2)) .nil)))) .nil)
def r_whole_in : FnR := ⟨"whole_in", 3, runF (phi [r_find_seen, r_cells_of]) 3 ir_whole_in⟩
@[simp] theorem n_whole_in : r_whole_in.n = 3 := rfl
def ir_is_whole : Ss := (.cons (.expr (.call 0 (.cons (.var 0) (.cons (.var 1) (.cons (.var 2) .nil))))) (.cons (.ret (.call 1 (.cons (.var 0) (.cons (.var 1) (.cons (.var 2) .nil))))) .nil))
def r_is_whole : FnR := ⟨"is_whole", 3, runF (phi [r_check_three, r_whole_in]) 3 ir_is_whole⟩
@[simp] theorem n_is_whole : r_is_whole.n = 3 := rfl
def ir_whole_ones : Ss := (.cons (.expr (.call 0 (.cons (.var 0) (.cons (.var 1) .nil)))) (.cons (.ret (.lc [2] (.name 2) .rng1 (.cons (.bi .len (.cons (.var 0) .nil)) .nil) (.some (.call 1 (.cons (.var 0) (.cons (.var 1) (.cons (.var 2) .nil))))) (.var 2))) .nil))
def r_whole_ones : FnR := ⟨"whole_ones", 2, runF (phi [r_check_both, r_whole_in]) 3 ir_whole_ones⟩
@[simp] theorem n_whole_ones : r_whole_ones.n = 2 := rfl
def ir_hiders : Ss := (.cons (.expr (.call 0 (.cons (.var 0) (.cons (.var 1) (.cons (.var 2) .nil))))) (.cons (.asg (.name 3) (.dc [4] (.name 4) .seq (.cons (.call 3 (.cons (.ix (.var 0) (.var 2)) .nil)) .nil) .none (.call 1 (.cons (.var 1) (.cons (.call 2 (.cons (.var 0) (.cons (.var 4) .nil))) .nil))) (.lit (.bl true)))) (.cons (.ret (.bi .sorted (.cons (.lc [5] (.name 5) .keys (.cons (.var 3) .nil) (.some (.cmp .NotEq (.var 5) (.var 2))) (.var 5)) .nil))) .nil)))
def r_hiders : FnR := ⟨"hiders", 3, runF (phi [r_check_three, r_top_of, r_region_at, r_cells_of]) 6 ir_hiders⟩
@[simp] theorem n_hiders : r_hiders.n = 3 := rfl
def ir_find_regions : Ss := (.cons (.ret (.bi .sortset (.cons (.lc [1] (.name 1) .seq (.cons (.call 1 (.cons (.var 0) .nil)) .nil) .none (.call 0 (.cons (.var 0) (.cons (.var 1) .nil)))) .nil))) .nil)
def r_find_regions : FnR := ⟨"find_regions", 1, runF (phi [r_region_at, r_all_cells]) 2 ir_find_regions⟩
@[simp] theorem n_find_regions : r_find_regions.n = 1 := rfl
def ir_regions : Ss := (.cons (.expr (.call 0 (.cons (.var 0) .nil))) (.cons (.ret (.call 1 (.cons (.var 0) .nil))) .nil))
def r_regions : FnR := ⟨"regions", 1, runF (phi [r_check_windows, r_find_regions]) 1 ir_regions⟩
@[simp] theorem n_regions : r_regions.n = 1 := rfl
def ir_look_of : Ss := (.cons (.ret (.bi .tuple (.cons (.lc [2] (.name 2) .seq (.cons (.var 0) .nil) .none (.call 0 (.cons (.var 1) (.cons (.var 2) .nil)))) .nil))) .nil)
def r_look_of : FnR := ⟨"look_of", 2, runF (phi [r_top_of]) 3 ir_look_of⟩
@[simp] theorem n_look_of : r_look_of.n = 2 := rfl
def ir_check_two : Ss := (.cons (.expr (.call 0 (.cons (.var 0) (.cons (.var 1) .nil)))) (.cons (.expr (.call 1 (.cons (.var 0) (.cons (.var 2) .nil)))) .nil))
def r_check_two : FnR := ⟨"check_two", 3, runF (phi [r_check_both, r_check_order]) 3 ir_check_two⟩
@[simp] theorem n_check_two : r_check_two.n = 3 := rfl
def ir_are_alike : Ss := (.cons (.expr (.call 0 (.cons (.var 0) (.cons (.var 1) (.cons (.var 2) .nil))))) (.cons (.asg (.name 3) (.call 1 (.cons (.var 0) .nil))) (.cons (.ret (.cmp .Eq (.call 2 (.cons (.var 3) (.cons (.var 1) .nil))) (.call 2 (.cons (.var 3) (.cons (.var 2) .nil))))) .nil)))
def r_are_alike : FnR := ⟨"are_alike", 3, runF (phi [r_check_two, r_find_regions, r_look_of]) 4 ir_are_alike⟩
@[simp] theorem n_are_alike : r_are_alike.n = 3 := rfl
def ir_parting_cell : Ss := (.cons (.expr (.call 0 (.cons (.var 0) (.cons (.var 1) (.cons (.var 2) .nil))))) (.cons (.for_ (.name 3) .seq (.cons (.call 1 (.cons (.var 0) .nil)) .nil) (.cons (.asg (.name 4) (.call 2 (.cons (.var 0) (.cons (.var 3) .nil)))) (.cons (.ife (.cmp .NotEq (.call 3 (.cons (.var 1) (.cons (.var 4) .nil))) (.call 3 (.cons (.var 2) (.cons (.var 4) .nil)))) (.cons (.ret (.var 3)) .nil) .nil) .nil))) (.cons (.ret (.lit .non)) .nil)))
def r_parting_cell : FnR := ⟨"parting_cell", 3, runF (phi [r_check_two, r_all_cells, r_region_at, r_top_of]) 5 ir_parting_cell⟩
@[simp] theorem n_parting_cell : r_parting_cell.n = 3 := rfl
def ir_all_orders : Ss := (.cons (.asg (.name 1) (.lst (.cons (.tup .nil) .nil))) (.cons (.for_ (.name 2) .rng1 (.cons (.var 0) .nil) (.cons (.asg (.name 1) (.lc2 [3, 4] (.name 3) .seq (.cons (.var 1) .nil) .none [4] (.name 4) .rng1 (.cons (.var 0) .nil) (.some (.cmp .NotIn (.var 4) (.var 3))) (.bin .Add (.var 3) (.tup (.cons (.var 4) .nil))))) .nil)) (.cons (.ret (.var 1)) .nil)))
def r_all_orders : FnR := ⟨"all_orders", 1, runF (phi []) 5 ir_all_orders⟩
@[simp] theorem n_all_orders : r_all_orders.n = 1 := rfl
def ir_find_alike : Ss := (.cons (.asg (.name 2) (.call 0 (.cons (.var 0) .nil))) (.cons (.asg (.name 3) (.call 1 (.cons (.var 2) (.cons (.var 1) .nil)))) (.cons (.ret (.lc [4] (.name 4) .seq (.cons (.call 2 (.cons (.bi .len (.cons (.var 0) .nil)) .nil)) .nil) (.some (.cmp .Eq (.call 1 (.cons (.var 2) (.cons (.var 4) .nil))) (.var 3))) (.var 4))) .nil)))
def r_find_alike : FnR := ⟨"find_alike", 2, runF (phi [r_find_regions, r_look_of, r_all_orders]) 5 ir_find_alike⟩
@[simp] theorem n_find_alike : r_find_alike.n = 2 := rfl
def ir_alike_orders : Ss := (.cons (.expr (.call 0 (.cons (.var 0) (.cons (.var 1) .nil)))) (.cons (.ret (.call 1 (.cons (.var 0) (.cons (.var 1) .nil)))) .nil))
def r_alike_orders : FnR := ⟨"alike_orders", 2, runF (phi [r_check_both, r_find_alike]) 2 ir_alike_orders⟩
@[simp] theorem n_alike_orders : r_alike_orders.n = 2 := rfl
def ir_sure_pairs : Ss := (.cons (.expr (.call 0 (.cons (.var 0) (.cons (.var 1) .nil)))) (.cons (.par [false, true] [2, 3] (.cons (.call 1 (.cons (.var 0) (.cons (.var 1) .nil))) (.cons (.lst .nil) .nil))) (.cons (.for_ (.name 4) .rng1 (.cons (.bi .len (.cons (.var 0) .nil)) .nil) (.cons (.for_ (.name 5) .rng1 (.cons (.bi .len (.cons (.var 0) .nil)) .nil) (.cons (.ife (.and (.cons (.cmp .NotEq (.var 4) (.var 5)) (.cons (.bi .all (.cons (.lc [6] (.name 6) .seq (.cons (.var 2) .nil) .none (.cmp .Gt (.mt .index (.var 6) (.cons (.var 4) .nil)) (.mt .index (.var 6) (.cons (.var 5) .nil)))) .nil)) .nil))) (.cons (.app 3 (.tup (.cons (.var 4) (.cons (.var 5) .nil)))) .nil) .nil) .nil)) .nil)) (.cons (.frz 3) (.cons (.ret (.var 3)) .nil)))))
def r_sure_pairs : FnR := ⟨"sure_pairs", 2, runF (phi [r_check_both, r_find_alike]) 7 ir_sure_pairs⟩
@[simp] theorem n_sure_pairs : r_sure_pairs.n = 2 := rfl
def ir__law_screen : Ss := (.cons (.mk 2 (.lst .nil)) (.cons (.for_ (.name 3) .rng1 (.cons (.lit (.int (12))) .nil) (.cons (.ext 2 (.lc [4] (.name 4) .rng1 (.cons (.lit (.int (12))) .nil) .none (.call 0 (.cons (.var 0) (.cons (.var 1) (.cons (.var 3) (.cons (.var 4) .nil))))))) .nil)) (.cons (.frz 2) (.cons (.ret (.var 2)) .nil))))
def r__law_screen : FnR := ⟨"_law_screen", 2, runF (phi [r__law_top]) 5 ir__law_screen⟩
@[simp] theorem n__law_screen : r__law_screen.n = 2 := rfl
def ir__law_orders : Ss := (.cons (.asg (.name 1) (.lst (.cons (.tup .nil) .nil))) (.cons (.for_ (.name 2) .rng1 (.cons (.var 0) .nil) (.cons (.mk 3 (.lst .nil)) (.cons (.for_ (.name 4) .seq (.cons (.var 1) .nil) (.cons (.ext 3 (.lc [5] (.name 5) .rng1 (.cons (.var 0) .nil) (.some (.cmp .NotIn (.var 5) (.var 4))) (.bin .Add (.var 4) (.tup (.cons (.var 5) .nil))))) .nil)) (.cons (.frz 3) (.cons (.asg (.name 1) (.var 3)) .nil))))) (.cons (.ret (.var 1)) .nil)))
def r__law_orders : FnR := ⟨"_law_orders", 1, runF (phi []) 6 ir__law_orders⟩
@[simp] theorem n__law_orders : r__law_orders.n = 1 := rfl
def ir_do_cover : Ss := (.cons (.ret (.bi .all (.cons (.lc [4] (.name 4) .seq (.cons (.call 0 (.cons (.ix (.var 0) (.var 2)) .nil)) .nil) .none (.bi .any (.cons (.lc [3] (.name 3) .seq (.cons (.var 1) .nil) .none (.call 1 (.cons (.ix (.var 0) (.var 3)) (.cons (.var 4) .nil)))) .nil))) .nil))) .nil)
def r_do_cover : FnR := ⟨"do_cover", 3, runF (phi [r_cells_of, r_covers]) 5 ir_do_cover⟩
@[simp] theorem n_do_cover : r_do_cover.n = 3 := rfl
def ir_others : Ss := (.cons (.ret (.bi .tuple (.cons (.lc [2] (.name 2) .rng1 (.cons (.bi .len (.cons (.var 0) .nil)) .nil) (.some (.cmp .NotEq (.var 2) (.var 1))) (.var 2)) .nil))) .nil)
def r_others : FnR := ⟨"others", 2, runF (phi []) 3 ir_others⟩
@[simp] theorem n_others : r_others.n = 2 := rfl
def ir_can_hide : Ss := (.cons (.expr (.call 0 (.cons (.var 0) .nil))) (.cons (.expr (.call 1 (.cons (.var 0) (.cons (.var 1) .nil)))) (.cons (.ret (.call 2 (.cons (.var 0) (.cons (.call 3 (.cons (.var 0) (.cons (.var 1) .nil))) (.cons (.var 1) .nil))))) .nil)))
def r_can_hide : FnR := ⟨"can_hide", 2, runF (phi [r_check_windows, r_check_number, r_do_cover, r_others]) 2 ir_can_hide⟩
@[simp] theorem n_can_hide : r_can_hide.n = 2 := rfl
def ir_always_seen : Ss := (.cons (.expr (.call 0 (.cons (.var 0) .nil))) (.cons (.ret (.lc [1] (.name 1) .rng1 (.cons (.bi .len (.cons (.var 0) .nil)) .nil) (.some (.not (.call 1 (.cons (.var 0) (.cons (.call 2 (.cons (.var 0) (.cons (.var 1) .nil))) (.cons (.var 1) .nil)))))) (.var 1))) .nil))
def r_always_seen : FnR := ⟨"always_seen", 1, runF (phi [r_check_windows, r_do_cover, r_others]) 2 ir_always_seen⟩
@[simp] theorem n_always_seen : r_always_seen.n = 1 := rfl
def ir_all_groups : Ss := (.cons (.asg (.name 1) (.lst (.cons (.tup .nil) .nil))) (.cons (.for_ (.name 2) .seq (.cons (.var 0) .nil) (.cons (.asg (.name 1) (.bin .Add (.var 1) (.lc [3] (.name 3) .seq (.cons (.var 1) .nil) .none (.bin .Add (.var 3) (.tup (.cons (.var 2) .nil)))))) .nil)) (.cons (.ret (.lc [4, 3] (.tup [4, 3]) .seq (.cons (.bi .sorted (.cons (.lc [3] (.name 3) .seq (.cons (.var 1) .nil) .none (.tup (.cons (.bi .len (.cons (.var 3) .nil)) (.cons (.var 3) .nil)))) .nil)) .nil) (.some (.cmp .Gt (.var 4) (.lit (.int (0))))) (.var 3))) .nil)))
def r_all_groups : FnR := ⟨"all_groups", 1, runF (phi []) 5 ir_all_groups⟩
@[simp] theorem n_all_groups : r_all_groups.n = 1 := rfl
def ir_smallest_cover : Ss := (.cons (.expr (.call 0 (.cons (.var 0) .nil))) (.cons (.expr (.call 1 (.cons (.var 0) (.cons (.var 1) .nil)))) (.cons (.for_ (.name 2) .seq (.cons (.call 2 (.cons (.call 3 (.cons (.var 0) (.cons (.var 1) .nil))) .nil)) .nil) (.cons (.ife (.call 4 (.cons (.var 0) (.cons (.var 2) (.cons (.var 1) .nil)))) (.cons (.ret (.var 2)) .nil) .nil) .nil)) (.cons (.ret (.lit .non)) .nil))))
def r_smallest_cover : FnR := ⟨"smallest_cover", 2, runF (phi [r_check_windows, r_check_number, r_all_groups, r_others, r_do_cover]) 3 ir_smallest_cover⟩
@[simp] theorem n_smallest_cover : r_smallest_cover.n = 2 := rfl
def ir_has_group : Ss := (.cons (.ife (.or (.cons (.not (.bi .isinst (.cons (.var 1) (.cons (.lit (.ty "tuple")) .nil)))) (.cons (.cmp .Eq (.var 1) (.tup .nil)) .nil))) (.cons (.ret (.lit (.bl false))) .nil) .nil) (.cons (.ife (.not (.bi .all (.cons (.lc [2] (.name 2) .seq (.cons (.var 1) .nil) .none (.call 0 (.cons (.var 2) (.cons (.lit (.int (0))) (.cons (.bin .Sub (.bi .len (.cons (.var 0) .nil)) (.lit (.int (1)))) .nil))))) .nil))) (.cons (.ret (.lit (.bl false))) .nil) .nil) (.cons (.ret (.bi .all (.cons (.lc [3, 4] (.tup [3, 4]) .zip (.cons (.var 1) (.cons (.sl (.var 1) (.some (.lit (.int (1)))) .none) .nil)) .none (.cmp .Lt (.var 3) (.var 4))) .nil))) .nil)))
def r_has_group : FnR := ⟨"has_group", 2, runF (phi [r_is_int]) 5 ir_has_group⟩
@[simp] theorem n_has_group : r_has_group.n = 2 := rfl
def ir_check_group : Ss := (.cons (.ife (.not (.call 0 (.cons (.var 0) (.cons (.var 1) .nil)))) (.cons (.raise 5) .nil) .nil) .nil)
def r_check_group : FnR := ⟨"check_group", 2, runF (phi [r_has_group]) 2 ir_check_group⟩
@[simp] theorem n_check_group : r_check_group.n = 2 := rfl
def ir_are_apart : Ss := (.cons (.for_ (.tup [2, 3]) .enum (.cons (.var 1) .nil) (.cons (.ife (.bi .any (.cons (.lc [4] (.name 4) .seq (.cons (.sl (.var 1) .none (.some (.var 2))) .nil) .none (.cmp .IsNot (.call 0 (.cons (.ix (.var 0) (.var 3)) (.cons (.ix (.var 0) (.var 4)) .nil))) (.lit .non))) .nil)) (.cons (.ret (.lit (.bl false))) .nil) .nil) .nil)) (.cons (.ret (.lit (.bl true))) .nil))
def r_are_apart : FnR := ⟨"are_apart", 2, runF (phi [r_find_overlap]) 5 ir_are_apart⟩
@[simp] theorem n_are_apart : r_are_apart.n = 2 := rfl
def ir_can_show : Ss := (.cons (.expr (.call 0 (.cons (.var 0) .nil))) (.cons (.expr (.call 1 (.cons (.var 0) (.cons (.var 1) .nil)))) (.cons (.ret (.call 2 (.cons (.var 0) (.cons (.var 1) .nil)))) .nil)))
def r_can_show : FnR := ⟨"can_show", 2, runF (phi [r_check_windows, r_check_group, r_are_apart]) 2 ir_can_show⟩
@[simp] theorem n_can_show : r_can_show.n = 2 := rfl
def ir_find_shown : Ss := (.cons (.asg (.name 1) (.lc [2] (.name 2) .seq (.cons (.call 0 (.cons (.bi .lrange (.cons (.bi .len (.cons (.var 0) .nil)) .nil)) .nil)) .nil) (.some (.call 1 (.cons (.var 0) (.cons (.var 2) .nil)))) (.var 2))) (.cons (.ret (.bi .sorted (.cons (.lc [2] (.name 2) .seq (.cons (.var 1) .nil) (.some (.cmp .Eq (.bi .len (.cons (.var 2) .nil)) (.bi .len (.cons (.ix (.var 1) (.neg (.lit (.int (1))))) .nil)))) (.var 2)) .nil))) .nil))
def r_find_shown : FnR := ⟨"find_shown", 1, runF (phi [r_all_groups, r_are_apart]) 3 ir_find_shown⟩
@[simp] theorem n_find_shown : r_find_shown.n = 1 := rfl
def ir_most_shown : Ss := (.cons (.expr (.call 0 (.cons (.var 0) .nil))) (.cons (.asg (.name 1) (.call 1 (.cons (.var 0) .nil))) (.cons (.ret (.ife (.cmp .NotEq (.var 1) (.lst .nil)) (.bi .len (.cons (.ix (.var 1) (.lit (.int (0)))) .nil)) (.lit (.int (0))))) .nil)))
def r_most_shown : FnR := ⟨"most_shown", 1, runF (phi [r_check_windows, r_find_shown]) 2 ir_most_shown⟩
@[simp] theorem n_most_shown : r_most_shown.n = 1 := rfl
def ir_shown_groups : Ss := (.cons (.expr (.call 0 (.cons (.var 0) .nil))) (.cons (.ret (.call 1 (.cons (.var 0) .nil))) .nil))
def r_shown_groups : FnR := ⟨"shown_groups", 1, runF (phi [r_check_windows, r_find_shown]) 1 ir_shown_groups⟩
@[simp] theorem n_shown_groups : r_shown_groups.n = 1 := rfl
def ir_most_hidden : Ss := (.cons (.expr (.call 0 (.cons (.var 0) .nil))) (.cons (.asg (.name 1) (.bi .lrange (.cons (.bi .len (.cons (.var 0) .nil)) .nil))) (.cons (.for_ (.name 2) .seq (.cons (.rev (.call 1 (.cons (.var 1) .nil))) .nil) (.cons (.asg (.name 3) (.lc [4] (.name 4) .seq (.cons (.var 1) .nil) (.some (.cmp .NotIn (.var 4) (.var 2))) (.var 4))) (.cons (.ife (.bi .all (.cons (.lc [4] (.name 4) .seq (.cons (.var 2) .nil) .none (.call 2 (.cons (.var 0) (.cons (.var 3) (.cons (.var 4) .nil))))) .nil)) (.cons (.ret (.bi .len (.cons (.var 2) .nil))) .nil) .nil) .nil))) (.cons (.ret (.lit (.int (0)))) .nil))))
def r_most_hidden : FnR := ⟨"most_hidden", 1, runF (phi [r_check_windows, r_all_groups, r_do_cover]) 5 ir_most_hidden⟩
@[simp] theorem n_most_hidden : r_most_hidden.n = 1 := rfl
def ir_find_raised : Ss := (.cons (.ret (.bin .Add (.bi .tuple (.cons (.lc [2] (.name 2) .seq (.cons (.var 0) .nil) (.some (.cmp .NotEq (.var 2) (.var 1))) (.var 2)) .nil)) (.tup (.cons (.var 1) .nil)))) .nil)
def r_find_raised : FnR := ⟨"find_raised", 2, runF (phi []) 3 ir_find_raised⟩
@[simp] theorem n_find_raised : r_find_raised.n = 2 := rfl
def ir_raised : Ss := (.cons (.expr (.call 0 (.cons (.var 0) (.cons (.var 1) (.cons (.var 2) .nil))))) (.cons (.ret (.call 1 (.cons (.var 1) (.cons (.var 2) .nil)))) .nil))
def r_raised : FnR := ⟨"raised", 3, runF (phi [r_check_three, r_find_raised]) 3 ir_raised⟩
@[simp] theorem n_raised : r_raised.n = 3 := rfl
def ir_changes_look : Ss := (.cons (.expr (.call 0 (.cons (.var 0) (.cons (.var 1) (.cons (.var 2) .nil))))) (.cons (.ret (.not (.call 1 (.cons (.var 0) (.cons (.var 1) (.cons (.var 2) .nil)))))) .nil))
def r_changes_look : FnR := ⟨"changes_look", 3, runF (phi [r_check_three, r_whole_in]) 3 ir_changes_look⟩
@[simp] theorem n_changes_look : r_changes_look.n = 3 := rfl
def ir_find_raises : Ss := (.cons (.par [false, false] [2, 3] (.cons (.lit (.int (0))) (.cons (.lit (.int (0))) .nil))) (.cons (.whl 4000 (.and (.cons (.cmp .Lt (.var 2) (.bi .len (.cons (.var 1) .nil))) (.cons (.cmp .In (.ix (.var 1) (.var 2)) (.sl (.var 0) (.some (.var 3)) .none)) .nil))) (.cons (.asg (.name 3) (.bin .Add (.mt .index (.var 0) (.cons (.ix (.var 1) (.var 2)) .nil)) (.lit (.int (1))))) (.cons (.asg (.name 2) (.bin .Add (.var 2) (.lit (.int (1))))) .nil))) (.cons (.ret (.bi .list (.cons (.sl (.var 1) (.some (.var 2)) .none) .nil))) .nil)))
def r_find_raises : FnR := ⟨"find_raises", 2, runF (phi []) 4 ir_find_raises⟩
@[simp] theorem n_find_raises : r_find_raises.n = 2 := rfl
def ir_fewest_raises : Ss := (.cons (.expr (.call 0 (.cons (.var 0) (.cons (.var 1) (.cons (.var 2) .nil))))) (.cons (.ret (.bi .len (.cons (.call 1 (.cons (.var 1) (.cons (.var 2) .nil))) .nil))) .nil))
def r_fewest_raises : FnR := ⟨"fewest_raises", 3, runF (phi [r_check_two, r_find_raises]) 3 ir_fewest_raises⟩
@[simp] theorem n_fewest_raises : r_fewest_raises.n = 3 := rfl
def ir_raises_to : Ss := (.cons (.expr (.call 0 (.cons (.var 0) (.cons (.var 1) (.cons (.var 2) .nil))))) (.cons (.ret (.call 1 (.cons (.var 1) (.cons (.var 2) .nil)))) .nil))
def r_raises_to : FnR := ⟨"raises_to", 3, runF (phi [r_check_two, r_find_raises]) 3 ir_raises_to⟩
@[simp] theorem n_raises_to : r_raises_to.n = 3 := rfl
def ir_fewest_to_look : Ss := (.cons (.expr (.call 0 (.cons (.var 0) (.cons (.var 1) (.cons (.var 2) .nil))))) (.cons (.ret (.bi .min (.cons (.lc [3] (.name 3) .seq (.cons (.call 2 (.cons (.var 0) (.cons (.var 2) .nil))) .nil) .none (.bi .len (.cons (.call 1 (.cons (.var 1) (.cons (.var 3) .nil))) .nil))) .nil))) .nil))
def r_fewest_to_look : FnR := ⟨"fewest_to_look", 3, runF (phi [r_check_two, r_find_raises, r_find_alike]) 4 ir_fewest_to_look⟩
@[simp] theorem n_fewest_to_look : r_fewest_to_look.n = 3 := rfl
def ir_fewest_to_show : Ss := (.cons (.expr (.call 0 (.cons (.var 0) (.cons (.var 1) .nil)))) (.cons (.expr (.call 1 (.cons (.var 0) (.cons (.var 2) .nil)))) (.cons (.ife (.not (.call 2 (.cons (.var 0) (.cons (.var 2) .nil)))) (.cons (.ret (.lit .non)) .nil) .nil) (.cons (.ret (.bi .len (.cons (.lc [3] (.name 3) .seq (.cons (.var 2) .nil) (.some (.not (.call 3 (.cons (.var 0) (.cons (.var 1) (.cons (.var 3) .nil)))))) (.var 3)) .nil))) .nil))))
def r_fewest_to_show : FnR := ⟨"fewest_to_show", 3, runF (phi [r_check_both, r_check_group, r_are_apart, r_whole_in]) 4 ir_fewest_to_show⟩
@[simp] theorem n_fewest_to_show : r_fewest_to_show.n = 3 := rfl
def ir_is_report : Ss := (.cons (.ife (.or (.cons (.not (.bi .isinst (.cons (.var 1) (.cons (.lit (.ty "tuple")) .nil)))) (.cons (.cmp .NotEq (.bi .len (.cons (.var 1) .nil)) (.lit (.int (3)))) (.cons (.not (.call 1 (.cons (.ix (.var 1) (.lit (.int (2)))) (.cons (.lit (.int (0))) (.cons (.bin .Sub (.bi .len (.cons (.var 0) .nil)) (.lit (.int (1)))) .nil))))) .nil)))) (.cons (.ret (.lit (.bl false))) .nil) .nil) (.cons (.ife (.or (.cons (.not (.call 1 (.cons (.ix (.var 1) (.lit (.int (0)))) (.cons (.lit (.int (0))) (.cons (.bin .Sub (.lit (.int (12))) (.lit (.int (1)))) .nil))))) (.cons (.not (.call 1 (.cons (.ix (.var 1) (.lit (.int (1)))) (.cons (.lit (.int (0))) (.cons (.bin .Sub (.lit (.int (12))) (.lit (.int (1)))) .nil))))) .nil))) (.cons (.ret (.lit (.bl false))) .nil) .nil) (.cons (.ret (.call 0 (.cons (.ix (.var 0) (.ix (.var 1) (.lit (.int (2))))) (.cons (.sl (.var 1) .none (.some (.lit (.int (2))))) .nil)))) .nil)))
def r_is_report : FnR := ⟨"is_report", 2, runF (phi [r_covers, r_is_int]) 2 ir_is_report⟩
@[simp] theorem n_is_report : r_is_report.n = 2 := rfl
def ir_have_reports : Ss := (.cons (.ife (.or (.cons (.not (.bi .isinst (.cons (.var 1) (.cons (.lit (.ty "tuple")) .nil)))) (.cons (.cmp .Gt (.bi .len (.cons (.var 1) .nil)) (.lit (.int (8)))) .nil))) (.cons (.ret (.lit (.bl false))) .nil) .nil) (.cons (.ret (.bi .all (.cons (.lc [2] (.name 2) .seq (.cons (.var 1) .nil) .none (.call 0 (.cons (.var 0) (.cons (.var 2) .nil)))) .nil))) .nil))
def r_have_reports : FnR := ⟨"have_reports", 2, runF (phi [r_is_report]) 3 ir_have_reports⟩
@[simp] theorem n_have_reports : r_have_reports.n = 2 := rfl
def ir_are_reports : Ss := (.cons (.expr (.call 0 (.cons (.var 0) .nil))) (.cons (.ret (.call 1 (.cons (.var 0) (.cons (.var 1) .nil)))) .nil))
def r_are_reports : FnR := ⟨"are_reports", 2, runF (phi [r_check_windows, r_have_reports]) 2 ir_are_reports⟩
@[simp] theorem n_are_reports : r_are_reports.n = 2 := rfl
def ir_check_reports : Ss := (.cons (.ife (.not (.call 0 (.cons (.var 0) (.cons (.var 1) .nil)))) (.cons (.raise 7) .nil) .nil) .nil)
def r_check_reports : FnR := ⟨"check_reports", 2, runF (phi [r_have_reports]) 2 ir_check_reports⟩
@[simp] theorem n_check_reports : r_check_reports.n = 2 := rfl
def ir_are_right : Ss := (.cons (.ret (.bi .all (.cons (.lc [3, 4, 5] (.tup [3, 4, 5]) .seq (.cons (.var 2) .nil) .none (.cmp .Eq (.call 0 (.cons (.var 1) (.cons (.call 1 (.cons (.var 0) (.cons (.tup (.cons (.var 3) (.cons (.var 4) .nil))) .nil))) .nil))) (.var 5))) .nil))) .nil)
def r_are_right : FnR := ⟨"are_right", 3, runF (phi [r_top_of, r_region_at]) 6 ir_are_right⟩
@[simp] theorem n_are_right : r_are_right.n = 3 := rfl
def ir_explains : Ss := (.cons (.expr (.call 0 (.cons (.var 0) (.cons (.var 1) .nil)))) (.cons (.expr (.call 1 (.cons (.var 0) (.cons (.var 2) .nil)))) (.cons (.ret (.call 2 (.cons (.var 0) (.cons (.var 1) (.cons (.var 2) .nil))))) .nil)))
def r_explains : FnR := ⟨"explains", 3, runF (phi [r_check_both, r_check_reports, r_are_right]) 3 ir_explains⟩
@[simp] theorem n_explains : r_explains.n = 3 := rfl
def ir_check_pair : Ss := (.cons (.expr (.call 0 (.cons (.var 0) .nil))) (.cons (.expr (.call 1 (.cons (.var 0) (.cons (.var 1) .nil)))) .nil))
def r_check_pair : FnR := ⟨"check_pair", 2, runF (phi [r_check_windows, r_check_reports]) 2 ir_check_pair⟩
@[simp] theorem n_check_pair : r_check_pair.n = 2 := rfl
def ir_find_explaining : Ss := (.cons (.ret (.lc [2] (.name 2) .seq (.cons (.call 0 (.cons (.bi .len (.cons (.var 0) .nil)) .nil)) .nil) (.some (.call 1 (.cons (.var 0) (.cons (.var 2) (.cons (.var 1) .nil))))) (.var 2))) .nil)
def r_find_explaining : FnR := ⟨"find_explaining", 2, runF (phi [r_all_orders, r_are_right]) 3 ir_find_explaining⟩
@[simp] theorem n_find_explaining : r_find_explaining.n = 2 := rfl
def ir_explaining : Ss := (.cons (.expr (.call 0 (.cons (.var 0) (.cons (.var 1) .nil)))) (.cons (.asg (.name 2) (.call 1 (.cons (.var 0) (.cons (.var 1) .nil)))) (.cons (.ret (.ife (.cmp .NotEq (.var 2) (.lst .nil)) (.ix (.var 2) (.lit (.int (0)))) (.lit .non))) .nil)))
def r_explaining : FnR := ⟨"explaining", 2, runF (phi [r_check_pair, r_find_explaining]) 3 ir_explaining⟩
@[simp] theorem n_explaining : r_explaining.n = 2 := rfl
def ir_count_explaining : Ss := (.cons (.expr (.call 0 (.cons (.var 0) (.cons (.var 1) .nil)))) (.cons (.ret (.bi .len (.cons (.call 1 (.cons (.var 0) (.cons (.var 1) .nil))) .nil))) .nil))
def r_count_explaining : FnR := ⟨"count_explaining", 2, runF (phi [r_check_pair, r_find_explaining]) 2 ir_count_explaining⟩
@[simp] theorem n_count_explaining : r_count_explaining.n = 2 := rfl
def ir_find_above : Ss := (.cons (.mk 2 (.dnew true)) (.cons (.for_ (.tup [3, 4, 5]) .seq (.cons (.var 1) .nil) (.cons (.for_ (.name 6) .seq (.cons (.call 0 (.cons (.var 0) (.cons (.tup (.cons (.var 3) (.cons (.var 4) .nil))) .nil))) .nil) (.cons (.ife (.cmp .NotEq (.var 6) (.var 5)) (.cons (.put 2 (.tup (.cons (.var 5) (.cons (.var 6) .nil))) (.lit (.bl true))) .nil) .nil) .nil)) .nil)) (.cons (.frz 2) (.cons (.ret (.bi .sorted (.cons (.var 2) .nil))) .nil))))
def r_find_above : FnR := ⟨"find_above", 2, runF (phi [r_region_at]) 7 ir_find_above⟩
@[simp] theorem n_find_above : r_find_above.n = 2 := rfl
def ir_needed_above : Ss := (.cons (.expr (.call 0 (.cons (.var 0) (.cons (.var 1) .nil)))) (.cons (.ret (.call 1 (.cons (.var 0) (.cons (.var 1) .nil)))) .nil))
def r_needed_above : FnR := ⟨"needed_above", 2, runF (phi [r_check_pair, r_find_above]) 2 ir_needed_above⟩
@[simp] theorem n_needed_above : r_needed_above.n = 2 := rfl
def ir_circle : Ss := (.cons (.expr (.call 0 (.cons (.var 0) (.cons (.var 1) .nil)))) (.cons (.asg (.name 2) (.call 1 (.cons (.var 0) (.cons (.var 1) .nil)))) (.cons (.asg (.name 3) (.lc [4] (.name 4) .rng1 (.cons (.bi .len (.cons (.var 0) .nil)) .nil) .none (.tup (.cons (.var 4) .nil)))) (.cons (.for_ (.name 5) .rng1 (.cons (.bi .len (.cons (.var 0) .nil)) .nil) (.cons (.asg (.name 6) (.lc [7] (.name 7) .seq (.cons (.var 3) .nil) (.some (.cmp .In (.tup (.cons (.ix (.var 7) (.neg (.lit (.int (1))))) (.cons (.ix (.var 7) (.lit (.int (0)))) .nil))) (.var 2))) (.var 7))) (.cons (.ife (.cmp .NotEq (.var 6) (.lst .nil)) (.cons (.ret (.ix (.var 6) (.lit (.int (0))))) .nil) .nil) (.cons (.asg (.name 3) (.lc2 [7, 8, 9] (.name 7) .seq (.cons (.var 3) .nil) .none [8, 9] (.tup [8, 9]) .seq (.cons (.var 2) .nil) (.some (.and (.cons (.cmp .Eq (.var 8) (.ix (.var 7) (.neg (.lit (.int (1)))))) (.cons (.cmp .NotIn (.var 9) (.var 7)) .nil)))) (.bin .Add (.var 7) (.tup (.cons (.var 9) .nil))))) .nil)))) (.cons (.ret (.lit .non)) .nil)))))
def r_circle : FnR := ⟨"circle", 2, runF (phi [r_check_pair, r_find_above]) 10 ir_circle⟩
@[simp] theorem n_circle : r_circle.n = 2 := rfl
def ir_shifted : Ss := (.cons (.ret (.tup (.cons (.bin .Add (.ix (.var 0) (.lit (.int (0)))) (.ix (.var 1) (.lit (.int (0))))) (.cons (.bin .Add (.ix (.var 0) (.lit (.int (1)))) (.ix (.var 1) (.lit (.int (1))))) (.cons (.bin .Add (.ix (.var 0) (.lit (.int (2)))) (.ix (.var 1) (.lit (.int (0))))) (.cons (.bin .Add (.ix (.var 0) (.lit (.int (3)))) (.ix (.var 1) (.lit (.int (1))))) .nil)))))) .nil)
def r_shifted : FnR := ⟨"shifted", 2, runF (phi []) 2 ir_shifted⟩
@[simp] theorem n_shifted : r_shifted.n = 2 := rfl
def ir_has_move : Ss := (.cons (.ife (.or (.cons (.not (.bi .isinst (.cons (.var 1) (.cons (.lit (.ty "tuple")) .nil)))) (.cons (.cmp .NotEq (.bi .len (.cons (.var 1) .nil)) (.lit (.int (2)))) .nil))) (.cons (.ret (.lit (.bl false))) .nil) .nil) (.cons (.ife (.not (.bi .all (.cons (.lc [2] (.name 2) .seq (.cons (.var 1) .nil) .none (.call 2 (.cons (.var 2) (.cons (.bin .Sub (.lit (.int (0))) (.lit (.int (12)))) (.cons (.lit (.int (12))) .nil))))) .nil))) (.cons (.ret (.lit (.bl false))) .nil) .nil) (.cons (.ret (.call 0 (.cons (.call 1 (.cons (.var 0) (.cons (.var 1) .nil))) .nil))) .nil)))
def r_has_move : FnR := ⟨"has_move", 2, runF (phi [r_is_window, r_shifted, r_is_int]) 3 ir_has_move⟩
@[simp] theorem n_has_move : r_has_move.n = 2 := rfl
def ir_is_move : Ss := (.cons (.expr (.call 0 (.cons (.var 0) .nil))) (.cons (.expr (.call 1 (.cons (.var 0) (.cons (.var 1) .nil)))) (.cons (.ret (.call 2 (.cons (.ix (.var 0) (.var 1)) (.cons (.var 2) .nil)))) .nil)))
def r_is_move : FnR := ⟨"is_move", 3, runF (phi [r_check_windows, r_check_number, r_has_move]) 3 ir_is_move⟩
@[simp] theorem n_is_move : r_is_move.n = 3 := rfl
def ir_after_move : Ss := (.cons (.ret (.bin .Add (.bin .Add (.sl (.var 0) .none (.some (.var 1))) (.tup (.cons (.call 0 (.cons (.ix (.var 0) (.var 1)) (.cons (.var 2) .nil))) .nil))) (.sl (.var 0) (.some (.bin .Add (.var 1) (.lit (.int (1))))) .none))) .nil)
def r_after_move : FnR := ⟨"after_move", 3, runF (phi [r_shifted]) 3 ir_after_move⟩
@[simp] theorem n_after_move : r_after_move.n = 3 := rfl
def ir_check_move : Ss := (.cons (.ife (.not (.call 0 (.cons (.var 0) (.cons (.var 1) .nil)))) (.cons (.raise 6) .nil) .nil) .nil)
def r_check_move : FnR := ⟨"check_move", 2, runF (phi [r_has_move]) 2 ir_check_move⟩
@[simp] theorem n_check_move : r_check_move.n = 2 := rfl
def ir_moved : Ss := (.cons (.expr (.call 0 (.cons (.var 0) .nil))) (.cons (.expr (.call 1 (.cons (.var 0) (.cons (.var 1) .nil)))) (.cons (.expr (.call 2 (.cons (.ix (.var 0) (.var 1)) (.cons (.var 2) .nil)))) (.cons (.ret (.call 3 (.cons (.var 0) (.cons (.var 1) (.cons (.var 2) .nil))))) .nil))))
def r_moved : FnR := ⟨"moved", 3, runF (phi [r_check_windows, r_check_number, r_check_move, r_after_move]) 3 ir_moved⟩
@[simp] theorem n_moved : r_moved.n = 3 := rfl
def ir_above_of : Ss := (.cons (.ret (.sl (.var 0) (.some (.bin .Add (.mt .index (.var 0) (.cons (.var 1) .nil)) (.lit (.int (1))))) .none)) .nil)
def r_above_of : FnR := ⟨"above_of", 2, runF (phi []) 2 ir_above_of⟩
@[simp] theorem n_above_of : r_above_of.n = 2 := rfl
def ir_find_whole : Ss := (.cons (.par [false, false] [3, 4] (.cons (.ix (.var 0) (.var 2)) (.cons (.lc [5] (.name 5) .seq (.cons (.call 1 (.cons (.var 1) (.cons (.var 2) .nil))) .nil) .none (.ix (.var 0) (.var 5))) .nil))) (.cons (.mk 6 (.lst .nil)) (.cons (.for_ (.name 7) .rng2 (.cons (.bin .Sub (.lit (.int (0))) (.ix (.var 3) (.lit (.int (0))))) (.cons (.bin .Add (.bin .Sub (.lit (.int (12))) (.ix (.var 3) (.lit (.int (2))))) (.lit (.int (1)))) .nil)) (.cons (.for_ (.name 8) .rng2 (.cons (.bin .Sub (.lit (.int (0))) (.ix (.var 3) (.lit (.int (1))))) (.cons (.bin .Add (.bin .Sub (.lit (.int (12))) (.ix (.var 3) (.lit (.int (3))))) (.lit (.int (1)))) .nil)) (.cons (.asg (.name 9) (.call 0 (.cons (.var 3) (.cons (.tup (.cons (.var 7) (.cons (.var 8) .nil))) .nil)))) (.cons (.ife (.not (.bi .any (.cons (.lc [5] (.name 5) .seq (.cons (.var 4) .nil) .none (.cmp .IsNot (.call 2 (.cons (.var 9) (.cons (.var 5) .nil))) (.lit .non))) .nil))) (.cons (.app 6 (.tup (.cons (.var 7) (.cons (.var 8) .nil)))) .nil) .nil) .nil))) .nil)) (.cons (.frz 6) (.cons (.ret (.var 6)) .nil)))))
def r_find_whole : FnR := ⟨"find_whole", 3, runF (phi [r_shifted, r_above_of, r_find_overlap]) 10 ir_find_whole⟩
@[simp] theorem n_find_whole : r_find_whole.n = 3 := rfl
def ir_whole_moves : Ss := (.cons (.expr (.call 0 (.cons (.var 0) (.cons (.var 1) (.cons (.var 2) .nil))))) (.cons (.ret (.call 1 (.cons (.var 0) (.cons (.var 1) (.cons (.var 2) .nil))))) .nil))
def r_whole_moves : FnR := ⟨"whole_moves", 3, runF (phi [r_check_three, r_find_whole]) 3 ir_whole_moves⟩
@[simp] theorem n_whole_moves : r_whole_moves.n = 3 := rfl
def ir_nearest_whole : Ss := (.cons (.expr (.call 0 (.cons (.var 0) (.cons (.var 1) (.cons (.var 2) .nil))))) (.cons (.asg (.name 3) (.lc [4] (.name 4) .seq (.cons (.call 1 (.cons (.var 0) (.cons (.var 1) (.cons (.var 2) .nil)))) .nil) .none (.tup (.cons (.bin .Add (.bi .abs (.cons (.ix (.var 4) (.lit (.int (0)))) .nil)) (.bi .abs (.cons (.ix (.var 4) (.lit (.int (1)))) .nil))) (.cons (.var 4) .nil))))) (.cons (.ret (.ife (.cmp .NotEq (.var 3) (.lst .nil)) (.ix (.bi .min (.cons (.var 3) .nil)) (.lit (.int (1)))) (.lit .non))) .nil)))
def r_nearest_whole : FnR := ⟨"nearest_whole", 3, runF (phi [r_check_three, r_find_whole]) 5 ir_nearest_whole⟩
@[simp] theorem n_nearest_whole : r_nearest_whole.n = 3 := rfl
def ir_changed_by : Ss := (.cons (.expr (.call 0 (.cons (.var 0) (.cons (.var 1) (.cons (.var 2) .nil))))) (.cons (.expr (.call 1 (.cons (.ix (.var 0) (.var 2)) (.cons (.var 3) .nil)))) (.cons (.asg (.name 4) (.call 2 (.cons (.var 0) (.cons (.var 2) (.cons (.var 3) .nil))))) (.cons (.asg (.name 5) (.lc [6] (.name 6) .rng1 (.cons (.bi .len (.cons (.var 0) .nil)) .nil) (.some (.cmp .NotEq (.var 6) (.var 2))) (.var 6))) (.cons (.ret (.lc [6] (.name 6) .seq (.cons (.var 5) .nil) (.some (.cmp .NotEq (.call 3 (.cons (.var 0) (.cons (.var 1) (.cons (.var 6) .nil)))) (.call 3 (.cons (.var 4) (.cons (.var 1) (.cons (.var 6) .nil)))))) (.var 6))) .nil)))))
def r_changed_by : FnR := ⟨"changed_by", 4, runF (phi [r_check_three, r_check_move, r_after_move, r_find_seen]) 7 ir_changed_by⟩
@[simp] theorem n_changed_by : r_changed_by.n = 4 := rfl
def ir__law_drawn_2 : Ss := (.cons (.asg (.name 3) (.bin .Mult (.lit (.int (7))) (.var 1))) (.cons (.ife (.cmp .NotEq (.var 0) (.lst .nil)) (.cons (.asg (.name 3) (.ix (.var 0) (.bin .Mod (.var 1) (.bi .len (.cons (.var 0) .nil))))) (.cons (.asg (.name 4) (.bin .FloorDiv (.var 1) (.bi .len (.cons (.var 0) .nil)))) (.cons (.ife (.and (.cons (.cmp .GtE (.var 3) (.bin .Pow (.lit (.int (10))) (.lit (.int (18))))) (.cons (.cmp .Lt (.var 4) (.lit (.int (60)))) .nil))) (.cons (.asg (.name 5) (.bin .FloorDiv (.var 3) (.bin .Pow (.lit (.int (10))) (.lit (.int (18)))))) (.cons (.whl 4000 (.and (.cons (.cmp .Gt (.var 5) (.lit (.int (0)))) (.cons (.cmp .Gt (.var 4) (.lit (.int (0)))) .nil))) (.cons (.asg (.name 5) (.bin .FloorDiv (.var 5) (.lit (.int (1000000))))) (.cons (.asg (.name 4) (.bin .Sub (.var 4) (.lit (.int (1))))) .nil))) (.cons (.ife (.cmp .Gt (.var 5) (.lit (.int (0)))) (.cons (.ret (.bin .Mod (.bin .Mod (.var 5) (.lit (.int (1000000)))) (.var 2))) .nil) .nil) .nil))) .nil) (.cons (.asg (.name 3) (.bin .Add (.var 3) (.bin .Mult (.lit (.int (6553))) (.bin .FloorDiv (.var 1) (.bi .len (.cons (.var 0) .nil)))))) .nil)))) .nil) (.cons (.asg (.name 3) (.bin .Mod (.bin .Add (.bin .Mult (.bin .Mod (.var 3) (.lit (.int (2147483563)))) (.lit (.int (69069)))) (.bin .Mult (.lit (.int (104723))) (.bin .Add (.var 1) (.lit (.int (1)))))) (.lit (.int (2147483563))))) (.cons (.asg (.name 3) (.bin .Mod (.bin .Add (.bin .Mult (.var 3) (.var 3)) (.bin .FloorDiv (.var 3) (.lit (.int (3))))) (.lit (.int (2147483399))))) (.cons (.ret (.bin .Mod (.bin .FloorDiv (.bin .Mod (.bin .Add (.bin .Mult (.var 3) (.var 3)) (.bin .FloorDiv (.var 3) (.lit (.int (7))))) (.lit (.int (2147483647)))) (.lit (.int (11)))) (.var 2))) .nil)))))
def r__law_drawn_2 : FnR := ⟨"_law_drawn", 3, runF (phi []) 6 ir__law_drawn_2⟩
@[simp] theorem n__law_drawn_2 : r__law_drawn_2.n = 3 := rfl
def ir__law_window : Ss := (.cons (.par [false, false] [2, 3] (.cons (.call 0 (.cons (.var 0) (.cons (.var 1) (.cons (.lit (.int (9))) .nil)))) (.cons (.call 0 (.cons (.var 0) (.cons (.bin .Add (.var 1) (.lit (.int (1)))) (.cons (.lit (.int (9))) .nil)))) .nil))) (.cons (.ret (.tup (.cons (.var 2) (.cons (.var 3) (.cons (.bin .Add (.bin .Add (.var 2) (.lit (.int (1)))) (.call 0 (.cons (.var 0) (.cons (.bin .Add (.var 1) (.lit (.int (2)))) (.cons (.lit (.int (4))) .nil))))) (.cons (.bin .Add (.bin .Add (.var 3) (.lit (.int (1)))) (.call 0 (.cons (.var 0) (.cons (.bin .Add (.var 1) (.lit (.int (3)))) (.cons (.lit (.int (4))) .nil))))) .nil)))))) .nil))
def r__law_window : FnR := ⟨"_law_window", 2, runF (phi [r__law_drawn_2]) 4 ir__law_window⟩
@[simp] theorem n__law_window : r__law_window.n = 2 := rfl
def ir__law_windows : Ss := (.cons (.mk 3 (.lst .nil)) (.cons (.for_ (.name 4) .rng1 (.cons (.call 0 (.cons (.var 0) (.cons (.var 1) (.cons (.bin .Add (.var 2) (.lit (.int (1)))) .nil)))) .nil) (.cons (.asg (.tup [5, 6, 7, 8]) (.call 1 (.cons (.var 0) (.cons (.bin .Add (.bin .Add (.var 1) (.lit (.int (1)))) (.bin .Mult (.lit (.int (4))) (.var 4))) .nil)))) (.cons (.asg (.name 9) (.bin .Add (.lit (.int (1))) (.call 0 (.cons (.var 0) (.cons (.bin .Add (.var 1) (.lit (.int (30)))) (.cons (.lit (.int (3))) .nil)))))) (.cons (.par [false, false] [10, 11] (.cons (.bin .FloorDiv (.var 5) (.var 9)) (.cons (.bin .FloorDiv (.var 6) (.var 9)) .nil))) (.cons (.app 3 (.tup (.cons (.var 10) (.cons (.var 11) (.cons (.bin .Sub (.bin .Add (.var 10) (.var 7)) (.var 5)) (.cons (.bin .Sub (.bin .Add (.var 11) (.var 8)) (.var 6)) .nil)))))) .nil))))) (.cons (.frz 3) (.cons (.ret (.bi .tuple (.cons (.var 3) .nil))) .nil))))
def r__law_windows : FnR := ⟨"_law_windows", 3, runF (phi [r__law_drawn_2, r__law_window]) 12 ir__law_windows⟩
@[simp] theorem n__law_windows : r__law_windows.n = 3 := rfl
def ir__law_order_2 : Ss := (.cons (.asg (.name 3) (.lst .nil)) (.cons (.for_ (.name 4) .rng1 (.cons (.var 2) .nil) (.cons (.asg (.name 5) (.call 0 (.cons (.var 0) (.cons (.bin .Add (.var 1) (.var 4)) (.cons (.bin .Add (.bi .len (.cons (.var 3) .nil)) (.lit (.int (1)))) .nil))))) (.cons (.asg (.name 3) (.bin .Add (.bin .Add (.sl (.var 3) .none (.some (.var 5))) (.lst (.cons (.var 4) .nil))) (.sl (.var 3) (.some (.var 5)) .none))) .nil))) (.cons (.ret (.bi .tuple (.cons (.var 3) .nil))) .nil)))
def r__law_order_2 : FnR := ⟨"_law_order", 3, runF (phi [r__law_drawn_2]) 6 ir__law_order_2⟩
@[simp] theorem n__law_order_2 : r__law_order_2.n = 3 := rfl
def ir__law_on : Ss := (.cons (.ret (.and (.cons (.chain .LtE .Lt (.ix (.var 0) (.lit (.int (0)))) (.var 1) (.ix (.var 0) (.lit (.int (2))))) (.cons (.chain .LtE .Lt (.ix (.var 0) (.lit (.int (1)))) (.var 2) (.ix (.var 0) (.lit (.int (3))))) .nil)))) .nil)
def r__law_on : FnR := ⟨"_law_on", 3, runF (phi []) 3 ir__law_on⟩
@[simp] theorem n__law_on : r__law_on.n = 3 := rfl
def ir__law_top_2 : Ss := (.cons (.asg (.name 4) (.lc [5] (.name 5) .seq (.cons (.var 1) .nil) (.some (.call 0 (.cons (.ix (.var 0) (.var 5)) (.cons (.var 2) (.cons (.var 3) .nil))))) (.var 5))) (.cons (.ret (.ife (.cmp .NotEq (.var 4) (.lst .nil)) (.ix (.var 4) (.neg (.lit (.int (1))))) (.lit .non))) .nil))
def r__law_top_2 : FnR := ⟨"_law_top", 4, runF (phi [r__law_on]) 6 ir__law_top_2⟩
@[simp] theorem n__law_top_2 : r__law_top_2.n = 4 := rfl
def ir__law_seen : Ss := (.cons (.asg (.tup [3, 4, 5, 6]) (.ix (.var 0) (.var 2))) (.cons (.asg (.name 7) (.lst .nil)) (.cons (.for_ (.name 8) .rng2 (.cons (.var 3) (.cons (.var 5) .nil)) (.cons (.asg (.name 7) (.bin .Add (.var 7) (.lc [9] (.name 9) .rng2 (.cons (.var 4) (.cons (.var 6) .nil)) (.some (.cmp .Eq (.call 0 (.cons (.var 0) (.cons (.var 1) (.cons (.var 8) (.cons (.var 9) .nil))))) (.var 2))) (.tup (.cons (.var 8) (.cons (.var 9) .nil)))))) .nil)) (.cons (.ret (.var 7)) .nil))))
def r__law_seen : FnR := ⟨"_law_seen", 3, runF (phi [r__law_top_2]) 10 ir__law_seen⟩
@[simp] theorem n__law_seen : r__law_seen.n = 3 := rfl
def ir__law_meet : Ss := (.cons (.ret (.and (.cons (.cmp .Lt (.ix (.var 0) (.lit (.int (0)))) (.ix (.var 1) (.lit (.int (2))))) (.cons (.cmp .Lt (.ix (.var 1) (.lit (.int (0)))) (.ix (.var 0) (.lit (.int (2))))) (.cons (.cmp .Lt (.ix (.var 0) (.lit (.int (1)))) (.ix (.var 1) (.lit (.int (3))))) (.cons (.cmp .Lt (.ix (.var 1) (.lit (.int (1)))) (.ix (.var 0) (.lit (.int (3))))) .nil)))))) .nil)
def r__law_meet : FnR := ⟨"_law_meet", 2, runF (phi []) 2 ir__law_meet⟩
@[simp] theorem n__law_meet : r__law_meet.n = 2 := rfl
def ir__law_badwindows : Ss := (.cons (.asg (.name 2) (.lst (.cons (.lit .non) (.cons (.lst .nil) (.cons (.lst (.cons (.tup (.cons (.lit (.int (0))) (.cons (.lit (.int (0))) (.cons (.lit (.int (1))) (.cons (.lit (.int (1))) .nil))))) .nil)) (.cons (.tup (.cons (.tup (.cons (.lit (.int (0))) (.cons (.lit (.int (0))) (.cons (.lit (.int (0))) (.cons (.lit (.int (1))) .nil))))) .nil)) (.cons (.tup (.cons (.tup (.cons (.lit (.int (0))) (.cons (.lit (.int (0))) (.cons (.lit (.int (13))) (.cons (.lit (.int (1))) .nil))))) .nil)) (.cons (.tup (.cons (.tup (.cons (.lit (.int (0))) (.cons (.lit (.int (1))) (.cons (.lit (.int (1))) (.cons (.lit (.int (1))) .nil))))) .nil)) .nil)))))))) (.cons (.asg (.name 2) (.bin .Add (.var 2) (.lst (.cons (.tup (.cons (.tup (.cons (.lit (.bl true)) (.cons (.lit (.int (0))) (.cons (.lit (.int (2))) (.cons (.lit (.int (2))) .nil))))) .nil)) (.cons (.tup (.cons (.tup (.cons (.lit (.int (0))) (.cons (.lit (.int (0))) (.cons (.lit (.int (1))) .nil)))) .nil)) .nil))))) (.cons (.ret (.ix (.bin .Add (.var 2) (.lst (.cons (.bin .Mult (.tup (.cons (.tup (.cons (.lit (.int (0))) (.cons (.lit (.int (0))) (.cons (.lit (.int (1))) (.cons (.lit (.int (1))) .nil))))) .nil)) (.lit (.int (7)))) (.cons (.tup (.cons (.lit (.int (0))) (.cons (.lit (.int (0))) (.cons (.lit (.int (1))) (.cons (.lit (.int (1))) .nil))))) (.cons (.tup (.cons (.tup (.cons (.neg (.lit (.int (1)))) (.cons (.lit (.int (0))) (.cons (.lit (.int (1))) (.cons (.lit (.int (1))) .nil))))) .nil)) .nil))))) (.call 0 (.cons (.var 0) (.cons (.var 1) (.cons (.lit (.int (11))) .nil)))))) .nil)))
def r__law_badwindows : FnR := ⟨"_law_badwindows", 2, runF (phi [r__law_drawn_2]) 3 ir__law_badwindows⟩
@[simp] theorem n__law_badwindows : r__law_badwindows.n = 2 := rfl
def ir__law_badorder : Ss := (.cons (.asg (.name 3) (.lst (.cons (.lit .non) (.cons (.bi .list (.cons (.var 2) .nil)) (.cons (.bin .Add (.var 2) (.tup (.cons (.bi .len (.cons (.var 2) .nil)) .nil))) (.cons (.bin .Add (.bin .Add (.var 2) (.sl (.var 2) .none (.some (.lit (.int (1)))))) (.tup (.cons (.lit (.int (0))) .nil))) .nil)))))) (.cons (.asg (.name 3) (.bin .Add (.var 3) (.lst (.cons (.bin .Add (.bi .tuple (.cons (.lc [4] (.name 4) .seq (.cons (.var 2) .nil) .none (.bin .Add (.lit (.int (1))) (.var 4))) .nil)) (.tup (.cons (.lit (.int (0))) (.cons (.lit (.int (0))) .nil)))) .nil)))) (.cons (.ret (.ix (.var 3) (.call 0 (.cons (.var 0) (.cons (.var 1) (.cons (.lit (.int (5))) .nil)))))) .nil)))
def r__law_badorder : FnR := ⟨"_law_badorder", 3, runF (phi [r__law_drawn_2]) 5 ir__law_badorder⟩
@[simp] theorem n__law_badorder : r__law_badorder.n = 3 := rfl
def ir__law_badnumber : Ss := (.cons (.ret (.ix (.lst (.cons (.lit .non) (.cons (.neg (.lit (.int (1)))) (.cons (.var 2) (.cons (.lit (.bl true)) (.cons (.lit (.str "0")) .nil)))))) (.call 0 (.cons (.var 0) (.cons (.var 1) (.cons (.lit (.int (5))) .nil)))))) .nil)
def r__law_badnumber : FnR := ⟨"_law_badnumber", 3, runF (phi [r__law_drawn_2]) 3 ir__law_badnumber⟩
@[simp] theorem n__law_badnumber : r__law_badnumber.n = 3 := rfl
def ir_is_size : Ss := (.cons (.ret (.and (.cons (.bi .isinst (.cons (.var 0) (.cons (.lit (.ty "tuple")) .nil))) (.cons (.cmp .Eq (.bi .len (.cons (.var 0) .nil)) (.lit (.int (2)))) (.cons (.bi .all (.cons (.lc [1] (.name 1) .seq (.cons (.var 0) .nil) .none (.call 0 (.cons (.var 1) (.cons (.lit (.int (1))) (.cons (.lit (.int (12))) .nil))))) .nil)) .nil))))) .nil)
def r_is_size : FnR := ⟨"is_size", 1, runF (phi [r_is_int]) 2 ir_is_size⟩
@[simp] theorem n_is_size : r_is_size.n = 1 := rfl
def ir_is_free : Ss := (.cons (.ret (.not (.bi .any (.cons (.lc [2] (.name 2) .seq (.cons (.var 0) .nil) .none (.cmp .IsNot (.call 0 (.cons (.var 2) (.cons (.var 1) .nil))) (.lit .non))) .nil)))) .nil)
def r_is_free : FnR := ⟨"is_free", 2, runF (phi [r_find_overlap]) 3 ir_is_free⟩
@[simp] theorem n_is_free : r_is_free.n = 2 := rfl
def ir_all_places : Ss := (.cons (.mk 1 (.lst .nil)) (.cons (.for_ (.name 2) .rng1 (.cons (.bin .Add (.bin .Sub (.lit (.int (12))) (.ix (.var 0) (.lit (.int (0))))) (.lit (.int (1)))) .nil) (.cons (.for_ (.name 3) .rng1 (.cons (.bin .Add (.bin .Sub (.lit (.int (12))) (.ix (.var 0) (.lit (.int (1))))) (.lit (.int (1)))) .nil) (.cons (.app 1 (.tup (.cons (.var 2) (.cons (.var 3) (.cons (.bin .Add (.var 2) (.ix (.var 0) (.lit (.int (0))))) (.cons (.bin .Add (.var 3) (.ix (.var 0) (.lit (.int (1))))) .nil)))))) .nil)) .nil)) (.cons (.frz 1) (.cons (.ret (.var 1)) .nil))))
def r_all_places : FnR := ⟨"all_places", 1, runF (phi []) 4 ir_all_places⟩
@[simp] theorem n_all_places : r_all_places.n = 1 := rfl
def ir_find_places : Ss := (.cons (.ret (.lc [2] (.name 2) .seq (.cons (.call 0 (.cons (.var 1) .nil)) .nil) (.some (.call 1 (.cons (.var 0) (.cons (.var 2) .nil)))) (.var 2))) .nil)
def r_find_places : FnR := ⟨"find_places", 2, runF (phi [r_all_places, r_is_free]) 3 ir_find_places⟩
@[simp] theorem n_find_places : r_find_places.n = 2 := rfl
def ir_places : Ss := (.cons (.expr (.call 0 (.cons (.var 0) .nil))) (.cons (.ife (.not (.call 2 (.cons (.var 1) .nil))) (.cons (.raise 8) .nil) .nil) (.cons (.ret (.call 1 (.cons (.var 0) (.cons (.var 1) .nil)))) .nil)))
def r_places : FnR := ⟨"places", 2, runF (phi [r_check_windows, r_find_places, r_is_size]) 2 ir_places⟩
@[simp] theorem n_places : r_places.n = 2 := rfl
def ir_check_sizes : Ss := (.cons (.expr (.call 0 (.cons (.var 0) .nil))) (.cons (.ife (.or (.cons (.not (.bi .isinst (.cons (.var 1) (.cons (.lit (.ty "list")) .nil)))) (.cons (.cmp .Gt (.bi .len (.cons (.var 1) .nil)) (.lit (.int (3)))) (.cons (.not (.bi .all (.cons (.lc [2] (.name 2) .seq (.cons (.var 1) .nil) .none (.call 1 (.cons (.var 2) .nil))) .nil))) .nil)))) (.cons (.raise 9) .nil) .nil) .nil))
def r_check_sizes : FnR := ⟨"check_sizes", 2, runF (phi [r_check_windows, r_is_size]) 3 ir_check_sizes⟩
@[simp] theorem n_check_sizes : r_check_sizes.n = 2 := rfl
def ir_are_places : Ss := (.cons (.expr (.call 0 (.cons (.var 0) (.cons (.var 1) .nil)))) (.cons (.ife (.or (.cons (.not (.bi .isinst (.cons (.var 2) (.cons (.lit (.ty "tuple")) .nil)))) (.cons (.cmp .NotEq (.bi .len (.cons (.var 2) .nil)) (.bi .len (.cons (.var 1) .nil))) .nil))) (.cons (.ret (.lit (.bl false))) .nil) .nil) (.cons (.ife (.not (.bi .all (.cons (.lc [3] (.name 3) .seq (.cons (.var 2) .nil) .none (.call 1 (.cons (.var 3) .nil))) .nil))) (.cons (.ret (.lit (.bl false))) .nil) .nil) (.cons (.for_ (.tup [4, 3]) .enum (.cons (.var 2) .nil) (.cons (.ife (.cmp .NotEq (.tup (.cons (.bin .Sub (.ix (.var 3) (.lit (.int (2)))) (.ix (.var 3) (.lit (.int (0))))) (.cons (.bin .Sub (.ix (.var 3) (.lit (.int (3)))) (.ix (.var 3) (.lit (.int (1))))) .nil))) (.ix (.var 1) (.var 4))) (.cons (.ret (.lit (.bl false))) .nil) .nil) (.cons (.ife (.or (.cons (.not (.call 2 (.cons (.var 0) (.cons (.var 3) .nil)))) (.cons (.not (.call 2 (.cons (.sl (.var 2) .none (.some (.var 4))) (.cons (.var 3) .nil)))) .nil))) (.cons (.ret (.lit (.bl false))) .nil) .nil) .nil))) (.cons (.ret (.lit (.bl true))) .nil)))))
def r_are_places : FnR := ⟨"are_places", 3, runF (phi [r_check_sizes, r_is_window, r_is_free]) 5 ir_are_places⟩
@[simp] theorem n_are_places : r_are_places.n = 3 := rfl
def ir_is_small : Ss := (.cons (.ife (.or (.cons (.not (.bi .isinst (.cons (.var 1) (.cons (.lit (.ty "tuple")) .nil)))) (.cons (.not (.bi .all (.cons (.lc [2] (.name 2) .seq (.cons (.var 1) .nil) .none (.call 0 (.cons (.var 2) (.cons (.lit (.int (0))) (.cons (.bin .Sub (.bi .len (.cons (.var 0) .nil)) (.lit (.int (1)))) .nil))))) .nil))) .nil))) (.cons (.ret (.lit (.bl false))) .nil) .nil) (.cons (.ret (.bi .all (.cons (.lc [3, 4] (.tup [3, 4]) .zip (.cons (.var 1) (.cons (.sl (.var 1) (.some (.lit (.int (1)))) .none) .nil)) .none (.cmp .Lt (.var 3) (.var 4))) .nil))) .nil))
def r_is_small : FnR := ⟨"is_small", 2, runF (phi [r_is_int]) 5 ir_is_small⟩
@[simp] theorem n_is_small : r_is_small.n = 2 := rfl
def ir_sizes_without : Ss := (.cons (.asg (.name 3) (.bi .tuple (.cons (.lc [4] (.name 4) .seq (.cons (.var 1) .nil) (.some (.cmp .NotIn (.var 4) (.var 2))) (.var 4)) .nil))) (.cons (.ret (.lc [4] (.name 4) .rng1 (.cons (.bi .len (.cons (.var 0) .nil)) .nil) .none (.ife (.cmp .In (.var 4) (.var 2)) (.lit (.int (0))) (.bi .len (.cons (.call 0 (.cons (.var 0) (.cons (.var 3) (.cons (.var 4) .nil)))) .nil))))) .nil))
def r_sizes_without : FnR := ⟨"sizes_without", 3, runF (phi [r_find_seen]) 5 ir_sizes_without⟩
@[simp] theorem n_sizes_without : r_sizes_without.n = 3 := rfl
def ir_seen_without : Ss := (.cons (.expr (.call 0 (.cons (.var 0) (.cons (.var 1) .nil)))) (.cons (.ife (.not (.call 2 (.cons (.var 0) (.cons (.var 2) .nil)))) (.cons (.raise 5) .nil) .nil) (.cons (.ret (.call 1 (.cons (.var 0) (.cons (.var 1) (.cons (.var 2) .nil))))) .nil)))
def r_seen_without : FnR := ⟨"seen_without", 3, runF (phi [r_check_both, r_sizes_without, r_is_small]) 3 ir_seen_without⟩
@[simp] theorem n_seen_without : r_seen_without.n = 3 := rfl
def ir_freed_by : Ss := (.cons (.expr (.call 0 (.cons (.var 0) (.cons (.var 1) (.cons (.var 2) .nil))))) (.cons (.par [false, false] [3, 4] (.cons (.call 1 (.cons (.var 0) (.cons (.var 1) (.cons (.tup .nil) .nil)))) (.cons (.call 1 (.cons (.var 0) (.cons (.var 1) (.cons (.tup (.cons (.var 2) .nil)) .nil)))) .nil))) (.cons (.ret (.lc [5] (.name 5) .rng1 (.cons (.bi .len (.cons (.var 0) .nil)) .nil) (.some (.cmp .Gt (.ix (.var 4) (.var 5)) (.ix (.var 3) (.var 5)))) (.var 5))) .nil)))
def r_freed_by : FnR := ⟨"freed_by", 3, runF (phi [r_check_three, r_sizes_without]) 6 ir_freed_by⟩
@[simp] theorem n_freed_by : r_freed_by.n = 3 := rfl
def ir_to_minimize : Ss := (.cons (.expr (.call 0 (.cons (.var 0) (.cons (.var 1) .nil)))) (.cons (.expr (.call 1 (.cons (.var 0) (.cons (.var 2) .nil)))) (.cons (.mk 3 (.dnew false)) (.cons (.for_ (.name 4) .seq (.cons (.var 2) .nil) (.cons (.for_ (.name 5) .seq (.cons (.call 2 (.cons (.var 1) (.cons (.var 4) .nil))) .nil) (.cons (.ife (.cmp .IsNot (.call 3 (.cons (.ix (.var 0) (.var 4)) (.cons (.ix (.var 0) (.var 5)) .nil))) (.lit .non)) (.cons (.put 3 (.var 5) (.lit (.bl true))) .nil) .nil) .nil)) .nil)) (.cons (.frz 3) (.cons (.ret (.ife (.bi .any (.cons (.lc [4] (.name 4) .seq (.cons (.var 2) .nil) .none (.cmp .In (.var 4) (.ovar 3))) .nil)) (.lit .non) (.bi .tuple (.cons (.bi .sorted (.cons (.var 3) .nil)) .nil)))) .nil))))))
def r_to_minimize : FnR := ⟨"to_minimize", 3, runF (phi [r_check_both, r_check_group, r_above_of, r_find_overlap]) 6 ir_to_minimize⟩
@[simp] theorem n_to_minimize : r_to_minimize.n = 3 := rfl
def ir__wall : Ss := (.cons (.whl 4000 (.lit (.bl true)) (.cons (.expr (.lit .non)) .nil)) .nil)
def r__wall : FnR := ⟨"_wall", 1, runF (phi []) 1 ir__wall⟩
@[simp] theorem n__wall : r__wall.n = 1 := rfl
def ir_painted : Ss := (.cons (.mk 2 (.dnew true)) (.cons (.for_ (.name 3) .seq (.cons (.var 1) .nil) (.cons (.for_ (.name 4) .seq (.cons (.call 0 (.cons (.ix (.var 0) (.var 3)) .nil)) .nil) (.cons (.put 2 (.var 4) (.var 3)) .nil)) .nil)) (.cons (.frz 2) (.cons (.ret (.var 2)) .nil))))
def r_painted : FnR := ⟨"painted", 2, runF (phi [r_cells_of]) 5 ir_painted⟩
@[simp] theorem n_painted : r_painted.n = 2 := rfl
def ir_naive_seen : Ss := (.cons (.expr (.call 0 (.cons (.var 0) (.cons (.var 1) (.cons (.var 2) .nil))))) (.cons (.asg (.name 3) (.call 1 (.cons (.var 0) (.cons (.var 1) .nil)))) (.cons (.ret (.bi .len (.cons (.lc [4] (.name 4) .keys (.cons (.var 3) .nil) (.some (.cmp .Eq (.ix (.var 3) (.var 4)) (.var 2))) (.var 4)) .nil))) .nil)))
def r_naive_seen : FnR := ⟨"naive_seen", 3, runF (phi [r_check_three, r_painted]) 5 ir_naive_seen⟩
@[simp] theorem n_naive_seen : r_naive_seen.n = 3 := rfl
def ir_naive_can_hide : Ss := (.cons (.expr (.call 0 (.cons (.var 0) .nil))) (.cons (.expr (.call 1 (.cons (.var 0) (.cons (.var 1) .nil)))) (.cons (.ife (.cmp .Gt (.bi .len (.cons (.var 0) .nil)) (.lit (.int (5)))) (.cons (.raise 12) .nil) .nil) (.cons (.ret (.bi .any (.cons (.lc [2] (.name 2) .seq (.cons (.call 3 (.cons (.bi .len (.cons (.var 0) .nil)) .nil)) .nil) .none (.call 2 (.cons (.var 0) (.cons (.var 2) (.cons (.var 1) .nil))))) .nil))) .nil))))
def r_naive_can_hide : FnR := ⟨"naive_can_hide", 2, runF (phi [r_check_windows, r_check_number, r_hidden_in, r_all_orders]) 3 ir_naive_can_hide⟩
@[simp] theorem n_naive_can_hide : r_naive_can_hide.n = 2 := rfl
end Pan

/-! Panestacks, part J: the evaluator's equations, for simp. -/
namespace Pan
open PySem L2
section
variable (Φ : Nat → List D → R D) (e : Env)
@[simp] theorem ev_var (i : Nat) : ev Φ (.var i) e = getV e i := rfl
@[simp] theorem ev_ovar (i : Nat) : ev Φ (.ovar i) e = getO e i := rfl
@[simp] theorem ev_lit (d : D) : ev Φ (.lit d) e = .ok d := rfl
@[simp] theorem ev_dnew (t : Bool) : ev Φ (.dnew t) e = .ok (.dic t []) := rfl
@[simp] theorem ev_bin (o : Operator) (a b : E) : ev Φ (.bin o a b) e = (do let x ← ev Φ a e; let y ← ev Φ b e; binS o x y) := rfl
@[simp] theorem ev_neg (a : E) : ev Φ (.neg a) e = (do let x ← ev Φ a e; let i ← asI x; .ok (.int (-i))) := rfl
@[simp] theorem ev_not (a : E) : ev Φ (.not a) e = (do let x ← ev Φ a e; let b ← asB x; .ok (.bl (!b))) := rfl
@[simp] theorem ev_and (es : Es) : ev Φ (.and es) e = evAnd Φ es e := rfl
@[simp] theorem ev_or (es : Es) : ev Φ (.or es) e = evOr Φ es e := rfl
@[simp] theorem ev_cmp (o : CmpOp) (a b : E) : ev Φ (.cmp o a b) e = (do let x ← ev Φ a e; let y ← ev Φ b e; let r ← cmpS o x y; .ok (.bl r)) := rfl
@[simp] theorem ev_chain (o p : CmpOp) (a b c : E) : ev Φ (.chain o p a b c) e = (do
    let x ← ev Φ a e
    let y ← ev Φ b e
    let r ← cmpS o x y
    if r then do let z ← ev Φ c e; let q ← cmpS p y z; .ok (.bl q) else .ok (.bl false)) := rfl
@[simp] theorem ev_ife (c a b : E) : ev Φ (.ife c a b) e = (do let x ← ev Φ c e; let t ← asB x; if t then ev Φ a e else ev Φ b e) := rfl
@[simp] theorem ev_tup (es : Es) : ev Φ (.tup es) e = (do let xs ← evs Φ es e; fitL xs .tup) := rfl
@[simp] theorem ev_lst (es : Es) : ev Φ (.lst es) e = (do let xs ← evs Φ es e; fitL xs .lst) := rfl
@[simp] theorem ev_ix (a b : E) : ev Φ (.ix a b) e = (do let x ← ev Φ a e; let y ← ev Φ b e; ixS x y) := rfl
@[simp] theorem ev_sl (a : E) (lo hi : O) : ev Φ (.sl a lo hi) e = (do let x ← ev Φ a e; let l ← evO Φ lo e; let h ← evO Φ hi e; slS x l h) := rfl
@[simp] theorem ev_rev (a : E) : ev Φ (.rev a) e = (do let x ← ev Φ a e; revS x) := rfl
@[simp] theorem ev_callx (fs : List Nat) (w : E) (es : Es) : ev Φ (.callx fs w es) e = (do let x ← ev Φ w e; let f ← pickF fs x; let xs ← evs Φ es e; Φ f xs) := rfl
@[simp] theorem ev_call (f : Nat) (es : Es) : ev Φ (.call f es) e = (do let xs ← evs Φ es e; Φ f xs) := rfl
@[simp] theorem ev_bi (b : Bi) (es : Es) : ev Φ (.bi b es) e = (do let xs ← evs Φ es e; biS b xs) := rfl
@[simp] theorem ev_mt (m : Mt) (o : E) (es : Es) : ev Φ (.mt m o es) e = (do let x ← ev Φ o e; if mtOk m x then do let xs ← evs Φ es e; mtS m x xs else .bad) := rfl
/-- one item of a comprehension -/
def itemL (vs : List Nat) (g : G) (t : O) (b : E) (d : D) : R (List D) := do
  let e1 ← asgG g d (wipeE e vs)
  let c ← evT Φ t e1
  if c then do let y ← ev Φ b e1; .ok [y] else .ok []
@[simp] theorem ev_lc (vs : List Nat) (g : G) (k : IK) (src : Es) (t : O) (b : E) : ev Φ (.lc vs g k src t b) e = (do
    let ss ← evs Φ src e
    let ds ← itS k ss
    let r ← (lcM ds (itemL Φ e vs g t b)).calm
    .ok (.lst r)) := rfl
@[simp] theorem ev_lc2 (vs : List Nat) (g : G) (k : IK) (src : Es) (t : O) (vs1 : List Nat) (g1 : G) (k1 : IK) (src1 : Es) (t1 : O) (b : E) : ev Φ (.lc2 vs g k src t vs1 g1 k1 src1 t1 b) e = (do
    let ss ← evs Φ src e
    let ds ← itS k ss
    let r ← (lcM ds fun d => do
      let e1 ← asgG g d (wipeE e vs)
      let c ← evT Φ t e1
      if c then do
        let ss1 ← evs Φ src1 e1
        let ds1 ← itS k1 ss1
        lcM ds1 (itemL Φ e1 vs1 g1 t1 b)
      else .ok []).calm
    fitL r .lst) := rfl
@[simp] theorem evs_nil : evs Φ .nil e = .ok [] := rfl
@[simp] theorem evs_cons (a : E) (r : Es) : evs Φ (.cons a r) e = (do let x ← ev Φ a e; let xs ← evs Φ r e; .ok (x :: xs)) := rfl
@[simp] theorem evAnd_one (a : E) : evAnd Φ (.cons a .nil) e = ev Φ a e := rfl
@[simp] theorem evAnd_cons (a b : E) (r : Es) : evAnd Φ (.cons a (.cons b r)) e = (do let x ← ev Φ a e; let c ← asB x; if c then evAnd Φ (.cons b r) e else .ok (.bl false)) := rfl
@[simp] theorem evOr_one (a : E) : evOr Φ (.cons a .nil) e = ev Φ a e := rfl
@[simp] theorem evOr_cons (a b : E) (r : Es) : evOr Φ (.cons a (.cons b r)) e = (do let x ← ev Φ a e; let c ← asB x; if c then .ok (.bl true) else evOr Φ (.cons b r) e) := rfl
@[simp] theorem evO_none : evO Φ .none e = .ok none := rfl
@[simp] theorem evO_some (a : E) : evO Φ (.some a) e = (do let x ← ev Φ a e; let i ← asI x; .ok (some i)) := rfl
@[simp] theorem evT_none : evT Φ .none e = .ok true := rfl
@[simp] theorem evT_some (a : E) : evT Φ (.some a) e = (do let x ← ev Φ a e; asB x) := rfl
@[simp] theorem xss_nil : xss Φ .nil e = .ok (.nx e) := rfl
@[simp] theorem xss_cons (s : S) (r : Ss) : xss Φ (.cons s r) e = andThen (xs Φ s e) (xss Φ r) := rfl
@[simp] theorem xs_frz (i : Nat) : xs Φ (.frz i) e = .ok (.nx (frzE e i)) := rfl
@[simp] theorem xs_asg (g : G) (a : E) : xs Φ (.asg g a) e = lift (ev Φ a e) e fun d => lift (asgG g d e) e fun e' => .ok (.nx e') := rfl
@[simp] theorem xs_mk (i : Nat) (a : E) : xs Φ (.mk i a) e = lift (ev Φ a e) e fun d => .ok (.nx (e.set i (.own d))) := rfl
@[simp] theorem xs_par (os : List Bool) (is : List Nat) (es : Es) : xs Φ (.par os is es) e = lift (evs Φ es e) e fun ds => parE e os is ds := rfl
@[simp] theorem xs_expr (a : E) : xs Φ (.expr a) e = lift (ev Φ a e) e fun _ => .ok (.nx e) := rfl
def stpI (a b : Ss) (e : Env) : D → R Fl
  | .bl true => xss Φ a e
  | .bl false => xss Φ b e
  | _ => .bad
@[simp] theorem stpI_t (a b : Ss) : stpI Φ a b e (.bl true) = xss Φ a e := rfl
@[simp] theorem stpI_f (a b : Ss) : stpI Φ a b e (.bl false) = xss Φ b e := rfl
@[simp] theorem xs_ife (c : E) (a b : Ss) : xs Φ (.ife c a b) e = lift (ev Φ c e) e (stpI Φ a b e) := by
  show (lift (ev Φ c e) e fun d => _) = _
  congr 1
@[simp] theorem xs_whl (n : Nat) (c : E) (b : Ss) : xs Φ (.whl n c b) e = whlM (ev Φ c) (xss Φ b) n e := rfl
/-- one turn of a loop -/
def turnF (g : G) (b : Ss) (d : D) (e1 : Env) : R Fl := lift (asgG g d e1) e1 fun e2 => xss Φ b e2
@[simp] theorem xs_for (g : G) (k : IK) (src : Es) (b : Ss) : xs Φ (.for_ g k src b) e = lift (evs Φ src e) e fun ss => lift (itS k ss) e fun ds => forM (turnF Φ g b) ds e := rfl
@[simp] theorem xs_ret (a : E) : xs Φ (.ret a) e = lift (ev Φ a e) e fun d => .ok (.rt d) := rfl
@[simp] theorem xs_raise (c : Nat) : xs Φ (.raise c) e = .ok (.ex c e) := rfl
end
def outF : R Fl → R D
  | .ok (.nx _) => .ok .non
  | .ok (.rt d) => .ok d
  | .ok (.ex c _) => .exc c
  | .bad => .bad
  | .exc _ => .bad
@[simp] theorem outF_nx (e : Env) : outF (.ok (.nx e)) = .ok .non := rfl
@[simp] theorem outF_rt (d : D) : outF (.ok (.rt d)) = .ok d := rfl
@[simp] theorem outF_ex (c : Nat) (e : Env) : outF (.ok (.ex c e)) = .exc c := rfl
theorem runF_eq (Φ : Nat → List D → R D) (n : Nat) (b : Ss) (ds : List D) : runF Φ n b ds = outF (xss Φ b (ds.map Slot.val ++ List.replicate (n - ds.length) .no)) := by
  unfold runF outF
  rfl
@[simp] theorem ite_and (p : Prop) [Decidable p] (q : Bool) : (if p then R.ok (D.bl q) else R.ok (D.bl false)) = R.ok (D.bl (decide p && q)) := by
  by_cases h : p <;> simp [h]
@[simp] theorem ite_or (p : Prop) [Decidable p] (q : Bool) : (if p then R.ok (D.bl true) else R.ok (D.bl q)) = R.ok (D.bl (decide p || q)) := by
  by_cases h : p <;> simp [h]
/-! ### places -/
@[simp] theorem getV_zero (d : D) (e : Env) : getV (.val d :: e) 0 = .ok d := rfl
@[simp] theorem getV_succ (s : Slot) (e : Env) (n : Nat) : getV (s :: e) (n + 1) = getV e n := rfl
@[simp] theorem getO_val (d : D) (e : Env) : getO (.val d :: e) 0 = .ok d := rfl
@[simp] theorem getO_own (d : D) (e : Env) : getO (.own d :: e) 0 = .ok d := rfl
@[simp] theorem getO_succ (s : Slot) (e : Env) (n : Nat) : getO (s :: e) (n + 1) = getO e n := rfl
@[simp] theorem asgG_name (i : Nat) (d : D) (e : Env) : asgG (.name i) d e = .ok (e.set i (.val d)) := rfl
@[simp] theorem asgG_tup2 (i j : Nat) (a b : D) (e : Env) : asgG (.tup [i, j]) (.tup [a, b]) e = .ok ((e.set i (.val a)).set j (.val b)) := rfl
@[simp] theorem asgG_prs2 (i j : Nat) (a b : D) (e : Env) : asgG (.tup [i, j]) (.prs [a, b]) e = .ok ((e.set i (.val a)).set j (.val b)) := rfl
@[simp] theorem asgG_tup3 (i j k : Nat) (a b c : D) (e : Env) : asgG (.tup [i, j, k]) (.tup [a, b, c]) e = .ok (((e.set i (.val a)).set j (.val b)).set k (.val c)) := rfl
@[simp] theorem asgG_tup4 (i j k l : Nat) (a b c d : D) (e : Env) : asgG (.tup [i, j, k, l]) (.tup [a, b, c, d]) e = .ok ((((e.set i (.val a)).set j (.val b)).set k (.val c)).set l (.val d)) := rfl
@[simp] theorem wipe_one (e : Env) (i : Nat) : wipeE e [i] = e.set i .no := rfl
@[simp] theorem wipe_two (e : Env) (i j : Nat) : wipeE e [i, j] = (e.set j .no).set i .no := rfl
@[simp] theorem frz_val (d : D) (e : Env) : frzE (.val d :: e) 0 = .val d :: e := rfl
@[simp] theorem frz_own (d : D) (e : Env) : frzE (.own d :: e) 0 = .val d :: e := rfl
@[simp] theorem frz_succ (s : Slot) (e : Env) (n : Nat) : frzE (s :: e) (n + 1) = s :: frzE e n := by
  unfold frzE
  rw [List.getElem?_cons_succ]
  cases h : e[n]? with
  | none => rfl
  | some t => cases t <;> rfl
@[simp] theorem parE_nil (e : Env) : parE e [] [] [] = .ok (.nx e) := rfl
@[simp] theorem parE_val (e : Env) (os : List Bool) (i : Nat) (is : List Nat) (d : D) (ds : List D) : parE e (false :: os) (i :: is) (d :: ds) = parE (e.set i (.val d)) os is ds := rfl
@[simp] theorem parE_own (e : Env) (os : List Bool) (i : Nat) (is : List Nat) (d : D) (ds : List D) : parE e (true :: os) (i :: is) (d :: ds) = parE (e.set i (.own d)) os is ds := rfl
@[simp] theorem phi_zero (r : FnR) (Γ : List FnR) (ds : List D) : phi (r :: Γ) 0 ds = arity r.n r.sem ds := rfl
@[simp] theorem phi_succ (r : FnR) (Γ : List FnR) (n : Nat) (ds : List D) : phi (r :: Γ) (n + 1) ds = phi Γ n ds := by
  unfold phi
  rw [List.getElem?_cons_succ]
@[simp] theorem arity_if (n : Nat) (f : List D → R D) (ds : List D) : arity n f ds = if ds.length = n then f ds else .bad := rfl
theorem arity_ok {n : Nat} {f : List D → R D} {ds : List D} (h : ds.length = n) : arity n f ds = f ds := if_pos h
/-! ### values -/
theorem eq_lst {xs ys : List D} (h1 : okd 8 (.lst xs) = true) (h2 : okd 8 (.lst ys) = true) : cmpS .Eq (.lst xs) (.lst ys) = .ok (eqvs xs ys) := by
  have q : cmpS .Eq (.lst xs) (.lst ys) = if okd 8 (.lst xs) && okd 8 (.lst ys) then .ok (eqv (.lst xs) (.lst ys)) else .bad := rfl
  rw [q, h1, h2]
  rfl
theorem ne_lst {xs ys : List D} (h1 : okd 8 (.lst xs) = true) (h2 : okd 8 (.lst ys) = true) : cmpS .NotEq (.lst xs) (.lst ys) = .ok (!eqvs xs ys) := by
  have q : cmpS .NotEq (.lst xs) (.lst ys) = if okd 8 (.lst xs) && okd 8 (.lst ys) then .ok (!eqv (.lst xs) (.lst ys)) else .bad := rfl
  rw [q, h1, h2]
  rfl
@[simp] theorem asB_bl (b : Bool) : asB (.bl b) = .ok b := rfl
@[simp] theorem asI_int (i : Int) : asI (.int i) = .ok i := rfl
@[simp] theorem lt_int (i j : Int) : cmpS .Lt (.int i) (.int j) = .ok (decide (i < j)) := rfl
@[simp] theorem le_int (i j : Int) : cmpS .LtE (.int i) (.int j) = .ok (decide (i ≤ j)) := rfl
@[simp] theorem gt_int (i j : Int) : cmpS .Gt (.int i) (.int j) = .ok (decide (j < i)) := rfl
@[simp] theorem ge_int (i j : Int) : cmpS .GtE (.int i) (.int j) = .ok (decide (j ≤ i)) := rfl
@[simp] theorem eq_int (i j : Int) : cmpS .Eq (.int i) (.int j) = .ok (i == j) := rfl
@[simp] theorem ne_int (i j : Int) : cmpS .NotEq (.int i) (.int j) = .ok (!(i == j)) := rfl
@[simp] theorem eq_bl (i j : Bool) : cmpS .Eq (.bl i) (.bl j) = .ok (i == j) := rfl
@[simp] theorem ne_bl (i j : Bool) : cmpS .NotEq (.bl i) (.bl j) = .ok (!(i == j)) := rfl
@[simp] theorem is_non (d : D) : cmpS .Is d .non = .ok (match d with | .non => true | _ => false) := by cases d <;> rfl
@[simp] theorem isnot_non (d : D) : cmpS .IsNot d .non = .ok (match d with | .non => false | _ => true) := by cases d <;> rfl
@[simp] theorem is_bl (b c : Bool) : cmpS .Is (.bl b) (.bl c) = .ok (b == c) := rfl
@[simp] theorem add_int (i j : Int) : binS .Add (.int i) (.int j) = .ok (.int (i + j)) := rfl
@[simp] theorem sub_int (i j : Int) : binS .Sub (.int i) (.int j) = .ok (.int (i - j)) := rfl
theorem mul_int {i j : Int} (h : -(2 ^ 64) < i ∧ i < 2 ^ 64) : binS .Mult (.int i) (.int j) = .ok (.int (i * j)) := by
  show mulS i j = _
  unfold mulS
  exact if_pos (.inl h)
theorem mul_int' {i j : Int} (h : -(2 ^ 64) < j ∧ j < 2 ^ 64) : binS .Mult (.int i) (.int j) = .ok (.int (i * j)) := by
  show mulS i j = _
  unfold mulS
  exact if_pos (.inr h)
theorem div_int {i j : Int} (h : 0 < j ∧ j < 2 ^ 64) : binS .FloorDiv (.int i) (.int j) = .ok (.int (i / j)) := by
  show divS i j = _
  unfold divS
  exact if_pos h
theorem mod_int {i j : Int} (h : 0 < j) : binS .Mod (.int i) (.int j) = .ok (.int (i % j)) := if_pos h
@[simp] theorem fit_tup1 (a : D) : fitL [a] .tup = .ok (.tup [a]) := rfl
theorem fit_le {xs : List D} {k : List D → D} (h : xs.length ≤ 1000000) : fitL xs k = .ok (k xs) := if_pos (Nat.le_trans h (by decide))
@[simp] theorem fit_nil (k : List D → D) : fitL [] k = .ok (k []) := fit_le (by simp)
@[simp] theorem fit_2 (a b : D) (k : List D → D) : fitL [a, b] k = .ok (k [a, b]) := fit_le (by simp)
@[simp] theorem fit_3 (a b c : D) (k : List D → D) : fitL [a, b, c] k = .ok (k [a, b, c]) := fit_le (by simp)
@[simp] theorem fit_4 (a b c d : D) (k : List D → D) : fitL [a, b, c, d] k = .ok (k [a, b, c, d]) := fit_le (by simp)
@[simp] theorem ix4_0 (a b c d : D) : ixS (.tup [a, b, c, d]) (.int 0) = .ok a := rfl
@[simp] theorem ix4_1 (a b c d : D) : ixS (.tup [a, b, c, d]) (.int 1) = .ok b := rfl
@[simp] theorem ix4_2 (a b c d : D) : ixS (.tup [a, b, c, d]) (.int 2) = .ok c := rfl
@[simp] theorem ix4_3 (a b c d : D) : ixS (.tup [a, b, c, d]) (.int 3) = .ok d := rfl
@[simp] theorem ix2_0 (a b : D) : ixS (.tup [a, b]) (.int 0) = .ok a := rfl
@[simp] theorem ix2_1 (a b : D) : ixS (.tup [a, b]) (.int 1) = .ok b := rfl
@[simp] theorem len_tup (xs : List D) : biS .len [.tup xs] = .ok (.int xs.length) := rfl
@[simp] theorem len_lst (xs : List D) : biS .len [.lst xs] = .ok (.int xs.length) := rfl
@[simp] theorem len_scr (xs : List Int) : biS .len [.scr xs] = .ok (.int xs.length) := rfl
@[simp] theorem tuple_lst (xs : List D) : biS .tuple [.lst xs] = .ok (.tup xs) := rfl
@[simp] theorem list_tup (xs : List D) : biS .list [.tup xs] = .ok (.lst xs) := rfl
@[simp] theorem max2 (i j : Int) : biS .max [.int i, .int j] = .ok (.int (if j > i then j else i)) := rfl
@[simp] theorem min2 (i j : Int) : biS .min [.int i, .int j] = .ok (.int (if j < i then j else i)) := rfl
@[simp] theorem seq_tup (xs : List D) : itS .seq [.tup xs] = .ok xs := rfl
@[simp] theorem seq_lst (xs : List D) : itS .seq [.lst xs] = .ok xs := rfl
@[simp] theorem enum_tup (xs : List D) : itS .enum [.tup xs] = .ok (enumD xs) := rfl
theorem rng1_ok {n : Int} (h0 : -1000000 ≤ n) (h : n ≤ 1000000) : itS .rng1 [.int n] = .ok (rangeD 0 n.toNat) := by
  have e : (smallI n && decide (n ≤ (sizeLine : Nat))) = true := by
    unfold smallI
    simp only [Bool.and_eq_true, decide_eq_true_eq]
    have : (1000000 : Int) ≤ ((sizeLine : Nat) : Int) := by decide
    omega
  show (if _ then _ else _) = _
  exact if_pos e
theorem rng2_ok {a b : Int} (h0 : -1000000 ≤ a ∧ a ≤ 1000000) (h : -1000000 ≤ b ∧ b ≤ 1000000) (hd : b - a ≤ 1000000) : itS .rng2 [.int a, .int b] = .ok (rangeD a (b - a).toNat) := by
  have e : (smallI a && smallI b && decide (b - a ≤ (sizeLine : Nat))) = true := by
    unfold smallI
    simp only [Bool.and_eq_true, decide_eq_true_eq]
    have : (1000000 : Int) ≤ ((sizeLine : Nat) : Int) := by decide
    omega
  show (if _ then _ else _) = _
  exact if_pos e
theorem lrange_ok {n : Nat} (h : n ≤ 1000000) : biS .lrange [.int n] = .ok (.lst (rangeD 0 n)) := by
  have q : biS .lrange [.int n] = if smallI n && decide ((n : Int) ≤ (sizeLine : Nat)) then .ok (.lst (rangeD 0 (n : Int).toNat)) else .bad := rfl
  have e : (smallI n && decide ((n : Int) ≤ (sizeLine : Nat))) = true := by
    unfold smallI
    simp only [Bool.and_eq_true, decide_eq_true_eq]
    have : (1000000 : Int) ≤ ((sizeLine : Nat) : Int) := by decide
    omega
  rw [q, if_pos e, Int.toNat_natCast]
theorem boolsOf_map : ∀ {α : Type} (f : α → Bool) (xs : List α), boolsOf (xs.map fun x => .bl (f x)) = some (xs.map f)
  | _, f, [] => rfl
  | _, f, x :: xs => by
    rw [List.map_cons]
    show (boolsOf _).map _ = _
    rw [boolsOf_map f xs]
    rfl
theorem all_bools {α : Type} (f : α → Bool) (xs : List α) : biS .all [.lst (xs.map fun x => .bl (f x))] = .ok (.bl (xs.all f)) := by
  show (match boolsOf _ with | some bs => _ | none => _) = _
  rw [boolsOf_map]
  simp [List.all_map]
/-! ### walks -/
theorem lcM_flat {g : D → R (List D)} (h : D → List D) : ∀ {ds : List D}, (∀ d ∈ ds, g d = .ok (h d)) → lcM ds g = .ok (ds.flatMap h)
  | [], _ => rfl
  | d :: ds, k => by
    show (do let xs ← g d; let ys ← lcM ds g; R.ok (xs ++ ys)) = _
    rw [k d List.mem_cons_self, lcM_flat h fun x hx => k x (List.mem_cons_of_mem _ hx)]
    rfl
theorem lcM_map {g : D → R (List D)} (h : D → D) {ds : List D} (k : ∀ d ∈ ds, g d = .ok [h d]) : lcM ds g = .ok (ds.map h) := by
  rw [lcM_flat (fun d => [h d]) k]
  have : ∀ l : List D, l.flatMap (fun d => [h d]) = l.map h := fun l => by
    induction l with
    | nil => rfl
    | cons d l ih => rw [List.flatMap_cons, ih]; rfl
  rw [this]
theorem flat_if {α β : Type} (p : α → Bool) (h : α → β) : ∀ ds : List α, ds.flatMap (fun d => if p d then [h d] else []) = (ds.filter p).map h
  | [] => rfl
  | d :: ds => by
    rw [List.flatMap_cons, flat_if p h ds, List.filter_cons]
    cases p d <;> rfl
theorem lcM_filter {g : D → R (List D)} (p : D → Bool) (h : D → D) {ds : List D} (k : ∀ d ∈ ds, g d = .ok (if p d then [h d] else [])) : lcM ds g = .ok ((ds.filter p).map h) := by
  rw [lcM_flat _ k, flat_if]
theorem forM_inv {f : D → Env → R Fl} (I : Nat → Env → Prop) : ∀ {ds : List D} {e : Env} (n : Nat), (∀ (k : Nat) (d : D) (e : Env), ds[k]? = some d → I (n + k) e → ∃ e', f d e = .ok (.nx e') ∧ I (n + k + 1) e') → I n e → ∃ e', forM f ds e = .ok (.nx e') ∧ I (n + ds.length) e'
  | [], e, n, _, h => ⟨e, rfl, h⟩
  | d :: ds, e, n, st, h => by
    obtain ⟨e1, q1, i1⟩ := st 0 d e rfl h
    obtain ⟨e2, q2, i2⟩ := forM_inv I (ds := ds) (e := e1) (n + 1) (fun k d e hk hi => by
      have := st (k + 1) d e (by rw [List.getElem?_cons_succ]; exact hk) (by rw [show n + (k + 1) = n + 1 + k by omega]; exact hi)
      rw [show n + (k + 1) + 1 = n + 1 + k + 1 by omega] at this
      exact this) i1
    refine ⟨e2, ?_, by rw [List.length_cons, show n + (ds.length + 1) = n + 1 + ds.length by omega]; exact i2⟩
    show andThen (f d e) (forM f ds) = _
    rw [q1]
    exact q2
/-- a loop that keeps one form -/
theorem forM_keep {f : D → Env → R Fl} (I : Env → Prop) {ds : List D} {e : Env} (st : ∀ d ∈ ds, ∀ e, I e → ∃ e', f d e = .ok (.nx e') ∧ I e') (h : I e) : ∃ e', forM f ds e = .ok (.nx e') ∧ I e' := by
  obtain ⟨e', q, i⟩ := forM_inv (fun _ => I) (ds := ds) (e := e) 0 (fun k d e hk hi => st d (List.mem_of_getElem? hk) e hi) h
  exact ⟨e', q, i⟩
end Pan

/-! Panestacks, part K1: what the judging functions answer. -/
namespace Pan
open PySem L2
theorem okd_mono : ∀ (n m : Nat) (d : D), n ≤ m → okd n d = true → okd m d = true
  | _, _, .non, _, _ => by simp [okd]
  | _, _, .bl _, _, _ => by simp [okd]
  | _, _, .int _, _, _ => by simp [okd]
  | _, _, .str x, _, h => by simp only [okd] at h ⊢; exact h
  | 0, _, .tup _, _, h => by simp [okd] at h
  | 0, _, .lst _, _, h => by simp [okd] at h
  | n + 1, 0, _, hl, _ => by omega
  | n + 1, m + 1, .tup xs, hl, h => by
    simp only [okd, List.all_eq_true] at h ⊢
    exact fun x hx => okd_mono n m x (by omega) (h x hx)
  | n + 1, m + 1, .lst xs, hl, h => by
    simp only [okd, List.all_eq_true] at h ⊢
    exact fun x hx => okd_mono n m x (by omega) (h x hx)
  | _, _, .dic _ _, _, h => by simp [okd] at h
  | _, _, .prs _, _, h => by simp [okd] at h
  | _, _, .ty _, _, h => by simp [okd] at h
  | _, _, .scr _, _, h => by simp [okd] at h
theorem isinst_ok {d : D} {n : String} (h : okd 8 d = true) (hn : classes.contains n = true) : biS .isinst [d, .ty n] = .ok (.bl (isInstS d n)) := by
  show (if _ then _ else _) = _
  exact if_pos (by rw [h, hn]; rfl)
def isI (lo hi : Int) : D → Bool
  | .int i => decide (lo ≤ i) && decide (i ≤ hi)
  | _ => false
theorem is_int_ok (d : D) (lo hi : Int) (h : okd 8 d = true) : r_is_int.sem [d, .int lo, .int hi] = .ok (.bl (isI lo hi d)) := by
  cases d <;> simp -implicitDefEqProofs [r_is_int, ir_is_int, runF_eq, isinst_ok h, classes, isInstS, isI]
  all_goals simp [okd] at h
def ltI : D → D → Bool
  | .int i, .int j => decide (i < j)
  | _, _ => false
def isW : D → Bool
  | .tup [a, b, c, d] => [a, b, c, d].all (isI 0 12) && (ltI a c && ltI b d)
  | _ => false
theorem isI_int {lo hi : Int} {d : D} (h : isI lo hi d = true) : ∃ i, d = .int i ∧ lo ≤ i ∧ i ≤ hi := by
  cases d <;> simp [isI] at h
  exact ⟨_, rfl, h⟩
theorem okd_item {n : Nat} {xs : List D} {x : D} (h : okd (n + 1) (.tup xs) = true) (hx : x ∈ xs) : okd (n + 1) x = true := by
  simp only [okd, List.all_eq_true] at h
  exact okd_mono n (n + 1) x (by omega) (h x hx)
theorem all_lc {xs : List D} {g : D → R (List D)} (f : D → Bool) (h : ∀ d ∈ xs, g d = .ok [.bl (f d)]) : ∃ bs, lcM xs g = .ok bs ∧ biS .all [.lst bs] = .ok (.bl (xs.all f)) :=
  ⟨_, lcM_map _ h, all_bools f xs⟩
theorem isW_len {xs : List D} (h : ¬ xs.length = 4) : isW (.tup xs) = false := by
  unfold isW
  split
  · rename_i e; simp only [D.tup.injEq] at e; rw [e] at h; exact absurd rfl h
  · rfl
theorem is_window_ok (d : D) (h : okd 8 d = true) : r_is_window.sem [d] = .ok (.bl (isW d)) := by
  have hi := isinst_ok (n := "tuple") h rfl
  cases d with
  | tup xs =>
    obtain ⟨bs, hl, hA⟩ : ∃ bs, lcM xs (itemL (phi [r_is_int]) [Slot.val (.tup xs), .no] [1] (.name 1) .none (.call 0 (.cons (.var 1) (.cons (.lit (.int 0)) (.cons (.lit (.int 12)) .nil))))) = .ok bs ∧ biS .all [.lst bs] = .ok (.bl (xs.all (isI 0 12))) :=
      all_lc _ fun d hd => by simp [itemL, is_int_ok d 0 12 (okd_item h hd)]
    by_cases h4 : xs.length = 4
    · match xs, h4 with
      | [a, b, c, e], _ =>
        cases ha : [a, b, c, e].all (isI 0 12) with
        | false =>
          rw [ha] at hA
          simp only [isW, ha, Bool.false_and]
          simp -implicitDefEqProofs [r_is_window, ir_is_window, runF_eq, hi, isInstS, hl, hA]
        | true =>
          rw [ha] at hA
          have hh := List.all_eq_true.mp ha
          obtain ⟨a, rfl, _⟩ := isI_int (hh a (by simp))
          obtain ⟨b, rfl, _⟩ := isI_int (hh b (by simp))
          obtain ⟨c, rfl, _⟩ := isI_int (hh c (by simp))
          obtain ⟨e, rfl, _⟩ := isI_int (hh e (by simp))
          simp only [isW, ha, Bool.true_and, ltI]
          simp -implicitDefEqProofs [r_is_window, ir_is_window, runF_eq, hi, isInstS, hl, hA]
    · have h5 : ((xs.length : Int) == 4) = false := by simp; omega
      rw [isW_len h4]
      simp -implicitDefEqProofs [r_is_window, ir_is_window, runF_eq, hi, isInstS, h5]
  | _ => simp -implicitDefEqProofs [r_is_window, ir_is_window, runF_eq, hi, isInstS, isW]
def areW : D → Bool
  | .tup xs => decide (xs.length ≤ 6) && xs.all isW
  | _ => false
theorem are_windows_ok (d : D) (h : okd 8 d = true) : r_are_windows.sem [d] = .ok (.bl (areW d)) := by
  have hi := isinst_ok (n := "tuple") h rfl
  cases d with
  | tup xs =>
    obtain ⟨bs, hl, hA⟩ : ∃ bs, lcM xs (itemL (phi [r_is_window]) [Slot.val (.tup xs), .no] [1] (.name 1) .none (.call 0 (.cons (.var 1) .nil))) = .ok bs ∧ biS .all [.lst bs] = .ok (.bl (xs.all isW)) :=
      all_lc _ fun d hd => by simp [itemL, is_window_ok d (okd_item h hd)]
    by_cases h6 : xs.length ≤ 6
    · have h7 : ¬ (6 : Int) < xs.length := by omega
      simp -implicitDefEqProofs [r_are_windows, ir_are_windows, runF_eq, hi, isInstS, areW, h6, h7, hl, hA]
    · have h7 : (6 : Int) < xs.length := by omega
      simp -implicitDefEqProofs [r_are_windows, ir_are_windows, runF_eq, hi, isInstS, areW, h6, h7]
  | _ => simp -implicitDefEqProofs [r_are_windows, ir_are_windows, runF_eq, hi, isInstS, areW]
/-- sorted, of ints -/
theorem check_windows_ok (d : D) (h : okd 8 d = true) : r_check_windows.sem [d] = if areW d then .ok .non else .exc 1 := by
  cases ha : areW d <;> simp -implicitDefEqProofs [r_check_windows, ir_check_windows, runF_eq, are_windows_ok d h, ha]
theorem check_window_ok (d : D) (h : okd 8 d = true) : r_check_window.sem [d] = if isW d then .ok .non else .exc 0 := by
  cases ha : isW d <;> simp -implicitDefEqProofs [r_check_window, ir_check_window, runF_eq, is_window_ok d h, ha]
/-- n numbers, each one once -/
def isO (n : Nat) : D → Bool
  | .tup xs => xs.all (isI 0 (n - 1)) && eqvs (sortD xs) (rangeD 0 n)
  | _ => false
theorem has_order_ok (n : Nat) (ws d : D) (hw : biS .len [ws] = .ok (.int n)) (hn : n ≤ 1000) (h : okd 7 d = true) : r_has_order.sem [ws, d] = .ok (.bl (isO n d)) := by
  have h8 : okd 8 d = true := okd_mono _ _ d (by omega) h
  have hi := isinst_ok (n := "tuple") h8 rfl
  cases d with
  | tup xs =>
    obtain ⟨bs, hl, hA⟩ : ∃ bs, lcM xs (itemL (phi [r_is_int]) [Slot.val ws, Slot.val (.tup xs), .no] [2] (.name 2) .none (.call 0 (.cons (.var 2) (.cons (.lit (.int 0)) (.cons (.bin .Sub (.bi .len (.cons (.var 0) .nil)) (.lit (.int 1))) .nil))))) = .ok bs ∧ biS .all [.lst bs] = .ok (.bl (xs.all (isI 0 (n - 1)))) :=
      all_lc _ fun d hd => by simp [itemL, hw, is_int_ok d 0 (n - 1) (okd_item h8 hd)]
    cases ha : xs.all (isI 0 (n - 1)) with
    | false =>
      rw [ha] at hA
      simp -implicitDefEqProofs [r_has_order, ir_has_order, runF_eq, hi, isInstS, isO, hl, hA, ha]
    | true =>
      rw [ha] at hA
      have hs : sortable xs = true := by
        unfold sortable
        rw [Bool.or_eq_true]
        left
        rw [List.all_eq_true] at ha ⊢
        intro x hx
        obtain ⟨i, rfl, _⟩ := isI_int (ha x hx)
        rfl
      have hS : biS .sorted [.tup xs] = .ok (.lst (sortD xs)) := by
        show sortS xs = _
        unfold sortS
        exact if_pos hs
      have hR : biS .lrange [.int n] = .ok (.lst (rangeD 0 n)) := lrange_ok (by omega)
      have hE : cmpS .Eq (.lst (sortD xs)) (.lst (rangeD 0 n)) = .ok (eqvs (sortD xs) (rangeD 0 n)) := by
        have q1 : okd 8 (.lst (sortD xs)) = true := by
          simp only [okd, List.all_eq_true]
          intro x hx
          have := ha
          rw [List.all_eq_true] at this
          obtain ⟨i, rfl, _⟩ := isI_int (this x ((sortD_perm xs).mem_iff.mp hx))
          simp [okd]
        have q2 : okd 8 (.lst (rangeD 0 n)) = true := by
          simp only [okd, List.all_eq_true, rangeD, List.mem_map]
          rintro x ⟨i, _, rfl⟩
          simp [okd]
        exact eq_lst q1 q2
      have z : isO n (.tup xs) = eqvs (sortD xs) (rangeD 0 n) := by show (xs.all (isI 0 (n - 1)) && eqvs (sortD xs) (rangeD 0 n)) = _; rw [ha]; rfl
      rw [z]
      simp -implicitDefEqProofs [r_has_order, ir_has_order, runF_eq, hi, isInstS, hl, hA, hw, hS, hR, hE]
  | _ => simp -implicitDefEqProofs [r_has_order, ir_has_order, runF_eq, hi, isInstS, isO]
theorem check_order_ok (n : Nat) (ws d : D) (hw : biS .len [ws] = .ok (.int n)) (hn : n ≤ 1000) (h : okd 7 d = true) : r_check_order.sem [ws, d] = if isO n d then .ok .non else .exc 2 := by
  cases ha : isO n d <;> simp -implicitDefEqProofs [r_check_order, ir_check_order, runF_eq, has_order_ok n ws d hw hn h, ha]
/-! ### windows, orders -/
structure Wn where
  l : Int
  t : Int
  r : Int
  b : Int
def wD (w : Wn) : D := .tup [.int w.l, .int w.t, .int w.r, .int w.b]
def Wn.ok (w : Wn) : Prop := 0 ≤ w.l ∧ w.l < w.r ∧ w.r ≤ 12 ∧ 0 ≤ w.t ∧ w.t < w.b ∧ w.b ≤ 12
def Wn.has (w : Wn) (x y : Int) : Bool := decide (w.l ≤ x) && decide (x < w.r) && (decide (w.t ≤ y) && decide (y < w.b))
def wsD (ws : List Wn) : D := .tup (ws.map wD)
def osD (os : List Nat) : D := .tup (os.map fun (o : Nat) => .int o)
theorem okd_wD (n : Nat) (w : Wn) : okd (n + 1) (wD w) = true := by simp [wD, okd]
theorem okd_wsD (n : Nat) (ws : List Wn) : okd (n + 2) (wsD ws) = true := by simp [wsD, wD, okd]
theorem okd_osD (n : Nat) (os : List Nat) : okd (n + 1) (osD os) = true := by simp [osD, okd]
theorem isW_wD {w : Wn} (h : w.ok) : isW (wD w) = true := by
  obtain ⟨h1, h2, h3, h4, h5, h6⟩ := h
  simp [isW, wD, isI, ltI]
  omega
theorem areW_wsD {ws : List Wn} (h : ∀ w ∈ ws, w.ok) (hl : ws.length ≤ 6) : areW (wsD ws) = true := by
  simp only [areW, wsD, List.length_map, Bool.and_eq_true, decide_eq_true_eq, List.all_map, List.all_eq_true]
  exact ⟨hl, fun w hw => isW_wD (h w hw)⟩
theorem len_wsD (ws : List Wn) : biS .len [wsD ws] = .ok (.int ws.length) := by simp [wsD]
theorem eqvs_int : ∀ (xs ys : List Int), eqvs (xs.map .int) (ys.map .int) = decide (xs = ys)
  | [], [] => by simp [eqvs]
  | [], _ :: _ => by simp [eqvs]
  | _ :: _, [] => by simp [eqvs]
  | x :: xs, y :: ys => by
    rw [List.map_cons, List.map_cons]
    show (eqv (.int x) (.int y) && eqvs (xs.map .int) (ys.map .int)) = _
    rw [eqvs_int xs ys]
    show ((x == y) && _) = _
    by_cases h : x = y <;> by_cases h' : xs = ys <;> simp [h, h']
theorem rangeD_eq (n : Nat) : rangeD 0 n = (List.range n).map fun (i : Nat) => .int i := by
  unfold rangeD
  simp
theorem range_srt (n : Nat) : SrtO.Srtd ltD ((List.range n).map fun (i : Nat) => (.int i : D)) := by
  unfold SrtO.Srtd
  rw [List.pairwise_map]
  refine List.pairwise_lt_range.imp ?_
  intro a b hab
  show HT.lexLt [(b : Int)] [(a : Int)] = false
  rw [HT.lexLt_cons, if_neg (by omega)]
  exact decide_eq_false (by omega)
theorem sort_perm_range {os : List Nat} {n : Nat} (h : os.Perm (List.range n)) : sortD (os.map fun (o : Nat) => (.int o : D)) = (List.range n).map fun (i : Nat) => .int i := by
  refine (sortD_uniq ?_ (h.map _).symm (range_srt n)).symm
  unfold sortable
  rw [Bool.or_eq_true]
  left
  simp [isIntD]
theorem eqvs_refl_int (xs : List Int) : eqvs (xs.map .int) (xs.map .int) = true := by rw [eqvs_int]; simp
theorem isO_osD {os : List Nat} {n : Nat} (h : os.Perm (List.range n)) : isO n (osD os) = true := by
  show ((os.map fun (o : Nat) => (.int o : D)).all (isI 0 (n - 1)) && eqvs (sortD (os.map fun (o : Nat) => (.int o : D))) (rangeD 0 n)) = true
  rw [sort_perm_range h, rangeD_eq, Bool.and_eq_true]
  refine ⟨?_, ?_⟩
  · simp only [List.all_map, List.all_eq_true]
    intro o ho
    have := List.mem_range.mp (h.mem_iff.mp ho)
    simp [isI]
    omega
  · have e : ((List.range n).map fun (i : Nat) => (.int i : D)) = ((List.range n).map fun (i : Nat) => (i : Int)).map .int := by rw [List.map_map]; rfl
    rw [e]
    exact eqvs_refl_int _
theorem check_both_ok {ws : List Wn} {os : List Nat} (h : ∀ w ∈ ws, w.ok) (hl : ws.length ≤ 6) (ho : os.Perm (List.range ws.length)) : r_check_both.sem [wsD ws, osD os] = .ok .non := by
  have a := check_windows_ok (wsD ws) (okd_wsD 6 ws)
  rw [areW_wsD h hl] at a
  have b := check_order_ok ws.length (wsD ws) (osD os) (len_wsD ws) (by omega) (okd_osD 6 os)
  rw [isO_osD ho] at b
  simp only [if_true] at a b
  simp -implicitDefEqProofs [r_check_both, ir_check_both, runF_eq, a, b]
end Pan

/-! Panestacks, part K2: cells, regions, tops, overlaps. -/
namespace Pan
open PySem L2
def cD (p : Int × Int) : D := .tup [.int p.1, .int p.2]
theorem covers_ok (w : Wn) (x y : Int) : r_covers.sem [wD w, cD (x, y)] = .ok (.bl (w.has x y)) := by
  simp -implicitDefEqProofs [r_covers, ir_covers, runF_eq, wD, cD, Wn.has]
def rngI (a b : Int) : List Int := (List.range (b - a).toNat).map fun (i : Nat) => a + i
theorem mem_rngI {a b x : Int} : x ∈ rngI a b ↔ a ≤ x ∧ x < b := by
  unfold rngI
  simp only [List.mem_map, List.mem_range]
  constructor
  · rintro ⟨i, h, rfl⟩; omega
  · intro h; exact ⟨(x - a).toNat, by omega, by omega⟩
theorem rangeD_rngI (a b : Int) : rangeD a (b - a).toNat = (rngI a b).map .int := by
  unfold rangeD rngI
  rw [List.map_map]
  rfl
def cellsOf (w : Wn) : List (Int × Int) := (rngI w.l w.r).flatMap fun x => (rngI w.t w.b).map fun y => (x, y)
theorem mem_cellsOf {w : Wn} {p : Int × Int} : p ∈ cellsOf w ↔ w.has p.1 p.2 = true := by
  obtain ⟨x, y⟩ := p
  unfold cellsOf Wn.has
  simp only [List.mem_flatMap, List.mem_map, Prod.mk.injEq, mem_rngI, Bool.and_eq_true, decide_eq_true_eq]
  constructor
  · rintro ⟨a, h, b, h', rfl, rfl⟩; exact ⟨h, h'⟩
  · rintro ⟨h, h'⟩; exact ⟨x, h, y, h', rfl, rfl⟩
theorem flatMap_map' {α β γ : Type} (f : α → β) (g : β → List γ) (l : List α) : (l.map f).flatMap g = l.flatMap fun x => g (f x) := by
  induction l with
  | nil => rfl
  | cons a l ih => rw [List.map_cons, List.flatMap_cons, List.flatMap_cons, ih]
theorem map_flatMap' {α β γ : Type} (f : β → γ) (g : α → List β) (l : List α) : (l.flatMap g).map f = l.flatMap fun x => (g x).map f := by
  induction l with
  | nil => rfl
  | cons a l ih => rw [List.flatMap_cons, List.flatMap_cons, List.map_append, ih]
theorem len_cells {w : Wn} (h : w.ok) : (cellsOf w).length ≤ 144 := by
  obtain ⟨h1, h2, h3, h4, h5, h6⟩ := h
  have e : ∀ l : List Int, (l.flatMap fun x => (rngI w.t w.b).map fun y => (x, y)).length = l.length * (rngI w.t w.b).length := fun l => by
    induction l with
    | nil => simp
    | cons a l ih => rw [List.flatMap_cons, List.length_append, ih, List.length_map, List.length_cons, Nat.add_one_mul]; omega
  unfold cellsOf
  rw [e]
  have a : (rngI w.l w.r).length ≤ 12 := by unfold rngI; rw [List.length_map, List.length_range]; omega
  have b : (rngI w.t w.b).length ≤ 12 := by unfold rngI; rw [List.length_map, List.length_range]; omega
  calc _ ≤ 12 * 12 := Nat.mul_le_mul a b
    _ = 144 := rfl
theorem lcM_flatI {α : Type} {g : D → R (List D)} (f : α → D) (h : α → List D) {l : List α} (k : ∀ a ∈ l, g (f a) = .ok (h a)) : lcM (l.map f) g = .ok (l.flatMap h) := by
  induction l with
  | nil => rfl
  | cons a l ih =>
    rw [List.map_cons]
    show (do let xs ← g (f a); let ys ← lcM (l.map f) g; R.ok (xs ++ ys)) = _
    rw [k a List.mem_cons_self, ih fun x hx => k x (List.mem_cons_of_mem _ hx)]
    rfl
theorem lcM_mapI {α : Type} {g : D → R (List D)} (f : α → D) (h : α → D) {l : List α} (k : ∀ a ∈ l, g (f a) = .ok [h a]) : lcM (l.map f) g = .ok (l.map h) := by
  rw [lcM_flatI f (fun a => [h a]) k]
  have : ∀ l : List α, l.flatMap (fun d => [h d]) = l.map h := fun l => by
    induction l with
    | nil => rfl
    | cons d l ih => rw [List.flatMap_cons, ih]; rfl
  rw [this]
theorem lcM_filterI {α : Type} {g : D → R (List D)} (f : α → D) (p : α → Bool) (h : α → D) {l : List α} (k : ∀ a ∈ l, g (f a) = .ok (if p a then [h a] else [])) : lcM (l.map f) g = .ok ((l.filter p).map h) := by
  rw [lcM_flatI f _ k, flat_if]
theorem cells_of_ok {w : Wn} (h : w.ok) : r_cells_of.sem [wD w] = .ok (.lst ((cellsOf w).map cD)) := by
  have h' := h
  obtain ⟨h1, h2, h3, h4, h5, h6⟩ := h'
  have ra : itS .rng2 [.int w.l, .int w.r] = .ok ((rngI w.l w.r).map .int) := by rw [rng2_ok (by omega) (by omega) (by omega), rangeD_rngI]
  have rb : itS .rng2 [.int w.t, .int w.b] = .ok ((rngI w.t w.b).map .int) := by rw [rng2_ok (by omega) (by omega) (by omega), rangeD_rngI]
  have e : (cellsOf w).map cD = (rngI w.l w.r).flatMap fun x => (rngI w.t w.b).map fun y => cD (x, y) := by
    unfold cellsOf
    rw [map_flatMap']
    congr 1
    funext x
    rw [List.map_map]
    rfl
  have fit : fitL ((cellsOf w).map cD) .lst = .ok (.lst ((cellsOf w).map cD)) := fit_le (by rw [List.length_map]; have := len_cells h; omega)
  rw [e] at fit ⊢
  simp -implicitDefEqProofs only [r_cells_of, ir_cells_of, runF_eq, wD, List.map_cons, List.map_nil, List.length_cons, List.length_nil, List.cons_append, List.nil_append, Nat.zero_add, Nat.reduceAdd, Nat.reduceSub, List.replicate, xss_cons, xs_ret, ev_lc2, evs_cons, evs_nil, ev_ix, ev_var, ev_lit, getV_zero, bind_ok, ix4_0, ix4_2, ra]
  rw [lcM_flatI D.int (fun x => (rngI w.t w.b).map fun y => cD (x, y))]
  · rw [calm_ok, bind_ok, fit]
    rfl
  · intro x hx
    simp -implicitDefEqProofs only [asgG_name, bind_ok, wipe_two, evT_none, if_true, evs_cons, evs_nil, ev_ix, ev_var, ev_lit, List.set_cons_succ, List.set_cons_zero, getV_zero, ix4_1, ix4_3, rb]
    exact lcM_mapI D.int _ fun y hy => by simp -implicitDefEqProofs [itemL, cD]
/-! ### regions, tops -/
def regN (ws : List Wn) (x y : Int) : List Nat := (ws.zipIdx.filter fun p => p.1.has x y).map (·.2)
def hasAt (ws : List Wn) (x y : Int) (o : Nat) : Bool := match ws[o]? with
  | some w => w.has x y
  | none => false
theorem mem_regN {ws : List Wn} {x y : Int} {o : Nat} : o ∈ regN ws x y ↔ hasAt ws x y o = true := by
  unfold regN hasAt
  simp only [List.mem_map, List.mem_filter, List.mem_zipIdx_iff_getElem?]
  constructor
  · rintro ⟨⟨w, i⟩, ⟨h, q⟩, rfl⟩
    rw [h]; exact q
  · intro h
    cases q : ws[o]? with
    | none => rw [q] at h; cases h
    | some w => rw [q] at h; exact ⟨(w, o), ⟨q, h⟩, rfl⟩
theorem enum_wD (ws : List Wn) : enumD (ws.map wD) = ws.zipIdx.map fun p => .prs [.int (p.2 : Nat), wD p.1] := by
  unfold enumD
  rw [List.mapIdx_eq_zipIdx_map, List.zipIdx_map, List.map_map]
  rfl
theorem region_at_ok (ws : List Wn) (x y : Int) : r_region_at.sem [wsD ws, cD (x, y)] = .ok (osD (regN ws x y)) := by
  simp -implicitDefEqProofs only [r_region_at, ir_region_at, runF_eq, wsD, List.map_cons, List.map_nil, List.length_cons, List.length_nil, List.cons_append, List.nil_append, Nat.zero_add, Nat.reduceAdd, Nat.reduceSub, List.replicate, xss_cons, xs_ret, ev_lc, ev_bi, evs_cons, evs_nil, ev_var, getV_zero, bind_ok, enum_tup, enum_wD]
  rw [lcM_filterI (fun (p : Wn × Nat) => .prs [.int (p.2 : Nat), wD p.1]) (fun p => p.1.has x y) (fun p => .int (p.2 : Nat))]
  · simp -implicitDefEqProofs [regN, osD]
  · rintro ⟨w, i⟩ hp
    cases hh : w.has x y <;> simp -implicitDefEqProofs [itemL, covers_ok, hh]
def oD : Option Nat → D
  | none => .non
  | some o => .int o
theorem in_ints (o : Nat) (os : List Nat) : cmpS .In (.int o) (osD os) = .ok (decide (o ∈ os)) := by
  have q : cmpS .In (.int o) (osD os) = if flatD (.int o) && (os.map fun (o : Nat) => (.int o : D)).all flatD then .ok ((os.map fun (o : Nat) => (.int o : D)).any (eqv · (.int o))) else .bad := rfl
  have h1 : (flatD (.int o) && (os.map fun (o : Nat) => (.int o : D)).all flatD) = true := by simp [flatD]
  rw [q, if_pos h1]
  congr 1
  rw [List.any_map]
  rw [Bool.eq_iff_iff, List.any_eq_true]
  simp only [Function.comp_apply, eqv, beq_iff_eq, decide_eq_true_eq]
  constructor
  · rintro ⟨x, hx, e⟩
    have : x = o := by omega
    rw [← this]; exact hx
  · intro h; exact ⟨o, h, rfl⟩
theorem last_lst (xs : List D) (d : D) : ixS (.lst (xs ++ [d])) (.int (-1)) = .ok d := by
  have q : ixS (.lst (xs ++ [d])) (.int (-1)) = match atI (xs ++ [d]) (-1) with | some d => .ok d | none => .bad := rfl
  have e : atI (xs ++ [d]) (-1) = some d := by
    unfold atI ixN
    rw [if_neg (by omega), if_pos (by rw [List.length_append, List.length_singleton]; omega)]
    show (xs ++ [d])[_]? = _
    rw [show ((-1 : Int) + ((xs ++ [d]).length : Nat)).toNat = xs.length by rw [List.length_append, List.length_singleton]; omega]
    simp
  rw [q, e]
theorem okd_lstI (xs : List Nat) : okd 8 (.lst (xs.map fun (o : Nat) => (.int o : D))) = true := by simp [okd]
theorem top_of_ok (os reg : List Nat) : r_top_of.sem [osD os, osD reg] = .ok (oD (os.filter fun o => decide (o ∈ reg)).getLast?) := by
  have hl : ∀ E : Env, E = [Slot.val (osD os), Slot.val (osD reg), .no, .no] → lcM (os.map fun (o : Nat) => (.int o : D)) (itemL (phi []) E [3] (.name 3) (.some (.cmp .In (.var 3) (.var 1))) (.var 3)) = .ok ((os.filter fun o => decide (o ∈ reg)).map fun (o : Nat) => .int o) := by
    rintro E rfl
    refine lcM_filterI _ _ _ fun o ho => ?_
    by_cases hh : o ∈ reg <;> simp -implicitDefEqProofs [itemL, in_ints, hh]
  have hs : itS .seq [osD os] = .ok (os.map fun (o : Nat) => (.int o : D)) := rfl
  have hl := hl _ rfl
  have nn : cmpS .NotEq (.lst []) (.lst []) = .ok false := rfl
  rcases List.eq_nil_or_concat (os.filter fun o => decide (o ∈ reg)) with h | ⟨l, o, h⟩
  · rw [h] at hl ⊢
    simp -implicitDefEqProofs [r_top_of, ir_top_of, runF_eq, hs, hl, nn, oD]
  · rw [List.concat_eq_append] at h
    rw [h, List.map_append] at hl
    rw [h]
    have hne : cmpS .NotEq (.lst (l.map (fun (o : Nat) => (.int o : D)) ++ [.int o])) (.lst []) = .ok true := by
      have e := ne_lst (xs := l.map (fun (o : Nat) => (.int o : D)) ++ [.int o]) (ys := []) (by simp [okd]) (by simp [okd])
      rw [e]
      cases l <;> rfl
    simp only [List.map_cons, List.map_nil] at hl
    simp -implicitDefEqProofs [r_top_of, ir_top_of, runF_eq, hs, hl, oD, hne, last_lst]
def topOf (ws : List Wn) (os : List Nat) (x y : Int) : Option Nat := (os.filter (hasAt ws x y)).getLast?
theorem top_region (ws : List Wn) (os : List Nat) (x y : Int) : (os.filter fun o => decide (o ∈ regN ws x y)) = os.filter (hasAt ws x y) := by
  refine List.filter_congr fun o _ => ?_
  rw [Bool.eq_iff_iff, decide_eq_true_eq]
  exact mem_regN
theorem is_int_in {lo hi i : Int} : r_is_int.sem [.int i, .int lo, .int hi] = .ok (.bl (decide (lo ≤ i) && decide (i ≤ hi))) := is_int_ok (.int i) lo hi (by simp [okd])
theorem on_top_ok {ws : List Wn} {os : List Nat} (h : ∀ w ∈ ws, w.ok) (hl : ws.length ≤ 6) (ho : os.Perm (List.range ws.length)) {x y : Int} (hx : 0 ≤ x ∧ x < 12) (hy : 0 ≤ y ∧ y < 12) : r_on_top.sem [wsD ws, osD os, .int x, .int y] = .ok (oD (topOf ws os x y)) := by
  have a := check_both_ok h hl ho
  have b := region_at_ok ws x y
  have c := top_of_ok os (regN ws x y)
  rw [top_region] at c
  have dx : (decide (0 ≤ x) && decide (x ≤ 11)) = true := by simp; omega
  have dy : (decide (0 ≤ y) && decide (y ≤ 11)) = true := by simp; omega
  have ex := is_int_in (lo := 0) (hi := 11) (i := x)
  have ey := is_int_in (lo := 0) (hi := 11) (i := y)
  rw [dx] at ex
  rw [dy] at ey
  unfold cD at b
  simp -implicitDefEqProofs [r_on_top, ir_on_top, runF_eq, a, b, c, ex, ey, topOf]
end Pan

/-! Panestacks, part K3: all cells, overlaps, sizes. -/
namespace Pan
open PySem L2
/-! ### the dict of cells -/
def kvT (p : Int × Int) : D × D := (cD p, .bl true)
theorem eqv_cD (p q : Int × Int) : eqv (cD p) (cD q) = decide (p = q) := by
  obtain ⟨a, b⟩ := p
  obtain ⟨c, d⟩ := q
  show ((a == c) && ((b == d) && true)) = _
  by_cases h : a = c <;> by_cases h' : b = d <;> simp [h, h']
def addK (ks : List (Int × Int)) (p : Int × Int) : List (Int × Int) := if p ∈ ks then ks else ks ++ [p]
theorem dput_cD (ks : List (Int × Int)) (p : Int × Int) : dput (cD p) (.bl true) (ks.map kvT) = (addK ks p).map kvT := by
  unfold dput addK
  have e : ((ks.map kvT).any fun q => eqv q.1 (cD p)) = decide (p ∈ ks) := by
    rw [List.any_map, Bool.eq_iff_iff, List.any_eq_true, decide_eq_true_eq]
    simp only [Function.comp_apply, kvT, eqv_cD, decide_eq_true_eq]
    constructor
    · rintro ⟨q, hq, rfl⟩; exact hq
    · intro h; exact ⟨p, h, rfl⟩
  rw [e]
  by_cases h : p ∈ ks
  · rw [decide_eq_true h, if_pos rfl, if_pos h, List.map_map]
    refine List.map_congr_left fun q _ => ?_
    show (if eqv (cD q) (cD p) = true then (cD q, D.bl true) else (cD q, D.bl true)) = (cD q, D.bl true)
    exact ite_self _
  · rw [decide_eq_false h, if_neg (by simp), if_neg h, List.map_append]
    rfl
theorem addK_mem {ks : List (Int × Int)} {p q : Int × Int} : q ∈ addK ks p ↔ q ∈ ks ∨ q = p := by
  unfold addK
  split
  · constructor
    · exact .inl
    · rintro (h | rfl) <;> assumption
  · simp
theorem addK_nodup {ks : List (Int × Int)} {p : Int × Int} (h : ks.Nodup) : (addK ks p).Nodup := by
  unfold addK
  split
  · exact h
  · rename_i hp
    rw [List.nodup_append]
    refine ⟨h, by simp, fun a ha b hb => ?_⟩
    simp at hb
    subst hb
    intro e; subst e; exact hp ha
def grid : List (Int × Int) := (rngI 0 12).flatMap fun x => (rngI 0 12).map fun y => (x, y)
theorem mem_grid {p : Int × Int} : p ∈ grid ↔ (0 ≤ p.1 ∧ p.1 < 12) ∧ (0 ≤ p.2 ∧ p.2 < 12) := by
  obtain ⟨x, y⟩ := p
  unfold grid
  simp only [List.mem_flatMap, List.mem_map, Prod.mk.injEq, mem_rngI]
  constructor
  · rintro ⟨a, h, b, h', rfl, rfl⟩; exact ⟨h, h'⟩
  · rintro ⟨h, h'⟩; exact ⟨x, h, y, h', rfl, rfl⟩
theorem rngI_nodup (a b : Int) : (rngI a b).Nodup := by
  unfold rngI
  rw [List.nodup_iff_pairwise_ne, List.pairwise_map]
  refine (List.nodup_iff_pairwise_ne.mp List.nodup_range).imp ?_
  intro i j h e
  exact h (by omega)
theorem prod_nodup {xs ys : List Int} (hx : xs.Nodup) (hy : ys.Nodup) : (xs.flatMap fun x => ys.map fun y => (x, y)).Nodup := by
  induction xs with
  | nil => simp
  | cons a l ih =>
    rw [List.flatMap_cons, List.nodup_append]
    rw [List.nodup_cons] at hx
    refine ⟨?_, ih hx.2, ?_⟩
    · rw [List.nodup_iff_pairwise_ne, List.pairwise_map]
      refine (List.nodup_iff_pairwise_ne.mp hy).imp ?_
      intro i j h e
      simp only [Prod.mk.injEq, true_and] at e
      exact h e
    · intro p hp q hq e
      subst e
      simp only [List.mem_map] at hp
      obtain ⟨y, _, rfl⟩ := hp
      simp only [List.mem_flatMap, List.mem_map, Prod.mk.injEq] at hq
      obtain ⟨x, hx', y', _, rfl, _⟩ := hq
      exact hx.1 hx'
theorem grid_nodup : grid.Nodup := prod_nodup (rngI_nodup 0 12) (rngI_nodup 0 12)
theorem grid_len : grid.length = 144 := by decide +kernel
theorem len_le_grid {ks : List (Int × Int)} (h : ks.Nodup) (hs : ∀ p ∈ ks, p ∈ grid) : ks.length ≤ 144 := by
  have : ks.Perm (grid.filter fun p => decide (p ∈ ks)) := by
    rw [List.perm_ext_iff_of_nodup h (grid_nodup.filter _)]
    intro p
    rw [List.mem_filter, decide_eq_true_eq]
    exact ⟨fun q => ⟨hs p q, q⟩, fun q => q.2⟩
  rw [this.length_eq, ← grid_len]
  exact List.length_filter_le _ _
theorem cells_grid {w : Wn} (h : w.ok) {p : Int × Int} (hp : p ∈ cellsOf w) : p ∈ grid := by
  obtain ⟨h1, h2, h3, h4, h5, h6⟩ := h
  have := mem_cellsOf.mp hp
  unfold Wn.has at this
  simp only [Bool.and_eq_true, decide_eq_true_eq] at this
  rw [mem_grid]
  omega
theorem put_ok (ks : List (Int × Int)) (p : Int × Int) (s0 s2 : Slot) (hl : ks.length ≤ 1000) : xs (phi [r_cells_of]) (.put 1 (.var 3) (.lit (.bl true))) [s0, .own (.dic true (ks.map kvT)), s2, .val (cD p)] = .ok (.nx [s0, .own (.dic true ((addK ks p).map kvT)), s2, .val (cD p)]) := by
  have q : xs (phi [r_cells_of]) (.put 1 (.var 3) (.lit (.bl true))) [s0, .own (.dic true (ks.map kvT)), s2, .val (cD p)] = if keyOf true (cD p) && decide ((ks.map kvT).length < sizeLine) then .ok (.nx [s0, .own (.dic true (dput (cD p) (.bl true) (ks.map kvT))), s2, .val (cD p)]) else .bad := rfl
  have e : (keyOf true (cD p) && decide ((ks.map kvT).length < sizeLine)) = true := by
    rw [Bool.and_eq_true]
    refine ⟨rfl, decide_eq_true ?_⟩
    rw [List.length_map]
    exact Nat.lt_of_le_of_lt hl (by decide)
  rw [q, if_pos e, dput_cD]
/-- the state of all_cells: the dict's keys -/
def acI (d0 : D) (ks : List (Int × Int)) (e : Env) : Prop := ∃ s2 s3, e = [.val d0, .own (.dic true (ks.map kvT)), s2, s3]
theorem ac_inner (d0 : D) (s2 : Slot) : ∀ (cs ks : List (Int × Int)) (s3 : Slot), ks.Nodup → (∀ p ∈ ks, p ∈ grid) → (∀ p ∈ cs, p ∈ grid) →
    ∃ (ks' : List (Int × Int)) (s3' : Slot), forM (turnF (phi [r_cells_of]) (.name 3) (.cons (.put 1 (.var 3) (.lit (.bl true))) .nil)) (cs.map cD) [.val d0, .own (.dic true (ks.map kvT)), s2, s3] = .ok (.nx [.val d0, .own (.dic true (ks'.map kvT)), s2, s3']) ∧ ks'.Nodup ∧ ∀ p, p ∈ ks' ↔ p ∈ ks ∨ p ∈ cs
  | [], ks, s3, hn, hg, _ => ⟨ks, s3, rfl, hn, fun p => by simp⟩
  | c :: cs, ks, s3, hn, hg, hc => by
    have st : turnF (phi [r_cells_of]) (.name 3) (.cons (.put 1 (.var 3) (.lit (.bl true))) .nil) (cD c) [.val d0, .own (.dic true (ks.map kvT)), s2, s3] = .ok (.nx [.val d0, .own (.dic true ((addK ks c).map kvT)), s2, .val (cD c)]) := by
      unfold turnF
      rw [asgG_name, lift_ok, xss_cons]
      show andThen (xs _ _ [.val d0, .own (.dic true (ks.map kvT)), s2, .val (cD c)]) _ = _
      rw [put_ok ks c _ _ (Nat.le_trans (len_le_grid hn hg) (by decide))]
      rfl
    obtain ⟨ks', s3', q, n', m'⟩ := ac_inner d0 s2 cs (addK ks c) (.val (cD c)) (addK_nodup hn) (fun p hp => by
      rcases addK_mem.mp hp with h | rfl
      · exact hg p h
      · exact hc _ List.mem_cons_self) fun p hp => hc p (List.mem_cons_of_mem _ hp)
    refine ⟨ks', s3', ?_, n', fun p => ?_⟩
    · rw [List.map_cons]
      show andThen (turnF _ _ _ _ _) _ = _
      rw [st]
      exact q
    · rw [m' p, addK_mem, List.mem_cons, or_assoc]
theorem ac_outer (d0 : D) : ∀ (ws : List Wn) (ks : List (Int × Int)) (s2 s3 : Slot), (∀ w ∈ ws, w.ok) → ks.Nodup → (∀ p ∈ ks, p ∈ grid) →
    ∃ (ks' : List (Int × Int)) (s2' s3' : Slot), forM (turnF (phi [r_cells_of]) (.name 2) (.cons (.for_ (.name 3) .seq (.cons (.call 0 (.cons (.var 2) .nil)) .nil) (.cons (.put 1 (.var 3) (.lit (.bl true))) .nil)) .nil)) (ws.map wD) [.val d0, .own (.dic true (ks.map kvT)), s2, s3] = .ok (.nx [.val d0, .own (.dic true (ks'.map kvT)), s2', s3']) ∧ ks'.Nodup ∧ ∀ p, p ∈ ks' ↔ p ∈ ks ∨ ∃ w ∈ ws, p ∈ cellsOf w
  | [], ks, s2, s3, _, hn, hg => ⟨ks, s2, s3, rfl, hn, fun p => by simp⟩
  | w :: ws, ks, s2, s3, hw, hn, hg => by
    have hw0 := hw w List.mem_cons_self
    obtain ⟨k1, t3, q1, n1, m1⟩ := ac_inner d0 (.val (wD w)) (cellsOf w) ks s3 hn hg fun p hp => cells_grid hw0 hp
    have g1 : ∀ p ∈ k1, p ∈ grid := fun p hp => by
      rcases (m1 p).mp hp with h | h
      · exact hg p h
      · exact cells_grid hw0 h
    obtain ⟨ks', s2', s3', q, n', m'⟩ := ac_outer d0 ws k1 (.val (wD w)) t3 (fun v hv => hw v (List.mem_cons_of_mem _ hv)) n1 g1
    refine ⟨ks', s2', s3', ?_, n', fun p => ?_⟩
    · rw [List.map_cons]
      show andThen (turnF _ _ _ _ _) _ = _
      have st : turnF (phi [r_cells_of]) (.name 2) (.cons (.for_ (.name 3) .seq (.cons (.call 0 (.cons (.var 2) .nil)) .nil) (.cons (.put 1 (.var 3) (.lit (.bl true))) .nil)) .nil) (wD w) [.val d0, .own (.dic true (ks.map kvT)), s2, s3] = .ok (.nx [.val d0, .own (.dic true (k1.map kvT)), .val (wD w), t3]) := by
        unfold turnF
        rw [asgG_name, lift_ok, xss_cons, xs_for]
        simp -implicitDefEqProofs [cells_of_ok hw0, q1]
      rw [st]
      exact q
    · rw [m' p, m1 p]
      simp only [List.mem_cons, exists_eq_or_imp, or_assoc]
theorem all_cells_ok {ws : List Wn} (h : ∀ w ∈ ws, w.ok) : ∃ cs, r_all_cells.sem [wsD ws] = .ok (.lst cs) ∧ cs.length = (grid.filter fun p => ws.any fun w => w.has p.1 p.2).length := by
  obtain ⟨ks, s2, s3, q, n, m⟩ := ac_outer (wsD ws) ws [] .no .no h List.nodup_nil (by simp)
  have pe : ks.Perm (grid.filter fun p => ws.any fun w => w.has p.1 p.2) := by
    rw [List.perm_ext_iff_of_nodup n (grid_nodup.filter _)]
    intro p
    rw [m p, List.mem_filter, List.any_eq_true]
    constructor
    · rintro (h' | ⟨w, hw, hp⟩)
      · simp at h'
      · exact ⟨cells_grid (h w hw) hp, w, hw, mem_cellsOf.mp hp⟩
    · rintro ⟨_, w, hw, hp⟩
      exact .inr ⟨w, hw, mem_cellsOf.mpr hp⟩
  have hs : sortable (ks.map cD) = true := by
    unfold sortable
    rw [Bool.or_eq_true]
    right
    simp [isTupI, cD, isIntD]
  have hS : biS .sorted [.dic true (ks.map kvT)] = .ok (.lst (sortD (ks.map cD))) := by
    have e : biS .sorted [.dic true (ks.map kvT)] = sortS ((ks.map kvT).map (·.1)) := rfl
    rw [e, List.map_map]
    show sortS (ks.map cD) = _
    unfold sortS
    exact if_pos hs
  refine ⟨sortD (ks.map cD), ?_, ?_⟩
  · have q' : forM (turnF (phi [r_cells_of]) (.name 2) (.cons (.for_ (.name 3) .seq (.cons (.call 0 (.cons (.var 2) .nil)) .nil) (.cons (.put 1 (.var 3) (.lit (.bl true))) .nil)) .nil)) (ws.map wD) [.val (.tup (ws.map wD)), .own (.dic true []), .no, .no] = .ok (.nx [.val (wsD ws), .own (.dic true (ks.map kvT)), s2, s3]) := q
    simp -implicitDefEqProofs [r_all_cells, ir_all_cells, runF_eq, wsD, q', hS]
  · rw [(sortD_perm _).length_eq, List.length_map, pe.length_eq]
theorem covered_ok {ws : List Wn} (h : ∀ w ∈ ws, w.ok) (hl : ws.length ≤ 6) : r_covered.sem [wsD ws] = .ok (.int (grid.filter fun p => ws.any fun w => w.has p.1 p.2).length) := by
  have a := check_windows_ok (wsD ws) (okd_wsD 6 ws)
  rw [areW_wsD h hl] at a
  simp only [if_true] at a
  obtain ⟨cs, b, e⟩ := all_cells_ok h
  rw [← e]
  simp -implicitDefEqProofs [r_covered, ir_covered, runF_eq, a, b]
/-! ### overlaps, sizes -/
def meet (v w : Wn) : Wn := ⟨if w.l > v.l then w.l else v.l, if w.t > v.t then w.t else v.t, if w.r < v.r then w.r else v.r, if w.b < v.b then w.b else v.b⟩
theorem check_win {w : Wn} (h : w.ok) : r_check_window.sem [wD w] = .ok .non := by
  rw [check_window_ok _ (okd_wD 7 w), isW_wD h]
  rfl
theorem find_overlap_ok (v w : Wn) : r_find_overlap.sem [wD v, wD w] = .ok (if (meet v w).l < (meet v w).r ∧ (meet v w).t < (meet v w).b then wD (meet v w) else .non) := by
  by_cases h : (meet v w).l < (meet v w).r ∧ (meet v w).t < (meet v w).b
  · rw [if_pos h]
    obtain ⟨h1, h2⟩ := h
    simp only [meet] at h1 h2
    simp -implicitDefEqProofs [r_find_overlap, ir_find_overlap, runF_eq, wD, meet, h1, h2]
  · rw [if_neg h]
    simp only [meet, gt_iff_lt] at h
    simp -implicitDefEqProofs only [r_find_overlap, ir_find_overlap, runF_eq, wD]
    simp -implicitDefEqProofs [h]
theorem overlap_ok {v w : Wn} (hv : v.ok) (hw : w.ok) : r_overlap.sem [wD v, wD w] = .ok (if (meet v w).l < (meet v w).r ∧ (meet v w).t < (meet v w).b then wD (meet v w) else .non) := by
  simp -implicitDefEqProofs only [r_overlap, ir_overlap, runF_eq, check_win hv, check_win hw, find_overlap_ok, List.map_cons, List.map_nil, List.length_cons, List.length_nil, List.cons_append, List.nil_append, Nat.zero_add, Nat.reduceAdd, Nat.reduceSub, List.replicate, xss_cons, xss_nil, xs_expr, xs_ret, ev_call, evs_cons, evs_nil, ev_var, getV_zero, getV_succ, bind_ok, phi_zero, phi_succ, arity_if, n_check_window, n_find_overlap, lift_ok, andThen_nx, andThen_rt, outF_rt, if_true]
theorem size_ok {w : Wn} (h : w.ok) : r_size.sem [wD w] = .ok (.int ((w.r - w.l) * (w.b - w.t))) := by
  have h' := h
  obtain ⟨h1, h2, h3, h4, h5, h6⟩ := h'
  have m : binS .Mult (.int (w.r - w.l)) (.int (w.b - w.t)) = .ok (.int ((w.r - w.l) * (w.b - w.t))) := mul_int (by omega)
  have c := check_win h
  unfold wD at c
  simp -implicitDefEqProofs [r_size, ir_size, runF_eq, c, wD, m]
end Pan

/-! Panestacks, part K4: what the laws draw. -/
namespace Pan
open PySem L2
/-! ### a draw -/
abbrev pkC : E := .and (.cons (.cmp .Gt (.var 4) (.lit (.int (0)))) (.cons (.cmp .Gt (.var 5) (.lit (.int (0)))) .nil))
abbrev pkB : Ss := .cons (.par [false, false] [4, 5] (.cons (.bin .FloorDiv (.var 4) (.lit (.int (840)))) (.cons (.bin .Sub (.var 5) (.lit (.int (1)))) .nil))) .nil
theorem pk_turn (a b c d : D) (r g : Int) (s : Slot) : xss (phi []) pkB [.val a, .val b, .val c, .val d, .val (.int r), .val (.int g), s] = .ok (.nx [.val a, .val b, .val c, .val d, .val (.int (r / 840)), .val (.int (g - 1)), s]) := by
  have q : binS .FloorDiv (.int r) (.int 840) = .ok (.int (r / 840)) := div_int (by omega)
  simp -implicitDefEqProofs [pkB, q]
theorem pk_loop (a b c d : D) (s : Slot) : ∀ (n : Nat) (r g : Int), g < n → ∃ r' g', whlM (ev (phi []) pkC) (xss (phi []) pkB) (n + 1) [.val a, .val b, .val c, .val d, .val (.int r), .val (.int g), s] = .ok (.nx [.val a, .val b, .val c, .val d, .val (.int r'), .val (.int g'), s])
  | n, r, g, h => by
    have hc : ev (phi []) pkC [.val a, .val b, .val c, .val d, .val (.int r), .val (.int g), s] = .ok (.bl (decide (0 < r) && decide (0 < g))) := by
      simp -implicitDefEqProofs [pkC]
    have un : ∀ m e, whlM (ev (phi []) pkC) (xss (phi []) pkB) (m + 1) e = lift (ev (phi []) pkC e) e fun x => match x with
      | .bl true => andThen (xss (phi []) pkB e) (whlM (ev (phi []) pkC) (xss (phi []) pkB) m)
      | .bl false => .ok (.nx e)
      | _ => .bad := fun _ _ => rfl
    rw [un, hc, lift_ok]
    cases hb : (decide (0 < r) && decide (0 < g)) with
    | false => exact ⟨r, g, rfl⟩
    | true =>
      rw [Bool.and_eq_true, decide_eq_true_eq, decide_eq_true_eq] at hb
      cases n with
      | zero => omega
      | succ n =>
        obtain ⟨r', g', q⟩ := pk_loop a b c d s n (r / 840) (g - 1) (by omega)
        refine ⟨r', g', ?_⟩
        show andThen (xss (phi []) pkB _) _ = _
        rw [pk_turn]
        exact q
theorem pow18 : binS .Pow (.int 10) (.int 18) = .ok (.int (10 ^ 18)) := by
  have q : binS .Pow (.int 10) (.int 18) = if (0 : Int) ≤ 18 ∧ (18 : Int) ≤ 1000 ∧ (10 : Int).natAbs < 2 ^ 64 then R.ok (.int (10 ^ (18 : Int).toNat)) else .bad := rfl
  rw [q, if_pos (by decide)]
  rfl
theorem pick_ok {ns : List Int} (hn : ns.length ≤ 63) {k m : Int} (hk : 0 ≤ k ∧ k < 3000) (hm : 0 < m) : ∃ i, 0 ≤ i ∧ i < m ∧ r__law_pick.sem [.scr ns, .int k, .int m] = .ok (.int i) := by
  obtain ⟨cell, hc⟩ : ∃ cell : Int, ev (phi []) (.ife (.cmp .NotEq (.var 0) (.lst .nil)) (.ix (.var 0) (.bin .Mod (.var 1) (.bi .len (.cons (.var 0) .nil)))) (.lit (.int (0)))) [.val (.scr ns), .val (.int k), .val (.int m), .no, .no, .no, .no] = .ok (.int cell) := by
    have e : cmpS .NotEq (.scr ns) (.lst []) = .ok (!ns.isEmpty) := rfl
    cases ns with
    | nil => exact ⟨0, by simp -implicitDefEqProofs [e]⟩
    | cons a l =>
      have hp : (0 : Int) < ((a :: l).length : Nat) := by rw [List.length_cons]; omega
      have q : binS .Mod (.int k) (.int ((a :: l).length : Nat)) = .ok (.int (k % ((a :: l).length : Nat))) := mod_int hp
      have h1 := Int.emod_nonneg k (Int.ne_of_gt hp)
      have h2 := Int.emod_lt_of_pos k hp
      generalize k % ((a :: l).length : Nat) = j at q h1 h2
      have hj : j.toNat < (a :: l).length := by omega
      refine ⟨(a :: l)[j.toNat], ?_⟩
      have x : ixS (.scr (a :: l)) (.int j) = .ok (.int (a :: l)[j.toNat]) := by
        have x0 : ixS (.scr (a :: l)) (.int j) = match atI (a :: l) j with | some d => .ok (.int d) | none => .bad := rfl
        have x1 : atI (a :: l) j = some (a :: l)[j.toNat] := by
          unfold atI ixN
          rw [if_pos h1, if_pos h2]
          exact List.getElem?_eq_getElem hj
        rw [x0, x1]
      have e' : cmpS .NotEq (.scr (a :: l)) (.lst []) = .ok true := rfl
      simp -implicitDefEqProofs only [ev_ife, ev_cmp, ev_var, getV_zero, getV_succ, ev_lst, evs_nil, bind_ok, fit_nil, e', asB_bl, if_true, ev_ix, ev_bin, ev_bi, evs_cons, len_scr, q, x]
  have hd : binS .FloorDiv (.int cell) (.int (10 ^ 18)) = .ok (.int (cell / 10 ^ 18)) := div_int (by decide)
  obtain ⟨mx, hmx, m1⟩ : ∃ mx : Int, biS .max [.int ns.length, .int 1] = .ok (.int mx) ∧ (0 < mx ∧ mx < 2 ^ 64) := ⟨_, max2 _ _, by split <;> omega⟩
  have hg : binS .FloorDiv (.int k) (.int mx) = .ok (.int (k / mx)) := div_int m1
  have kg : k / mx < 3999 := by
    have : k / mx ≤ k := Int.ediv_le_self _ hk.1
    omega
  obtain ⟨r', g', hw⟩ := pk_loop (.scr ns) (.int k) (.int m) (.int cell) .no 3999 (cell / 10 ^ 18) (k / mx) kg
  have hw' : whlM (ev (phi []) pkC) (xss (phi []) pkB) 4000 [.val (.scr ns), .val (.int k), .val (.int m), .val (.int cell), .val (.int (cell / 10 ^ 18)), .val (.int (k / mx)), .no] = .ok (.nx [.val (.scr ns), .val (.int k), .val (.int m), .val (.int cell), .val (.int r'), .val (.int g'), .no]) := hw
  have m0 : ∀ z : Int, binS .Mod (.int z) (.int m) = .ok (.int (z % m)) := fun z => mod_int hm
  by_cases hr : 0 < r'
  · refine ⟨r' % 840 % m, Int.emod_nonneg _ (Int.ne_of_gt hm), Int.emod_lt_of_pos _ hm, ?_⟩
    have m840 : binS .Mod (.int r') (.int 840) = .ok (.int (r' % 840)) := mod_int (by omega)
    simp -implicitDefEqProofs only [r__law_pick, ir__law_pick, runF_eq, List.map_cons, List.map_nil, List.length_cons, List.length_nil, List.cons_append, List.nil_append, Nat.zero_add, Nat.reduceAdd, Nat.reduceSub, List.replicate, xss_cons, xs_asg, hc, lift_ok, asgG_name, List.set_cons_succ, List.set_cons_zero, andThen_nx, xs_par, evs_cons, evs_nil, ev_bin, ev_lit, ev_var, getV_zero, getV_succ, bind_ok, pow18, hd, ev_bi, len_scr, hmx, hg, parE_val, parE_nil, xs_whl, hw', xs_ife, ev_cmp, gt_int, hr, decide_true, stpI_t, xs_ret, m840, m0, andThen_rt, outF_rt]
  · let dr : Int := (cell * 31 + 6151 * (k + 1)) * 40692 % 2147483399
    have d1 : 0 ≤ dr := Int.emod_nonneg _ (by decide)
    have d2 : dr < 2147483399 := Int.emod_lt_of_pos _ (by decide)
    have a1 : binS .Mult (.int cell) (.int 31) = .ok (.int (cell * 31)) := mul_int' (by decide)
    have a2 : binS .Mult (.int 6151) (.int (k + 1)) = .ok (.int (6151 * (k + 1))) := mul_int (by decide)
    have a3 : binS .Mult (.int (cell * 31 + 6151 * (k + 1))) (.int 40692) = .ok (.int ((cell * 31 + 6151 * (k + 1)) * 40692)) := mul_int' (by decide)
    have a4 : binS .Mod (.int ((cell * 31 + 6151 * (k + 1)) * 40692)) (.int 2147483399) = .ok (.int dr) := mod_int (by decide)
    have a5 : binS .Mult (.int dr) (.int dr) = .ok (.int (dr * dr)) := mul_int (by omega)
    have a6 : binS .FloorDiv (.int dr) (.int 31) = .ok (.int (dr / 31)) := div_int (by decide)
    have a7 : binS .Mod (.int (dr * dr + dr / 31)) (.int 2147483629) = .ok (.int ((dr * dr + dr / 31) % 2147483629)) := mod_int (by decide)
    refine ⟨(dr * dr + dr / 31) % 2147483629 % m, Int.emod_nonneg _ (Int.ne_of_gt hm), Int.emod_lt_of_pos _ hm, ?_⟩
    simp -implicitDefEqProofs only [r__law_pick, ir__law_pick, runF_eq, List.map_cons, List.map_nil, List.length_cons, List.length_nil, List.cons_append, List.nil_append, Nat.zero_add, Nat.reduceAdd, Nat.reduceSub, List.replicate, xss_cons, xss_nil, xs_asg, hc, lift_ok, asgG_name, List.set_cons_succ, List.set_cons_zero, andThen_nx, xs_par, evs_cons, evs_nil, ev_bin, ev_lit, ev_var, getV_zero, getV_succ, bind_ok, pow18, hd, ev_bi, len_scr, hmx, hg, parE_val, parE_nil, xs_whl, hw', xs_ife, ev_cmp, gt_int, hr, decide_false, stpI_f, xs_ret, a1, a2, a3, a4, a5, a6, a7, add_int, m0, andThen_rt, outF_rt]
/-! ### a window -/
theorem mul_small {i j : Int} (h : 0 ≤ i ∧ i ≤ 1000) : binS .Mult (.int i) (.int j) = .ok (.int (i * j)) := mul_int (by omega)
theorem pane_ok {ns : List Int} (hn : ns.length ≤ 63) {k : Int} (hk : 0 ≤ k ∧ k < 2000) : ∃ w : Wn, w.ok ∧ r__law_pane.sem [.scr ns, .int k] = .ok (wD w) := by
  obtain ⟨p0, a0, b0, e0⟩ := pick_ok hn (k := k) (m := 4) (by omega) (by omega)
  obtain ⟨p1, a1, b1, e1⟩ := pick_ok hn (k := k + 1) (m := 3) (by omega) (by omega)
  obtain ⟨p2, a2, b2, e2⟩ := pick_ok hn (k := k + 2) (m := 3) (by omega) (by omega)
  obtain ⟨p3, a3, b3, e3⟩ := pick_ok hn (k := k + 3) (m := 2) (by omega) (by omega)
  obtain ⟨p4, a4, b4, e4⟩ := pick_ok hn (k := k + 4) (m := 2) (by omega) (by omega)
  obtain ⟨st, s1, s2, es⟩ : ∃ st : Int, 1 ≤ st ∧ st ≤ 3 ∧ ixS (.tup [.int 1, .int 2, .int 2, .int 3]) (.int p0) = .ok (.int st) := by
    have : p0 = 0 ∨ p0 = 1 ∨ p0 = 2 ∨ p0 = 3 := by omega
    rcases this with rfl | rfl | rfl | rfl
    · exact ⟨1, by omega, by omega, rfl⟩
    · exact ⟨2, by omega, by omega, rfl⟩
    · exact ⟨2, by omega, by omega, rfl⟩
    · exact ⟨3, by omega, by omega, rfl⟩
  have m1 : binS .Mult (.int st) (.int p1) = .ok (.int (st * p1)) := mul_small (by omega)
  have m2 : binS .Mult (.int st) (.int p2) = .ok (.int (st * p2)) := mul_small (by omega)
  have m3 : binS .Mult (.int st) (.int (1 + p3)) = .ok (.int (st * (1 + p3))) := mul_small (by omega)
  have m4 : binS .Mult (.int st) (.int (1 + p4)) = .ok (.int (st * (1 + p4))) := mul_small (by omega)
  refine ⟨⟨st * p1, st * p2, if 12 < st * p1 + st * (1 + p3) then 12 else st * p1 + st * (1 + p3), if 12 < st * p2 + st * (1 + p4) then 12 else st * p2 + st * (1 + p4)⟩, ?_, ?_⟩
  · have q1 : p1 = 0 ∨ p1 = 1 ∨ p1 = 2 := by omega
    have q2 : p2 = 0 ∨ p2 = 1 ∨ p2 = 2 := by omega
    have q3 : p3 = 0 ∨ p3 = 1 := by omega
    have q4 : p4 = 0 ∨ p4 = 1 := by omega
    unfold Wn.ok
    refine ⟨?_, ?_, ?_, ?_, ?_, ?_⟩ <;> rcases q1 with rfl | rfl | rfl <;> rcases q2 with rfl | rfl | rfl <;> rcases q3 with rfl | rfl <;> rcases q4 with rfl | rfl <;> simp only <;> omega
  · simp -implicitDefEqProofs [r__law_pane, ir__law_pane, runF_eq, e0, e1, e2, e3, e4, es, m1, m2, m3, m4, wD]
theorem panes_ok {ns : List Int} (hn : ns.length ≤ 63) {k m : Int} (hk : 0 ≤ k ∧ k < 1000) (hm : 0 ≤ m ∧ m ≤ 100) : ∃ ws : List Wn, (∀ w ∈ ws, w.ok) ∧ (ws.length : Int) ≤ m ∧ r__law_panes.sem [.scr ns, .int k, .int m] = .ok (wsD ws) := by
  obtain ⟨p, a, b, e⟩ := pick_ok hn (k := k) (m := m + 1) (by omega) (by omega)
  have rg : itS .rng1 [.int p] = .ok ((rngI 0 p).map .int) := by
    rw [rng1_ok (by omega) (by omega), ← rangeD_rngI, Int.sub_zero]
  have hpn : ∀ i : Int, 0 ≤ i → i < 101 → ∃ w : Wn, w.ok ∧ r__law_pane.sem [.scr ns, .int (k + 1 + 5 * i)] = .ok (wD w) := fun i h1 h2 => pane_ok hn (by omega)
  let f : Int → Wn := fun i => if h : 0 ≤ i ∧ i < 101 then Classical.choose (hpn i h.1 h.2) else ⟨0, 0, 1, 1⟩
  have hf : ∀ i, 0 ≤ i ∧ i < 101 → (f i).ok ∧ r__law_pane.sem [.scr ns, .int (k + 1 + 5 * i)] = .ok (wD (f i)) := fun i h => by
    have e : f i = Classical.choose (hpn i h.1 h.2) := dif_pos h
    rw [e]
    exact Classical.choose_spec (hpn i h.1 h.2)
  have hl : lcM ((rngI 0 p).map .int) (itemL (phi [r__law_pane, r__law_pick]) [.val (.scr ns), .val (.int k), .val (.int m), .no] [3] (.name 3) .none (.call 0 (.cons (.var 0) (.cons (.bin .Add (.bin .Add (.var 1) (.lit (.int (1)))) (.bin .Mult (.lit (.int (5))) (.var 3))) .nil)))) = .ok ((rngI 0 p).map fun i => wD (f i)) := by
    refine lcM_mapI _ _ fun i hi => ?_
    have hi := mem_rngI.mp hi
    have q := (hf i (by omega)).2
    have mm : binS .Mult (.int 5) (.int i) = .ok (.int (5 * i)) := mul_small (by omega)
    simp -implicitDefEqProofs [itemL, q, mm]
  refine ⟨(rngI 0 p).map f, fun w hw => ?_, ?_, ?_⟩
  · obtain ⟨i, hi, rfl⟩ := List.mem_map.mp hw
    exact (hf i (by have := mem_rngI.mp hi; omega)).1
  · rw [List.length_map]
    unfold rngI
    rw [List.length_map, List.length_range]
    omega
  · simp -implicitDefEqProofs [r__law_panes, ir__law_panes, runF_eq, e, rg, hl, wsD]
theorem law_in_ok (w : Wn) (x y : Int) : r__law_in.sem [wD w, .int x, .int y] = .ok (.bl (w.has x y)) := by
  simp -implicitDefEqProofs [r__law_in, ir__law_in, runF_eq, wD, Wn.has, Bool.and_assoc]
end Pan

/-! Panestacks, part K5: orders that the laws draw; the law's own topmost window. -/
namespace Pan
open PySem L2
def iN (l : List Nat) : List D := l.map fun (o : Nat) => .int o
theorem perm_erase {α : Type} : ∀ (m : List α) (k : Nat) (x : α), m[k]? = some x → (x :: m.eraseIdx k).Perm m
  | [], _, _, h => by simp at h
  | a :: m, 0, x, h => by simp at h; subst h; exact .refl _
  | a :: m, k + 1, x, h => by
    rw [List.getElem?_cons_succ] at h
    rw [List.eraseIdx_cons_succ]
    exact (List.Perm.swap ..).trans ((perm_erase m k x h).cons a)
theorem erase_iN (m : List Nat) (k : Nat) : (iN m).eraseIdx k = iN (m.eraseIdx k) := by
  unfold iN
  induction m generalizing k with
  | nil => simp
  | cons a m ih =>
    cases k with
    | zero => simp
    | succ k => simp [ih]
abbrev odC : E := .cmp .NotEq (.ovar 3) (.lst .nil)
abbrev odA : E := .call 0 (.cons (.var 0) (.cons (.bin .Add (.var 1) (.bi .len (.cons (.ovar 3) .nil))) (.cons (.bi .len (.cons (.ovar 3) .nil)) .nil)))
abbrev odB : Ss := .cons (.apop 4 3 odA) .nil
theorem xs_apop (Φ : Nat → List D → R D) (s0 s1 s2 : Slot) (m l : List D) (a : E) : xs Φ (.apop 4 3 a) [s0, s1, s2, .own (.lst m), .own (.lst l)] = lift (ev Φ a [s0, s1, s2, .own (.lst m), .own (.lst l)]) [s0, s1, s2, .own (.lst m), .own (.lst l)] fun d => match d with
    | .int k => if 0 ≤ k then (match m[k.toNat]? with
      | some x => if l.length < sizeLine then .ok (.nx [s0, s1, s2, .own (.lst (m.eraseIdx k.toNat)), .own (.lst (l ++ [x]))]) else .bad
      | none => .bad) else .bad
    | _ => .bad := rfl
theorem od_turn {ns : List Int} (hn : ns.length ≤ 63) {k : Int} (hk : 0 ≤ k ∧ k < 1000) (many : D) (m l : List Nat) (hm : m ≠ []) (hm2 : m.length ≤ 1000) (hl : l.length ≤ 1000) :
    ∃ m' l' : List Nat, m'.length + 1 = m.length ∧ l'.length = l.length + 1 ∧ (l' ++ m').Perm (l ++ m) ∧ xss (phi [r__law_pick]) odB [.val (.scr ns), .val (.int k), .val many, .own (.lst (iN m)), .own (.lst (iN l))] = .ok (.nx [.val (.scr ns), .val (.int k), .val many, .own (.lst (iN m')), .own (.lst (iN l'))]) := by
  have hp : 0 < m.length := List.length_pos_iff.mpr hm
  obtain ⟨i, h1, h2, e⟩ := pick_ok hn (k := k + (m.length : Nat)) (m := (m.length : Nat)) (by omega) (by omega)
  have hi : i.toNat < m.length := by omega
  have hx : (iN m)[i.toNat]? = some (.int (m[i.toNat] : Nat)) := by
    unfold iN
    rw [List.getElem?_map, List.getElem?_eq_getElem hi]
    rfl
  refine ⟨m.eraseIdx i.toNat, l ++ [m[i.toNat]], ?_, by simp, ?_, ?_⟩
  · rw [List.length_eraseIdx, if_pos hi]; omega
  · rw [List.append_assoc]
    refine List.Perm.append_left l ?_
    exact perm_erase m i.toNat _ (List.getElem?_eq_getElem hi)
  · have ea : ev (phi [r__law_pick]) odA [.val (.scr ns), .val (.int k), .val many, .own (.lst (iN m)), .own (.lst (iN l))] = .ok (.int i) := by
      have len : (iN m).length = m.length := by unfold iN; rw [List.length_map]
      simp -implicitDefEqProofs [odA, len, e]
    rw [xss_cons, xs_apop, ea, lift_ok]
    simp only [h1, if_true, hx]
    have hs : (iN l).length < sizeLine := by unfold iN; rw [List.length_map]; exact Nat.lt_of_le_of_lt hl (by decide)
    rw [if_pos hs, erase_iN]
    have : iN l ++ [D.int (m[i.toNat] : Nat)] = iN (l ++ [m[i.toNat]]) := by unfold iN; rw [List.map_append]; rfl
    rw [this]
    rfl
theorem od_loop {ns : List Int} (hn : ns.length ≤ 63) {k : Int} (hk : 0 ≤ k ∧ k < 1000) (many : D) : ∀ (n : Nat) (m l : List Nat), m.length < n → m.length + l.length ≤ 1000 →
    ∃ l' : List Nat, l'.Perm (l ++ m) ∧ whlM (ev (phi [r__law_pick]) odC) (xss (phi [r__law_pick]) odB) n [.val (.scr ns), .val (.int k), .val many, .own (.lst (iN m)), .own (.lst (iN l))] = .ok (.nx [.val (.scr ns), .val (.int k), .val many, .own (.lst []), .own (.lst (iN l'))])
  | 0, m, l, h, _ => by omega
  | n + 1, m, l, h, hs => by
    have un : ∀ m e, whlM (ev (phi [r__law_pick]) odC) (xss (phi [r__law_pick]) odB) (m + 1) e = lift (ev (phi [r__law_pick]) odC e) e fun x => match x with
      | .bl true => andThen (xss (phi [r__law_pick]) odB e) (whlM (ev (phi [r__law_pick]) odC) (xss (phi [r__law_pick]) odB) m)
      | .bl false => .ok (.nx e)
      | _ => .bad := fun _ _ => rfl
    have okm : okd 8 (.lst (iN m)) = true := okd_lstI m
    have hc : ev (phi [r__law_pick]) odC [.val (.scr ns), .val (.int k), .val many, .own (.lst (iN m)), .own (.lst (iN l))] = .ok (.bl (!eqvs (iN m) [])) := by
      have q := ne_lst (ys := []) okm (by simp [okd])
      simp -implicitDefEqProofs [odC, q]
    rw [un, hc, lift_ok]
    cases m with
    | nil => exact ⟨l, by rw [List.append_nil], rfl⟩
    | cons a m =>
      obtain ⟨m', l', q1, q2, p, t⟩ := od_turn hn hk many (a :: m) l (by simp) (by omega) (by omega)
      obtain ⟨l'', p', t'⟩ := od_loop hn hk many n m' l' (by omega) (by omega)
      refine ⟨l'', p'.trans p, ?_⟩
      show andThen (xss (phi [r__law_pick]) odB _) _ = _
      rw [t]
      exact t'
theorem order_ok {ns : List Int} (hn : ns.length ≤ 63) {k : Int} (hk : 0 ≤ k ∧ k < 1000) (n : Nat) (h : n ≤ 500) : ∃ os : List Nat, os.Perm (List.range n) ∧ r__law_order.sem [.scr ns, .int k, .int n] = .ok (osD os) := by
  obtain ⟨os, p, t⟩ := od_loop hn hk (.int n) 4000 (List.range n) [] (by rw [List.length_range]; omega) (by rw [List.length_range]; simp; omega)
  rw [List.nil_append] at p
  refine ⟨os, p, ?_⟩
  have hr : biS .lrange [.int n] = .ok (.lst (iN (List.range n))) := by rw [lrange_ok (by omega), rangeD_eq]; rfl
  have t' : whlM (ev (phi [r__law_pick]) odC) (xss (phi [r__law_pick]) odB) 4000 [.val (.scr ns), .val (.int k), .val (.int n), .own (.lst (iN (List.range n))), .own (.lst [])] = .ok (.nx [.val (.scr ns), .val (.int k), .val (.int n), .own (.lst []), .own (.lst (iN os))]) := t
  simp -implicitDefEqProofs only [r__law_order, ir__law_order, runF_eq, List.map_cons, List.map_nil, List.length_cons, List.length_nil, List.cons_append, List.nil_append, Nat.zero_add, Nat.reduceAdd, Nat.reduceSub, List.replicate, xss_cons, xss_nil, lift_ok, List.set_cons_succ, List.set_cons_zero, andThen_nx, xs_par, evs_cons, evs_nil, ev_lst, fit_nil, ev_var, getV_zero, getV_succ, bind_ok, ev_bi, hr, parE_own, parE_nil, xs_whl, t', xs_frz, frz_succ, frz_own, xs_ret, tuple_lst, andThen_rt, outF_rt]
  rfl
/-! ### the topmost window, found by the law -/
theorem ix_wsD {ws : List Wn} {o : Nat} {w : Wn} (h : ws[o]? = some w) : ixS (wsD ws) (.int o) = .ok (wD w) := by
  have hl := (List.getElem?_eq_some_iff.mp h).1
  have q : ixS (wsD ws) (.int o) = match atI (ws.map wD) (o : Int) with | some d => .ok d | none => .bad := rfl
  have e : atI (ws.map wD) (o : Int) = some (wD w) := by
    unfold atI ixN
    rw [if_pos (by omega), if_pos (by rw [List.length_map]; omega)]
    show (ws.map wD)[(o : Int).toNat]? = _
    rw [Int.toNat_natCast, List.getElem?_map, h]
    rfl
  rw [q, e]
abbrev tpB : Ss := .cons (.ife (.call 0 (.cons (.ix (.var 0) (.var 5)) (.cons (.var 2) (.cons (.var 3) .nil)))) (.cons (.asg (.name 4) (.var 5)) .nil) .nil) .nil
theorem tp_loop (ws : List Wn) (d1 : D) (x y : Int) : ∀ (os pre : List Nat) (s : Slot), (∀ o ∈ os, o < ws.length) → ∃ s', forM (turnF (phi [r__law_in]) (.name 5) tpB) (iN os) [.val (wsD ws), .val d1, .val (.int x), .val (.int y), .val (oD (pre.filter (hasAt ws x y)).getLast?), s] = .ok (.nx [.val (wsD ws), .val d1, .val (.int x), .val (.int y), .val (oD ((pre ++ os).filter (hasAt ws x y)).getLast?), s'])
  | [], pre, s, _ => ⟨s, by rw [List.append_nil]; rfl⟩
  | o :: os, pre, s, h => by
    obtain ⟨w, hw⟩ : ∃ w, ws[o]? = some w := ⟨_, List.getElem?_eq_getElem (h o List.mem_cons_self)⟩
    obtain ⟨s', q⟩ := tp_loop ws d1 x y os (pre ++ [o]) (.val (.int o)) fun a ha => h a (List.mem_cons_of_mem _ ha)
    refine ⟨s', ?_⟩
    rw [List.append_assoc] at q
    have st : turnF (phi [r__law_in]) (.name 5) tpB (.int o) [.val (wsD ws), .val d1, .val (.int x), .val (.int y), .val (oD (pre.filter (hasAt ws x y)).getLast?), s] = .ok (.nx [.val (wsD ws), .val d1, .val (.int x), .val (.int y), .val (oD ((pre ++ [o]).filter (hasAt ws x y)).getLast?), .val (.int o)]) := by
      have hh : hasAt ws x y o = w.has x y := by unfold hasAt; rw [hw]
      unfold turnF
      cases hb : w.has x y with
      | true =>
        have e : ((pre ++ [o]).filter (hasAt ws x y)).getLast? = some o := by
          rw [List.filter_append, List.filter_cons_of_pos (by rw [hh, hb])]
          simp
        rw [e]
        simp -implicitDefEqProofs [tpB, ix_wsD hw, law_in_ok, hb, oD]
      | false =>
        have e : ((pre ++ [o]).filter (hasAt ws x y)) = pre.filter (hasAt ws x y) := by
          rw [List.filter_append, List.filter_cons_of_neg (by rw [hh, hb]; decide)]
          simp
        rw [e]
        simp -implicitDefEqProofs [tpB, ix_wsD hw, law_in_ok, hb]
    show andThen (turnF _ _ _ _ _) _ = _
    rw [st]
    exact q
theorem law_top_ok {ws : List Wn} {os : List Nat} (ho : ∀ o ∈ os, o < ws.length) (x y : Int) : r__law_top.sem [wsD ws, osD os, .int x, .int y] = .ok (oD (topOf ws os x y)) := by
  obtain ⟨s', q⟩ := tp_loop ws (osD os) x y os [] .no ho
  have q' : forM (turnF (phi [r__law_in]) (.name 5) tpB) (iN os) [.val (wsD ws), .val (osD os), .val (.int x), .val (.int y), .val .non, .no] = .ok (.nx [.val (wsD ws), .val (osD os), .val (.int x), .val (.int y), .val (oD (topOf ws os x y)), s']) := q
  have hs : itS .seq [osD os] = .ok (iN os) := rfl
  simp -implicitDefEqProofs [r__law_top, ir__law_top, runF_eq, hs, q']
end Pan

/-! Panestacks, part K6: seen, hidden, whole, hiders. -/
namespace Pan
open PySem L2
theorem xs_app_eq (Φ : Nat → List D → R D) (i : Nat) (a : E) (e : Env) : xs Φ (.app i a) e = match e[i]? with
    | some (.own (.lst l)) => lift (ev Φ a e) e fun d => if l.length < sizeLine then .ok (.nx (e.set i (.own (.lst (l ++ [d]))))) else .bad
    | _ => .bad := rfl
theorem app_ok {Φ : Nat → List D → R D} {i : Nat} {a : E} {e : Env} {l : List D} {d : D} (h : e[i]? = some (.own (.lst l))) (ha : ev Φ a e = .ok d) (hl : l.length ≤ 1000) : xs Φ (.app i a) e = .ok (.nx (e.set i (.own (.lst (l ++ [d]))))) := by
  rw [xs_app_eq, h]
  show lift (ev Φ a e) e _ = _
  rw [ha, lift_ok, if_pos (Nat.lt_of_le_of_lt hl (by decide))]
theorem xs_ext_eq (Φ : Nat → List D → R D) (i : Nat) (a : E) (e : Env) : xs Φ (.ext i a) e = match e[i]? with
    | some (.own (.lst l)) => lift (ev Φ a e) e fun d => match d with
      | .lst m => if l.length + m.length ≤ sizeLine then .ok (.nx (e.set i (.own (.lst (l ++ m))))) else .bad
      | _ => .bad
    | _ => .bad := rfl
theorem ext_ok {Φ : Nat → List D → R D} {i : Nat} {a : E} {e : Env} {l m : List D} (h : e[i]? = some (.own (.lst l))) (ha : ev Φ a e = .ok (.lst m)) (hl : l.length + m.length ≤ 100000) : xs Φ (.ext i a) e = .ok (.nx (e.set i (.own (.lst (l ++ m))))) := by
  rw [xs_ext_eq, h]
  show lift (ev Φ a e) e _ = _
  rw [ha, lift_ok]
  exact if_pos (Nat.le_trans hl (by decide))
theorem grid_size {w : Wn} (h : w.ok) : ((grid.filter fun p => w.has p.1 p.2).length : Int) = (w.r - w.l) * (w.b - w.t) := by
  have pe : (grid.filter fun p => w.has p.1 p.2).Perm (cellsOf w) := by
    have nd : (cellsOf w).Nodup := prod_nodup (rngI_nodup _ _) (rngI_nodup _ _)
    rw [List.perm_ext_iff_of_nodup (grid_nodup.filter _) nd]
    intro p
    rw [List.mem_filter]
    exact ⟨fun q => mem_cellsOf.mpr q.2, fun q => ⟨cells_grid h q, mem_cellsOf.mp q⟩⟩
  have e : ∀ l : List Int, (l.flatMap fun x => (rngI w.t w.b).map fun y => (x, y)).length = l.length * (rngI w.t w.b).length := fun l => by
    induction l with
    | nil => simp
    | cons a l ih => rw [List.flatMap_cons, List.length_append, ih, List.length_map, List.length_cons, Nat.add_one_mul]; omega
  rw [pe.length_eq]
  unfold cellsOf
  rw [e]
  obtain ⟨h1, h2, h3, h4, h5, h6⟩ := h
  unfold rngI
  rw [List.length_map, List.length_range, List.length_map, List.length_range, Int.natCast_mul, Int.toNat_of_nonneg (by omega), Int.toNat_of_nonneg (by omega)]
theorem top_none {ws : List Wn} {os : List Nat} (ho : os.Perm (List.range ws.length)) (x y : Int) : (topOf ws os x y).isSome = ws.any fun w => w.has x y := by
  unfold topOf
  rw [Bool.eq_iff_iff, List.any_eq_true]
  cases hf : os.filter (hasAt ws x y) with
  | nil =>
    constructor
    · intro h; cases h
    · rintro ⟨w, hw, hh⟩
      obtain ⟨i, hi⟩ := List.getElem?_of_mem hw
      have him : i ∈ os := ho.mem_iff.mpr (List.mem_range.mpr (List.getElem?_eq_some_iff.mp hi).1)
      have : i ∈ os.filter (hasAt ws x y) := List.mem_filter.mpr ⟨him, by unfold hasAt; rw [hi]; exact hh⟩
      rw [hf] at this
      cases this
  | cons o l =>
    constructor
    · intro _
      have : o ∈ os.filter (hasAt ws x y) := by rw [hf]; exact List.mem_cons_self
      have hh := (List.mem_filter.mp this).2
      unfold hasAt at hh
      cases q : ws[o]? with
      | none => rw [q] at hh; cases hh
      | some w => rw [q] at hh; exact ⟨w, List.mem_of_getElem? q, hh⟩
    · intro _
      rw [List.getLast?_cons]
      rfl
theorem eqvs_cD : ∀ (xs ys : List (Int × Int)), eqvs (xs.map cD) (ys.map cD) = decide (xs = ys)
  | [], [] => by simp [eqvs]
  | [], _ :: _ => by simp [eqvs]
  | _ :: _, [] => by simp [eqvs]
  | x :: xs, y :: ys => by
    rw [List.map_cons, List.map_cons]
    show (eqv (cD x) (cD y) && eqvs (xs.map cD) (ys.map cD)) = _
    rw [eqvs_cD xs ys, eqv_cD]
    by_cases h : x = y <;> by_cases h' : xs = ys <;> simp [h, h']
theorem okd_cells (xs : List (Int × Int)) : okd 8 (.lst (xs.map cD)) = true := by simp [okd, cD]
theorem len12 : itS .rng1 [.int 12] = .ok ((rngI 0 12).map .int) := by
  rw [rng1_ok (by omega) (by omega), ← rangeD_rngI, Int.sub_zero]

def nthS : Ss → Nat → S
  | .nil, _ => .raise 0
  | .cons s _, 0 => s
  | .cons _ r, n + 1 => nthS r n
def bodyF : S → Ss
  | .for_ _ _ _ b => b
  | _ => .nil
theorem lt_of_perm {ws : List Wn} {os : List Nat} (ho : os.Perm (List.range ws.length)) : ∀ o ∈ os, o < ws.length := fun o m => List.mem_range.mp (ho.mem_iff.mp m)
/-- the law's own cells of a window -/
def cl (w : Wn) : List (Int × Int) := grid.filter fun p => w.has p.1 p.2
theorem cells_nodup (w : Wn) : (cellsOf w).Nodup := prod_nodup (rngI_nodup _ _) (rngI_nodup _ _)
theorem cl_perm {w : Wn} (h : w.ok) : (cl w).Perm (cellsOf w) := by
  unfold cl
  rw [List.perm_ext_iff_of_nodup (grid_nodup.filter _) (cells_nodup w)]
  intro p
  rw [List.mem_filter]
  exact ⟨fun q => mem_cellsOf.mpr q.2, fun q => ⟨cells_grid h q, mem_cellsOf.mp q⟩⟩
theorem oD_eq (a : Option Nat) (o : Nat) : cmpS .Eq (oD a) (.int o) = .ok (decide (a = some o)) := by
  cases a with
  | none => rfl
  | some b =>
    show R.ok (((b : Int)) == o) = _
    congr 1
    rw [Bool.eq_iff_iff]
    simp
    omega
theorem check_number_ok {ws : List Wn} {o : Nat} (hn : o < ws.length) : r_check_number.sem [wsD ws, .int o] = .ok .non := by
  have e := is_int_in (lo := 0) (hi := (ws.length : Int) - 1) (i := (o : Int))
  have d : (decide ((0 : Int) ≤ o) && decide ((o : Int) ≤ (ws.length : Int) - 1)) = true := by simp; omega
  rw [d] at e
  have lw := len_wsD ws
  simp -implicitDefEqProofs [r_check_number, ir_check_number, runF_eq, lw, e]
theorem check_three_ok {ws : List Wn} {os : List Nat} (h : ∀ w ∈ ws, w.ok) (hl : ws.length ≤ 6) (ho : os.Perm (List.range ws.length)) {o : Nat} (hn : o < ws.length) : r_check_three.sem [wsD ws, osD os, .int o] = .ok .non := by
  have a := check_both_ok h hl ho
  have b := check_number_ok hn
  simp -implicitDefEqProofs [r_check_three, ir_check_three, runF_eq, a, b]
def seenN (ws : List Wn) (os : List Nat) (o : Nat) (w : Wn) : List (Int × Int) := (cellsOf w).filter fun p => decide (topOf ws os p.1 p.2 = some o)
theorem find_seen_ok {ws : List Wn} (os : List Nat) {o : Nat} {w : Wn} (hw : ws[o]? = some w) (hk : w.ok) : r_find_seen.sem [wsD ws, osD os, .int o] = .ok (.lst ((seenN ws os o w).map cD)) := by
  have c := cells_of_ok hk
  have x := ix_wsD hw
  have hl : lcM ((cellsOf w).map cD) (itemL (phi [r_cells_of, r_top_of, r_region_at]) [.val (wsD ws), .val (osD os), .val (.int o), .no] [3] (.name 3) (.some (.cmp .Eq (.call 1 (.cons (.var 1) (.cons (.call 2 (.cons (.var 0) (.cons (.var 3) .nil))) .nil))) (.var 2))) (.var 3)) = .ok ((seenN ws os o w).map cD) :=
    lcM_filterI cD (fun p => decide (topOf ws os p.1 p.2 = some o)) cD fun p hp => by
      have r := region_at_ok ws p.1 p.2
      have t := top_of_ok os (regN ws p.1 p.2)
      rw [top_region] at t
      have e := oD_eq (topOf ws os p.1 p.2) o
      change r_top_of.sem _ = .ok (oD (topOf ws os p.1 p.2)) at t
      have r : r_region_at.sem [wsD ws, cD p] = .ok (osD (regN ws p.1 p.2)) := r
      by_cases hh : topOf ws os p.1 p.2 = some o
      · rw [decide_eq_true hh] at e ⊢
        simp -implicitDefEqProofs [itemL, r, t, e]
      · rw [decide_eq_false hh] at e ⊢
        simp -implicitDefEqProofs [itemL, r, t, e]
  simp -implicitDefEqProofs [r_find_seen, ir_find_seen, runF_eq, x, c, hl]
section
variable {ws : List Wn} {os : List Nat} (h : ∀ w ∈ ws, w.ok) (hl : ws.length ≤ 6) (ho : os.Perm (List.range ws.length)) {o : Nat} {w : Wn} (hw : ws[o]? = some w)
include h hl ho hw
theorem seen_size_ok : r_seen_size.sem [wsD ws, osD os, .int o] = .ok (.int (seenN ws os o w).length) := by
  have a := check_three_ok h hl ho (List.getElem?_eq_some_iff.mp hw).1
  have b := find_seen_ok os hw (h w (List.mem_of_getElem? hw))
  simp -implicitDefEqProofs [r_seen_size, ir_seen_size, runF_eq, a, b]
theorem hidden_in_ok : r_hidden_in.sem [wsD ws, osD os, .int o] = .ok (.bl (decide ((seenN ws os o w).length = 0))) := by
  have b := find_seen_ok os hw (h w (List.mem_of_getElem? hw))
  have e : cmpS .Eq (.lst ((seenN ws os o w).map cD)) (.lst []) = .ok (decide ((seenN ws os o w).length = 0)) := by
    rw [eq_lst (okd_cells _) (by simp [okd])]
    cases seenN ws os o w <;> rfl
  simp -implicitDefEqProofs [r_hidden_in, ir_hidden_in, runF_eq, b, e]
theorem is_hidden_ok : r_is_hidden.sem [wsD ws, osD os, .int o] = .ok (.bl (decide ((seenN ws os o w).length = 0))) := by
  have a := check_three_ok h hl ho (List.getElem?_eq_some_iff.mp hw).1
  have b := hidden_in_ok h hl ho hw
  simp -implicitDefEqProofs only [r_is_hidden, ir_is_hidden, runF_eq, List.map_cons, List.map_nil, List.length_cons, List.length_nil, List.cons_append, List.nil_append, Nat.zero_add, Nat.reduceAdd, Nat.reduceSub, List.replicate, xss_cons, xss_nil, xs_expr, xs_ret, ev_call, evs_cons, evs_nil, ev_var, getV_zero, getV_succ, bind_ok, phi_zero, phi_succ, arity_if, n_check_three, n_hidden_in, lift_ok, andThen_nx, andThen_rt, outF_rt, if_true, a, b]
theorem whole_in_ok : r_whole_in.sem [wsD ws, osD os, .int o] = .ok (.bl (decide ((seenN ws os o w).length = (cellsOf w).length))) := by
  have hk := h w (List.mem_of_getElem? hw)
  have b := find_seen_ok os hw hk
  have c := cells_of_ok hk
  have x := ix_wsD hw
  have e : cmpS .Eq (.lst ((seenN ws os o w).map cD)) (.lst ((cellsOf w).map cD)) = .ok (decide ((seenN ws os o w).length = (cellsOf w).length)) := by
    rw [eq_lst (okd_cells _) (okd_cells _), eqvs_cD]
    congr 1
    rw [Bool.eq_iff_iff, decide_eq_true_eq, decide_eq_true_eq]
    constructor
    · intro q; rw [q]
    · intro q
      have sb : (seenN ws os o w).Sublist (cellsOf w) := List.filter_sublist
      exact sb.eq_of_length q
  simp -implicitDefEqProofs only [r_whole_in, ir_whole_in, runF_eq, List.map_cons, List.map_nil, List.length_cons, List.length_nil, List.cons_append, List.nil_append, Nat.zero_add, Nat.reduceAdd, Nat.reduceSub, List.replicate, xss_cons, xss_nil, xs_expr, xs_ret, ev_call, evs_cons, evs_nil, ev_var, ev_cmp, ev_ix, getV_zero, getV_succ, bind_ok, phi_zero, phi_succ, arity_if, n_cells_of, n_find_seen, lift_ok, andThen_nx, andThen_rt, outF_rt, if_true, b, c, x, e]
theorem is_whole_ok : r_is_whole.sem [wsD ws, osD os, .int o] = .ok (.bl (decide ((seenN ws os o w).length = (cellsOf w).length))) := by
  have a := check_three_ok h hl ho (List.getElem?_eq_some_iff.mp hw).1
  have b := whole_in_ok h hl ho hw
  simp -implicitDefEqProofs only [r_is_whole, ir_is_whole, runF_eq, List.map_cons, List.map_nil, List.length_cons, List.length_nil, List.cons_append, List.nil_append, Nat.zero_add, Nat.reduceAdd, Nat.reduceSub, List.replicate, xss_cons, xss_nil, xs_expr, xs_ret, ev_call, evs_cons, evs_nil, ev_var, getV_zero, getV_succ, bind_ok, phi_zero, phi_succ, arity_if, n_check_three, n_whole_in, lift_ok, andThen_nx, andThen_rt, outF_rt, if_true, a, b]
end
/-- a window is seen whole -/
def wholeB (ws : List Wn) (os : List Nat) (o : Nat) : Bool := match ws[o]? with
  | some w => decide ((seenN ws os o w).length = (cellsOf w).length)
  | none => false
theorem whole_ones_ok {ws : List Wn} {os : List Nat} (h : ∀ w ∈ ws, w.ok) (hl : ws.length ≤ 6) (ho : os.Perm (List.range ws.length)) : r_whole_ones.sem [wsD ws, osD os] = .ok (.lst (iN ((List.range ws.length).filter (wholeB ws os)))) := by
  have a := check_both_ok h hl ho
  have lw := len_wsD ws
  have rg : itS .rng1 [.int ws.length] = .ok ((List.range ws.length).map fun (i : Nat) => .int i) := by
    rw [rng1_ok (by omega) (by omega), Int.toNat_natCast, rangeD_eq]
  have hl : lcM ((List.range ws.length).map fun (i : Nat) => (.int i : D)) (itemL (phi [r_check_both, r_whole_in]) [.val (wsD ws), .val (osD os), .no] [2] (.name 2) (.some (.call 1 (.cons (.var 0) (.cons (.var 1) (.cons (.var 2) .nil))))) (.var 2)) = .ok (iN ((List.range ws.length).filter (wholeB ws os))) :=
    lcM_filterI (fun (i : Nat) => (.int i : D)) _ (fun (i : Nat) => (.int i : D)) fun i hi => by
      have hi := List.mem_range.mp hi
      have hw : ws[i]? = some ws[i] := List.getElem?_eq_getElem hi
      have b := whole_in_ok h hl ho hw
      have e : wholeB ws os i = decide ((seenN ws os i ws[i]).length = (cellsOf ws[i]).length) := by unfold wholeB; rw [hw]
      rw [← e] at b
      cases hh : wholeB ws os i <;> rw [hh] at b <;> simp -implicitDefEqProofs [itemL, b]
  simp -implicitDefEqProofs [r_whole_ones, ir_whole_ones, runF_eq, a, lw, rg, hl]
/-! ### each number once -/
def ded : List Nat → List Nat → List Nat
  | [], acc => acc
  | d :: r, acc => if d ∈ acc then ded r acc else ded r (acc ++ [d])
theorem mem_ded {x : Nat} : ∀ {l acc : List Nat}, x ∈ ded l acc ↔ x ∈ acc ∨ x ∈ l
  | [], acc => by simp [ded]
  | d :: r, acc => by
    unfold ded
    split
    · rw [mem_ded]
      rename_i hd
      constructor
      · rintro (q | q)
        · exact .inl q
        · exact .inr (List.mem_cons_of_mem _ q)
      · rintro (q | q)
        · exact .inl q
        · rcases List.mem_cons.mp q with rfl | q
          · exact .inl hd
          · exact .inr q
    · rw [mem_ded]
      simp [or_assoc]
theorem ded_nodup : ∀ {l acc : List Nat}, acc.Nodup → (ded l acc).Nodup
  | [], acc, h => h
  | d :: r, acc, h => by
    unfold ded
    split
    · exact ded_nodup h
    · rename_i hd
      refine ded_nodup ?_
      rw [List.nodup_append]
      refine ⟨h, by simp, fun a ha b hb => ?_⟩
      simp at hb
      subst hb
      intro e; subst e; exact hd ha
theorem any_iN (acc : List Nat) (d : Nat) : ((iN acc).any (eqv · (.int d))) = decide (d ∈ acc) := by
  unfold iN
  rw [List.any_map, Bool.eq_iff_iff, List.any_eq_true, decide_eq_true_eq]
  simp only [Function.comp_apply, eqv, beq_iff_eq]
  constructor
  · rintro ⟨x, hx, e⟩
    have : x = d := by omega
    rw [← this]; exact hx
  · intro q; exact ⟨d, q, rfl⟩
theorem dedupD_iN : ∀ (l acc : List Nat), dedupD (iN l) (iN acc) = iN (ded l acc)
  | [], acc => rfl
  | d :: r, acc => by
    show (if ((iN acc).any (eqv · (.int d))) = true then dedupD (iN r) (iN acc) else dedupD (iN r) (iN acc ++ [.int d])) = iN (if d ∈ acc then ded r acc else ded r (acc ++ [d]))
    rw [any_iN]
    by_cases q : d ∈ acc
    · rw [decide_eq_true q, if_pos rfl, if_pos q, dedupD_iN]
    · rw [decide_eq_false q, if_neg (by decide), if_neg q, ← dedupD_iN]
      unfold iN
      rw [List.map_append]
      rfl
def kvN (o : Nat) : D × D := (.int o, .bl true)
theorem putAll_iN : ∀ (l acc : List Nat), putAll (l.map fun (o : Nat) => .prs [.int o, .bl true]) (acc.map kvN) = (ded l acc).map kvN
  | [], acc => rfl
  | d :: r, acc => by
    rw [List.map_cons]
    show putAll _ (dput (.int d) (.bl true) (acc.map kvN)) = (if d ∈ acc then ded r acc else ded r (acc ++ [d])).map kvN
    have e : ((acc.map kvN).any fun q => eqv q.1 (.int d)) = decide (d ∈ acc) := by
      rw [← any_iN, iN, List.any_map, List.any_map]
      rfl
    unfold dput
    rw [e]
    by_cases q : d ∈ acc
    · rw [decide_eq_true q, if_pos rfl, if_pos q]
      have m : ((acc.map kvN).map fun p => if eqv p.1 (.int d) = true then (p.1, D.bl true) else p) = acc.map kvN := by
        rw [List.map_map]
        refine List.map_congr_left fun x _ => ?_
        show (if eqv (.int x) (.int d) = true then ((.int x : D), D.bl true) else ((.int x : D), D.bl true)) = _
        exact ite_self _
      rw [m, putAll_iN]
    · rw [decide_eq_false q, if_neg (by decide), if_neg q, ← putAll_iN, List.map_append]
      rfl
theorem sortable_iN (l : List Nat) : sortable (iN l) = true := by
  unfold sortable
  rw [Bool.or_eq_true]
  left
  simp [isIntD, iN]
theorem sortD_congr {l m : List Nat} (p : l.Perm m) : sortD (iN l) = sortD (iN m) :=
  sortD_uniq (sortable_iN m) ((sortD_perm _).trans (p.map _)) (sortD_srt _)
theorem sortS_iN (l : List Nat) : sortS (iN l) = .ok (.lst (sortD (iN l))) := by
  unfold sortS
  rw [if_pos (sortable_iN l)]
theorem sortset_iN (l : List Nat) (h : l.length < 4000) : biS .sortset [.lst (iN l)] = .ok (.lst (sortD (iN (ded l [])))) := by
  have q : biS .sortset [.lst (iN l)] = if setable (iN l) then sortS (dedupD (iN l) []) else .bad := rfl
  have e : setable (iN l) = true := by
    unfold setable
    rw [Bool.or_eq_true, Bool.and_eq_true]
    left
    refine ⟨by simp [isIntD, iN], decide_eq_true ?_⟩
    unfold iN
    rw [List.length_map]
    exact h
  rw [q, if_pos e]
  have := dedupD_iN l []
  rw [show iN [] = [] from rfl] at this
  rw [this, sortS_iN]
theorem sortD_okd (l : List Nat) : okd 8 (.lst (sortD (iN l))) = true := by
  simp only [okd, List.all_eq_true]
  intro x hx
  have := (sortD_perm (iN l)).mem_iff.mp hx
  unfold iN at this
  obtain ⟨o, _, rfl⟩ := List.mem_map.mp this
  simp [okd]
/-! ### hiders -/
def tpN (ws : List Wn) (os : List Nat) (p : Int × Int) : Nat := (topOf ws os p.1 p.2).getD 0
theorem top_tN {ws : List Wn} {os : List Nat} (ho : os.Perm (List.range ws.length)) {w : Wn} (hw : w ∈ ws) {p : Int × Int} (hp : w.has p.1 p.2 = true) : topOf ws os p.1 p.2 = some (tpN ws os p) := by
  have := top_none ho p.1 p.2
  have hh : (ws.any fun w => w.has p.1 p.2) = true := List.any_eq_true.mpr ⟨w, hw, hp⟩
  rw [hh] at this
  unfold tpN
  cases q : topOf ws os p.1 p.2 with
  | none => rw [q] at this; cases this
  | some a => rfl
def hidN (ws : List Wn) (os : List Nat) (o : Nat) (w : Wn) : List Nat := (ded ((cellsOf w).map (tpN ws os)) []).filter fun t => decide (t ≠ o)
theorem hiders_ok {ws : List Wn} {os : List Nat} (h : ∀ w ∈ ws, w.ok) (hl : ws.length ≤ 6) (ho : os.Perm (List.range ws.length)) {o : Nat} {w : Wn} (hw : ws[o]? = some w) : r_hiders.sem [wsD ws, osD os, .int o] = .ok (.lst (sortD (iN (hidN ws os o w)))) := by
  have a := check_three_ok h hl ho (List.getElem?_eq_some_iff.mp hw).1
  have hk := h w (List.mem_of_getElem? hw)
  have c := cells_of_ok hk
  have x := ix_wsD hw
  have hd : ev (phi [r_check_three, r_top_of, r_region_at, r_cells_of]) (.dc [4] (.name 4) .seq (.cons (.call 3 (.cons (.ix (.var 0) (.var 2)) .nil)) .nil) .none (.call 1 (.cons (.var 1) (.cons (.call 2 (.cons (.var 0) (.cons (.var 4) .nil))) .nil))) (.lit (.bl true))) [.val (wsD ws), .val (osD os), .val (.int o), .no, .no, .no] = .ok (.dic false ((ded ((cellsOf w).map (tpN ws os)) []).map kvN)) := by
    have un : ∀ Φ vs g k src t kx vx e, ev Φ (.dc vs g k src t kx vx) e = (do
      let ss ← evs Φ src e
      let ds ← itS k ss
      let r ← (lcM ds fun d => do
        let e1 ← asgG g d (wipeE e vs)
        let c ← evT Φ t e1
        if c then do let y ← ev Φ kx e1; let z ← ev Φ vx e1; if keyD y then .ok [.prs [y, z]] else .bad else .ok []).calm
      .ok (.dic false (putAll r []))) := fun _ _ _ _ _ _ _ _ _ => rfl
    rw [un]
    simp -implicitDefEqProofs only [evs_cons, evs_nil, ev_call, ev_ix, ev_var, getV_zero, getV_succ, bind_ok, x, phi_zero, phi_succ, arity_if, n_cells_of, List.length_cons, List.length_nil, Nat.zero_add, if_true, c, seq_lst]
    rw [lcM_mapI cD (fun p => .prs [.int (tpN ws os p : Nat), .bl true])]
    · rw [calm_ok, bind_ok]
      have := putAll_iN ((cellsOf w).map (tpN ws os)) []
      rw [List.map_map] at this
      exact congrArg (fun z => R.ok (D.dic false z)) this
    · intro p hp
      have r : r_region_at.sem [wsD ws, cD p] = .ok (osD (regN ws p.1 p.2)) := region_at_ok ws p.1 p.2
      have t := top_of_ok os (regN ws p.1 p.2)
      rw [top_region] at t
      change r_top_of.sem _ = .ok (oD (topOf ws os p.1 p.2)) at t
      rw [top_tN ho (List.mem_of_getElem? hw) (mem_cellsOf.mp hp)] at t
      simp -implicitDefEqProofs [r, t, oD, keyD]
  have hk2 : itS .keys [.dic false ((ded ((cellsOf w).map (tpN ws os)) []).map kvN)] = .ok (iN (ded ((cellsOf w).map (tpN ws os)) [])) := by
    have q : ∀ kvs, itS .keys [.dic false kvs] = .ok (kvs.map (·.1)) := fun _ => rfl
    rw [q, List.map_map]
    rfl
  have hf : ∀ (s4 s5 : Slot) (dd : D), lcM (iN (ded ((cellsOf w).map (tpN ws os)) [])) (itemL (phi [r_check_three, r_top_of, r_region_at, r_cells_of]) [.val (wsD ws), .val (osD os), .val (.int o), .val dd, s4, s5] [5] (.name 5) (.some (.cmp .NotEq (.var 5) (.var 2))) (.var 5)) = .ok (iN (hidN ws os o w)) := fun s4 s5 dd =>
    lcM_filterI (fun (i : Nat) => (.int i : D)) _ (fun (i : Nat) => (.int i : D)) fun i hi => by
      by_cases hh : i = o
      · subst hh; simp -implicitDefEqProofs [itemL]
      · have h2 : ¬ (i : Int) = (o : Int) := by omega
        simp -implicitDefEqProofs [itemL, hh, h2]
  have hs : biS .sorted [.lst (iN (hidN ws os o w))] = .ok (.lst (sortD (iN (hidN ws os o w)))) := sortS_iN _
  simp -implicitDefEqProofs [r_hiders, ir_hiders, runF_eq, a, hd, hk2, hf, hs]
end Pan

/-! Panestacks, part K7: what the later laws draw. -/
namespace Pan
open PySem L2
abbrev dwC : E := .and (.cons (.cmp .Gt (.var 5) (.lit (.int (0)))) (.cons (.cmp .Gt (.var 4) (.lit (.int (0)))) .nil))
abbrev dwB : Ss := .cons (.asg (.name 5) (.bin .FloorDiv (.var 5) (.lit (.int (1000000))))) (.cons (.asg (.name 4) (.bin .Sub (.var 4) (.lit (.int (1))))) .nil)
theorem dw_turn (a b c d : D) (r g : Int) : xss (phi []) dwB [.val a, .val b, .val c, .val d, .val (.int g), .val (.int r)] = .ok (.nx [.val a, .val b, .val c, .val d, .val (.int (g - 1)), .val (.int (r / 1000000))]) := by
  have q : binS .FloorDiv (.int r) (.int 1000000) = .ok (.int (r / 1000000)) := div_int (by omega)
  simp -implicitDefEqProofs [dwB, q]
theorem dw_loop (a b c d : D) : ∀ (n : Nat) (r g : Int), g < n → ∃ r' g', whlM (ev (phi []) dwC) (xss (phi []) dwB) (n + 1) [.val a, .val b, .val c, .val d, .val (.int g), .val (.int r)] = .ok (.nx [.val a, .val b, .val c, .val d, .val (.int g'), .val (.int r')])
  | n, r, g, h => by
    have hc : ev (phi []) dwC [.val a, .val b, .val c, .val d, .val (.int g), .val (.int r)] = .ok (.bl (decide (0 < r) && decide (0 < g))) := by
      simp -implicitDefEqProofs [dwC]
    have un : ∀ m e, whlM (ev (phi []) dwC) (xss (phi []) dwB) (m + 1) e = lift (ev (phi []) dwC e) e fun x => match x with
      | .bl true => andThen (xss (phi []) dwB e) (whlM (ev (phi []) dwC) (xss (phi []) dwB) m)
      | .bl false => .ok (.nx e)
      | _ => .bad := fun _ _ => rfl
    rw [un, hc, lift_ok]
    cases hb : (decide (0 < r) && decide (0 < g)) with
    | false => exact ⟨r, g, rfl⟩
    | true =>
      rw [Bool.and_eq_true, decide_eq_true_eq, decide_eq_true_eq] at hb
      cases n with
      | zero => omega
      | succ n =>
        obtain ⟨r', g', q⟩ := dw_loop a b c d n (r / 1000000) (g - 1) (by omega)
        refine ⟨r', g', ?_⟩
        show andThen (xss (phi []) dwB _) _ = _
        rw [dw_turn]
        exact q
abbrev dr2 : S := .asg (.name 3) (.bin .Mod (.bin .Add (.bin .Mult (.bin .Mod (.var 3) (.lit (.int (2147483563)))) (.lit (.int (69069)))) (.bin .Mult (.lit (.int (104723))) (.bin .Add (.var 1) (.lit (.int (1)))))) (.lit (.int (2147483563))))
abbrev dr3 : S := .asg (.name 3) (.bin .Mod (.bin .Add (.bin .Mult (.var 3) (.var 3)) (.bin .FloorDiv (.var 3) (.lit (.int (3))))) (.lit (.int (2147483399))))
abbrev dr4 : S := .ret (.bin .Mod (.bin .FloorDiv (.bin .Mod (.bin .Add (.bin .Mult (.var 3) (.var 3)) (.bin .FloorDiv (.var 3) (.lit (.int (7))))) (.lit (.int (2147483647)))) (.lit (.int (11)))) (.var 2))
theorem dr_end (a : D) {k m : Int} (hk : 0 ≤ k ∧ k < 3000) (hm : 0 < m) (c : Int) (s4 s5 : Slot) : ∃ i, 0 ≤ i ∧ i < m ∧ xss (phi []) (.cons dr2 (.cons dr3 (.cons dr4 .nil))) [.val a, .val (.int k), .val (.int m), .val (.int c), s4, s5] = .ok (.rt (.int i)) := by
  have q1 : binS .Mod (.int c) (.int 2147483563) = .ok (.int (c % 2147483563)) := mod_int (by omega)
  have q2 : binS .Mult (.int (c % 2147483563)) (.int 69069) = .ok (.int (c % 2147483563 * 69069)) := mul_int' (by decide)
  have q3 : binS .Mult (.int 104723) (.int (k + 1)) = .ok (.int (104723 * (k + 1))) := mul_int (by decide)
  have q4 : binS .Mod (.int (c % 2147483563 * 69069 + 104723 * (k + 1))) (.int 2147483563) = .ok (.int ((c % 2147483563 * 69069 + 104723 * (k + 1)) % 2147483563)) := mod_int (by omega)
  have b1 := Int.emod_nonneg (c % 2147483563 * 69069 + 104723 * (k + 1)) (show (2147483563 : Int) ≠ 0 by omega)
  have b2 := Int.emod_lt_of_pos (c % 2147483563 * 69069 + 104723 * (k + 1)) (show (0 : Int) < 2147483563 by omega)
  generalize hx : (c % 2147483563 * 69069 + 104723 * (k + 1)) % 2147483563 = x at q4 b1 b2
  have q5 : binS .Mult (.int x) (.int x) = .ok (.int (x * x)) := mul_int (by omega)
  have q6 : binS .FloorDiv (.int x) (.int 3) = .ok (.int (x / 3)) := div_int (by omega)
  have q7 : binS .Mod (.int (x * x + x / 3)) (.int 2147483399) = .ok (.int ((x * x + x / 3) % 2147483399)) := mod_int (by omega)
  have c1 := Int.emod_nonneg (x * x + x / 3) (show (2147483399 : Int) ≠ 0 by omega)
  have c2 := Int.emod_lt_of_pos (x * x + x / 3) (show (0 : Int) < 2147483399 by omega)
  generalize hy : (x * x + x / 3) % 2147483399 = y at q7 c1 c2
  have q8 : binS .Mult (.int y) (.int y) = .ok (.int (y * y)) := mul_int (by omega)
  have q9 : binS .FloorDiv (.int y) (.int 7) = .ok (.int (y / 7)) := div_int (by omega)
  have qa : binS .Mod (.int (y * y + y / 7)) (.int 2147483647) = .ok (.int ((y * y + y / 7) % 2147483647)) := mod_int (by omega)
  have qb : binS .FloorDiv (.int ((y * y + y / 7) % 2147483647)) (.int 11) = .ok (.int ((y * y + y / 7) % 2147483647 / 11)) := div_int (by omega)
  have qc : binS .Mod (.int ((y * y + y / 7) % 2147483647 / 11)) (.int m) = .ok (.int ((y * y + y / 7) % 2147483647 / 11 % m)) := mod_int hm
  refine ⟨(y * y + y / 7) % 2147483647 / 11 % m, Int.emod_nonneg _ (Int.ne_of_gt hm), Int.emod_lt_of_pos _ hm, ?_⟩
  generalize (y * y + y / 7) % 2147483647 / 11 % m = z at qc
  generalize (y * y + y / 7) % 2147483647 / 11 = z1 at qb qc
  simp -implicitDefEqProofs only [xss_cons, xs_asg, ev_bin, ev_var, ev_lit, getV_zero, getV_succ, bind_ok, q1, q2, q3, q4, q5, q6, q7, q8, q9, qa, qb, qc, add_int, lift_ok, asgG_name, List.set_cons_succ, List.set_cons_zero, andThen_nx, xs_ret, andThen_rt]
abbrev drX : S := .ife (.cmp .NotEq (.var 0) (.lst .nil)) (.cons (.asg (.name 3) (.ix (.var 0) (.bin .Mod (.var 1) (.bi .len (.cons (.var 0) .nil))))) (.cons (.asg (.name 4) (.bin .FloorDiv (.var 1) (.bi .len (.cons (.var 0) .nil)))) (.cons (.ife (.and (.cons (.cmp .GtE (.var 3) (.bin .Pow (.lit (.int (10))) (.lit (.int (18))))) (.cons (.cmp .Lt (.var 4) (.lit (.int (60)))) .nil))) (.cons (.asg (.name 5) (.bin .FloorDiv (.var 3) (.bin .Pow (.lit (.int (10))) (.lit (.int (18)))))) (.cons (.whl 4000 dwC dwB) (.cons (.ife (.cmp .Gt (.var 5) (.lit (.int (0)))) (.cons (.ret (.bin .Mod (.bin .Mod (.var 5) (.lit (.int (1000000)))) (.var 2))) .nil) .nil) .nil))) .nil) (.cons (.asg (.name 3) (.bin .Add (.var 3) (.bin .Mult (.lit (.int (6553))) (.bin .FloorDiv (.var 1) (.bi .len (.cons (.var 0) .nil)))))) .nil)))) .nil
theorem dr_mid {ns : List Int} (hn : ns.length ≤ 63) {k m : Int} (hk : 0 ≤ k ∧ k < 3000) (hm : 0 < m) (c0 : Int) : (∃ i, 0 ≤ i ∧ i < m ∧ xs (phi []) drX [.val (.scr ns), .val (.int k), .val (.int m), .val (.int c0), .no, .no] = .ok (.rt (.int i))) ∨ ∃ c s4 s5, xs (phi []) drX [.val (.scr ns), .val (.int k), .val (.int m), .val (.int c0), .no, .no] = .ok (.nx [.val (.scr ns), .val (.int k), .val (.int m), .val (.int c), s4, s5]) := by
  cases ns with
  | nil =>
    right
    have e : cmpS .NotEq (.scr []) (.lst []) = .ok false := rfl
    refine ⟨c0, .no, .no, ?_⟩
    simp -implicitDefEqProofs [drX, e]
  | cons a l =>
    have e' : cmpS .NotEq (.scr (a :: l)) (.lst []) = .ok true := rfl
    have hp : (0 : Int) < ((a :: l).length : Nat) := by rw [List.length_cons]; omega
    have q : binS .Mod (.int k) (.int ((a :: l).length : Nat)) = .ok (.int (k % ((a :: l).length : Nat))) := mod_int hp
    have q2 : binS .FloorDiv (.int k) (.int ((a :: l).length : Nat)) = .ok (.int (k / ((a :: l).length : Nat))) := div_int (by omega)
    have h1 := Int.emod_nonneg k (Int.ne_of_gt hp)
    have h2 := Int.emod_lt_of_pos k hp
    generalize k % ((a :: l).length : Nat) = j at q h1 h2
    have hj : j.toNat < (a :: l).length := by omega
    have x : ixS (.scr (a :: l)) (.int j) = .ok (.int (a :: l)[j.toNat]) := by
      have x0 : ixS (.scr (a :: l)) (.int j) = match atI (a :: l) j with | some d => .ok (.int d) | none => .bad := rfl
      have x1 : atI (a :: l) j = some (a :: l)[j.toNat] := by
        unfold atI ixN
        rw [if_pos h1, if_pos h2]
        exact List.getElem?_eq_getElem hj
      rw [x0, x1]
    generalize (a :: l)[j.toNat] = cell at x
    have kl : k / ((a :: l).length : Nat) ≤ k := Int.ediv_le_self _ hk.1
    generalize k / ((a :: l).length : Nat) = g at q2 kl
    have lb : biS .len [.scr (a :: l)] = .ok (.int ((a :: l).length : Nat)) := rfl
    have t1 : binS .Mult (.int 6553) (.int g) = .ok (.int (6553 * g)) := mul_int (by decide)
    generalize (a :: l).length = len at *
    generalize a :: l = sc at *
    by_cases hb : (10 ^ 18 ≤ cell) ∧ g < 60
    · have d1 : decide ((10 : Int) ^ 18 ≤ cell) = true := decide_eq_true hb.1
      have d2 : decide (g < 60) = true := decide_eq_true hb.2
      have hd : binS .FloorDiv (.int cell) (.int (10 ^ 18)) = .ok (.int (cell / 10 ^ 18)) := div_int (by decide)
      obtain ⟨r', g', hw⟩ := dw_loop (.scr sc) (.int k) (.int m) (.int cell) 3999 (cell / 10 ^ 18) g (by omega)
      have hw' : whlM (ev (phi []) dwC) (xss (phi []) dwB) 4000 [.val (.scr sc), .val (.int k), .val (.int m), .val (.int cell), .val (.int g), .val (.int (cell / 10 ^ 18))] = .ok (.nx [.val (.scr sc), .val (.int k), .val (.int m), .val (.int cell), .val (.int g'), .val (.int r')]) := hw
      by_cases hr : 0 < r'
      · left
        have m1 : binS .Mod (.int r') (.int 1000000) = .ok (.int (r' % 1000000)) := mod_int (by omega)
        have m2 : binS .Mod (.int (r' % 1000000)) (.int m) = .ok (.int (r' % 1000000 % m)) := mod_int hm
        refine ⟨r' % 1000000 % m, Int.emod_nonneg _ (Int.ne_of_gt hm), Int.emod_lt_of_pos _ hm, ?_⟩
        simp -implicitDefEqProofs only [xs_ife, ev_cmp, ev_var, getV_zero, getV_succ, ev_lst, evs_nil, bind_ok, fit_nil, e', lift_ok, stpI_t, xss_cons, xss_nil, xs_asg, ev_ix, ev_bin, ev_bi, evs_cons, lb, q, x, asgG_name, List.set_cons_succ, List.set_cons_zero, andThen_nx, q2, ev_and, evAnd_cons, evAnd_one, ev_lit, pow18, ge_int, lt_int, d1, d2, asB_bl, if_true, hd, xs_whl, hw', gt_int, hr, decide_true, xs_ret, m1, m2, andThen_rt]
      · right
        refine ⟨cell + 6553 * g, .val (.int g'), .val (.int r'), ?_⟩
        simp -implicitDefEqProofs only [xs_ife, ev_cmp, ev_var, getV_zero, getV_succ, ev_lst, evs_nil, bind_ok, fit_nil, e', lift_ok, stpI_t, stpI_f, xss_cons, xss_nil, xs_asg, ev_ix, ev_bin, ev_bi, evs_cons, lb, q, x, asgG_name, List.set_cons_succ, List.set_cons_zero, andThen_nx, q2, ev_and, evAnd_cons, evAnd_one, ev_lit, pow18, ge_int, lt_int, d1, d2, asB_bl, if_true, hd, xs_whl, hw', gt_int, hr, decide_false, t1, add_int]
    · right
      refine ⟨cell + 6553 * g, .val (.int g), .no, ?_⟩
      have an : ev (phi []) (.and (.cons (.cmp .GtE (.var 3) (.bin .Pow (.lit (.int (10))) (.lit (.int (18))))) (.cons (.cmp .Lt (.var 4) (.lit (.int (60)))) .nil))) [.val (.scr sc), .val (.int k), .val (.int m), .val (.int cell), .val (.int g), .no] = .ok (.bl false) := by
        by_cases h1 : (10 : Int) ^ 18 ≤ cell
        · have d1 : decide ((10 : Int) ^ 18 ≤ cell) = true := decide_eq_true h1
          have d2 : decide (g < 60) = false := decide_eq_false fun h => hb ⟨h1, h⟩
          simp -implicitDefEqProofs only [ev_and, evAnd_cons, evAnd_one, ev_cmp, ev_var, ev_bin, ev_lit, getV_zero, getV_succ, bind_ok, pow18, ge_int, lt_int, d1, d2, asB_bl, if_true]
        · have d1 : decide ((10 : Int) ^ 18 ≤ cell) = false := decide_eq_false h1
          simp -implicitDefEqProofs only [ev_and, evAnd_cons, evAnd_one, ev_cmp, ev_var, ev_bin, ev_lit, getV_zero, getV_succ, bind_ok, pow18, ge_int, lt_int, d1, asB_bl]
          rfl
      simp -implicitDefEqProofs only [xs_ife, ev_cmp, ev_var, getV_zero, getV_succ, ev_lst, evs_nil, bind_ok, fit_nil, e', lift_ok, stpI_t, stpI_f, xss_cons, xss_nil, xs_asg, ev_ix, ev_bin, ev_bi, evs_cons, lb, q, x, asgG_name, List.set_cons_succ, List.set_cons_zero, andThen_nx, q2, an, ev_lit, t1, add_int]
theorem drawn_ok {ns : List Int} (hn : ns.length ≤ 63) {k m : Int} (hk : 0 ≤ k ∧ k < 3000) (hm : 0 < m) : ∃ i, 0 ≤ i ∧ i < m ∧ r__law_drawn_2.sem [.scr ns, .int k, .int m] = .ok (.int i) := by
  have m7 : binS .Mult (.int 7) (.int k) = .ok (.int (7 * k)) := mul_int (by decide)
  have hI : ir__law_drawn_2 = .cons (.asg (.name 3) (.bin .Mult (.lit (.int (7))) (.var 1))) (.cons drX (.cons dr2 (.cons dr3 (.cons dr4 .nil)))) := rfl
  have hr : r__law_drawn_2.sem [.scr ns, .int k, .int m] = outF (xss (phi []) ir__law_drawn_2 [.val (.scr ns), .val (.int k), .val (.int m), .no, .no, .no]) := by
    have : r__law_drawn_2.sem [.scr ns, .int k, .int m] = runF (phi []) 6 ir__law_drawn_2 [.scr ns, .int k, .int m] := rfl
    rw [this, runF_eq]
    rfl
  have s1 : xss (phi []) ir__law_drawn_2 [.val (.scr ns), .val (.int k), .val (.int m), .no, .no, .no] = andThen (xs (phi []) drX [.val (.scr ns), .val (.int k), .val (.int m), .val (.int (7 * k)), .no, .no]) (xss (phi []) (.cons dr2 (.cons dr3 (.cons dr4 .nil)))) := by
    rw [hI, xss_cons, xs_asg]
    simp -implicitDefEqProofs only [ev_bin, ev_lit, ev_var, getV_zero, getV_succ, bind_ok, m7, lift_ok, asgG_name, List.set_cons_succ, List.set_cons_zero, andThen_nx]
    rfl
  rcases dr_mid hn hk hm (7 * k) with ⟨i, h0, h1, q⟩ | ⟨c, s4, s5, q⟩
  · refine ⟨i, h0, h1, ?_⟩
    rw [hr, s1, q]
    rfl
  · obtain ⟨i, h0, h1, q'⟩ := dr_end (.scr ns) hk hm c s4 s5
    refine ⟨i, h0, h1, ?_⟩
    rw [hr, s1, q, andThen_nx, q']
    rfl
end Pan

/-! Panestacks, part K8: windows and orders that the later laws draw. -/
namespace Pan
open PySem L2
theorem law_window_ok {ns : List Int} (hn : ns.length ≤ 63) {k : Int} (hk : 0 ≤ k ∧ k < 2000) : ∃ w : Wn, 0 ≤ w.l ∧ w.l ≤ 8 ∧ 0 ≤ w.t ∧ w.t ≤ 8 ∧ w.l < w.r ∧ w.r ≤ w.l + 4 ∧ w.t < w.b ∧ w.b ≤ w.t + 4 ∧ r__law_window.sem [.scr ns, .int k] = .ok (wD w) := by
  obtain ⟨p0, a0, b0, e0⟩ := drawn_ok hn (k := k) (m := 9) (by omega) (by omega)
  obtain ⟨p1, a1, b1, e1⟩ := drawn_ok hn (k := k + 1) (m := 9) (by omega) (by omega)
  obtain ⟨p2, a2, b2, e2⟩ := drawn_ok hn (k := k + 2) (m := 4) (by omega) (by omega)
  obtain ⟨p3, a3, b3, e3⟩ := drawn_ok hn (k := k + 3) (m := 4) (by omega) (by omega)
  refine ⟨⟨p0, p1, p0 + 1 + p2, p1 + 1 + p3⟩, a0, by show p0 ≤ 8; omega, a1, by show p1 ≤ 8; omega, by show p0 < p0 + 1 + p2; omega, by show p0 + 1 + p2 ≤ p0 + 4; omega, by show p1 < p1 + 1 + p3; omega, by show p1 + 1 + p3 ≤ p1 + 4; omega, ?_⟩
  simp -implicitDefEqProofs [r__law_window, ir__law_window, runF_eq, e0, e1, e2, e3, wD]
abbrev lwB : Ss := .cons (.asg (.tup [5, 6, 7, 8]) (.call 1 (.cons (.var 0) (.cons (.bin .Add (.bin .Add (.var 1) (.lit (.int (1)))) (.bin .Mult (.lit (.int (4))) (.var 4))) .nil)))) (.cons (.asg (.name 9) (.bin .Add (.lit (.int (1))) (.call 0 (.cons (.var 0) (.cons (.bin .Add (.var 1) (.lit (.int (30)))) (.cons (.lit (.int (3))) .nil)))))) (.cons (.par [false, false] [10, 11] (.cons (.bin .FloorDiv (.var 5) (.var 9)) (.cons (.bin .FloorDiv (.var 6) (.var 9)) .nil))) (.cons (.app 3 (.tup (.cons (.var 10) (.cons (.var 11) (.cons (.bin .Sub (.bin .Add (.var 10) (.var 7)) (.var 5)) (.cons (.bin .Sub (.bin .Add (.var 11) (.var 8)) (.var 6)) .nil)))))) .nil)))
theorem lw_turn {ns : List Int} (hn : ns.length ≤ 63) {k : Int} (hk : 0 ≤ k ∧ k < 1000) (mo : D) {j : Int} (hj : 0 ≤ j ∧ j < 100) (ws : List Wn) (hl : ws.length ≤ 900) (s4 s5 s6 s7 s8 s9 s10 s11 : Slot) : ∃ (w : Wn) (t5 t6 t7 t8 t9 t10 t11 : Slot), w.ok ∧ turnF (phi [r__law_drawn_2, r__law_window]) (.name 4) lwB (.int j) [.val (.scr ns), .val (.int k), .val mo, .own (.lst (ws.map wD)), s4, s5, s6, s7, s8, s9, s10, s11] = .ok (.nx [.val (.scr ns), .val (.int k), .val mo, .own (.lst ((ws ++ [w]).map wD)), .val (.int j), t5, t6, t7, t8, t9, t10, t11]) := by
  obtain ⟨w, h1, h2, h3, h4, h5, h6, h7, h8, e⟩ := law_window_ok hn (k := k + 1 + 4 * j) (by omega)
  obtain ⟨p, a, b, ep⟩ := drawn_ok hn (k := k + 30) (m := 3) (by omega) (by omega)
  have d1 : binS .FloorDiv (.int w.l) (.int (1 + p)) = .ok (.int (w.l / (1 + p))) := div_int (by omega)
  have d2 : binS .FloorDiv (.int w.t) (.int (1 + p)) = .ok (.int (w.t / (1 + p))) := div_int (by omega)
  have m4 : binS .Mult (.int 4) (.int j) = .ok (.int (4 * j)) := mul_small (by omega)
  have g1 : w.l / (1 + p) ≤ w.l := Int.ediv_le_self _ h1
  have g2 : 0 ≤ w.l / (1 + p) := Int.ediv_nonneg h1 (by omega)
  have g3 : w.t / (1 + p) ≤ w.t := Int.ediv_le_self _ h3
  have g4 : 0 ≤ w.t / (1 + p) := Int.ediv_nonneg h3 (by omega)
  have sz : (ws.map wD).length < sizeLine := by rw [List.length_map]; exact Nat.lt_of_le_of_lt hl (by decide)
  refine ⟨⟨w.l / (1 + p), w.t / (1 + p), w.l / (1 + p) + w.r - w.l, w.t / (1 + p) + w.b - w.t⟩, .val (.int w.l), .val (.int w.t), .val (.int w.r), .val (.int w.b), .val (.int (1 + p)), .val (.int (w.l / (1 + p))), .val (.int (w.t / (1 + p))), ?_, ?_⟩
  · unfold Wn.ok
    simp only
    omega
  · unfold turnF
    rw [List.map_append]
    generalize w.l / (1 + p) = x at *
    generalize w.t / (1 + p) = y at *
    generalize ws.map wD = wm at *
    unfold wD at e
    simp -implicitDefEqProofs [lwB, e, ep, m4, d1, d2, xs_app_eq, sz, wD]
theorem lw_loop {ns : List Int} (hn : ns.length ≤ 63) {k : Int} (hk : 0 ≤ k ∧ k < 1000) (mo : D) : ∀ (js : List Int) (ws : List Wn) (s4 s5 s6 s7 s8 s9 s10 s11 : Slot), (∀ j ∈ js, 0 ≤ j ∧ j < 100) → (∀ w ∈ ws, w.ok) → ws.length + js.length ≤ 900 → ∃ (vs : List Wn) (t4 t5 t6 t7 t8 t9 t10 t11 : Slot), (∀ w ∈ vs, w.ok) ∧ vs.length = ws.length + js.length ∧ forM (turnF (phi [r__law_drawn_2, r__law_window]) (.name 4) lwB) (js.map .int) [.val (.scr ns), .val (.int k), .val mo, .own (.lst (ws.map wD)), s4, s5, s6, s7, s8, s9, s10, s11] = .ok (.nx [.val (.scr ns), .val (.int k), .val mo, .own (.lst (vs.map wD)), t4, t5, t6, t7, t8, t9, t10, t11])
  | [], ws, s4, s5, s6, s7, s8, s9, s10, s11, _, h, _ => ⟨ws, s4, s5, s6, s7, s8, s9, s10, s11, h, rfl, rfl⟩
  | j :: js, ws, s4, s5, s6, s7, s8, s9, s10, s11, hj, h, hl => by
    rw [List.length_cons] at hl
    obtain ⟨w, t5, t6, t7, t8, t9, t10, t11, hw, q⟩ := lw_turn hn hk mo (hj j List.mem_cons_self) ws (by omega) s4 s5 s6 s7 s8 s9 s10 s11
    obtain ⟨vs, u4, u5, u6, u7, u8, u9, u10, u11, h1, h2, q'⟩ := lw_loop hn hk mo js (ws ++ [w]) (.val (.int j)) t5 t6 t7 t8 t9 t10 t11 (fun x hx => hj x (List.mem_cons_of_mem _ hx)) (fun v hv => by
      rcases List.mem_append.mp hv with hv | hv
      · exact h v hv
      · rw [List.mem_singleton.mp hv]; exact hw) (by rw [List.length_append, List.length_singleton]; omega)
    refine ⟨vs, u4, u5, u6, u7, u8, u9, u10, u11, h1, ?_, ?_⟩
    · rw [h2, List.length_append, List.length_singleton, List.length_cons]; omega
    · rw [List.map_cons]
      show andThen (turnF _ _ _ _ _) _ = _
      rw [q]
      exact q'
theorem law_windows_ok {ns : List Int} (hn : ns.length ≤ 63) {k m : Int} (hk : 0 ≤ k ∧ k < 1000) (hm : 0 ≤ m ∧ m < 99) : ∃ ws : List Wn, (∀ w ∈ ws, w.ok) ∧ (ws.length : Int) ≤ m ∧ r__law_windows.sem [.scr ns, .int k, .int m] = .ok (wsD ws) := by
  obtain ⟨p, a, b, e⟩ := drawn_ok hn (k := k) (m := m + 1) (by omega) (by omega)
  have rg : itS .rng1 [.int p] = .ok ((rngI 0 p).map .int) := by
    rw [rng1_ok (by omega) (by omega), ← rangeD_rngI, Int.sub_zero]
  have lr : (rngI 0 p).length = p.toNat := by unfold rngI; rw [List.length_map, List.length_range, Int.sub_zero]
  obtain ⟨vs, t4, t5, t6, t7, t8, t9, t10, t11, h, l, q⟩ := lw_loop hn hk (.int m) (rngI 0 p) [] .no .no .no .no .no .no .no .no (fun j hj => by have := mem_rngI.mp hj; omega) (by simp) (by rw [lr]; simp; omega)
  rw [List.length_nil, lr] at l
  refine ⟨vs, h, by omega, ?_⟩
  rw [List.map_nil] at q
  simp -implicitDefEqProofs [r__law_windows, ir__law_windows, runF_eq, e, rg, q, wsD]
/-! ### orders -/
theorem cut_take {α : Type} (xs : List α) {p : Int} (h : 0 ≤ p ∧ p ≤ xs.length) : cutL xs none (some p) = xs.take p.toNat := by
  unfold cutL HT.sIx
  simp only [Nat.sub_zero, List.drop_zero]
  rw [if_neg (by omega), Nat.min_eq_left (by omega)]
theorem cut_drop {α : Type} (xs : List α) {p : Int} (h : 0 ≤ p ∧ p ≤ xs.length) : cutL xs (some p) none = xs.drop p.toNat := by
  unfold cutL HT.sIx
  simp only
  rw [if_neg (by omega), Nat.min_eq_left (by omega)]
  exact List.take_of_length_le (by rw [List.length_drop]; omega)
abbrev loB : Ss := .cons (.asg (.name 5) (.call 0 (.cons (.var 0) (.cons (.bin .Add (.var 1) (.var 4)) (.cons (.bin .Add (.bi .len (.cons (.var 3) .nil)) (.lit (.int (1)))) .nil))))) (.cons (.asg (.name 3) (.bin .Add (.bin .Add (.sl (.var 3) .none (.some (.var 5))) (.lst (.cons (.var 4) .nil))) (.sl (.var 3) (.some (.var 5)) .none))) .nil)
theorem add_lst {xs ys : List D} (h : xs.length + ys.length ≤ 100000) : binS .Add (.lst xs) (.lst ys) = .ok (.lst (xs ++ ys)) := by
  have q : binS .Add (.lst xs) (.lst ys) = fitL (xs ++ ys) .lst := rfl
  rw [q, fit_le (by rw [List.length_append]; omega)]
theorem fit_1 (a : D) (k : List D → D) : fitL [a] k = .ok (k [a]) := fit_le (by simp)
theorem lo_turn {ns : List Int} (hn : ns.length ≤ 63) {k : Int} (hk : 0 ≤ k ∧ k < 1000) (m : D) (j : Nat) (hj : j ≤ 500) (l : List Nat) (hl : l.length ≤ 500) (s4 s5 : Slot) : ∃ (l' : List Nat) (t5 : Slot), l'.Perm (j :: l) ∧ turnF (phi [r__law_drawn_2]) (.name 4) loB (.int j) [.val (.scr ns), .val (.int k), .val m, .val (.lst (iN l)), s4, s5] = .ok (.nx [.val (.scr ns), .val (.int k), .val m, .val (.lst (iN l')), .val (.int j), t5]) := by
  obtain ⟨p, a, b, e⟩ := drawn_ok hn (k := k + j) (m := (l.length : Nat) + 1) (by omega) (by omega)
  have li : (iN l).length = l.length := by unfold iN; rw [List.length_map]
  have c1 : slS (.lst (iN l)) none (some p) = .ok (.lst (iN (l.take p.toNat))) := by
    have q : slS (.lst (iN l)) none (some p) = .ok (.lst (cutL (iN l) none (some p))) := rfl
    rw [q, cut_take _ (by rw [li]; omega)]
    unfold iN
    rw [List.map_take]
  have c2 : slS (.lst (iN l)) (some p) none = .ok (.lst (iN (l.drop p.toNat))) := by
    have q : slS (.lst (iN l)) (some p) none = .ok (.lst (cutL (iN l) (some p) none)) := rfl
    rw [q, cut_drop _ (by rw [li]; omega)]
    unfold iN
    rw [List.map_drop]
  have l1 : (iN (l.take p.toNat)).length ≤ 500 := by unfold iN; rw [List.length_map, List.length_take]; omega
  have l2 : (iN (l.drop p.toNat)).length ≤ 500 := by unfold iN; rw [List.length_map, List.length_drop]; omega
  have d1 : binS .Add (.lst (iN (l.take p.toNat))) (.lst [.int j]) = .ok (.lst (iN (l.take p.toNat) ++ [.int j])) := add_lst (by simp; omega)
  have d2 : binS .Add (.lst (iN (l.take p.toNat) ++ [.int j])) (.lst (iN (l.drop p.toNat))) = .ok (.lst (iN (l.take p.toNat) ++ [.int j] ++ iN (l.drop p.toNat))) := add_lst (by simp; omega)
  refine ⟨l.take p.toNat ++ j :: l.drop p.toNat, .val (.int p), ?_, ?_⟩
  · refine List.perm_middle.trans ?_
    rw [List.take_append_drop]
  · have z : iN (l.take p.toNat ++ j :: l.drop p.toNat) = iN (l.take p.toNat) ++ [.int j] ++ iN (l.drop p.toNat) := by
      unfold iN
      simp
    rw [z]
    generalize iN (l.take p.toNat) = t1 at *
    generalize iN (l.drop p.toNat) = t2 at *
    generalize iN l = ll at *
    unfold turnF
    simp -implicitDefEqProofs [loB, li, e, c1, c2, d1, d2, fit_1]
theorem lo_loop {ns : List Int} (hn : ns.length ≤ 63) {k : Int} (hk : 0 ≤ k ∧ k < 1000) (m : D) : ∀ (js l : List Nat) (s4 s5 : Slot), (∀ j ∈ js, j ≤ 500) → l.length + js.length ≤ 500 → ∃ (l' : List Nat) (t4 t5 : Slot), l'.Perm (l ++ js) ∧ forM (turnF (phi [r__law_drawn_2]) (.name 4) loB) (iN js) [.val (.scr ns), .val (.int k), .val m, .val (.lst (iN l)), s4, s5] = .ok (.nx [.val (.scr ns), .val (.int k), .val m, .val (.lst (iN l')), t4, t5])
  | [], l, s4, s5, _, _ => ⟨l, s4, s5, by rw [List.append_nil], rfl⟩
  | j :: js, l, s4, s5, hj, hl => by
    rw [List.length_cons] at hl
    obtain ⟨l1, t5, p1, q1⟩ := lo_turn hn hk m j (hj j List.mem_cons_self) l (by omega) s4 s5
    obtain ⟨l2, u4, u5, p2, q2⟩ := lo_loop hn hk m js l1 (.val (.int j)) t5 (fun x hx => hj x (List.mem_cons_of_mem _ hx)) (by rw [p1.length_eq, List.length_cons]; omega)
    refine ⟨l2, u4, u5, p2.trans ((p1.append_right js).trans ?_), ?_⟩
    · rw [List.cons_append]
      exact List.perm_middle.symm
    · show andThen (turnF _ _ _ _ _) _ = _
      rw [q1]
      exact q2
theorem law_order2_ok {ns : List Int} (hn : ns.length ≤ 63) {k : Int} (hk : 0 ≤ k ∧ k < 1000) (n : Nat) (h : n ≤ 400) : ∃ os : List Nat, os.Perm (List.range n) ∧ r__law_order_2.sem [.scr ns, .int k, .int n] = .ok (osD os) := by
  have rg : itS .rng1 [.int n] = .ok (iN (List.range n)) := by
    rw [rng1_ok (by omega) (by omega), Int.toNat_natCast, rangeD_eq]; rfl
  obtain ⟨os, t4, t5, p, q⟩ := lo_loop hn hk (.int n) (List.range n) [] .no .no (fun j hj => by have := List.mem_range.mp hj; omega) (by rw [List.length_range]; simp; omega)
  rw [List.nil_append] at p
  refine ⟨os, p, ?_⟩
  rw [show iN [] = [] from rfl] at q
  have z : osD os = .tup (iN os) := rfl
  rw [z]
  generalize iN os = io at *
  simp -implicitDefEqProofs [r__law_order_2, ir__law_order_2, runF_eq, rg, q]
end Pan

/-! Panestacks, part K9: above, meeting, wholly seen: plain laws. -/
namespace Pan
open PySem L2
/-! ### above -/
theorem sub_split {a b : Nat} : ∀ {pre post : List Nat}, a ∉ pre → ([a, b].Sublist (pre ++ a :: post) ↔ b ∈ post)
  | [], post, _ => by
    rw [List.nil_append, List.cons_sublist_cons, List.singleton_sublist]
  | x :: pre, post, h => by
    rw [List.mem_cons, not_or] at h
    have ih := sub_split (b := b) (post := post) h.2
    rw [List.cons_append, ← ih]
    constructor
    · intro q
      cases q with
      | cons _ q => exact q
      | cons_cons _ q => exact absurd rfl h.1
    · exact fun q => q.cons x
theorem top_iff {ws : List Wn} {os : List Nat} (hn : os.Nodup) {x y : Int} {a : Nat} : topOf ws os x y = some a ↔ a ∈ os ∧ hasAt ws x y a = true ∧ ∀ b, [a, b].Sublist os → hasAt ws x y b = false := by
  unfold topOf
  constructor
  · intro h
    obtain ⟨l, e⟩ := List.getLast?_eq_some_iff.mp h
    have hm : a ∈ os.filter (hasAt ws x y) := by rw [e]; simp
    have hm := List.mem_filter.mp hm
    refine ⟨hm.1, hm.2, fun b hb => ?_⟩
    cases q : hasAt ws x y b with
    | false => rfl
    | true =>
      have s := hb.filter (hasAt ws x y)
      rw [List.filter_cons_of_pos hm.2, List.filter_cons_of_pos q, List.filter_nil, e] at s
      have nd : (os.filter (hasAt ws x y)).Nodup := hn.filter (hasAt ws x y)
      rw [e, List.nodup_append] at nd
      have na : a ∉ l := fun h => nd.2.2 a h a (by simp) rfl
      have := (sub_split (post := []) na).mp s
      simp at this
  · rintro ⟨h1, h2, h3⟩
    have hm : a ∈ os.filter (hasAt ws x y) := List.mem_filter.mpr ⟨h1, h2⟩
    cases q : (os.filter (hasAt ws x y)).getLast? with
    | none => rw [List.getLast?_eq_none_iff.mp q] at hm; cases hm
    | some c =>
      obtain ⟨l, e⟩ := List.getLast?_eq_some_iff.mp q
      have hc : hasAt ws x y c = true := by
        have : c ∈ os.filter (hasAt ws x y) := by rw [e]; simp
        exact (List.mem_filter.mp this).2
      by_cases hac : a = c
      · rw [hac]
      · rw [e] at hm
        rcases List.mem_append.mp hm with h | h
        · have s : [a, c].Sublist (l ++ [c]) := (List.singleton_sublist.mpr h).append (List.Sublist.refl [c])
          rw [← e] at s
          have := h3 c (s.trans List.filter_sublist)
          rw [this] at hc
          cases hc
        · exact absurd (List.mem_singleton.mp h) hac
theorem sub_filter {p : Nat → Bool} {os : List Nat} {a b : Nat} : [a, b].Sublist (os.filter p) ↔ [a, b].Sublist os ∧ p a = true ∧ p b = true := by
  constructor
  · intro h
    refine ⟨h.trans List.filter_sublist, ?_, ?_⟩
    · exact (List.mem_filter.mp (h.subset (by simp))).2
    · exact (List.mem_filter.mp (h.subset (by simp))).2
  · rintro ⟨h, ha, hb⟩
    have := h.filter p
    rw [List.filter_cons_of_pos ha, List.filter_cons_of_pos hb, List.filter_nil] at this
    exact this
theorem sub_or {os : List Nat} {a b : Nat} (ha : a ∈ os) (hb : b ∈ os) (hne : a ≠ b) : [a, b].Sublist os ∨ [b, a].Sublist os := by
  obtain ⟨pre, post, e, hp⟩ := List.eq_append_cons_of_mem ha
  rw [e] at hb
  rcases List.mem_append.mp hb with h | h
  · right
    rw [e]
    exact (List.singleton_sublist.mpr h).append (List.singleton_sublist.mpr (by simp))
  · rcases List.mem_cons.mp h with h | h
    · exact absurd h.symm hne
    · left
      rw [e]
      exact (sub_split hp).mpr h
/-! ### meeting -/
theorem meet_has (v w : Wn) (x y : Int) : (meet v w).has x y = (v.has x y && w.has x y) := by
  unfold meet Wn.has
  rw [Bool.eq_iff_iff]
  simp only [Bool.and_eq_true, decide_eq_true_eq]
  constructor
  · intro h
    split at h <;> split at h <;> split at h <;> split at h <;> omega
  · intro h
    split <;> split <;> split <;> split <;> omega
def mtB (v w : Wn) : Bool := decide ((meet v w).l < (meet v w).r ∧ (meet v w).t < (meet v w).b)
theorem mtB_iff {v w : Wn} : mtB v w = true ↔ ∃ x y, v.has x y = true ∧ w.has x y = true := by
  unfold mtB
  rw [decide_eq_true_eq]
  constructor
  · intro h
    refine ⟨(meet v w).l, (meet v w).t, ?_⟩
    have : (meet v w).has (meet v w).l (meet v w).t = true := by
      unfold Wn.has
      simp only [Bool.and_eq_true, decide_eq_true_eq]
      omega
    rw [meet_has, Bool.and_eq_true] at this
    exact this
  · rintro ⟨x, y, h1, h2⟩
    have : (meet v w).has x y = true := by rw [meet_has, h1, h2]; rfl
    unfold Wn.has at this
    simp only [Bool.and_eq_true, decide_eq_true_eq] at this
    omega
theorem ov_isnot (v w : Wn) : cmpS .IsNot (if (meet v w).l < (meet v w).r ∧ (meet v w).t < (meet v w).b then wD (meet v w) else .non) .non = .ok (mtB v w) := by
  unfold mtB
  by_cases h : (meet v w).l < (meet v w).r ∧ (meet v w).t < (meet v w).b
  · rw [if_pos h, decide_eq_true h]; rfl
  · rw [if_neg h, decide_eq_false h]; rfl
/-- two windows meet -/
def mtI (ws : List Wn) (a b : Nat) : Bool := match ws[a]?, ws[b]? with
  | some v, some w => mtB v w
  | _, _ => false
theorem mtI_iff {ws : List Wn} {a b : Nat} : mtI ws a b = true ↔ ∃ x y, hasAt ws x y a = true ∧ hasAt ws x y b = true := by
  unfold mtI hasAt
  cases ws[a]? with
  | none => simp
  | some v =>
    cases ws[b]? with
    | none => simp
    | some w => exact mtB_iff
theorem mtI_symm (ws : List Wn) (a b : Nat) : mtI ws a b = mtI ws b a := by
  rw [Bool.eq_iff_iff, mtI_iff, mtI_iff]
  exact ⟨fun ⟨x, y, h1, h2⟩ => ⟨x, y, h2, h1⟩, fun ⟨x, y, h1, h2⟩ => ⟨x, y, h2, h1⟩⟩
/-! ### wholly seen -/
theorem whole_iff {ws : List Wn} {os : List Nat} (hn : os.Nodup) {a : Nat} (ha : a ∈ os) {w : Wn} (hw : ws[a]? = some w) : (seenN ws os a w).length = (cellsOf w).length ↔ ∀ b, [a, b].Sublist os → mtI ws a b = false := by
  have sb : (seenN ws os a w).Sublist (cellsOf w) := List.filter_sublist
  have e : (seenN ws os a w).length = (cellsOf w).length ↔ ∀ p ∈ cellsOf w, topOf ws os p.1 p.2 = some a := by
    constructor
    · intro h p hp
      rw [← sb.eq_of_length h] at hp
      have := (List.mem_filter.mp hp).2
      exact of_decide_eq_true this
    · intro h
      congr 1
      unfold seenN
      rw [List.filter_eq_self]
      intro p hp
      exact decide_eq_true (h p hp)
  have hh : ∀ x y, hasAt ws x y a = w.has x y := fun x y => by unfold hasAt; rw [hw]
  rw [e]
  constructor
  · intro h b hb
    cases q : mtI ws a b with
    | false => rfl
    | true =>
      obtain ⟨x, y, h1, h2⟩ := mtI_iff.mp q
      rw [hh] at h1
      have t := (top_iff hn).mp (h (x, y) (mem_cellsOf.mpr h1))
      have := t.2.2 b hb
      rw [h2] at this
      cases this
  · intro h p hp
    have hp := mem_cellsOf.mp hp
    refine (top_iff hn).mpr ⟨ha, by rw [hh]; exact hp, fun b hb => ?_⟩
    cases q : hasAt ws p.1 p.2 b with
    | false => rfl
    | true =>
      have := h b hb
      have m : mtI ws a b = true := mtI_iff.mpr ⟨p.1, p.2, by rw [hh]; exact hp, q⟩
      rw [this] at m
      cases m
/-! ### sums -/
def scN (ws : List Wn) (os : List Nat) (o : Nat) : Nat := match ws[o]? with
  | some w => (seenN ws os o w).length
  | none => 0
theorem sum_add (f g : Nat → Nat) : ∀ l : List Nat, (l.map fun o => f o + g o).sum = (l.map f).sum + (l.map g).sum
  | [] => rfl
  | a :: l => by simp only [List.map_cons, List.sum_cons, sum_add f g l]; omega
theorem sum_one (x : Nat) : ∀ l : List Nat, (l.map fun o => if x = o then 1 else 0).sum = l.count x
  | [] => rfl
  | a :: l => by
    rw [List.map_cons, List.sum_cons, sum_one x l, List.count_cons]
    by_cases h : x = a
    · subst h; simp; omega
    · have : ¬ a = x := fun e => h e.symm
      simp [h, this]
theorem sum_tops {α : Type} (f : α → Option Nat) (n : Nat) : ∀ G : List α, (∀ p ∈ G, ∀ o, f p = some o → o < n) → ((List.range n).map fun o => G.countP fun p => decide (f p = some o)).sum = G.countP fun p => (f p).isSome
  | [], _ => by
    simp only [List.countP_nil]
    induction List.range n with
    | nil => rfl
    | cons a l ih => rw [List.map_cons, List.sum_cons, ih]
  | p :: G, h => by
    have ih := sum_tops f n G fun q hq => h q (List.mem_cons_of_mem _ hq)
    simp only [List.countP_cons]
    rw [sum_add, ih]
    congr 1
    cases q : f p with
    | none =>
      simp
      induction List.range n with
      | nil => rfl
      | cons a l ih => rw [List.map_cons, List.sum_cons, ih]
    | some x =>
      have hx := h p List.mem_cons_self x q
      have := sum_one x (List.range n)
      simp only [Option.some.injEq, decide_eq_true_eq, Option.isSome_some, if_true]
      rw [this]
      rw [List.nodup_range.count, if_pos (List.mem_range.mpr hx)]
theorem top_has {ws : List Wn} {os : List Nat} {x y : Int} {o : Nat} (h : topOf ws os x y = some o) : o ∈ os ∧ hasAt ws x y o = true := by
  unfold topOf at h
  exact List.mem_filter.mp (List.mem_of_getLast? h)
theorem sc_count {ws : List Wn} {os : List Nat} (h : ∀ w ∈ ws, w.ok) {o : Nat} (hn : o < ws.length) : scN ws os o = grid.countP fun p => decide (topOf ws os p.1 p.2 = some o) := by
  have hw : ws[o]? = some ws[o] := List.getElem?_eq_getElem hn
  have hk := h ws[o] (List.getElem_mem hn)
  unfold scN
  rw [hw]
  show (seenN ws os o ws[o]).length = _
  unfold seenN
  rw [← List.countP_eq_length_filter, ← (cl_perm hk).countP_eq, cl, List.countP_filter]
  congr 1
  funext p
  rw [Bool.eq_iff_iff, Bool.and_eq_true, decide_eq_true_eq]
  constructor
  · exact fun q => q.1
  · intro q
    have := (top_has q).2
    unfold hasAt at this
    rw [hw] at this
    exact ⟨q, this⟩
/-- what is seen of all windows of an order is what they cover -/
theorem total_ok {ws : List Wn} {os : List Nat} (h : ∀ w ∈ ws, w.ok) (ho : ∀ o ∈ os, o < ws.length) : ((List.range ws.length).map (scN ws os)).sum = (grid.filter fun p => os.any fun o => hasAt ws p.1 p.2 o).length := by
  have e : (List.range ws.length).map (scN ws os) = (List.range ws.length).map fun o => grid.countP fun p => decide (topOf ws os p.1 p.2 = some o) :=
    List.map_congr_left fun o hm => sc_count h (List.mem_range.mp hm)
  rw [e, sum_tops (fun p : Int × Int => topOf ws os p.1 p.2) ws.length grid (fun p _ o q => ho o (top_has q).1), List.countP_eq_length_filter]
  congr 1
  refine List.filter_congr fun p _ => ?_
  unfold topOf
  rw [Bool.eq_iff_iff, List.any_eq_true]
  cases hf : os.filter (hasAt ws p.1 p.2) with
  | nil =>
    rw [List.filter_eq_nil_iff] at hf
    constructor
    · intro q; cases q
    · rintro ⟨o, ho, q⟩; exact absurd q (hf o ho)
  | cons o l =>
    have : o ∈ os.filter (hasAt ws p.1 p.2) := by rw [hf]; exact List.mem_cons_self
    have := List.mem_filter.mp this
    constructor
    · intro _; exact ⟨o, this.1, this.2⟩
    · intro _; rw [List.getLast?_cons]; rfl
theorem sc_zero {ws : List Wn} {os : List Nat} {o : Nat} (h : o ∉ os) : scN ws os o = 0 := by
  unfold scN
  split
  · unfold seenN
    rw [List.length_eq_zero_iff, List.filter_eq_nil_iff]
    intro p _ q
    exact h (top_has (of_decide_eq_true q)).1
  · rfl
/-- what stays on top when others go -/
theorem top_keep {ws : List Wn} {os : List Nat} {p : Nat → Bool} {x y : Int} {o : Nat} (h : topOf ws os x y = some o) (hp : p o = true) : topOf ws (os.filter p) x y = some o := by
  unfold topOf at h ⊢
  obtain ⟨l, e⟩ := List.getLast?_eq_some_iff.mp h
  have : (os.filter p).filter (hasAt ws x y) = (os.filter (hasAt ws x y)).filter p := by
    rw [List.filter_filter, List.filter_filter]
    exact List.filter_congr fun a _ => Bool.and_comm _ _
  rw [this, e, List.filter_append, List.filter_cons_of_pos hp]
  simp
theorem sc_mono {ws : List Wn} {os : List Nat} {p : Nat → Bool} {o : Nat} (hp : p o = true) : scN ws os o ≤ scN ws (os.filter p) o := by
  unfold scN
  split
  · rename_i w hw
    unfold seenN
    rw [← List.countP_eq_length_filter, ← List.countP_eq_length_filter]
    exact List.countP_mono_left fun q _ h => decide_eq_true (top_keep (of_decide_eq_true h) hp)
  · exact Nat.le_refl _
end Pan

/-! Panestacks, part K10: groups, windows that are minimized. -/
namespace Pan
open PySem L2
def Asc (n : Nat) (l : List Nat) : Prop := l.Pairwise (· < ·) ∧ ∀ o ∈ l, o < n
theorem Asc.filter {n : Nat} {l : List Nat} (h : Asc n l) (p : Nat → Bool) : Asc n (l.filter p) := ⟨h.1.filter p, fun o ho => h.2 o (List.mem_filter.mp ho).1⟩
theorem asc_range (n : Nat) (p : Nat → Bool) : Asc n ((List.range n).filter p) := ⟨List.pairwise_lt_range.filter p, fun o ho => List.mem_range.mp (List.mem_filter.mp ho).1⟩
theorem cut_one {α : Type} (xs : List α) : cutL xs (some 1) none = xs.drop 1 := by
  cases xs with
  | nil => rfl
  | cons a l => exact cut_drop _ (by simp; omega)
theorem iN_drop (l : List Nat) (k : Nat) : iN (l.drop k) = (iN l).drop k := by unfold iN; rw [List.map_drop]
theorem iN_take (l : List Nat) (k : Nat) : iN (l.take k) = (iN l).take k := by unfold iN; rw [List.map_take]
theorem iN_len (l : List Nat) : (iN l).length = l.length := by unfold iN; rw [List.length_map]
theorem zip_iN (l m : List Nat) : itS .zip [.tup (iN l), .tup (iN m)] = .ok ((l.zip m).map fun p => .prs [.int p.1, .int p.2]) := by
  have q : itS .zip [.tup (iN l), .tup (iN m)] = .ok (zipD (iN l) (iN m)) := rfl
  rw [q]
  unfold zipD iN
  rw [List.zip_map, List.map_map]
  rfl
theorem asc_zip : ∀ {l : List Nat}, l.Pairwise (· < ·) → ∀ p ∈ l.zip (l.drop 1), p.1 < p.2
  | [], _ => by simp
  | [a], _ => by simp
  | a :: b :: r, h => by
    intro p hp
    have e : (a :: b :: r).zip ((a :: b :: r).drop 1) = (a, b) :: (b :: r).zip ((b :: r).drop 1) := rfl
    rw [e] at hp
    rw [List.pairwise_cons] at h
    rcases List.mem_cons.mp hp with rfl | hp
    · exact h.1 b (by simp)
    · exact asc_zip h.2 p hp
theorem all_true {α : Type} (l : List α) : biS .all [.lst (l.map fun _ => .bl true)] = .ok (.bl true) := by
  have := all_bools (fun _ : α => true) l
  rw [this]
  simp
theorem any_bools {α : Type} (f : α → Bool) (xs : List α) : biS .any [.lst (xs.map fun x => .bl (f x))] = .ok (.bl (xs.any f)) := by
  show (match boolsOf _ with | some bs => _ | none => _) = _
  rw [boolsOf_map]
  simp [List.any_map]
theorem ints_in {Φ : Nat → List D → R D} {n : Nat} {ws : D} (hw : biS .len [ws] = .ok (.int n)) (hΦ : ∀ ds, Φ 0 ds = arity r_is_int.n r_is_int.sem ds) {l : List Nat} (h : ∀ o ∈ l, o < n) (s1 s3 s4 s2 : Slot) : lcM (iN l) (itemL Φ [.val ws, s1, s2, s3, s4] [2] (.name 2) .none (.call 0 (.cons (.var 2) (.cons (.lit (.int (0))) (.cons (.bin .Sub (.bi .len (.cons (.var 0) .nil)) (.lit (.int (1)))) .nil))))) = .ok (l.map fun _ => .bl true) := by
  refine lcM_mapI (fun (i : Nat) => (.int i : D)) _ fun i hi => ?_
  have e := is_int_in (lo := 0) (hi := (n : Int) - 1) (i := (i : Int))
  have d : (decide ((0 : Int) ≤ i) && decide ((i : Int) ≤ (n : Int) - 1)) = true := by have := h i hi; simp; omega
  rw [d] at e
  simp -implicitDefEqProofs [itemL, hw, hΦ, e]
theorem asc_lt {Φ : Nat → List D → R D} {l : List Nat} (h : l.Pairwise (· < ·)) (s0 s1 s2 s3 s4 : Slot) : lcM ((l.zip (l.drop 1)).map fun p => .prs [.int p.1, .int p.2]) (itemL Φ [s0, s1, s2, s3, s4] [3, 4] (.tup [3, 4]) .none (.cmp .Lt (.var 3) (.var 4))) = .ok ((l.zip (l.drop 1)).map fun _ => .bl true) := by
  refine lcM_mapI (fun (p : Nat × Nat) => (.prs [.int p.1, .int p.2] : D)) _ fun p hp => ?_
  have := asc_zip h p hp
  have d : decide ((p.1 : Int) < p.2) = true := decide_eq_true (by omega)
  simp -implicitDefEqProofs [itemL]
  omega
theorem is_small_ok {ws : List Wn} {l : List Nat} (h : Asc ws.length l) : r_is_small.sem [wsD ws, .tup (iN l)] = .ok (.bl true) := by
  have hi := isinst_ok (d := .tup (iN l)) (n := "tuple") (by simp [okd, iN]) rfl
  have h1 := ints_in (Φ := phi [r_is_int]) (len_wsD ws) (fun _ => rfl) h.2 (.val (.tup (iN l))) .no .no .no
  have h2 := asc_lt (Φ := phi [r_is_int]) h.1 (.val (wsD ws)) (.val (.tup (iN l))) .no .no .no
  have a1 := all_true l
  have a2 := all_true (l.zip (l.drop 1))
  have c : slS (.tup (iN l)) (some 1) none = .ok (.tup (iN (l.drop 1))) := by
    have q : slS (.tup (iN l)) (some 1) none = .ok (.tup (cutL (iN l) (some 1) none)) := rfl
    rw [q, cut_one, iN_drop]
  have z := zip_iN l (l.drop 1)
  generalize iN (l.drop 1) = dl at *
  generalize iN l = il at *
  generalize l.zip (l.drop 1) = zl at *
  simp -implicitDefEqProofs [r_is_small, ir_is_small, runF_eq, hi, isInstS, h1, a1, c, z, h2, a2]
theorem has_group_ok {ws : List Wn} {l : List Nat} (h : Asc ws.length l) (hne : l ≠ []) : r_has_group.sem [wsD ws, .tup (iN l)] = .ok (.bl true) := by
  have hi := isinst_ok (d := .tup (iN l)) (n := "tuple") (by simp [okd, iN]) rfl
  have h1 := ints_in (Φ := phi [r_is_int]) (len_wsD ws) (fun _ => rfl) h.2 (.val (.tup (iN l))) .no .no .no
  have h2 := asc_lt (Φ := phi [r_is_int]) h.1 (.val (wsD ws)) (.val (.tup (iN l))) .no .no .no
  have a1 := all_true l
  have a2 := all_true (l.zip (l.drop 1))
  have c : slS (.tup (iN l)) (some 1) none = .ok (.tup (iN (l.drop 1))) := by
    have q : slS (.tup (iN l)) (some 1) none = .ok (.tup (cutL (iN l) (some 1) none)) := rfl
    rw [q, cut_one, iN_drop]
  have ne : cmpS .Eq (.tup (iN l)) (.tup []) = .ok false := by
    have q : cmpS .Eq (.tup (iN l)) (.tup []) = if okd 8 (.tup (iN l)) && okd 8 (.tup []) then .ok (eqv (.tup (iN l)) (.tup [])) else .bad := rfl
    rw [q, if_pos (by simp [okd, iN])]
    cases l with
    | nil => exact absurd rfl hne
    | cons a l => rfl
  have z := zip_iN l (l.drop 1)
  generalize iN (l.drop 1) = dl at *
  generalize iN l = il at *
  generalize l.zip (l.drop 1) = zl at *
  simp -implicitDefEqProofs [r_has_group, ir_has_group, runF_eq, hi, isInstS, h1, a1, c, z, h2, a2, ne]
theorem check_group_ok {ws : List Wn} {l : List Nat} (h : Asc ws.length l) (hne : l ≠ []) : r_check_group.sem [wsD ws, .tup (iN l)] = .ok .non := by
  have a := has_group_ok h hne
  simp -implicitDefEqProofs [r_check_group, ir_check_group, runF_eq, a]
/-! ### overlaps of numbers -/
theorem ovI {ws : List Wn} {a b : Nat} (ha : a < ws.length) (hb : b < ws.length) : ∃ d d1 d2, ixS (wsD ws) (.int a) = .ok d1 ∧ ixS (wsD ws) (.int b) = .ok d2 ∧ r_find_overlap.sem [d1, d2] = .ok d ∧ cmpS .IsNot d .non = .ok (mtI ws a b) := by
  have h1 : ws[a]? = some ws[a] := List.getElem?_eq_getElem ha
  have h2 : ws[b]? = some ws[b] := List.getElem?_eq_getElem hb
  refine ⟨_, _, _, ix_wsD h1, ix_wsD h2, find_overlap_ok _ _, ?_⟩
  rw [ov_isnot]
  unfold mtI
  rw [h1, h2]
/-! ### apart -/
def apR (ws : List Wn) : List Nat → List Nat → Bool
  | _, [] => true
  | pre, a :: r => !(pre.any (mtI ws a)) && apR ws (pre ++ [a]) r
abbrev apB : Ss := .cons (.ife (.bi .any (.cons (.lc [4] (.name 4) .seq (.cons (.sl (.var 1) .none (.some (.var 2))) .nil) .none (.cmp .IsNot (.call 0 (.cons (.ix (.var 0) (.var 3)) (.cons (.ix (.var 0) (.var 4)) .nil))) (.lit .non))) .nil)) (.cons (.ret (.lit (.bl false))) .nil) .nil) .nil
theorem ap_loop {ws : List Wn} {l : List Nat} (h : ∀ o ∈ l, o < ws.length) (s4 : Slot) : ∀ (rest pre : List Nat) (s2 s3 : Slot), l = pre ++ rest → ∃ t2 t3, forM (turnF (phi [r_find_overlap]) (.tup [2, 3]) apB) ((rest.zipIdx pre.length).map fun p => .prs [.int (p.2 : Nat), .int (p.1 : Nat)]) [.val (wsD ws), .val (.tup (iN l)), s2, s3, s4] = if apR ws pre rest then .ok (.nx [.val (wsD ws), .val (.tup (iN l)), t2, t3, s4]) else .ok (.rt (.bl false))
  | [], pre, s2, s3, _ => ⟨s2, s3, rfl⟩
  | a :: r, pre, s2, s3, e => by
    obtain ⟨t2, t3, q⟩ := ap_loop h s4 r (pre ++ [a]) (.val (.int (pre.length : Nat))) (.val (.int (a : Nat))) (by rw [e, List.append_assoc]; rfl)
    refine ⟨t2, t3, ?_⟩
    have c : slS (.tup (iN l)) none (some (pre.length : Nat)) = .ok (.tup (iN pre)) := by
      have q : slS (.tup (iN l)) none (some (pre.length : Nat)) = .ok (.tup (cutL (iN l) none (some (pre.length : Nat)))) := rfl
      rw [q, cut_take _ (by rw [iN_len, e, List.length_append]; omega), Int.toNat_natCast, ← iN_take, e, List.take_left]
    have hl : lcM (iN pre) (itemL (phi [r_find_overlap]) [.val (wsD ws), .val (.tup (iN l)), .val (.int (pre.length : Nat)), .val (.int (a : Nat)), s4] [4] (.name 4) .none (.cmp .IsNot (.call 0 (.cons (.ix (.var 0) (.var 3)) (.cons (.ix (.var 0) (.var 4)) .nil))) (.lit .non))) = .ok (pre.map fun b => .bl (mtI ws a b)) := by
      refine lcM_mapI (fun (i : Nat) => (.int i : D)) _ fun b hb => ?_
      obtain ⟨d, d1, d2, e1, e2, e3, e4⟩ := ovI (ws := ws) (a := a) (b := b) (h a (by rw [e]; simp)) (h b (by rw [e]; simp [hb]))
      simp -implicitDefEqProofs [itemL, e1, e2, e3, e4, -isnot_non]
    have an := any_bools (mtI ws a) pre
    have st : turnF (phi [r_find_overlap]) (.tup [2, 3]) apB (.prs [.int (pre.length : Nat), .int (a : Nat)]) [.val (wsD ws), .val (.tup (iN l)), s2, s3, s4] = if pre.any (mtI ws a) then .ok (.rt (.bl false)) else .ok (.nx [.val (wsD ws), .val (.tup (iN l)), .val (.int (pre.length : Nat)), .val (.int (a : Nat)), s4]) := by
      generalize iN l = il at *
      unfold turnF
      cases hb : pre.any (mtI ws a) <;> rw [hb] at an <;> simp -implicitDefEqProofs [apB, c, hl, an]
    rw [List.zipIdx_cons, List.map_cons]
    show andThen (turnF _ _ _ _ _) _ = _
    rw [st]
    unfold apR
    cases hb : pre.any (mtI ws a) with
    | true => rfl
    | false =>
      rw [List.length_append, List.length_singleton] at q
      exact q
theorem are_apart_ok {ws : List Wn} {l : List Nat} (h : ∀ o ∈ l, o < ws.length) : r_are_apart.sem [wsD ws, .tup (iN l)] = .ok (.bl (apR ws [] l)) := by
  obtain ⟨t2, t3, q⟩ := ap_loop h .no l [] .no .no rfl
  have en : itS .enum [.tup (iN l)] = .ok ((l.zipIdx 0).map fun p => .prs [.int (p.2 : Nat), .int (p.1 : Nat)]) := by
    have q : itS .enum [.tup (iN l)] = .ok (enumD (iN l)) := rfl
    rw [q]
    unfold enumD iN
    rw [List.mapIdx_eq_zipIdx_map, List.zipIdx_map, List.map_map]
    rfl
  rw [List.length_nil] at q
  generalize iN l = il at *
  generalize (l.zipIdx 0).map (fun p => (.prs [.int (p.2 : Nat), .int (p.1 : Nat)] : D)) = zz at *
  cases hb : apR ws [] l <;> rw [hb] at q <;> simp -implicitDefEqProofs only [if_true, Bool.false_eq_true, if_false] at q <;> simp -implicitDefEqProofs [r_are_apart, ir_are_apart, runF_eq, en, q, -enum_tup]
theorem apR_iff {ws : List Wn} : ∀ {rest pre : List Nat}, apR ws pre rest = true ↔ (∀ a ∈ rest, ∀ b ∈ pre, mtI ws a b = false) ∧ rest.Pairwise (fun x y => mtI ws y x = false)
  | [], pre => by simp [apR]
  | a :: r, pre => by
    unfold apR
    rw [Bool.and_eq_true, apR_iff, List.pairwise_cons]
    simp only [Bool.not_eq_true', List.any_eq_false, List.mem_append, List.mem_cons, List.not_mem_nil, or_false]
    constructor
    · rintro ⟨h1, h2, h3⟩
      refine ⟨?_, fun b hb => h2 b hb a (.inr rfl), h3⟩
      rintro x (rfl | hx) b hb
      · simpa using h1 b hb
      · exact h2 x hx b (.inl hb)
    · rintro ⟨h1, h2, h3⟩
      refine ⟨fun b hb => by simpa using h1 a (.inl rfl) b hb, ?_, h3⟩
      rintro x hx b (hb | rfl)
      · exact h1 x (.inr hx) b hb
      · exact h2 x hx
theorem can_show_ok {ws : List Wn} (hw : ∀ w ∈ ws, w.ok) (hl : ws.length ≤ 6) {l : List Nat} (h : Asc ws.length l) (hne : l ≠ []) : r_can_show.sem [wsD ws, .tup (iN l)] = .ok (.bl (apR ws [] l)) := by
  have a := check_windows_ok (wsD ws) (okd_wsD 6 ws)
  rw [areW_wsD hw hl] at a
  simp only [if_true] at a
  have b := check_group_ok h hne
  have c := are_apart_ok h.2
  simp -implicitDefEqProofs only [r_can_show, ir_can_show, runF_eq, List.map_cons, List.map_nil, List.length_cons, List.length_nil, List.cons_append, List.nil_append, Nat.zero_add, Nat.reduceAdd, Nat.reduceSub, List.replicate, xss_cons, xss_nil, xs_expr, xs_ret, ev_call, evs_cons, evs_nil, ev_var, getV_zero, getV_succ, bind_ok, phi_zero, phi_succ, arity_if, n_check_windows, n_check_group, n_are_apart, lift_ok, andThen_nx, andThen_rt, outF_rt, if_true, a, b, c]
/-! ### sizes without some -/
theorem in_tup (o : Nat) (os : List Nat) : cmpS .In (.int o) (.tup (iN os)) = .ok (decide (o ∈ os)) := in_ints o os
theorem notin_tup (o : Nat) (os : List Nat) : cmpS .NotIn (.int o) (.tup (iN os)) = .ok (!decide (o ∈ os)) := by
  have := in_ints o os
  have q : inS (.int o) (.tup (iN os)) = .ok (decide (o ∈ os)) := this
  show (do let r ← inS (.int o) (.tup (iN os)); R.ok (!r)) = _
  rw [q]
  rfl
def notB (small : List Nat) (o : Nat) : Bool := !decide (o ∈ small)
def szN (ws : List Wn) (os small : List Nat) : List Nat := (List.range ws.length).map (scN ws (os.filter (notB small)))
theorem sizes_without_ok {ws : List Wn} (h : ∀ w ∈ ws, w.ok) (hl : ws.length ≤ 6) (os small : List Nat) : r_sizes_without.sem [wsD ws, .tup (iN os), .tup (iN small)] = .ok (.lst (iN (szN ws os small))) := by
  have lw := len_wsD ws
  have rg : itS .rng1 [.int ws.length] = .ok (iN (List.range ws.length)) := by
    rw [rng1_ok (by omega) (by omega), Int.toNat_natCast, rangeD_eq]; rfl
  have l1 : lcM (iN os) (itemL (phi [r_find_seen]) [.val (wsD ws), .val (.tup (iN os)), .val (.tup (iN small)), .no, .no] [4] (.name 4) (.some (.cmp .NotIn (.var 4) (.var 2))) (.var 4)) = .ok (iN (os.filter (notB small))) := by
    refine lcM_filterI (fun (i : Nat) => (.int i : D)) (notB small) (fun (i : Nat) => (.int i : D)) fun i _ => ?_
    have e := notin_tup i small
    unfold notB
    cases hb : !decide (i ∈ small) <;> rw [hb] at e <;> simp -implicitDefEqProofs [itemL, e]
  have l2 : lcM (iN (List.range ws.length)) (itemL (phi [r_find_seen]) [.val (wsD ws), .val (.tup (iN os)), .val (.tup (iN small)), .val (.tup (iN (os.filter (notB small)))), .no] [4] (.name 4) .none (.ife (.cmp .In (.var 4) (.var 2)) (.lit (.int (0))) (.bi .len (.cons (.call 0 (.cons (.var 0) (.cons (.var 3) (.cons (.var 4) .nil)))) .nil)))) = .ok (iN (szN ws os small)) := by
    unfold szN
    rw [show iN ((List.range ws.length).map (scN ws (os.filter (notB small)))) = (List.range ws.length).map fun o => .int ((scN ws (os.filter (notB small)) o : Nat) : Int) by unfold iN; rw [List.map_map]; rfl]
    refine lcM_mapI (fun (i : Nat) => (.int i : D)) _ fun i hi => ?_
    have hi := List.mem_range.mp hi
    have hw : ws[i]? = some ws[i] := List.getElem?_eq_getElem hi
    have e := in_tup i small
    by_cases hm : i ∈ small
    · rw [decide_eq_true hm] at e
      have z : scN ws (os.filter (notB small)) i = 0 := sc_zero fun q => by
        have := (List.mem_filter.mp q).2
        unfold notB at this
        rw [decide_eq_true hm] at this
        cases this
      rw [z]
      simp -implicitDefEqProofs [itemL, e]
    · rw [decide_eq_false hm] at e
      have s := find_seen_ok (os.filter (notB small)) hw (h _ (List.getElem_mem hi))
      have s : r_find_seen.sem [wsD ws, .tup (iN (os.filter (notB small))), .int i] = _ := s
      have z : scN ws (os.filter (notB small)) i = (seenN ws (os.filter (notB small)) i ws[i]).length := by unfold scN; rw [hw]
      rw [z]
      generalize iN (os.filter (notB small)) = fo at *
      simp -implicitDefEqProofs [itemL, e, s]
  generalize iN (os.filter (notB small)) = fo at *
  generalize iN os = io at *
  generalize iN small = is at *
  simp -implicitDefEqProofs [r_sizes_without, ir_sizes_without, runF_eq, l1, lw, rg, l2]
theorem seen_without_ok {ws : List Wn} (h : ∀ w ∈ ws, w.ok) (hl : ws.length ≤ 6) {os : List Nat} (ho : os.Perm (List.range ws.length)) {small : List Nat} (hs : Asc ws.length small) : r_seen_without.sem [wsD ws, .tup (iN os), .tup (iN small)] = .ok (.lst (iN (szN ws os small))) := by
  have a : r_check_both.sem [wsD ws, .tup (iN os)] = .ok .non := check_both_ok h hl ho
  have b := is_small_ok hs
  have c := sizes_without_ok h hl os small
  simp -implicitDefEqProofs [r_seen_without, ir_seen_without, runF_eq, a, b, c]
theorem ix_iN {l : List Nat} {o : Nat} (h : o < l.length) : ixS (.lst (iN l)) (.int o) = .ok (.int (l[o] : Nat)) := by
  have q : ixS (.lst (iN l)) (.int o) = match atI (iN l) (o : Int) with | some d => .ok d | none => .bad := rfl
  have e : atI (iN l) (o : Int) = some (.int (l[o] : Nat)) := by
    unfold atI ixN
    rw [if_pos (by omega), if_pos (by rw [iN_len]; omega)]
    show (iN l)[(o : Int).toNat]? = _
    unfold iN
    rw [Int.toNat_natCast, List.getElem?_map, List.getElem?_eq_getElem h]
    rfl
  rw [q, e]
theorem ix_sz {ws : List Wn} (os small : List Nat) {o : Nat} (h : o < ws.length) : ixS (.lst (iN (szN ws os small))) (.int o) = .ok (.int (scN ws (os.filter (notB small)) o : Nat)) := by
  have hl : o < ((List.range ws.length).map (scN ws (os.filter (notB small)))).length := by rw [List.length_map, List.length_range]; exact h
  have e := ix_iN hl
  rw [List.getElem_map, List.getElem_range] at e
  exact e
def freedB (ws : List Wn) (os : List Nat) (a o : Nat) : Bool := decide (scN ws (os.filter (notB [])) o < scN ws (os.filter (notB [a])) o)
theorem freed_by_ok {ws : List Wn} (h : ∀ w ∈ ws, w.ok) (hl : ws.length ≤ 6) {os : List Nat} (ho : os.Perm (List.range ws.length)) {a : Nat} (ha : a < ws.length) : r_freed_by.sem [wsD ws, .tup (iN os), .int a] = .ok (.lst (iN ((List.range ws.length).filter (freedB ws os a)))) := by
  have c : r_check_three.sem [wsD ws, .tup (iN os), .int a] = .ok .non := check_three_ok h hl ho ha
  have lw := len_wsD ws
  have rg : itS .rng1 [.int ws.length] = .ok (iN (List.range ws.length)) := by
    rw [rng1_ok (by omega) (by omega), Int.toNat_natCast, rangeD_eq]; rfl
  have s1 : r_sizes_without.sem [wsD ws, .tup (iN os), .tup []] = .ok (.lst (iN (szN ws os []))) := sizes_without_ok h hl os []
  have s2 : r_sizes_without.sem [wsD ws, .tup (iN os), .tup [.int a]] = .ok (.lst (iN (szN ws os [a]))) := sizes_without_ok h hl os [a]
  have l2 : lcM (iN (List.range ws.length)) (itemL (phi [r_check_three, r_sizes_without]) [.val (wsD ws), .val (.tup (iN os)), .val (.int a), .val (.lst (iN (szN ws os []))), .val (.lst (iN (szN ws os [a]))), .no] [5] (.name 5) (.some (.cmp .Gt (.ix (.var 4) (.var 5)) (.ix (.var 3) (.var 5)))) (.var 5)) = .ok (iN ((List.range ws.length).filter (freedB ws os a))) := by
    refine lcM_filterI (fun (i : Nat) => (.int i : D)) _ (fun (i : Nat) => (.int i : D)) fun i hi => ?_
    have hi := List.mem_range.mp hi
    have e1 := ix_sz os [] hi
    have e2 := ix_sz os [a] hi
    unfold freedB
    by_cases hq : scN ws (os.filter (notB [])) i < scN ws (os.filter (notB [a])) i
    · have d : decide (((scN ws (os.filter (notB [])) i : Nat) : Int) < ((scN ws (os.filter (notB [a])) i : Nat) : Int)) = true := decide_eq_true (by omega)
      rw [decide_eq_true hq]
      simp -implicitDefEqProofs only [itemL, wipe_one, List.set_cons_succ, List.set_cons_zero, asgG_name, bind_ok, evT_some, ev_cmp, ev_ix, ev_var, getV_zero, getV_succ, e1, e2, gt_int, d, asB_bl, if_true]
    · have d : decide (((scN ws (os.filter (notB [])) i : Nat) : Int) < ((scN ws (os.filter (notB [a])) i : Nat) : Int)) = false := decide_eq_false (by omega)
      rw [decide_eq_false hq]
      simp -implicitDefEqProofs only [itemL, wipe_one, List.set_cons_succ, List.set_cons_zero, asgG_name, bind_ok, evT_some, ev_cmp, ev_ix, ev_var, getV_zero, getV_succ, e1, e2, gt_int, d, asB_bl, Bool.false_eq_true, if_false]
  generalize iN os = io at *
  generalize iN (szN ws os []) = z1 at *
  generalize iN (szN ws os [a]) = z2 at *
  simp -implicitDefEqProofs [r_freed_by, ir_freed_by, runF_eq, c, s1, s2, lw, rg, l2, fit_1]
end Pan

/-! Panestacks, part K11: above_of, to_minimize. -/
namespace Pan
open PySem L2
theorem findIdx_iN {pre post : List Nat} {a : Nat} (h : a ∉ pre) : (iN (pre ++ a :: post)).findIdx? (eqv · (.int a)) = some pre.length := by
  induction pre with
  | nil =>
    show (if eqv (.int a) (.int a) = true then some 0 else _) = _
    rw [if_pos (by simp [eqv])]
    rfl
  | cons x pre ih =>
    rw [List.mem_cons, not_or] at h
    have e : eqv (.int (x : Nat)) (.int (a : Nat)) = false := by
      simp only [eqv, beq_eq_false_iff_ne, ne_eq]
      omega
    have ih := ih h.2
    rw [List.cons_append]
    show (D.int (x : Nat) :: iN (pre ++ a :: post)).findIdx? _ = _
    rw [List.findIdx?_cons, e, ih]
    rfl
theorem index_ok {pre post : List Nat} {a : Nat} (h : a ∉ pre) : mtS .index (.tup (iN (pre ++ a :: post))) [.int a] = .ok (.int (pre.length : Nat)) := by
  have q : ∀ xs, mtS .index (.tup xs) [.int a] = if okd 4 (.int a) && xs.all (okd 4) then (match xs.findIdx? (eqv · (.int a)) with | some i => .ok (.int i) | none => .bad) else .bad := fun _ => rfl
  rw [q, if_pos (by simp [okd, iN]), findIdx_iN h]
theorem above_of_ok {pre post : List Nat} {a : Nat} (h : a ∉ pre) : r_above_of.sem [.tup (iN (pre ++ a :: post)), .int a] = .ok (.tup (iN post)) := by
  have e := index_ok (post := post) h
  have c : slS (.tup (iN (pre ++ a :: post))) (some ((pre.length : Nat) + 1)) none = .ok (.tup (iN post)) := by
    have q : ∀ xs lo, slS (.tup xs) lo none = .ok (.tup (cutL xs lo none)) := fun _ _ => rfl
    rw [q, cut_drop _ (by rw [iN_len, List.length_append, List.length_cons]; omega), ← iN_drop]
    rw [show ((pre.length : Nat) + 1 : Int).toNat = (pre ++ [a]).length by rw [List.length_append, List.length_singleton]; omega]
    rw [show pre ++ a :: post = (pre ++ [a]) ++ post by rw [List.append_assoc]; rfl, List.drop_left]
  have mo : mtOk .index (.tup (iN (pre ++ a :: post))) = true := rfl
  generalize iN (pre ++ a :: post) = io at *
  simp -implicitDefEqProofs [r_above_of, ir_above_of, runF_eq, e, c, mo]
def addN (ks : List Nat) (x : Nat) : List Nat := if x ∈ ks then ks else ks ++ [x]
theorem dput_N (ks : List Nat) (d : Nat) : dput (.int d) (.bl true) (ks.map kvN) = (addN ks d).map kvN := by
  have e : ((ks.map kvN).any fun q => eqv q.1 (.int d)) = decide (d ∈ ks) := by
    rw [← any_iN, iN, List.any_map, List.any_map]
    rfl
  unfold dput addN
  rw [e]
  by_cases q : d ∈ ks
  · rw [decide_eq_true q, if_pos rfl, if_pos q]
    rw [List.map_map]
    refine List.map_congr_left fun x _ => ?_
    show (if eqv (.int x) (.int d) = true then ((.int x : D), D.bl true) else ((.int x : D), D.bl true)) = _
    exact ite_self _
  · rw [decide_eq_false q, if_neg (by decide), if_neg q, List.map_append]
    rfl
theorem addN_mem {ks : List Nat} {p q : Nat} : q ∈ addN ks p ↔ q ∈ ks ∨ q = p := by
  unfold addN
  split
  · constructor
    · exact .inl
    · rintro (h | rfl) <;> assumption
  · simp
theorem addN_nodup {ks : List Nat} {p : Nat} (h : ks.Nodup) : (addN ks p).Nodup := by
  unfold addN
  split
  · exact h
  · rename_i hp
    rw [List.nodup_append]
    refine ⟨h, by simp, fun a ha b hb => ?_⟩
    simp at hb
    subst hb
    intro e; subst e; exact hp ha
theorem addN_len (ks : List Nat) (p : Nat) : (addN ks p).length ≤ ks.length + 1 := by
  unfold addN
  split
  · omega
  · rw [List.length_append, List.length_singleton]; omega
def Γm : List FnR := [r_check_both, r_check_group, r_above_of, r_find_overlap]
abbrev miB : Ss := .cons (.ife (.cmp .IsNot (.call 3 (.cons (.ix (.var 0) (.var 4)) (.cons (.ix (.var 0) (.var 5)) .nil))) (.lit .non)) (.cons (.put 3 (.var 5) (.lit (.bl true))) .nil) .nil) .nil
abbrev moB : Ss := .cons (.for_ (.name 5) .seq (.cons (.call 2 (.cons (.var 1) (.cons (.var 4) .nil))) .nil) miB) .nil
theorem put_N (Φ : Nat → List D → R D) (ks : List Nat) (p : Nat) (s0 s1 s2 s4 : Slot) (hl : ks.length ≤ 1000) : xs Φ (.put 3 (.var 5) (.lit (.bl true))) [s0, s1, s2, .own (.dic false (ks.map kvN)), s4, .val (.int p)] = .ok (.nx [s0, s1, s2, .own (.dic false ((addN ks p).map kvN)), s4, .val (.int p)]) := by
  have q : xs Φ (.put 3 (.var 5) (.lit (.bl true))) [s0, s1, s2, .own (.dic false (ks.map kvN)), s4, .val (.int p)] = if keyOf false (.int p) && decide ((ks.map kvN).length < sizeLine) then .ok (.nx [s0, s1, s2, .own (.dic false (dput (.int p) (.bl true) (ks.map kvN))), s4, .val (.int p)]) else .bad := rfl
  have e : (keyOf false (.int p) && decide ((ks.map kvN).length < sizeLine)) = true := by
    rw [Bool.and_eq_true]
    refine ⟨rfl, decide_eq_true ?_⟩
    rw [List.length_map]
    exact Nat.lt_of_le_of_lt hl (by decide)
  rw [q, if_pos e, dput_N]
theorem mi_loop {ws : List Wn} {a : Nat} (ha : a < ws.length) (d1 d2 : D) : ∀ (bs ks : List Nat) (s5 : Slot), (∀ b ∈ bs, b < ws.length) → ks.length + bs.length ≤ 900 → ks.Nodup → ∃ (ks' : List Nat) (t5 : Slot), forM (turnF (phi Γm) (.name 5) miB) (iN bs) [.val (wsD ws), .val d1, .val d2, .own (.dic false (ks.map kvN)), .val (.int a), s5] = .ok (.nx [.val (wsD ws), .val d1, .val d2, .own (.dic false (ks'.map kvN)), .val (.int a), t5]) ∧ ks'.Nodup ∧ ks'.length ≤ ks.length + bs.length ∧ ∀ x, x ∈ ks' ↔ x ∈ ks ∨ (x ∈ bs ∧ mtI ws a x = true)
  | [], ks, s5, _, _, hn => ⟨ks, s5, rfl, hn, by simp, fun x => by simp⟩
  | b :: bs, ks, s5, hb, hl, hn => by
    rw [List.length_cons] at hl
    have hb0 := hb b List.mem_cons_self
    obtain ⟨d, e1, e2, q1, q2, q3, q4⟩ := ovI ha hb0
    have p3 : ∀ ds, phi Γm 3 ds = arity r_find_overlap.n r_find_overlap.sem ds := fun _ => rfl
    have st : turnF (phi Γm) (.name 5) miB (.int b) [.val (wsD ws), .val d1, .val d2, .own (.dic false (ks.map kvN)), .val (.int a), s5] = .ok (.nx [.val (wsD ws), .val d1, .val d2, .own (.dic false ((if mtI ws a b then addN ks b else ks).map kvN)), .val (.int a), .val (.int b)]) := by
      have pn := put_N (phi Γm) ks b (.val (wsD ws)) (.val d1) (.val d2) (.val (.int a)) (by omega)
      unfold turnF
      cases hm : mtI ws a b <;> rw [hm] at q4 <;> simp -implicitDefEqProofs [miB, q1, q2, q3, q4, p3, pn, -isnot_non]
    have hn1 : (if mtI ws a b then addN ks b else ks).Nodup := by split; exact addN_nodup hn; exact hn
    have hl1 : (if mtI ws a b then addN ks b else ks).length ≤ ks.length + 1 := by
      split
      · exact addN_len ks b
      · omega
    obtain ⟨ks', t5, q, n', l', m'⟩ := mi_loop ha d1 d2 bs (if mtI ws a b then addN ks b else ks) (.val (.int b)) (fun x hx => hb x (List.mem_cons_of_mem _ hx)) (by omega) hn1
    refine ⟨ks', t5, ?_, n', by rw [List.length_cons]; omega, fun x => ?_⟩
    · show andThen (turnF _ _ _ _ _) _ = _
      rw [st]
      exact q
    · rw [m', List.mem_cons]
      cases hm : mtI ws a b with
      | true =>
        rw [if_pos rfl, addN_mem]
        constructor
        · rintro ((h | rfl) | h)
          · exact .inl h
          · exact .inr ⟨.inl rfl, hm⟩
          · exact .inr ⟨.inr h.1, h.2⟩
        · rintro (h | ⟨rfl | h, h2⟩)
          · exact .inl (.inl h)
          · exact .inl (.inr rfl)
          · exact .inr ⟨h, h2⟩
      | false =>
        rw [if_neg (by decide)]
        constructor
        · rintro (h | h)
          · exact .inl h
          · exact .inr ⟨.inr h.1, h.2⟩
        · rintro (h | ⟨rfl | h, h2⟩)
          · exact .inl h
          · rw [hm] at h2; cases h2
          · exact .inr ⟨h, h2⟩
theorem mo_loop {ws : List Wn} (hw : ws.length ≤ 6) {os : List Nat} (ho : os.Perm (List.range ws.length)) (d2 : D) : ∀ (gs ks : List Nat) (s4 s5 : Slot), (∀ b ∈ gs, b < ws.length) → ks.length + 6 * gs.length ≤ 900 → ks.Nodup → ∃ (ks' : List Nat) (t4 t5 : Slot), forM (turnF (phi Γm) (.name 4) moB) (iN gs) [.val (wsD ws), .val (.tup (iN os)), .val d2, .own (.dic false (ks.map kvN)), s4, s5] = .ok (.nx [.val (wsD ws), .val (.tup (iN os)), .val d2, .own (.dic false (ks'.map kvN)), t4, t5]) ∧ ks'.Nodup ∧ ∀ x, x ∈ ks' ↔ x ∈ ks ∨ ∃ a ∈ gs, [a, x].Sublist os ∧ mtI ws a x = true
  | [], ks, s4, s5, _, _, hn => ⟨ks, s4, s5, rfl, hn, fun x => by simp⟩
  | a :: gs, ks, s4, s5, hb, hl, hn => by
    rw [List.length_cons] at hl
    have ha := hb a List.mem_cons_self
    obtain ⟨pre, post, e, hp⟩ := List.eq_append_cons_of_mem (ho.mem_iff.mpr (List.mem_range.mpr ha))
    have lo : os.length = ws.length := by rw [ho.length_eq, List.length_range]
    have lp : post.length ≤ 6 := by rw [e, List.length_append, List.length_cons] at lo; omega
    have ab := above_of_ok (post := post) hp
    rw [← e] at ab
    obtain ⟨k1, t5, q1, n1, l1, m1⟩ := mi_loop ha (.tup (iN os)) d2 post ks s5 (fun b hb => lt_of_perm ho b (by rw [e]; simp [hb])) (by omega) hn
    obtain ⟨ks', u4, u5, q, n', m'⟩ := mo_loop hw ho d2 gs k1 (.val (.int a)) t5 (fun x hx => hb x (List.mem_cons_of_mem _ hx)) (by omega) n1
    refine ⟨ks', u4, u5, ?_, n', fun x => ?_⟩
    · show andThen (turnF _ _ _ _ _) _ = _
      have p2 : ∀ ds, phi Γm 2 ds = arity r_above_of.n r_above_of.sem ds := fun _ => rfl
      have st : turnF (phi Γm) (.name 4) moB (.int a) [.val (wsD ws), .val (.tup (iN os)), .val d2, .own (.dic false (ks.map kvN)), s4, s5] = .ok (.nx [.val (wsD ws), .val (.tup (iN os)), .val d2, .own (.dic false (k1.map kvN)), .val (.int a), t5]) := by
        generalize iN os = io at *
        unfold turnF
        rw [asgG_name, lift_ok, xss_cons, xs_for]
        simp -implicitDefEqProofs [p2, ab, q1]
      rw [st]
      exact q
    · rw [m', m1]
      have sp : [a, x].Sublist os ↔ x ∈ post := by rw [e]; exact sub_split hp
      simp only [List.mem_cons, exists_eq_or_imp, sp, or_assoc]
/-- what must be minimized -/
def dueB (ws : List Wn) (os g : List Nat) (x : Nat) : Bool := g.any fun a => decide ([a, x].Sublist os) && mtI ws a x
theorem dueB_iff {ws : List Wn} {os g : List Nat} {x : Nat} : dueB ws os g x = true ↔ ∃ a ∈ g, [a, x].Sublist os ∧ mtI ws a x = true := by
  unfold dueB
  simp only [List.any_eq_true, Bool.and_eq_true, decide_eq_true_eq]
theorem dlook_N (ks : List Nat) (d : Nat) : (dlook (.int d) (ks.map kvN)).isSome = decide (d ∈ ks) := by
  induction ks with
  | nil => rfl
  | cons x ks ih =>
    rw [List.map_cons]
    show (if eqv (.int x) (.int d) = true then some (D.bl true) else dlook (.int d) (ks.map kvN)).isSome = _
    by_cases h : x = d
    · subst h
      rw [if_pos (by simp [eqv])]
      simp
    · have e : eqv (.int (x : Nat)) (.int (d : Nat)) = false := by
        simp only [eqv, beq_eq_false_iff_ne, ne_eq]
        omega
      rw [e, if_neg (by decide), ih]
      have : ¬ d = x := fun q => h q.symm
      simp [this]
theorem range_filter_srt (n : Nat) (p : Nat → Bool) : SrtO.Srtd ltD (iN ((List.range n).filter p)) := by
  have := range_srt n
  have s : (iN ((List.range n).filter p)).Sublist ((List.range n).map fun (i : Nat) => (.int i : D)) := List.filter_sublist.map _
  unfold SrtO.Srtd at *
  exact this.sublist s
theorem sortD_filter {n : Nat} {ks : List Nat} {p : Nat → Bool} (hn : ks.Nodup) (hk : ∀ x, x ∈ ks ↔ x < n ∧ p x = true) : sortD (iN ks) = iN ((List.range n).filter p) := by
  refine (sortD_uniq (sortable_iN ks) ?_ (range_filter_srt n p)).symm
  refine List.Perm.map _ ?_
  rw [List.perm_ext_iff_of_nodup (List.nodup_range.filter _) hn]
  intro x
  rw [hk, List.mem_filter, List.mem_range]
def dueN (ws : List Wn) (os g : List Nat) : List Nat := (List.range ws.length).filter (dueB ws os g)
theorem to_minimize_ok {ws : List Wn} (h : ∀ w ∈ ws, w.ok) (hl : ws.length ≤ 6) {os : List Nat} (ho : os.Perm (List.range ws.length)) {g : List Nat} (hg : Asc ws.length g) (hne : g ≠ []) : r_to_minimize.sem [wsD ws, .tup (iN os), .tup (iN g)] = .ok (if g.any (dueB ws os g) then .non else .tup (iN (dueN ws os g))) := by
  have a : r_check_both.sem [wsD ws, .tup (iN os)] = .ok .non := check_both_ok h hl ho
  have b := check_group_ok hg hne
  have lg : g.length ≤ 6 := by
    have s : g.Perm ((List.range ws.length).filter fun x => decide (x ∈ g)) := by
      rw [List.perm_ext_iff_of_nodup (hg.1.imp (fun q => Nat.ne_of_lt q)) (List.nodup_range.filter _)]
      intro x
      rw [List.mem_filter, decide_eq_true_eq, List.mem_range]
      exact ⟨fun q => ⟨hg.2 x q, q⟩, fun q => q.2⟩
    rw [s.length_eq]
    have := List.length_filter_le (fun x => decide (x ∈ g)) (List.range ws.length)
    rw [List.length_range] at this
    omega
  obtain ⟨ks, t4, t5, q, n, m⟩ := mo_loop hl ho (.tup (iN g)) g [] .no .no hg.2 (by simp; omega) List.nodup_nil
  have m2 : ∀ x, x ∈ ks ↔ dueB ws os g x = true := fun x => by rw [m, dueB_iff]; simp
  have hk : ∀ x, x ∈ ks ↔ x < ws.length ∧ dueB ws os g x = true := fun x => by
    rw [m2]
    constructor
    · intro q
      obtain ⟨a, _, s, _⟩ := dueB_iff.mp q
      exact ⟨lt_of_perm ho x (s.subset (by simp)), q⟩
    · exact fun q => q.2
  have so : biS .sorted [.dic false (ks.map kvN)] = .ok (.lst (iN (dueN ws os g))) := by
    have e : biS .sorted [.dic false (ks.map kvN)] = sortS ((ks.map kvN).map (·.1)) := rfl
    rw [e, List.map_map]
    show sortS (iN ks) = _
    rw [sortS_iN, sortD_filter n hk]
    rfl
  have la : ∀ s4 s5, lcM (iN g) (itemL (phi Γm) [.val (wsD ws), .val (.tup (iN os)), .val (.tup (iN g)), .val (.dic false (ks.map kvN)), s4, s5] [4] (.name 4) .none (.cmp .In (.var 4) (.ovar 3))) = .ok (g.map fun a => .bl (dueB ws os g a)) := fun s4 s5 => by
    refine lcM_mapI (fun (i : Nat) => (.int i : D)) _ fun i _ => ?_
    have e : cmpS .In (.int i) (.dic false (ks.map kvN)) = .ok (dueB ws os g i) := by
      have q : cmpS .In (.int i) (.dic false (ks.map kvN)) = if keyOf false (.int i) then .ok (dlook (.int i) (ks.map kvN)).isSome else .bad := rfl
      rw [q, if_pos (show keyOf false (.int (i : Nat)) = true from rfl), dlook_N]
      congr 1
      rw [Bool.eq_iff_iff, decide_eq_true_eq]
      exact m2 i
    simp -implicitDefEqProofs [itemL, e]
  have an := any_bools (dueB ws os g) g
  rw [List.map_nil] at q
  have hr : r_to_minimize.sem [wsD ws, .tup (iN os), .tup (iN g)] = runF (phi Γm) 6 ir_to_minimize [wsD ws, .tup (iN os), .tup (iN g)] := rfl
  have p0 : ∀ ds, phi Γm 0 ds = arity r_check_both.n r_check_both.sem ds := fun _ => rfl
  have p1 : ∀ ds, phi Γm 1 ds = arity r_check_group.n r_check_group.sem ds := fun _ => rfl
  rw [hr, runF_eq]
  generalize iN (dueN ws os g) = dn at *
  generalize ks.map kvN = kk at *
  generalize iN os = io at *
  generalize iN g = ig at *
  cases hb : g.any (dueB ws os g) <;> rw [hb] at an <;> simp -implicitDefEqProofs [ir_to_minimize, p0, p1, a, b, q, la, an, so]
end Pan

/-! Panestacks, part K12: the laws' own screens, all orders; fewest_to_show. -/
namespace Pan
open PySem L2
abbrev scB : Ss := .cons (.ext 2 (.lc [4] (.name 4) .rng1 (.cons (.lit (.int (12))) .nil) .none (.call 0 (.cons (.var 0) (.cons (.var 1) (.cons (.var 3) (.cons (.var 4) .nil))))))) .nil
theorem sc_loop {ws : List Wn} {os : List Nat} (ho : ∀ o ∈ os, o < ws.length) (s4 : Slot) : ∀ (xs : List Int) (acc : List (Int × Int)) (s3 : Slot), acc.length + 12 * xs.length ≤ 1000 → ∃ s3', forM (turnF (phi [r__law_top]) (.name 3) scB) (xs.map .int) [.val (wsD ws), .val (.tup (iN os)), .own (.lst (acc.map fun p => oD (topOf ws os p.1 p.2))), s3, s4] = .ok (.nx [.val (wsD ws), .val (.tup (iN os)), .own (.lst ((acc ++ xs.flatMap fun x => (rngI 0 12).map fun y => (x, y)).map fun p => oD (topOf ws os p.1 p.2))), s3', s4])
  | [], acc, s3, _ => ⟨s3, by simp [forM]⟩
  | x :: xs, acc, s3, hl => by
    have l12 : ((rngI 0 12).map fun y => (x, y)).length = 12 := by rw [List.length_map]; decide
    rw [List.length_cons] at hl
    obtain ⟨s3', q⟩ := sc_loop ho s4 xs (acc ++ (rngI 0 12).map fun y => (x, y)) (.val (.int x)) (by rw [List.length_append, l12]; omega)
    refine ⟨s3', ?_⟩
    have row : ev (phi [r__law_top]) (.lc [4] (.name 4) .rng1 (.cons (.lit (.int (12))) .nil) .none (.call 0 (.cons (.var 0) (.cons (.var 1) (.cons (.var 3) (.cons (.var 4) .nil)))))) [.val (wsD ws), .val (.tup (iN os)), .own (.lst (acc.map fun p => oD (topOf ws os p.1 p.2))), .val (.int x), s4] = .ok (.lst (((rngI 0 12).map fun y => (x, y)).map fun p => oD (topOf ws os p.1 p.2))) := by
      have hl : lcM ((rngI 0 12).map .int) (itemL (phi [r__law_top]) [.val (wsD ws), .val (.tup (iN os)), .own (.lst (acc.map fun p => oD (topOf ws os p.1 p.2))), .val (.int x), s4] [4] (.name 4) .none (.call 0 (.cons (.var 0) (.cons (.var 1) (.cons (.var 3) (.cons (.var 4) .nil)))))) = .ok (((rngI 0 12).map fun y => (x, y)).map fun p => oD (topOf ws os p.1 p.2)) := by
        rw [List.map_map]
        refine lcM_mapI _ _ fun y _ => ?_
        have a : r__law_top.sem [wsD ws, .tup (iN os), .int x, .int y] = .ok (oD (topOf ws os x y)) := law_top_ok ho x y
        generalize iN os = io at *
        simp -implicitDefEqProofs [itemL, a]
      simp -implicitDefEqProofs only [ev_lc, evs_cons, evs_nil, ev_lit, bind_ok, len12, hl, calm_ok]
    have st : turnF (phi [r__law_top]) (.name 3) scB (.int x) [.val (wsD ws), .val (.tup (iN os)), .own (.lst (acc.map fun p => oD (topOf ws os p.1 p.2))), s3, s4] = .ok (.nx [.val (wsD ws), .val (.tup (iN os)), .own (.lst ((acc ++ (rngI 0 12).map fun y => (x, y)).map fun p => oD (topOf ws os p.1 p.2))), .val (.int x), s4]) := by
      have e := ext_ok (Φ := phi [r__law_top]) (i := 2) (e := [.val (wsD ws), .val (.tup (iN os)), .own (.lst (acc.map fun p => oD (topOf ws os p.1 p.2))), .val (.int x), s4]) rfl row (by rw [List.length_map, List.length_map, l12]; omega)
      have t : turnF (phi [r__law_top]) (.name 3) scB (.int x) [.val (wsD ws), .val (.tup (iN os)), .own (.lst (acc.map fun p => oD (topOf ws os p.1 p.2))), s3, s4] = andThen (Pan.xs (phi [r__law_top]) (.ext 2 (.lc [4] (.name 4) .rng1 (.cons (.lit (.int (12))) .nil) .none (.call 0 (.cons (.var 0) (.cons (.var 1) (.cons (.var 3) (.cons (.var 4) .nil))))))) [.val (wsD ws), .val (.tup (iN os)), .own (.lst (acc.map fun p => oD (topOf ws os p.1 p.2))), .val (.int x), s4]) (xss (phi [r__law_top]) .nil) := rfl
      rw [t, e, List.map_append]
      rfl
    rw [List.map_cons]
    show andThen (turnF _ _ _ _ _) _ = _
    rw [st]
    rw [List.append_assoc] at q
    exact q
/-- what is on the screen, cell by cell -/
def scrD (ws : List Wn) (os : List Nat) : List D := grid.map fun p => oD (topOf ws os p.1 p.2)
theorem law_screen_ok {ws : List Wn} {os : List Nat} (ho : ∀ o ∈ os, o < ws.length) : r__law_screen.sem [wsD ws, .tup (iN os)] = .ok (.lst (scrD ws os)) := by
  obtain ⟨s3', q⟩ := sc_loop ho .no (rngI 0 12) [] .no (by decide)
  have q' : forM (turnF (phi [r__law_top]) (.name 3) scB) ((rngI 0 12).map .int) [.val (wsD ws), .val (.tup (iN os)), .own (.lst []), .no, .no] = .ok (.nx [.val (wsD ws), .val (.tup (iN os)), .own (.lst (scrD ws os)), s3', .no]) := q
  generalize iN os = io at *
  generalize scrD ws os = sd at *
  simp -implicitDefEqProofs [r__law_screen, ir__law_screen, runF_eq, len12, q']
/-! ### all orders -/
def tuN (o : List Nat) : D := .tup (iN o)
theorem eqv_tuN (a b : List Nat) : eqv (tuN a) (tuN b) = decide (a = b) := by
  show eqvs (iN a) (iN b) = _
  have : ∀ a b : List Nat, eqvs (iN a) (iN b) = decide (a = b) := fun a => by
    induction a with
    | nil => intro b; cases b <;> simp [eqvs, iN]
    | cons x a ih =>
      intro b
      cases b with
      | nil => simp [eqvs, iN]
      | cons y b =>
        show (eqv (.int x) (.int y) && eqvs (iN a) (iN b)) = _
        rw [ih b]
        have e : eqv (.int (x : Nat)) (.int (y : Nat)) = decide (x = y) := by
          rw [Bool.eq_iff_iff]
          simp [eqv]
          omega
        rw [e]
        by_cases h : x = y <;> by_cases h' : a = b <;> simp [h, h']
  exact this a b
def allO (n : Nat) : Nat → List (List Nat)
  | 0 => [[]]
  | k + 1 => (allO n k).flatMap fun o => ((List.range n).filter (notB o)).map fun x => o ++ [x]
theorem mem_allO {n : Nat} : ∀ {k : Nat} {o : List Nat}, o ∈ allO n k ↔ o.Nodup ∧ o.length = k ∧ ∀ x ∈ o, x < n
  | 0, o => by
    unfold allO
    rw [List.mem_singleton]
    constructor
    · rintro rfl; simp
    · rintro ⟨_, h, _⟩; exact List.length_eq_zero_iff.mp h
  | k + 1, o => by
    unfold allO
    rw [List.mem_flatMap]
    constructor
    · rintro ⟨o', h', hm⟩
      obtain ⟨n1, n2, n3⟩ := mem_allO.mp h'
      obtain ⟨x, hx, rfl⟩ := List.mem_map.mp hm
      have hx := List.mem_filter.mp hx
      have nx : x ∉ o' := by
        have := hx.2
        unfold notB at this
        simpa using this
      refine ⟨?_, by rw [List.length_append, n2]; rfl, ?_⟩
      · rw [List.nodup_append]
        refine ⟨n1, by simp, fun a ha b hb => ?_⟩
        rw [List.mem_singleton.mp hb]
        intro e; subst e; exact nx ha
      · intro y hy
        rcases List.mem_append.mp hy with hy | hy
        · exact n3 y hy
        · rw [List.mem_singleton.mp hy]; exact List.mem_range.mp hx.1
    · rintro ⟨n1, n2, n3⟩
      rcases List.eq_nil_or_concat o with e | ⟨l, x, e⟩
      · rw [e] at n2; cases n2
      · rw [List.concat_eq_append] at e
        rw [e] at n1 n2 n3
        rw [List.nodup_append] at n1
        refine ⟨l, mem_allO.mpr ⟨n1.1, by rw [List.length_append] at n2; simpa using n2, fun y hy => n3 y (by simp [hy])⟩, ?_⟩
        rw [e]
        refine List.mem_map.mpr ⟨x, List.mem_filter.mpr ⟨List.mem_range.mpr (n3 x (by simp)), ?_⟩, rfl⟩
        unfold notB
        rw [decide_eq_false fun hx => n1.2.2 x hx x (by simp) rfl]
        rfl
theorem sub_len {α : Type} [BEq α] [LawfulBEq α] : ∀ {K A : List α}, K.Nodup → (∀ x ∈ K, x ∈ A) → K.length ≤ A.length
  | [], _, _, _ => Nat.zero_le _
  | a :: K, A, hn, hs => by
    rw [List.nodup_cons] at hn
    have ha := hs a List.mem_cons_self
    have := sub_len (K := K) (A := A.erase a) hn.2 fun x hx => by
      have hne : x ≠ a := fun e => by rw [e] at hx; exact hn.1 hx
      exact (List.mem_erase_of_ne hne).mpr (hs x (List.mem_cons_of_mem _ hx))
    rw [List.length_erase_of_mem ha] at this
    have := List.length_pos_of_mem ha
    rw [List.length_cons]
    omega
theorem mem_orders {n : Nat} {o : List Nat} : o ∈ allO n n ↔ o.Perm (List.range n) := by
  rw [mem_allO]
  constructor
  · rintro ⟨h1, h2, h3⟩
    have e : o.Perm ((List.range n).filter fun x => decide (x ∈ o)) := by
      rw [List.perm_ext_iff_of_nodup h1 (List.nodup_range.filter _)]
      intro x
      rw [List.mem_filter, decide_eq_true_eq, List.mem_range]
      exact ⟨fun q => ⟨h3 x q, q⟩, fun q => q.2⟩
    have l := e.length_eq
    have s : ((List.range n).filter fun x => decide (x ∈ o)).Sublist (List.range n) := List.filter_sublist
    have := s.eq_of_length (by rw [← l, h2, List.length_range])
    rw [this] at e
    exact e
  · intro h
    exact ⟨h.nodup_iff.mpr List.nodup_range, by rw [h.length_eq, List.length_range], fun x hx => List.mem_range.mp (h.mem_iff.mp hx)⟩
theorem allO_len : ∀ n, n ≤ 4 → ∀ k, k ≤ n → (allO n k).length ≤ 24 := by decide +kernel
abbrev orB : Ss := .cons (.ext 3 (.lc [5] (.name 5) .rng1 (.cons (.var 0) .nil) (.some (.cmp .NotIn (.var 5) (.var 4))) (.bin .Add (.var 4) (.tup (.cons (.var 5) .nil))))) .nil
abbrev orA : Ss := .cons (.mk 3 (.lst .nil)) (.cons (.for_ (.name 4) .seq (.cons (.var 1) .nil) orB) (.cons (.frz 3) (.cons (.asg (.name 1) (.var 3)) .nil)))
theorem or_loop {n : Nat} (hn : n ≤ 4) (s1 s2 s5 : Slot) : ∀ (L acc : List (List Nat)) (s4 : Slot), (∀ o ∈ L, o.length ≤ 100) → acc.length + 4 * L.length ≤ 900 → ∃ t4, forM (turnF (phi []) (.name 4) orB) (L.map tuN) [.val (.int n), s1, s2, .own (.lst (acc.map tuN)), s4, s5] = .ok (.nx [.val (.int n), s1, s2, .own (.lst ((acc ++ L.flatMap fun o => ((List.range n).filter (notB o)).map fun x => o ++ [x]).map tuN)), t4, s5])
  | [], acc, s4, _, _ => ⟨s4, by simp [forM]⟩
  | o :: L, acc, s4, ho, hl => by
    rw [List.length_cons] at hl
    have hlo := ho o List.mem_cons_self
    have lr : (((List.range n).filter (notB o)).map fun x => o ++ [x]).length ≤ 4 := by
      rw [List.length_map]
      have := List.length_filter_le (notB o) (List.range n)
      rw [List.length_range] at this
      omega
    have rg : itS .rng1 [.int n] = .ok (iN (List.range n)) := by
      rw [rng1_ok (by omega) (by omega), Int.toNat_natCast, rangeD_eq]; rfl
    have row : ∀ s3, ev (phi []) (.lc [5] (.name 5) .rng1 (.cons (.var 0) .nil) (.some (.cmp .NotIn (.var 5) (.var 4))) (.bin .Add (.var 4) (.tup (.cons (.var 5) .nil)))) [.val (.int n), s1, s2, s3, .val (tuN o), s5] = .ok (.lst ((((List.range n).filter (notB o)).map fun x => o ++ [x]).map tuN)) := fun s3 => by
      have hl : lcM (iN (List.range n)) (itemL (phi []) [.val (.int n), s1, s2, s3, .val (tuN o), s5] [5] (.name 5) (.some (.cmp .NotIn (.var 5) (.var 4))) (.bin .Add (.var 4) (.tup (.cons (.var 5) .nil)))) = .ok ((((List.range n).filter (notB o)).map fun x => o ++ [x]).map tuN) := by
        rw [List.map_map]
        refine lcM_filterI (fun (i : Nat) => (.int i : D)) (notB o) _ fun i hi => ?_
        have e : cmpS .NotIn (.int i) (tuN o) = .ok (!decide (i ∈ o)) := notin_tup i o
        have ad : binS .Add (tuN o) (.tup [.int i]) = .ok (tuN (o ++ [i])) := by
          have q : binS .Add (tuN o) (.tup [.int i]) = fitL (iN o ++ [.int i]) .tup := rfl
          rw [q, fit_le (by rw [List.length_append, iN_len]; simp; omega)]
          unfold tuN iN
          rw [List.map_append]
          rfl
        unfold notB
        generalize tuN o = to at *
        cases hb : !decide (i ∈ o) <;> rw [hb] at e <;> simp -implicitDefEqProofs [itemL, e, ad, fit_1]
      simp -implicitDefEqProofs only [ev_lc, evs_cons, evs_nil, ev_var, getV_zero, bind_ok, rg, hl, calm_ok]
    obtain ⟨t4, q⟩ := or_loop hn s1 s2 s5 L (acc ++ ((List.range n).filter (notB o)).map fun x => o ++ [x]) (.val (tuN o)) (fun x hx => ho x (List.mem_cons_of_mem _ hx)) (by rw [List.length_append]; omega)
    refine ⟨t4, ?_⟩
    have st : turnF (phi []) (.name 4) orB (tuN o) [.val (.int n), s1, s2, .own (.lst (acc.map tuN)), s4, s5] = .ok (.nx [.val (.int n), s1, s2, .own (.lst ((acc ++ ((List.range n).filter (notB o)).map fun x => o ++ [x]).map tuN)), .val (tuN o), s5]) := by
      have e := ext_ok (Φ := phi []) (i := 3) (e := [.val (.int n), s1, s2, .own (.lst (acc.map tuN)), .val (tuN o), s5]) rfl (row _) (by rw [List.length_map, List.length_map]; omega)
      have t : turnF (phi []) (.name 4) orB (tuN o) [.val (.int n), s1, s2, .own (.lst (acc.map tuN)), s4, s5] = andThen (Pan.xs (phi []) (.ext 3 (.lc [5] (.name 5) .rng1 (.cons (.var 0) .nil) (.some (.cmp .NotIn (.var 5) (.var 4))) (.bin .Add (.var 4) (.tup (.cons (.var 5) .nil))))) [.val (.int n), s1, s2, .own (.lst (acc.map tuN)), .val (tuN o), s5]) (xss (phi []) .nil) := by
        unfold turnF
        rw [asgG_name, lift_ok, xss_cons]
        rfl
      rw [t, e, List.map_append]
      rfl
    rw [List.map_cons]
    show andThen (turnF _ _ _ _ _) _ = _
    rw [st]
    rw [List.append_assoc] at q
    rw [List.flatMap_cons]
    exact q
theorem or_outer {n : Nat} (hn : n ≤ 4) (s5 : Slot) : ∀ (m k : Nat) (js : List Nat) (s2 s3 s4 : Slot), js.length = m → k + m ≤ n → ∃ t2 t3 t4, forM (turnF (phi []) (.name 2) orA) (iN js) [.val (.int n), .val (.lst ((allO n k).map tuN)), s2, s3, s4, s5] = .ok (.nx [.val (.int n), .val (.lst ((allO n (k + m)).map tuN)), t2, t3, t4, s5])
  | 0, k, js, s2, s3, s4, hj, _ => by
    rw [List.length_eq_zero_iff.mp hj]
    exact ⟨s2, s3, s4, rfl⟩
  | m + 1, k, js, s2, s3, s4, hj, hk => by
    match js, hj with
    | j :: js, hj =>
      rw [List.length_cons] at hj
      have lk := allO_len n hn k (by omega)
      obtain ⟨t4, q⟩ := or_loop hn (.val (.lst ((allO n k).map tuN))) (.val (.int j)) s5 (allO n k) [] s4 (fun o ho => by have := (mem_allO.mp ho).2.1; omega) (by simp; omega)
      have q : forM (turnF (phi []) (.name 4) orB) ((allO n k).map tuN) [.val (.int n), .val (.lst ((allO n k).map tuN)), .val (.int j), .own (.lst []), s4, s5] = .ok (.nx [.val (.int n), .val (.lst ((allO n k).map tuN)), .val (.int j), .own (.lst ((allO n (k + 1)).map tuN)), t4, s5]) := q
      obtain ⟨u2, u3, u4, q'⟩ := or_outer hn s5 m (k + 1) js (.val (.int j)) (.val (.lst ((allO n (k + 1)).map tuN))) t4 (by omega) (by omega)
      rw [show k + 1 + m = k + (m + 1) by omega] at q'
      refine ⟨u2, u3, u4, ?_⟩
      have st : turnF (phi []) (.name 2) orA (.int j) [.val (.int n), .val (.lst ((allO n k).map tuN)), s2, s3, s4, s5] = .ok (.nx [.val (.int n), .val (.lst ((allO n (k + 1)).map tuN)), .val (.int j), .val (.lst ((allO n (k + 1)).map tuN)), t4, s5]) := by
        generalize (allO n k).map tuN = a0 at *
        generalize (allO n (k + 1)).map tuN = a1 at *
        unfold turnF
        simp -implicitDefEqProofs [q]
      show andThen (turnF _ _ _ _ _) _ = _
      rw [st]
      exact q'
theorem law_orders_ok {n : Nat} (hn : n ≤ 4) : r__law_orders.sem [.int n] = .ok (.lst ((allO n n).map tuN)) := by
  obtain ⟨t2, t3, t4, q⟩ := or_outer hn .no n 0 (List.range n) .no .no .no List.length_range (by omega)
  rw [Nat.zero_add] at q
  have q : forM (turnF (phi []) (.name 2) orA) (iN (List.range n)) [.val (.int n), .val (.lst [.tup []]), .no, .no, .no, .no] = .ok (.nx [.val (.int n), .val (.lst ((allO n n).map tuN)), t2, t3, t4, .no]) := q
  have rg : itS .rng1 [.int n] = .ok (iN (List.range n)) := by
    rw [rng1_ok (by omega) (by omega), Int.toNat_natCast, rangeD_eq]; rfl
  generalize (allO n n).map tuN = a1 at *
  simp -implicitDefEqProofs [r__law_orders, ir__law_orders, runF_eq, rg, q, fit_1]
/-! ### fewest_to_show -/
def lackN (ws : List Wn) (os g : List Nat) : List Nat := g.filter fun o => !wholeB ws os o
theorem fewest_to_show_ok {ws : List Wn} (h : ∀ w ∈ ws, w.ok) (hl : ws.length ≤ 6) {os : List Nat} (ho : os.Perm (List.range ws.length)) {g : List Nat} (hg : Asc ws.length g) (hne : g ≠ []) : r_fewest_to_show.sem [wsD ws, .tup (iN os), .tup (iN g)] = .ok (if apR ws [] g then .int (lackN ws os g).length else .non) := by
  have a : r_check_both.sem [wsD ws, .tup (iN os)] = .ok .non := check_both_ok h hl ho
  have b := check_group_ok hg hne
  have c := are_apart_ok hg.2
  have f : lcM (iN g) (itemL (phi [r_check_both, r_check_group, r_are_apart, r_whole_in]) [.val (wsD ws), .val (.tup (iN os)), .val (.tup (iN g)), .no] [3] (.name 3) (.some (.not (.call 3 (.cons (.var 0) (.cons (.var 1) (.cons (.var 3) .nil)))))) (.var 3)) = .ok (iN (lackN ws os g)) := by
    refine lcM_filterI (fun (i : Nat) => (.int i : D)) (fun o => !wholeB ws os o) (fun (i : Nat) => (.int i : D)) fun i hi => ?_
    have hi := hg.2 i hi
    have hw : ws[i]? = some ws[i] := List.getElem?_eq_getElem hi
    have b : r_whole_in.sem [wsD ws, .tup (iN os), .int i] = .ok (.bl (decide ((seenN ws os i ws[i]).length = (cellsOf ws[i]).length))) := whole_in_ok h hl ho hw
    have e : wholeB ws os i = decide ((seenN ws os i ws[i]).length = (cellsOf ws[i]).length) := by unfold wholeB; rw [hw]
    rw [← e] at b
    generalize iN os = io at *
    cases hh : wholeB ws os i <;> rw [hh] at b <;> simp -implicitDefEqProofs [itemL, b]
  have li := iN_len (lackN ws os g)
  generalize iN (lackN ws os g) = il at *
  generalize (lackN ws os g).length = nl at *
  generalize iN os = io at *
  generalize iN g = ig at *
  cases hb : apR ws [] g <;> rw [hb] at c <;> simp -implicitDefEqProofs [r_fewest_to_show, ir_fewest_to_show, runF_eq, a, b, c, f, li]
end Pan

/-! Panestacks, part K13: plain laws of groups (also in PanM_k62). -/
namespace Pan
open PySem L2
theorem lcM_choose {n : Nat} {g : D → R (List D)} (h : ∀ i, i < n → ∃ v : Bool, g (.int (i : Nat)) = .ok (if v then [.int (i : Nat)] else [])) : ∃ p : Nat → Bool, lcM (iN (List.range n)) g = .ok (iN ((List.range n).filter p)) ∧ ∀ i, i < n → g (.int (i : Nat)) = .ok (if p i then [.int (i : Nat)] else []) := by
  let p : Nat → Bool := fun i => if h' : i < n then Classical.choose (h i h') else false
  have hp : ∀ i, i < n → g (.int (i : Nat)) = .ok (if p i then [.int (i : Nat)] else []) := fun i hi => by
    have e : p i = Classical.choose (h i hi) := dif_pos hi
    rw [e]
    exact Classical.choose_spec (h i hi)
  refine ⟨p, ?_, hp⟩
  exact lcM_filterI (fun (i : Nat) => (.int i : D)) p (fun (i : Nat) => (.int i : D)) fun i hi => hp i (List.mem_range.mp hi)
theorem size_len {w : Wn} (h : w.ok) : r_size.sem [wD w] = .ok (.int (cellsOf w).length) := by
  have sz := size_ok h
  rw [← grid_size h] at sz
  rw [sz, ← (cl_perm h).length_eq]
  rfl
theorem wholeB_iff {ws : List Wn} {os : List Nat} (hn : os.Nodup) {a : Nat} (ha : a ∈ os) (hl : a < ws.length) : wholeB ws os a = true ↔ ∀ b, [a, b].Sublist os → mtI ws a b = false := by
  have hw : ws[a]? = some ws[a] := List.getElem?_eq_getElem hl
  unfold wholeB
  rw [hw]
  show decide ((seenN ws os a ws[a]).length = (cellsOf ws[a]).length) = true ↔ _
  rw [decide_eq_true_eq]
  exact whole_iff hn ha hw
theorem sub_ne {os : List Nat} (hn : os.Nodup) {a b : Nat} (h : [a, b].Sublist os) : a ≠ b := by
  have := hn.sublist h
  simp at this
  exact this
theorem pw_all {R : Nat → Nat → Prop} (hs : ∀ x y, R x y → R y x) : ∀ {l : List Nat}, l.Pairwise R → ∀ a ∈ l, ∀ b ∈ l, a ≠ b → R a b
  | [], _ => by simp
  | x :: l, h => by
    rw [List.pairwise_cons] at h
    intro a ha b hb hne
    rcases List.mem_cons.mp ha with ea | ha'
    · rcases List.mem_cons.mp hb with eb | hb'
      · exact absurd (ea.trans eb.symm) hne
      · rw [ea]; exact h.1 b hb'
    · rcases List.mem_cons.mp hb with eb | hb'
      · rw [eb]; exact hs _ _ (h.1 a ha')
      · exact pw_all hs h.2 a ha' b hb' hne
theorem ap_due {ws : List Wn} {os g : List Nat} (ho : os.Perm (List.range ws.length)) (hg : Asc ws.length g) : apR ws [] g = !(g.any (dueB ws os g)) := by
  have hn : os.Nodup := ho.nodup_iff.mpr List.nodup_range
  have key : g.Pairwise (fun x y => mtI ws y x = false) ↔ ∀ a ∈ g, ∀ b ∈ g, a ≠ b → mtI ws a b = false := by
    constructor
    · intro h
      have : ∀ a ∈ g, ∀ b ∈ g, a ≠ b → mtI ws a b = false := by
        intro a ha b hb hne
        have := pw_all (R := fun x y => mtI ws y x = false) (fun x y q => by rw [mtI_symm]; exact q) h a ha b hb hne
        rw [mtI_symm]
        exact this
      exact this
    · intro h
      have nd : g.Pairwise (· ≠ ·) := hg.1.imp fun q => Nat.ne_of_lt q
      exact nd.imp_of_mem fun {x y} hx hy q => h y hy x hx fun e => q e.symm
  rw [Bool.eq_iff_iff, apR_iff, Bool.not_eq_true', List.any_eq_false, key]
  constructor
  · rintro ⟨_, h⟩ x hx q
    obtain ⟨a, ha, s, m⟩ := dueB_iff.mp q
    have := h a ha x hx (sub_ne hn s)
    rw [m] at this
    cases this
  · intro h
    refine ⟨by simp, fun a ha b hb hne => ?_⟩
    cases q : mtI ws a b with
    | false => rfl
    | true =>
      have ma := ho.mem_iff.mpr (List.mem_range.mpr (hg.2 a ha))
      have mb := ho.mem_iff.mpr (List.mem_range.mpr (hg.2 b hb))
      rcases sub_or ma mb hne with s | s
      · exact absurd (dueB_iff.mpr ⟨a, ha, s, q⟩) (h b hb)
      · exact absurd (dueB_iff.mpr ⟨b, hb, s, by rw [mtI_symm]; exact q⟩) (h a ha)
theorem eq_iN_nil (l : List Nat) : cmpS .Eq (.lst (iN l)) (.lst []) = .ok (decide (l = [])) := by
  rw [eq_lst (by simp [okd, iN]) (by simp [okd])]
  cases l <;> rfl
theorem ne_iN_nil (l : List Nat) : cmpS .NotEq (.lst (iN l)) (.lst []) = .ok (!decide (l = [])) := by
  rw [ne_lst (by simp [okd, iN]) (by simp [okd])]
  cases l <;> rfl
theorem eq_tN_nil (l : List Nat) : cmpS .Eq (.tup (iN l)) (.tup []) = .ok (decide (l = [])) := by
  have q : cmpS .Eq (.tup (iN l)) (.tup []) = if okd 8 (.tup (iN l)) && okd 8 (.tup []) then .ok (eqv (.tup (iN l)) (.tup [])) else .bad := rfl
  rw [q, if_pos (by simp [okd, iN])]
  cases l <;> rfl
theorem ne_tN_nil (l : List Nat) : cmpS .NotEq (.tup (iN l)) (.tup []) = .ok (!decide (l = [])) := by
  have q : cmpS .NotEq (.tup (iN l)) (.tup []) = if okd 8 (.tup (iN l)) && okd 8 (.tup []) then .ok (!eqv (.tup (iN l)) (.tup [])) else .bad := rfl
  rw [q, if_pos (by simp [okd, iN])]
  cases l <;> rfl
theorem eqvs_iN (l : List Nat) : eqvs (iN l) (iN l) = true := by
  unfold iN
  induction l with
  | nil => rfl
  | cons a l ih => simp [eqvs, eqv] at ih ⊢; exact ih
theorem notin_iN (o : Nat) (os : List Nat) : cmpS .NotIn (.int o) (.lst (iN os)) = .ok (!decide (o ∈ os)) := by
  have q : inS (.int o) (.lst (iN os)) = if okd 8 (.int o) && (iN os).all (okd 8) then .ok ((iN os).any (eqv · (.int o))) else .bad := rfl
  show (do let r ← inS (.int o) (.lst (iN os)); R.ok (!r)) = _
  rw [q, if_pos (by simp [okd, iN]), any_iN]
  rfl
theorem mem_due {ws : List Wn} {os g : List Nat} (ho : os.Perm (List.range ws.length)) {x : Nat} : x ∈ dueN ws os g ↔ dueB ws os g x = true := by
  unfold dueN
  rw [List.mem_filter, List.mem_range]
  constructor
  · exact fun q => q.2
  · intro q
    obtain ⟨a, _, s, _⟩ := dueB_iff.mp q
    exact ⟨lt_of_perm ho x (s.subset (by simp)), q⟩
section
variable {ws : List Wn} {os g : List Nat} (ho : os.Perm (List.range ws.length)) (hg : Asc ws.length g)
include ho hg
theorem nd_of : os.Nodup := ho.nodup_iff.mpr List.nodup_range
theorem due_nil : dueN ws os g = [] ↔ (g.filter fun o => !decide (o ∈ (List.range ws.length).filter (wholeB ws os))) = [] := by
  have hn : os.Nodup := ho.nodup_iff.mpr List.nodup_range
  rw [List.filter_eq_nil_iff]
  constructor
  · intro h o hm
    have hl := hg.2 o hm
    have : wholeB ws os o = true := by
      rw [wholeB_iff hn (ho.mem_iff.mpr (List.mem_range.mpr hl)) hl]
      intro b hb
      cases q : mtI ws o b with
      | false => rfl
      | true =>
        have : b ∈ dueN ws os g := (mem_due ho).mpr (dueB_iff.mpr ⟨o, hm, hb, q⟩)
        rw [h] at this
        cases this
    have m : o ∈ (List.range ws.length).filter (wholeB ws os) := List.mem_filter.mpr ⟨List.mem_range.mpr hl, this⟩
    rw [decide_eq_true m]
    decide
  · intro h
    cases q : dueN ws os g with
    | nil => rfl
    | cons b r =>
      have hb : b ∈ dueN ws os g := by rw [q]; exact List.mem_cons_self
      obtain ⟨a, ha, s, m⟩ := dueB_iff.mp ((mem_due ho).mp hb)
      have hl := hg.2 a ha
      have := h a ha
      rw [Bool.not_eq_true', Bool.not_eq_false, decide_eq_true_eq] at this
      have := (List.mem_filter.mp this).2
      rw [wholeB_iff hn (ho.mem_iff.mpr (List.mem_range.mpr hl)) hl] at this
      have := this b s
      rw [m] at this
      cases this
end
end Pan

/-! Panestacks, part K14: hiding: do_cover, others, groups, can_hide, always_seen, smallest_cover. -/
namespace Pan
open PySem L2
/-- the windows of a group cover a window -/
def covB (ws : List Wn) (g : List Nat) (o : Nat) : Bool := match ws[o]? with
  | some w => (cellsOf w).all fun p => g.any fun x => hasAt ws p.1 p.2 x
  | none => false
def cvI : E := .call 1 (.cons (.ix (.var 0) (.var 3)) (.cons (.var 4) .nil))
def cvD : E := .bi .any (.cons (.lc [3] (.name 3) .seq (.cons (.var 1) .nil) .none cvI) .nil)
theorem do_cover_ok {ws : List Wn} (h : ∀ w ∈ ws, w.ok) {g : List Nat} (hg : ∀ x ∈ g, x < ws.length) {o : Nat} (ho : o < ws.length) {gd : D} (sq : itS .seq [gd] = .ok (iN g)) : r_do_cover.sem [wsD ws, gd, .int o] = .ok (.bl (covB ws g o)) := by
  have hw : ws[o]? = some ws[o] := List.getElem?_eq_getElem ho
  have i1 := ix_wsD hw
  have c := cells_of_ok (h _ (List.getElem_mem ho))
  have hout : lcM ((cellsOf ws[o]).map cD) (itemL (phi [r_cells_of, r_covers]) [.val (wsD ws), .val gd, .val (.int o), .no, .no] [4] (.name 4) .none cvD) = .ok ((cellsOf ws[o]).map fun p => .bl (g.any fun x => hasAt ws p.1 p.2 x)) := by
    refine lcM_mapI cD _ fun p hp => ?_
    have hin : lcM (iN g) (itemL (phi [r_cells_of, r_covers]) [.val (wsD ws), .val gd, .val (.int o), .no, .val (cD p)] [3] (.name 3) .none cvI) = .ok (g.map fun x => .bl (hasAt ws p.1 p.2 x)) := by
      refine lcM_mapI (fun (i : Nat) => (.int i : D)) _ fun x hx => ?_
      have hxl := hg x hx
      have hwx : ws[x]? = some ws[x] := List.getElem?_eq_getElem hxl
      have i2 := ix_wsD hwx
      have cv : r_covers.sem [wD ws[x], cD p] = .ok (.bl (ws[x].has p.1 p.2)) := covers_ok ws[x] p.1 p.2
      have e : hasAt ws p.1 p.2 x = ws[x].has p.1 p.2 := by unfold hasAt; rw [hwx]
      rw [e]
      simp -implicitDefEqProofs [itemL, cvI, i2, cv]
    have an := any_bools (fun x => hasAt ws p.1 p.2 x) g
    have e1 : ev (phi [r_cells_of, r_covers]) cvD [.val (wsD ws), .val gd, .val (.int o), .no, .val (cD p)] = .ok (.bl (g.any fun x => hasAt ws p.1 p.2 x)) := by
      unfold cvD
      simp -implicitDefEqProofs only [ev_bi, evs_cons, evs_nil, ev_lc, ev_var, getV_zero, getV_succ, bind_ok, sq, hin, calm_ok, an]
    unfold itemL
    simp -implicitDefEqProofs only [wipe_one, List.set_cons_succ, List.set_cons_zero, asgG_name, bind_ok, evT_none, if_true, e1]
  have al := all_bools (fun p : Int × Int => g.any fun x => hasAt ws p.1 p.2 x) (cellsOf ws[o])
  have e : covB ws g o = (cellsOf ws[o]).all fun p => g.any fun x => hasAt ws p.1 p.2 x := by unfold covB; rw [hw]
  rw [e]
  have hr : ∀ ds, r_do_cover.sem ds = runF (phi [r_cells_of, r_covers]) 5 ir_do_cover ds := fun _ => rfl
  have hI : ir_do_cover = .cons (.ret (.bi .all (.cons (.lc [4] (.name 4) .seq (.cons (.call 0 (.cons (.ix (.var 0) (.var 2)) .nil)) .nil) .none cvD) .nil))) .nil := rfl
  rw [hr, runF_eq, hI]
  generalize (cellsOf ws[o]).map cD = cc at *
  generalize wD ws[o] = wo at *
  simp -implicitDefEqProofs [i1, c, hout, al, -List.all_eq]
def othN (n o : Nat) : List Nat := (List.range n).filter fun x => decide (x ≠ o)
theorem others_ok {ws : List Wn} (hl : ws.length ≤ 6) (o : Nat) : r_others.sem [wsD ws, .int o] = .ok (tuN (othN ws.length o)) := by
  have lw := len_wsD ws
  have rg : itS .rng1 [.int ws.length] = .ok (iN (List.range ws.length)) := by
    rw [rng1_ok (by omega) (by omega), Int.toNat_natCast, rangeD_eq]; rfl
  have f : lcM (iN (List.range ws.length)) (itemL (phi []) [.val (wsD ws), .val (.int o), .no] [2] (.name 2) (.some (.cmp .NotEq (.var 2) (.var 1))) (.var 2)) = .ok (iN (othN ws.length o)) :=
    lcM_filterI (fun (i : Nat) => (.int i : D)) _ (fun (i : Nat) => (.int i : D)) fun i hi => by
      by_cases hh : i = o
      · subst hh; simp -implicitDefEqProofs [itemL]
      · have h2 : ¬ (i : Int) = (o : Int) := by omega
        simp -implicitDefEqProofs [itemL, hh, h2]
  unfold tuN
  generalize iN (othN ws.length o) = io at *
  simp -implicitDefEqProofs [r_others, ir_others, runF_eq, lw, rg, f]
theorem oth_lt {n o : Nat} : ∀ x ∈ othN n o, x < n := fun x hx => List.mem_range.mp (List.mem_filter.mp hx).1
theorem can_hide_ok {ws : List Wn} (h : ∀ w ∈ ws, w.ok) (hl : ws.length ≤ 6) {o : Nat} (ho : o < ws.length) : r_can_hide.sem [wsD ws, .int o] = .ok (.bl (covB ws (othN ws.length o) o)) := by
  have a := check_windows_ok (wsD ws) (okd_wsD 6 ws)
  rw [areW_wsD h hl] at a
  simp only [if_true] at a
  have b := check_number_ok ho
  have c := others_ok hl o
  have d := do_cover_ok h oth_lt ho (gd := tuN (othN ws.length o)) rfl
  generalize tuN (othN ws.length o) = tt at *
  simp -implicitDefEqProofs only [r_can_hide, ir_can_hide, runF_eq, List.map_cons, List.map_nil, List.length_cons, List.length_nil, List.cons_append, List.nil_append, Nat.zero_add, Nat.reduceAdd, Nat.reduceSub, List.replicate, xss_cons, xss_nil, xs_expr, xs_ret, ev_call, evs_cons, evs_nil, ev_var, getV_zero, getV_succ, bind_ok, phi_zero, phi_succ, arity_if, n_check_windows, n_check_number, n_do_cover, n_others, lift_ok, andThen_nx, andThen_rt, outF_rt, if_true, a, b, c, d]
theorem always_seen_ok {ws : List Wn} (h : ∀ w ∈ ws, w.ok) (hl : ws.length ≤ 6) : r_always_seen.sem [wsD ws] = .ok (.lst (iN ((List.range ws.length).filter fun o => !covB ws (othN ws.length o) o))) := by
  have a := check_windows_ok (wsD ws) (okd_wsD 6 ws)
  rw [areW_wsD h hl] at a
  simp only [if_true] at a
  have lw := len_wsD ws
  have rg : itS .rng1 [.int ws.length] = .ok (iN (List.range ws.length)) := by
    rw [rng1_ok (by omega) (by omega), Int.toNat_natCast, rangeD_eq]; rfl
  have f : lcM (iN (List.range ws.length)) (itemL (phi [r_check_windows, r_do_cover, r_others]) [.val (wsD ws), .no] [1] (.name 1) (.some (.not (.call 1 (.cons (.var 0) (.cons (.call 2 (.cons (.var 0) (.cons (.var 1) .nil))) (.cons (.var 1) .nil)))))) (.var 1)) = .ok (iN ((List.range ws.length).filter fun o => !covB ws (othN ws.length o) o)) :=
    lcM_filterI (fun (i : Nat) => (.int i : D)) _ (fun (i : Nat) => (.int i : D)) fun i hi => by
      have hi := List.mem_range.mp hi
      have c := others_ok hl i
      have d := do_cover_ok h oth_lt hi (gd := tuN (othN ws.length i)) rfl
      generalize tuN (othN ws.length i) = tt at *
      cases hb : covB ws (othN ws.length i) i <;> rw [hb] at d <;> simp -implicitDefEqProofs [itemL, c, d]
  generalize iN ((List.range ws.length).filter fun o => !covB ws (othN ws.length o) o) = ff at *
  simp -implicitDefEqProofs [r_always_seen, ir_always_seen, runF_eq, a, lw, rg, f]
end Pan

/-! Panestacks, part K15: plain laws of raising (the same rows as PanM_k20, which k20 was handed in with). -/
namespace Pan
open PySem L2
/-! ### raising -/
def rse (s : List Nat) (x : Nat) : List Nat := s.filter (fun o => decide (o ≠ x)) ++ [x]
theorem rse_perm {n : Nat} {s : List Nat} (h : s.Perm (List.range n)) {x : Nat} (hx : x < n) : (rse s x).Perm (List.range n) := by
  have hn : s.Nodup := h.nodup_iff.mpr List.nodup_range
  have n1 : (rse s x).Nodup := by
    unfold rse
    rw [List.nodup_append]
    refine ⟨hn.filter _, by simp, fun a ha b hb => ?_⟩
    rw [List.mem_singleton.mp hb]
    have := (List.mem_filter.mp ha).2
    simpa using this
  rw [List.perm_ext_iff_of_nodup n1 List.nodup_range]
  intro y
  unfold rse
  rw [List.mem_append, List.mem_filter, List.mem_singleton, h.mem_iff, List.mem_range]
  constructor
  · rintro (q | rfl)
    · exact q.1
    · exact hx
  · intro q
    by_cases e : y = x
    · exact .inr e
    · exact .inl ⟨q, decide_eq_true e⟩
theorem sub_rse {s : List Nat} (hn : s.Nodup) {x a b : Nat} (hax : a ≠ x) : [a, b].Sublist (rse s x) ↔ ([a, b].Sublist s ∧ b ≠ x) ∨ (a ∈ s ∧ b = x) := by
  unfold rse
  constructor
  · intro h
    have ha : a ∈ s.filter (fun o => decide (o ≠ x)) := by
      have : a ∈ s.filter (fun o => decide (o ≠ x)) ++ [x] := h.subset (by simp)
      rcases List.mem_append.mp this with q | q
      · exact q
      · exact absurd (List.mem_singleton.mp q) hax
    obtain ⟨pre, post, e, hp⟩ := List.eq_append_cons_of_mem ha
    rw [e, List.append_assoc, List.cons_append, sub_split hp] at h
    rcases List.mem_append.mp h with q | q
    · left
      have : [a, b].Sublist (s.filter (fun o => decide (o ≠ x))) := by rw [e]; exact (sub_split hp).mpr q
      have := sub_filter.mp this
      exact ⟨this.1, of_decide_eq_true this.2.2⟩
    · right
      exact ⟨(List.mem_filter.mp ha).1, List.mem_singleton.mp q⟩
  · rintro (⟨h, hb⟩ | ⟨h, rfl⟩)
    · exact (sub_filter.mpr ⟨h, decide_eq_true hax, decide_eq_true hb⟩).trans (List.sublist_append_left _ _)
    · exact (List.singleton_sublist.mpr (List.mem_filter.mpr ⟨h, decide_eq_true hax⟩)).append (List.Sublist.refl [b])
section
variable {ws : List Wn} {s : List Nat} (hs : s.Perm (List.range ws.length)) {x : Nat} (hx : x < ws.length)
include hs hx
theorem rse_whole : wholeB ws (rse s x) x = true := by
  have hp := rse_perm hs hx
  have hn := hp.nodup_iff.mpr List.nodup_range
  have nx : x ∉ s.filter (fun o => decide (o ≠ x)) := fun q => by have := (List.mem_filter.mp q).2; simp at this
  rw [wholeB_iff hn (hp.mem_iff.mpr (List.mem_range.mpr hx)) hx]
  intro b hb
  unfold rse at hb
  have := (sub_split (post := []) nx).mp hb
  simp at this
/-- what is not whole stays so -/
theorem rse_lack {y : Nat} (hy : y < ws.length) (hne : y ≠ x) (h : wholeB ws s y = false) : wholeB ws (rse s x) y = false := by
  have hp := rse_perm hs hx
  have hn := hp.nodup_iff.mpr List.nodup_range
  have hns := hs.nodup_iff.mpr List.nodup_range
  have ms := hs.mem_iff.mpr (List.mem_range.mpr hy)
  cases q : wholeB ws (rse s x) y with
  | false => rfl
  | true =>
    rw [wholeB_iff hn (hp.mem_iff.mpr (List.mem_range.mpr hy)) hy] at q
    have : wholeB ws s y = true := by
      rw [wholeB_iff hns ms hy]
      intro b hb
      by_cases e : b = x
      · exact q b ((sub_rse hns hne).mpr (.inr ⟨ms, e⟩))
      · exact q b ((sub_rse hns hne).mpr (.inl ⟨hb, e⟩))
    rw [h] at this
    cases this
theorem rse_keep {y : Nat} (hy : y < ws.length) (hne : y ≠ x) (h : wholeB ws s y = true) (hm : mtI ws y x = false) : wholeB ws (rse s x) y = true := by
  have hp := rse_perm hs hx
  have hn := hp.nodup_iff.mpr List.nodup_range
  have hns := hs.nodup_iff.mpr List.nodup_range
  have ms := hs.mem_iff.mpr (List.mem_range.mpr hy)
  rw [wholeB_iff hns ms hy] at h
  rw [wholeB_iff hn (hp.mem_iff.mpr (List.mem_range.mpr hy)) hy]
  intro b hb
  rcases (sub_rse hns hne).mp hb with q | q
  · exact h b q.1
  · rw [q.2]; exact hm
end
def cN (ws : List Wn) (g s : List Nat) : Nat := (lackN ws s g).length
theorem cN_eq (ws : List Wn) (g s : List Nat) : cN ws g s = g.countP fun o => !wholeB ws s o := by
  unfold cN lackN
  rw [List.countP_eq_length_filter]
section
variable {ws : List Wn} {g : List Nat} (hg : Asc ws.length g) {s : List Nat} (hs : s.Perm (List.range ws.length))
include hg hs
theorem cN_low {x : Nat} (hx : x < ws.length) : cN ws g s ≤ cN ws g (rse s x) + 1 := by
  have nd : g.Nodup := hg.1.imp fun q => Nat.ne_of_lt q
  have le : ((lackN ws s g).filter (fun o => decide (o ≠ x))).length ≤ cN ws g (rse s x) := by
    refine sub_len ((nd.filter _).filter _) fun y hy => ?_
    have hy := List.mem_filter.mp hy
    have hl := List.mem_filter.mp hy.1
    refine List.mem_filter.mpr ⟨hl.1, ?_⟩
    have := rse_lack hs hx (hg.2 y hl.1) (of_decide_eq_true hy.2) (by simpa using hl.2)
    rw [this]
    rfl
  have : cN ws g s ≤ ((lackN ws s g).filter (fun o => decide (o ≠ x))).length + 1 := by
    have e : ∀ l : List Nat, l.Nodup → l.length ≤ (l.filter (fun o => decide (o ≠ x))).length + 1 := fun l => by
      induction l with
      | nil => simp
      | cons a l ih =>
        intro hn
        rw [List.nodup_cons] at hn
        by_cases q : a = x
        · subst q
          have : l.filter (fun o => decide (o ≠ a)) = l := by
            rw [List.filter_eq_self]
            intro y hy
            exact decide_eq_true fun z => hn.1 (z ▸ hy)
          rw [List.filter_cons_of_neg (by simp), this, List.length_cons]
          exact Nat.le_refl _
        · rw [List.filter_cons_of_pos (p := fun o => decide (o ≠ x)) (decide_eq_true q), List.length_cons, List.length_cons]
          have := ih hn.2
          omega
    exact e _ (nd.filter _)
  omega
/-- a group of windows that do not meet: one raising shows one more -/
theorem cN_down (ha : apR ws [] g = true) {c : Nat} (hc : cN ws g s = c + 1) : ∃ x ∈ g, cN ws g (rse s x) = c := by
  have nd : g.Nodup := hg.1.imp fun q => Nat.ne_of_lt q
  have pw := (apR_iff.mp ha).2
  have ap : ∀ a ∈ g, ∀ b ∈ g, a ≠ b → mtI ws b a = false := pw_all (R := fun x y => mtI ws y x = false) (fun x y q => by rw [mtI_symm]; exact q) pw
  cases q : lackN ws s g with
  | nil => unfold cN at hc; rw [q] at hc; cases hc
  | cons x l =>
    have hx : x ∈ lackN ws s g := by rw [q]; exact List.mem_cons_self
    have hx' := List.mem_filter.mp hx
    have hl := hg.2 x hx'.1
    refine ⟨x, hx'.1, ?_⟩
    have e : lackN ws (rse s x) g = l := by
      have nq : (x :: l).Nodup := by rw [← q]; exact nd.filter _
      rw [List.nodup_cons] at nq
      have : lackN ws (rse s x) g = (lackN ws s g).filter fun o => decide (o ≠ x) := by
        unfold lackN
        rw [List.filter_filter]
        refine List.filter_congr fun y hy => ?_
        by_cases e : y = x
        · subst e
          rw [rse_whole hs hl]
          simp
        · have hyl := hg.2 y hy
          cases w : wholeB ws s y with
          | true =>
            rw [rse_keep hs hl hyl e w (ap x hx'.1 y hy fun z => e z.symm)]
            simp
          | false =>
            rw [rse_lack hs hl hyl e w]
            simp [e]
      rw [this, q, List.filter_cons_of_neg (by simp), List.filter_eq_self]
      intro y hy
      exact decide_eq_true fun z => nq.1 (z ▸ hy)
    unfold cN at hc ⊢
    rw [e]
    rw [q, List.length_cons] at hc
    omega
theorem cN_pos (ha : apR ws [] g = false) : cN ws g s ≠ 0 := by
  intro h
  have l0 : lackN ws s g = [] := List.length_eq_zero_iff.mp h
  have dn := (due_nil hs hg).mpr (by
    rw [List.filter_eq_nil_iff]
    intro o ho
    unfold lackN at l0
    rw [List.filter_eq_nil_iff] at l0
    have := l0 o ho
    rw [Bool.not_eq_true', Bool.not_eq_false] at this
    rw [decide_eq_true (List.mem_filter.mpr ⟨List.mem_range.mpr (hg.2 o ho), this⟩)]
    decide)
  rw [ap_due hs hg] at ha
  have : g.any (dueB ws s g) = true := by simpa using ha
  obtain ⟨y, _, hy⟩ := List.any_eq_true.mp this
  have := (mem_due hs).mpr hy
  rw [dn] at this
  cases this
end
theorem count_scr {ws : List Wn} (h : ∀ w ∈ ws, w.ok) (os : List Nat) {o : Nat} (hl : o < ws.length) : mtS .count (.lst (scrD ws os)) [.int o] = .ok (.int (scN ws os o)) := by
  have q : ∀ xs, mtS .count (.lst xs) [.int o] = if okd 4 (.int o) && xs.all (okd 4) then .ok (.int (xs.countP (eqv · (.int o)))) else .bad := fun _ => rfl
  have ok : (okd 4 (.int o) && (scrD ws os).all (okd 4)) = true := by
    rw [Bool.and_eq_true]
    refine ⟨by simp [okd], ?_⟩
    unfold scrD
    rw [List.all_map, List.all_eq_true]
    intro p _
    show okd 4 (oD (topOf ws os p.1 p.2)) = true
    cases topOf ws os p.1 p.2 <;> simp [oD, okd]
  rw [q, if_pos ok, sc_count h hl]
  unfold scrD
  rw [List.countP_map]
  have : ((fun d => eqv d (.int o)) ∘ fun p : Int × Int => oD (topOf ws os p.1 p.2)) = fun p : Int × Int => decide (topOf ws os p.1 p.2 = some o) := by
    funext p
    show eqv (oD (topOf ws os p.1 p.2)) (.int o) = _
    cases topOf ws os p.1 p.2 with
    | none => rfl
    | some b =>
      show (((b : Int)) == o) = _
      rw [Bool.eq_iff_iff]
      simp
      omega
  rw [this]
def wvN (ws : List Wn) (os : List Nat) : List Nat := (List.range ws.length).filter (wholeB ws os)
theorem in_iN (o : Nat) (os : List Nat) : cmpS .In (.int o) (.lst (iN os)) = .ok (decide (o ∈ os)) := by
  have q : cmpS .In (.int o) (.lst (iN os)) = if okd 8 (.int o) && (iN os).all (okd 8) then .ok ((iN os).any (eqv · (.int o))) else .bad := rfl
  rw [q, if_pos (by simp [okd, iN]), any_iN]
def satB (ws : List Wn) (g s : List Nat) : Bool := g.all fun o => decide (o ∈ wvN ws s)
theorem sat_iff {ws : List Wn} {g : List Nat} (hg : Asc ws.length g) (s : List Nat) : satB ws g s = true ↔ cN ws g s = 0 := by
  unfold satB cN lackN
  rw [List.all_eq_true, List.length_eq_zero_iff, List.filter_eq_nil_iff]
  constructor
  · intro h o ho
    have := (List.mem_filter.mp (of_decide_eq_true (h o ho))).2
    rw [this]
    decide
  · intro h o ho
    have := h o ho
    rw [Bool.not_eq_true', Bool.not_eq_false] at this
    exact decide_eq_true (List.mem_filter.mpr ⟨List.mem_range.mpr (hg.2 o ho), this⟩)
theorem notin_tu (r : List Nat) (K : List (List Nat)) : cmpS .NotIn (tuN r) (.lst (K.map tuN)) = .ok (!decide (r ∈ K)) := by
  have q : inS (tuN r) (.lst (K.map tuN)) = if okd 8 (tuN r) && (K.map tuN).all (okd 8) then .ok ((K.map tuN).any (eqv · (tuN r))) else .bad := rfl
  have e : ((K.map tuN).any (eqv · (tuN r))) = decide (r ∈ K) := by
    rw [List.any_map, Bool.eq_iff_iff, List.any_eq_true, decide_eq_true_eq]
    simp only [Function.comp_apply, eqv_tuN, decide_eq_true_eq]
    constructor
    · rintro ⟨x, hx, rfl⟩; exact hx
    · intro h; exact ⟨r, h, rfl⟩
  show (do let r ← inS (tuN r) (.lst (K.map tuN)); R.ok (!r)) = _
  rw [q, if_pos (by simp [okd, tuN, iN]), e]
  rfl
end Pan

/-! Panestacks, part K16: all groups of at most four windows. -/
namespace Pan
open PySem L2
def GN : Nat → List (List Nat)
  | 0 => []
  | 1 => [[0]]
  | 2 => [[0], [1], [0, 1]]
  | 3 => [[0], [1], [2], [0, 1], [0, 2], [1, 2], [0, 1, 2]]
  | 4 => [[0], [1], [2], [3], [0, 1], [0, 2], [0, 3], [1, 2], [1, 3], [2, 3], [0, 1, 2], [0, 1, 3], [0, 2, 3], [1, 2, 3], [0, 1, 2, 3]]
  | _ => []
theorem all_groups_range : ∀ {n : Nat}, n ≤ 4 → r_all_groups.sem [.lst (iN (List.range n))] = .ok (.lst ((GN n).map tuN))
  | 0, _ => by kernel_rfl
  | 1, _ => by kernel_rfl
  | 2, _ => by kernel_rfl
  | 3, _ => by kernel_rfl
  | 4, _ => by kernel_rfl
  | n + 5, h => by omega
theorem all_groups_oth : ∀ {n o : Nat}, n ≤ 4 → o < n → r_all_groups.sem [tuN (othN n o)] = .ok (.lst (((GN n).filter fun g => notB g o).map tuN))
  | 0, _, _, h => by omega
  | 1, 0, _, _ => by kernel_rfl
  | 2, 0, _, _ => by kernel_rfl
  | 2, 1, _, _ => by kernel_rfl
  | 3, 0, _, _ => by kernel_rfl
  | 3, 1, _, _ => by kernel_rfl
  | 3, 2, _, _ => by kernel_rfl
  | 4, 0, _, _ => by kernel_rfl
  | 4, 1, _, _ => by kernel_rfl
  | 4, 2, _, _ => by kernel_rfl
  | 4, 3, _, _ => by kernel_rfl
  | 1, o + 1, _, h => by omega
  | 2, o + 2, _, h => by omega
  | 3, o + 3, _, h => by omega
  | 4, o + 4, _, h => by omega
  | n + 5, _, h, _ => by omega
theorem GN_asc : ∀ n, n ≤ 4 → ∀ g ∈ GN n, (g.Pairwise (· < ·) ∧ ∀ o ∈ g, o < n) ∧ g ≠ [] := by decide +kernel
theorem GN_len : ∀ n, n ≤ 4 → (GN n).Pairwise (fun a b => a.length ≤ b.length) := by decide +kernel
theorem GN_size : ∀ n, n ≤ 4 → (GN n).length ≤ 15 := by decide +kernel
theorem GN_mem : ∀ {n : Nat}, n ≤ 4 → ∀ p : Nat → Bool, (List.range n).filter p ≠ [] → (List.range n).filter p ∈ GN n
  | 0, _, p, h => absurd rfl h
  | 1, _, p, h => by
    have e : List.range 1 = [0] := rfl
    rw [e] at h ⊢
    cases h0 : p 0 <;> simp [h0, GN] at h ⊢
  | 2, _, p, h => by
    have e : List.range 2 = [0, 1] := rfl
    rw [e] at h ⊢
    cases h0 : p 0 <;> cases h1 : p 1 <;> simp [h0, h1, GN] at h ⊢
  | 3, _, p, h => by
    have e : List.range 3 = [0, 1, 2] := rfl
    rw [e] at h ⊢
    cases h0 : p 0 <;> cases h1 : p 1 <;> cases h2 : p 2 <;> simp [h0, h1, h2, GN] at h ⊢
  | 4, _, p, h => by
    have e : List.range 4 = [0, 1, 2, 3] := rfl
    rw [e] at h ⊢
    cases h0 : p 0 <;> cases h1 : p 1 <;> cases h2 : p 2 <;> cases h3 : p 3 <;> simp [h0, h1, h2, h3, GN] at h ⊢
  | n + 5, h, _, _ => by omega
/-! ### smallest_cover -/
def Γs : List FnR := [r_check_windows, r_check_number, r_all_groups, r_others, r_do_cover]
abbrev smB : Ss := .cons (.ife (.call 4 (.cons (.var 0) (.cons (.var 2) (.cons (.var 1) .nil)))) (.cons (.ret (.var 2)) .nil) .nil) .nil
def optT : Option (List Nat) → D
  | some g => tuN g
  | none => .non
theorem sm_loop {ws : List Wn} (h : ∀ w ∈ ws, w.ok) {o : Nat} (ho : o < ws.length) : ∀ (L : List (List Nat)) (s2 : Slot), (∀ g ∈ L, ∀ x ∈ g, x < ws.length) → ∃ t2, forM (turnF (phi Γs) (.name 2) smB) (L.map tuN) [.val (wsD ws), .val (.int o), s2] = match L.find? fun g => covB ws g o with
    | some g => .ok (.rt (tuN g))
    | none => .ok (.nx [.val (wsD ws), .val (.int o), t2])
  | [], s2, _ => ⟨s2, rfl⟩
  | g :: L, s2, hg => by
    obtain ⟨t2, q⟩ := sm_loop h ho L (.val (tuN g)) fun x hx => hg x (List.mem_cons_of_mem _ hx)
    refine ⟨t2, ?_⟩
    have d := do_cover_ok h (hg g List.mem_cons_self) ho (gd := tuN g) rfl
    have p4 : ∀ ds, phi Γs 4 ds = arity r_do_cover.n r_do_cover.sem ds := fun _ => rfl
    have st : turnF (phi Γs) (.name 2) smB (tuN g) [.val (wsD ws), .val (.int o), s2] = if covB ws g o then .ok (.rt (tuN g)) else .ok (.nx [.val (wsD ws), .val (.int o), .val (tuN g)]) := by
      generalize tuN g = tg at *
      unfold turnF
      cases hb : covB ws g o <;> rw [hb] at d <;> simp -implicitDefEqProofs [smB, p4, d]
    rw [List.map_cons]
    show andThen (turnF _ _ _ _ _) _ = _
    rw [st, List.find?_cons]
    cases hb : covB ws g o with
    | true => rfl
    | false => exact q
theorem smallest_cover_ok {ws : List Wn} (h : ∀ w ∈ ws, w.ok) (hl : ws.length ≤ 4) {o : Nat} (ho : o < ws.length) : r_smallest_cover.sem [wsD ws, .int o] = .ok (optT ((GN ws.length).find? fun g => notB g o && covB ws g o)) := by
  have a := check_windows_ok (wsD ws) (okd_wsD 6 ws)
  rw [areW_wsD h (by omega)] at a
  simp only [if_true] at a
  have b := check_number_ok ho
  have c := others_ok (ws := ws) (by omega) o
  have d := all_groups_oth hl ho
  obtain ⟨t2, q⟩ := sm_loop h ho ((GN ws.length).filter fun g => notB g o) .no (fun g hg => (GN_asc _ hl g (List.mem_filter.mp hg).1).1.2)
  have ep : (fun a => decide (notB a o = true ∧ covB ws a o = true)) = fun g => notB g o && covB ws g o := by
    funext a
    rw [Bool.eq_iff_iff]
    simp
  rw [List.find?_filter, ep] at q
  have p0 : ∀ ds, phi Γs 0 ds = arity r_check_windows.n r_check_windows.sem ds := fun _ => rfl
  have p1 : ∀ ds, phi Γs 1 ds = arity r_check_number.n r_check_number.sem ds := fun _ => rfl
  have p2 : ∀ ds, phi Γs 2 ds = arity r_all_groups.n r_all_groups.sem ds := fun _ => rfl
  have p3 : ∀ ds, phi Γs 3 ds = arity r_others.n r_others.sem ds := fun _ => rfl
  have hr : ∀ ds, r_smallest_cover.sem ds = runF (phi Γs) 3 ir_smallest_cover ds := fun _ => rfl
  rw [hr, runF_eq]
  generalize tuN (othN ws.length o) = tt at *
  generalize ((GN ws.length).filter fun g => notB g o).map tuN = gg at *
  generalize (GN ws.length).find? (fun g => notB g o && covB ws g o) = ff at q ⊢
  cases ff with
  | none => simp -implicitDefEqProofs [ir_smallest_cover, p0, p1, p2, p3, a, b, c, d, q, optT]
  | some g => simp -implicitDefEqProofs [ir_smallest_cover, p0, p1, p2, p3, a, b, c, d, q, optT]
end Pan

/-! Panestacks, part K17: shown_groups, most_shown, most_hidden. -/
namespace Pan
open PySem L2
def apG (ws : List Wn) : List (List Nat) := (GN ws.length).filter fun g => apR ws [] g
/-- of the greatest length -/
def lgN (L : List (List Nat)) : List (List Nat) := L.filter fun g => decide (g.length = (L.getLast?.getD []).length)
theorem sortable_tu {L : List (List Nat)} (h : ∀ g ∈ L, g ≠ []) : sortable (L.map tuN) = true := by
  unfold sortable
  rw [Bool.or_eq_true]
  right
  rw [Bool.or_eq_true]
  left
  rw [List.all_map, List.all_eq_true]
  intro g hg
  have := h g hg
  cases g with
  | nil => exact absurd rfl this
  | cons a l => simp [tuN, iN, isTupI, isIntD]
theorem lgN_ne {ws : List Wn} (hl : ws.length ≤ 4) : ∀ g ∈ lgN (apG ws), g ≠ [] := fun g hg => (GN_asc _ hl g (List.mem_filter.mp (List.mem_filter.mp hg).1).1).2
theorem find_shown_ok {ws : List Wn} (hl : ws.length ≤ 4) : r_find_shown.sem [wsD ws] = .ok (.lst (sortD ((lgN (apG ws)).map tuN))) := by
  have lw := len_wsD ws
  have rg : biS .lrange [.int ws.length] = .ok (.lst (iN (List.range ws.length))) := by
    rw [lrange_ok (by omega), rangeD_eq]; rfl
  have ag := all_groups_range hl
  have f1 : lcM ((GN ws.length).map tuN) (itemL (phi [r_all_groups, r_are_apart]) [.val (wsD ws), .no, .no] [2] (.name 2) (.some (.call 1 (.cons (.var 0) (.cons (.var 2) .nil)))) (.var 2)) = .ok ((apG ws).map tuN) := by
    refine lcM_filterI tuN (fun g => apR ws [] g) tuN fun g hg => ?_
    have d : r_are_apart.sem [wsD ws, tuN g] = .ok (.bl (apR ws [] g)) := are_apart_ok (GN_asc _ hl g hg).1.2
    generalize tuN g = tg at *
    cases hb : apR ws [] g <;> rw [hb] at d <;> simp -implicitDefEqProofs [itemL, d]
  have f2 : lcM ((apG ws).map tuN) (itemL (phi [r_all_groups, r_are_apart]) [.val (wsD ws), .val (.lst ((apG ws).map tuN)), .no] [2] (.name 2) (.some (.cmp .Eq (.bi .len (.cons (.var 2) .nil)) (.bi .len (.cons (.ix (.var 1) (.neg (.lit (.int (1))))) .nil)))) (.var 2)) = .ok ((lgN (apG ws)).map tuN) := by
    refine lcM_filterI tuN _ tuN fun g hg => ?_
    have lx : ixS (.lst ((apG ws).map tuN)) (.int (-1)) = .ok (tuN ((apG ws).getLast?.getD [])) := by
      rcases List.eq_nil_or_concat (apG ws) with e | ⟨l, z, e⟩
      · rw [e] at hg; cases hg
      · rw [List.concat_eq_append] at e
        rw [e, List.map_append]
        simp only [List.getLast?_append, List.getLast?_singleton, Option.some_or, Option.getD_some]
        exact last_lst _ _
    have l1 : biS .len [tuN g] = .ok (.int g.length) := by
      have q : biS .len [tuN g] = .ok (.int (iN g).length) := rfl
      rw [q, iN_len]
    have l2 : biS .len [tuN ((apG ws).getLast?.getD [])] = .ok (.int ((apG ws).getLast?.getD []).length) := by
      have q : ∀ g, biS .len [tuN g] = .ok (.int (iN g).length) := fun _ => rfl
      rw [q, iN_len]
    generalize (apG ws).getLast?.getD [] = la at *
    by_cases q : g.length = la.length
    · have b : ((g.length : Int) == la.length) = true := by rw [q]; simp
      rw [decide_eq_true q]
      generalize tuN g = tg at *
      generalize tuN la = tl at *
      simp -implicitDefEqProofs only [itemL, wipe_one, List.set_cons_succ, List.set_cons_zero, asgG_name, bind_ok, evT_some, ev_cmp, ev_bi, evs_cons, evs_nil, ev_ix, ev_neg, ev_lit, asI_int, ev_var, getV_zero, getV_succ, lx, l1, l2, eq_int, b, asB_bl, if_true]
    · have b : ((g.length : Int) == la.length) = false := by simp; omega
      rw [decide_eq_false q]
      generalize tuN g = tg at *
      generalize tuN la = tl at *
      simp -implicitDefEqProofs only [itemL, wipe_one, List.set_cons_succ, List.set_cons_zero, asgG_name, bind_ok, evT_some, ev_cmp, ev_bi, evs_cons, evs_nil, ev_ix, ev_neg, ev_lit, asI_int, ev_var, getV_zero, getV_succ, lx, l1, l2, eq_int, b, asB_bl, Bool.false_eq_true, if_false]
  have so : biS .sorted [.lst ((lgN (apG ws)).map tuN)] = .ok (.lst (sortD ((lgN (apG ws)).map tuN))) := by
    show sortS _ = _
    unfold sortS
    exact if_pos (sortable_tu (lgN_ne hl))
  generalize sortD ((lgN (apG ws)).map tuN) = sd at *
  generalize (lgN (apG ws)).map tuN = lg at *
  generalize (apG ws).map tuN = ap at *
  generalize (GN ws.length).map tuN = gg at *
  generalize iN (List.range ws.length) = rr at *
  simp -implicitDefEqProofs [r_find_shown, ir_find_shown, runF_eq, lw, rg, ag, f1, f2, so]
theorem shown_groups_ok {ws : List Wn} (h : ∀ w ∈ ws, w.ok) (hl : ws.length ≤ 4) : r_shown_groups.sem [wsD ws] = .ok (.lst (sortD ((lgN (apG ws)).map tuN))) := by
  have a := check_windows_ok (wsD ws) (okd_wsD 6 ws)
  rw [areW_wsD h (by omega)] at a
  simp only [if_true] at a
  have b := find_shown_ok hl
  generalize sortD ((lgN (apG ws)).map tuN) = sd at *
  simp -implicitDefEqProofs [r_shown_groups, ir_shown_groups, runF_eq, a, b]
theorem most_shown_ok {ws : List Wn} (h : ∀ w ∈ ws, w.ok) (hl : ws.length ≤ 4) : r_most_shown.sem [wsD ws] = .ok (.int ((apG ws).getLast?.getD []).length) := by
  have a := check_windows_ok (wsD ws) (okd_wsD 6 ws)
  rw [areW_wsD h (by omega)] at a
  simp only [if_true] at a
  have b := find_shown_ok hl
  have pm := sortD_perm ((lgN (apG ws)).map tuN)
  have ok : okd 8 (.lst (sortD ((lgN (apG ws)).map tuN))) = true := by
    simp only [okd, List.all_eq_true]
    intro x hx
    obtain ⟨g, _, rfl⟩ := List.mem_map.mp (pm.mem_iff.mp hx)
    simp [tuN, iN, okd]
  have ne := ne_lst (ys := []) ok (by simp [okd])
  cases hs : sortD ((lgN (apG ws)).map tuN) with
  | nil =>
    rw [hs] at b ne pm
    have e : lgN (apG ws) = [] := by
      have := pm.length_eq
      rw [List.length_map, List.length_nil] at this
      exact List.length_eq_zero_iff.mp this.symm
    have e2 : apG ws = [] := by
      rcases List.eq_nil_or_concat (apG ws) with e' | ⟨l, z, e'⟩
      · exact e'
      · rw [List.concat_eq_append] at e'
        have : z ∈ lgN (apG ws) := List.mem_filter.mpr ⟨by rw [e']; simp, by rw [e']; simp⟩
        rw [e] at this
        cases this
    rw [e2]
    have ne : cmpS .NotEq (.lst []) (.lst []) = .ok false := rfl
    simp -implicitDefEqProofs [r_most_shown, ir_most_shown, runF_eq, a, b, ne]
  | cons d l =>
    rw [hs] at b ne pm
    obtain ⟨g, hg, rfl⟩ := List.mem_map.mp (pm.mem_iff.mp List.mem_cons_self)
    have lg : g.length = ((apG ws).getLast?.getD []).length := of_decide_eq_true (List.mem_filter.mp hg).2
    have ne : cmpS .NotEq (.lst (tuN g :: l)) (.lst []) = .ok true := ne
    have ix : ixS (.lst (tuN g :: l)) (.int 0) = .ok (tuN g) := by
      have q : ixS (.lst (tuN g :: l)) (.int 0) = match atI (tuN g :: l) 0 with | some d => .ok d | none => .bad := rfl
      have e : atI (tuN g :: l) 0 = some (tuN g) := by
        unfold atI ixN
        rw [if_pos (by omega), if_pos (by rw [List.length_cons]; omega)]
        rfl
      rw [q, e]
    have l1 : biS .len [tuN g] = .ok (.int g.length) := by
      have q : biS .len [tuN g] = .ok (.int (iN g).length) := rfl
      rw [q, iN_len]
    rw [← lg]
    generalize tuN g = tg at *
    simp -implicitDefEqProofs [r_most_shown, ir_most_shown, runF_eq, a, b, ne, ix, l1]
/-! ### most_hidden -/
/-- the others cover each one of a group -/
def hidB (ws : List Wn) (g : List Nat) : Bool := g.all fun o => covB ws ((List.range ws.length).filter (notB g)) o
def Γh : List FnR := [r_check_windows, r_all_groups, r_do_cover]
abbrev mhB : Ss := .cons (.asg (.name 3) (.lc [4] (.name 4) .seq (.cons (.var 1) .nil) (.some (.cmp .NotIn (.var 4) (.var 2))) (.var 4))) (.cons (.ife (.bi .all (.cons (.lc [4] (.name 4) .seq (.cons (.var 2) .nil) .none (.call 2 (.cons (.var 0) (.cons (.var 3) (.cons (.var 4) .nil))))) .nil)) (.cons (.ret (.bi .len (.cons (.var 2) .nil))) .nil) .nil) .nil)
theorem mh_loop {ws : List Wn} (h : ∀ w ∈ ws, w.ok) : ∀ (L : List (List Nat)) (s2 s3 : Slot), (∀ g ∈ L, ∀ x ∈ g, x < ws.length) → ∃ t2 t3, forM (turnF (phi Γh) (.name 2) mhB) (L.map tuN) [.val (wsD ws), .val (.lst (iN (List.range ws.length))), s2, s3, .no] = match L.find? (hidB ws) with
    | some g => .ok (.rt (.int g.length))
    | none => .ok (.nx [.val (wsD ws), .val (.lst (iN (List.range ws.length))), t2, t3, .no])
  | [], s2, s3, _ => ⟨s2, s3, rfl⟩
  | g :: L, s2, s3, hg => by
    obtain ⟨t2, t3, q⟩ := mh_loop h L (.val (tuN g)) (.val (.lst (iN ((List.range ws.length).filter (notB g))))) fun x hx => hg x (List.mem_cons_of_mem _ hx)
    refine ⟨t2, t3, ?_⟩
    have hgl := hg g List.mem_cons_self
    have f1 : lcM (iN (List.range ws.length)) (itemL (phi Γh) [.val (wsD ws), .val (.lst (iN (List.range ws.length))), .val (tuN g), s3, .no] [4] (.name 4) (.some (.cmp .NotIn (.var 4) (.var 2))) (.var 4)) = .ok (iN ((List.range ws.length).filter (notB g))) := by
      refine lcM_filterI (fun (i : Nat) => (.int i : D)) (notB g) (fun (i : Nat) => (.int i : D)) fun i hi => ?_
      have e : cmpS .NotIn (.int i) (tuN g) = .ok (!decide (i ∈ g)) := notin_tup i g
      unfold notB
      generalize tuN g = tg at *
      cases hb : !decide (i ∈ g) <;> rw [hb] at e <;> simp -implicitDefEqProofs [itemL, e]
    have p2 : ∀ ds, phi Γh 2 ds = arity r_do_cover.n r_do_cover.sem ds := fun _ => rfl
    have f2 : lcM (iN g) (itemL (phi Γh) [.val (wsD ws), .val (.lst (iN (List.range ws.length))), .val (tuN g), .val (.lst (iN ((List.range ws.length).filter (notB g)))), .no] [4] (.name 4) .none (.call 2 (.cons (.var 0) (.cons (.var 3) (.cons (.var 4) .nil))))) = .ok (g.map fun o => .bl (covB ws ((List.range ws.length).filter (notB g)) o)) := by
      refine lcM_mapI (fun (i : Nat) => (.int i : D)) _ fun o hm => ?_
      have d := do_cover_ok h (g := (List.range ws.length).filter (notB g)) (fun x hx => List.mem_range.mp (List.mem_filter.mp hx).1) (hgl o hm) (gd := .lst (iN ((List.range ws.length).filter (notB g)))) rfl
      generalize iN ((List.range ws.length).filter (notB g)) = nf at *
      simp -implicitDefEqProofs [itemL, p2, d]
    have al := all_bools (fun o => covB ws ((List.range ws.length).filter (notB g)) o) g
    have sq : itS .seq [tuN g] = .ok (iN g) := rfl
    have l1 : biS .len [tuN g] = .ok (.int g.length) := by
      have q : biS .len [tuN g] = .ok (.int (iN g).length) := rfl
      rw [q, iN_len]
    have eh : (g.all fun o => covB ws ((List.range ws.length).filter (notB g)) o) = hidB ws g := rfl
    rw [eh] at al
    have st : turnF (phi Γh) (.name 2) mhB (tuN g) [.val (wsD ws), .val (.lst (iN (List.range ws.length))), s2, s3, .no] = if hidB ws g then .ok (.rt (.int g.length)) else .ok (.nx [.val (wsD ws), .val (.lst (iN (List.range ws.length))), .val (tuN g), .val (.lst (iN ((List.range ws.length).filter (notB g)))), .no]) := by
      generalize g.map (fun o => (.bl (covB ws ((List.range ws.length).filter (notB g)) o) : D)) = bb at *
      generalize iN ((List.range ws.length).filter (notB g)) = nf at *
      generalize iN (List.range ws.length) = rr at *
      generalize iN g = ig at *
      generalize tuN g = tg at *
      unfold turnF
      cases hb : hidB ws g <;> rw [hb] at al <;> simp -implicitDefEqProofs [mhB, f1, sq, f2, al, l1]
    rw [List.map_cons]
    show andThen (turnF _ _ _ _ _) _ = _
    rw [st, List.find?_cons]
    cases hb : hidB ws g with
    | true => rfl
    | false => exact q
theorem most_hidden_ok {ws : List Wn} (h : ∀ w ∈ ws, w.ok) (hl : ws.length ≤ 4) : r_most_hidden.sem [wsD ws] = .ok (.int (((GN ws.length).reverse.find? (hidB ws)).getD []).length) := by
  have a := check_windows_ok (wsD ws) (okd_wsD 6 ws)
  rw [areW_wsD h (by omega)] at a
  simp only [if_true] at a
  have lw := len_wsD ws
  have rg : biS .lrange [.int ws.length] = .ok (.lst (iN (List.range ws.length))) := by
    rw [lrange_ok (by omega), rangeD_eq]; rfl
  have ag := all_groups_range hl
  have rv : revS (.lst ((GN ws.length).map tuN)) = .ok (.lst ((GN ws.length).reverse.map tuN)) := by
    have q : revS (.lst ((GN ws.length).map tuN)) = .ok (.lst ((GN ws.length).map tuN).reverse) := rfl
    rw [q, List.map_reverse]
  obtain ⟨t2, t3, q⟩ := mh_loop h (GN ws.length).reverse .no .no (fun g hg => (GN_asc _ hl g (List.mem_reverse.mp hg)).1.2)
  have p0 : ∀ ds, phi Γh 0 ds = arity r_check_windows.n r_check_windows.sem ds := fun _ => rfl
  have p1 : ∀ ds, phi Γh 1 ds = arity r_all_groups.n r_all_groups.sem ds := fun _ => rfl
  have hr : ∀ ds, r_most_hidden.sem ds = runF (phi Γh) 5 ir_most_hidden ds := fun _ => rfl
  rw [hr, runF_eq]
  generalize (GN ws.length).reverse.find? (hidB ws) = ff at q ⊢
  generalize (GN ws.length).reverse.map tuN = g1 at *
  generalize (GN ws.length).map tuN = g2 at *
  generalize iN (List.range ws.length) = rr at *
  cases ff with
  | none => simp -implicitDefEqProofs [ir_most_hidden, p0, p1, a, lw, rg, ag, rv, q]
  | some g => simp -implicitDefEqProofs [ir_most_hidden, p0, p1, a, lw, rg, ag, rv, q]
end Pan

/-! Panestacks, part K18: reports. -/
namespace Pan
open PySem L2
def isRep (ws : List Wn) : D → Bool
  | .tup [.int x, .int y, .int o] => (decide (0 ≤ o) && decide (o ≤ (ws.length : Int) - 1)) && ((decide (0 ≤ x) && decide (x ≤ 11)) && (decide (0 ≤ y) && decide (y ≤ 11))) && hasAt ws x y o.toNat
  | _ => false
theorem isI_cases {lo hi : Int} (d : D) : isI lo hi d = false ∨ ∃ i, d = .int i ∧ lo ≤ i ∧ i ≤ hi := by
  cases q : isI lo hi d with
  | false => exact .inl rfl
  | true => exact .inr (isI_int q)
theorem isRep_len {ws : List Wn} {xs : List D} (h : ¬ xs.length = 3) : isRep ws (.tup xs) = false := by
  unfold isRep
  split
  · rename_i e; simp only [D.tup.injEq] at e; rw [e] at h; exact absurd rfl h
  · rfl
theorem is_report_ok {ws : List Wn} (hl : ws.length ≤ 6) (d : D) (h : okd 8 d = true) : r_is_report.sem [wsD ws, d] = .ok (.bl (isRep ws d)) := by
  have hi := isinst_ok (n := "tuple") h rfl
  have lw := len_wsD ws
  cases d with
  | tup xs =>
    by_cases h3 : xs.length = 3
    · match xs, h3 with
      | [a, b, c], _ =>
        have ka := is_int_ok a 0 11 (okd_item h (by simp))
        have kb := is_int_ok b 0 11 (okd_item h (by simp))
        have kc := is_int_ok c 0 ((ws.length : Int) - 1) (okd_item h (by simp))
        have x0 : ixS (.tup [a, b, c]) (.int 0) = .ok a := rfl
        have x1 : ixS (.tup [a, b, c]) (.int 1) = .ok b := rfl
        have x2 : ixS (.tup [a, b, c]) (.int 2) = .ok c := rfl
        have sl : slS (.tup [a, b, c]) none (some 2) = .ok (.tup [a, b]) := rfl
        rcases isI_cases (lo := 0) (hi := (ws.length : Int) - 1) c with qc | ⟨o, rfl, o1, o2⟩
        · have e : isRep ws (.tup [a, b, c]) = false := by
            unfold isRep
            split
            · rename_i e
              simp only [D.tup.injEq, List.cons.injEq, and_true] at e
              obtain ⟨rfl, rfl, rfl⟩ := e
              simp only [isI] at qc
              rw [qc]
              rfl
            · rfl
          rw [qc] at kc
          rw [e]
          simp -implicitDefEqProofs [r_is_report, ir_is_report, runF_eq, hi, isInstS, lw, x2, kc]
        · have oc : isI 0 ((ws.length : Int) - 1) (.int o) = true := by simp [isI]; omega
          rw [oc] at kc
          rcases isI_cases (lo := 0) (hi := 11) a with qa | ⟨x, rfl, xa, xb⟩
          · have e : isRep ws (.tup [a, b, .int o]) = false := by
              unfold isRep
              split
              · rename_i e
                simp only [D.tup.injEq, List.cons.injEq, and_true, D.int.injEq] at e
                obtain ⟨rfl, rfl, rfl⟩ := e
                simp only [isI] at qa
                rw [qa]
                simp
              · rfl
            rw [qa] at ka
            rw [e]
            simp -implicitDefEqProofs [r_is_report, ir_is_report, runF_eq, hi, isInstS, lw, x2, x0, kc, ka]
          · have oa : isI 0 11 (.int x) = true := by simp [isI]; omega
            rw [oa] at ka
            rcases isI_cases (lo := 0) (hi := 11) b with qb | ⟨y, rfl, ya, yb⟩
            · have e : isRep ws (.tup [.int x, b, .int o]) = false := by
                unfold isRep
                split
                · rename_i e
                  simp only [D.tup.injEq, List.cons.injEq, and_true, D.int.injEq] at e
                  obtain ⟨rfl, rfl, rfl⟩ := e
                  simp only [isI] at qb
                  rw [qb]
                  simp
                · rfl
              rw [qb] at kb
              rw [e]
              simp -implicitDefEqProofs [r_is_report, ir_is_report, runF_eq, hi, isInstS, lw, x2, x0, x1, kc, ka, kb]
            · have ob : isI 0 11 (.int y) = true := by simp [isI]; omega
              rw [ob] at kb
              have ho : o.toNat < ws.length := by omega
              have hw : ws[o.toNat]? = some ws[o.toNat] := List.getElem?_eq_getElem ho
              have i1 := ix_wsD hw
              rw [Int.toNat_of_nonneg o1] at i1
              have cv : r_covers.sem [wD ws[o.toNat], .tup [.int x, .int y]] = .ok (.bl (ws[o.toNat].has x y)) := covers_ok ws[o.toNat] x y
              have eh : hasAt ws x y o.toNat = ws[o.toNat].has x y := by unfold hasAt; rw [hw]
              have e : isRep ws (.tup [.int x, .int y, .int o]) = ws[o.toNat].has x y := by
                show ((decide (0 ≤ o) && decide (o ≤ (ws.length : Int) - 1)) && ((decide (0 ≤ x) && decide (x ≤ 11)) && (decide (0 ≤ y) && decide (y ≤ 11))) && hasAt ws x y o.toNat) = _
                rw [eh, decide_eq_true o1, decide_eq_true o2, decide_eq_true xa, decide_eq_true xb, decide_eq_true ya, decide_eq_true yb]
                rfl
              rw [e]
              simp -implicitDefEqProofs [r_is_report, ir_is_report, runF_eq, hi, isInstS, lw, x2, x0, x1, kc, ka, kb, i1, sl, cv]
    · have h5 : ((xs.length : Int) == 3) = false := by simp; omega
      rw [isRep_len h3]
      simp -implicitDefEqProofs [r_is_report, ir_is_report, runF_eq, hi, isInstS, h5]
  | _ => simp -implicitDefEqProofs [r_is_report, ir_is_report, runF_eq, hi, isInstS, isRep]
def haveR (ws : List Wn) : D → Bool
  | .tup xs => decide (xs.length ≤ 8) && xs.all (isRep ws)
  | _ => false
theorem have_reports_ok {ws : List Wn} (hl : ws.length ≤ 6) (d : D) (h : okd 8 d = true) : r_have_reports.sem [wsD ws, d] = .ok (.bl (haveR ws d)) := by
  have hi := isinst_ok (n := "tuple") h rfl
  cases d with
  | tup xs =>
    obtain ⟨bs, hL, hA⟩ : ∃ bs, lcM xs (itemL (phi [r_is_report]) [Slot.val (wsD ws), Slot.val (.tup xs), .no] [2] (.name 2) .none (.call 0 (.cons (.var 0) (.cons (.var 2) .nil)))) = .ok bs ∧ biS .all [.lst bs] = .ok (.bl (xs.all (isRep ws))) :=
      all_lc _ fun d hd => by simp -implicitDefEqProofs [itemL, is_report_ok hl d (okd_item h hd)]
    by_cases h6 : xs.length ≤ 8
    · have h7 : ¬ (8 : Int) < xs.length := by omega
      simp -implicitDefEqProofs [r_have_reports, ir_have_reports, runF_eq, hi, isInstS, haveR, h6, h7, hL, hA]
    · have h7 : (8 : Int) < xs.length := by omega
      simp -implicitDefEqProofs [r_have_reports, ir_have_reports, runF_eq, hi, isInstS, haveR, h6, h7]
  | _ => simp -implicitDefEqProofs [r_have_reports, ir_have_reports, runF_eq, hi, isInstS, haveR]
theorem are_reports_ok {ws : List Wn} (hw : ∀ w ∈ ws, w.ok) (hl : ws.length ≤ 6) (d : D) (h : okd 8 d = true) : r_are_reports.sem [wsD ws, d] = .ok (.bl (haveR ws d)) := by
  have a := check_windows_ok (wsD ws) (okd_wsD 6 ws)
  rw [areW_wsD hw hl] at a
  simp only [if_true] at a
  have b := have_reports_ok hl d h
  simp -implicitDefEqProofs [r_are_reports, ir_are_reports, runF_eq, a, b]
end Pan

/-! Panestacks, part K19: explaining. -/
namespace Pan
open PySem L2
abbrev Rep := Int × Int × Nat
def rpD (r : Rep) : D := .tup [.int r.1, .int r.2.1, .int (r.2.2 : Nat)]
def rpsD (rs : List Rep) : D := .tup (rs.map rpD)
def Rep.okR (ws : List Wn) (r : Rep) : Prop := (0 ≤ r.1 ∧ r.1 ≤ 11) ∧ (0 ≤ r.2.1 ∧ r.2.1 ≤ 11) ∧ r.2.2 < ws.length ∧ hasAt ws r.1 r.2.1 r.2.2 = true
theorem isRep_rpD {ws : List Wn} {r : Rep} (h : r.okR ws) : isRep ws (rpD r) = true := by
  obtain ⟨⟨h1, h2⟩, ⟨h3, h4⟩, h5, h6⟩ := h
  show ((decide ((0 : Int) ≤ (r.2.2 : Nat)) && decide (((r.2.2 : Nat) : Int) ≤ (ws.length : Int) - 1)) && ((decide (0 ≤ r.1) && decide (r.1 ≤ 11)) && (decide (0 ≤ r.2.1) && decide (r.2.1 ≤ 11))) && hasAt ws r.1 r.2.1 ((r.2.2 : Nat) : Int).toNat) = true
  rw [Int.toNat_natCast, h6, decide_eq_true h1, decide_eq_true h2, decide_eq_true h3, decide_eq_true h4, decide_eq_true (show (0 : Int) ≤ (r.2.2 : Nat) by omega), decide_eq_true (show ((r.2.2 : Nat) : Int) ≤ (ws.length : Int) - 1 by omega)]
  rfl
theorem okd_rps (rs : List Rep) : okd 8 (rpsD rs) = true := by simp [rpsD, rpD, okd]
theorem haveR_rps {ws : List Wn} {rs : List Rep} (h : ∀ r ∈ rs, r.okR ws) (hl : rs.length ≤ 8) : haveR ws (rpsD rs) = true := by
  show (decide ((rs.map rpD).length ≤ 8) && (rs.map rpD).all (isRep ws)) = true
  rw [Bool.and_eq_true, List.length_map, List.all_map, List.all_eq_true]
  exact ⟨decide_eq_true hl, fun r hr => isRep_rpD (h r hr)⟩
theorem wipe_three (e : Env) (i j k : Nat) : wipeE e [i, j, k] = ((e.set k .no).set j .no).set i .no := rfl
def rightB (ws : List Wn) (rs : List Rep) (os : List Nat) : Bool := rs.all fun r => decide (topOf ws os r.1 r.2.1 = some r.2.2)
section
variable {ws : List Wn} {rs : List Rep} (hw : ∀ w ∈ ws, w.ok) (hl : ws.length ≤ 6) (h : ∀ r ∈ rs, r.okR ws) (hr : rs.length ≤ 8)
include hw hl h hr
theorem check_reports_ok : r_check_reports.sem [wsD ws, rpsD rs] = .ok .non := by
  have b := have_reports_ok hl (rpsD rs) (okd_rps rs)
  rw [haveR_rps h hr] at b
  simp -implicitDefEqProofs [r_check_reports, ir_check_reports, runF_eq, b]
theorem check_pair_ok : r_check_pair.sem [wsD ws, rpsD rs] = .ok .non := by
  have a := check_windows_ok (wsD ws) (okd_wsD 6 ws)
  rw [areW_wsD hw hl] at a
  simp only [if_true] at a
  have b := check_reports_ok hw hl h hr
  simp -implicitDefEqProofs [r_check_pair, ir_check_pair, runF_eq, a, b]
theorem are_right_ok (os : List Nat) : r_are_right.sem [wsD ws, tuN os, rpsD rs] = .ok (.bl (rightB ws rs os)) := by
  have f : lcM (rs.map rpD) (itemL (phi [r_top_of, r_region_at]) [.val (wsD ws), .val (tuN os), .val (rpsD rs), .no, .no, .no] [3, 4, 5] (.tup [3, 4, 5]) .none (.cmp .Eq (.call 0 (.cons (.var 1) (.cons (.call 1 (.cons (.var 0) (.cons (.tup (.cons (.var 3) (.cons (.var 4) .nil))) .nil))) .nil))) (.var 5))) = .ok (rs.map fun r => .bl (decide (topOf ws os r.1 r.2.1 = some r.2.2))) := by
    refine lcM_mapI rpD _ fun r _ => ?_
    have a : r_region_at.sem [wsD ws, .tup [.int r.1, .int r.2.1]] = .ok (osD (regN ws r.1 r.2.1)) := region_at_ok ws r.1 r.2.1
    have t := top_of_ok os (regN ws r.1 r.2.1)
    rw [top_region] at t
    have t : r_top_of.sem [tuN os, osD (regN ws r.1 r.2.1)] = .ok (oD (topOf ws os r.1 r.2.1)) := t
    have e := oD_eq (topOf ws os r.1 r.2.1) r.2.2
    generalize osD (regN ws r.1 r.2.1) = rg at *
    generalize tuN os = to at *
    simp -implicitDefEqProofs [itemL, rpD, wipe_three, a, t, e]
  have al := all_bools (fun r : Rep => decide (topOf ws os r.1 r.2.1 = some r.2.2)) rs
  have sq : itS .seq [rpsD rs] = .ok (rs.map rpD) := rfl
  unfold rightB
  generalize (rs.all fun r => decide (topOf ws os r.1 r.2.1 = some r.2.2)) = ra at *
  generalize rs.map (fun r : Rep => (.bl (decide (topOf ws os r.1 r.2.1 = some r.2.2)) : D)) = rb at *
  generalize rs.map rpD = rm at *
  generalize rpsD rs = rd at *
  generalize tuN os = to at *
  simp -implicitDefEqProofs [r_are_right, ir_are_right, runF_eq, sq, f, al]
theorem explains_ok {os : List Nat} (ho : os.Perm (List.range ws.length)) : r_explains.sem [wsD ws, tuN os, rpsD rs] = .ok (.bl (rightB ws rs os)) := by
  have a : r_check_both.sem [wsD ws, tuN os] = .ok .non := check_both_ok hw hl ho
  have b := check_reports_ok hw hl h hr
  have c := are_right_ok hw hl h hr os
  generalize rpsD rs = rd at *
  generalize tuN os = to at *
  generalize rightB ws rs os = rb at *
  simp -implicitDefEqProofs [r_explains, ir_explains, runF_eq, a, b, c]
end
theorem all_orders_ok : ∀ {n : Nat}, n ≤ 4 → r_all_orders.sem [.int n] = .ok (.lst ((allO n n).map tuN))
  | 0, _ => by kernel_rfl
  | 1, _ => by kernel_rfl
  | 2, _ => by kernel_rfl
  | 3, _ => by kernel_rfl
  | 4, _ => by kernel_rfl
  | n + 5, h => by omega
def expN (ws : List Wn) (rs : List Rep) : List (List Nat) := (allO ws.length ws.length).filter (rightB ws rs)
section
variable {ws : List Wn} {rs : List Rep} (hw : ∀ w ∈ ws, w.ok) (hl : ws.length ≤ 4) (h : ∀ r ∈ rs, r.okR ws) (hr : rs.length ≤ 8)
include hw hl h hr
theorem find_explaining_ok : r_find_explaining.sem [wsD ws, rpsD rs] = .ok (.lst ((expN ws rs).map tuN)) := by
  have lw := len_wsD ws
  have lo := all_orders_ok hl
  have f : lcM ((allO ws.length ws.length).map tuN) (itemL (phi [r_all_orders, r_are_right]) [.val (wsD ws), .val (rpsD rs), .no] [2] (.name 2) (.some (.call 1 (.cons (.var 0) (.cons (.var 2) (.cons (.var 1) .nil))))) (.var 2)) = .ok ((expN ws rs).map tuN) := by
    refine lcM_filterI tuN (rightB ws rs) tuN fun os _ => ?_
    have c := are_right_ok hw (by omega) h hr os
    generalize rpsD rs = rd at *
    generalize tuN os = to at *
    cases hb : rightB ws rs os <;> rw [hb] at c <;> simp -implicitDefEqProofs [itemL, c]
  generalize (allO ws.length ws.length).map tuN = a0 at *
  generalize (expN ws rs).map tuN = a1 at *
  generalize rpsD rs = rd at *
  simp -implicitDefEqProofs [r_find_explaining, ir_find_explaining, runF_eq, lw, lo, f]
theorem count_explaining_ok : r_count_explaining.sem [wsD ws, rpsD rs] = .ok (.int (expN ws rs).length) := by
  have a := check_pair_ok hw (by omega) h hr
  have b := find_explaining_ok hw hl h hr
  have e : ((expN ws rs).map tuN).length = (expN ws rs).length := List.length_map ..
  generalize (expN ws rs).map tuN = a1 at *
  generalize (expN ws rs).length = n1 at *
  generalize rpsD rs = rd at *
  simp -implicitDefEqProofs [r_count_explaining, ir_count_explaining, runF_eq, a, b, e]
theorem explaining_ok : r_explaining.sem [wsD ws, rpsD rs] = .ok (optT (expN ws rs).head?) := by
  have a := check_pair_ok hw (by omega) h hr
  have b := find_explaining_ok hw hl h hr
  cases q : expN ws rs with
  | nil =>
    rw [q, List.map_nil] at b
    have ne : cmpS .NotEq (.lst []) (.lst []) = .ok false := rfl
    generalize rpsD rs = rd at *
    simp -implicitDefEqProofs [r_explaining, ir_explaining, runF_eq, a, b, ne, optT]
  | cons g l =>
    rw [q, List.map_cons] at b
    have ok : okd 8 (.lst (tuN g :: l.map tuN)) = true := by simp [okd, tuN, iN]
    have ne : cmpS .NotEq (.lst (tuN g :: l.map tuN)) (.lst []) = .ok true := ne_lst (ys := []) ok (by simp [okd])
    have ix : ixS (.lst (tuN g :: l.map tuN)) (.int 0) = .ok (tuN g) := by
      have q : ixS (.lst (tuN g :: l.map tuN)) (.int 0) = match atI (tuN g :: l.map tuN) 0 with | some d => .ok d | none => .bad := rfl
      have e : atI (tuN g :: l.map tuN) 0 = some (tuN g) := by
        unfold atI ixN
        rw [if_pos (by omega), if_pos (by rw [List.length_cons]; omega)]
        rfl
      rw [q, e]
    show _ = R.ok (tuN g)
    generalize l.map tuN = lt at *
    generalize tuN g = tg at *
    generalize rpsD rs = rd at *
    simp -implicitDefEqProofs [r_explaining, ir_explaining, runF_eq, a, b, ne, ix]
end
end Pan

/-! Panestacks, part K20: needed_above. -/
namespace Pan
open PySem L2
def prD (p : Nat × Nat) : D := .tup [.int (p.1 : Nat), .int (p.2 : Nat)]
def kvP (p : Nat × Nat) : D × D := (prD p, .bl true)
theorem eqv_prD (p q : Nat × Nat) : eqv (prD p) (prD q) = decide (p = q) := by
  obtain ⟨a, b⟩ := p
  obtain ⟨c, d⟩ := q
  show (((a : Int) == c) && (((b : Int) == d) && true)) = _
  rw [Bool.eq_iff_iff]
  simp
  omega
def addP (ks : List (Nat × Nat)) (p : Nat × Nat) : List (Nat × Nat) := if p ∈ ks then ks else ks ++ [p]
theorem dput_P (ks : List (Nat × Nat)) (p : Nat × Nat) : dput (prD p) (.bl true) (ks.map kvP) = (addP ks p).map kvP := by
  unfold dput addP
  have e : ((ks.map kvP).any fun q => eqv q.1 (prD p)) = decide (p ∈ ks) := by
    rw [List.any_map, Bool.eq_iff_iff, List.any_eq_true, decide_eq_true_eq]
    simp only [Function.comp_apply, kvP, eqv_prD, decide_eq_true_eq]
    constructor
    · rintro ⟨q, hq, rfl⟩; exact hq
    · intro h; exact ⟨p, h, rfl⟩
  rw [e]
  by_cases h : p ∈ ks
  · rw [decide_eq_true h, if_pos rfl, if_pos h, List.map_map]
    refine List.map_congr_left fun q _ => ?_
    show (if eqv (prD q) (prD p) = true then (prD q, D.bl true) else (prD q, D.bl true)) = (prD q, D.bl true)
    exact ite_self _
  · rw [decide_eq_false h, if_neg (by simp), if_neg h, List.map_append]
    rfl
theorem addP_mem {ks : List (Nat × Nat)} {p q : Nat × Nat} : q ∈ addP ks p ↔ q ∈ ks ∨ q = p := by
  unfold addP
  split
  · constructor
    · exact .inl
    · rintro (h | rfl) <;> assumption
  · simp
theorem addP_nodup {ks : List (Nat × Nat)} {p : Nat × Nat} (h : ks.Nodup) : (addP ks p).Nodup := by
  unfold addP
  split
  · exact h
  · rename_i hp
    rw [List.nodup_append]
    refine ⟨h, by simp, fun a ha b hb => ?_⟩
    simp at hb
    subst hb
    intro e; subst e; exact hp ha
theorem addP_len (ks : List (Nat × Nat)) (p : Nat × Nat) : (addP ks p).length ≤ ks.length + 1 := by
  unfold addP
  split
  · omega
  · rw [List.length_append, List.length_singleton]; omega
abbrev abB : Ss := .cons (.ife (.cmp .NotEq (.var 6) (.var 5)) (.cons (.put 2 (.tup (.cons (.var 5) (.cons (.var 6) .nil))) (.lit (.bl true))) .nil) .nil) .nil
abbrev abA : Ss := .cons (.for_ (.name 6) .seq (.cons (.call 0 (.cons (.var 0) (.cons (.tup (.cons (.var 3) (.cons (.var 4) .nil))) .nil))) .nil) abB) .nil
theorem put_P (Φ : Nat → List D → R D) (ks : List (Nat × Nat)) (o b : Nat) (s0 s1 s3 s4 : Slot) (hl : ks.length ≤ 1000) : xs Φ (.put 2 (.tup (.cons (.var 5) (.cons (.var 6) .nil))) (.lit (.bl true))) [s0, s1, .own (.dic true (ks.map kvP)), s3, s4, .val (.int o), .val (.int b)] = .ok (.nx [s0, s1, .own (.dic true ((addP ks (o, b)).map kvP)), s3, s4, .val (.int o), .val (.int b)]) := by
  have q : xs Φ (.put 2 (.tup (.cons (.var 5) (.cons (.var 6) .nil))) (.lit (.bl true))) [s0, s1, .own (.dic true (ks.map kvP)), s3, s4, .val (.int o), .val (.int b)] = lift (ev Φ (.tup (.cons (.var 5) (.cons (.var 6) .nil))) [s0, s1, .own (.dic true (ks.map kvP)), s3, s4, .val (.int o), .val (.int b)]) [s0, s1, .own (.dic true (ks.map kvP)), s3, s4, .val (.int o), .val (.int b)] fun dk => if keyOf true dk && decide ((ks.map kvP).length < sizeLine) then .ok (.nx [s0, s1, .own (.dic true (dput dk (.bl true) (ks.map kvP))), s3, s4, .val (.int o), .val (.int b)]) else .bad := rfl
  have k : ev Φ (.tup (.cons (.var 5) (.cons (.var 6) .nil))) [s0, s1, .own (.dic true (ks.map kvP)), s3, s4, .val (.int o), .val (.int b)] = .ok (prD (o, b)) := by
    simp -implicitDefEqProofs [prD]
  have e : (keyOf true (prD (o, b)) && decide ((ks.map kvP).length < sizeLine)) = true := by
    rw [Bool.and_eq_true]
    refine ⟨rfl, decide_eq_true ?_⟩
    rw [List.length_map]
    exact Nat.lt_of_le_of_lt hl (by decide)
  rw [q, k, lift_ok, if_pos e, dput_P]
theorem ab_inner (Φ : Nat → List D → R D) (o : Nat) (s0 s1 s3 s4 : Slot) : ∀ (bs : List Nat) (ks : List (Nat × Nat)) (s6 : Slot), ks.length + bs.length ≤ 900 → ks.Nodup → ∃ (ks' : List (Nat × Nat)) (t6 : Slot), forM (turnF Φ (.name 6) abB) (iN bs) [s0, s1, .own (.dic true (ks.map kvP)), s3, s4, .val (.int o), s6] = .ok (.nx [s0, s1, .own (.dic true (ks'.map kvP)), s3, s4, .val (.int o), t6]) ∧ ks'.Nodup ∧ ks'.length ≤ ks.length + bs.length ∧ ∀ p, p ∈ ks' ↔ p ∈ ks ∨ (p.1 = o ∧ p.2 ∈ bs ∧ p.2 ≠ o)
  | [], ks, s6, _, hn => ⟨ks, s6, rfl, hn, by simp, fun p => by simp⟩
  | b :: bs, ks, s6, hl, hn => by
    rw [List.length_cons] at hl
    have pn := put_P Φ ks o b s0 s1 s3 s4 (by omega)
    have st : turnF Φ (.name 6) abB (.int b) [s0, s1, .own (.dic true (ks.map kvP)), s3, s4, .val (.int o), s6] = .ok (.nx [s0, s1, .own (.dic true ((if b = o then ks else addP ks (o, b)).map kvP)), s3, s4, .val (.int o), .val (.int b)]) := by
      unfold turnF
      by_cases q : b = o
      · subst q
        rw [if_pos rfl]
        simp -implicitDefEqProofs [abB]
      · rw [if_neg q]
        have b2 : ((b : Int) == o) = false := by simp; omega
        simp -implicitDefEqProofs only [abB, asgG_name, lift_ok, List.set_cons_succ, List.set_cons_zero, xss_cons, xss_nil, xs_ife, ev_cmp, ev_var, getV_zero, getV_succ, bind_ok, ne_int, b2, Bool.not_false, stpI_t, pn, andThen_nx]
    have hn1 : (if b = o then ks else addP ks (o, b)).Nodup := by split; exact hn; exact addP_nodup hn
    have hl1 : (if b = o then ks else addP ks (o, b)).length ≤ ks.length + 1 := by
      split
      · omega
      · exact addP_len ks _
    obtain ⟨ks', t6, q, n', l', m'⟩ := ab_inner Φ o s0 s1 s3 s4 bs (if b = o then ks else addP ks (o, b)) (.val (.int b)) (by omega) hn1
    refine ⟨ks', t6, ?_, n', by rw [List.length_cons]; omega, fun p => ?_⟩
    · show andThen (turnF _ _ _ _ _) _ = _
      rw [st]
      exact q
    · rw [m', List.mem_cons]
      by_cases e : b = o
      · rw [if_pos e]
        constructor
        · rintro (z | ⟨z1, z2, z3⟩)
          · exact .inl z
          · exact .inr ⟨z1, .inr z2, z3⟩
        · rintro (z | ⟨z1, z2 | z2, z3⟩)
          · exact .inl z
          · exact absurd (z2.trans e) z3
          · exact .inr ⟨z1, z2, z3⟩
      · rw [if_neg e, addP_mem]
        constructor
        · rintro ((z | z) | ⟨z1, z2, z3⟩)
          · exact .inl z
          · rw [z]; exact .inr ⟨rfl, .inl rfl, e⟩
          · exact .inr ⟨z1, .inr z2, z3⟩
        · rintro (z | ⟨z1, z2 | z2, z3⟩)
          · exact .inl (.inl z)
          · exact .inl (.inr (Prod.ext z1 z2))
          · exact .inr ⟨z1, z2, z3⟩
/-- which must be above which -/
def abvB (ws : List Wn) (rs : List Rep) (p : Nat × Nat) : Bool := rs.any fun r => decide (p.1 = r.2.2) && (decide (p.2 ≠ r.2.2) && hasAt ws r.1 r.2.1 p.2)
theorem abvB_iff {ws : List Wn} {rs : List Rep} {p : Nat × Nat} : abvB ws rs p = true ↔ ∃ r ∈ rs, p.1 = r.2.2 ∧ p.2 ≠ r.2.2 ∧ hasAt ws r.1 r.2.1 p.2 = true := by
  unfold abvB
  simp only [List.any_eq_true, Bool.and_eq_true, decide_eq_true_eq]
theorem reg_len (ws : List Wn) (x y : Int) : (regN ws x y).length ≤ ws.length := by
  unfold regN
  rw [List.length_map]
  have := List.length_filter_le (fun p : Wn × Nat => p.1.has x y) ws.zipIdx
  rw [List.length_zipIdx] at this
  exact this
theorem ab_outer {ws : List Wn} (hl : ws.length ≤ 6) (s1 : Slot) : ∀ (rs : List Rep) (ks : List (Nat × Nat)) (s3 s4 s5 s6 : Slot), ks.length + 6 * rs.length ≤ 900 → ks.Nodup → ∃ (ks' : List (Nat × Nat)) (t3 t4 t5 t6 : Slot), forM (turnF (phi [r_region_at]) (.tup [3, 4, 5]) abA) (rs.map rpD) [.val (wsD ws), s1, .own (.dic true (ks.map kvP)), s3, s4, s5, s6] = .ok (.nx [.val (wsD ws), s1, .own (.dic true (ks'.map kvP)), t3, t4, t5, t6]) ∧ ks'.Nodup ∧ ∀ p, p ∈ ks' ↔ p ∈ ks ∨ abvB ws rs p = true
  | [], ks, s3, s4, s5, s6, _, hn => ⟨ks, s3, s4, s5, s6, rfl, hn, fun p => by simp [abvB]⟩
  | r :: rs, ks, s3, s4, s5, s6, hk, hn => by
    rw [List.length_cons] at hk
    have rl := reg_len ws r.1 r.2.1
    have a : r_region_at.sem [wsD ws, .tup [.int r.1, .int r.2.1]] = .ok (.tup (iN (regN ws r.1 r.2.1))) := region_at_ok ws r.1 r.2.1
    obtain ⟨k1, t6, q1, n1, l1, m1⟩ := ab_inner (phi [r_region_at]) r.2.2 (.val (wsD ws)) s1 (.val (.int r.1)) (.val (.int r.2.1)) (regN ws r.1 r.2.1) ks s6 (by omega) hn
    obtain ⟨ks', u3, u4, u5, u6, q, n', m'⟩ := ab_outer hl s1 rs k1 (.val (.int r.1)) (.val (.int r.2.1)) (.val (.int r.2.2)) t6 (by omega) n1
    refine ⟨ks', u3, u4, u5, u6, ?_, n', fun p => ?_⟩
    · rw [List.map_cons]
      show andThen (turnF _ _ _ _ _) _ = _
      have st : turnF (phi [r_region_at]) (.tup [3, 4, 5]) abA (rpD r) [.val (wsD ws), s1, .own (.dic true (ks.map kvP)), s3, s4, s5, s6] = .ok (.nx [.val (wsD ws), s1, .own (.dic true (k1.map kvP)), .val (.int r.1), .val (.int r.2.1), .val (.int r.2.2), t6]) := by
        generalize iN (regN ws r.1 r.2.1) = ir at *
        unfold turnF rpD
        rw [asgG_tup3, lift_ok, xss_cons, xs_for]
        simp -implicitDefEqProofs [a, q1]
      rw [st]
      exact q
    · rw [m', m1]
      unfold abvB
      rw [List.any_cons, Bool.or_eq_true, Bool.and_eq_true, Bool.and_eq_true, decide_eq_true_eq, decide_eq_true_eq, mem_regN, or_assoc]
      constructor
      · rintro (z | ⟨z1, z2, z3⟩ | z)
        · exact .inl z
        · exact .inr (.inl ⟨z1, z3, z2⟩)
        · exact .inr (.inr z)
      · rintro (z | ⟨z1, z2, z3⟩ | z)
        · exact .inl z
        · exact .inr (.inl ⟨z1, z3, z2⟩)
        · exact .inr (.inr z)
end Pan

/-! Panestacks, part K21: needed_above, sorted. -/
namespace Pan
open PySem L2
def pairsN (n : Nat) : List (Nat × Nat) := (List.range n).flatMap fun a => (List.range n).map fun b => (a, b)
theorem mem_pairs {n : Nat} {p : Nat × Nat} : p ∈ pairsN n ↔ p.1 < n ∧ p.2 < n := by
  obtain ⟨a, b⟩ := p
  unfold pairsN
  simp only [List.mem_flatMap, List.mem_map, List.mem_range, Prod.mk.injEq]
  constructor
  · rintro ⟨x, hx, y, hy, rfl, rfl⟩; exact ⟨hx, hy⟩
  · rintro ⟨hx, hy⟩; exact ⟨a, hx, b, hy, rfl, rfl⟩
def pLt (p q : Nat × Nat) : Prop := p.1 < q.1 ∨ (p.1 = q.1 ∧ p.2 < q.2)
theorem pairs_lt (n : Nat) : (pairsN n).Pairwise pLt := by
  unfold pairsN
  have key : ∀ l : List Nat, l.Pairwise (· < ·) → (l.flatMap fun a => (List.range n).map fun b => (a, b)).Pairwise pLt := fun l => by
    induction l with
    | nil => intro _; exact List.Pairwise.nil
    | cons a l ih =>
      intro h
      rw [List.pairwise_cons] at h
      rw [List.flatMap_cons, List.pairwise_append]
      refine ⟨?_, ih h.2, fun p hp q hq => ?_⟩
      · rw [List.pairwise_map]
        exact List.pairwise_lt_range.imp fun z => .inr ⟨rfl, z⟩
      · obtain ⟨b, _, rfl⟩ := List.mem_map.mp hp
        obtain ⟨x, hx, hq⟩ := List.mem_flatMap.mp hq
        obtain ⟨y, _, rfl⟩ := List.mem_map.mp hq
        exact .inl (h.1 x hx)
  exact key _ List.pairwise_lt_range
theorem pairs_nodup (n : Nat) : (pairsN n).Nodup := (pairs_lt n).imp fun {p q} h e => by
  subst e
  rcases h with h | ⟨_, h⟩ <;> omega
theorem srt_pairs {l : List (Nat × Nat)} (h : l.Pairwise pLt) : SrtO.Srtd ltD (l.map prD) := by
  unfold SrtO.Srtd
  rw [List.pairwise_map]
  refine h.imp ?_
  rintro ⟨a, b⟩ ⟨c, d⟩ q
  show HT.lexLt [(c : Int), (d : Int)] [(a : Int), (b : Int)] = false
  rcases q with q | ⟨q1, q2⟩
  · have q : a < c := q
    rw [HT.lexLt_cons, if_neg (by omega)]
    exact decide_eq_false (by omega)
  · have q1 : a = c := q1
    have q2 : b < d := q2
    rw [HT.lexLt_cons, if_pos (by omega), HT.lexLt_cons, if_neg (by omega)]
    exact decide_eq_false (by omega)
theorem sortable_pr (l : List (Nat × Nat)) : sortable (l.map prD) = true := by
  unfold sortable
  rw [Bool.or_eq_true]
  right
  rw [Bool.or_eq_true]
  left
  rw [List.all_map, List.all_eq_true]
  intro p _
  rfl
theorem sortS_pr (l : List (Nat × Nat)) : sortS (l.map prD) = .ok (.lst (sortD (l.map prD))) := by
  unfold sortS
  rw [if_pos (sortable_pr l)]
/-- sorted pairs, each once -/
theorem sortD_pairs {n : Nat} {ks : List (Nat × Nat)} {f : Nat × Nat → Bool} (hn : ks.Nodup) (hk : ∀ p, p ∈ ks ↔ (p.1 < n ∧ p.2 < n) ∧ f p = true) : sortD (ks.map prD) = ((pairsN n).filter f).map prD := by
  refine (sortD_uniq (sortable_pr ks) ?_ (srt_pairs ((pairs_lt n).filter _))).symm
  refine List.Perm.map _ ?_
  rw [List.perm_ext_iff_of_nodup ((pairs_nodup n).filter _) hn]
  intro p
  rw [hk, List.mem_filter, mem_pairs]
def abN (ws : List Wn) (rs : List Rep) : List (Nat × Nat) := (pairsN ws.length).filter (abvB ws rs)
theorem abv_lt {ws : List Wn} {rs : List Rep} (h : ∀ r ∈ rs, r.okR ws) {p : Nat × Nat} (hp : abvB ws rs p = true) : p.1 < ws.length ∧ p.2 < ws.length := by
  obtain ⟨r, hr, h1, _, h3⟩ := abvB_iff.mp hp
  refine ⟨by rw [h1]; exact (h r hr).2.2.1, ?_⟩
  unfold hasAt at h3
  cases q : ws[p.2]? with
  | none => rw [q] at h3; cases h3
  | some w => exact (List.getElem?_eq_some_iff.mp q).1
section
variable {ws : List Wn} {rs : List Rep} (hw : ∀ w ∈ ws, w.ok) (hl : ws.length ≤ 6) (h : ∀ r ∈ rs, r.okR ws) (hr : rs.length ≤ 8)
include hw hl h hr
theorem find_above_ok : r_find_above.sem [wsD ws, rpsD rs] = .ok (.lst ((abN ws rs).map prD)) := by
  obtain ⟨ks, t3, t4, t5, t6, q, n, m⟩ := ab_outer hl (.val (rpsD rs)) rs [] .no .no .no .no (by simp; omega) List.nodup_nil
  rw [List.map_nil] at q
  have sq : itS .seq [rpsD rs] = .ok (rs.map rpD) := rfl
  have so : biS .sorted [.dic true (ks.map kvP)] = .ok (.lst ((abN ws rs).map prD)) := by
    have e : biS .sorted [.dic true (ks.map kvP)] = sortS ((ks.map kvP).map (·.1)) := rfl
    rw [e, List.map_map]
    show sortS (ks.map prD) = _
    rw [sortS_pr, sortD_pairs (n := ws.length) (f := abvB ws rs) n fun p => ?_]
    · rfl
    · rw [m]
      constructor
      · rintro (z | z)
        · cases z
        · exact ⟨abv_lt h z, z⟩
      · exact fun z => .inr z.2
  generalize (abN ws rs).map prD = ab at *
  generalize ks.map kvP = kk at *
  generalize rs.map rpD = rm at *
  generalize rpsD rs = rd at *
  simp -implicitDefEqProofs [r_find_above, ir_find_above, runF_eq, sq, q, so]
theorem needed_above_ok : r_needed_above.sem [wsD ws, rpsD rs] = .ok (.lst ((abN ws rs).map prD)) := by
  have a := check_pair_ok hw hl h hr
  have b := find_above_ok hw hl h hr
  generalize (abN ws rs).map prD = ab at *
  generalize rpsD rs = rd at *
  simp -implicitDefEqProofs [r_needed_above, ir_needed_above, runF_eq, a, b]
end
end Pan

/-! Panestacks, part K22: ways along pairs: plain laws for circle. -/
namespace Pan
open PySem L2
theorem filt_flat {α β : Type} (p : β → Bool) (f : α → List β) : ∀ l : List α, (l.flatMap f).filter p = l.flatMap fun x => (f x).filter p
  | [] => rfl
  | a :: l => by rw [List.flatMap_cons, List.flatMap_cons, List.filter_append, filt_flat p f l]
theorem flat_none {β : Type} (l : Nat) (X : List β) : ∀ R : List Nat, l ∉ R → (R.flatMap fun a => if a = l then X else []) = []
  | [], _ => rfl
  | a :: R, h => by
    rw [List.mem_cons, not_or] at h
    rw [List.flatMap_cons, if_neg (fun e => h.1 e.symm), flat_none l X R h.2]
    rfl
theorem flat_one {β : Type} {l : Nat} (X : List β) : ∀ {R : List Nat}, R.Nodup → l ∈ R → (R.flatMap fun a => if a = l then X else []) = X
  | [], _, h => by cases h
  | a :: R, hn, h => by
    rw [List.nodup_cons] at hn
    rw [List.flatMap_cons]
    by_cases e : a = l
    · rw [if_pos e, flat_none l X R (by rw [← e]; exact hn.1), List.append_nil]
    · rw [if_neg e, List.nil_append]
      exact flat_one X hn.2 (by
        rcases List.mem_cons.mp h with q | q
        · exact absurd q.symm e
        · exact q)
theorem pairs_at {n l : Nat} (hl : l < n) (g : Nat × Nat → Bool) : (pairsN n).filter (fun p => decide (p.1 = l) && g p) = ((List.range n).filter fun x => g (l, x)).map fun x => (l, x) := by
  unfold pairsN
  rw [filt_flat]
  have e : (fun a : Nat => ((List.range n).map fun b => (a, b)).filter fun p => decide (p.1 = l) && g p) = fun a => if a = l then ((List.range n).filter fun x => g (l, x)).map (fun x => (l, x)) else [] := by
    funext a
    by_cases q : a = l
    · subst q
      rw [if_pos rfl, List.filter_map]
      congr 1
      refine List.filter_congr fun x _ => ?_
      simp
    · rw [if_neg q, List.filter_eq_nil_iff]
      intro p hp
      obtain ⟨b, _, rfl⟩ := List.mem_map.mp hp
      simp [q]
  rw [e]
  exact flat_one _ List.nodup_range (List.mem_range.mpr hl)
/-- one goes along the pairs -/
def chB (f : Nat × Nat → Bool) : List Nat → Bool
  | a :: b :: r => f (a, b) && chB f (b :: r)
  | _ => true
theorem chB_snoc (f : Nat × Nat → Bool) (x : Nat) : ∀ {w : List Nat} {l : Nat}, w.getLast? = some l → chB f (w ++ [x]) = (chB f w && f (l, x))
  | [], l, h => by cases h
  | [a], l, h => by
    have : a = l := by simpa using h
    subst this
    simp [chB]
  | a :: b :: r, l, h => by
    have h' : (b :: r).getLast? = some l := by simpa using h
    have ih := chB_snoc f x h'
    show (f (a, b) && chB f ((b :: r) ++ [x])) = (f (a, b) && chB f (b :: r) && f (l, x))
    rw [ih, Bool.and_assoc]
def wayN (n : Nat) (f : Nat × Nat → Bool) (k : Nat) : List (List Nat) := (allO n k).filter (chB f)
/-- one step of the program's ways -/
theorem way_step {n : Nat} (f : Nat × Nat → Bool) {k : Nat} (hk : 0 < k) : wayN n f (k + 1) = (wayN n f k).flatMap fun w => (((pairsN n).filter f).filter fun p => decide (p.1 = w.getLast?.getD 0) && notB w p.2).map fun p => w ++ [p.2] := by
  unfold wayN
  have e0 : allO n (k + 1) = (allO n k).flatMap fun o => ((List.range n).filter (notB o)).map fun x => o ++ [x] := rfl
  rw [e0, filt_flat]
  have key : ∀ L : List (List Nat), (∀ o ∈ L, o ∈ allO n k) → (L.flatMap fun o => (((List.range n).filter (notB o)).map fun x => o ++ [x]).filter (chB f)) = (L.filter (chB f)).flatMap fun w => (((pairsN n).filter f).filter fun p => decide (p.1 = w.getLast?.getD 0) && notB w p.2).map fun p => w ++ [p.2] := fun L => by
    induction L with
    | nil => intro _; rfl
    | cons w L ih =>
      intro hm
      have ih := ih fun o ho => hm o (List.mem_cons_of_mem _ ho)
      obtain ⟨n1, n2, n3⟩ := mem_allO.mp (hm w List.mem_cons_self)
      obtain ⟨l, hl⟩ : ∃ l, w.getLast? = some l := by
        cases q : w.getLast? with
        | none => rw [List.getLast?_eq_none_iff.mp q] at n2; simp at n2; omega
        | some l => exact ⟨l, rfl⟩
      have ln : l < n := n3 l (List.mem_of_getLast? hl)
      rw [List.flatMap_cons, ih, List.filter_map]
      have c : (chB f ∘ fun x => w ++ [x]) = fun x => chB f w && f (l, x) := by
        funext x
        exact chB_snoc f x hl
      rw [c]
      cases q : chB f w with
      | false =>
        rw [List.filter_cons_of_neg (by rw [q]; decide)]
        have : ((List.range n).filter (notB w)).filter (fun x => false && f (l, x)) = [] := by
          rw [List.filter_eq_nil_iff]
          intro x _
          simp
        rw [this]
        rfl
      | true =>
        rw [List.filter_cons_of_pos q, List.flatMap_cons]
        congr 1
        rw [hl, Option.getD_some, List.filter_filter, List.filter_filter]
        have e : (fun a : Nat × Nat => decide (a.1 = l) && notB w a.2 && f a) = fun p => decide (p.1 = l) && (notB w p.2 && f p) := by
          funext p
          rw [Bool.and_assoc]
        rw [e, pairs_at ln, List.map_map]
        have e2 : (fun a => (true && f (l, a)) && notB w a) = fun x => notB w x && f (l, x) := by
          funext x
          rw [Bool.true_and, Bool.and_comm]
        rw [e2]
        rfl
  exact key _ fun o ho => ho
end Pan

/-! Panestacks, part K23: circle. -/
namespace Pan
open PySem L2
/-- the way closes -/
def clB (f : Nat × Nat → Bool) (w : List Nat) : Bool := f (w.getLast?.getD 0, w.head?.getD 0)
def Γc : List FnR := [r_check_pair, r_find_above]
def ciB : Ss := bodyF (nthS ir_circle 3)
def ciC : E := .cmp .In (.tup (.cons (.ix (.var 7) (.neg (.lit (.int (1))))) (.cons (.ix (.var 7) (.lit (.int (0)))) .nil))) (.var 2)
theorem in_prD {n : Nat} (f : Nat × Nat → Bool) {p : Nat × Nat} (h1 : p.1 < n) (h2 : p.2 < n) : cmpS .In (prD p) (.lst (((pairsN n).filter f).map prD)) = .ok (f p) := by
  have q : cmpS .In (prD p) (.lst (((pairsN n).filter f).map prD)) = if okd 8 (prD p) && (((pairsN n).filter f).map prD).all (okd 8) then .ok ((((pairsN n).filter f).map prD).any (eqv · (prD p))) else .bad := rfl
  have e : ((((pairsN n).filter f).map prD).any (eqv · (prD p))) = f p := by
    rw [List.any_map, Bool.eq_iff_iff, List.any_eq_true]
    simp only [Function.comp_apply, eqv_prD, decide_eq_true_eq]
    constructor
    · rintro ⟨x, hx, rfl⟩; exact (List.mem_filter.mp hx).2
    · intro z; exact ⟨p, List.mem_filter.mpr ⟨mem_pairs.mpr ⟨h1, h2⟩, z⟩, rfl⟩
  rw [q, if_pos (by simp [okd, prD]), e]
theorem ends {n k : Nat} (hk : 0 < k) {w : List Nat} (hm : w ∈ allO n k) : ∃ l a : Nat, l < n ∧ a < n ∧ w.getLast? = some l ∧ w.head? = some a ∧ ixS (tuN w) (.int (-1)) = .ok (.int l) ∧ ixS (tuN w) (.int 0) = .ok (.int a) := by
  obtain ⟨n1, n2, n3⟩ := mem_allO.mp hm
  rcases List.eq_nil_or_concat w with e | ⟨r, l, e⟩
  · rw [e] at n2; simp at n2; omega
  · rw [List.concat_eq_append] at e
    cases q : w with
    | nil => rw [q] at n2; simp at n2; omega
    | cons a t =>
      refine ⟨l, a, n3 l (by rw [e]; simp), n3 a (by rw [q]; simp), ?_, rfl, ?_, ?_⟩
      · rw [← q, e]; simp
      · rw [← q, e]
        have z : ∀ xs : List D, ixS (.tup xs) (.int (-1)) = ixS (.lst xs) (.int (-1)) := fun _ => rfl
        unfold tuN
        rw [z]
        unfold iN
        rw [List.map_append]
        exact last_lst _ _
      · have z : ixS (tuN (a :: t)) (.int 0) = match atI (iN (a :: t)) 0 with | some d => .ok d | none => .bad := rfl
        have e : atI (iN (a :: t)) 0 = some (.int a) := by
          unfold atI ixN
          rw [if_pos (by omega), if_pos (by rw [iN_len, List.length_cons]; omega)]
          rfl
        rw [z, e]
theorem ci_closed {n : Nat} (f : Nat × Nat → Bool) {k : Nat} (hk : 0 < k) (s0 s1 s3 s4 s5 s6 s7 s8 s9 : Slot) : lcM ((wayN n f k).map tuN) (itemL (phi Γc) [s0, s1, .val (.lst (((pairsN n).filter f).map prD)), s3, s4, s5, s6, s7, s8, s9] [7] (.name 7) (.some ciC) (.var 7)) = .ok (((wayN n f k).filter (clB f)).map tuN) := by
  refine lcM_filterI tuN (clB f) tuN fun w hw => ?_
  obtain ⟨l, a, hl, ha, e1, e2, x1, x2⟩ := ends hk (List.mem_filter.mp hw).1
  have i := in_prD f (p := (l, a)) hl ha
  have e : clB f w = f (l, a) := by unfold clB; rw [e1, e2]; rfl
  rw [← e] at i
  have ev1 : ev (phi Γc) ciC [s0, s1, .val (.lst (((pairsN n).filter f).map prD)), s3, s4, s5, s6, .val (tuN w), s8, s9] = .ok (.bl (clB f w)) := by
    unfold ciC
    have i' : cmpS .In (.tup [.int l, .int a]) (.lst (((pairsN n).filter f).map prD)) = .ok (clB f w) := i
    generalize ((pairsN n).filter f).map prD = pm at *
    generalize tuN w = tw at *
    simp -implicitDefEqProofs only [ev_cmp, ev_tup, evs_cons, evs_nil, ev_ix, ev_neg, ev_lit, ev_var, asI_int, getV_zero, getV_succ, bind_ok, x1, x2, fit_2, i']
  unfold itemL
  simp -implicitDefEqProofs only [wipe_one, List.set_cons_succ, List.set_cons_zero, asgG_name, bind_ok, evT_some, ev1, asB_bl, ev_var, getV_zero, getV_succ]
  cases clB f w <;> rfl
def ciS : E := .lc2 [7, 8, 9] (.name 7) .seq (.cons (.var 3) .nil) .none [8, 9] (.tup [8, 9]) .seq (.cons (.var 2) .nil) (.some (.and (.cons (.cmp .Eq (.var 8) (.ix (.var 7) (.neg (.lit (.int (1)))))) (.cons (.cmp .NotIn (.var 9) (.var 7)) .nil)))) (.bin .Add (.var 7) (.tup (.cons (.var 9) .nil)))
theorem allO_len2 : ∀ n, n ≤ 4 → ∀ k, k ≤ n + 1 → (allO n k).length ≤ 24 := by decide +kernel
theorem wayN_len {n : Nat} (hn : n ≤ 4) (f : Nat × Nat → Bool) {k : Nat} (hk : k ≤ n) : (wayN n f k).length ≤ 24 := Nat.le_trans (List.length_filter_le _ _) (allO_len n hn k hk)
theorem ci_step {n : Nat} (hn : n ≤ 4) (f : Nat × Nat → Bool) {k : Nat} (hk : 0 < k) (hkn : k ≤ n) (s0 s1 s4 s5 s6 s7 s8 s9 : Slot) : ev (phi Γc) ciS [s0, s1, .val (.lst (((pairsN n).filter f).map prD)), .val (.lst ((wayN n f k).map tuN)), s4, s5, s6, s7, s8, s9] = .ok (.lst ((wayN n f (k + 1)).map tuN)) := by
  unfold ciS
  rw [ev_lc2]
  simp -implicitDefEqProofs only [evs_cons, evs_nil, ev_var, getV_zero, getV_succ, bind_ok, seq_lst]
  rw [lcM_flatI tuN (fun w => ((((pairsN n).filter f).filter fun p => decide (p.1 = w.getLast?.getD 0) && notB w p.2).map fun p => w ++ [p.2]).map tuN)]
  · rw [calm_ok, bind_ok, ← map_flatMap', ← way_step f hk]
    refine fit_le ?_
    rw [List.length_map]
    have := Nat.le_trans (List.length_filter_le (chB f) (allO n (k + 1))) (allO_len2 n hn (k + 1) (by omega))
    unfold wayN
    omega
  · intro w hw
    have hm := (List.mem_filter.mp hw).1
    obtain ⟨l, a, hl, ha, e1, e2, x1, x2⟩ := ends hk hm
    have wl := (mem_allO.mp hm).2.1
    have inn : lcM (((pairsN n).filter f).map prD) (itemL (phi Γc) [s0, s1, .val (.lst (((pairsN n).filter f).map prD)), .val (.lst ((wayN n f k).map tuN)), s4, s5, s6, .val (tuN w), .no, .no] [8, 9] (.tup [8, 9]) (.some (.and (.cons (.cmp .Eq (.var 8) (.ix (.var 7) (.neg (.lit (.int (1)))))) (.cons (.cmp .NotIn (.var 9) (.var 7)) .nil)))) (.bin .Add (.var 7) (.tup (.cons (.var 9) .nil)))) = .ok (((((pairsN n).filter f).filter fun p => decide (p.1 = w.getLast?.getD 0) && notB w p.2).map fun p => w ++ [p.2]).map tuN) := by
      rw [List.map_map]
      refine lcM_filterI prD _ _ fun p _ => ?_
      have ni : cmpS .NotIn (.int (p.2 : Nat)) (tuN w) = .ok (notB w p.2) := notin_tup p.2 w
      have ad : binS .Add (tuN w) (.tup [.int (p.2 : Nat)]) = .ok (tuN (w ++ [p.2])) := by
        have q : binS .Add (tuN w) (.tup [.int (p.2 : Nat)]) = fitL (iN w ++ [.int (p.2 : Nat)]) .tup := rfl
        rw [q, fit_le (by rw [List.length_append, iN_len]; simp; omega)]
        unfold tuN iN
        rw [List.map_append]
        rfl
      rw [e1, Option.getD_some]
      show _ = R.ok (if (decide (p.1 = l) && notB w p.2) = true then [tuN (w ++ [p.2])] else [])
      generalize ((pairsN n).filter f).map prD = pm at *
      generalize (wayN n f k).map tuN = wm at *
      generalize tuN (w ++ [p.2]) = tn at *
      generalize tuN w = tw at *
      unfold prD
      by_cases q : p.1 = l
      · have b : ((p.1 : Int) == l) = true := by rw [q]; simp
        rw [decide_eq_true q, Bool.true_and]
        cases hb : notB w p.2 <;> rw [hb] at ni <;> simp -implicitDefEqProofs only [itemL, wipe_two, List.set_cons_succ, List.set_cons_zero, asgG_tup2, bind_ok, evT_some, ev_and, evAnd_cons, evAnd_one, ev_cmp, ev_ix, ev_neg, ev_lit, asI_int, ev_var, getV_zero, getV_succ, x1, eq_int, b, asB_bl, if_true, ni, ev_bin, ev_tup, evs_cons, evs_nil, fit_1, ad, Bool.false_eq_true, if_false]
      · have b : ((p.1 : Int) == l) = false := by simp; omega
        rw [decide_eq_false q, Bool.false_and]
        simp -implicitDefEqProofs only [itemL, wipe_two, List.set_cons_succ, List.set_cons_zero, asgG_tup2, bind_ok, evT_some, ev_and, evAnd_cons, evAnd_one, ev_cmp, ev_ix, ev_neg, ev_lit, asI_int, ev_var, getV_zero, getV_succ, x1, eq_int, b, asB_bl, Bool.false_eq_true, if_false]
    generalize ((pairsN n).filter f).map prD = pm at *
    generalize (wayN n f k).map tuN = wm at *
    generalize tuN w = tw at *
    simp -implicitDefEqProofs only [wipe_three, List.set_cons_succ, List.set_cons_zero, asgG_name, bind_ok, evT_none, if_true, evs_cons, evs_nil, ev_var, getV_zero, getV_succ, seq_lst, inn]
end Pan

/-! Panestacks, part K24: circle, whole. -/
namespace Pan
open PySem L2
/-- the first way that closes, of m sizes from k on -/
def cirF (n : Nat) (f : Nat × Nat → Bool) : Nat → Nat → Option (List Nat)
  | 0, _ => none
  | m + 1, k => match ((wayN n f k).filter (clB f)).head? with
    | some w => some w
    | none => cirF n f m (k + 1)
theorem ci_loop {n : Nat} (hn : n ≤ 4) (f : Nat × Nat → Bool) (s0 s1 s4 s7 s8 s9 : Slot) : ∀ (m k : Nat) (js : List Nat) (s5 s6 : Slot), js.length = m → 0 < k → k + m ≤ n + 1 → ∃ t5 t6, forM (turnF (phi Γc) (.name 5) ciB) (iN js) [s0, s1, .val (.lst (((pairsN n).filter f).map prD)), .val (.lst ((wayN n f k).map tuN)), s4, s5, s6, s7, s8, s9] = match cirF n f m k with
    | some w => .ok (.rt (tuN w))
    | none => .ok (.nx [s0, s1, .val (.lst (((pairsN n).filter f).map prD)), .val (.lst ((wayN n f (k + m)).map tuN)), s4, t5, t6, s7, s8, s9])
  | 0, k, js, s5, s6, hj, _, _ => by
    rw [List.length_eq_zero_iff.mp hj]
    exact ⟨s5, s6, rfl⟩
  | m + 1, k, js, s5, s6, hj, hk, hkn => by
    match js, hj with
    | j :: js, hj =>
      rw [List.length_cons] at hj
      have hY : ciB = .cons (.asg (.name 6) (.lc [7] (.name 7) .seq (.cons (.var 3) .nil) (.some ciC) (.var 7))) (.cons (.ife (.cmp .NotEq (.var 6) (.lst .nil)) (.cons (.ret (.ix (.var 6) (.lit (.int (0))))) .nil) .nil) (.cons (.asg (.name 3) ciS) .nil)) := rfl
      have c := ci_closed f hk s0 s1 (.val (.lst ((wayN n f k).map tuN))) s4 (.val (.int j)) s6 s7 s8 s9 (n := n)
      have stp := ci_step hn f hk (by omega) s0 s1 s4 (.val (.int j)) (.val (.lst (((wayN n f k).filter (clB f)).map tuN))) s7 s8 s9
      have un : cirF n f (m + 1) k = match ((wayN n f k).filter (clB f)).head? with | some w => some w | none => cirF n f m (k + 1) := rfl
      cases q : (wayN n f k).filter (clB f) with
      | nil =>
        rw [q, List.map_nil] at c stp
        obtain ⟨t5, t6, q'⟩ := ci_loop hn f s0 s1 s4 s7 s8 s9 m (k + 1) js (.val (.int j)) (.val (.lst [])) (by omega) (by omega) (by omega)
        refine ⟨t5, t6, ?_⟩
        have ne : cmpS .NotEq (.lst []) (.lst []) = .ok false := rfl
        have st : turnF (phi Γc) (.name 5) ciB (.int j) [s0, s1, .val (.lst (((pairsN n).filter f).map prD)), .val (.lst ((wayN n f k).map tuN)), s4, s5, s6, s7, s8, s9] = .ok (.nx [s0, s1, .val (.lst (((pairsN n).filter f).map prD)), .val (.lst ((wayN n f (k + 1)).map tuN)), s4, .val (.int j), .val (.lst []), s7, s8, s9]) := by
          rw [hY]
          generalize ((pairsN n).filter f).map prD = pm at *
          generalize (wayN n f (k + 1)).map tuN = w2 at *
          generalize (wayN n f k).map tuN = wm at *
          generalize ciC = cc at *
          generalize ciS = cs at *
          unfold turnF
          simp -implicitDefEqProofs [c, ne, stp]
        show andThen (turnF _ _ _ _ _) _ = _
        rw [st, un, q]
        rw [show k + (m + 1) = k + 1 + m by omega]
        exact q'
      | cons w l =>
        rw [q, List.map_cons] at c
        refine ⟨s5, s6, ?_⟩
        have ok : okd 8 (.lst (tuN w :: l.map tuN)) = true := by simp [okd, tuN, iN]
        have ne : cmpS .NotEq (.lst (tuN w :: l.map tuN)) (.lst []) = .ok true := ne_lst (ys := []) ok (by simp [okd])
        have ix : ixS (.lst (tuN w :: l.map tuN)) (.int 0) = .ok (tuN w) := by
          have q : ixS (.lst (tuN w :: l.map tuN)) (.int 0) = match atI (tuN w :: l.map tuN) 0 with | some d => .ok d | none => .bad := rfl
          have e : atI (tuN w :: l.map tuN) 0 = some (tuN w) := by
            unfold atI ixN
            rw [if_pos (by omega), if_pos (by rw [List.length_cons]; omega)]
            rfl
          rw [q, e]
        have st : turnF (phi Γc) (.name 5) ciB (.int j) [s0, s1, .val (.lst (((pairsN n).filter f).map prD)), .val (.lst ((wayN n f k).map tuN)), s4, s5, s6, s7, s8, s9] = .ok (.rt (tuN w)) := by
          rw [hY]
          generalize ((pairsN n).filter f).map prD = pm at *
          generalize (wayN n f k).map tuN = wm at *
          generalize l.map tuN = lm at *
          generalize tuN w = tw at *
          generalize ciC = cc at *
          generalize ciS = cs at *
          unfold turnF
          simp -implicitDefEqProofs [c, ne, ix]
        show andThen (turnF _ _ _ _ _) _ = _
        rw [st, un, q]
        rfl
theorem way_one (n : Nat) (f : Nat × Nat → Bool) : (wayN n f 1).map tuN = (List.range n).map fun (x : Nat) => (.tup [.int x] : D) := by
  have e : wayN n f 1 = (List.range n).map fun x => [x] := by
    unfold wayN
    have a : allO n 1 = (List.range n).map fun x => [x] := by
      show ([[]] : List (List Nat)).flatMap (fun o => ((List.range n).filter (notB o)).map fun x => o ++ [x]) = _
      rw [List.flatMap_cons, List.flatMap_nil, List.append_nil]
      have : (List.range n).filter (notB []) = List.range n := by
        rw [List.filter_eq_self]
        intro _ _
        rfl
      rw [this]
      rfl
    rw [a, List.filter_eq_self]
    intro w hw
    obtain ⟨x, _, rfl⟩ := List.mem_map.mp hw
    rfl
  rw [e, List.map_map]
  rfl
theorem circle_ok {ws : List Wn} {rs : List Rep} (hw : ∀ w ∈ ws, w.ok) (hl : ws.length ≤ 4) (h : ∀ r ∈ rs, r.okR ws) (hr : rs.length ≤ 8) : r_circle.sem [wsD ws, rpsD rs] = .ok (optT (cirF ws.length (abvB ws rs) ws.length 1)) := by
  have a := check_pair_ok hw (by omega) h hr
  have b := find_above_ok hw (by omega) h hr
  have lw := len_wsD ws
  have rg : itS .rng1 [.int ws.length] = .ok (iN (List.range ws.length)) := by
    rw [rng1_ok (by omega) (by omega), Int.toNat_natCast, rangeD_eq]; rfl
  have f1 : ∀ s2, lcM (iN (List.range ws.length)) (itemL (phi Γc) [.val (wsD ws), .val (rpsD rs), s2, .no, .no, .no, .no, .no, .no, .no] [4] (.name 4) .none (.tup (.cons (.var 4) .nil))) = .ok ((wayN ws.length (abvB ws rs) 1).map tuN) := fun s2 => by
    rw [way_one]
    exact lcM_mapI (fun (i : Nat) => (.int i : D)) _ fun i _ => by simp -implicitDefEqProofs [itemL, fit_1]
  obtain ⟨t5, t6, q⟩ := ci_loop hl (abvB ws rs) (.val (wsD ws)) (.val (rpsD rs)) .no .no .no .no ws.length 1 (List.range ws.length) .no .no List.length_range (by omega) (by omega)
  have b : r_find_above.sem [wsD ws, rpsD rs] = .ok (.lst (((pairsN ws.length).filter (abvB ws rs)).map prD)) := b
  have p0 : ∀ ds, phi Γc 0 ds = arity r_check_pair.n r_check_pair.sem ds := fun _ => rfl
  have p1 : ∀ ds, phi Γc 1 ds = arity r_find_above.n r_find_above.sem ds := fun _ => rfl
  have hR : ∀ ds, r_circle.sem ds = runF (phi Γc) 10 ir_circle ds := fun _ => rfl
  have hI : ir_circle = .cons (.expr (.call 0 (.cons (.var 0) (.cons (.var 1) .nil)))) (.cons (.asg (.name 2) (.call 1 (.cons (.var 0) (.cons (.var 1) .nil)))) (.cons (.asg (.name 3) (.lc [4] (.name 4) .rng1 (.cons (.bi .len (.cons (.var 0) .nil)) .nil) .none (.tup (.cons (.var 4) .nil)))) (.cons (.for_ (.name 5) .rng1 (.cons (.bi .len (.cons (.var 0) .nil)) .nil) ciB) (.cons (.ret (.lit .non)) .nil)))) := rfl
  rw [hR, runF_eq, hI]
  generalize ((pairsN ws.length).filter (abvB ws rs)).map prD = pm at *
  generalize (wayN ws.length (abvB ws rs) (1 + ws.length)).map tuN = w2 at *
  generalize (wayN ws.length (abvB ws rs) 1).map tuN = w1 at *
  generalize iN (List.range ws.length) = rr at *
  generalize rpsD rs = rd at *
  generalize ciB = cb at *
  generalize cirF ws.length (abvB ws rs) ws.length 1 = cf at q ⊢
  cases cf with
  | none => simp -implicitDefEqProofs [p0, p1, a, b, lw, rg, f1, q, optT]
  | some w => simp -implicitDefEqProofs [p0, p1, a, b, lw, rg, f1, q, optT]
end Pan

/-! Panestacks, part K25: values of other forms, and what the checks raise at them. -/
namespace Pan
open PySem L2
theorem ix_mem {L : List D} {p : Int} (h : 0 ≤ p ∧ p < L.length) : ∃ d ∈ L, ixS (.lst L) (.int p) = .ok d := by
  have q : ixS (.lst L) (.int p) = match atI L p with | some d => .ok d | none => .bad := rfl
  have hp : p.toNat < L.length := by omega
  have e : atI L p = some L[p.toNat] := by
    unfold atI ixN
    rw [if_pos h.1, if_pos h.2]
    exact List.getElem?_eq_getElem hp
  refine ⟨L[p.toNat], List.getElem_mem hp, ?_⟩
  rw [q, e]
def asgE : S → E
  | .asg _ e => e
  | .ret e => e
  | _ => .lit .non
def binR : E → E
  | .bin _ _ b => b
  | .ix a _ => a
  | _ => .lit .non
/-! ### no windows -/
def bwA : E := asgE (nthS ir__law_badwindows 0)
def bwB : E := binR (asgE (nthS ir__law_badwindows 1))
def bwC : E := binR (binR (asgE (nthS ir__law_badwindows 2)))
def bwX : List D := [.non, .lst [], .lst [.tup [.int 0, .int 0, .int 1, .int 1]], .tup [.tup [.int 0, .int 0, .int 0, .int 1]], .tup [.tup [.int 0, .int 0, .int 13, .int 1]], .tup [.tup [.int 0, .int 1, .int 1, .int 1]]]
def bwY : List D := [.tup [.tup [.bl true, .int 0, .int 2, .int 2]], .tup [.tup [.int 0, .int 0, .int 1]]]
def bwZ : List D := [.tup [.tup [.int 0, .int 0, .int 1, .int 1], .tup [.int 0, .int 0, .int 1, .int 1], .tup [.int 0, .int 0, .int 1, .int 1], .tup [.int 0, .int 0, .int 1, .int 1], .tup [.int 0, .int 0, .int 1, .int 1], .tup [.int 0, .int 0, .int 1, .int 1], .tup [.int 0, .int 0, .int 1, .int 1]], .tup [.int 0, .int 0, .int 1, .int 1], .tup [.tup [.int (-1), .int 0, .int 1, .int 1]]]
theorem badwindows_ok {ns : List Int} (hn : ns.length ≤ 63) {k : Int} (hk : 0 ≤ k ∧ k < 3000) : ∃ d, okd 8 d = true ∧ areW d = false ∧ r__law_badwindows.sem [.scr ns, .int k] = .ok d := by
  obtain ⟨p, p0, p1, ep⟩ := drawn_ok hn hk (m := 11) (by omega)
  obtain ⟨d, hm, e⟩ := ix_mem (L := bwX ++ bwY ++ bwZ) (p := p) ⟨p0, by show p < (11 : Int); exact p1⟩
  have hd : ∀ d ∈ bwX ++ bwY ++ bwZ, okd 8 d = true ∧ areW d = false := by decide +kernel
  refine ⟨d, (hd d hm).1, (hd d hm).2, ?_⟩
  have hI : ir__law_badwindows = .cons (.asg (.name 2) bwA) (.cons (.asg (.name 2) (.bin .Add (.var 2) bwB)) (.cons (.ret (.ix (.bin .Add (.var 2) bwC) (.call 0 (.cons (.var 0) (.cons (.var 1) (.cons (.lit (.int (11))) .nil)))))) .nil)) := rfl
  have hr : ∀ ds, r__law_badwindows.sem ds = runF (phi [r__law_drawn_2]) 3 ir__law_badwindows ds := fun _ => rfl
  have a : ∀ e, ev (phi [r__law_drawn_2]) bwA e = .ok (.lst bwX) := fun _ => by kernel_rfl
  have b : ∀ e, ev (phi [r__law_drawn_2]) bwB e = .ok (.lst bwY) := fun _ => by kernel_rfl
  have c : ∀ e, ev (phi [r__law_drawn_2]) bwC e = .ok (.lst bwZ) := fun _ => by kernel_rfl
  have a1 : binS .Add (.lst bwX) (.lst bwY) = .ok (.lst (bwX ++ bwY)) := add_lst (by decide)
  have a2 : binS .Add (.lst (bwX ++ bwY)) (.lst bwZ) = .ok (.lst (bwX ++ bwY ++ bwZ)) := add_lst (by decide)
  rw [hr, runF_eq, hI]
  clear hd hm hI hr
  generalize bwX ++ bwY ++ bwZ = w3 at *
  generalize bwX ++ bwY = w2 at *
  generalize bwX = wx at *
  generalize bwY = wy at *
  generalize bwZ = wz at *
  generalize bwA = ea at *
  generalize bwB = eb at *
  generalize bwC = ec at *
  simp -implicitDefEqProofs [a, b, c, a1, a2, ep, e]
/-! ### no order -/
theorem eqvs_len : ∀ {a b : List D}, eqvs a b = true → a.length = b.length
  | [], [], _ => rfl
  | [], _ :: _, h => by cases h
  | _ :: _, [], h => by cases h
  | x :: a, y :: b, h => by
    have h : (eqv x y && eqvs a b) = true := h
    rw [Bool.and_eq_true] at h
    simp [eqvs_len h.2]
theorem isO_len {n : Nat} {xs : List D} (h : xs.length ≠ n) : isO n (.tup xs) = false := by
  cases q : isO n (.tup xs) with
  | false => rfl
  | true =>
    have q : (xs.all (isI 0 (n - 1)) && eqvs (sortD xs) (rangeD 0 n)) = true := q
    rw [Bool.and_eq_true] at q
    have := eqvs_len q.2
    rw [(sortD_perm xs).length_eq] at this
    unfold rangeD at this
    rw [List.length_map, List.length_range] at this
    exact absurd this h
def boL (n : Nat) (os : List Nat) : List D := [.non, .lst (iN os), .tup (iN os ++ [.int n]), .tup (iN os ++ iN (os.take 1) ++ [.int 0]), .tup ((os.map fun (o : Nat) => (.int (1 + (o : Int)) : D)) ++ [.int 0, .int 0])]
theorem badorder_ok {ns : List Int} (hn : ns.length ≤ 63) {k : Int} (hk : 0 ≤ k ∧ k < 3000) {n : Nat} {os : List Nat} (ho : os.length = n) (h5 : n ≤ 500) : ∃ d, okd 7 d = true ∧ isO n d = false ∧ r__law_badorder.sem [.scr ns, .int k, osD os] = .ok d := by
  obtain ⟨p, p0, p1, ep⟩ := drawn_ok hn hk (m := 5) (by omega)
  obtain ⟨d, hm, e⟩ := ix_mem (L := boL n os) (p := p) ⟨p0, by show p < (5 : Int); exact p1⟩
  have hd : okd 7 d = true ∧ isO n d = false := by
    unfold boL at hm
    simp only [List.mem_cons, List.not_mem_nil, or_false] at hm
    rcases hm with rfl | rfl | rfl | rfl | rfl
    · exact ⟨rfl, rfl⟩
    · exact ⟨by simp [okd, iN], rfl⟩
    · exact ⟨by simp [okd, iN], isO_len (by rw [List.length_append, iN_len]; simp; omega)⟩
    · refine ⟨?_, isO_len (by rw [List.length_append, List.length_append, iN_len, iN_len]; simp; omega)⟩
      generalize os.take 1 = o1
      simp [okd, iN]
    · exact ⟨by simp [okd], isO_len (by rw [List.length_append, List.length_map]; simp; omega)⟩
  refine ⟨d, hd.1, hd.2, ?_⟩
  have hr : ∀ ds, r__law_badorder.sem ds = runF (phi [r__law_drawn_2]) 5 ir__law_badorder ds := fun _ => rfl
  have sq : itS .seq [osD os] = .ok (iN os) := rfl
  have li : biS .list [osD os] = .ok (.lst (iN os)) := rfl
  have le : biS .len [osD os] = .ok (.int n) := by
    show R.ok (D.int ((iN os).length : Nat)) = _
    rw [iN_len, ho]
  have ad : ∀ (xs ys : List D), xs.length + ys.length ≤ 5000 → binS .Add (.tup xs) (.tup ys) = .ok (.tup (xs ++ ys)) := fun xs ys hz => by
    show fitL (xs ++ ys) .tup = _
    exact fit_le (by rw [List.length_append]; omega)
  have lo : (iN os).length ≤ 500 := by rw [iN_len]; omega
  have a1 : binS .Add (osD os) (.tup [.int n]) = .ok (.tup (iN os ++ [.int n])) := ad _ _ (by simp; omega)
  have s1 : slS (osD os) none (some 1) = .ok (.tup (iN (os.take 1))) := by
    have q : slS (osD os) none (some 1) = .ok (.tup (cutL (iN os) none (some 1))) := rfl
    rw [q]
    refine congrArg (fun z => R.ok (D.tup z)) ?_
    cases os with
    | nil => rfl
    | cons x r =>
      rw [cut_take _ (by rw [iN_len]; simp; omega)]
      unfold iN
      rw [← List.map_take]
      rfl
  have a2 : binS .Add (osD os) (.tup (iN (os.take 1))) = .ok (.tup (iN os ++ iN (os.take 1))) := ad _ _ (by rw [iN_len (os.take 1)]; simp; omega)
  have a3 : binS .Add (.tup (iN os ++ iN (os.take 1))) (.tup [.int 0]) = .ok (.tup (iN os ++ iN (os.take 1) ++ [.int 0])) := ad _ _ (by rw [List.length_append, iN_len (os.take 1)]; simp; omega)
  have f : ∀ s3, lcM (iN os) (itemL (phi [r__law_drawn_2]) [.val (.scr ns), .val (.int k), .val (osD os), s3, .no] [4] (.name 4) .none (.bin .Add (.lit (.int (1))) (.var 4))) = .ok (os.map fun (o : Nat) => (.int (1 + (o : Int)) : D)) := fun s3 => by
    refine lcM_mapI (fun (i : Nat) => (.int i : D)) _ fun o _ => ?_
    generalize osD os = od at *
    simp -implicitDefEqProofs [itemL]
  have tp : ∀ l, biS .tuple [.lst l] = .ok (.tup l) := fun _ => rfl
  have a4 : binS .Add (.tup (os.map fun (o : Nat) => (.int (1 + (o : Int)) : D))) (.tup [.int 0, .int 0]) = .ok (.tup ((os.map fun (o : Nat) => (.int (1 + (o : Int)) : D)) ++ [.int 0, .int 0])) := ad _ _ (by rw [List.length_map]; simp; omega)
  have a5 : ∀ a b c d e : D, binS .Add (.lst [a, b, c, d]) (.lst [e]) = .ok (.lst [a, b, c, d, e]) := fun _ _ _ _ _ => add_lst (by simp)
  unfold boL at e
  rw [hr, runF_eq]
  generalize iN os ++ iN (os.take 1) ++ [.int 0] = g3 at *
  generalize iN os ++ iN (os.take 1) = g2 at *
  generalize iN (os.take 1) = g1 at *
  generalize iN os ++ [.int n] = g0 at *
  generalize (os.map fun (o : Nat) => (.int (1 + (o : Int)) : D)) ++ [.int 0, .int 0] = g5 at *
  generalize (os.map fun (o : Nat) => (.int (1 + (o : Int)) : D)) = g4 at *
  generalize iN os = io at *
  generalize osD os = od at *
  simp -implicitDefEqProofs [ir__law_badorder, sq, li, le, a1, s1, a2, a3, f, tp, a4, a5, ep, e, fit_1]
/-! ### no number -/
theorem badnumber_ok {ns : List Int} (hn : ns.length ≤ 63) {k : Int} (hk : 0 ≤ k ∧ k < 3000) (n : Nat) : ∃ d, okd 7 d = true ∧ isI 0 ((n : Int) - 1) d = false ∧ r__law_badnumber.sem [.scr ns, .int k, .int n] = .ok d := by
  obtain ⟨p, p0, p1, ep⟩ := drawn_ok hn hk (m := 5) (by omega)
  obtain ⟨d, hm, e⟩ := ix_mem (L := [.non, .int (-1), .int n, .bl true, .str "0"]) (p := p) ⟨p0, by show p < (5 : Int); exact p1⟩
  have hd : okd 7 d = true ∧ isI 0 ((n : Int) - 1) d = false := by
    simp only [List.mem_cons, List.not_mem_nil, or_false] at hm
    rcases hm with rfl | rfl | rfl | rfl | rfl
    · exact ⟨rfl, rfl⟩
    · exact ⟨rfl, rfl⟩
    · refine ⟨rfl, ?_⟩
      have : decide ((n : Int) ≤ (n : Int) - 1) = false := decide_eq_false (by omega)
      simp [isI, this]
    · exact ⟨rfl, rfl⟩
    · exact ⟨by decide +kernel, rfl⟩
  refine ⟨d, hd.1, hd.2, ?_⟩
  have f5 : ∀ (a b c d e : D) (k : List D → D), fitL [a, b, c, d, e] k = .ok (k [a, b, c, d, e]) := fun _ _ _ _ _ _ => fit_le (by simp)
  simp -implicitDefEqProofs [r__law_badnumber, ir__law_badnumber, runF_eq, ep, e, f5]
/-! ### what is raised -/
section
variable {ws : List Wn} {os : List Nat} (h : ∀ w ∈ ws, w.ok) (hl : ws.length ≤ 6)
theorem both_badW {d x : D} (hd : okd 8 d = true) (hw : areW d = false) : r_check_both.sem [d, x] = .exc 1 := by
  have a := check_windows_ok d hd
  rw [hw] at a
  simp -implicitDefEqProofs [r_check_both, ir_check_both, runF_eq, a]
theorem three_badW {d x y : D} (hd : okd 8 d = true) (hw : areW d = false) : r_check_three.sem [d, x, y] = .exc 1 := by
  have a := both_badW (x := x) hd hw
  simp -implicitDefEqProofs [r_check_three, ir_check_three, runF_eq, a]
include h hl
theorem both_badO {d : D} (hd : okd 7 d = true) (hw : isO ws.length d = false) : r_check_both.sem [wsD ws, d] = .exc 2 := by
  have a := check_windows_ok (wsD ws) (okd_wsD 6 ws)
  rw [areW_wsD h hl] at a
  have b := check_order_ok ws.length (wsD ws) d (len_wsD ws) (by omega) hd
  rw [hw] at b
  simp -implicitDefEqProofs [r_check_both, ir_check_both, runF_eq, a, b]
theorem three_badO {d y : D} (hd : okd 7 d = true) (hw : isO ws.length d = false) : r_check_three.sem [wsD ws, d, y] = .exc 2 := by
  have a := both_badO h hl hd hw
  simp -implicitDefEqProofs [r_check_three, ir_check_three, runF_eq, a]
omit h hl in
theorem number_bad {d : D} (hd : okd 7 d = true) (hw : isI 0 ((ws.length : Int) - 1) d = false) : r_check_number.sem [wsD ws, d] = .exc 3 := by
  have hd8 : okd 8 d = true := okd_mono 7 8 d (by omega) hd
  have a := is_int_ok d 0 ((ws.length : Int) - 1) hd8
  rw [hw] at a
  have l := len_wsD ws
  simp -implicitDefEqProofs [r_check_number, ir_check_number, runF_eq, l, a]
theorem three_badN (ho : os.Perm (List.range ws.length)) {d : D} (hd : okd 7 d = true) (hw : isI 0 ((ws.length : Int) - 1) d = false) : r_check_three.sem [wsD ws, osD os, d] = .exc 3 := by
  have a := check_both_ok h hl ho
  have b := number_bad (ws := ws) hd hw
  simp -implicitDefEqProofs [r_check_three, ir_check_three, runF_eq, a, b]
end
end Pan

/-! Panestacks, part K26: _law_on, _law_top, _law_seen, _law_meet of the laws k52 and later. -/
namespace Pan
open PySem L2
theorem law_on_ok (w : Wn) (x y : Int) : r__law_on.sem [wD w, .int x, .int y] = .ok (.bl (w.has x y)) := by
  have i0 : ixS (wD w) (.int 0) = .ok (.int w.l) := rfl
  have i1 : ixS (wD w) (.int 1) = .ok (.int w.t) := rfl
  have i2 : ixS (wD w) (.int 2) = .ok (.int w.r) := rfl
  have i3 : ixS (wD w) (.int 3) = .ok (.int w.b) := rfl
  unfold Wn.has
  generalize wD w = wd at *
  by_cases h1 : w.l ≤ x <;> by_cases h2 : x < w.r <;> by_cases h3 : w.t ≤ y <;> by_cases h4 : y < w.b <;> simp -implicitDefEqProofs [r__law_on, ir__law_on, runF_eq, i0, i1, i2, i3, h1, h2, h3, h4]
theorem law_top2_ok {ws : List Wn} {os : List Nat} (ho : ∀ o ∈ os, o < ws.length) {d : D} (hd : itS .seq [d] = .ok (iN os)) (x y : Int) : r__law_top_2.sem [wsD ws, d, .int x, .int y] = .ok (oD (topOf ws os x y)) := by
  have hl : lcM (iN os) (itemL (phi [r__law_on]) [.val (wsD ws), .val d, .val (.int x), .val (.int y), .no, .no] [5] (.name 5) (.some (.call 0 (.cons (.ix (.var 0) (.var 5)) (.cons (.var 2) (.cons (.var 3) .nil))))) (.var 5)) = .ok (iN (os.filter (hasAt ws x y))) := by
    refine lcM_filterI (fun (i : Nat) => (.int i : D)) (hasAt ws x y) (fun (i : Nat) => (.int i : D)) fun o hm => ?_
    have hol := ho o hm
    have hw : ws[o]? = some ws[o] := List.getElem?_eq_getElem hol
    have i1 := ix_wsD hw
    have li := law_on_ok ws[o] x y
    have e : hasAt ws x y o = ws[o].has x y := by unfold hasAt; rw [hw]
    rw [e]
    generalize wD ws[o] = wo at *
    cases hb : ws[o].has x y <;> rw [hb] at li <;> simp -implicitDefEqProofs [itemL, i1, li]
  have nn : cmpS .NotEq (.lst []) (.lst []) = .ok false := rfl
  unfold topOf
  rcases List.eq_nil_or_concat (os.filter (hasAt ws x y)) with h | ⟨l, o, h⟩
  · rw [h] at hl ⊢
    have hl : lcM (iN os) (itemL (phi [r__law_on]) [.val (wsD ws), .val d, .val (.int x), .val (.int y), .no, .no] [5] (.name 5) (.some (.call 0 (.cons (.ix (.var 0) (.var 5)) (.cons (.var 2) (.cons (.var 3) .nil))))) (.var 5)) = .ok [] := hl
    generalize iN os = io at *
    generalize wsD ws = wd at *
    simp -implicitDefEqProofs [r__law_top_2, ir__law_top_2, runF_eq, hd, hl, nn, oD]
  · rw [List.concat_eq_append] at h
    rw [h] at hl ⊢
    have e2 : iN (l ++ [o]) = iN l ++ [.int o] := by unfold iN; rw [List.map_append]; rfl
    rw [e2] at hl
    have hne : cmpS .NotEq (.lst (iN l ++ [.int o])) (.lst []) = .ok true := by
      have e := ne_lst (xs := iN l ++ [.int o]) (ys := []) (by simp [okd, iN]) (by simp [okd])
      rw [e]
      cases l <;> rfl
    generalize iN os = io at *
    generalize iN l = il at *
    generalize wsD ws = wd at *
    simp -implicitDefEqProofs [r__law_top_2, ir__law_top_2, runF_eq, hd, hl, oD, hne, last_lst]
def lsR : E := .lc [9] (.name 9) .rng2 (.cons (.var 4) (.cons (.var 6) .nil)) (.some (.cmp .Eq (.call 0 (.cons (.var 0) (.cons (.var 1) (.cons (.var 8) (.cons (.var 9) .nil))))) (.var 2))) (.tup (.cons (.var 8) (.cons (.var 9) .nil)))
def lsB : Ss := .cons (.asg (.name 7) (.bin .Add (.var 7) lsR)) .nil
theorem ls_row {ws : List Wn} {os : List Nat} (ho : ∀ o ∈ os, o < ws.length) {d : D} (hd : itS .seq [d] = .ok (iN os)) {w : Wn} (hw : w.ok) (o : Nat) (x : Int) (s7 s9 : Slot) : ev (phi [r__law_top_2]) lsR [.val (wsD ws), .val d, .val (.int o), .val (.int w.l), .val (.int w.t), .val (.int w.r), .val (.int w.b), s7, .val (.int x), s9] = .ok (.lst (((rngI w.t w.b).filter fun y => decide (topOf ws os x y = some o)).map fun y => cD (x, y))) := by
  obtain ⟨h1, h2, h3, h4, h5, h6⟩ := hw
  have rb : itS .rng2 [.int w.t, .int w.b] = .ok ((rngI w.t w.b).map .int) := by rw [rng2_ok (by omega) (by omega) (by omega), rangeD_rngI]
  have f : lcM ((rngI w.t w.b).map .int) (itemL (phi [r__law_top_2]) [.val (wsD ws), .val d, .val (.int o), .val (.int w.l), .val (.int w.t), .val (.int w.r), .val (.int w.b), s7, .val (.int x), s9] [9] (.name 9) (.some (.cmp .Eq (.call 0 (.cons (.var 0) (.cons (.var 1) (.cons (.var 8) (.cons (.var 9) .nil))))) (.var 2))) (.tup (.cons (.var 8) (.cons (.var 9) .nil)))) = .ok (((rngI w.t w.b).filter fun y => decide (topOf ws os x y = some o)).map fun y => cD (x, y)) := by
    refine lcM_filterI (fun y : Int => (.int y : D)) _ _ fun y _ => ?_
    have t := law_top2_ok ho hd x y
    have e := oD_eq (topOf ws os x y) o
    generalize oD (topOf ws os x y) = od at *
    generalize wsD ws = wd at *
    cases hb : decide (topOf ws os x y = some o) <;> rw [hb] at e <;> simp -implicitDefEqProofs [itemL, t, e, cD]
  generalize ((rngI w.t w.b).filter fun y => decide (topOf ws os x y = some o)).map (fun y => cD (x, y)) = rr at *
  generalize (rngI w.t w.b).map D.int = ri at *
  generalize wsD ws = wd at *
  unfold lsR
  rw [ev_lc]
  simp -implicitDefEqProofs only [evs_cons, evs_nil, ev_var, getV_zero, getV_succ, bind_ok, rb, f, calm_ok]
theorem ls_loop {ws : List Wn} {os : List Nat} (ho : ∀ o ∈ os, o < ws.length) {d : D} (hd : itS .seq [d] = .ok (iN os)) {w : Wn} (hw : w.ok) (o : Nat) (s9 : Slot) : ∀ (xs : List Int) (acc : List (Int × Int)) (s8 : Slot), acc.length + 12 * xs.length ≤ 1000 → ∃ t8, forM (turnF (phi [r__law_top_2]) (.name 8) lsB) (xs.map .int) [.val (wsD ws), .val d, .val (.int o), .val (.int w.l), .val (.int w.t), .val (.int w.r), .val (.int w.b), .val (.lst (acc.map cD)), s8, s9] = .ok (.nx [.val (wsD ws), .val d, .val (.int o), .val (.int w.l), .val (.int w.t), .val (.int w.r), .val (.int w.b), .val (.lst ((acc ++ xs.flatMap fun x => ((rngI w.t w.b).filter fun y => decide (topOf ws os x y = some o)).map fun y => (x, y)).map cD)), t8, s9])
  | [], acc, s8, _ => ⟨s8, by simp [forM]⟩
  | x :: xs, acc, s8, hl => by
    rw [List.length_cons] at hl
    have hw' := hw
    obtain ⟨h1, h2, h3, h4, h5, h6⟩ := hw'
    have l12 : (((rngI w.t w.b).filter fun y => decide (topOf ws os x y = some o)).map fun y => (x, y)).length ≤ 12 := by
      rw [List.length_map]
      refine Nat.le_trans (List.length_filter_le _ _) ?_
      unfold rngI
      rw [List.length_map, List.length_range]
      omega
    obtain ⟨t8, q⟩ := ls_loop ho hd hw o s9 xs (acc ++ ((rngI w.t w.b).filter fun y => decide (topOf ws os x y = some o)).map fun y => (x, y)) (.val (.int x)) (by rw [List.length_append]; omega)
    refine ⟨t8, ?_⟩
    have row := ls_row ho hd hw o x (.val (.lst (acc.map cD))) s9
    have st : turnF (phi [r__law_top_2]) (.name 8) lsB (.int x) [.val (wsD ws), .val d, .val (.int o), .val (.int w.l), .val (.int w.t), .val (.int w.r), .val (.int w.b), .val (.lst (acc.map cD)), s8, s9] = .ok (.nx [.val (wsD ws), .val d, .val (.int o), .val (.int w.l), .val (.int w.t), .val (.int w.r), .val (.int w.b), .val (.lst ((acc ++ ((rngI w.t w.b).filter fun y => decide (topOf ws os x y = some o)).map fun y => (x, y)).map cD)), .val (.int x), s9]) := by
      have ad : binS .Add (.lst (acc.map cD)) (.lst (((rngI w.t w.b).filter fun y => decide (topOf ws os x y = some o)).map fun y => cD (x, y))) = .ok (.lst ((acc ++ ((rngI w.t w.b).filter fun y => decide (topOf ws os x y = some o)).map fun y => (x, y)).map cD)) := by
        rw [add_lst (by rw [List.length_map, List.length_map]; rw [List.length_map] at l12; omega), List.map_append, List.map_map]
        rfl
      generalize (acc ++ ((rngI w.t w.b).filter fun y => decide (topOf ws os x y = some o)).map fun y => (x, y)).map cD = an at *
      generalize ((rngI w.t w.b).filter fun y => decide (topOf ws os x y = some o)).map (fun y => cD (x, y)) = rn at *
      generalize acc.map cD = ac at *
      generalize wsD ws = wd at *
      unfold turnF lsB
      generalize lsR = lr at *
      simp -implicitDefEqProofs [row, ad]
    rw [List.map_cons]
    show andThen (turnF _ _ _ _ _) _ = _
    rw [st]
    rw [List.append_assoc] at q
    rw [List.flatMap_cons]
    exact q
theorem law_seen_ok {ws : List Wn} {os : List Nat} (ho : ∀ o ∈ os, o < ws.length) {d : D} (hd : itS .seq [d] = .ok (iN os)) {o : Nat} {w : Wn} (hw : ws[o]? = some w) (hk : w.ok) : r__law_seen.sem [wsD ws, d, .int o] = .ok (.lst ((seenN ws os o w).map cD)) := by
  have hk' := hk
  obtain ⟨h1, h2, h3, h4, h5, h6⟩ := hk'
  have ra : itS .rng2 [.int w.l, .int w.r] = .ok ((rngI w.l w.r).map .int) := by rw [rng2_ok (by omega) (by omega) (by omega), rangeD_rngI]
  have lr : (rngI w.l w.r).length ≤ 12 := by unfold rngI; rw [List.length_map, List.length_range]; omega
  obtain ⟨t8, q⟩ := ls_loop ho hd hk o .no (rngI w.l w.r) [] .no (by simp; omega)
  have e : ([] ++ (rngI w.l w.r).flatMap fun x => ((rngI w.t w.b).filter fun y => decide (topOf ws os x y = some o)).map fun y => (x, y)) = seenN ws os o w := by
    unfold seenN cellsOf
    rw [List.nil_append, filt_flat]
    congr 1
    funext x
    rw [List.filter_map]
    rfl
  rw [e, List.map_nil] at q
  have ix := ix_wsD hw
  have ix : ixS (wsD ws) (.int o) = .ok (.tup [.int w.l, .int w.t, .int w.r, .int w.b]) := ix
  have hI : ir__law_seen = .cons (.asg (.tup [3, 4, 5, 6]) (.ix (.var 0) (.var 2))) (.cons (.asg (.name 7) (.lst .nil)) (.cons (.for_ (.name 8) .rng2 (.cons (.var 3) (.cons (.var 5) .nil)) lsB) (.cons (.ret (.var 7)) .nil))) := rfl
  have hr : ∀ ds, r__law_seen.sem ds = runF (phi [r__law_top_2]) 10 ir__law_seen ds := fun _ => rfl
  rw [hr, runF_eq, hI]
  generalize (seenN ws os o w).map cD = sn at *
  generalize (rngI w.l w.r).map D.int = ri at *
  generalize wsD ws = wd at *
  generalize lsB = lb at *
  simp -implicitDefEqProofs [ix, ra, q]
theorem law_meet_ok (v w : Wn) (hv : v.ok) (hw : w.ok) : r__law_meet.sem [wD v, wD w] = .ok (.bl (mtB v w)) := by
  have i0 : ixS (wD v) (.int 0) = .ok (.int v.l) := rfl
  have i1 : ixS (wD v) (.int 1) = .ok (.int v.t) := rfl
  have i2 : ixS (wD v) (.int 2) = .ok (.int v.r) := rfl
  have i3 : ixS (wD v) (.int 3) = .ok (.int v.b) := rfl
  have k0 : ixS (wD w) (.int 0) = .ok (.int w.l) := rfl
  have k1 : ixS (wD w) (.int 1) = .ok (.int w.t) := rfl
  have k2 : ixS (wD w) (.int 2) = .ok (.int w.r) := rfl
  have k3 : ixS (wD w) (.int 3) = .ok (.int w.b) := rfl
  obtain ⟨h1, h2, h3, h4, h5, h6⟩ := hv
  obtain ⟨g1, g2, g3, g4, g5, g6⟩ := hw
  have e : mtB v w = (decide (v.l < w.r) && (decide (w.l < v.r) && (decide (v.t < w.b) && decide (w.t < v.b)))) := by
    unfold mtB meet
    rw [Bool.eq_iff_iff]
    simp only [Bool.and_eq_true, decide_eq_true_eq]
    constructor
    · rintro ⟨a, b⟩
      split at a <;> split at a <;> split at b <;> split at b <;> omega
    · rintro ⟨a, b, c, d⟩
      constructor
      · split <;> split <;> omega
      · split <;> split <;> omega
  rw [e]
  generalize wD v = vd at *
  generalize wD w = wd at *
  by_cases q1 : v.l < w.r <;> by_cases q2 : w.l < v.r <;> by_cases q3 : v.t < w.b <;> by_cases q4 : w.t < v.b <;> simp -implicitDefEqProofs [r__law_meet, ir__law_meet, runF_eq, i0, i1, i2, i3, k0, k1, k2, k3, q1, q2, q3, q4]
end Pan

/-! Panestacks, part K27: values that are no groups; how a call by the list of defs ends. -/
namespace Pan
open PySem L2
theorem xs_expr_exc {Φ : Nat → List D → R D} {a : E} {e : Env} {c : Nat} (h : ev Φ a e = .exc c) : xs Φ (.expr a) e = .ok (.ex c e) := by
  show lift (ev Φ a e) e _ = _
  rw [h]
  rfl
theorem tryF_exc {N : Nat} {body : Env → R Fl} {hans : Nat → R D} {e e' : Env} {c : Nat} {d : D} (h : body e = .ok (.ex c e')) (hl : e'.length = N) (hh : hans c = .ok d) : tryF N body hans e = .ok (.rt d) := by
  unfold tryF
  rw [h]
  show (if e'.length = N then (match hans c with | .ok d => R.ok (Fl.rt d) | _ => .bad) else .bad) = _
  rw [if_pos hl, hh]
theorem runT_exc {Φ : Nat → List D → R D} {n : Nat} {tb : Ss} {hans : Nat → R D} {ds : List D} {e' : Env} {c : Nat} {d : D} (h : xss Φ tb (ds.map Slot.val ++ List.replicate (n - ds.length) .no) = .ok (.ex c e')) (hl : e'.length = n) (hh : hans c = .ok d) : runT Φ n [] tb hans ds = .ok d := by
  have t := tryF_exc (body := xss Φ tb) h hl hh
  unfold runT preF
  rw [t]
  rfl
section
variable {ws : List Wn}
theorem small_not {d : D} (hd : okd 8 d = true) (ht : isInstS d "tuple" = false) : r_is_small.sem [wsD ws, d] = .ok (.bl false) := by
  have hi := isinst_ok (n := "tuple") hd rfl
  rw [ht] at hi
  simp -implicitDefEqProofs [r_is_small, ir_is_small, runF_eq, hi]
theorem group_not {d : D} (hd : okd 8 d = true) (ht : isInstS d "tuple" = false) : r_has_group.sem [wsD ws, d] = .ok (.bl false) := by
  have hi := isinst_ok (n := "tuple") hd rfl
  rw [ht] at hi
  simp -implicitDefEqProofs [r_has_group, ir_has_group, runF_eq, hi]
theorem small_one {d : D} (hd : okd 7 d = true) (ht : isI 0 ((ws.length : Int) - 1) d = false) : r_is_small.sem [wsD ws, .tup [d]] = .ok (.bl false) := by
  have hi := isinst_ok (d := .tup [d]) (n := "tuple") (by simp [okd, hd]) rfl
  have i1 : isInstS (.tup [d]) "tuple" = true := rfl
  rw [i1] at hi
  have a := is_int_ok d 0 ((ws.length : Int) - 1) (okd_mono 7 8 d (by omega) hd)
  rw [ht] at a
  have lw := len_wsD ws
  have sq : itS .seq [.tup [d]] = .ok [d] := rfl
  have al : biS .all [.lst [.bl false]] = .ok (.bl false) := rfl
  have f : lcM [d] (itemL (phi [r_is_int]) [.val (wsD ws), .val (.tup [d]), .no, .no, .no] [2] (.name 2) .none (.call 0 (.cons (.var 2) (.cons (.lit (.int (0))) (.cons (.bin .Sub (.bi .len (.cons (.var 0) .nil)) (.lit (.int (1)))) .nil))))) = .ok [.bl false] := by
    refine lcM_mapI (l := [d]) id (fun _ => .bl false) fun x hx => ?_
    rw [List.mem_singleton.mp hx]
    generalize wsD ws = wd at *
    simp -implicitDefEqProofs [itemL, lw, a]
  generalize wsD ws = wd at *
  simp -implicitDefEqProofs [r_is_small, ir_is_small, runF_eq, hi, sq, f, al]
theorem group_one {d : D} (hd : okd 7 d = true) (ht : isI 0 ((ws.length : Int) - 1) d = false) : r_has_group.sem [wsD ws, .tup [d]] = .ok (.bl false) := by
  have hi := isinst_ok (d := .tup [d]) (n := "tuple") (by simp [okd, hd]) rfl
  have i1 : isInstS (.tup [d]) "tuple" = true := rfl
  rw [i1] at hi
  have a := is_int_ok d 0 ((ws.length : Int) - 1) (okd_mono 7 8 d (by omega) hd)
  rw [ht] at a
  have lw := len_wsD ws
  have sq : itS .seq [.tup [d]] = .ok [d] := rfl
  have al : biS .all [.lst [.bl false]] = .ok (.bl false) := rfl
  have ne : cmpS .Eq (.tup [d]) (.tup []) = .ok false := by
    have q : cmpS .Eq (.tup [d]) (.tup []) = if okd 8 (.tup [d]) && okd 8 (.tup []) then .ok (eqv (.tup [d]) (.tup [])) else .bad := rfl
    rw [q, if_pos (by simp [okd, hd])]
    rfl
  have f : lcM [d] (itemL (phi [r_is_int]) [.val (wsD ws), .val (.tup [d]), .no, .no, .no] [2] (.name 2) .none (.call 0 (.cons (.var 2) (.cons (.lit (.int (0))) (.cons (.bin .Sub (.bi .len (.cons (.var 0) .nil)) (.lit (.int (1)))) .nil))))) = .ok [.bl false] := by
    refine lcM_mapI (l := [d]) id (fun _ => .bl false) fun x hx => ?_
    rw [List.mem_singleton.mp hx]
    generalize wsD ws = wd at *
    simp -implicitDefEqProofs [itemL, lw, a]
  generalize wsD ws = wd at *
  simp -implicitDefEqProofs [r_has_group, ir_has_group, runF_eq, hi, ne, sq, f, al]
theorem small_two (hn : 0 < ws.length) : r_is_small.sem [wsD ws, .tup [.int 0, .int 0]] = .ok (.bl false) := by
  have hi := isinst_ok (d := .tup [.int 0, .int 0]) (n := "tuple") (by simp [okd]) rfl
  have i1 : isInstS (.tup [.int 0, .int 0]) "tuple" = true := rfl
  rw [i1] at hi
  have h1 := ints_in (Φ := phi [r_is_int]) (len_wsD ws) (fun _ => rfl) (l := [0, 0]) (by simpa using hn) (.val (.tup (iN [0, 0]))) .no .no .no
  have a1 := all_true [0, 0]
  have c : slS (.tup [.int 0, .int 0]) (some 1) none = .ok (.tup [.int 0]) := rfl
  have z : itS .zip [.tup [.int 0, .int 0], .tup [.int 0]] = .ok [.prs [.int 0, .int 0]] := rfl
  have f : lcM [.prs [.int 0, .int 0]] (itemL (phi [r_is_int]) [.val (wsD ws), .val (.tup [.int 0, .int 0]), .no, .no, .no] [3, 4] (.tup [3, 4]) .none (.cmp .Lt (.var 3) (.var 4))) = .ok [.bl false] := rfl
  have al : biS .all [.lst [.bl false]] = .ok (.bl false) := rfl
  have sq : itS .seq [.tup [.int 0, .int 0]] = .ok (iN [0, 0]) := rfl
  have h1 : lcM (iN [0, 0]) (itemL (phi [r_is_int]) [.val (wsD ws), .val (.tup [.int 0, .int 0]), .no, .no, .no] [2] (.name 2) .none (.call 0 (.cons (.var 2) (.cons (.lit (.int (0))) (.cons (.bin .Sub (.bi .len (.cons (.var 0) .nil)) (.lit (.int (1)))) .nil))))) = .ok ([0, 0].map fun _ => .bl true) := h1
  generalize wsD ws = wd at *
  generalize iN [0, 0] = ii at *
  generalize [0, 0].map (fun _ => (.bl true : D)) = bb at *
  simp -implicitDefEqProofs [r_is_small, ir_is_small, runF_eq, hi, sq, h1, a1, c, z, f, al]
theorem group_two (hn : 0 < ws.length) : r_has_group.sem [wsD ws, .tup [.int 0, .int 0]] = .ok (.bl false) := by
  have hi := isinst_ok (d := .tup [.int 0, .int 0]) (n := "tuple") (by simp [okd]) rfl
  have i1 : isInstS (.tup [.int 0, .int 0]) "tuple" = true := rfl
  rw [i1] at hi
  have h1 := ints_in (Φ := phi [r_is_int]) (len_wsD ws) (fun _ => rfl) (l := [0, 0]) (by simpa using hn) (.val (.tup (iN [0, 0]))) .no .no .no
  have a1 := all_true [0, 0]
  have c : slS (.tup [.int 0, .int 0]) (some 1) none = .ok (.tup [.int 0]) := rfl
  have z : itS .zip [.tup [.int 0, .int 0], .tup [.int 0]] = .ok [.prs [.int 0, .int 0]] := rfl
  have f : lcM [.prs [.int 0, .int 0]] (itemL (phi [r_is_int]) [.val (wsD ws), .val (.tup [.int 0, .int 0]), .no, .no, .no] [3, 4] (.tup [3, 4]) .none (.cmp .Lt (.var 3) (.var 4))) = .ok [.bl false] := rfl
  have al : biS .all [.lst [.bl false]] = .ok (.bl false) := rfl
  have sq : itS .seq [.tup [.int 0, .int 0]] = .ok (iN [0, 0]) := rfl
  have ne : cmpS .Eq (.tup [.int 0, .int 0]) (.tup []) = .ok false := rfl
  have h1 : lcM (iN [0, 0]) (itemL (phi [r_is_int]) [.val (wsD ws), .val (.tup [.int 0, .int 0]), .no, .no, .no] [2] (.name 2) .none (.call 0 (.cons (.var 2) (.cons (.lit (.int (0))) (.cons (.bin .Sub (.bi .len (.cons (.var 0) .nil)) (.lit (.int (1)))) .nil))))) = .ok ([0, 0].map fun _ => .bl true) := h1
  generalize wsD ws = wd at *
  generalize iN [0, 0] = ii at *
  generalize [0, 0].map (fun _ => (.bl true : D)) = bb at *
  simp -implicitDefEqProofs [r_has_group, ir_has_group, runF_eq, hi, ne, sq, h1, a1, c, z, f, al]
theorem group_none : r_has_group.sem [wsD ws, .tup []] = .ok (.bl false) := by
  have hi := isinst_ok (d := .tup []) (n := "tuple") (by simp [okd]) rfl
  have i1 : isInstS (.tup []) "tuple" = true := rfl
  rw [i1] at hi
  have ne : cmpS .Eq (.tup []) (.tup []) = .ok true := rfl
  simp -implicitDefEqProofs [r_has_group, ir_has_group, runF_eq, hi, ne]
theorem group_exc {d : D} (h : r_has_group.sem [wsD ws, d] = .ok (.bl false)) : r_check_group.sem [wsD ws, d] = .exc 5 := by
  simp -implicitDefEqProofs [r_check_group, ir_check_group, runF_eq, h]
/-- no group, and not small either -/
theorem wrongs {d : D} (hn : 0 < ws.length) (hm : d ∈ [.non, .lst [.int 0], .tup [.int 0, .int 0], .tup [.int ws.length], .tup [.bl true], .tup [.int (-1)], .str "0"]) : r_is_small.sem [wsD ws, d] = .ok (.bl false) ∧ r_has_group.sem [wsD ws, d] = .ok (.bl false) := by
  simp only [List.mem_cons, List.not_mem_nil, or_false] at hm
  have hs : okd 8 (.str "0") = true := by decide +kernel
  rcases hm with rfl | rfl | rfl | rfl | rfl | rfl | rfl
  · exact ⟨small_not rfl rfl, group_not rfl rfl⟩
  · exact ⟨small_not rfl rfl, group_not rfl rfl⟩
  · exact ⟨small_two hn, group_two hn⟩
  · have : isI 0 ((ws.length : Int) - 1) (.int ws.length) = false := by
      have : decide ((ws.length : Int) ≤ (ws.length : Int) - 1) = false := decide_eq_false (by omega)
      simp [isI, this]
    exact ⟨small_one rfl this, group_one rfl this⟩
  · exact ⟨small_one rfl rfl, group_one rfl rfl⟩
  · exact ⟨small_one rfl rfl, group_one rfl rfl⟩
  · exact ⟨small_not hs rfl, group_not hs rfl⟩
end
end Pan

/-! Panestacks, part K28: painted, naive_seen, naive_can_hide. -/
namespace Pan
open PySem L2
def kvF (f : Int × Int → Nat) (c : Int × Int) : D × D := (cD c, .int (f c : Nat))
def updF (f : Int × Int → Nat) (c : Int × Int) (v : Nat) (x : Int × Int) : Nat := if x = c then v else f x
theorem dput_F (ks : List (Int × Int)) (f : Int × Int → Nat) (c : Int × Int) (v : Nat) : dput (cD c) (.int v) (ks.map (kvF f)) = (addK ks c).map (kvF (updF f c v)) := by
  unfold dput addK
  have e : ((ks.map (kvF f)).any fun q => eqv q.1 (cD c)) = decide (c ∈ ks) := by
    rw [List.any_map, Bool.eq_iff_iff, List.any_eq_true]
    simp only [Function.comp_apply, kvF, eqv_cD, decide_eq_true_eq]
    constructor
    · rintro ⟨q, hq, rfl⟩; exact hq
    · intro h; exact ⟨c, h, rfl⟩
  rw [e]
  have up : ∀ q, ¬ q = c → kvF (updF f c v) q = kvF f q := fun q hq => by
    unfold kvF updF
    rw [if_neg hq]
  by_cases h : c ∈ ks
  · rw [decide_eq_true h, if_pos rfl, if_pos h, List.map_map]
    refine List.map_congr_left fun q hm => ?_
    show (if eqv (cD q) (cD c) = true then (cD q, D.int v) else kvF f q) = kvF (updF f c v) q
    rw [eqv_cD]
    by_cases z : q = c
    · rw [decide_eq_true z, if_pos rfl]
      unfold kvF updF
      rw [if_pos z]
    · rw [decide_eq_false z, if_neg (by simp), up q z]
  · rw [decide_eq_false h, if_neg (by simp), if_neg h, List.map_append]
    have e1 : ks.map (kvF (updF f c v)) = ks.map (kvF f) := List.map_congr_left fun q hm => up q (fun z => h (z ▸ hm))
    have e2 : kvF (updF f c v) c = (cD c, D.int v) := by
      unfold kvF updF
      rw [if_pos rfl]
    rw [e1]
    show _ = _ ++ [kvF (updF f c v) c]
    rw [e2]
theorem put_F (ks : List (Int × Int)) (f : Int × Int → Nat) (c : Int × Int) (v : Nat) (s0 s1 : Slot) (hl : ks.length ≤ 1000) : xs (phi [r_cells_of]) (.put 2 (.var 4) (.var 3)) [s0, s1, .own (.dic true (ks.map (kvF f))), .val (.int v), .val (cD c)] = .ok (.nx [s0, s1, .own (.dic true ((addK ks c).map (kvF (updF f c v)))), .val (.int v), .val (cD c)]) := by
  have q : xs (phi [r_cells_of]) (.put 2 (.var 4) (.var 3)) [s0, s1, .own (.dic true (ks.map (kvF f))), .val (.int v), .val (cD c)] = if keyOf true (cD c) && decide ((ks.map (kvF f)).length < sizeLine) then .ok (.nx [s0, s1, .own (.dic true (dput (cD c) (.int v) (ks.map (kvF f)))), .val (.int v), .val (cD c)]) else .bad := rfl
  have e : (keyOf true (cD c) && decide ((ks.map (kvF f)).length < sizeLine)) = true := by
    rw [Bool.and_eq_true]
    refine ⟨rfl, decide_eq_true ?_⟩
    rw [List.length_map]
    exact Nat.lt_of_le_of_lt hl (by decide)
  rw [q, if_pos e, dput_F]
def ptB : Ss := .cons (.put 2 (.var 4) (.var 3)) .nil
theorem pt_inner (s0 s1 : Slot) (v : Nat) : ∀ (cs ks : List (Int × Int)) (f : Int × Int → Nat) (s4 : Slot), ks.Nodup → (∀ p ∈ ks, p ∈ grid) → (∀ p ∈ cs, p ∈ grid) →
    ∃ (ks' : List (Int × Int)) (f' : Int × Int → Nat) (t4 : Slot), forM (turnF (phi [r_cells_of]) (.name 4) ptB) (cs.map cD) [s0, s1, .own (.dic true (ks.map (kvF f))), .val (.int v), s4] = .ok (.nx [s0, s1, .own (.dic true (ks'.map (kvF f'))), .val (.int v), t4]) ∧ ks'.Nodup ∧ (∀ p, p ∈ ks' ↔ p ∈ ks ∨ p ∈ cs) ∧ ∀ p, f' p = if p ∈ cs then v else f p
  | [], ks, f, s4, hn, hg, _ => ⟨ks, f, s4, rfl, hn, fun p => by simp, fun p => by simp⟩
  | c :: cs, ks, f, s4, hn, hg, hc => by
    have st : turnF (phi [r_cells_of]) (.name 4) ptB (cD c) [s0, s1, .own (.dic true (ks.map (kvF f))), .val (.int v), s4] = .ok (.nx [s0, s1, .own (.dic true ((addK ks c).map (kvF (updF f c v)))), .val (.int v), .val (cD c)]) := by
      unfold turnF ptB
      rw [asgG_name, lift_ok, xss_cons]
      show andThen (xs _ _ [s0, s1, .own (.dic true (ks.map (kvF f))), .val (.int v), .val (cD c)]) _ = _
      rw [put_F ks f c v _ _ (Nat.le_trans (len_le_grid hn hg) (by decide))]
      rfl
    obtain ⟨ks', f', t4, q, n', m', hf'⟩ := pt_inner s0 s1 v cs (addK ks c) (updF f c v) (.val (cD c)) (addK_nodup hn) (fun p hp => by
      rcases addK_mem.mp hp with h | rfl
      · exact hg p h
      · exact hc _ List.mem_cons_self) fun p hp => hc p (List.mem_cons_of_mem _ hp)
    refine ⟨ks', f', t4, ?_, n', fun p => ?_, fun p => ?_⟩
    · rw [List.map_cons]
      show andThen (turnF _ _ _ _ _) _ = _
      rw [st]
      exact q
    · rw [m' p, addK_mem, List.mem_cons, or_assoc]
    · rw [hf' p]
      unfold updF
      by_cases h1 : p ∈ cs
      · rw [if_pos h1, if_pos (List.mem_cons_of_mem _ h1)]
      · rw [if_neg h1]
        by_cases h2 : p = c
        · rw [if_pos h2, if_pos (h2 ▸ List.mem_cons_self)]
        · rw [if_neg h2, if_neg (fun z => (List.mem_cons.mp z).elim h2 h1)]
def ptA : Ss := .cons (.for_ (.name 4) .seq (.cons (.call 0 (.cons (.ix (.var 0) (.var 3)) .nil)) .nil) ptB) .nil
/-- what the dict tells -/
def PtI (ws : List Wn) (os : List Nat) (ks : List (Int × Int)) (f : Int × Int → Nat) : Prop := ks.Nodup ∧ (∀ p ∈ ks, p ∈ grid) ∧ (∀ p, p ∈ ks ↔ topOf ws os p.1 p.2 ≠ none) ∧ ∀ p ∈ ks, topOf ws os p.1 p.2 = some (f p)
theorem top_snoc (ws : List Wn) (os : List Nat) (o : Nat) (x y : Int) : topOf ws (os ++ [o]) x y = if hasAt ws x y o then some o else topOf ws os x y := by
  unfold topOf
  rw [List.filter_append]
  by_cases h : hasAt ws x y o = true
  · rw [if_pos h, List.filter_cons_of_pos h, List.filter_nil, List.getLast?_append]
    rfl
  · rw [if_neg h, List.filter_cons_of_neg h, List.filter_nil, List.append_nil]
theorem pt_outer {ws : List Wn} (h : ∀ w ∈ ws, w.ok) (s1 : Slot) : ∀ (rest done : List Nat) (ks : List (Int × Int)) (f : Int × Int → Nat) (s3 s4 : Slot), (∀ o ∈ rest, o < ws.length) → PtI ws done ks f →
    ∃ (ks' : List (Int × Int)) (f' : Int × Int → Nat) (t3 t4 : Slot), forM (turnF (phi [r_cells_of]) (.name 3) ptA) (iN rest) [.val (wsD ws), s1, .own (.dic true (ks.map (kvF f))), s3, s4] = .ok (.nx [.val (wsD ws), s1, .own (.dic true (ks'.map (kvF f'))), t3, t4]) ∧ PtI ws (done ++ rest) ks' f'
  | [], done, ks, f, s3, s4, _, hi => ⟨ks, f, s3, s4, rfl, by rw [List.append_nil]; exact hi⟩
  | o :: rest, done, ks, f, s3, s4, hr, hi => by
    have ho := hr o List.mem_cons_self
    have hw : ws[o]? = some ws[o] := List.getElem?_eq_getElem ho
    have hk := h _ (List.getElem_mem ho)
    obtain ⟨hn, hg, hm, ht⟩ := hi
    obtain ⟨k1, f1, t4, q1, n1, m1, e1⟩ := pt_inner (.val (wsD ws)) s1 o (cellsOf ws[o]) ks f s4 hn hg fun p hp => cells_grid hk hp
    have hc : ∀ p : Int × Int, p ∈ cellsOf ws[o] ↔ hasAt ws p.1 p.2 o = true := fun p => by
      rw [mem_cellsOf]
      unfold hasAt
      rw [hw]
    have i1 : PtI ws (done ++ [o]) k1 f1 := by
      refine ⟨n1, fun p hp => ?_, fun p => ?_, fun p hp => ?_⟩
      · rcases (m1 p).mp hp with z | z
        · exact hg p z
        · exact cells_grid hk z
      · rw [m1 p, top_snoc, hc p, hm p]
        by_cases z : hasAt ws p.1 p.2 o = true
        · rw [if_pos z]; simp [z]
        · rw [if_neg z]; simp [z]
      · rw [top_snoc, e1 p]
        by_cases z : hasAt ws p.1 p.2 o = true
        · rw [if_pos z, if_pos ((hc p).mpr z)]
        · rw [if_neg z, if_neg (fun y => z ((hc p).mp y))]
          rcases (m1 p).mp hp with y | y
          · exact ht p y
          · exact absurd ((hc p).mp y) z
    obtain ⟨ks', f', u3, u4, q, i'⟩ := pt_outer h s1 rest (done ++ [o]) k1 f1 (.val (.int o)) t4 (fun x hx => hr x (List.mem_cons_of_mem _ hx)) i1
    refine ⟨ks', f', u3, u4, ?_, ?_⟩
    · have ix := ix_wsD hw
      have c := cells_of_ok hk
      have sq : itS .seq [.lst ((cellsOf ws[o]).map cD)] = .ok ((cellsOf ws[o]).map cD) := rfl
      have st : turnF (phi [r_cells_of]) (.name 3) ptA (.int o) [.val (wsD ws), s1, .own (.dic true (ks.map (kvF f))), s3, s4] = .ok (.nx [.val (wsD ws), s1, .own (.dic true (k1.map (kvF f1))), .val (.int o), t4]) := by
        generalize (cellsOf ws[o]).map cD = cc at *
        generalize k1.map (kvF f1) = kk1 at *
        generalize ks.map (kvF f) = kk at *
        generalize wD ws[o] = wo at *
        generalize wsD ws = wd at *
        unfold turnF ptA
        generalize ptB = pb at *
        simp -implicitDefEqProofs [ix, c, sq, q1]
      show andThen (turnF _ _ _ _ _) _ = _
      rw [st]
      exact q
    · rw [List.append_assoc] at i'
      exact i'
theorem painted_ok {ws : List Wn} (h : ∀ w ∈ ws, w.ok) {os : List Nat} (ho : ∀ o ∈ os, o < ws.length) : ∃ (ks : List (Int × Int)) (f : Int × Int → Nat), r_painted.sem [wsD ws, tuN os] = .ok (.dic true (ks.map (kvF f))) ∧ PtI ws os ks f := by
  obtain ⟨ks, f, t3, t4, q, hi⟩ := pt_outer h (.val (tuN os)) os [] [] (fun _ => 0) .no .no ho ⟨List.nodup_nil, (fun p hp => by cases hp), (fun p => by simp [topOf]), (fun p hp => by cases hp)⟩
  rw [List.nil_append] at hi
  refine ⟨ks, f, ?_, hi⟩
  rw [List.map_nil] at q
  have sq : itS .seq [tuN os] = .ok (iN os) := rfl
  have hI : ir_painted = .cons (.mk 2 (.dnew true)) (.cons (.for_ (.name 3) .seq (.cons (.var 1) .nil) ptA) (.cons (.frz 2) (.cons (.ret (.var 2)) .nil))) := rfl
  have hr : ∀ ds, r_painted.sem ds = runF (phi [r_cells_of]) 5 ir_painted ds := fun _ => rfl
  rw [hr, runF_eq, hI]
  generalize ks.map (kvF f) = kk at *
  generalize iN os = io at *
  generalize tuN os = to at *
  generalize wsD ws = wd at *
  generalize ptA = pa at *
  simp -implicitDefEqProofs [sq, q]
theorem dlook_F (f : Int × Int → Nat) (c : Int × Int) : ∀ {ks : List (Int × Int)}, c ∈ ks → dlook (cD c) (ks.map (kvF f)) = some (.int (f c : Nat))
  | k :: ks, hm => by
    show (if eqv (cD k) (cD c) then some (D.int (f k : Nat)) else dlook (cD c) (ks.map (kvF f))) = _
    rw [eqv_cD]
    by_cases z : k = c
    · rw [decide_eq_true z, if_pos rfl, z]
    · rw [decide_eq_false z, if_neg (by simp)]
      refine dlook_F f c ?_
      rcases List.mem_cons.mp hm with y | y
      · exact absurd y.symm z
      · exact y
theorem nodup_perm {α : Type} {a b : List α} (ha : a.Nodup) (hb : b.Nodup) (h : ∀ x, x ∈ a ↔ x ∈ b) : a.length = b.length := ((List.perm_ext_iff_of_nodup ha hb).mpr h).length_eq
theorem naive_seen_ok {ws : List Wn} {os : List Nat} {o : Nat} (h : ∀ w ∈ ws, w.ok) (hl : ws.length ≤ 6) (ho : os.Perm (List.range ws.length)) (hn : o < ws.length) : r_naive_seen.sem [wsD ws, tuN os, .int o] = .ok (.int (seenN ws os o ws[o]).length) := by
  have a : r_check_three.sem [wsD ws, tuN os, .int o] = .ok .non := check_three_ok h hl ho hn
  obtain ⟨ks, f, ep, nd, hg, hm, ht⟩ := painted_ok h (lt_of_perm ho)
  have kq : itS .keys [.dic true (ks.map (kvF f))] = .ok (ks.map cD) := by
    have q : ∀ kvs, itS .keys [.dic true kvs] = .ok (kvs.map (·.1)) := fun _ => rfl
    rw [q, List.map_map]
    rfl
  have f1 : lcM (ks.map cD) (itemL (phi [r_check_three, r_painted]) [.val (wsD ws), .val (tuN os), .val (.int o), .val (.dic true (ks.map (kvF f))), .no] [4] (.name 4) (.some (.cmp .Eq (.ix (.var 3) (.var 4)) (.var 2))) (.var 4)) = .ok ((ks.filter fun c => decide (f c = o)).map cD) := by
    refine lcM_filterI cD _ cD fun c hc => ?_
    have ix : ixS (.dic true (ks.map (kvF f))) (cD c) = .ok (.int (f c : Nat)) := by
      have q : ixS (.dic true (ks.map (kvF f))) (cD c) = if keyOf true (cD c) then (match dlook (cD c) (ks.map (kvF f)) with | some v => .ok v | none => .bad) else .bad := rfl
      rw [q, dlook_F f c hc]
      rfl
    generalize ks.map (kvF f) = kk at *
    generalize tuN os = to at *
    generalize wsD ws = wd at *
    generalize cD c = cd at *
    by_cases z : f c = o
    · rw [decide_eq_true z]
      have b : ((f c : Int) == o) = true := by rw [z]; simp
      simp -implicitDefEqProofs [itemL, ix, b]
    · rw [decide_eq_false z]
      have b : ((f c : Int) == o) = false := by simp; omega
      simp -implicitDefEqProofs [itemL, ix, b]
  have hw : ws[o]? = some ws[o] := List.getElem?_eq_getElem hn
  have e : (ks.filter fun c => decide (f c = o)).length = (seenN ws os o ws[o]).length := by
    refine nodup_perm (nd.filter _) ?_ fun p => ?_
    · unfold seenN
      exact (prod_nodup (rngI_nodup _ _) (rngI_nodup _ _)).filter _
    · unfold seenN
      rw [List.mem_filter, List.mem_filter, decide_eq_true_eq, decide_eq_true_eq]
      constructor
      · rintro ⟨h1, h2⟩
        have t := ht p h1
        rw [h2] at t
        refine ⟨?_, t⟩
        rw [mem_cellsOf]
        have := (top_has t).2
        unfold hasAt at this
        rw [hw] at this
        exact this
      · rintro ⟨h1, h2⟩
        have hk : p ∈ ks := (hm p).mpr (by rw [h2]; simp)
        have t := ht p hk
        rw [h2] at t
        exact ⟨hk, (Option.some.inj t).symm⟩
  have ln : ((ks.filter fun c => decide (f c = o)).map cD).length = (seenN ws os o ws[o]).length := by rw [List.length_map, e]
  generalize (ks.filter fun c => decide (f c = o)).map cD = fm at *
  generalize ks.map cD = km at *
  generalize ks.map (kvF f) = kk at *
  generalize tuN os = to at *
  generalize (seenN ws os o ws[o]).length = sl at *
  generalize wsD ws = wd at *
  simp -implicitDefEqProofs [r_naive_seen, ir_naive_seen, runF_eq, a, ep, kq, f1, ln]
theorem naive_can_hide_ok {ws : List Wn} {o : Nat} (h : ∀ w ∈ ws, w.ok) (hl : ws.length ≤ 4) (hn : o < ws.length) : r_naive_can_hide.sem [wsD ws, .int o] = .ok (.bl ((allO ws.length ws.length).any fun s => decide (scN ws s o = 0))) := by
  have a := check_windows_ok (wsD ws) (okd_wsD 6 ws)
  rw [areW_wsD h (by omega)] at a
  simp only [if_true] at a
  have b := check_number_ok hn
  have lw := len_wsD ws
  have lo := all_orders_ok hl
  have sq : itS .seq [.lst ((allO ws.length ws.length).map tuN)] = .ok ((allO ws.length ws.length).map tuN) := rfl
  have gt : ¬ (ws.length : Int) > 5 := by omega
  have gt' : decide ((ws.length : Int) > 5) = false := decide_eq_false gt
  have gt2 : ¬ (5 : Int) < ws.length := by omega
  have hw : ws[o]? = some ws[o] := List.getElem?_eq_getElem hn
  have f : lcM ((allO ws.length ws.length).map tuN) (itemL (phi [r_check_windows, r_check_number, r_hidden_in, r_all_orders]) [.val (wsD ws), .val (.int o), .no] [2] (.name 2) .none (.call 2 (.cons (.var 0) (.cons (.var 2) (.cons (.var 1) .nil))))) = .ok ((allO ws.length ws.length).map fun s => .bl (decide (scN ws s o = 0))) := by
    refine lcM_mapI tuN _ fun s hs => ?_
    have hd : r_hidden_in.sem [wsD ws, tuN s, .int o] = .ok (.bl (decide ((seenN ws s o ws[o]).length = 0))) := hidden_in_ok h (by omega) (mem_orders.mp hs) hw
    have e : scN ws s o = (seenN ws s o ws[o]).length := by unfold scN; rw [hw]
    rw [e]
    generalize decide ((seenN ws s o ws[o]).length = 0) = dd at *
    generalize tuN s = ts at *
    generalize wsD ws = wd at *
    simp -implicitDefEqProofs [itemL, hd]
  have an := any_bools (fun s => decide (scN ws s o = 0)) (allO ws.length ws.length)
  generalize ((allO ws.length ws.length).any fun s => decide (scN ws s o = 0)) = aa at *
  generalize (allO ws.length ws.length).map (fun s => (.bl (decide (scN ws s o = 0)) : D)) = bb at *
  generalize (allO ws.length ws.length).map tuN = tt at *
  generalize wsD ws = wd at *
  simp -implicitDefEqProofs [r_naive_can_hide, ir_naive_can_hide, runF_eq, a, b, lw, gt, gt', gt2, lo, sq, f, an]
/-! ### what is raised -/
theorem seenx_badW {d x y : D} (hd : okd 8 d = true) (hw : areW d = false) : r_naive_seen.sem [d, x, y] = .exc 1 := by
  have t := three_badW (x := x) (y := y) hd hw
  simp -implicitDefEqProofs [r_naive_seen, ir_naive_seen, runF_eq, t]
theorem hidex_badW {d y : D} (hd : okd 8 d = true) (hw : areW d = false) : r_naive_can_hide.sem [d, y] = .exc 1 := by
  have a := check_windows_ok d hd
  rw [hw] at a
  simp -implicitDefEqProofs [r_naive_can_hide, ir_naive_can_hide, runF_eq, a]
section
variable {ws : List Wn} {os : List Nat} (h : ∀ w ∈ ws, w.ok) (hl : ws.length ≤ 6)
include h hl
theorem seenx_badO {d y : D} (hd : okd 7 d = true) (hw : isO ws.length d = false) : r_naive_seen.sem [wsD ws, d, y] = .exc 2 := by
  have t := three_badO (y := y) h hl hd hw
  generalize wsD ws = wd at *
  simp -implicitDefEqProofs [r_naive_seen, ir_naive_seen, runF_eq, t]
theorem seenx_badN (ho : os.Perm (List.range ws.length)) {d : D} (hd : okd 7 d = true) (hw : isI 0 ((ws.length : Int) - 1) d = false) : r_naive_seen.sem [wsD ws, tuN os, d] = .exc 3 := by
  have t : r_check_three.sem [wsD ws, tuN os, d] = .exc 3 := three_badN h hl ho hd hw
  generalize tuN os = to at *
  generalize wsD ws = wd at *
  simp -implicitDefEqProofs [r_naive_seen, ir_naive_seen, runF_eq, t]
theorem hidex_badN {d : D} (hd : okd 7 d = true) (hw : isI 0 ((ws.length : Int) - 1) d = false) : r_naive_can_hide.sem [wsD ws, d] = .exc 3 := by
  have a := check_windows_ok (wsD ws) (okd_wsD 6 ws)
  rw [areW_wsD h hl] at a
  have b := number_bad (ws := ws) hd hw
  generalize wsD ws = wd at *
  simp -implicitDefEqProofs [r_naive_can_hide, ir_naive_can_hide, runF_eq, a, b]
end
end Pan

/-! Panestacks, part K29: regions, looks, orders that look alike. -/
namespace Pan
open PySem L2
theorem cells_list {ws : List Wn} (h : ∀ w ∈ ws, w.ok) : ∃ ks : List (Int × Int), r_all_cells.sem [wsD ws] = .ok (.lst (ks.map cD)) ∧ ∀ p, p ∈ ks ↔ ∃ o, hasAt ws p.1 p.2 o = true := by
  obtain ⟨ks, s2, s3, q, n, m⟩ := ac_outer (wsD ws) ws [] .no .no h List.nodup_nil (by simp)
  have hs : sortable (ks.map cD) = true := by
    unfold sortable
    rw [Bool.or_eq_true]
    right
    simp [isTupI, cD, isIntD]
  have hS : biS .sorted [.dic true (ks.map kvT)] = .ok (.lst (sortD (ks.map cD))) := by
    have e : biS .sorted [.dic true (ks.map kvT)] = sortS ((ks.map kvT).map (·.1)) := rfl
    rw [e, List.map_map]
    show sortS (ks.map cD) = _
    unfold sortS
    exact if_pos hs
  have inv : ∀ L : List D, (∀ d ∈ L, ∃ c, d = cD c) → ∃ l : List (Int × Int), L = l.map cD := fun L => by
    induction L with
    | nil => exact fun _ => ⟨[], rfl⟩
    | cons d L ih =>
      intro hd
      obtain ⟨c, rfl⟩ := hd d List.mem_cons_self
      obtain ⟨l, rfl⟩ := ih fun x hx => hd x (List.mem_cons_of_mem _ hx)
      exact ⟨c :: l, rfl⟩
  obtain ⟨l, el⟩ := inv (sortD (ks.map cD)) fun d hd => by
    obtain ⟨c, _, rfl⟩ := List.mem_map.mp ((sortD_perm _).mem_iff.mp hd)
    exact ⟨c, rfl⟩
  refine ⟨l, ?_, fun p => ?_⟩
  · rw [el] at hS
    have q' : forM (turnF (phi [r_cells_of]) (.name 2) (.cons (.for_ (.name 3) .seq (.cons (.call 0 (.cons (.var 2) .nil)) .nil) (.cons (.put 1 (.var 3) (.lit (.bl true))) .nil)) .nil)) (ws.map wD) [.val (.tup (ws.map wD)), .own (.dic true []), .no, .no] = .ok (.nx [.val (.tup (ws.map wD)), .own (.dic true (ks.map kvT)), s2, s3]) := q
    simp -implicitDefEqProofs [r_all_cells, ir_all_cells, runF_eq, wsD, q', hS]
  · have a : p ∈ l ↔ p ∈ ks := by
      have inj : ∀ {m : List (Int × Int)}, p ∈ m ↔ cD p ∈ m.map cD := fun {m} => by
        constructor
        · exact fun z => List.mem_map.mpr ⟨p, z, rfl⟩
        · intro z
          obtain ⟨c, hc, e⟩ := List.mem_map.mp z
          have : c = p := by
            have z := eqv_cD c p
            rw [e, eqv_cD, decide_eq_true rfl] at z
            exact of_decide_eq_true z.symm
          rw [← this]; exact hc
      rw [inj, inj, ← el, (sortD_perm _).mem_iff]
    rw [a, m p]
    constructor
    · rintro (z | ⟨w, hw, hp⟩)
      · cases z
      · obtain ⟨o, ho⟩ := List.getElem?_of_mem hw
        refine ⟨o, ?_⟩
        unfold hasAt
        rw [ho]
        exact mem_cellsOf.mp hp
    · rintro ⟨o, ho⟩
      right
      unfold hasAt at ho
      cases q : ws[o]? with
      | none => rw [q] at ho; cases ho
      | some w => rw [q] at ho; exact ⟨w, List.mem_of_getElem? q, mem_cellsOf.mpr ho⟩
theorem zip_range (f : Wn → Bool) : ∀ (ws : List Wn) (k : Nat), ((ws.zipIdx k).filter fun p => f p.1).map (·.2) = (List.range' k ws.length).filter fun o => match ws[o - k]? with | some w => f w | none => false
  | [], k => rfl
  | w :: ws, k => by
    rw [List.zipIdx_cons, List.length_cons, List.range'_succ, List.filter_cons, List.filter_cons]
    have e0 : (match (w :: ws)[k - k]? with | some w => f w | none => false) = f w := by rw [Nat.sub_self]; rfl
    have e1 : ((List.range' (k + 1) ws.length).filter fun o => match (w :: ws)[o - k]? with | some w => f w | none => false) = (List.range' (k + 1) ws.length).filter fun o => match ws[o - (k + 1)]? with | some w => f w | none => false := by
      refine List.filter_congr fun o ho => ?_
      have := (List.mem_range'_1.mp ho).1
      rw [show o - k = (o - (k + 1)) + 1 by omega, List.getElem?_cons_succ]
    rw [e0, e1, ← zip_range f ws (k + 1)]
    show (if f w = true then (w, k) :: _ else _).map (·.2) = _
    cases f w <;> rfl
theorem regN_eq (ws : List Wn) (x y : Int) : regN ws x y = (List.range ws.length).filter (hasAt ws x y) := by
  unfold regN
  rw [zip_range (fun w => w.has x y) ws 0, List.range_eq_range']
  rfl
theorem tuN_inj {a b : List Nat} (h : tuN a = tuN b) : a = b := by
  have z := eqv_tuN a b
  rw [h, eqv_tuN, decide_eq_true rfl] at z
  exact of_decide_eq_true z.symm
theorem tus_of : ∀ L : List D, (∀ d ∈ L, ∃ g, d = tuN g) → ∃ l : List (List Nat), L = l.map tuN
  | [], _ => ⟨[], rfl⟩
  | d :: L, hd => by
    obtain ⟨c, rfl⟩ := hd d List.mem_cons_self
    obtain ⟨l, rfl⟩ := tus_of L fun x hx => hd x (List.mem_cons_of_mem _ hx)
    exact ⟨c :: l, rfl⟩
theorem mem_tus {g : List Nat} {l : List (List Nat)} : tuN g ∈ l.map tuN ↔ g ∈ l := by
  rw [List.mem_map]
  constructor
  · rintro ⟨c, hc, e⟩
    rw [← tuN_inj e]; exact hc
  · exact fun z => ⟨g, z, rfl⟩
/-- sorted(set(..)) of tuples of which there are few different ones -/
theorem sortset_tus {l S : List (List Nat)} (hS : S.length < 63) (h : ∀ g ∈ l, g ∈ S ∧ g ≠ []) : ∃ r : List (List Nat), biS .sortset [.lst (l.map tuN)] = .ok (.lst (r.map tuN)) ∧ ∀ g, g ∈ r ↔ g ∈ l := by
  obtain ⟨nd, mem⟩ := dedup_spec (all := l.map tuN) (fun x hx y hy => by
    obtain ⟨a, _, rfl⟩ := List.mem_map.mp hx
    obtain ⟨b, _, rfl⟩ := List.mem_map.mp hy
    rw [eqv_tuN, decide_eq_true_eq]
    exact ⟨fun z => by rw [z], tuN_inj⟩) (l.map tuN) [] (fun x hx => hx) (fun x hx => by cases hx) List.nodup_nil
  have mem : ∀ x, x ∈ dedupD (l.map tuN) [] ↔ x ∈ l.map tuN := fun x => by
    rw [mem x]
    constructor
    · rintro (z | z)
      · cases z
      · exact z
    · exact .inr
  have few : (dedupD (l.map tuN) []).length < 63 := by
    have := nodup_le (m := S.map tuN) nd fun d hd => by
      obtain ⟨g, hg, rfl⟩ := List.mem_map.mp ((mem d).mp hd)
      exact List.mem_map.mpr ⟨g, (h g hg).1, rfl⟩
    rw [List.length_map] at this
    omega
  have isT : ∀ d ∈ l.map tuN, isTupI d = true := fun d hd => by
    obtain ⟨g, hg, rfl⟩ := List.mem_map.mp hd
    have := (h g hg).2
    cases g with
    | nil => exact absurd rfl this
    | cons a g => simp [tuN, iN, isTupI, isIntD]
  have st : setable (l.map tuN) = true := by
    unfold setable
    rw [Bool.or_eq_true]
    right
    rw [Bool.and_eq_true, Bool.or_eq_true]
    exact ⟨List.all_eq_true.mpr isT, .inr (decide_eq_true few)⟩
  have so : sortable (dedupD (l.map tuN) []) = true := by
    unfold sortable
    rw [Bool.or_eq_true, Bool.or_eq_true]
    exact .inr (.inl (List.all_eq_true.mpr fun d hd => isT d ((mem d).mp hd)))
  obtain ⟨r, er⟩ := tus_of (sortD (dedupD (l.map tuN) [])) fun d hd => by
    obtain ⟨g, _, rfl⟩ := List.mem_map.mp ((mem d).mp ((sortD_perm _).mem_iff.mp hd))
    exact ⟨g, rfl⟩
  refine ⟨r, ?_, fun g => ?_⟩
  · have q : biS .sortset [.lst (l.map tuN)] = if setable (l.map tuN) then sortS (dedupD (l.map tuN) []) else .bad := rfl
    rw [q, if_pos st]
    unfold sortS
    rw [if_pos so, er]
  · rw [← mem_tus (l := r), ← er, (sortD_perm _).mem_iff, mem, mem_tus]
section
variable {ws : List Wn} (h : ∀ w ∈ ws, w.ok) (hl : ws.length ≤ 4)
include h hl
theorem find_regions_ok : ∃ regs : List (List Nat), r_find_regions.sem [wsD ws] = .ok (.lst (regs.map tuN)) ∧ ∀ g, g ∈ regs ↔ g ≠ [] ∧ ∃ x y, regN ws x y = g := by
  obtain ⟨ks, ek, mk⟩ := cells_list h
  have f : lcM (ks.map cD) (itemL (phi [r_region_at, r_all_cells]) [.val (wsD ws), .no] [1] (.name 1) .none (.call 0 (.cons (.var 0) (.cons (.var 1) .nil)))) = .ok ((ks.map fun p => regN ws p.1 p.2).map tuN) := by
    rw [List.map_map]
    refine lcM_mapI cD _ fun p _ => ?_
    have r : r_region_at.sem [wsD ws, cD p] = .ok (tuN (regN ws p.1 p.2)) := region_at_ok ws p.1 p.2
    show _ = R.ok [tuN (regN ws p.1 p.2)]
    generalize tuN (regN ws p.1 p.2) = tr at *
    generalize cD p = cp at *
    generalize wsD ws = wd at *
    simp -implicitDefEqProofs [itemL, r]
  have ne : ∀ p ∈ ks, regN ws p.1 p.2 ≠ [] := fun p hp z => by
    obtain ⟨o, ho⟩ := (mk p).mp hp
    have := mem_regN.mpr ho
    rw [z] at this
    cases this
  obtain ⟨r, es, mr⟩ := sortset_tus (l := ks.map fun p => regN ws p.1 p.2) (S := GN ws.length) (by have := GN_size _ hl; omega) fun g hg => by
    obtain ⟨p, hp, rfl⟩ := List.mem_map.mp hg
    have n := ne p hp
    refine ⟨?_, n⟩
    rw [regN_eq] at n ⊢
    exact GN_mem hl _ n
  refine ⟨r, ?_, fun g => ?_⟩
  · have sq : itS .seq [.lst (ks.map cD)] = .ok (ks.map cD) := rfl
    generalize r.map tuN = rt at *
    generalize (ks.map fun p => regN ws p.1 p.2).map tuN = kt at *
    generalize ks.map cD = km at *
    generalize wsD ws = wd at *
    simp -implicitDefEqProofs [r_find_regions, ir_find_regions, runF_eq, ek, sq, f, es]
  · rw [mr, List.mem_map]
    constructor
    · rintro ⟨p, hp, rfl⟩
      exact ⟨ne p hp, p.1, p.2, rfl⟩
    · rintro ⟨n, x, y, rfl⟩
      obtain ⟨o, ho⟩ := List.exists_mem_of_ne_nil _ n
      exact ⟨(x, y), (mk (x, y)).mpr ⟨o, mem_regN.mp ho⟩, rfl⟩
end
def tpR (os g : List Nat) : Option Nat := (os.filter fun o => decide (o ∈ g)).getLast?
def lkD (regs : List (List Nat)) (os : List Nat) : D := .tup (regs.map fun g => oD (tpR os g))
theorem look_of_ok (regs : List (List Nat)) (os : List Nat) : r_look_of.sem [.lst (regs.map tuN), tuN os] = .ok (lkD regs os) := by
  have f : lcM (regs.map tuN) (itemL (phi [r_top_of]) [.val (.lst (regs.map tuN)), .val (tuN os), .no] [2] (.name 2) .none (.call 0 (.cons (.var 1) (.cons (.var 2) .nil)))) = .ok (regs.map fun g => oD (tpR os g)) := by
    refine lcM_mapI tuN _ fun g _ => ?_
    have t : r_top_of.sem [tuN os, tuN g] = .ok (oD (tpR os g)) := top_of_ok os g
    generalize oD (tpR os g) = og at *
    generalize tuN g = tg at *
    generalize tuN os = to at *
    generalize regs.map tuN = rm at *
    simp -implicitDefEqProofs [itemL, t]
  have sq : itS .seq [.lst (regs.map tuN)] = .ok (regs.map tuN) := rfl
  have tp : ∀ l, biS .tuple [.lst l] = .ok (.tup l) := fun _ => rfl
  unfold lkD
  generalize regs.map (fun g => oD (tpR os g)) = ro at *
  generalize regs.map tuN = rm at *
  generalize tuN os = to at *
  simp -implicitDefEqProofs [r_look_of, ir_look_of, runF_eq, sq, f, tp]
theorem eqv_oD (a b : Option Nat) : eqv (oD a) (oD b) = decide (a = b) := by
  cases a with
  | none => cases b <;> rfl
  | some x =>
    cases b with
    | none => rfl
    | some y =>
      show ((x : Int) == y) = _
      rw [Bool.eq_iff_iff, beq_iff_eq, decide_eq_true_eq]
      constructor
      · intro z
        rw [Int.ofNat_inj.mp z]
      · intro z
        rw [Option.some.inj z]
theorem eqvs_oD {α : Type} (f g : α → Option Nat) : ∀ l : List α, eqvs (l.map fun x => oD (f x)) (l.map fun x => oD (g x)) = decide (∀ x ∈ l, f x = g x)
  | [] => by simp [eqvs]
  | x :: l => by
    show (eqv (oD (f x)) (oD (g x)) && eqvs (l.map fun x => oD (f x)) (l.map fun x => oD (g x))) = _
    rw [eqv_oD, eqvs_oD f g l, Bool.eq_iff_iff]
    simp only [Bool.and_eq_true, decide_eq_true_eq, List.mem_cons, forall_eq_or_imp]
def sameB (ws : List Wn) (a b : List Nat) : Bool := decide (∀ p ∈ grid, topOf ws a p.1 p.2 = topOf ws b p.1 p.2)
theorem okd_oD (a : Option Nat) : okd 3 (oD a) = true := by cases a <;> rfl
theorem look_same {ws : List Wn} (h : ∀ w ∈ ws, w.ok) {regs : List (List Nat)} (hr : ∀ g, g ∈ regs ↔ g ≠ [] ∧ ∃ x y, regN ws x y = g) (a b : List Nat) : cmpS .Eq (lkD regs a) (lkD regs b) = .ok (sameB ws a b) := by
  have ok : ∀ s, okd 8 (lkD regs s) = true := fun s => by
    unfold lkD
    simp only [okd, List.all_eq_true, List.mem_map]
    rintro d ⟨g, _, rfl⟩
    exact okd_mono 3 7 _ (by omega) (okd_oD _)
  have q : cmpS .Eq (lkD regs a) (lkD regs b) = if okd 8 (lkD regs a) && okd 8 (lkD regs b) then .ok (eqvs (regs.map fun g => oD (tpR a g)) (regs.map fun g => oD (tpR b g))) else .bad := rfl
  rw [q, ok, ok, eqvs_oD]
  show R.ok _ = _
  refine congrArg R.ok ?_
  unfold sameB
  rw [Bool.eq_iff_iff, decide_eq_true_eq, decide_eq_true_eq]
  have tp : ∀ (s : List Nat) (x y : Int), tpR s (regN ws x y) = topOf ws s x y := fun s x y => by
    unfold tpR topOf
    rw [top_region]
  constructor
  · intro z p _
    by_cases e : regN ws p.1 p.2 = []
    · rw [← tp, ← tp, e]
      have z0 : ∀ s : List Nat, tpR s [] = none := fun s => by
        unfold tpR
        rw [List.getLast?_eq_none_iff, List.filter_eq_nil_iff]
        intro o _ y
        cases of_decide_eq_true y
      rw [z0, z0]
    · have := z _ ((hr _).mpr ⟨e, p.1, p.2, rfl⟩)
      rw [tp, tp] at this
      exact this
  · intro z g hg
    obtain ⟨e, x, y, rfl⟩ := (hr g).mp hg
    rw [tp, tp]
    obtain ⟨o, ho⟩ := List.exists_mem_of_ne_nil _ e
    have ho := mem_regN.mp ho
    refine z (x, y) ?_
    unfold hasAt at ho
    cases q : ws[o]? with
    | none => rw [q] at ho; cases ho
    | some w =>
      rw [q] at ho
      exact cells_grid (h w (List.mem_of_getElem? q)) (mem_cellsOf.mpr ho)
theorem screen_same (ws : List Wn) (a b : List Nat) : cmpS .Eq (.lst (scrD ws a)) (.lst (scrD ws b)) = .ok (sameB ws a b) := by
  have ok : ∀ s, okd 8 (.lst (scrD ws s)) = true := fun s => by
    unfold scrD
    simp only [okd, List.all_eq_true, List.mem_map]
    rintro d ⟨g, _, rfl⟩
    exact okd_mono 3 7 _ (by omega) (okd_oD _)
  rw [eq_lst (ok a) (ok b)]
  unfold scrD sameB
  rw [eqvs_oD (fun p : Int × Int => topOf ws a p.1 p.2) (fun p => topOf ws b p.1 p.2) grid]
theorem screen_diff (ws : List Wn) (a b : List Nat) : cmpS .NotEq (.lst (scrD ws a)) (.lst (scrD ws b)) = .ok (!sameB ws a b) := by
  have ok : ∀ s, okd 8 (.lst (scrD ws s)) = true := fun s => by
    unfold scrD
    simp only [okd, List.all_eq_true, List.mem_map]
    rintro d ⟨g, _, rfl⟩
    exact okd_mono 3 7 _ (by omega) (okd_oD _)
  rw [ne_lst (ok a) (ok b)]
  unfold scrD sameB
  rw [eqvs_oD (fun p : Int × Int => topOf ws a p.1 p.2) (fun p => topOf ws b p.1 p.2) grid]
def alkN (ws : List Wn) (s : List Nat) : List (List Nat) := (allO ws.length ws.length).filter fun t => sameB ws t s
theorem find_alike_ok {ws : List Wn} (h : ∀ w ∈ ws, w.ok) (hl : ws.length ≤ 4) (s : List Nat) : r_find_alike.sem [wsD ws, tuN s] = .ok (.lst ((alkN ws s).map tuN)) := by
  obtain ⟨regs, er, hr⟩ := find_regions_ok h hl
  have lo := all_orders_ok hl
  have lw := len_wsD ws
  have ls := look_of_ok regs s
  have f : lcM ((allO ws.length ws.length).map tuN) (itemL (phi [r_find_regions, r_look_of, r_all_orders]) [.val (wsD ws), .val (tuN s), .val (.lst (regs.map tuN)), .val (lkD regs s), .no] [4] (.name 4) (.some (.cmp .Eq (.call 1 (.cons (.var 2) (.cons (.var 4) .nil))) (.var 3))) (.var 4)) = .ok ((alkN ws s).map tuN) := by
    refine lcM_filterI tuN _ tuN fun t _ => ?_
    have lt := look_of_ok regs t
    have e := look_same h hr t s
    generalize lkD regs t = l1 at *
    generalize lkD regs s = l2 at *
    generalize tuN t = tt at *
    generalize tuN s = ts at *
    generalize regs.map tuN = rm at *
    generalize wsD ws = wd at *
    cases hb : sameB ws t s <;> rw [hb] at e <;> simp -implicitDefEqProofs [itemL, lt, e]
  have sq : itS .seq [.lst ((allO ws.length ws.length).map tuN)] = .ok ((allO ws.length ws.length).map tuN) := rfl
  generalize (alkN ws s).map tuN = an at *
  generalize (allO ws.length ws.length).map tuN = ao at *
  generalize lkD regs s = l2 at *
  generalize tuN s = ts at *
  generalize regs.map tuN = rm at *
  generalize wsD ws = wd at *
  simp -implicitDefEqProofs [r_find_alike, ir_find_alike, runF_eq, er, ls, lw, lo, sq, f]
end Pan

/-! Panestacks: the law's own defs (printed by gen_law.py). -/
namespace Pan
open PySem L2
def ir__law_steps_k16 : Ss := (.cons (.par [true, false] [1, 2] (.cons (.dsp (.var 0) (.lit (.int (0)))) (.cons (.lst (.cons (.var 0) .nil)) .nil))) (.cons (.whl 4000 (.cmp .NotEq (.var 2) (.lst .nil)) (.cons (.mk 3 (.lst .nil)) (.cons (.for_ (.name 4) .seq (.cons (.var 2) .nil) (.cons (.for_ (.name 5) .seq (.cons (.var 0) .nil) (.cons (.asg (.name 6) (.bin .Add (.bi .tuple (.cons (.lc [7] (.name 7) .seq (.cons (.var 4) .nil) (.some (.cmp .NotEq (.var 7) (.var 5))) (.var 7)) .nil)) (.tup (.cons (.var 5) .nil)))) (.cons (.ife (.cmp .NotIn (.var 6) (.ovar 1)) (.cons (.put 1 (.var 6) (.bin .Add (.ix (.ovar 1) (.var 4)) (.lit (.int (1))))) (.cons (.app 3 (.var 6)) .nil)) .nil) .nil))) .nil)) (.cons (.frz 3) (.cons (.asg (.name 2) (.var 3)) .nil))))) (.cons (.frz 1) (.cons (.ret (.var 1)) .nil))))
def r__law_steps_k16 : FnR := ⟨"_law_steps", 1, runF (phi []) 8 ir__law_steps_k16⟩
@[simp] theorem n__law_steps_k16 : r__law_steps_k16.n = 1 := rfl
def ir_law_k16 : Ss := (.cons (.for_ (.name 1) .rng1 (.cons (.lit (.int (2))) .nil) (.cons (.asg (.name 2) (.call 0 (.cons (.var 0) (.cons (.bin .Mult (.lit (.int (60))) (.var 1)) (.cons (.lit (.int (4))) .nil))))) (.cons (.asg (.name 3) (.bi .len (.cons (.var 2) .nil))) (.cons (.asg (.name 4) (.call 1 (.cons (.var 0) (.cons (.bin .Add (.bin .Mult (.lit (.int (60))) (.var 1)) (.lit (.int (30)))) (.cons (.var 3) .nil))))) (.cons (.asg (.name 5) (.call 2 (.cons (.var 4) .nil))) (.cons (.asg (.name 6) (.bi .dict (.cons (.lc [7] (.name 7) .seq (.cons (.call 3 (.cons (.var 3) .nil)) .nil) .none (.tup (.cons (.var 7) (.cons (.call 9 (.cons (.var 2) (.cons (.var 7) .nil))) .nil)))) .nil))) (.cons (.for_ (.name 8) .seq (.cons (.call 3 (.cons (.var 3) .nil)) .nil) (.cons (.ife (.cmp .NotEq (.call 5 (.cons (.var 2) (.cons (.var 4) (.cons (.var 8) .nil)))) (.ix (.var 5) (.var 8))) (.cons (.ret (.lit (.bl false))) .nil) .nil) (.cons (.asg (.name 9) (.call 4 (.cons (.var 2) (.cons (.var 4) (.cons (.var 8) .nil))))) (.cons (.asg (.name 10) (.var 4)) (.cons (.for_ (.name 11) .seq (.cons (.var 9) .nil) (.cons (.asg (.name 10) (.call 6 (.cons (.var 2) (.cons (.var 10) (.cons (.var 11) .nil))))) .nil)) (.cons (.ife (.or (.cons (.cmp .NotEq (.bi .len (.cons (.var 9) .nil)) (.ix (.var 5) (.var 8))) (.cons (.cmp .NotEq (.var 10) (.var 8)) .nil))) (.cons (.ret (.lit (.bl false))) .nil) .nil) (.cons (.asg (.name 12) (.bi .min (.cons (.lc [7] (.name 7) .keys (.cons (.var 5) .nil) (.some (.cmp .Eq (.ix (.var 6) (.var 7)) (.ix (.var 6) (.var 8)))) (.ix (.var 5) (.var 7))) .nil))) (.cons (.ife (.cmp .NotEq (.call 7 (.cons (.var 2) (.cons (.var 4) (.cons (.var 8) .nil)))) (.var 12)) (.cons (.ret (.lit (.bl false))) .nil) .nil) .nil)))))))) (.cons (.for_ (.name 11) .rng1 (.cons (.var 3) .nil) (.cons (.asg (.name 10) (.bin .Add (.bi .tuple (.cons (.lc [13] (.name 13) .seq (.cons (.var 4) .nil) (.some (.cmp .NotEq (.var 13) (.var 11))) (.var 13)) .nil)) (.tup (.cons (.var 11) .nil)))) (.cons (.ife (.cmp .NotEq (.call 6 (.cons (.var 2) (.cons (.var 4) (.cons (.var 11) .nil)))) (.var 10)) (.cons (.ret (.lit (.bl false))) .nil) .nil) (.cons (.ife (.cmp .NotEq (.call 8 (.cons (.var 2) (.cons (.var 4) (.cons (.var 11) .nil)))) (.cmp .NotEq (.ix (.var 6) (.var 10)) (.ix (.var 6) (.var 4)))) (.cons (.ret (.lit (.bl false))) .nil) .nil) .nil)))) .nil)))))))) (.cons (.ret (.and (.cons (.cmp .Eq (.call 4 (.cons (.bin .Mult (.tup (.cons (.tup (.cons (.lit (.int (0))) (.cons (.lit (.int (0))) (.cons (.lit (.int (1))) (.cons (.lit (.int (1))) .nil))))) .nil)) (.lit (.int (3)))) (.cons (.tup (.cons (.lit (.int (0))) (.cons (.lit (.int (1))) (.cons (.lit (.int (2))) .nil)))) (.cons (.tup (.cons (.lit (.int (1))) (.cons (.lit (.int (2))) (.cons (.lit (.int (0))) .nil)))) .nil)))) (.lst (.cons (.lit (.int (0))) .nil))) (.cons (.cmp .Eq (.call 5 (.cons (.tup .nil) (.cons (.tup .nil) (.cons (.tup .nil) .nil)))) (.lit (.int (0)))) .nil)))) .nil))
def r_law_k16 : FnR := ⟨"law", 1, runF (phi [r__law_panes, r__law_order, r__law_steps_k16, r__law_orders, r_raises_to, r_fewest_raises, r_raised, r_fewest_to_look, r_changes_look, r__law_screen]) 14 ir_law_k16⟩
@[simp] theorem n_law_k16 : r_law_k16.n = 1 := rfl
end Pan

/-! Panestacks: the mathematics of k16, part 1: raising, for all orders of at most four windows (by kernel evaluation). -/
namespace Pan
open PySem L2
/-- what is raised: behind the longest beginning of the target that is there already -/
def frP : List Nat → List Nat → List Nat
  | _, [] => []
  | rest, t :: tg => if rest.contains t then frP (rest.drop (rest.idxOf t + 1)) tg else t :: tg
def natsOf : List D → Option (List Nat)
  | [] => some []
  | .int i :: r => if 0 ≤ i then (natsOf r).map (i.toNat :: ·) else none
  | _ => none
theorem natsOf_ok : ∀ {ds : List D} {l : List Nat}, natsOf ds = some l → ds = iN l
  | [], l, h => by cases h; rfl
  | d :: r, l, h => by
    cases d with
    | int i =>
      have h : (if 0 ≤ i then (natsOf r).map (i.toNat :: ·) else none) = some l := h
      split at h
      · rename_i hi
        obtain ⟨m, h1, h2⟩ := Option.map_eq_some_iff.mp h
        subst h2
        rw [natsOf_ok h1]
        show D.int i :: iN m = .int ((i.toNat : Nat) : Int) :: iN m
        rw [Int.toNat_of_nonneg hi]
      · cases h
    | _ => cases h
def lstR : R D → Option (List Nat)
  | .ok (.lst ds) => natsOf ds
  | _ => none
theorem lstR_ok {r : R D} {l : List Nat} (h : lstR r = some l) : r = .ok (.lst (iN l)) := by
  unfold lstR at h
  split at h
  · rw [natsOf_ok h]
  · cases h
def rowsOfD : List (D × D) → Option (List (List Nat × Nat))
  | [] => some []
  | (.tup ds, .int i) :: r => if 0 ≤ i then (match natsOf ds, rowsOfD r with
    | some l, some m => some ((l, i.toNat) :: m)
    | _, _ => none) else none
  | _ => none
def rowD (p : List Nat × Nat) : D × D := (tuN p.1, .int (p.2 : Nat))
theorem rowsOfD_ok : ∀ {kvs : List (D × D)} {l : List (List Nat × Nat)}, rowsOfD kvs = some l → kvs = l.map rowD
  | [], l, h => by cases h; rfl
  | (a, b) :: r, l, h => by
    unfold rowsOfD at h
    split at h
    · rename_i heq; cases heq
    · rename_i ds i r' heq
      cases heq
      split at h
      · rename_i hi
        split at h
        · rename_i l1 m1 e1 e2
          cases h
          rw [natsOf_ok e1, rowsOfD_ok e2]
          show (tuN l1, D.int i) :: _ = (tuN l1, D.int ((i.toNat : Nat) : Int)) :: _
          rw [Int.toNat_of_nonneg hi]
        · cases h
      · cases h
    · cases h
def dicR : R D → Option (List (List Nat × Nat))
  | .ok (.dic true kvs) => rowsOfD kvs
  | _ => none
theorem dicR_ok {r : R D} {l : List (List Nat × Nat)} (h : dicR r = some l) : r = .ok (.dic true (l.map rowD)) := by
  unfold dicR at h
  split at h
  · rw [rowsOfD_ok h]
  · cases h
def rse1 (s : List Nat) (x : Nat) : List Nat := (s.filter fun y => decide (y ≠ x)) ++ [x]
def chk1 (n : Nat) : Bool := (allO n n).all fun os => (allO n n).all fun tg => decide (lstR (r_find_raises.sem [tuN os, tuN tg]) = some (frP os tg)) && decide ((frP os tg).foldl rse1 os = tg)
theorem chk1_ok : ∀ n, n ≤ 4 → chk1 n = true := by decide +kernel
end Pan

/-! Panestacks: the mathematics of k16, part 2: the steps. -/
namespace Pan
open PySem L2
def chk2a (n : Nat) (os : List Nat) : Bool := match dicR (r__law_steps_k16.sem [tuN os]) with
  | some l => (l.all fun p => decide (p.2 = (frP os p.1).length) && (allO n n).contains p.1) && ((allO n n).all fun tg => (l.map (·.1)).contains tg)
  | none => false
def chk2 (n : Nat) : Bool := (allO n n).all (chk2a n)
theorem chk2_3 : ∀ n, n ≤ 3 → chk2 n = true := by decide +kernel
theorem c2_0 : chk2a 4 [0, 1, 2, 3] = true := by decide +kernel
theorem c2_1 : chk2a 4 [0, 1, 3, 2] = true := by decide +kernel
theorem c2_2 : chk2a 4 [0, 2, 1, 3] = true := by decide +kernel
theorem c2_3 : chk2a 4 [0, 2, 3, 1] = true := by decide +kernel
theorem c2_4 : chk2a 4 [0, 3, 1, 2] = true := by decide +kernel
theorem c2_5 : chk2a 4 [0, 3, 2, 1] = true := by decide +kernel
theorem c2_6 : chk2a 4 [1, 0, 2, 3] = true := by decide +kernel
theorem c2_7 : chk2a 4 [1, 0, 3, 2] = true := by decide +kernel
theorem c2_8 : chk2a 4 [1, 2, 0, 3] = true := by decide +kernel
theorem c2_9 : chk2a 4 [1, 2, 3, 0] = true := by decide +kernel
theorem c2_10 : chk2a 4 [1, 3, 0, 2] = true := by decide +kernel
theorem c2_11 : chk2a 4 [1, 3, 2, 0] = true := by decide +kernel
theorem c2_12 : chk2a 4 [2, 0, 1, 3] = true := by decide +kernel
theorem c2_13 : chk2a 4 [2, 0, 3, 1] = true := by decide +kernel
theorem c2_14 : chk2a 4 [2, 1, 0, 3] = true := by decide +kernel
theorem c2_15 : chk2a 4 [2, 1, 3, 0] = true := by decide +kernel
theorem c2_16 : chk2a 4 [2, 3, 0, 1] = true := by decide +kernel
theorem c2_17 : chk2a 4 [2, 3, 1, 0] = true := by decide +kernel
theorem c2_18 : chk2a 4 [3, 0, 1, 2] = true := by decide +kernel
theorem c2_19 : chk2a 4 [3, 0, 2, 1] = true := by decide +kernel
theorem c2_20 : chk2a 4 [3, 1, 0, 2] = true := by decide +kernel
theorem c2_21 : chk2a 4 [3, 1, 2, 0] = true := by decide +kernel
theorem c2_22 : chk2a 4 [3, 2, 0, 1] = true := by decide +kernel
theorem c2_23 : chk2a 4 [3, 2, 1, 0] = true := by decide +kernel
theorem allO_4 : allO 4 4 = [[0, 1, 2, 3], [0, 1, 3, 2], [0, 2, 1, 3], [0, 2, 3, 1], [0, 3, 1, 2], [0, 3, 2, 1], [1, 0, 2, 3], [1, 0, 3, 2], [1, 2, 0, 3], [1, 2, 3, 0], [1, 3, 0, 2], [1, 3, 2, 0], [2, 0, 1, 3], [2, 0, 3, 1], [2, 1, 0, 3], [2, 1, 3, 0], [2, 3, 0, 1], [2, 3, 1, 0], [3, 0, 1, 2], [3, 0, 2, 1], [3, 1, 0, 2], [3, 1, 2, 0], [3, 2, 0, 1], [3, 2, 1, 0]] := by decide +kernel
theorem chk2_4 : chk2 4 = true := by
  unfold chk2
  rw [List.all_eq_true, allO_4]
  intro os h
  simp only [List.mem_cons, List.not_mem_nil, or_false] at h
  rcases h with rfl | rfl | rfl | rfl | rfl | rfl | rfl | rfl | rfl | rfl | rfl | rfl | rfl | rfl | rfl | rfl | rfl | rfl | rfl | rfl | rfl | rfl | rfl | rfl
  · exact c2_0
  · exact c2_1
  · exact c2_2
  · exact c2_3
  · exact c2_4
  · exact c2_5
  · exact c2_6
  · exact c2_7
  · exact c2_8
  · exact c2_9
  · exact c2_10
  · exact c2_11
  · exact c2_12
  · exact c2_13
  · exact c2_14
  · exact c2_15
  · exact c2_16
  · exact c2_17
  · exact c2_18
  · exact c2_19
  · exact c2_20
  · exact c2_21
  · exact c2_22
  · exact c2_23
theorem chk2_ok : ∀ n, n ≤ 4 → chk2 n = true := fun n hn => by
  by_cases h : n ≤ 3
  · exact chk2_3 n h
  · have : n = 4 := by omega
    subst this
    exact chk2_4
end Pan

/-! Panestacks: the mathematics of k16, part 3: the functions of raising. -/
namespace Pan
open PySem L2
theorem chk1_at {n : Nat} (hn : n ≤ 4) {os tg : List Nat} (ho : os ∈ allO n n) (ht : tg ∈ allO n n) : r_find_raises.sem [tuN os, tuN tg] = .ok (.lst (iN (frP os tg))) ∧ (frP os tg).foldl rse os = tg := by
  have c := List.all_eq_true.mp (List.all_eq_true.mp (chk1_ok n hn) os ho) tg ht
  rw [Bool.and_eq_true, decide_eq_true_eq, decide_eq_true_eq] at c
  exact ⟨lstR_ok c.1, c.2⟩
theorem chk2_at {n : Nat} (hn : n ≤ 4) {os : List Nat} (ho : os ∈ allO n n) : ∃ l : List (List Nat × Nat), r__law_steps_k16.sem [tuN os] = .ok (.dic true (l.map rowD)) ∧ (∀ p ∈ l, p.2 = (frP os p.1).length) ∧ ∀ tg, tg ∈ l.map (·.1) ↔ tg ∈ allO n n := by
  have c := List.all_eq_true.mp (chk2_ok n hn) os ho
  unfold chk2a at c
  cases q : dicR (r__law_steps_k16.sem [tuN os]) with
  | none => rw [q] at c; cases c
  | some l =>
    rw [q] at c
    dsimp only at c
    rw [Bool.and_eq_true, List.all_eq_true, List.all_eq_true] at c
    refine ⟨l, dicR_ok q, fun p hp => ?_, fun tg => ⟨fun z => ?_, fun z => ?_⟩⟩
    · have := c.1 p hp
      rw [Bool.and_eq_true, decide_eq_true_eq] at this
      exact this.1
    · obtain ⟨p, hp, rfl⟩ := List.mem_map.mp z
      have := c.1 p hp
      rw [Bool.and_eq_true] at this
      simpa using this.2
    · have := c.2 tg z
      simpa using this
theorem frP_sub : ∀ {rest tg : List Nat} {x : Nat}, x ∈ frP rest tg → x ∈ tg
  | _, [], _, h => by cases h
  | rest, t :: tg, x, h => by
    unfold frP at h
    split at h
    · exact List.mem_cons_of_mem _ (frP_sub h)
    · exact h
theorem min_iN {l : List Nat} {m : Nat} (hm : m ∈ l) (hl : ∀ x ∈ l, m ≤ x) : biS .min [.lst (iN l)] = .ok (.int m) := by
  have io : intsOf (iN l) = some (l.map fun (x : Nat) => (x : Int)) := by
    clear hm hl
    induction l with
    | nil => rfl
    | cons a l ih =>
      have q : intsOf (iN (a :: l)) = (intsOf (iN l)).map ((a : Int) :: ·) := rfl
      rw [q, ih]
      rfl
  cases l with
  | nil => cases hm
  | cons a l =>
    have q : biS .min [.lst (iN (a :: l))] = match intsOf (iN (a :: l)) with | some (n :: ns) => .ok (.int (minI n ns)) | _ => .bad := rfl
    rw [q, io]
    show R.ok (D.int (minI (a : Int) (l.map fun (x : Nat) => (x : Int)))) = _
    refine congrArg (fun z => R.ok (D.int z)) (minI_spec _ _ _ ?_ fun y hy => ?_)
    · rcases List.mem_cons.mp hm with e | e
      · rw [e]; exact List.mem_cons_self
      · exact List.mem_cons_of_mem _ (List.mem_map.mpr ⟨m, e, rfl⟩)
    · rcases List.mem_cons.mp hy with e | e
      · rw [e]; exact Int.ofNat_le.mpr (hl a List.mem_cons_self)
      · obtain ⟨x, hx, rfl⟩ := List.mem_map.mp e
        exact Int.ofNat_le.mpr (hl x (List.mem_cons_of_mem _ hx))
theorem exists_min : ∀ {l : List Nat}, l ≠ [] → ∃ m ∈ l, ∀ x ∈ l, m ≤ x
  | [], h => absurd rfl h
  | [a], _ => ⟨a, by simp, by simp⟩
  | a :: b :: l, _ => by
    obtain ⟨m, hm, hl⟩ := exists_min (l := b :: l) (by simp)
    by_cases q : a ≤ m
    · refine ⟨a, List.mem_cons_self, fun x hx => ?_⟩
      rcases List.mem_cons.mp hx with e | e
      · omega
      · have := hl x e; omega
    · refine ⟨m, List.mem_cons_of_mem _ hm, fun x hx => ?_⟩
      rcases List.mem_cons.mp hx with e | e
      · omega
      · exact hl x e
theorem find_raised_ok (s : List Nat) (x : Nat) (hs : s.length ≤ 100) : r_find_raised.sem [tuN s, .int x] = .ok (tuN (rse s x)) := by
  have f : lcM (iN s) (itemL (phi []) [.val (tuN s), .val (.int x), .no] [2] (.name 2) (.some (.cmp .NotEq (.var 2) (.var 1))) (.var 2)) = .ok (iN (s.filter fun o => decide (o ≠ x))) := by
    refine lcM_filterI (fun (i : Nat) => (.int i : D)) _ (fun (i : Nat) => (.int i : D)) fun o _ => ?_
    generalize tuN s = ts at *
    by_cases q : o = x
    · have b : ((o : Int) == x) = true := by rw [q]; simp
      have c : decide (o ≠ x) = false := by simp [q]
      rw [c]
      simp -implicitDefEqProofs [itemL, b]
    · have b : ((o : Int) == x) = false := by simp; omega
      have c : decide (o ≠ x) = true := by simp [q]
      rw [c]
      simp -implicitDefEqProofs [itemL, b]
  have sq : itS .seq [tuN s] = .ok (iN s) := rfl
  have tp : ∀ l, biS .tuple [.lst l] = .ok (.tup l) := fun _ => rfl
  have ad : binS .Add (.tup (iN (s.filter fun o => decide (o ≠ x)))) (.tup [.int x]) = .ok (tuN (rse s x)) := by
    have q : binS .Add (.tup (iN (s.filter fun o => decide (o ≠ x)))) (.tup [.int x]) = fitL (iN (s.filter fun o => decide (o ≠ x)) ++ [.int x]) .tup := rfl
    have : (s.filter fun o => decide (o ≠ x)).length ≤ 100 := Nat.le_trans (List.length_filter_le _ _) hs
    rw [q, fit_le (by rw [List.length_append, iN_len, List.length_singleton]; omega)]
    unfold tuN rse iN
    rw [List.map_append]
    rfl
  generalize tuN (rse s x) = tr at *
  generalize iN (s.filter fun o => decide (o ≠ x)) = fs at *
  generalize iN s = is at *
  generalize tuN s = ts at *
  simp -implicitDefEqProofs [r_find_raised, ir_find_raised, runF_eq, sq, f, tp, ad, fit_1]
section
variable {ws : List Wn} {os : List Nat} (h : ∀ w ∈ ws, w.ok) (hl : ws.length ≤ 4) (ho : os.Perm (List.range ws.length))
include h hl ho
theorem check_two_ok {tg : List Nat} (ht : tg.Perm (List.range ws.length)) : r_check_two.sem [wsD ws, tuN os, tuN tg] = .ok .non := by
  have a : r_check_both.sem [wsD ws, tuN os] = .ok .non := check_both_ok h (by omega) ho
  have b := check_order_ok ws.length (wsD ws) (osD tg) (len_wsD ws) (by omega) (okd_osD 6 tg)
  rw [isO_osD ht] at b
  simp only [if_true] at b
  have b : r_check_order.sem [wsD ws, tuN tg] = .ok .non := b
  generalize tuN tg = tt at *
  generalize tuN os = to at *
  generalize wsD ws = wd at *
  simp -implicitDefEqProofs [r_check_two, ir_check_two, runF_eq, a, b]
theorem raised_ok {x : Nat} (hx : x < ws.length) : r_raised.sem [wsD ws, tuN os, .int x] = .ok (tuN (rse os x)) := by
  have a : r_check_three.sem [wsD ws, tuN os, .int x] = .ok .non := check_three_ok h (by omega) ho hx
  have b := find_raised_ok os x (by rw [ho.length_eq, List.length_range]; omega)
  generalize tuN (rse os x) = tr at *
  generalize tuN os = to at *
  generalize wsD ws = wd at *
  simp -implicitDefEqProofs [r_raised, ir_raised, runF_eq, a, b]
theorem changes_look_ok {x : Nat} (hx : x < ws.length) : r_changes_look.sem [wsD ws, tuN os, .int x] = .ok (.bl (!wholeB ws os x)) := by
  have hw : ws[x]? = some ws[x] := List.getElem?_eq_getElem hx
  have a : r_check_three.sem [wsD ws, tuN os, .int x] = .ok .non := check_three_ok h (by omega) ho hx
  have b : r_whole_in.sem [wsD ws, tuN os, .int x] = .ok (.bl (decide ((seenN ws os x ws[x]).length = (cellsOf ws[x]).length))) := whole_in_ok h (by omega) ho hw
  have e : wholeB ws os x = decide ((seenN ws os x ws[x]).length = (cellsOf ws[x]).length) := by unfold wholeB; rw [hw]
  rw [e]
  generalize decide ((seenN ws os x ws[x]).length = (cellsOf ws[x]).length) = dd at *
  generalize tuN os = to at *
  generalize wsD ws = wd at *
  simp -implicitDefEqProofs [r_changes_look, ir_changes_look, runF_eq, a, b]
theorem fewest_raises_ok {tg : List Nat} (ht : tg.Perm (List.range ws.length)) : r_fewest_raises.sem [wsD ws, tuN os, tuN tg] = .ok (.int (frP os tg).length) := by
  have a := check_two_ok h hl ho ht
  obtain ⟨b, _⟩ := chk1_at hl (mem_orders.mpr ho) (mem_orders.mpr ht)
  have l := iN_len (frP os tg)
  generalize iN (frP os tg) = ff at *
  generalize tuN tg = tt at *
  generalize tuN os = to at *
  generalize wsD ws = wd at *
  simp -implicitDefEqProofs [r_fewest_raises, ir_fewest_raises, runF_eq, a, b, l]
theorem raises_to_ok {tg : List Nat} (ht : tg.Perm (List.range ws.length)) : r_raises_to.sem [wsD ws, tuN os, tuN tg] = .ok (.lst (iN (frP os tg))) := by
  have a := check_two_ok h hl ho ht
  obtain ⟨b, _⟩ := chk1_at hl (mem_orders.mpr ho) (mem_orders.mpr ht)
  generalize iN (frP os tg) = ff at *
  generalize tuN tg = tt at *
  generalize tuN os = to at *
  generalize wsD ws = wd at *
  simp -implicitDefEqProofs [r_raises_to, ir_raises_to, runF_eq, a, b]
theorem fewest_to_look_ok {tg : List Nat} (ht : tg.Perm (List.range ws.length)) {m : Nat} (hm : m ∈ (alkN ws tg).map fun s => (frP os s).length) (hl2 : ∀ x ∈ (alkN ws tg).map fun s => (frP os s).length, m ≤ x) : r_fewest_to_look.sem [wsD ws, tuN os, tuN tg] = .ok (.int m) := by
  have a := check_two_ok h hl ho ht
  have al := find_alike_ok h hl tg
  have f : lcM ((alkN ws tg).map tuN) (itemL (phi [r_check_two, r_find_raises, r_find_alike]) [.val (wsD ws), .val (tuN os), .val (tuN tg), .no] [3] (.name 3) .none (.bi .len (.cons (.call 1 (.cons (.var 1) (.cons (.var 3) .nil))) .nil))) = .ok (iN ((alkN ws tg).map fun s => (frP os s).length)) := by
    rw [show iN ((alkN ws tg).map fun s => (frP os s).length) = (alkN ws tg).map fun s => .int ((frP os s).length : Int) by unfold iN; rw [List.map_map]; rfl]
    refine lcM_mapI tuN _ fun s hs => ?_
    obtain ⟨b, _⟩ := chk1_at hl (mem_orders.mpr ho) (List.mem_filter.mp hs).1
    have l := iN_len (frP os s)
    generalize iN (frP os s) = ff at *
    generalize tuN s = ts at *
    generalize tuN tg = tt at *
    generalize tuN os = to at *
    generalize wsD ws = wd at *
    simp -implicitDefEqProofs [itemL, b, l]
  have sq : itS .seq [.lst ((alkN ws tg).map tuN)] = .ok ((alkN ws tg).map tuN) := rfl
  have mi := min_iN hm hl2
  generalize iN ((alkN ws tg).map fun s => (frP os s).length) = im at *
  generalize (alkN ws tg).map tuN = am at *
  generalize tuN tg = tt at *
  generalize tuN os = to at *
  generalize wsD ws = wd at *
  simp -implicitDefEqProofs [r_fewest_to_look, ir_fewest_to_look, runF_eq, a, al, sq, f, mi]
end
end Pan

/-! Panestacks: the mathematics of k16, part 4: the law. -/
namespace Pan
open PySem L2
def Γ16 : List FnR := [r__law_panes, r__law_order, r__law_steps_k16, r__law_orders, r_raises_to, r_fewest_raises, r_raised, r_fewest_to_look, r_changes_look, r__law_screen]
theorem rse_same {ws : List Wn} (h : ∀ w ∈ ws, w.ok) {os : List Nat} {x : Nat} (hx : x < ws.length) : sameB ws (rse os x) os = wholeB ws os x := by
  have hw : ws[x]? = some ws[x] := List.getElem?_eq_getElem hx
  have hk := h _ (List.getElem_mem hx)
  have hc : ∀ p : Int × Int, p ∈ cellsOf ws[x] ↔ hasAt ws p.1 p.2 x = true := fun p => by
    rw [mem_cellsOf]
    unfold hasAt
    rw [hw]
  have e : ∀ p : Int × Int, hasAt ws p.1 p.2 x = false → topOf ws (os.filter fun o => decide (o ≠ x)) p.1 p.2 = topOf ws os p.1 p.2 := fun p hp => by
    unfold topOf
    rw [List.filter_filter]
    refine congrArg List.getLast? (List.filter_congr fun o _ => ?_)
    by_cases q : o = x
    · rw [q, hp]; rfl
    · have : decide (o ≠ x) = true := decide_eq_true q
      rw [this, Bool.and_true]
  have ew : wholeB ws os x = decide ((seenN ws os x ws[x]).length = (cellsOf ws[x]).length) := by unfold wholeB; rw [hw]
  rw [ew]
  unfold sameB rse
  rw [Bool.eq_iff_iff, decide_eq_true_eq, decide_eq_true_eq]
  unfold seenN
  rw [List.length_filter_eq_length_iff]
  constructor
  · intro z p hp
    have hp' := (hc p).mp hp
    have := z p (cells_grid hk hp)
    rw [top_snoc, if_pos hp'] at this
    rw [← this]
    exact decide_eq_true rfl
  · intro z p _
    rw [top_snoc]
    by_cases q : hasAt ws p.1 p.2 x = true
    · rw [if_pos q]
      exact (of_decide_eq_true (z p ((hc p).mpr q))).symm
    · rw [if_neg q]
      exact e p (by simpa using q)
/-! ### the dict of looks -/
def lkK (ws : List Wn) (s : List Nat) : D × D := (tuN s, .lst (scrD ws s))
theorem fold_put (ws : List Wn) : ∀ (L A : List (List Nat)), (A ++ L).Nodup → (L.map (lkK ws)).foldl (fun acc p => dput p.1 p.2 acc) (A.map (lkK ws)) = (A ++ L).map (lkK ws)
  | [], A, _ => by rw [List.append_nil]; rfl
  | s :: L, A, nd => by
    rw [List.map_cons, List.foldl_cons]
    have ns : s ∉ A := fun z => by
      have := (List.nodup_append.mp nd).2.2 s z s List.mem_cons_self
      exact this rfl
    have e : dput (lkK ws s).1 (lkK ws s).2 (A.map (lkK ws)) = (A ++ [s]).map (lkK ws) := by
      unfold dput
      have a : ((A.map (lkK ws)).any fun p => eqv p.1 (lkK ws s).1) = false := by
        rw [List.any_map, List.any_eq_false]
        intro t ht
        show ¬ eqv (tuN t) (tuN s) = true
        rw [eqv_tuN, decide_eq_true_eq]
        rintro rfl
        exact ns ht
      rw [a, if_neg (by simp), List.map_append]
      rfl
    rw [e, fold_put ws L (A ++ [s]) (by rw [List.append_assoc]; exact nd), List.append_assoc]
    rfl
theorem dict_looks (ws : List Wn) {L : List (List Nat)} (nd : L.Nodup) : biS .dict [.lst (L.map fun s => .tup [tuN s, .lst (scrD ws s)])] = .ok (.dic true (L.map (lkK ws))) := by
  have q : ∀ xs, biS .dict [.lst xs] = match pairsOf xs with | some ps => .ok (.dic true (ps.foldl (fun acc p => dput p.1 p.2 acc) [])) | none => .bad := fun _ => rfl
  have p : ∀ L : List (List Nat), pairsOf (L.map fun s => .tup [tuN s, .lst (scrD ws s)]) = some (L.map (lkK ws)) := fun L => by
    induction L with
    | nil => rfl
    | cons s L ih =>
      have e : pairsOf ((s :: L).map fun s => .tup [tuN s, .lst (scrD ws s)]) = if keyT (tuN s) then (pairsOf (L.map fun s => .tup [tuN s, .lst (scrD ws s)])).map ((tuN s, .lst (scrD ws s)) :: ·) else none := rfl
      rw [e, ih, if_pos (by simp [keyT, tuN, iN, isIntD])]
      rfl
  rw [q, p]
  show R.ok (D.dic true ((L.map (lkK ws)).foldl (fun acc p => dput p.1 p.2 acc) (([] : List (List Nat)).map (lkK ws)))) = _
  rw [fold_put ws L [] nd]
  rfl
theorem dlook_lk (ws : List Wn) {s : List Nat} : ∀ {L : List (List Nat)}, s ∈ L → dlook (tuN s) (L.map (lkK ws)) = some (.lst (scrD ws s))
  | t :: L, hm => by
    show (if eqv (tuN t) (tuN s) then some (D.lst (scrD ws t)) else dlook (tuN s) (L.map (lkK ws))) = _
    rw [eqv_tuN]
    by_cases z : t = s
    · rw [decide_eq_true z, if_pos rfl, z]
    · rw [decide_eq_false z, if_neg (by simp)]
      refine dlook_lk ws ?_
      rcases List.mem_cons.mp hm with y | y
      · exact absurd y.symm z
      · exact y
theorem ix_lk (ws : List Wn) {L : List (List Nat)} {s : List Nat} (hm : s ∈ L) : ixS (.dic true (L.map (lkK ws))) (tuN s) = .ok (.lst (scrD ws s)) := by
  have q : ixS (.dic true (L.map (lkK ws))) (tuN s) = if keyOf true (tuN s) then (match dlook (tuN s) (L.map (lkK ws)) with | some v => .ok v | none => .bad) else .bad := rfl
  have k : keyOf true (tuN s) = true := by
    show keyT (tuN s) = true
    simp [keyT, tuN, iN, isIntD]
  rw [q, dlook_lk ws hm, if_pos k]
theorem dlook_row {F : List Nat → Nat} {s : List Nat} : ∀ {l : List (List Nat × Nat)}, (∀ p ∈ l, p.2 = F p.1) → s ∈ l.map (·.1) → dlook (tuN s) (l.map rowD) = some (.int (F s : Nat))
  | p :: l, hp, hm => by
    show (if eqv (tuN p.1) (tuN s) then some (D.int (p.2 : Nat)) else dlook (tuN s) (l.map rowD)) = _
    rw [eqv_tuN]
    by_cases z : p.1 = s
    · rw [decide_eq_true z, if_pos rfl, hp p List.mem_cons_self, z]
    · rw [decide_eq_false z, if_neg (by simp)]
      refine dlook_row (fun q hq => hp q (List.mem_cons_of_mem _ hq)) ?_
      rw [List.map_cons] at hm
      rcases List.mem_cons.mp hm with y | y
      · exact absurd y.symm z
      · exact y
theorem ix_row {F : List Nat → Nat} {l : List (List Nat × Nat)} (hp : ∀ p ∈ l, p.2 = F p.1) {s : List Nat} (hm : s ∈ l.map (·.1)) : ixS (.dic true (l.map rowD)) (tuN s) = .ok (.int (F s : Nat)) := by
  have q : ixS (.dic true (l.map rowD)) (tuN s) = if keyOf true (tuN s) then (match dlook (tuN s) (l.map rowD) with | some v => .ok v | none => .bad) else .bad := rfl
  have k : keyOf true (tuN s) = true := by
    show keyT (tuN s) = true
    simp [keyT, tuN, iN, isIntD]
  rw [q, dlook_row hp hm, if_pos k]
theorem ne_tuN (g : List Nat) : cmpS .NotEq (tuN g) (tuN g) = .ok false := by
  have q : cmpS .NotEq (tuN g) (tuN g) = if okd 8 (tuN g) && okd 8 (tuN g) then .ok (!eqv (tuN g) (tuN g)) else .bad := rfl
  have o : okd 8 (tuN g) = true := by simp [tuN, iN, okd]
  rw [q, o, eqv_tuN, decide_eq_true rfl]
  rfl
/-! ### the loops -/
def rwB : Ss := .cons (.asg (.name 10) (.call 6 (.cons (.var 2) (.cons (.var 10) (.cons (.var 11) .nil))))) .nil
def tgB : Ss := (.cons (.ife (.cmp .NotEq (.call 5 (.cons (.var 2) (.cons (.var 4) (.cons (.var 8) .nil)))) (.ix (.var 5) (.var 8))) (.cons (.ret (.lit (.bl false))) .nil) .nil) (.cons (.asg (.name 9) (.call 4 (.cons (.var 2) (.cons (.var 4) (.cons (.var 8) .nil))))) (.cons (.asg (.name 10) (.var 4)) (.cons (.for_ (.name 11) .seq (.cons (.var 9) .nil) rwB) (.cons (.ife (.or (.cons (.cmp .NotEq (.bi .len (.cons (.var 9) .nil)) (.ix (.var 5) (.var 8))) (.cons (.cmp .NotEq (.var 10) (.var 8)) .nil))) (.cons (.ret (.lit (.bl false))) .nil) .nil) (.cons (.asg (.name 12) (.bi .min (.cons (.lc [7] (.name 7) .keys (.cons (.var 5) .nil) (.some (.cmp .Eq (.ix (.var 6) (.var 7)) (.ix (.var 6) (.var 8)))) (.ix (.var 5) (.var 7))) .nil))) (.cons (.ife (.cmp .NotEq (.call 7 (.cons (.var 2) (.cons (.var 4) (.cons (.var 8) .nil)))) (.var 12)) (.cons (.ret (.lit (.bl false))) .nil) .nil) .nil)))))))
def nuB : Ss := (.cons (.asg (.name 10) (.bin .Add (.bi .tuple (.cons (.lc [13] (.name 13) .seq (.cons (.var 4) .nil) (.some (.cmp .NotEq (.var 13) (.var 11))) (.var 13)) .nil)) (.tup (.cons (.var 11) .nil)))) (.cons (.ife (.cmp .NotEq (.call 6 (.cons (.var 2) (.cons (.var 4) (.cons (.var 11) .nil)))) (.var 10)) (.cons (.ret (.lit (.bl false))) .nil) .nil) (.cons (.ife (.cmp .NotEq (.call 8 (.cons (.var 2) (.cons (.var 4) (.cons (.var 11) .nil)))) (.cmp .NotEq (.ix (.var 6) (.var 10)) (.ix (.var 6) (.var 4)))) (.cons (.ret (.lit (.bl false))) .nil) .nil) .nil)))
def lw16 : Ss := (.cons (.asg (.name 2) (.call 0 (.cons (.var 0) (.cons (.bin .Mult (.lit (.int (60))) (.var 1)) (.cons (.lit (.int (4))) .nil))))) (.cons (.asg (.name 3) (.bi .len (.cons (.var 2) .nil))) (.cons (.asg (.name 4) (.call 1 (.cons (.var 0) (.cons (.bin .Add (.bin .Mult (.lit (.int (60))) (.var 1)) (.lit (.int (30)))) (.cons (.var 3) .nil))))) (.cons (.asg (.name 5) (.call 2 (.cons (.var 4) .nil))) (.cons (.asg (.name 6) (.bi .dict (.cons (.lc [7] (.name 7) .seq (.cons (.call 3 (.cons (.var 3) .nil)) .nil) .none (.tup (.cons (.var 7) (.cons (.call 9 (.cons (.var 2) (.cons (.var 7) .nil))) .nil)))) .nil))) (.cons (.for_ (.name 8) .seq (.cons (.call 3 (.cons (.var 3) .nil)) .nil) tgB) (.cons (.for_ (.name 11) .rng1 (.cons (.var 3) .nil) nuB) .nil)))))))
section
variable {ws : List Wn} (h : ∀ w ∈ ws, w.ok) (hl : ws.length ≤ 4)
include h hl
theorem rw_loop (s0 s1 s3 s4 s5 s6 s7 s8 s9 s12 s13 : Slot) : ∀ (row cur : List Nat) (s11 : Slot), (∀ x ∈ row, x < ws.length) → cur.Perm (List.range ws.length) → ∃ t11, forM (turnF (phi Γ16) (.name 11) rwB) (iN row) [s0, s1, .val (wsD ws), s3, s4, s5, s6, s7, s8, s9, .val (tuN cur), s11, s12, s13] = .ok (.nx [s0, s1, .val (wsD ws), s3, s4, s5, s6, s7, s8, s9, .val (tuN (row.foldl rse cur)), t11, s12, s13])
  | [], cur, s11, _, _ => ⟨s11, rfl⟩
  | x :: row, cur, s11, hr, hc => by
    have hx := hr x List.mem_cons_self
    obtain ⟨t11, q⟩ := rw_loop s0 s1 s3 s4 s5 s6 s7 s8 s9 s12 s13 row (rse cur x) (.val (.int x)) (fun y hy => hr y (List.mem_cons_of_mem _ hy)) (rse_perm hc hx)
    refine ⟨t11, ?_⟩
    have r := raised_ok h hl hc hx
    have p6 : ∀ ds, phi Γ16 6 ds = arity r_raised.n r_raised.sem ds := fun _ => rfl
    have st : turnF (phi Γ16) (.name 11) rwB (.int x) [s0, s1, .val (wsD ws), s3, s4, s5, s6, s7, s8, s9, .val (tuN cur), s11, s12, s13] = .ok (.nx [s0, s1, .val (wsD ws), s3, s4, s5, s6, s7, s8, s9, .val (tuN (rse cur x)), .val (.int x), s12, s13]) := by
      generalize tuN (rse cur x) = tr at *
      generalize tuN cur = tc at *
      generalize wsD ws = wd at *
      unfold turnF rwB
      simp -implicitDefEqProofs [p6, r]
    show andThen (turnF _ _ _ _ _) _ = _
    rw [st]
    exact q
theorem tg_turn {os : List Nat} (ho : os.Perm (List.range ws.length)) {l : List (List Nat × Nat)} (hp : ∀ p ∈ l, p.2 = (frP os p.1).length) (hk : ∀ t, t ∈ l.map (·.1) ↔ t ∈ allO ws.length ws.length) {tg : List Nat} (ht : tg ∈ allO ws.length ws.length) (s0 s1 s7 s8 s9 s10 s11 s12 s13 : Slot) : ∃ t9 t10 t11 t12, turnF (phi Γ16) (.name 8) tgB (tuN tg) [s0, s1, .val (wsD ws), .val (.int ws.length), .val (tuN os), .val (.dic true (l.map rowD)), .val (.dic true ((allO ws.length ws.length).map (lkK ws))), s7, s8, s9, s10, s11, s12, s13] = .ok (.nx [s0, s1, .val (wsD ws), .val (.int ws.length), .val (tuN os), .val (.dic true (l.map rowD)), .val (.dic true ((allO ws.length ws.length).map (lkK ws))), s7, .val (tuN tg), t9, t10, t11, t12, s13]) := by
  have htp := mem_orders.mp ht
  have fr := fewest_raises_ok h hl ho htp
  have ra := raises_to_ok h hl ho htp
  have ixr := ix_row (F := fun s => (frP os s).length) hp ((hk tg).mpr ht)
  obtain ⟨_, fo⟩ := chk1_at hl (mem_orders.mpr ho) ht
  obtain ⟨t11, q3⟩ := rw_loop h hl s0 s1 (.val (.int ws.length)) (.val (tuN os)) (.val (.dic true (l.map rowD))) (.val (.dic true ((allO ws.length ws.length).map (lkK ws)))) s7 (.val (tuN tg)) (.val (.lst (iN (frP os tg)))) s12 s13 (frP os tg) os s11 (fun x hx => lt_of_perm htp x (frP_sub hx)) ho
  rw [fo] at q3
  have ln : biS .len [.lst (iN (frP os tg))] = .ok (.int (frP os tg).length) := by rw [len_lst, iN_len]
  have ne : ((alkN ws tg).map fun s => (frP os s).length) ≠ [] := fun z => by
    have m : tg ∈ alkN ws tg := List.mem_filter.mpr ⟨ht, decide_eq_true fun _ _ => rfl⟩
    rw [List.map_eq_nil_iff] at z
    rw [z] at m
    cases m
  obtain ⟨m, hm, hmin⟩ := exists_min ne
  have ft := fewest_to_look_ok h hl ho htp hm hmin
  have kq : itS .keys [.dic true (l.map rowD)] = .ok ((l.map (·.1)).map tuN) := by
    have q : ∀ kvs, itS .keys [.dic true kvs] = .ok (kvs.map (·.1)) := fun _ => rfl
    rw [q, List.map_map, List.map_map]
    rfl
  have ixt := ix_lk ws ht
  have f6 : ∀ s10 s11, lcM ((l.map (·.1)).map tuN) (itemL (phi Γ16) [s0, s1, .val (wsD ws), .val (.int ws.length), .val (tuN os), .val (.dic true (l.map rowD)), .val (.dic true ((allO ws.length ws.length).map (lkK ws))), s7, .val (tuN tg), .val (.lst (iN (frP os tg))), s10, s11, s12, s13] [7] (.name 7) (.some (.cmp .Eq (.ix (.var 6) (.var 7)) (.ix (.var 6) (.var 8)))) (.ix (.var 5) (.var 7))) = .ok (iN (((l.map (·.1)).filter fun t => sameB ws t tg).map fun s => (frP os s).length)) := fun s10 s11 => by
    rw [show iN (((l.map (·.1)).filter fun t => sameB ws t tg).map fun s => (frP os s).length) = ((l.map (·.1)).filter fun t => sameB ws t tg).map fun s => .int ((frP os s).length : Int) by unfold iN; rw [List.map_map]; rfl]
    refine lcM_filterI tuN _ _ fun t hm => ?_
    have i1 := ix_lk ws ((hk t).mp hm)
    have i2 := ix_row (F := fun s => (frP os s).length) hp hm
    have e := screen_same ws t tg

    generalize scrD ws t = sc1 at *
    generalize scrD ws tg = sc2 at *
    generalize iN (frP os tg) = ff at *
    generalize l.map rowD = lr at *
    generalize (allO ws.length ws.length).map (lkK ws) = ll at *
    generalize tuN t = tt at *
    generalize tuN tg = ttg at *
    generalize tuN os = to at *
    generalize wsD ws = wd at *
    cases hb : sameB ws t tg <;> rw [hb] at e <;> simp -implicitDefEqProofs [itemL, i1, i2, ixt, e]
  have mem : ∀ x, x ∈ (((l.map (·.1)).filter fun t => sameB ws t tg).map fun s => (frP os s).length) ↔ x ∈ ((alkN ws tg).map fun s => (frP os s).length) := fun x => by
    unfold alkN
    simp only [List.mem_map, List.mem_filter]
    constructor
    · rintro ⟨s, ⟨h1, h2⟩, rfl⟩
      exact ⟨s, ⟨(hk s).mp (List.mem_map.mpr h1), h2⟩, rfl⟩
    · rintro ⟨s, ⟨h1, h2⟩, rfl⟩
      exact ⟨s, ⟨List.mem_map.mp ((hk s).mpr h1), h2⟩, rfl⟩
  have mi := min_iN ((mem m).mpr hm) fun x hx => hmin x ((mem x).mp hx)
  have nt := ne_tuN tg
  have sq : itS .seq [.lst (iN (frP os tg))] = .ok (iN (frP os tg)) := rfl
  have p4 : ∀ ds, phi Γ16 4 ds = arity r_raises_to.n r_raises_to.sem ds := fun _ => rfl
  have p5 : ∀ ds, phi Γ16 5 ds = arity r_fewest_raises.n r_fewest_raises.sem ds := fun _ => rfl
  have p7 : ∀ ds, phi Γ16 7 ds = arity r_fewest_to_look.n r_fewest_to_look.sem ds := fun _ => rfl
  refine ⟨.val (.lst (iN (frP os tg))), .val (tuN tg), t11, .val (.int m), ?_⟩
  clear mem hmin hm ne fo hp hk

  generalize iN (((l.map (·.1)).filter fun t => sameB ws t tg).map fun s => (frP os s).length) = im at *
  generalize (l.map (·.1)).map tuN = lt at *
  generalize iN (frP os tg) = ff at *
  generalize (frP os tg).length = fl at *
  generalize l.map rowD = lr at *
  generalize (allO ws.length ws.length).map (lkK ws) = ll at *
  generalize tuN tg = ttg at *
  generalize tuN os = to at *
  generalize wsD ws = wd at *
  unfold turnF tgB
  generalize rwB = rb at *
  simp -implicitDefEqProofs [fr, ra, ixr, q3, ln, ft, kq, f6, mi, nt, sq, p4, p5, p7]
theorem nu_turn {os : List Nat} (ho : os.Perm (List.range ws.length)) {x : Nat} (hx : x < ws.length) (s0 s1 s5 s7 s8 s9 s10 s11 s12 s13 : Slot) : turnF (phi Γ16) (.name 11) nuB (.int x) [s0, s1, .val (wsD ws), .val (.int ws.length), .val (tuN os), s5, .val (.dic true ((allO ws.length ws.length).map (lkK ws))), s7, s8, s9, s10, s11, s12, s13] = .ok (.nx [s0, s1, .val (wsD ws), .val (.int ws.length), .val (tuN os), s5, .val (.dic true ((allO ws.length ws.length).map (lkK ws))), s7, s8, s9, .val (tuN (rse os x)), .val (.int x), s12, s13]) := by
  have r := raised_ok h hl ho hx
  have c := changes_look_ok h hl ho hx
  have i1 := ix_lk ws (mem_orders.mpr ho)
  have i2 := ix_lk ws (mem_orders.mpr (rse_perm ho hx))
  have sd := screen_diff ws (rse os x) os
  rw [rse_same h hx] at sd
  have f : ∀ s10, lcM (iN os) (itemL (phi Γ16) [s0, s1, .val (wsD ws), .val (.int ws.length), .val (tuN os), s5, .val (.dic true ((allO ws.length ws.length).map (lkK ws))), s7, s8, s9, s10, .val (.int x), s12, s13] [13] (.name 13) (.some (.cmp .NotEq (.var 13) (.var 11))) (.var 13)) = .ok (iN (os.filter fun o => decide (o ≠ x))) := fun s10 => by
    refine lcM_filterI (fun (i : Nat) => (.int i : D)) _ (fun (i : Nat) => (.int i : D)) fun o _ => ?_
    generalize (allO ws.length ws.length).map (lkK ws) = ll at *
    generalize tuN os = ts at *
    generalize wsD ws = wd at *
    by_cases q : o = x
    · have b : ((o : Int) == x) = true := by rw [q]; simp
      have c : decide (o ≠ x) = false := by simp [q]
      rw [c]
      simp -implicitDefEqProofs [itemL, b]
    · have b : ((o : Int) == x) = false := by simp; omega
      have c : decide (o ≠ x) = true := by simp [q]
      rw [c]
      simp -implicitDefEqProofs [itemL, b]
  have sq : itS .seq [tuN os] = .ok (iN os) := rfl
  have tp : ∀ l, biS .tuple [.lst l] = .ok (.tup l) := fun _ => rfl
  have ad : binS .Add (.tup (iN (os.filter fun o => decide (o ≠ x)))) (.tup [.int x]) = .ok (tuN (rse os x)) := by
    have q : binS .Add (.tup (iN (os.filter fun o => decide (o ≠ x)))) (.tup [.int x]) = fitL (iN (os.filter fun o => decide (o ≠ x)) ++ [.int x]) .tup := rfl
    have : (os.filter fun o => decide (o ≠ x)).length ≤ 100 := Nat.le_trans (List.length_filter_le _ _) (by rw [ho.length_eq, List.length_range]; omega)
    rw [q, fit_le (by rw [List.length_append, iN_len, List.length_singleton]; omega)]
    unfold tuN rse iN
    rw [List.map_append]
    rfl
  have nt := ne_tuN (rse os x)
  have p6 : ∀ ds, phi Γ16 6 ds = arity r_raised.n r_raised.sem ds := fun _ => rfl
  have p8 : ∀ ds, phi Γ16 8 ds = arity r_changes_look.n r_changes_look.sem ds := fun _ => rfl
  generalize wholeB ws os x = wb at *
  generalize scrD ws (rse os x) = sc1 at *
  generalize scrD ws os = sc2 at *
  generalize tuN (rse os x) = tr at *
  generalize iN (os.filter fun o => decide (o ≠ x)) = fs at *
  generalize (allO ws.length ws.length).map (lkK ws) = ll at *
  generalize iN os = io at *
  generalize tuN os = to at *
  generalize wsD ws = wd at *
  unfold turnF
  simp -implicitDefEqProofs [nuB, r, c, i1, i2, sd, f, sq, tp, ad, nt, p6, p8, fit_1]
end
theorem allO_nodup : ∀ n, n ≤ 4 → (allO n n).Nodup := by decide +kernel
theorem turn16 {ns : List Int} (hn : ns.length ≤ 63) {i : Int} (hi : 0 ≤ i ∧ i ≤ 1) (s1 s2 s3 s4 s5 s6 s7 s8 s9 s10 s11 s12 s13 : Slot) : ∃ t1 t2 t3 t4 t5 t6 t8 t9 t10 t11 t12, turnF (phi Γ16) (.name 1) lw16 (.int i) [.val (.scr ns), s1, s2, s3, s4, s5, s6, s7, s8, s9, s10, s11, s12, s13] = .ok (.nx [.val (.scr ns), t1, t2, t3, t4, t5, t6, s7, t8, t9, t10, t11, t12, s13]) := by
  obtain ⟨ws, h, hl, ep⟩ := panes_ok hn (k := 60 * i) (m := 4) (by omega) (by omega)
  have hl : ws.length ≤ 4 := by omega
  obtain ⟨os, ho, eo⟩ := order_ok hn (k := 60 * i + 30) (by omega) ws.length (by omega)
  have eo : r__law_order.sem [.scr ns, .int (60 * i + 30), .int ws.length] = .ok (tuN os) := eo
  obtain ⟨l, es, hp, hk⟩ := chk2_at hl (mem_orders.mpr ho)
  have lw := len_wsD ws
  have m60 : binS .Mult (.int 60) (.int i) = .ok (.int (60 * i)) := mul_small (by omega)
  have lo := law_orders_ok hl
  have sqo : itS .seq [.lst ((allO ws.length ws.length).map tuN)] = .ok ((allO ws.length ws.length).map tuN) := rfl
  have p9 : ∀ ds, phi Γ16 9 ds = arity r__law_screen.n r__law_screen.sem ds := fun _ => rfl
  have f4 : ∀ s6, lcM ((allO ws.length ws.length).map tuN) (itemL (phi Γ16) [.val (.scr ns), .val (.int i), .val (wsD ws), .val (.int ws.length), .val (tuN os), .val (.dic true (l.map rowD)), s6, s7, s8, s9, s10, s11, s12, s13] [7] (.name 7) .none (.tup (.cons (.var 7) (.cons (.call 9 (.cons (.var 2) (.cons (.var 7) .nil))) .nil)))) = .ok ((allO ws.length ws.length).map fun s => .tup [tuN s, .lst (scrD ws s)]) := fun s6 => by
    refine lcM_mapI tuN _ fun s hs => ?_
    have sc : r__law_screen.sem [wsD ws, tuN s] = .ok (.lst (scrD ws s)) := law_screen_ok (lt_of_perm (mem_orders.mp hs))
    generalize scrD ws s = ss at *
    generalize l.map rowD = lr at *
    generalize tuN s = ts at *
    generalize tuN os = to at *
    generalize wsD ws = wd at *
    simp -implicitDefEqProofs [itemL, p9, sc]
  have dl := dict_looks ws (allO_nodup _ hl)
  obtain ⟨e5, q5, t8, t9, t10, t11, t12, rfl⟩ := forM_keep (f := turnF (phi Γ16) (.name 8) tgB) (fun e => ∃ t8 t9 t10 t11 t12, e = [.val (.scr ns), .val (.int i), .val (wsD ws), .val (.int ws.length), .val (tuN os), .val (.dic true (l.map rowD)), .val (.dic true ((allO ws.length ws.length).map (lkK ws))), s7, t8, t9, t10, t11, t12, s13]) (ds := (allO ws.length ws.length).map tuN) (e := [.val (.scr ns), .val (.int i), .val (wsD ws), .val (.int ws.length), .val (tuN os), .val (.dic true (l.map rowD)), .val (.dic true ((allO ws.length ws.length).map (lkK ws))), s7, s8, s9, s10, s11, s12, s13]) (fun d hd e he => by
    obtain ⟨t8, t9, t10, t11, t12, rfl⟩ := he
    obtain ⟨tg, hm, rfl⟩ := List.mem_map.mp hd
    obtain ⟨u9, u10, u11, u12, q⟩ := tg_turn h hl ho hp hk hm (.val (.scr ns)) (.val (.int i)) s7 t8 t9 t10 t11 t12 s13
    exact ⟨_, q, .val (tuN tg), u9, u10, u11, u12, rfl⟩) ⟨s8, s9, s10, s11, s12, rfl⟩
  have rg : itS .rng1 [.int ws.length] = .ok (iN (List.range ws.length)) := by
    rw [rng1_ok (by omega) (by omega), Int.toNat_natCast, rangeD_eq]; rfl
  obtain ⟨e6, q6, u10, u11, rfl⟩ := forM_keep (f := turnF (phi Γ16) (.name 11) nuB) (fun e => ∃ t10 t11, e = [.val (.scr ns), .val (.int i), .val (wsD ws), .val (.int ws.length), .val (tuN os), .val (.dic true (l.map rowD)), .val (.dic true ((allO ws.length ws.length).map (lkK ws))), s7, t8, t9, t10, t11, t12, s13]) (ds := iN (List.range ws.length)) (e := [.val (.scr ns), .val (.int i), .val (wsD ws), .val (.int ws.length), .val (tuN os), .val (.dic true (l.map rowD)), .val (.dic true ((allO ws.length ws.length).map (lkK ws))), s7, t8, t9, t10, t11, t12, s13]) (fun d hd e he => by
    obtain ⟨v10, v11, rfl⟩ := he
    unfold iN at hd
    obtain ⟨x, hm, rfl⟩ := List.mem_map.mp hd
    exact ⟨_, nu_turn h hl ho (List.mem_range.mp hm) (.val (.scr ns)) (.val (.int i)) (.val (.dic true (l.map rowD))) s7 t8 t9 v10 v11 t12 s13, .val (tuN (rse os x)), .val (.int x), rfl⟩) ⟨t10, t11, rfl⟩
  have p0 : ∀ ds, phi Γ16 0 ds = arity r__law_panes.n r__law_panes.sem ds := fun _ => rfl
  have p1 : ∀ ds, phi Γ16 1 ds = arity r__law_order.n r__law_order.sem ds := fun _ => rfl
  have p2 : ∀ ds, phi Γ16 2 ds = arity r__law_steps_k16.n r__law_steps_k16.sem ds := fun _ => rfl
  have p3 : ∀ ds, phi Γ16 3 ds = arity r__law_orders.n r__law_orders.sem ds := fun _ => rfl
  refine ⟨.val (.int i), .val (wsD ws), .val (.int ws.length), .val (tuN os), .val (.dic true (l.map rowD)), .val (.dic true ((allO ws.length ws.length).map (lkK ws))), t8, t9, u10, u11, t12, ?_⟩
  clear hp hk
  generalize (allO ws.length ws.length).map (fun s => (.tup [tuN s, .lst (scrD ws s)] : D)) = at2 at *
  generalize (allO ws.length ws.length).map (lkK ws) = ll at *
  generalize (allO ws.length ws.length).map tuN = ao at *
  generalize l.map rowD = lr at *
  generalize iN (List.range ws.length) = rr at *
  generalize tuN os = to at *
  generalize wsD ws = wd at *
  unfold turnF lw16
  generalize tgB = tb at *
  generalize nuB = nb at *
  simp -implicitDefEqProofs [ep, m60, lw, eo, es, lo, sqo, f4, dl, q5, rg, q6, p0, p1, p2, p3]
theorem math_k16 : ∀ ns : List Int, ns.length ≤ 63 → r_law_k16.sem [.scr ns] = .ok (.bl true) := by
  intro ns hn
  have c1 : r_raises_to.sem [.tup [.tup [.int 0, .int 0, .int 1, .int 1], .tup [.int 0, .int 0, .int 1, .int 1], .tup [.int 0, .int 0, .int 1, .int 1]], .tup [.int 0, .int 1, .int 2], .tup [.int 1, .int 2, .int 0]] = .ok (.lst [.int 0]) := by kernel_rfl
  have c2 : r_fewest_raises.sem [.tup [], .tup [], .tup []] = .ok (.int 0) := by kernel_rfl
  have mu : binS .Mult (.tup [.tup [.int 0, .int 0, .int 1, .int 1]]) (.int 3) = .ok (.tup [.tup [.int 0, .int 0, .int 1, .int 1], .tup [.int 0, .int 0, .int 1, .int 1], .tup [.int 0, .int 0, .int 1, .int 1]]) := rfl
  have ce : cmpS .Eq (.lst [.int 0]) (.lst [.int 0]) = .ok true := rfl
  obtain ⟨e', q, t1, t2, t3, t4, t5, t6, t8, t9, t10, t11, t12, rfl⟩ := forM_keep (f := turnF (phi Γ16) (.name 1) lw16) (fun e => ∃ t1 t2 t3 t4 t5 t6 t8 t9 t10 t11 t12, e = [.val (.scr ns), t1, t2, t3, t4, t5, t6, .no, t8, t9, t10, t11, t12, .no]) (ds := (rngI 0 2).map .int) (e := [.val (.scr ns), .no, .no, .no, .no, .no, .no, .no, .no, .no, .no, .no, .no, .no]) (fun d hd e he => by
    obtain ⟨t1, t2, t3, t4, t5, t6, t8, t9, t10, t11, t12, rfl⟩ := he
    obtain ⟨i, hi, rfl⟩ := List.mem_map.mp hd
    obtain ⟨u1, u2, u3, u4, u5, u6, u8, u9, u10, u11, u12, q⟩ := turn16 hn (i := i) (by have := mem_rngI.mp hi; omega) t1 t2 t3 t4 t5 t6 .no t8 t9 t10 t11 t12 .no
    exact ⟨_, q, u1, u2, u3, u4, u5, u6, u8, u9, u10, u11, u12, rfl⟩) ⟨.no, .no, .no, .no, .no, .no, .no, .no, .no, .no, .no, rfl⟩
  have rg : itS .rng1 [.int 2] = .ok ((rngI 0 2).map .int) := by
    rw [rng1_ok (by omega) (by omega), ← rangeD_rngI, Int.sub_zero]
  have hL : ir_law_k16 = (.cons (.for_ (.name 1) .rng1 (.cons (.lit (.int (2))) .nil) lw16) (.cons (.ret (.and (.cons (.cmp .Eq (.call 4 (.cons (.bin .Mult (.tup (.cons (.tup (.cons (.lit (.int (0))) (.cons (.lit (.int (0))) (.cons (.lit (.int (1))) (.cons (.lit (.int (1))) .nil))))) .nil)) (.lit (.int (3)))) (.cons (.tup (.cons (.lit (.int (0))) (.cons (.lit (.int (1))) (.cons (.lit (.int (2))) .nil)))) (.cons (.tup (.cons (.lit (.int (1))) (.cons (.lit (.int (2))) (.cons (.lit (.int (0))) .nil)))) .nil)))) (.lst (.cons (.lit (.int (0))) .nil))) (.cons (.cmp .Eq (.call 5 (.cons (.tup .nil) (.cons (.tup .nil) (.cons (.tup .nil) .nil)))) (.lit (.int (0)))) .nil)))) .nil)) := rfl
  have hr : ∀ ds, r_law_k16.sem ds = runF (phi Γ16) 14 ir_law_k16 ds := fun _ => rfl
  have p4 : ∀ ds, phi Γ16 4 ds = arity r_raises_to.n r_raises_to.sem ds := fun _ => rfl
  have p5 : ∀ ds, phi Γ16 5 ds = arity r_fewest_raises.n r_fewest_raises.sem ds := fun _ => rfl
  rw [hr, runF_eq, hL]
  generalize lw16 = b0 at q ⊢
  simp -implicitDefEqProofs [rg, q, p4, p5, c1, c2, mu, ce, fit_1]
end Pan

set_option maxHeartbeats 0
namespace Hd
open PySem PySem.Spec L2 Pan
open PyProof.Rows hiding St
def top (i : Nat) : Stmt := PySem.Challenge.pw_panestacks_k16_whole_raising.main.body.getD i (.Pass ⟨0, 0, 0, 0⟩)
def fn : List He.DefD := [ddOf (top 8) "is_int", ddOf (top 9) "is_window", ddOf (top 10) "are_windows", ddOf (top 11) "has_order", ddOf (top 12) "check_windows", ddOf (top 13) "check_order", ddOf (top 14) "check_both", ddOf (top 15) "check_number", ddOf (top 16) "covers", ddOf (top 17) "cells_of", ddOf (top 18) "region_at", ddOf (top 19) "all_cells", ddOf (top 20) "top_of", ddOf (top 22) "find_regions", ddOf (top 23) "look_of", ddOf (top 24) "check_two", ddOf (top 25) "all_orders", ddOf (top 26) "find_alike", ddOf (top 28) "find_seen", ddOf (top 29) "check_three", ddOf (top 30) "whole_in", ddOf (top 32) "find_raised", ddOf (top 33) "raised", ddOf (top 34) "changes_look", ddOf (top 35) "find_raises", ddOf (top 36) "fewest_raises", ddOf (top 37) "raises_to", ddOf (top 38) "fewest_to_look", ddOf (top 40) "_law_pick", ddOf (top 41) "_law_pane"] ++ [ddOf (top 42) "_law_panes", ddOf (top 43) "_law_order", ddOf (top 44) "_law_in", ddOf (top 45) "_law_top", ddOf (top 46) "_law_screen", ddOf (top 47) "_law_orders", ddOf (top 48) "_law_steps", ddOf (top 49) "law"]
def gl : List Str := (["is_int", "is_window", "are_windows", "has_order", "check_windows", "check_order", "check_both", "check_number", "covers", "cells_of", "region_at", "all_cells", "top_of", "find_regions", "look_of", "check_two", "all_orders", "find_alike", "find_seen", "check_three", "whole_in", "find_raised", "raised", "changes_look", "find_raises", "fewest_raises", "raises_to", "fewest_to_look", "_law_pick", "_law_pane"] : List Str) ++ (["_law_panes", "_law_order", "_law_in", "_law_top", "_law_screen", "_law_orders", "_law_steps", "law", "InvalidNumber", "InvalidOrder", "InvalidWindows", "PaneError"] : List Str)
def bl : List Str := ["ValueError", "all", "bool", "dict", "enumerate", "int", "isinstance", "len", "list", "max", "min", "range", "set", "sorted", "tuple"]
def ci : List (Str × Int) := [("SCREEN", 12), ("MAX_WINDOWS", 6)]
def cs : List (Str × Str) := []
def ex : List Str := ["PaneError", "InvalidWindows", "InvalidOrder", "InvalidNumber", "PaneError", "PaneError", "PaneError", "PaneError", "PaneError", "PaneError", "PaneError", "PaneError", "PaneError"]
def loose : List Str := (["__name__", "PaneError", "InvalidWindows", "InvalidOrder", "InvalidNumber", "SCREEN", "MAX_WINDOWS", "is_int", "is_window", "are_windows", "has_order", "check_windows", "check_order", "check_both", "check_number", "covers", "cells_of", "region_at", "all_cells", "top_of", "find_regions", "look_of", "check_two", "all_orders", "find_alike", "find_seen", "check_three", "whole_in", "find_raised", "raised"] : List Str) ++ (["changes_look", "find_raises", "fewest_raises", "raises_to", "fewest_to_look", "_law_pick", "_law_pane", "_law_panes", "_law_order", "_law_in", "_law_top", "_law_screen", "_law_orders", "_law_steps"] : List Str)
abbrev R : PySem.W.OpenRow := PySem.W.OpenLaw.row PySem.Challenge.rw_panestacks_k16_whole_raising
abbrev hk : PySem.W.Hook := He.hookD 5 (faOf gl bl ci cs ex) fn
def ob (s : PySem.W.SharedT) : He.AlD := He.obsDG 5 (faOf gl bl ci cs ex) fn (HandSHeadRun.getT s)
theorem ob_eq (s : PySem.W.SharedT) : ob s = hk.obs s.abs := He.obsDG_eq (HandSHeadRun.getT_eq s)
theorem run (w : World) : HandSHeadRun.RunEq R (PySem.W.view R.prog [49]) hk ob 6000 loose w := by
  intro os
  kernel_rfl
section
variable {P : Program} {w : World} {K : PySem.W.Frag} {mg : Str → Option Value} {base : Heap}
abbrev MM (P : Program) (w : World) (K : PySem.W.Frag) (mg : Str → Option Value) : Prop := Md P w K mg gl bl ci cs ex fn
theorem g_is_int (M : MM P w K mg) : FnG P w K mg base (clK K ex) 1 r_is_int := by
  refine def_g M (st := top 8) (x := "is_int") (N := ["value", "least", "most"]) (ps := ["value", "least", "most"]) (mu := []) (di := []) (tu := []) (Γ := []) (ss := ir_is_int) (j := 0) 0 (by rfl) (by decide +kernel) ⟨rfl, rfl, rfl, by decide +kernel, rfl, by decide +kernel, by decide +kernel⟩ (by kernel_rfl) (fun _ _ _ _ _ _ us hl => match us, hl with | [_, _, _], _ => rfl) ?_
  exact fun r hr => by cases hr
theorem g_is_window (M : MM P w K mg) : FnG P w K mg base (clK K ex) 2 r_is_window := by
  refine def_g M (st := top 9) (x := "is_window") (N := ["candidate", "part"]) (ps := ["candidate"]) (mu := []) (di := []) (tu := []) (Γ := [r_is_int]) (ss := ir_is_window) (j := 1) 1 (by rfl) (by decide +kernel) ⟨rfl, rfl, rfl, by decide +kernel, rfl, by decide +kernel, by decide +kernel⟩ (by kernel_rfl) (fun _ _ _ _ _ _ us hl => match us, hl with | [_], _ => rfl) ?_
  exact fun r hr => by
    simp only [List.mem_cons, List.not_mem_nil, or_false] at hr
    rcases hr with rfl
    · exact (g_is_int M).up (by decide)
theorem g_are_windows (M : MM P w K mg) : FnG P w K mg base (clK K ex) 3 r_are_windows := by
  refine def_g M (st := top 10) (x := "are_windows") (N := ["candidate", "window"]) (ps := ["candidate"]) (mu := []) (di := []) (tu := []) (Γ := [r_is_window]) (ss := ir_are_windows) (j := 2) 2 (by rfl) (by decide +kernel) ⟨rfl, rfl, rfl, by decide +kernel, rfl, by decide +kernel, by decide +kernel⟩ (by kernel_rfl) (fun _ _ _ _ _ _ us hl => match us, hl with | [_], _ => rfl) ?_
  exact fun r hr => by
    simp only [List.mem_cons, List.not_mem_nil, or_false] at hr
    rcases hr with rfl
    · exact (g_is_window M).up (by decide)
theorem g_has_order (M : MM P w K mg) : FnG P w K mg base (clK K ex) 2 r_has_order := by
  refine def_g M (st := top 11) (x := "has_order") (N := ["windows", "candidate", "number"]) (ps := ["windows", "candidate"]) (mu := []) (di := []) (tu := []) (Γ := [r_is_int]) (ss := ir_has_order) (j := 1) 3 (by rfl) (by decide +kernel) ⟨rfl, rfl, rfl, by decide +kernel, rfl, by decide +kernel, by decide +kernel⟩ (by kernel_rfl) (fun _ _ _ _ _ _ us hl => match us, hl with | [_, _], _ => rfl) ?_
  exact fun r hr => by
    simp only [List.mem_cons, List.not_mem_nil, or_false] at hr
    rcases hr with rfl
    · exact (g_is_int M).up (by decide)
theorem g_check_windows (M : MM P w K mg) : FnG P w K mg base (clK K ex) 4 r_check_windows := by
  refine def_g M (st := top 12) (x := "check_windows") (N := ["value"]) (ps := ["value"]) (mu := []) (di := []) (tu := []) (Γ := [r_are_windows]) (ss := ir_check_windows) (j := 3) 4 (by rfl) (by decide +kernel) ⟨rfl, rfl, rfl, by decide +kernel, rfl, by decide +kernel, by decide +kernel⟩ (by kernel_rfl) (fun _ _ _ _ _ _ us hl => match us, hl with | [_], _ => rfl) ?_
  exact fun r hr => by
    simp only [List.mem_cons, List.not_mem_nil, or_false] at hr
    rcases hr with rfl
    · exact (g_are_windows M).up (by decide)
theorem g_check_order (M : MM P w K mg) : FnG P w K mg base (clK K ex) 3 r_check_order := by
  refine def_g M (st := top 13) (x := "check_order") (N := ["windows", "value"]) (ps := ["windows", "value"]) (mu := []) (di := []) (tu := []) (Γ := [r_has_order]) (ss := ir_check_order) (j := 2) 5 (by rfl) (by decide +kernel) ⟨rfl, rfl, rfl, by decide +kernel, rfl, by decide +kernel, by decide +kernel⟩ (by kernel_rfl) (fun _ _ _ _ _ _ us hl => match us, hl with | [_, _], _ => rfl) ?_
  exact fun r hr => by
    simp only [List.mem_cons, List.not_mem_nil, or_false] at hr
    rcases hr with rfl
    · exact (g_has_order M).up (by decide)
theorem g_check_both (M : MM P w K mg) : FnG P w K mg base (clK K ex) 5 r_check_both := by
  refine def_g M (st := top 14) (x := "check_both") (N := ["windows", "order"]) (ps := ["windows", "order"]) (mu := []) (di := []) (tu := []) (Γ := [r_check_windows, r_check_order]) (ss := ir_check_both) (j := 4) 6 (by rfl) (by decide +kernel) ⟨rfl, rfl, rfl, by decide +kernel, rfl, by decide +kernel, by decide +kernel⟩ (by kernel_rfl) (fun _ _ _ _ _ _ us hl => match us, hl with | [_, _], _ => rfl) ?_
  exact fun r hr => by
    simp only [List.mem_cons, List.not_mem_nil, or_false] at hr
    rcases hr with rfl | rfl
    · exact (g_check_windows M).up (by decide)
    · exact (g_check_order M).up (by decide)
theorem g_check_number (M : MM P w K mg) : FnG P w K mg base (clK K ex) 2 r_check_number := by
  refine def_g M (st := top 15) (x := "check_number") (N := ["windows", "value"]) (ps := ["windows", "value"]) (mu := []) (di := []) (tu := []) (Γ := [r_is_int]) (ss := ir_check_number) (j := 1) 7 (by rfl) (by decide +kernel) ⟨rfl, rfl, rfl, by decide +kernel, rfl, by decide +kernel, by decide +kernel⟩ (by kernel_rfl) (fun _ _ _ _ _ _ us hl => match us, hl with | [_, _], _ => rfl) ?_
  exact fun r hr => by
    simp only [List.mem_cons, List.not_mem_nil, or_false] at hr
    rcases hr with rfl
    · exact (g_is_int M).up (by decide)
theorem g_covers (M : MM P w K mg) : FnG P w K mg base (clK K ex) 1 r_covers := by
  refine def_g M (st := top 16) (x := "covers") (N := ["window", "cell"]) (ps := ["window", "cell"]) (mu := []) (di := []) (tu := []) (Γ := []) (ss := ir_covers) (j := 0) 8 (by rfl) (by decide +kernel) ⟨rfl, rfl, rfl, by decide +kernel, rfl, by decide +kernel, by decide +kernel⟩ (by kernel_rfl) (fun _ _ _ _ _ _ us hl => match us, hl with | [_, _], _ => rfl) ?_
  exact fun r hr => by cases hr
theorem g_cells_of (M : MM P w K mg) : FnG P w K mg base (clK K ex) 1 r_cells_of := by
  refine def_g M (st := top 17) (x := "cells_of") (N := ["window", "x", "y"]) (ps := ["window"]) (mu := []) (di := []) (tu := []) (Γ := []) (ss := ir_cells_of) (j := 0) 9 (by rfl) (by decide +kernel) ⟨rfl, rfl, rfl, by decide +kernel, rfl, by decide +kernel, by decide +kernel⟩ (by kernel_rfl) (fun _ _ _ _ _ _ us hl => match us, hl with | [_], _ => rfl) ?_
  exact fun r hr => by cases hr
theorem g_region_at (M : MM P w K mg) : FnG P w K mg base (clK K ex) 2 r_region_at := by
  refine def_g M (st := top 18) (x := "region_at") (N := ["windows", "cell", "number", "window"]) (ps := ["windows", "cell"]) (mu := []) (di := []) (tu := []) (Γ := [r_covers]) (ss := ir_region_at) (j := 1) 10 (by rfl) (by decide +kernel) ⟨rfl, rfl, rfl, by decide +kernel, rfl, by decide +kernel, by decide +kernel⟩ (by kernel_rfl) (fun _ _ _ _ _ _ us hl => match us, hl with | [_, _], _ => rfl) ?_
  exact fun r hr => by
    simp only [List.mem_cons, List.not_mem_nil, or_false] at hr
    rcases hr with rfl
    · exact (g_covers M).up (by decide)
theorem g_all_cells (M : MM P w K mg) : FnG P w K mg base (clK K ex) 2 r_all_cells := by
  refine def_g M (st := top 19) (x := "all_cells") (N := ["windows", "found", "window", "cell"]) (ps := ["windows"]) (mu := ["found"]) (di := []) (tu := ["found"]) (Γ := [r_cells_of]) (ss := ir_all_cells) (j := 1) 11 (by rfl) (by decide +kernel) ⟨rfl, rfl, rfl, by decide +kernel, rfl, by decide +kernel, by decide +kernel⟩ (by kernel_rfl) (fun _ _ _ _ _ _ us hl => match us, hl with | [_], _ => rfl) ?_
  exact fun r hr => by
    simp only [List.mem_cons, List.not_mem_nil, or_false] at hr
    rcases hr with rfl
    · exact (g_cells_of M).up (by decide)
theorem g_top_of (M : MM P w K mg) : FnG P w K mg base (clK K ex) 1 r_top_of := by
  refine def_g M (st := top 20) (x := "top_of") (N := ["order", "region", "found", "number"]) (ps := ["order", "region"]) (mu := []) (di := []) (tu := []) (Γ := []) (ss := ir_top_of) (j := 0) 12 (by rfl) (by decide +kernel) ⟨rfl, rfl, rfl, by decide +kernel, rfl, by decide +kernel, by decide +kernel⟩ (by kernel_rfl) (fun _ _ _ _ _ _ us hl => match us, hl with | [_, _], _ => rfl) ?_
  exact fun r hr => by cases hr
theorem g_find_regions (M : MM P w K mg) : FnG P w K mg base (clK K ex) 3 r_find_regions := by
  refine def_g M (st := top 22) (x := "find_regions") (N := ["windows", "cell"]) (ps := ["windows"]) (mu := []) (di := []) (tu := []) (Γ := [r_region_at, r_all_cells]) (ss := ir_find_regions) (j := 2) 13 (by rfl) (by decide +kernel) ⟨rfl, rfl, rfl, by decide +kernel, rfl, by decide +kernel, by decide +kernel⟩ (by kernel_rfl) (fun _ _ _ _ _ _ us hl => match us, hl with | [_], _ => rfl) ?_
  exact fun r hr => by
    simp only [List.mem_cons, List.not_mem_nil, or_false] at hr
    rcases hr with rfl | rfl
    · exact (g_region_at M).up (by decide)
    · exact (g_all_cells M).up (by decide)
theorem g_look_of (M : MM P w K mg) : FnG P w K mg base (clK K ex) 2 r_look_of := by
  refine def_g M (st := top 23) (x := "look_of") (N := ["known", "order", "region"]) (ps := ["known", "order"]) (mu := []) (di := []) (tu := []) (Γ := [r_top_of]) (ss := ir_look_of) (j := 1) 14 (by rfl) (by decide +kernel) ⟨rfl, rfl, rfl, by decide +kernel, rfl, by decide +kernel, by decide +kernel⟩ (by kernel_rfl) (fun _ _ _ _ _ _ us hl => match us, hl with | [_, _], _ => rfl) ?_
  exact fun r hr => by
    simp only [List.mem_cons, List.not_mem_nil, or_false] at hr
    rcases hr with rfl
    · exact (g_top_of M).up (by decide)
theorem g_check_two (M : MM P w K mg) : FnG P w K mg base (clK K ex) 6 r_check_two := by
  refine def_g M (st := top 24) (x := "check_two") (N := ["windows", "one", "other"]) (ps := ["windows", "one", "other"]) (mu := []) (di := []) (tu := []) (Γ := [r_check_both, r_check_order]) (ss := ir_check_two) (j := 5) 15 (by rfl) (by decide +kernel) ⟨rfl, rfl, rfl, by decide +kernel, rfl, by decide +kernel, by decide +kernel⟩ (by kernel_rfl) (fun _ _ _ _ _ _ us hl => match us, hl with | [_, _, _], _ => rfl) ?_
  exact fun r hr => by
    simp only [List.mem_cons, List.not_mem_nil, or_false] at hr
    rcases hr with rfl | rfl
    · exact (g_check_both M).up (by decide)
    · exact (g_check_order M).up (by decide)
theorem g_all_orders (M : MM P w K mg) : FnG P w K mg base (clK K ex) 1 r_all_orders := by
  refine def_g M (st := top 25) (x := "all_orders") (N := ["many", "found", "count", "order", "number"]) (ps := ["many"]) (mu := []) (di := []) (tu := []) (Γ := []) (ss := ir_all_orders) (j := 0) 16 (by rfl) (by decide +kernel) ⟨rfl, rfl, rfl, by decide +kernel, rfl, by decide +kernel, by decide +kernel⟩ (by kernel_rfl) (fun _ _ _ _ _ _ us hl => match us, hl with | [_], _ => rfl) ?_
  exact fun r hr => by cases hr
theorem g_find_alike (M : MM P w K mg) : FnG P w K mg base (clK K ex) 4 r_find_alike := by
  refine def_g M (st := top 26) (x := "find_alike") (N := ["windows", "order", "known", "look", "other"]) (ps := ["windows", "order"]) (mu := []) (di := []) (tu := []) (Γ := [r_find_regions, r_look_of, r_all_orders]) (ss := ir_find_alike) (j := 3) 17 (by rfl) (by decide +kernel) ⟨rfl, rfl, rfl, by decide +kernel, rfl, by decide +kernel, by decide +kernel⟩ (by kernel_rfl) (fun _ _ _ _ _ _ us hl => match us, hl with | [_, _], _ => rfl) ?_
  exact fun r hr => by
    simp only [List.mem_cons, List.not_mem_nil, or_false] at hr
    rcases hr with rfl | rfl | rfl
    · exact (g_find_regions M).up (by decide)
    · exact (g_look_of M).up (by decide)
    · exact (g_all_orders M).up (by decide)
theorem g_find_seen (M : MM P w K mg) : FnG P w K mg base (clK K ex) 3 r_find_seen := by
  refine def_g M (st := top 28) (x := "find_seen") (N := ["windows", "order", "number", "cell"]) (ps := ["windows", "order", "number"]) (mu := []) (di := []) (tu := []) (Γ := [r_cells_of, r_top_of, r_region_at]) (ss := ir_find_seen) (j := 2) 18 (by rfl) (by decide +kernel) ⟨rfl, rfl, rfl, by decide +kernel, rfl, by decide +kernel, by decide +kernel⟩ (by kernel_rfl) (fun _ _ _ _ _ _ us hl => match us, hl with | [_, _, _], _ => rfl) ?_
  exact fun r hr => by
    simp only [List.mem_cons, List.not_mem_nil, or_false] at hr
    rcases hr with rfl | rfl | rfl
    · exact (g_cells_of M).up (by decide)
    · exact (g_top_of M).up (by decide)
    · exact (g_region_at M).up (by decide)
theorem g_check_three (M : MM P w K mg) : FnG P w K mg base (clK K ex) 6 r_check_three := by
  refine def_g M (st := top 29) (x := "check_three") (N := ["windows", "order", "number"]) (ps := ["windows", "order", "number"]) (mu := []) (di := []) (tu := []) (Γ := [r_check_both, r_check_number]) (ss := ir_check_three) (j := 5) 19 (by rfl) (by decide +kernel) ⟨rfl, rfl, rfl, by decide +kernel, rfl, by decide +kernel, by decide +kernel⟩ (by kernel_rfl) (fun _ _ _ _ _ _ us hl => match us, hl with | [_, _, _], _ => rfl) ?_
  exact fun r hr => by
    simp only [List.mem_cons, List.not_mem_nil, or_false] at hr
    rcases hr with rfl | rfl
    · exact (g_check_both M).up (by decide)
    · exact (g_check_number M).up (by decide)
theorem g_whole_in (M : MM P w K mg) : FnG P w K mg base (clK K ex) 4 r_whole_in := by
  refine def_g M (st := top 30) (x := "whole_in") (N := ["windows", "order", "number"]) (ps := ["windows", "order", "number"]) (mu := []) (di := []) (tu := []) (Γ := [r_find_seen, r_cells_of]) (ss := ir_whole_in) (j := 3) 20 (by rfl) (by decide +kernel) ⟨rfl, rfl, rfl, by decide +kernel, rfl, by decide +kernel, by decide +kernel⟩ (by kernel_rfl) (fun _ _ _ _ _ _ us hl => match us, hl with | [_, _, _], _ => rfl) ?_
  exact fun r hr => by
    simp only [List.mem_cons, List.not_mem_nil, or_false] at hr
    rcases hr with rfl | rfl
    · exact (g_find_seen M).up (by decide)
    · exact (g_cells_of M).up (by decide)
theorem g_find_raised (M : MM P w K mg) : FnG P w K mg base (clK K ex) 1 r_find_raised := by
  refine def_g M (st := top 32) (x := "find_raised") (N := ["order", "number", "other"]) (ps := ["order", "number"]) (mu := []) (di := []) (tu := []) (Γ := []) (ss := ir_find_raised) (j := 0) 21 (by rfl) (by decide +kernel) ⟨rfl, rfl, rfl, by decide +kernel, rfl, by decide +kernel, by decide +kernel⟩ (by kernel_rfl) (fun _ _ _ _ _ _ us hl => match us, hl with | [_, _], _ => rfl) ?_
  exact fun r hr => by cases hr
theorem g_raised (M : MM P w K mg) : FnG P w K mg base (clK K ex) 7 r_raised := by
  refine def_g M (st := top 33) (x := "raised") (N := ["windows", "order", "number"]) (ps := ["windows", "order", "number"]) (mu := []) (di := []) (tu := []) (Γ := [r_check_three, r_find_raised]) (ss := ir_raised) (j := 6) 22 (by rfl) (by decide +kernel) ⟨rfl, rfl, rfl, by decide +kernel, rfl, by decide +kernel, by decide +kernel⟩ (by kernel_rfl) (fun _ _ _ _ _ _ us hl => match us, hl with | [_, _, _], _ => rfl) ?_
  exact fun r hr => by
    simp only [List.mem_cons, List.not_mem_nil, or_false] at hr
    rcases hr with rfl | rfl
    · exact (g_check_three M).up (by decide)
    · exact (g_find_raised M).up (by decide)
theorem g_changes_look (M : MM P w K mg) : FnG P w K mg base (clK K ex) 7 r_changes_look := by
  refine def_g M (st := top 34) (x := "changes_look") (N := ["windows", "order", "number"]) (ps := ["windows", "order", "number"]) (mu := []) (di := []) (tu := []) (Γ := [r_check_three, r_whole_in]) (ss := ir_changes_look) (j := 6) 23 (by rfl) (by decide +kernel) ⟨rfl, rfl, rfl, by decide +kernel, rfl, by decide +kernel, by decide +kernel⟩ (by kernel_rfl) (fun _ _ _ _ _ _ us hl => match us, hl with | [_, _, _], _ => rfl) ?_
  exact fun r hr => by
    simp only [List.mem_cons, List.not_mem_nil, or_false] at hr
    rcases hr with rfl | rfl
    · exact (g_check_three M).up (by decide)
    · exact (g_whole_in M).up (by decide)
theorem g_find_raises (M : MM P w K mg) : FnG P w K mg base (clK K ex) 1 r_find_raises := by
  refine def_g M (st := top 35) (x := "find_raises") (N := ["order", "target", "size", "place"]) (ps := ["order", "target"]) (mu := []) (di := []) (tu := []) (Γ := []) (ss := ir_find_raises) (j := 0) 24 (by rfl) (by decide +kernel) ⟨rfl, rfl, rfl, by decide +kernel, rfl, by decide +kernel, by decide +kernel⟩ (by kernel_rfl) (fun _ _ _ _ _ _ us hl => match us, hl with | [_, _], _ => rfl) ?_
  exact fun r hr => by cases hr
theorem g_fewest_raises (M : MM P w K mg) : FnG P w K mg base (clK K ex) 7 r_fewest_raises := by
  refine def_g M (st := top 36) (x := "fewest_raises") (N := ["windows", "order", "target"]) (ps := ["windows", "order", "target"]) (mu := []) (di := []) (tu := []) (Γ := [r_check_two, r_find_raises]) (ss := ir_fewest_raises) (j := 6) 25 (by rfl) (by decide +kernel) ⟨rfl, rfl, rfl, by decide +kernel, rfl, by decide +kernel, by decide +kernel⟩ (by kernel_rfl) (fun _ _ _ _ _ _ us hl => match us, hl with | [_, _, _], _ => rfl) ?_
  exact fun r hr => by
    simp only [List.mem_cons, List.not_mem_nil, or_false] at hr
    rcases hr with rfl | rfl
    · exact (g_check_two M).up (by decide)
    · exact (g_find_raises M).up (by decide)
theorem g_raises_to (M : MM P w K mg) : FnG P w K mg base (clK K ex) 7 r_raises_to := by
  refine def_g M (st := top 37) (x := "raises_to") (N := ["windows", "order", "target"]) (ps := ["windows", "order", "target"]) (mu := []) (di := []) (tu := []) (Γ := [r_check_two, r_find_raises]) (ss := ir_raises_to) (j := 6) 26 (by rfl) (by decide +kernel) ⟨rfl, rfl, rfl, by decide +kernel, rfl, by decide +kernel, by decide +kernel⟩ (by kernel_rfl) (fun _ _ _ _ _ _ us hl => match us, hl with | [_, _, _], _ => rfl) ?_
  exact fun r hr => by
    simp only [List.mem_cons, List.not_mem_nil, or_false] at hr
    rcases hr with rfl | rfl
    · exact (g_check_two M).up (by decide)
    · exact (g_find_raises M).up (by decide)
theorem g_fewest_to_look (M : MM P w K mg) : FnG P w K mg base (clK K ex) 7 r_fewest_to_look := by
  refine def_g M (st := top 38) (x := "fewest_to_look") (N := ["windows", "order", "target", "other"]) (ps := ["windows", "order", "target"]) (mu := []) (di := []) (tu := []) (Γ := [r_check_two, r_find_raises, r_find_alike]) (ss := ir_fewest_to_look) (j := 6) 27 (by rfl) (by decide +kernel) ⟨rfl, rfl, rfl, by decide +kernel, rfl, by decide +kernel, by decide +kernel⟩ (by kernel_rfl) (fun _ _ _ _ _ _ us hl => match us, hl with | [_, _, _], _ => rfl) ?_
  exact fun r hr => by
    simp only [List.mem_cons, List.not_mem_nil, or_false] at hr
    rcases hr with rfl | rfl | rfl
    · exact (g_check_two M).up (by decide)
    · exact (g_find_raises M).up (by decide)
    · exact (g_find_alike M).up (by decide)
theorem g__law_pick (M : MM P w K mg) : FnG P w K mg base (clK K ex) 1 r__law_pick := by
  refine def_g M (st := top 40) (x := "_law_pick") (N := ["script", "k", "many", "cell", "rest", "again", "drawn"]) (ps := ["script", "k", "many"]) (mu := []) (di := []) (tu := []) (Γ := []) (ss := ir__law_pick) (j := 0) 28 (by rfl) (by decide +kernel) ⟨rfl, rfl, rfl, by decide +kernel, rfl, by decide +kernel, by decide +kernel⟩ (by kernel_rfl) (fun _ _ _ _ _ _ us hl => match us, hl with | [_, _, _], _ => rfl) ?_
  exact fun r hr => by cases hr
theorem g__law_pane (M : MM P w K mg) : FnG P w K mg base (clK K ex) 2 r__law_pane := by
  refine def_g M (st := top 41) (x := "_law_pane") (N := ["script", "at", "step", "left", "top", "wide", "tall"]) (ps := ["script", "at"]) (mu := []) (di := []) (tu := []) (Γ := [r__law_pick]) (ss := ir__law_pane) (j := 1) 29 (by rfl) (by decide +kernel) ⟨rfl, rfl, rfl, by decide +kernel, rfl, by decide +kernel, by decide +kernel⟩ (by kernel_rfl) (fun _ _ _ _ _ _ us hl => match us, hl with | [_, _], _ => rfl) ?_
  exact fun r hr => by
    simp only [List.mem_cons, List.not_mem_nil, or_false] at hr
    rcases hr with rfl
    · exact (g__law_pick M).up (by decide)
theorem g__law_panes (M : MM P w K mg) : FnG P w K mg base (clK K ex) 3 r__law_panes := by
  refine def_g M (st := top 42) (x := "_law_panes") (N := ["script", "at", "most", "i"]) (ps := ["script", "at", "most"]) (mu := []) (di := []) (tu := []) (Γ := [r__law_pane, r__law_pick]) (ss := ir__law_panes) (j := 2) 30 (by rfl) (by decide +kernel) ⟨rfl, rfl, rfl, by decide +kernel, rfl, by decide +kernel, by decide +kernel⟩ (by kernel_rfl) (fun _ _ _ _ _ _ us hl => match us, hl with | [_, _, _], _ => rfl) ?_
  exact fun r hr => by
    simp only [List.mem_cons, List.not_mem_nil, or_false] at hr
    rcases hr with rfl | rfl
    · exact (g__law_pane M).up (by decide)
    · exact (g__law_pick M).up (by decide)
theorem g__law_order (M : MM P w K mg) : FnG P w K mg base (clK K ex) 2 r__law_order := by
  refine def_g M (st := top 43) (x := "_law_order") (N := ["script", "at", "many", "rest", "found"]) (ps := ["script", "at", "many"]) (mu := ["found", "rest"]) (di := []) (tu := []) (Γ := [r__law_pick]) (ss := ir__law_order) (j := 1) 31 (by rfl) (by decide +kernel) ⟨rfl, rfl, rfl, by decide +kernel, rfl, by decide +kernel, by decide +kernel⟩ (by kernel_rfl) (fun _ _ _ _ _ _ us hl => match us, hl with | [_, _, _], _ => rfl) ?_
  exact fun r hr => by
    simp only [List.mem_cons, List.not_mem_nil, or_false] at hr
    rcases hr with rfl
    · exact (g__law_pick M).up (by decide)
theorem g__law_in (M : MM P w K mg) : FnG P w K mg base (clK K ex) 1 r__law_in := by
  refine def_g M (st := top 44) (x := "_law_in") (N := ["pane", "x", "y", "left", "top", "right", "bottom"]) (ps := ["pane", "x", "y"]) (mu := []) (di := []) (tu := []) (Γ := []) (ss := ir__law_in) (j := 0) 32 (by rfl) (by decide +kernel) ⟨rfl, rfl, rfl, by decide +kernel, rfl, by decide +kernel, by decide +kernel⟩ (by kernel_rfl) (fun _ _ _ _ _ _ us hl => match us, hl with | [_, _, _], _ => rfl) ?_
  exact fun r hr => by cases hr
theorem g__law_top (M : MM P w K mg) : FnG P w K mg base (clK K ex) 2 r__law_top := by
  refine def_g M (st := top 45) (x := "_law_top") (N := ["panes", "order", "x", "y", "found", "number"]) (ps := ["panes", "order", "x", "y"]) (mu := []) (di := []) (tu := []) (Γ := [r__law_in]) (ss := ir__law_top) (j := 1) 33 (by rfl) (by decide +kernel) ⟨rfl, rfl, rfl, by decide +kernel, rfl, by decide +kernel, by decide +kernel⟩ (by kernel_rfl) (fun _ _ _ _ _ _ us hl => match us, hl with | [_, _, _, _], _ => rfl) ?_
  exact fun r hr => by
    simp only [List.mem_cons, List.not_mem_nil, or_false] at hr
    rcases hr with rfl
    · exact (g__law_in M).up (by decide)
theorem g__law_screen (M : MM P w K mg) : FnG P w K mg base (clK K ex) 3 r__law_screen := by
  refine def_g M (st := top 46) (x := "_law_screen") (N := ["panes", "order", "found", "x", "y"]) (ps := ["panes", "order"]) (mu := ["found"]) (di := []) (tu := []) (Γ := [r__law_top]) (ss := ir__law_screen) (j := 2) 34 (by rfl) (by decide +kernel) ⟨rfl, rfl, rfl, by decide +kernel, rfl, by decide +kernel, by decide +kernel⟩ (by kernel_rfl) (fun _ _ _ _ _ _ us hl => match us, hl with | [_, _], _ => rfl) ?_
  exact fun r hr => by
    simp only [List.mem_cons, List.not_mem_nil, or_false] at hr
    rcases hr with rfl
    · exact (g__law_top M).up (by decide)
theorem g__law_orders (M : MM P w K mg) : FnG P w K mg base (clK K ex) 1 r__law_orders := by
  refine def_g M (st := top 47) (x := "_law_orders") (N := ["many", "found", "k", "longer", "order", "number"]) (ps := ["many"]) (mu := ["longer"]) (di := []) (tu := []) (Γ := []) (ss := ir__law_orders) (j := 0) 35 (by rfl) (by decide +kernel) ⟨rfl, rfl, rfl, by decide +kernel, rfl, by decide +kernel, by decide +kernel⟩ (by kernel_rfl) (fun _ _ _ _ _ _ us hl => match us, hl with | [_], _ => rfl) ?_
  exact fun r hr => by cases hr
theorem g__law_steps (M : MM P w K mg) : FnG P w K mg base (clK K ex) 1 r__law_steps_k16 := by
  refine def_g M (st := top 48) (x := "_law_steps") (N := ["order", "found", "level", "longer", "some", "number", "after", "other"]) (ps := ["order"]) (mu := ["found", "longer"]) (di := []) (tu := ["found"]) (Γ := []) (ss := ir__law_steps_k16) (j := 0) 36 (by rfl) (by decide +kernel) ⟨rfl, rfl, rfl, by decide +kernel, rfl, by decide +kernel, by decide +kernel⟩ (by kernel_rfl) (fun _ _ _ _ _ _ us hl => match us, hl with | [_], _ => rfl) ?_
  exact fun r hr => by cases hr
theorem ok_law {fd : FuncData} (M : MM P w K mg) (F : FunD K "law" "law" (defArgs (top 49)) (defBody (top 49)) (defScope (top 49)) [] [] (He.ga K "law") fd) : FnOk P w K mg base (L2.CX P w) 8 (He.ga K "law") fd ["script"] (spOf K (clK K ex) 1 r_law_k16.sem) := by
  refine def_k M (st := top 49) (x := "law") (N := ["script", "i", "panes", "many", "order", "steps", "looks", "one", "target", "row", "after", "number", "least", "other"]) (ps := ["script"]) (mu := []) (di := ["looks", "steps"]) (tu := []) (Γ := [r__law_panes, r__law_order, r__law_steps_k16, r__law_orders, r_raises_to, r_fewest_raises, r_raised, r_fewest_to_look, r_changes_look, r__law_screen]) (ss := ir_law_k16) (j := 7) F ⟨rfl, rfl, rfl, by decide +kernel, rfl, by decide +kernel, by decide +kernel⟩ (by kernel_rfl) ?_
  exact fun r hr => by
    simp only [List.mem_cons, List.not_mem_nil, or_false] at hr
    rcases hr with rfl | rfl | rfl | rfl | rfl | rfl | rfl | rfl | rfl | rfl
    · exact (g__law_panes M).up (by decide)
    · exact (g__law_order M).up (by decide)
    · exact (g__law_steps M).up (by decide)
    · exact (g__law_orders M).up (by decide)
    · exact (g_raises_to M).up (by decide)
    · exact (g_fewest_raises M).up (by decide)
    · exact (g_raised M).up (by decide)
    · exact (g_fewest_to_look M).up (by decide)
    · exact (g_changes_look M).up (by decide)
    · exact (g__law_screen M).up (by decide)
end
end Hd
open PySem PySem.W PySem.Calls PyProof.Rows
theorem PySem.Challenge.cw_panestacks_k16_whole_raising_holds : PySem.Challenge.rw_panestacks_k16_whole_raising.Holds := by
  w_on; o_law
  refine HandSHeadRun.head_any (r := OpenLaw.row PySem.Challenge.rw_panestacks_k16_whole_raising) (q := view (OpenLaw.row PySem.Challenge.rw_panestacks_k16_whole_raising).prog [49]) (H := Hd.hk) (ob := Hd.ob) (M := 6000) (loose := Hd.loose) (d := HandSHeadRun.topDef (OpenLaw.row PySem.Challenge.rw_panestacks_k16_whole_raising).prog 49) (kwd := []) Hd.ob_eq
    (by kernel_rfl) (fun s => by kernel_rfl) Hd.run (by kernel_rfl) (by kernel_rfl) (by kernel_rfl) (by rfl) (by first | assumption | decide +kernel) (by decide +kernel) ⟨rfl, rfl, rfl, rfl, rfl, by decide +kernel⟩ ?hw ?hc
  case hw => w_witness2
  case hc =>
    refine Pan.walk_ofW (l := PySem.Challenge.rw_panestacks_k16_whole_raising) (n := 63) (k := 8) (x := "script") (CX := fun w => L2.CX (PySem.Challenge.rw_panestacks_k16_whole_raising).prog w) rfl (by decide) (by kernel_rfl) ⟨rfl, by decide, by decide⟩ ?F (fun w H s e s' z => Pan.cx_false _ w H s e s' z)
    intro w mg fa h Y G hmg0
    obtain ⟨K, KX, c⟩ := Y
    have hmg : mg ("law" : PySem.Str) = some (.ref fa) := by
      have e : (HandSHeadRun.topDef (OpenLaw.row PySem.Challenge.rw_panestacks_k16_whole_raising).prog 49).name = ("law" : PySem.Str) := by kernel_rfl
      rw [← e]
      exact hmg0
    have M : Hd.MM (PySem.Challenge.rw_panestacks_k16_whole_raising).prog w K mg := ⟨⟨h, KX, G, c⟩, by decide +kernel⟩
    obtain ⟨fd, F, hm⟩ := M.def_ (st := Hd.top 49) (x := "law") 37 (by rfl) (by decide +kernel)
    rw [hm] at hmg
    cases hmg
    have b := L2.FunD.bindsA (ps := ["script"]) F fun _ _ _ _ _ _ us hl => match us, hl with | [_], _ => rfl
    refine ⟨K, fd, Pan.spOf K (Pan.clK K Hd.ex) 1 Pan.r_law_k16.sem, KX, fun s v => b s [v] rfl, fun H a ns hl _ hS => Pan.sp_law Pan.math_k16 H a ns hl hS, fun base _ _ => ?_⟩
    exact Hd.ok_law M F
