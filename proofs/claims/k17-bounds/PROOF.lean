import PyProof.Rows.All
import Wide.All
import OpenK.AllK
import Wide.FinOn
import PySem.Str
import PySem.Sem
import PyProof.ReprReads
import PyProof.StrBlockL
import PyProof.MinMaxWalk
import HandS.ForMost
import HandS.TupMul
import HandS.TupAny
import HandS.Style
import HandS.NoneIn
import HandS.Defaults
import HandS.Walk
import HandS.Zip
import HandS.IsInst
import HandS.Evl
import HandS.Wide
import HandS.Deep
import HandS.Flow
import KE.DataEq
import KE.GoesEnum
import HandS.Sort
import HandS.More
import HandS.Text
import HandS.HeadEnd
import HandS.Head0
import HandS.Head1
import HandS.Head2
import HandS.HeadHook1
import HandS.HeadHook2
import HandS.HeadHook3
import PyProof.FitsInt
import PyProof.StrLawsRepr
import PySem.Challenge.RW_overrows_k17_bounds_and_places
set_option Elab.async false
set_option linter.all false
set_option maxRecDepth 100000
namespace Ov
open PySem

/-- plain data -/
inductive D where
  | non | bl (b : Bool) | int (i : Int) | str (s : Str) | tup (xs : List D) | lst (xs : List D)
  deriving Inhabited

/-- what a slot holds: data, a list that nobody else holds (true: the caller's, handed in), the script -/
inductive EV where
  | d (x : D) | own (b : Bool) (xs : List D) | scr (ns : List Int)
  deriving Inhabited
abbrev Slots := List (Option EV)
/-- what an expression gives: data, or the list of a slot -/
inductive Vl where
  | d (x : D) | slot (i : Nat)
  deriving Inhabited

inductive Ty where | int | bool | str | list | tuple deriving DecidableEq
def Ty.nm : Ty → String
  | .int => "int" | .bool => "bool" | .str => "str" | .list => "list" | .tuple => "tuple"
inductive BOp where | add | sub | mul | fdiv | mod | pow deriving DecidableEq
inductive COp where | eq | ne | lt | le | gt | ge | isin | notin deriving DecidableEq
inductive Bi where
  | len | abs | int | min2 | max2 | minL | maxL | sum | all | any | tuple | list | repr
  deriving DecidableEq
inductive Mt where | index | join deriving DecidableEq
inductive Mu where | append | extend | pop | popAt | insert deriving DecidableEq
inductive Pat where | nm (i : Nat) | nil | cons (a b : Pat) | tp (p : Pat) deriving DecidableEq, Inhabited

/-- what is walked: data, range(n), enumerate(x), zip(x, y) -/
inductive ItK where | seq | rng | enm | zip deriving DecidableEq, Inhabited
inductive IR where
  | nil | cons (a b : IR)
  | var (i : Nat) | glob (g : Nat) | int (n : Int) | str (s : Str) | bl (b : Bool) | non
  | op (o : BOp) (a b : IR) | neg (a : IR) | cmp (o : COp) (a b : IR) | chain (o o' : COp) (a b c : IR) | isn (ng : Bool) (a : IR)
  | one (a : IR) | band (a b : IR) | bor (a b : IR) | bnot (a : IR) | ife (c a b : IR)
  | tup (es : IR) | lst (es : IR) | idx (a i : IR) | slc (a lo hi : IR) | stp (a s : IR) | isb (ng : Bool) (a : IR) (b : Bool)
  | call (f : Nat) (es : IR) | callK (s : Nat) (ks : IR) | callT (f g : Nat) (es : IR)
  | lenS (a : IR) | bi (b : Bi) (es : IR) | isi (e : IR) (ts : List Ty) | mt (m : Mt) (o es : IR)
  | dget (e k : IR) | lrng (a b : IR) | gdg (g : Nat) (k : IR)
  | comp (vs : List Nat) (p : Pat) (k : ItK) (a b c e : IR)
  | frz (i : Nat) | mu (m : Mu) (i : Nat) (es : IR)
  -- statements
  | skip | seq (a b : IR) | asg (p : Pat) (e : IR) | asgO (i : Nat) (e : IR) | par (fs : List (Nat × Bool)) (es : IR)
  | setI (i : Nat) (k e : IR) | aug (o : BOp) (i : Nat) (e : IR)
  /-- x = [a, ..r]; if not f(x, [names js]): ..; x[0].append(text): the list a is new -/
  | prb (i : Nat) (a r : IR) (f : Nat) (js : List Nat)
  | expr (e : IR) | ret (e : IR) | retO (e : IR) | retV (i : Nat) | retN | ifS (c t u : IR) | forS (p : Pat) (k : ItK) (a b body : IR) | whS (c b : IR) | brk | cnt
  deriving Inhabited

/-! ### operations on data -/
def D.ofSeq : D → Option (List D)
  | .tup xs => some xs
  | .lst xs => some xs
  | _ => none
def D.ofLst : D → Option (List D)
  | .lst xs => some xs
  | _ => none
/-- what a for walks -/
def D.items : D → Option (List D)
  | .tup xs => some xs
  | .lst xs => some xs
  | .str s => if s.length ≤ sizeLine then some (s.cps.toList.map fun c => .str ⟨#[c]⟩) else none
  | _ => none

mutual
def D.eqv : D → D → Bool
  | .non, .non => true
  | .bl a, .bl b => a == b
  | .bl a, .int j => (if a then (1 : Int) else 0) == j
  | .int i, .bl b => i == (if b then (1 : Int) else 0)
  | .int i, .int j => i == j
  | .str a, .str b => a == b
  | .tup xs, .tup ys => D.eqvs xs ys
  | .lst xs, .lst ys => D.eqvs xs ys
  | _, _ => false
def D.eqvs : List D → List D → Bool
  | [], [] => true
  | x :: xs, y :: ys => D.eqv x y && D.eqvs xs ys
  | _, _ => false
end
mutual
def D.depth : D → Nat
  | .tup xs => D.depths xs + 1
  | .lst xs => D.depths xs + 1
  | _ => 0
def D.depths : List D → Nat
  | [] => 0
  | x :: xs => max (D.depth x) (D.depths xs)
end
def small (i : Int) : Bool := decide (-(2 ^ 64) < i ∧ i < 2 ^ 64)
def eqD (a b : D) : Option Bool := if min a.depth b.depth ≤ 64 then some (D.eqv a b) else none
/-- x in xs: the depths asked once -/
def inD (x : D) (xs : List D) : Option Bool := if min (D.depths xs) x.depth ≤ 64 then some (xs.any fun y => D.eqv y x) else none
def ixN' (n : Nat) (i : Int) : Option Nat := if 0 ≤ i then (if i < n then some i.toNat else none) else if -(n : Int) ≤ i then some (i + n).toNat else none
def atD (xs : List D) (i : Int) : Option D := (ixN' xs.length i).bind fun j => xs[j]?
def sIx' (n : Nat) (d : Nat) : Option Int → Nat
  | none => d
  | some i => if i < 0 then (i + (n : Int)).toNat else min i.toNat n
def cutD (xs : List D) (lo hi : Option Int) : List D := (xs.drop (sIx' xs.length 0 lo)).take (sIx' xs.length xs.length hi - sIx' xs.length 0 lo)

def stpD : D → Int → Option D
  | .lst xs, k => if k = 1 then some (.lst xs) else if k = -1 then some (.lst xs.reverse) else none
  | .tup xs, k => if k = 1 then some (.tup xs) else if k = -1 then some (.tup xs.reverse) else none
  | _, _ => none
/-- x is True, x is False -/
def isbD : D → Bool → Option Bool
  | .bl c, b => some (decide (c = b))
  | .non, _ => some false
  | _, _ => none
def opD : BOp → D → D → Option D
  | .add, .int i, .int j => some (.int (i + j))
  | .add, .str a, .str b => if a.length + b.length ≤ sizeLine then some (.str (a ++ b)) else none
  | .add, .lst a, .lst b => if a.length + b.length ≤ sizeLine then some (.lst (a ++ b)) else none
  | .add, .tup a, .tup b => if a.length + b.length ≤ sizeLine then some (.tup (a ++ b)) else none
  | .sub, .int i, .int j => some (.int (i - j))
  | .mul, .int i, .int j => if small i || small j then some (.int (i * j)) else none
  | .mul, .lst a, .int j => if a.length * j.toNat ≤ sizeLine ∧ -(2 ^ 63) ≤ j ∧ j < 2 ^ 63 then some (.lst (List.replicate j.toNat a).flatten) else none
  | .mul, .tup a, .int j => if a.isEmpty = false ∧ 0 ≤ j ∧ j ≤ 1000 ∧ a.length ≤ 1000 then some (.tup (List.replicate j.toNat a).flatten) else none
  | .fdiv, .int i, .int j => if 0 < j ∧ j.natAbs.log2 < 9000 then some (.int (i / j)) else none
  | .mod, .int i, .int j => if 0 < j then some (.int (i % j)) else none
  | .pow, .int i, .int j => if 0 ≤ j ∧ j ≤ 1000000 ∧ i.natAbs < 2 ^ 64 then some (.int (i ^ j.toNat)) else none
  | _, _, _ => none
def cmpD : COp → D → D → Option Bool
  | .eq, a, b => eqD a b
  | .ne, a, b => (eqD a b).map (!·)
  | .lt, .int i, .int j => some (decide (i < j))
  | .le, .int i, .int j => some (decide (i ≤ j))
  | .gt, .int i, .int j => some (decide (j < i))
  | .ge, .int i, .int j => some (decide (j ≤ i))
  | .lt, .str a, .str b => some (decide (a.cps.toList < b.cps.toList))
  | .isin, .str a, .str z => match a.cps.toList with
    | [c] => some (decide (c ∈ z.cps.toList))
    | _ => none
  | .isin, x, .lst ys => inD x ys
  | .isin, x, .tup ys => inD x ys
  | .notin, x, .lst ys => (inD x ys).map (!·)
  | .notin, x, .tup ys => (inD x ys).map (!·)
  | _, _, _ => none
def isTy : Ty → D → Bool
  | .int, .int _ => true
  | .int, .bl _ => true
  | .bool, .bl _ => true
  | .str, .str _ => true
  | .list, .lst _ => true
  | .tuple, .tup _ => true
  | _, _ => false
def isTys (ts : List Ty) (x : D) : Bool := ts.any fun t => isTy t x
def boolsD : List D → Option (List Bool)
  | [] => some []
  | .bl b :: r => (boolsD r).map (b :: ·)
  | _ => none
def intsD : List D → Option (List Int)
  | [] => some []
  | .int i :: r => (intsD r).map (i :: ·)
  | _ => none
def un1 (f : D → Option D) : List D → Option D
  | [x] => f x
  | _ => none
def un2 (f : D → D → Option D) : List D → Option D
  | [x, y] => f x y
  | _ => none
def lenD : D → Option D
  | .lst xs => some (.int xs.length)
  | .tup xs => some (.int xs.length)
  | .str s => if s.length ≤ sizeLine then some (.int s.length) else none
  | _ => none
def absD : D → Option D
  | .int i => some (.int (if i < 0 then -i else i))
  | _ => none
def intD : D → Option D
  | .int i => some (.int i)
  | .bl b => some (.int (if b then 1 else 0))
  | _ => none
def min2D : D → D → Option D
  | .int i, .int j => some (.int (if j < i then j else i))
  | _, _ => none
def max2D : D → D → Option D
  | .int i, .int j => some (.int (if j > i then j else i))
  | _, _ => none
def allD : D → Option D
  | .lst xs => (boolsD xs).map fun bs => .bl (bs.all id)
  | _ => none
def anyD : D → Option D
  | .lst xs => (boolsD xs).map fun bs => .bl (bs.any id)
  | _ => none
def sumD : D → Option D
  | .lst xs => (intsD xs).map fun ns => .int ns.sum
  | _ => none
def tupleD : D → Option D
  | .lst xs => some (.tup xs)
  | .tup xs => some (.tup xs)
  | _ => none
def listD : D → Option D
  | .lst xs => some (.lst xs)
  | .tup xs => some (.lst xs)
  | _ => none
def strsD : List D → Option (List Str)
  | [] => some []
  | .str s :: r => (strsD r).map (s :: ·)
  | _ => none
def ltS (ss : List Str) (i j : Nat) : Bool := decide ((ss.getD i default).cps.toList < (ss.getD j default).cps.toList)
def gtS (ss : List Str) (i j : Nat) : Bool := decide ((ss.getD j default).cps.toList < (ss.getD i default).cps.toList)
def bestD (pick : List Int → Option Int) (bt : List Str → Nat → Nat → Bool) (xs : List D) : Option D := match intsD xs with
  | some ns => (pick ns).map .int
  | none => match strsD xs with
    | some ss => (ss[argBest (bt ss) (ss.length - 1)]?).map .str
    | none => none
def minLD : D → Option D
  | .lst xs => bestD (·.min?) ltS xs
  | _ => none
def maxLD : D → Option D
  | .lst xs => bestD (·.max?) gtS xs
  | _ => none
mutual
def D.py : D → PyData
  | .non => .none
  | .bl b => .bool b
  | .int i => .int i
  | .str s => .str s
  | .tup xs => .tuple (D.pys xs)
  | .lst xs => .list (D.pys xs)
def D.pys : List D → List PyData
  | [] => []
  | x :: xs => D.py x :: D.pys xs
end
/-- repr -/
def reprD (x : D) : Option D := if x.depth ≤ 60 ∧ x.py.showable = true ∧ x.py.shown.length ≤ sizeLine then some (.str x.py.shown) else none
def joinD (a : Str) (xs : List D) : Option D := do
  let ys ← strsD xs
  if (ys.map (·.length)).sum + ys.length * a.length ≤ 16777216 then pure (.str (Txt.join a ys)) else none
def biD : Bi → List D → Option D
  | .len => un1 lenD
  | .abs => un1 absD
  | .int => un1 intD
  | .min2 => un2 min2D
  | .max2 => un2 max2D
  | .all => un1 allD
  | .any => un1 anyD
  | .sum => un1 sumD
  | .tuple => un1 tupleD
  | .list => un1 listD
  | .minL => un1 minLD
  | .maxL => un1 maxLD
  | .repr => un1 reprD
def range1 (n : Nat) : List D := (List.range n).map fun (i : Nat) => .int (i : Int)
def enumD (xs : List D) : List D := xs.zipIdx.map fun p => .tup [.int (p.2 : Int), p.1]
def zipD (xs ys : List D) : List D := (xs.zip ys).map fun p => .tup [p.1, p.2]
/-- a list of pairs with int keys: the last one counts -/
def pairI : D → Option (Int × D)
  | .tup [.int k, v] => some (k, v)
  | _ => none
def pairsI : List D → Option (List (Int × D))
  | [] => some []
  | x :: r => do let p ← pairI x; let q ← pairsI r; pure (p :: q)
def lastKey (k : Int) : List (Int × D) → Option D
  | [] => none
  | (j, v) :: r => match lastKey k r with
    | some u => some u
    | none => if j = k then some v else none

/-- list(range(i, j)) -/
def rangeD (i j : Int) : List D := (List.range (j - i).toNat).map fun (k : Nat) => .int (i + (k : Int))
def lrngD (i j : Int) : Option D := if -(2 ^ 40) ≤ i ∧ i ≤ 2 ^ 40 ∧ -(2 ^ 40) ≤ j ∧ j ≤ 2 ^ 40 ∧ j - i ≤ 2 ^ 20 then some (.lst (rangeD i j)) else none
def dicD : List (Str × D) → Str → Option D
  | [], _ => none
  | (k, v) :: r, z => if k = z then some v else dicD r z
mutual
/-- texts of codes alone -/
def D.txt : D → Bool
  | .str s => s.cps.all (· < 0x110000)
  | .tup xs => D.txts xs
  | .lst xs => D.txts xs
  | _ => true
def D.txts : List D → Bool
  | [] => true
  | x :: xs => D.txt x && D.txts xs
end
/-- methods by data -/
def idxD (x : D) : List D → Option Nat
  | [] => none
  | y :: r => if D.eqv y x then some 0 else (idxD x r).map (· + 1)
def mtD : Mt → D → List D → Option D
  | .index, .lst ys, [x] => if D.depths ys + 1 ≤ 64 ∧ x.depth ≤ 64 ∧ D.txts ys = true ∧ x.txt = true then (idxD x ys).map fun j => .int (j : Int) else none
  | .join, .str a, [.lst xs] => joinD a xs
  | .join, .str a, [.tup xs] => joinD a xs
  | _, _, _ => none
/-! ### the evaluator -/
def Vl.look (ρ : Slots) : Vl → Option D
  | .d x => some x
  | .slot i => match ρ[i]? with
    | some (some (.own _ xs)) => some (.lst xs)
    | _ => none
/-- .. the script besides -/
def Vl.lookS (ρ : Slots) : Vl → Option D
  | .d x => some x
  | .slot i => match ρ[i]? with
    | some (some (.own _ xs)) => some (.lst xs)
    | some (some (.scr ns)) => some (.lst (ns.map D.int))
    | _ => none
def looks (ρ : Slots) : List Vl → Option (List D)
  | [] => some []
  | v :: r => do let x ← v.look ρ; let xs ← looks ρ r; pure (x :: xs)
/-- data alone -/
def Vl.pure? : Vl → Option D
  | .d x => some x
  | .slot _ => none
def pures : List Vl → Option (List D)
  | [] => some []
  | v :: r => do let x ← v.pure?; let xs ← pures r; pure (x :: xs)
/-- an argument: data, or a slot's list for the callee to change -/
def Vl.arg (ρ : Slots) : Vl → Option EV
  | .d x => some (.d x)
  | .slot i => match ρ[i]? with
    | some (some (.own _ xs)) => some (.own true xs)
    | some (some (.scr ns)) => some (.scr ns)
    | _ => none
def argsOf (ρ : Slots) : List Vl → Option (List EV)
  | [] => some []
  | v :: r => do let x ← v.arg ρ; let xs ← argsOf ρ r; pure (x :: xs)
def slotsOf : List Vl → List Nat
  | [] => []
  | .slot i :: r => i :: slotsOf r
  | .d _ :: r => slotsOf r
def isOwn : Option (Option EV) → Bool
  | some (some (.own _ _)) => true
  | _ => false
def isBox : Option (Option EV) → Bool
  | some (some (.own true _)) => true
  | _ => false
/-- the slot's own list holds xs now -/
def reown (ρ : Slots) (i : Nat) (xs : List D) : Slots := match ρ[i]? with
  | some (some (.own b _)) => ρ.set i (some (.own b xs))
  | _ => ρ
/-- what the callee left in the slots' lists -/
def putBack : Slots → List Vl → List EV → Slots
  | ρ, .slot i :: vs, .own _ xs :: es => putBack (reown ρ i xs) vs es
  | ρ, _ :: vs, _ :: es => putBack ρ vs es
  | ρ, _, _ => ρ
mutual
/-- a pattern against data -/
def Pat.bind : Pat → D → Slots → Option Slots
  | .nm i, x, ρ => some (ρ.set i (some (.d x)))
  | .tp p, x, ρ => do let xs ← x.ofSeq; Pat.binds p xs ρ
  | _, _, _ => none
def Pat.binds : Pat → List D → Slots → Option Slots
  | .nil, [], ρ => some ρ
  | .cons a b, x :: xs, ρ => do let ρ1 ← Pat.bind a x ρ; Pat.binds b xs ρ1
  | _, _, _ => none
end
def wipeE (ρ : Slots) : List Nat → Slots
  | [] => ρ
  | v :: vs => (wipeE ρ vs).set v none
/-- behind a comprehension: its own slots as they were -/
def restore (old ρ : Slots) : List Nat → Slots
  | [] => ρ
  | v :: vs => (restore old ρ vs).set v (old[v]?.getD none)

/-- a list changed by a method: its value, the list behind it -/
def muD : Mu → List D → List D → Option (D × List D)
  | .append, ys, [x] => if ys.length < sizeLine then some (.non, ys ++ [x]) else none
  | .extend, ys, [.lst zs] => if ys.length + zs.length ≤ sizeLine then some (.non, ys ++ zs) else none
  | .pop, ys, [] => do let y ← ys[ys.length - 1]?; pure (y, ys.dropLast)
  | .popAt, ys, [.int i] => do let j ← ixN' ys.length i; let y ← ys[j]?; pure (y, ys.eraseIdx j)
  | .insert, ys, [.int i, x] => if ys.length < sizeLine ∧ 0 ≤ i ∧ i ≤ ys.length then some (.non, ys.insertIdx i.toNat x) else none
  | _, _, _ => none
/-- the callee: arguments to its value (data, or a new list) and what its list arguments hold now -/
abbrev CF := Nat → List EV → Option (EV × List EV)
structure Cfg where
  cf : CF
  gd : Nat → Option D
  /-- keyword shapes: the callee, how many positional ones, the order of the values -/
  sh : Nat → Option (Nat × List Nat)
  /-- dicts of the top -/
  dd : Nat → Option (List (Str × D))
def asInt : D → Option Int
  | .int i => some i
  | _ => none
def asBool : D → Option Bool
  | .bl b => some b
  | _ => none
def partD (ρ : Slots) (v : Vl) : Option (Option Int) := do let x ← v.look ρ; let i ← asInt x; pure (some i)
def pickAll {α : Type} (xs : List α) : List Nat → Option (List α)
  | [] => some []
  | i :: r => do let x ← xs[i]?; let q ← pickAll xs r; pure (x :: q)
/-- turns of a comprehension -/
def compGo (body : D → Slots → Option (Option D × Slots)) : List D → Slots → Option (List D × Slots)
  | [], ρ => some ([], ρ)
  | x :: xs, ρ => do
    let (y, ρ1) ← body x ρ
    let (ys, ρ2) ← compGo body xs ρ1
    pure (match y with | some z => z :: ys | none => ys, ρ2)
/-- the items of what is walked -/
def itGo (k : ItK) (ra : Option (Vl × Slots)) (rb : Slots → Option (Vl × Slots)) : Option (List D × Slots) := match k with
  | .seq => do
    let (v, ρ1) ← ra
    let x ← v.pure?
    let xs ← x.items
    pure (xs, ρ1)
  | .rng => do
    let (va, ρ1) ← ra
    let x ← va.look ρ1
    let n ← asInt x
    if n ≤ sizeLine ∧ -(2 ^ 62) ≤ n then pure (range1 n.toNat, ρ1) else none
  | .enm => do
    let (va, ρ1) ← ra
    let x ← va.pure?
    let xs ← x.ofSeq
    pure (enumD xs, ρ1)
  | .zip => do
    let (va, ρ1) ← ra
    let (vb, ρ2) ← rb ρ1
    let x ← va.pure?
    let y ← vb.pure?
    match x, y with
    | .lst xs, .lst ys => pure (zipD xs ys, ρ2)
    | .tup xs, .tup ys => pure (zipD xs ys, ρ2)
    | _, _ => none
variable (G : Cfg)
def callD (f : Nat) (vs : List Vl) (ρ : Slots) : Option (EV × Slots) := do
  let as ← argsOf ρ vs
  if (slotsOf vs).Nodup then
    let (r, outs) ← G.cf f as
    pure (r, putBack ρ vs outs)
  else none
def EV.toD : EV → Option D
  | .d x => some x
  | .own _ xs => some (.lst xs)
  | .scr _ => none
mutual
def evE : IR → Slots → Option (Vl × Slots)
  | .var i, ρ => match ρ[i]? with
    | some (some (.d x)) => some (.d x, ρ)
    | some (some (.own _ _)) => some (.slot i, ρ)
    | some (some (.scr _)) => some (.slot i, ρ)
    | _ => none
  | .glob g, ρ => do let x ← G.gd g; pure (.d x, ρ)
  | .int n, ρ => some (.d (.int n), ρ)
  | .str s, ρ => some (.d (.str s), ρ)
  | .bl b, ρ => some (.d (.bl b), ρ)
  | .non, ρ => some (.d .non, ρ)
  | .op o a b, ρ => do
    let (va, ρ1) ← evE a ρ
    let (vb, ρ2) ← evE b ρ1
    let x ← va.look ρ2
    let y ← vb.look ρ2
    let z ← opD o x y
    pure (.d z, ρ2)
  | .neg a, ρ => do
    let (va, ρ1) ← evE a ρ
    let x ← va.look ρ1
    let i ← asInt x
    pure (.d (.int (-i)), ρ1)
  | .cmp o a b, ρ => do
    let (va, ρ1) ← evE a ρ
    let (vb, ρ2) ← evE b ρ1
    let x ← va.look ρ2
    let y ← vb.look ρ2
    let z ← cmpD o x y
    pure (.d (.bl z), ρ2)
  | .chain o o' a b c, ρ => do
    let (va, ρ1) ← evE a ρ
    let (vb, ρ2) ← evE b ρ1
    let x ← va.look ρ2
    let y ← vb.look ρ2
    let z ← cmpD o x y
    if z then
      let (vc, ρ3) ← evE c ρ2
      let y' ← vb.look ρ3
      let w ← vc.look ρ3
      let z' ← cmpD o' y' w
      pure (.d (.bl z'), ρ3)
    else pure (.d (.bl false), ρ2)
  | .isn ng a, ρ => do
    let (va, ρ1) ← evE a ρ
    let x ← va.look ρ1
    pure (.d (.bl (match x with | .non => !ng | _ => ng)), ρ1)
  | .one a, ρ => evE a ρ
  | .band a b, ρ => do
    let (va, ρ1) ← evE a ρ
    let x ← va.pure?
    let p ← asBool x
    if p then evE b ρ1 else pure (.d (.bl false), ρ1)
  | .bor a b, ρ => do
    let (va, ρ1) ← evE a ρ
    let x ← va.pure?
    let p ← asBool x
    if p then pure (.d (.bl true), ρ1) else evE b ρ1
  | .bnot a, ρ => do
    let (va, ρ1) ← evE a ρ
    let x ← va.pure?
    let p ← asBool x
    pure (.d (.bl (!p)), ρ1)
  | .ife c a b, ρ => do
    let (vc, ρ1) ← evE c ρ
    let x ← vc.pure?
    let p ← asBool x
    if p then evE a ρ1 else evE b ρ1
  | .tup es, ρ => do
    let (vs, ρ1) ← evL es ρ
    let xs ← pures vs
    if xs.length ≤ sizeLine then pure (.d (.tup xs), ρ1) else none
  | .lst es, ρ => do
    let (vs, ρ1) ← evL es ρ
    let xs ← pures vs
    if xs.length ≤ sizeLine then pure (.d (.lst xs), ρ1) else none
  | .idx a i, ρ => do
    let (va, ρ1) ← evE a ρ
    let (vi, ρ2) ← evE i ρ1
    let x ← va.lookS ρ2
    let y ← vi.look ρ2
    let n ← asInt y
    match x with
    | .lst xs => do let z ← atD xs n; pure (.d z, ρ2)
    | .tup xs => do let z ← atD xs n; pure (.d z, ρ2)
    | .str s => if s.length ≤ sizeLine then (do
        let j ← ixN' s.length n
        let c ← s.cps[j]?
        pure (.d (.str ⟨#[c]⟩), ρ2)) else none
    | _ => none
  | .slc a lo hi, ρ => do
    let (va, ρ1) ← evE a ρ
    let (l, ρ2) ← (match lo with
      | .nil => some (none, ρ1)
      | e => do let (v, ρ') ← evE e ρ1; let p ← partD ρ' v; pure (p, ρ'))
    let (h, ρ3) ← (match hi with
      | .nil => some (none, ρ2)
      | e => do let (v, ρ') ← evE e ρ2; let p ← partD ρ' v; pure (p, ρ'))
    let x ← va.lookS ρ3
    match x with
    | .lst xs => pure (.d (.lst (cutD xs l h)), ρ3)
    | .tup xs => pure (.d (.tup (cutD xs l h)), ρ3)
    | _ => none
  | .stp a s, ρ => do
    let (va, ρ1) ← evE a ρ
    let (vs, ρ2) ← evE s ρ1
    let y ← vs.look ρ2
    let k ← asInt y
    let x ← va.lookS ρ2
    let z ← stpD x k
    pure (.d z, ρ2)
  | .isb ng a b, ρ => do
    let (va, ρ1) ← evE a ρ
    let x ← va.look ρ1
    let r ← isbD x b
    pure (.d (.bl (if ng then !r else r)), ρ1)
  | .call f es, ρ => do
    let (vs, ρ1) ← evL es ρ
    let (r, ρ2) ← callD G f vs ρ1
    let z ← r.toD
    pure (.d z, ρ2)
  | .callK s ks, ρ => do
    let (f, o) ← G.sh s
    let (ws, ρ1) ← evL ks ρ
    let us ← pickAll ws o
    let (r, ρ2) ← callD G f us ρ1
    let z ← r.toD
    pure (.d z, ρ2)
  | .callT f g es, ρ => do
    let (vs, ρ1) ← evL es ρ
    match ← callD G g vs ρ1 with
    | (.own _ xs, ρ2) => do
      let (r, _) ← G.cf f [.own true xs]
      let z ← r.toD
      pure (.d z, ρ2)
    | _ => none
  | .lenS a, ρ => do
    let (va, ρ1) ← evE a ρ
    let x ← va.lookS ρ1
    let z ← lenD x
    pure (.d z, ρ1)
  | .bi b es, ρ => do
    let (vs, ρ1) ← evL es ρ
    let xs ← looks ρ1 vs
    let z ← biD b xs
    pure (.d z, ρ1)
  | .isi e ts, ρ => do
    let (v, ρ1) ← evE e ρ
    let x ← v.look ρ1
    pure (.d (.bl (isTys ts x)), ρ1)
  | .dget e k, ρ => do
    let (v, ρ1) ← evE e ρ
    let x ← v.look ρ1
    let xs ← x.ofLst
    let ps ← pairsI xs
    let (w, ρ2) ← evE k ρ1
    let y ← w.look ρ2
    let n ← asInt y
    let z ← lastKey n ps
    pure (.d z, ρ2)
  | .lrng a b, ρ => do
    let (va, ρ1) ← evE a ρ
    let (vb, ρ2) ← evE b ρ1
    let x ← va.look ρ2
    let y ← vb.look ρ2
    let i ← asInt x
    let j ← asInt y
    let z ← lrngD i j
    pure (.d z, ρ2)
  | .gdg g k, ρ => do
    let (v, ρ1) ← evE k ρ
    let x ← v.look ρ1
    let kvs ← G.dd g
    match x with
    | .str z => do let d ← dicD kvs z; pure (.d d, ρ1)
    | _ => none
  | .mt m o es, ρ => do
    let (v, ρ1) ← evE o ρ
    let x ← v.pure?
    let (vs, ρ2) ← evL es ρ1
    let xs ← looks ρ2 vs
    let z ← mtD m x xs
    pure (.d z, ρ2)
  | .comp vs p k a b c e, ρ => do
    let (xs, ρ1) ← itGo k (evE a ρ) (evE b)
    if vs.any (fun v => isOwn ρ1[v]?) then none else
    let (ys, ρ2) ← compGo (fun x ρ => do
      let ρa ← Pat.bind p x (wipeE ρ vs)
      let (b, ρb) ← (match c with
        | .nil => some (true, ρa)
        | c => do let (vc, ρ') ← evE c ρa; let y ← vc.pure?; let q ← asBool y; pure (q, ρ'))
      if b then do
        let (vy, ρc) ← evE e ρb
        let y ← vy.pure?
        pure (some y, ρc)
      else pure (none, ρb)) xs ρ1
    pure (.d (.lst ys), restore ρ1 ρ2 vs)
  | .frz i, ρ => match ρ[i]? with
    | some (some (.own false xs)) => some (.d (.lst xs), ρ.set i (some (.d (.lst xs))))
    | _ => none
  | .mu m i es, ρ => do
    if !isOwn ρ[i]? then none else
    let (vs, ρ1) ← evL es ρ
    let xs ← pures vs
    match ρ1[i]? with
    | some (some (.own b ys)) => do
      let (r, zs) ← muD m ys xs
      pure (.d r, ρ1.set i (some (.own b zs)))
    | _ => none
  | _, _ => none
def evL : IR → Slots → Option (List Vl × Slots)
  | .nil, ρ => some ([], ρ)
  | .cons a b, ρ => do
    let (v, ρ1) ← evE a ρ
    let (vs, ρ2) ← evL b ρ1
    pure (v :: vs, ρ2)
  | _, _ => none
end
end Ov
namespace Ov
open PySem
/-! ### statements -/
inductive Out where
  | nx (ρ : Slots) | ret (v : EV) (ρ : Slots) | brk (ρ : Slots) | ct (ρ : Slots)
  deriving Inhabited
/-- a parameter that is somebody's list is never stored anew -/
def okSet (ρ : Slots) (i : Nat) : Bool := !isBox ρ[i]?
def Pat.slots : Pat → List Nat
  | .nm i => [i]
  | .nil => []
  | .cons a b => a.slots ++ b.slots
  | .tp p => p.slots
/-- expressions that make a new list -/
def fresh : IR → Bool
  | .lst _ => true
  | .comp .. => true
  | .bi .list _ => true
  | .op .add _ _ => true
  | .op .mul _ _ => true
  | .slc .. => true
  | .stp .. => true
  | .lrng .. => true
  | _ => false
variable (G : Cfg)
def evO : IR → Slots → Option (List D × Slots)
  | .call f es, ρ => do
    let (vs, ρ1) ← evL G es ρ
    match ← callD G f vs ρ1 with
    | (.own _ xs, ρ2) => pure (xs, ρ2)
    | _ => none
  | e, ρ => if fresh e then (do
      match ← evE G e ρ with
      | (.d (.lst xs), ρ1) => pure (xs, ρ1)
      | _ => none) else none
/-- values stored side by side; a flag: as the slot's own list -/
def evP : List (Nat × Bool) → IR → Slots → Option (List EV × Slots)
  | [], .nil, ρ => some ([], ρ)
  | (_, true) :: fs, .cons a b, ρ => do
    let (xs, ρ1) ← evO G a ρ
    let (vs, ρ2) ← evP fs b ρ1
    pure (.own false xs :: vs, ρ2)
  | (_, false) :: fs, .cons a b, ρ => do
    let (v, ρ1) ← evE G a ρ
    let x ← v.pure?
    let (vs, ρ2) ← evP fs b ρ1
    pure (.d x :: vs, ρ2)
  | _, _, _ => none
def setAll : Slots → List (Nat × Bool) → List EV → Slots
  | ρ, (i, _) :: fs, v :: vs => setAll (ρ.set i (some v)) fs vs
  | ρ, _, _ => ρ
def forGo (body : D → Slots → Option Out) : List D → Slots → Option Out
  | [], ρ => some (.nx ρ)
  | x :: xs, ρ => do
    match ← body x ρ with
    | .nx ρ1 => forGo body xs ρ1
    | .ct ρ1 => forGo body xs ρ1
    | .brk ρ1 => pure (.nx ρ1)
    | .ret v ρ1 => pure (.ret v ρ1)
def whGo (test : Slots → Option (Bool × Slots)) (body : Slots → Option Out) : Nat → Slots → Option Out
  | 0, _ => none
  | n + 1, ρ => do
    let (b, ρ1) ← test ρ
    if b then
      match ← body ρ1 with
      | .nx ρ2 => whGo test body n ρ2
      | .ct ρ2 => whGo test body n ρ2
      | .brk ρ2 => pure (.nx ρ2)
      | .ret v ρ2 => pure (.ret v ρ2)
    else pure (.nx ρ1)
def evT (c : IR) (ρ : Slots) : Option (Bool × Slots) := do
  let (v, ρ1) ← evE G c ρ
  let x ← v.pure?
  let b ← asBool x
  pure (b, ρ1)
/-- the data of some slots -/
def slotsD (ρ : Slots) : List Nat → Option (List D)
  | [] => some []
  | j :: js => match ρ[j]? with
    | some (some (.d x)) => (slotsD ρ js).map (x :: ·)
    | _ => none
def isTrueD : EV → Bool
  | .d (.bl true) => true
  | _ => false
def evS (w : Nat) : IR → Slots → Option Out
  | .skip, ρ => some (.nx ρ)
  | .seq a b, ρ => do
    match ← evS w a ρ with
    | .nx ρ1 => evS w b ρ1
    | o => pure o
  | .asg p e, ρ => do
    let (v, ρ1) ← evE G e ρ
    let x ← v.pure?
    if p.slots.all (okSet ρ1) then do
      let ρ2 ← Pat.bind p x ρ1
      pure (.nx ρ2)
    else none
  | .asgO i e, ρ => do
    let (xs, ρ1) ← evO G e ρ
    if okSet ρ1 i then pure (.nx (ρ1.set i (some (.own false xs)))) else none
  | .par fs es, ρ => do
    let (vs, ρ1) ← evP G fs es ρ
    if fs.all (fun p => okSet ρ1 p.1) then pure (.nx (setAll ρ1 fs vs)) else none
  | .setI i k e, ρ => do
    let (v, ρ1) ← evE G e ρ
    let x ← v.pure?
    if !isOwn ρ1[i]? then none else
    let (w', ρ2) ← evE G k ρ1
    let y ← w'.look ρ2
    let n ← asInt y
    match ρ2[i]? with
    | some (some (.own b xs)) => do
      let j ← ixN' xs.length n
      pure (.nx (ρ2.set i (some (.own b (xs.set j x)))))
    | _ => none
  | .aug o i e, ρ => match ρ[i]? with
    | some (some (.d (.int v))) => do
      let (w', ρ1) ← evE G e ρ
      let y ← w'.look ρ1
      let j ← asInt y
      match opD o (.int v) (.int j) with
      | some (.int z) => pure (.nx (ρ1.set i (some (.d (.int z)))))
      | _ => none
    | _ => none
  | .prb i a r f js, ρ => do
    let (xs, ρ1) ← evO G a ρ
    let (vs, ρ2) ← evL G r ρ1
    let ys ← pures vs
    if ys.length + 1 ≤ sizeLine ∧ xs.length < sizeLine ∧ js.length ≤ sizeLine ∧ okSet ρ2 i = true ∧ i < ρ2.length then do
      let zs ← slotsD (ρ2.set i (some (.d (.lst (.lst xs :: ys))))) js
      let (q, _) ← G.cf f [.d (.lst (.lst xs :: ys)), .d (.lst zs)]
      if isTrueD q then pure (.nx (ρ2.set i none)) else none
    else none
  | .expr e, ρ => do
    let (_, ρ1) ← evE G e ρ
    pure (.nx ρ1)
  | .ret e, ρ => do
    let (v, ρ1) ← evE G e ρ
    let x ← v.pure?
    pure (.ret (.d x) ρ1)
  | .retO e, ρ => do
    let (xs, ρ1) ← evO G e ρ
    pure (.ret (.own false xs) ρ1)
  | .retV i, ρ => match ρ[i]? with
    | some (some (.own false xs)) => some (.ret (.own false xs) ρ)
    | _ => none
  | .retN, ρ => some (.ret (.d .non) ρ)
  | .ifS c t u, ρ => do
    let (b, ρ1) ← evT G c ρ
    if b then evS w t ρ1 else evS w u ρ1
  | .forS p k a b body, ρ => do
    let (xs, ρ1) ← itGo k (evE G a ρ) (evE G b)
    forGo (fun x ρ => if p.slots.all (okSet ρ) then (do
      let ρa ← Pat.bind p x ρ
      evS w body ρa) else none) xs ρ1
  | .whS c b, ρ => whGo (evT G c) (evS w b) w ρ
  | .brk, ρ => some (.brk ρ)
  | .cnt, ρ => some (.ct ρ)
  | _, _ => none
structure Fn where
  np : Nat
  n : Nat
  body : IR
def runFn (w : Nat) (fn : Fn) (as : List EV) : Option (EV × List EV) :=
  if as.length = fn.np then do
    match ← evS G w fn.body (as.map some ++ List.replicate (fn.n - fn.np) none) with
    | .ret v ρ => pure (v, (ρ.take fn.np).map fun o => o.getD (.d .non))
    | .nx ρ => pure (.d .non, (ρ.take fn.np).map fun o => o.getD (.d .non))
    | _ => none
  else none
structure Prg where
  fns : Nat → Option Fn
  gd : Nat → Option D
  sh : Nat → Option (Nat × List Nat)
  dd : Nat → Option (List (Str × D))
  w : Nat
def ev (T : Prg) : Nat → CF
  | 0 => fun _ _ => none
  | k + 1 => fun f as => do
    let fn ← T.fns f
    runFn { cf := ev T k, gd := T.gd, sh := T.sh, dd := T.dd } T.w fn as
end Ov

set_option maxHeartbeats 2000000
namespace Ov
open PySem PySem.Spec PyProof.Rows L2 HT
/-! ### the least, the greatest of texts -/
section
variable {prog : Program} {w : World} {A : Around} {E : Value → Shared → Prop} {s : Shared} {l : Addr} {its : List Value} {ss : List Str}
theorem cmp_ltS {P : Nat → Value → Prop} (hv : ∀ i v, P i v → ∃ t, v = Value.str (ss.getD i default) t) : CmpOf prog w A .Lt P (ltS ss) := fun i j vi vj s Q E hi hj h => by
  obtain ⟨t, rfl⟩ := hv i vi hi
  obtain ⟨u, rfl⟩ := hv j vj hj
  exact richCompare_gives (op := .Lt) (typeIs_str s _ t) (typeIs_str s _ u) F.slot_str_lt F.entry_str_lt (F.args_str_lt_2 _ _) (gives_str_lt _ _ t u) (fun x => nomatch x) h
theorem cmp_gtS {P : Nat → Value → Prop} (hv : ∀ i v, P i v → ∃ t, v = Value.str (ss.getD i default) t) : CmpOf prog w A .Gt P (gtS ss) := fun i j vi vj s Q E hi hj h => by
  obtain ⟨t, rfl⟩ := hv i vi hi
  obtain ⟨u, rfl⟩ := hv j vj hj
  exact richCompare_gives (op := .Gt) (typeIs_str s _ t) (typeIs_str s _ u) F.slot_str_gt F.entry_str_gt (F.args_str_gt_2 _ _) (gives_str_gt _ _ t u) (fun x => nomatch x) h
theorem iter_anyList {xs : Array Value} {Q : Value → Shared → Prop} (hl : s.heap.IsList l xs)
    (h : ∀ s₂ : Shared, s₂ = { s with heap := s.heap.push { cls := .type "list_iterator", data := .fields #[.ref l, .int 0 0] } } →
      (s₂.heap.IsListIter s.heap.objs.size l 0 ∧ s₂.heap.IsList l xs) → (∀ b ∈ [s.heap.objs.size, l], b < s₂.heap.objs.size) → l ≠ s.heap.objs.size → Q (.ref s.heap.objs.size) s₂) :
    wpAny (model prog w) A (pyIter (.ref l)) Q E s := by
  have hlt : l < s.heap.objs.size := by obtain ⟨_, e, _⟩ := hl; exact Heap.lt_size e
  refine wpAny_pyIter_list hl (h _ rfl ⟨⟨_, Heap.get?_push_size _ rfl, rfl, rfl⟩, hl.push _⟩ (fun b hb => ?_) (Nat.ne_of_lt hlt))
  show b < (s.heap.push _).objs.size
  rw [Heap.size_push]
  rcases List.mem_cons.mp hb with rfl | hb
  · exact Nat.lt_succ_self _
  · rcases List.mem_cons.mp hb with rfl | hb
    · exact Nat.lt_succ_of_lt hlt
    · cases hb
theorem max_strList {Q : Value → Shared → Prop} (hh : A.handled = none) (hl : s.heap.IsList l its.toArray) (hv : ∀ i v, its.toArray[i]? = some v → ∃ t, v = Value.str (ss.getD i default) t) (hne : 0 < its.length)
    (h : ∀ v h' tk, its.toArray[argBest (gtS ss) (its.length - 1)]? = some v → (∀ b o, s.heap.get? b = some o → h'.get? b = some o) → Q v { s with heap := h', toks := tk }) :
    wpAny (model prog w) A (call (.builtin "max") [.ref l]) Q E s := by
  refine call_max_walk (iter_anyList hl fun s₂ e st hfp hlI => ?_)
  subst e
  refine ⟨_, _, _, _, _, _, _, rfl, Walks.list (A := A.in1) hh _ l hlI its.toArray, st, hfp, by simpa using hne, cmp_gtS hv, fun v h' tk hP hk => ?_⟩
  exact h v h' tk (by simpa using hP) (old_kept hk)
theorem min_strList {Q : Value → Shared → Prop} (hh : A.handled = none) (hl : s.heap.IsList l its.toArray) (hv : ∀ i v, its.toArray[i]? = some v → ∃ t, v = Value.str (ss.getD i default) t) (hne : 0 < its.length)
    (h : ∀ v h' tk, its.toArray[argBest (ltS ss) (its.length - 1)]? = some v → (∀ b o, s.heap.get? b = some o → h'.get? b = some o) → Q v { s with heap := h', toks := tk }) :
    wpAny (model prog w) A (call (.builtin "min") [.ref l]) Q E s := by
  refine call_min_walk (iter_anyList hl fun s₂ e st hfp hlI => ?_)
  subst e
  refine ⟨_, _, _, _, _, _, _, rfl, Walks.list (A := A.in1) hh _ l hlI its.toArray, st, hfp, by simpa using hne, cmp_ltS hv, fun v h' tk hP hk => ?_⟩
  exact h v h' tk (by simpa using hP) (old_kept hk)
end
section
variable {X : Cx}
theorem vals_strs {ss : List Str} : ∀ {its : List Value}, Vals (ss.map V.str) its → ∀ i v, its.toArray[i]? = some v → ∃ t, v = Value.str (ss.getD i default) t := by
  induction ss with
  | nil =>
    intro its r i v h
    cases r
    simp at h
  | cons a ss ih =>
    intro its r i v h
    cases r with
    | cons r1 r2 =>
      cases i with
      | zero =>
        simp at h
        subst h
        obtain ⟨t, e⟩ := r1
        exact ⟨t, by rw [e]; rfl⟩
      | succ i =>
        obtain ⟨t, e⟩ := ih r2 i v (by simpa using h)
        exact ⟨t, by rw [e]; rfl⟩
def rMaxS (K : PySem.W.Frag) : List V → Hp → VK → Prop := fun vs H Q => ∃ (a : Addr) (ss : List Str), vs = [V.ref a] ∧ SqL K H a (ss.map V.str) ∧ 0 < ss.length ∧ ∀ m, ss[argBest (gtS ss) (ss.length - 1)]? = some m → Q (.str m) H
def rMinS (K : PySem.W.Frag) : List V → Hp → VK → Prop := fun vs H Q => ∃ (a : Addr) (ss : List Str), vs = [V.ref a] ∧ SqL K H a (ss.map V.str) ∧ 0 < ss.length ∧ ∀ m, ss[argBest (ltS ss) (ss.length - 1)]? = some m → Q (.str m) H
theorem at_strs {ss : List Str} {its : List Value} (r : Vals (ss.map V.str) its) {k : Nat} {v : Value} (h : its.toArray[k]? = some v) : ∃ m t, ss[k]? = some m ∧ v = Value.str m t := by
  obtain ⟨t, e⟩ := vals_strs r k v h
  have hk : k < its.length := by
    rcases Nat.lt_or_ge k its.length with q | q
    · exact q
    · simp [List.getElem?_eq_none q] at h
  have hl : its.length = ss.length := by rw [← r.length, List.length_map]
  refine ⟨ss[k]'(by omega), t, List.getElem?_eq_getElem _, ?_⟩
  rw [e, List.getD_eq_getElem?_getD, List.getElem?_eq_getElem (by omega)]
  rfl
theorem cr_maxS (hc : X.calm = true) : CallR X (.builtin "max") (rMaxS X.K) := by
  intro pins s σ H vs us Q I r h
  obtain ⟨a, ss, rfl, hs, hne, q⟩ := h
  obtain ⟨its, rv, hl, _⟩ := I.list hs
  rw [Vals.ref1 r]
  have hle : its.length = ss.length := by rw [← rv.length, List.length_map]
  refine max_strList (I.ok.hd hc) hl.isList (vals_strs rv) (by omega) fun v h' tk hv hk => ?_
  rw [hle] at hv
  obtain ⟨m, t, e1, rfl⟩ := at_strs rv hv
  exact ⟨.str m, H, I.kept hk, ⟨_, rfl⟩, q m e1⟩
theorem cr_minS (hc : X.calm = true) : CallR X (.builtin "min") (rMinS X.K) := by
  intro pins s σ H vs us Q I r h
  obtain ⟨a, ss, rfl, hs, hne, q⟩ := h
  obtain ⟨its, rv, hl, _⟩ := I.list hs
  rw [Vals.ref1 r]
  have hle : its.length = ss.length := by rw [← rv.length, List.length_map]
  refine min_strList (I.ok.hd hc) hl.isList (vals_strs rv) (by omega) fun v h' tk hv hk => ?_
  rw [hle] at hv
  obtain ⟨m, t, e1, rfl⟩ := at_strs rv hv
  exact ⟨.str m, H, I.kept hk, ⟨_, rfl⟩, q m e1⟩
end
/-! ### a tuple times 0, times 1 -/
theorem tuple_mul1 (l : Addr) (items : Array Value) (n : Nat) (dd : Option Addr) (sl : Array (Option Value)) (u : Tok) :
    Meets (Builtin.«tuple.__mul__» ⟨[.ref l, .int 1 u], []⟩) (fun _ R s => s.heap.get? l = some { cls := .type "tuple", dict := dd, data := .seq items n, slots := sl } ∧
      R (.ok (.ret (Value.ref l))) s) :=
  .of_wp fun prog w A R s h => by
    obtain ⟨hp, g, d, tk, os⟩ := s
    obtain ⟨hl, h⟩ := h
    have f1 := AutoSeq1.idx_int
    have c0 : (decide ((1 : Int) < -(2 ^ 63)) || decide ((1 : Int) ≥ 2 ^ 63)) = false := by decide
    have c1 : (items.isEmpty || (1 : Int) == 1) = true := by simp
    wp_walk using wpAny_loadPart' hl
    repeat (first
      | (refine wpAny_ite_false (decide_eq_false (by rw [c0]; exact Bool.false_ne_true)) ?_; wp_walk using wpAny_loadPart' hl)
      | (refine wpAny_ite_true (decide_eq_true c1) ?_; wp_walk using wpAny_loadPart' hl))
    exact ⟨_, rfl, h⟩
theorem tuple_mul0 (l : Addr) (items : Array Value) (n : Nat) (dd : Option Addr) (sl : Array (Option Value)) (u : Tok) (hne : items.isEmpty = false) :
    Meets (Builtin.«tuple.__mul__» ⟨[.ref l, .int 0 u], []⟩) (fun _ R s => s.heap.get? l = some { cls := .type "tuple", dict := dd, data := .seq items n, slots := sl } ∧
      R (.ok (.ret (Value.ref s.heap.objs.size))) { s with heap := s.heap.push { cls := Value.type "tuple", data := Data.seq #[] }, toks := s.toks }) :=
  .of_wp fun prog w A R s h => by
    obtain ⟨hp, g, d, tk, os⟩ := s
    obtain ⟨hl, h⟩ := h
    have f1 := AutoSeq1.idx_int
    have c0 : (decide ((0 : Int) < -(2 ^ 63)) || decide ((0 : Int) ≥ 2 ^ 63)) = false := by decide
    have c1 : (items.isEmpty || (0 : Int) == 1) = false := by rw [hne]; decide
    have c2 : (decide ((0 : Int) ≤ 0) || items.isEmpty) = true := by simp
    have hsz : (#[] : Array Value).size ≤ sizeLine := Nat.zero_le _
    wp_walk using wpAny_loadPart' hl
    repeat (first
      | (refine wpAny_ite_false (decide_eq_false (by rw [c0]; exact Bool.false_ne_true)) ?_; wp_walk using wpAny_loadPart' hl)
      | (refine wpAny_ite_false (decide_eq_false (by rw [c1]; exact Bool.false_ne_true)) ?_; wp_walk using wpAny_loadPart' hl)
      | (refine wpAny_ite_true (decide_eq_true c2) ?_; wp_walk using wpAny_loadPart' hl)
      | (refine wpAny_ite_false (decide_eq_false (Nat.not_lt.mpr hsz)) ?_; wp_walk using wpAny_loadPart' hl))
    exact ⟨_, rfl, h⟩
def rRep01 (K : PySem.W.Frag) : R2 := fun x y H Q => ∃ l xs, x = .ref l ∧ SqT K H l xs ∧ xs ≠ [] ∧ ((y = .int 1 ∧ Q (.ref l) H) ∨ (y = .int 0 ∧ ∀ p, H p = none → Q (.ref p) (upd H p (.tup []))))
section
variable {X : Cx}
theorem op_rep01 : OpR X (binaryOp .Mult) (rRep01 X.K) := by
  intro pins s σ H x y v u Q I rx ry h
  obtain ⟨l, xs, rfl, hT, hne, h⟩ := h
  cases rx
  obtain ⟨its, r, ⟨⟨cls, dd, data, sl⟩, ho, hc, n, hd⟩, hs⟩ := I.tuple hT
  simp only at hc hd
  subst hc hd
  have hle : its.length = xs.length := r.length.symm
  have hi : its.toArray.isEmpty = false := by
    cases its with
    | nil => exact absurd (List.eq_nil_of_length_eq_zero hle.symm) hne
    | cons a b => rfl
  rcases h with ⟨rfl, q⟩ | ⟨rfl, q⟩
  · obtain ⟨t, rfl⟩ := ry
    refine wpAny_binaryOp_repeat_ref (T := "tuple") (U := "int") (by decide) ⟨_, ho, rfl⟩ (fun s' => typeIs_int s' 1 t) noFill_tuple_mul F.fills_int_mul F.slot_int_rmul repeat_tuple F.slot_int_index.lookup
      (call_meets F.slot_int_rmul (typeIs_int s 1 t) F.entry_int_rmul (F.args_int_rmul_2 _ _) (int_rmul_tuple 1 t l its.toArray n dd sl)
        ⟨ho, rfl, ⟨_, ho, rfl⟩, call_meets F.slot_tuple_mul ⟨_, ho, rfl⟩ F.entry_tuple_mul (F.args_tuple_mul_2 _ _) (tuple_mul1 l its.toArray n dd sl t) ⟨ho, ?_⟩⟩)
    exact ⟨.ref l, H, I, rfl, q⟩
  · obtain ⟨t, rfl⟩ := ry
    refine wpAny_binaryOp_repeat_ref (T := "tuple") (U := "int") (by decide) ⟨_, ho, rfl⟩ (fun s' => typeIs_int s' 0 t) noFill_tuple_mul F.fills_int_mul F.slot_int_rmul repeat_tuple F.slot_int_index.lookup
      (call_meets F.slot_int_rmul (typeIs_int s 0 t) F.entry_int_rmul (F.args_int_rmul_2 _ _) (int_rmul_tuple 0 t l its.toArray n dd sl)
        ⟨ho, rfl, ⟨_, ho, rfl⟩, call_meets F.slot_tuple_mul ⟨_, ho, rfl⟩ F.entry_tuple_mul (F.args_tuple_mul_2 _ _) (tuple_mul0 l its.toArray n dd sl t hi) ⟨ho, ?_⟩⟩)
    refine ⟨.ref s.heap.objs.size, _, I.laid (t' := s.toks) (o := .tup []) (fun b ob q => Heap.get?_push_of_some _ q) (Nat.le_refl _) ?_, rfl, q _ (I.hok.fresh (Nat.le_refl _))⟩
    exact ⟨Nat.zero_le _, _, .nil, IsTup.new _ _⟩
end
end Ov

set_option maxHeartbeats 2000000
namespace Ov
open PySem PySem.Spec PyProof.Rows L2 HT
section
variable {prog : Program} {w : World} {A : Around} {E : Value → Shared → Prop} {s : Shared}
theorem applied_step {sl : Addr} {vl vu vs : Value} {n : Nat} {k : Int} {Q : Int × Int × Nat → Shared → Prop} (hs : s.heap.IsSliceOf sl vl vu vs) (pl : IsPart vl none) (pu : IsPart vu none) (ps : IsPart vs (some k)) (hk : k = 1 ∨ k = -1)
    (h : Q ((if k = 1 then (0 : Int) else (n : Int) - 1), k, n) s) : wpAny (model prog w) A (Builtin.Slice.sliceApplied (.ref sl) (pure (n : Int))) Q E s := by
  obtain ⟨os, hos, hcs, hds⟩ := id hs
  unfold Builtin.Slice.sliceApplied Builtin.Slice.sliceFields
  refine wpAny_bind (wpAny_bind (wpAny_field hos hds (x := vl) rfl (wpAny_bind (wpAny_field hos hds (x := vu) rfl (wpAny_bind (wpAny_field hos hds (x := vs) rfl (wpAny_pure ?_)))))))
  refine wpAny_bind (slicePart_ ps ?_)
  show wpAny _ _ (if (k == 0) = true then _ else _) _ _ s
  rw [if_neg (by rcases hk with rfl | rfl <;> decide)]
  refine wpAny_bind (slicePart_ pl (wpAny_bind (slicePart_ pu (wpAny_bind (wpAny_pure ?_)))))
  show wpAny _ _ (match Builtin.Slice.sliceAdjust none none k (n : Int) with | (lo, hi) => pure (lo, (k : Int), Builtin.Slice.slicePlaces lo hi k)) _ _ s
  rcases hk with rfl | rfl
  · rw [adjust_gen none none n]
    show wpAny _ _ (pure (((0 : Nat) : Int), (1 : Int), Builtin.Slice.slicePlaces ((0 : Nat) : Int) ((n : Nat) : Int) 1)) _ _ s
    rw [places_gen]
    exact wpAny_pure h
  · have e : Builtin.Slice.slicePlaces ((n : Int) - 1) (-1) (-1) = n := by
      unfold Builtin.Slice.slicePlaces
      rw [if_neg (by decide)]
      split
      · rw [show (- -1 : Int) = 1 by decide, Int.ediv_one]; omega
      · omega
    show wpAny _ _ (pure ((n : Int) - 1, (-1 : Int), Builtin.Slice.slicePlaces ((n : Int) - 1) (-1) (-1))) _ _ s
    rw [e]
    exact wpAny_pure h
theorem fm_congr {α β : Type} {f g : α → Option β} : ∀ {xs : List α}, (∀ x ∈ xs, f x = g x) → xs.filterMap f = xs.filterMap g
  | [], _ => rfl
  | x :: xs, h => by rw [List.filterMap_cons, List.filterMap_cons, h x (List.mem_cons_self ..), fm_congr fun y hy => h y (List.mem_cons_of_mem _ hy)]
theorem pick_back (xs : Array Value) : ((List.range xs.size).filterMap fun (m : Nat) => xs[((xs.size : Int) - 1 + (m : Int) * (-1)).toNat]?).toArray = xs.toList.reverse.toArray := by
  have e : (List.range xs.size).filterMap (fun (m : Nat) => xs[((xs.size : Int) - 1 + (m : Int) * (-1)).toNat]?) = ((List.range xs.size).map fun k => xs.size - 1 - k).filterMap (xs[·]?) := by
    rw [List.filterMap_map]
    refine fm_congr fun m hm => ?_
    have h := List.mem_range.mp hm
    have q : ((xs.size : Int) - 1 + (m : Int) * (-1)).toNat = xs.size - 1 - m := by omega
    show _ = xs[xs.size - 1 - m]?
    rw [q]
  rw [e, PySem.W.krv_range, List.filterMap_reverse, PySem.W.krv_all]
theorem getItem_tuple_rev {t sl : Addr} {items : Array Value} {vl vu vs : Value} {Q : Value → Shared → Prop} (ht : IsTup s.heap t items) (hs : s.heap.IsSliceOf sl vl vu vs) (pl : IsPart vl none) (pu : IsPart vu none) (ps : IsPart vs (some (-1)))
    (h : Q (.ref s.heap.objs.size) { s with heap := s.heap.push { cls := .type "tuple", data := .seq items.toList.reverse.toArray } })
    (hsz : items.size ≤ sizeLine) : wpAny (model prog w) A (getItem (.ref t) (.ref sl)) Q E s := by
  have htake : sizeOk (.seq items.toList.reverse.toArray) := by
    show items.toList.reverse.toArray.size ≤ sizeLine
    simpa using hsz
  obtain ⟨os, hos, hcs, hds⟩ := id hs
  have hTs : s.TypeIs (.ref sl) "slice" := ⟨os, hos, hcs⟩
  unfold getItem
  try with_reducible refine wpAny_holding ?_
  first | refine wpAny_bind (wpAny_pure ?_) | skip
  refine wpAny_bind (wpAny_sequenceKey ht.typeIs (by decide) ?_)
  refine wpAny_bind (wpAny_callSpecial?_slot (name := Str.ofString "__getitem__") ht.typeIs PyProof.Rows.slot_tuple_getitem
    (wpAny_call_entry PyProof.Rows.slot_tuple_getitem ht.typeIs entry_tuple_getitem ?_ (args_tuple_getitem _ _)))
  show wpAny _ _ (Builtin.Tuple.tupleItemsOf (.ref t) >>= _) _ _ s
  refine wpAny_bind (tupleItemsOf_ ht ?_)
  refine wpAny_bind (wpAny_typeOf hTs ?_)
  rw [if_pos (by decide)]
  refine wpAny_bind (applied_step hs pl pu ps (.inr rfl) ?_)
  rw [if_neg (by decide)]
  show wpAny _ _ (if (((items.size : Int) - 1) == 0 && (-1 : Int) == 1 && items.size == items.size) = true then _ else _) _ _ s
  rw [if_neg (by simp), pick_back]
  first
    | exact wpAny_bind (m := Builtin.Tuple.tupleExact _) (wpAny_newObj_type (wpAny_pure ⟨_, rfl, wpAny_pure h⟩) htake)
    | exact wpAny_bind (m := Builtin.Tuple.tupleExact _) (wpAny_newObj_type (wpAny_bind (wpAny_pure (wpAny_pure ⟨_, rfl, wpAny_pure h⟩))) htake)
    | exact wpAny_bind (wpAny_bind (m := Builtin.Tuple.tupleExact _) (wpAny_newObj_type (wpAny_pure (wpAny_pure ⟨_, rfl, wpAny_pure h⟩)) htake))
    | exact wpAny_bind (wpAny_bind (m := Builtin.Tuple.tupleExact _) (wpAny_newObj_type (wpAny_pure ⟨_, rfl, wpAny_pure h⟩) htake))
theorem getItem_tuple_all {t sl : Addr} {items : Array Value} {vl vu vs : Value} {Q : Value → Shared → Prop} (ht : IsTup s.heap t items) (hs : s.heap.IsSliceOf sl vl vu vs) (pl : IsPart vl none) (pu : IsPart vu none) (ps : IsPart vs (some 1))
    (h : Q (.ref t) s) : wpAny (model prog w) A (getItem (.ref t) (.ref sl)) Q E s := by
  obtain ⟨os, hos, hcs, hds⟩ := id hs
  have hTs : s.TypeIs (.ref sl) "slice" := ⟨os, hos, hcs⟩
  unfold getItem
  try with_reducible refine wpAny_holding ?_
  first | refine wpAny_bind (wpAny_pure ?_) | skip
  refine wpAny_bind (wpAny_sequenceKey ht.typeIs (by decide) ?_)
  refine wpAny_bind (wpAny_callSpecial?_slot (name := Str.ofString "__getitem__") ht.typeIs PyProof.Rows.slot_tuple_getitem
    (wpAny_call_entry PyProof.Rows.slot_tuple_getitem ht.typeIs entry_tuple_getitem ?_ (args_tuple_getitem _ _)))
  show wpAny _ _ (Builtin.Tuple.tupleItemsOf (.ref t) >>= _) _ _ s
  refine wpAny_bind (tupleItemsOf_ ht ?_)
  refine wpAny_bind (wpAny_typeOf hTs ?_)
  rw [if_pos (by decide)]
  refine wpAny_bind (applied_step hs pl pu ps (.inl rfl) ?_)
  rw [if_pos rfl]
  show wpAny _ _ (if ((0 : Int) == 0 && (1 : Int) == 1 && items.size == items.size) = true then _ else _) _ _ s
  rw [if_pos (by simp)]
  refine wpAny_bind ?_
  show wpAny _ _ (typeOf (.ref t) >>= fun T => pure (T == .type "tuple")) _ _ s
  refine wpAny_bind (wpAny_typeOf ht.typeIs (wpAny_pure ?_))
  first
    | rw [if_pos (by decide)]
    | simp only [beq_self_eq_true, if_true]
  first
    | exact wpAny_bind (wpAny_rule (wpAny_pure ⟨_, rfl, wpAny_pure h⟩))
    | exact wpAny_bind (wpAny_rule (wpAny_bind (wpAny_pure (wpAny_pure ⟨_, rfl, wpAny_pure h⟩))))
end
theorem pick_all1 (items : Array Value) : slicePick items none none (some 1) = items.toList.toArray := by
  have : slicePick items none none (some 1) = slicePick items none none none := rfl
  rw [this]
  have e := slicePick_cut (its := items.toList) (lo := none) (hi := none)
  simp only [sIx_none, Nat.sub_zero, List.drop_zero, List.take_length] at e
  exact e
/-- x[::k], k 1 or -1 -/
def rStp (K : PySem.W.Frag) : V → Int → Hp → VK → Prop := fun x k H Q =>
  (∃ a xs, x = .ref a ∧ SqL K H a xs ∧ ((k = -1 ∧ ∀ p, H p = none → Q (.ref p) (upd H p (.lst xs.reverse))) ∨ (k = 1 ∧ ∀ p, H p = none → Q (.ref p) (upd H p (.lst xs))))) ∨
  (∃ a xs, x = .ref a ∧ SqT K H a xs ∧ ((k = -1 ∧ ∀ p, H p = none → Q (.ref p) (upd H p (.tup xs.reverse))) ∨ (k = 1 ∧ Q (.ref a) H)))
section
variable {X : Cx}
theorem pe_step {e st : Expr} {te : TE} {ts : TO} {p3 pos : Pos} (he : PE X e te) (hst : PO X (some st) ts) : PE X (.Subscript e (.Slice none none (some st) p3) pos) (fun σ H Q => te σ H fun x H1 => ts σ H1 fun o H2 => ∃ k, o = some k ∧ rStp X.K x k H2 Q) := by
  refine ⟨fun pins s σ H Q I h => ?_⟩
  refine Subscript_ (thn (he.run pins s σ H _ I h) fun v s1 ⟨x, H1, I1, r1, q1⟩ => ?_)
  refine wpAny_Slice (thn (po_none.run pins s1 σ H1 (fun o H2 => o = none ∧ H2 = H1) I1 ⟨rfl, rfl⟩) fun vl s2 ⟨l, H2, I2, pl, el, e2⟩ => ?_)
  subst el e2
  refine thn (po_none.run pins s2 σ H2 (fun o H3 => o = none ∧ H3 = H2) I2 ⟨rfl, rfl⟩) fun vu s3 ⟨u, H3, I3, pu, eu, e3⟩ => ?_
  subst eu e3
  refine thn (hst.run pins s3 σ H3 _ I3 q1) fun vs s4 ⟨o, H4, I4, ps, k, eo, q⟩ => ?_
  subst eo
  have I5 : Inv X pins σ H4 { s4 with heap := s4.heap.push { cls := .type "slice", data := .fields #[vl, vu, vs] } } := I4.kept (t' := s4.toks) fun b ob q => Heap.get?_push_of_some _ q
  show wpAny (model X.prog X.w) X.A (subscriptTail e (.Slice none none (some st) p3) v (.ref s4.heap.objs.size)) (EP X pins σ Q) X.xe { s4 with heap := s4.heap.push { cls := .type "slice", data := .fields #[vl, vu, vs] } }
  rcases q with ⟨a, xs, rfl, hx, q⟩ | ⟨a, xs, rfl, hx, q⟩
  · cases r1
    obtain ⟨its, r, ht, hz⟩ := I5.list hx
    have hlen := r.length
    refine tail_any (ops := [.ref a, .ref s4.heap.objs.size]) ht.isList.typeIs (PySem.slot_list_getitem.lookup) ?_ (by with_unfolding_all rfl)
    rcases q with ⟨rfl, q⟩ | ⟨rfl, q⟩
    · refine wpAny_getItem_list_slice ht.isList (Heap.IsSliceOf.new _ vl vu vs) pl pu ps (by decide) ?_ (by rw [List.size_toArray]; omega)
      rw [PySem.W.krv_pick]
      refine ⟨.ref _, _, I5.laid (t' := s4.toks) (o := .lst xs.reverse) (fun b ob q => Heap.get?_push_of_some _ q) (Nat.le_refl _) ?_, rfl, q _ (I5.hok.fresh (Nat.le_refl _))⟩
      exact ⟨by rw [List.length_reverse]; exact hz, _, 0, r.reverse, Heap.get?_push_size _ rfl⟩
    · refine wpAny_getItem_list_slice ht.isList (Heap.IsSliceOf.new _ vl vu vs) pl pu ps (by decide) ?_ (by rw [List.size_toArray]; omega)
      rw [pick_all1]
      refine ⟨.ref _, _, I5.laid (t' := s4.toks) (o := .lst xs) (fun b ob q => Heap.get?_push_of_some _ q) (Nat.le_refl _) ?_, rfl, q _ (I5.hok.fresh (Nat.le_refl _))⟩
      exact ⟨hz, _, 0, r, Heap.get?_push_size _ rfl⟩
  · cases r1
    obtain ⟨its, r, ht, hz⟩ := I5.tuple hx
    have hlen := r.length
    refine tail_any (ops := [.ref a, .ref s4.heap.objs.size]) ht.typeIs (PyProof.Rows.slot_tuple_getitem.lookup) ?_ (by with_unfolding_all rfl)
    rcases q with ⟨rfl, q⟩ | ⟨rfl, q⟩
    · refine getItem_tuple_rev ht (Heap.IsSliceOf.new _ vl vu vs) pl pu ps ?_ (by rw [List.size_toArray]; omega)
      refine ⟨.ref _, _, I5.laid (t' := s4.toks) (o := .tup xs.reverse) (fun b ob q => Heap.get?_push_of_some _ q) (Nat.le_refl _) ?_, rfl, q _ (I5.hok.fresh (Nat.le_refl _))⟩
      exact ⟨by rw [List.length_reverse]; exact hz, _, r.reverse, IsTup.new _ _⟩
    · exact getItem_tuple_all ht (Heap.IsSliceOf.new _ vl vu vs) pl pu ps ⟨.ref a, H4, I5, rfl, q⟩
end
end Ov

set_option maxHeartbeats 2000000
namespace Ov
open PySem PySem.Spec PyProof.Rows L2 Evl

/-! ### data at a value -/
mutual
inductive Rp (K : PySem.W.Frag) (F : Hp) : V → D → Prop
  | non : Rp K F .non .non
  | bl (b : Bool) : Rp K F (.bl b) (.bl b)
  | int (i : Int) : Rp K F (.int i) (.int i)
  | str (x : Str) : Rp K F (.str x) (.str x)
  | lst {a : Addr} {xs : List V} {ds : List D} : F a = some (.lst xs) → ds.length ≤ sizeLine → Rps K F xs ds → Rp K F (.ref a) (.lst ds)
  | tup {a : Addr} {xs : List V} {ds : List D} : SqT K F a xs → ds.length ≤ sizeLine → Rps K F xs ds → Rp K F (.ref a) (.tup ds)
inductive Rps (K : PySem.W.Frag) (F : Hp) : List V → List D → Prop
  | nil : Rps K F [] []
  | cons {v : V} {vs : List V} {d : D} {ds : List D} : Rp K F v d → Rps K F vs ds → Rps K F (v :: vs) (d :: ds)
end
section
variable {K : PySem.W.Frag} {F F' H H' : Hp}
mutual
theorem Rp.mono (e : Ex F F') : ∀ {d : D} {v : V}, Rp K F v d → Rp K F' v d
  | .non, _, h => by cases h; exact .non
  | .bl b, _, h => by cases h; exact .bl b
  | .int b, _, h => by cases h; exact .int b
  | .str b, _, h => by cases h; exact .str b
  | .lst ds, _, h => by
    cases h with
    | lst hs hz ha => exact .lst (e _ _ hs) hz (Rps.mono e ha)
  | .tup ds, _, h => by
    cases h with
    | tup hs hz ha => exact .tup (ex_t e hs) hz (Rps.mono e ha)
theorem Rps.mono (e : Ex F F') : ∀ {ds : List D} {vs : List V}, Rps K F vs ds → Rps K F' vs ds
  | [], _, h => by cases h; exact .nil
  | d :: ds, _, h => by
    cases h with
    | cons h1 h2 => exact .cons (Rp.mono e h1) (Rps.mono e h2)
end
theorem Rps.length : ∀ {ds : List D} {vs : List V}, Rps K F vs ds → vs.length = ds.length
  | [], _, h => by cases h; rfl
  | d :: ds, _, h => by
    cases h with
    | cons h1 h2 => simp [Rps.length h2]
theorem Rps.get : ∀ {ds : List D} {vs : List V} {i : Nat} {x : D}, Rps K F vs ds → ds[i]? = some x → ∃ v, vs[i]? = some v ∧ Rp K F v x
  | [], _, _, _, _, h => by simp at h
  | d :: ds, _, 0, _, h, e => by
    cases h with
    | cons h1 h2 => simp at e; subst e; exact ⟨_, rfl, h1⟩
  | d :: ds, _, i + 1, _, h, e => by
    cases h with
    | cons h1 h2 =>
      obtain ⟨v, q, r⟩ := Rps.get h2 (i := i) (by simpa using e)
      exact ⟨v, by simpa using q, r⟩
theorem Rps.getV : ∀ {ds : List D} {vs : List V} {i : Nat} {v : V}, Rps K F vs ds → vs[i]? = some v → ∃ x, ds[i]? = some x ∧ Rp K F v x
  | [], _, _, _, h, e => by cases h; simp at e
  | d :: ds, _, 0, _, h, e => by
    cases h with
    | cons h1 h2 => simp at e; subst e; exact ⟨_, rfl, h1⟩
  | d :: ds, _, i + 1, _, h, e => by
    cases h with
    | cons h1 h2 =>
      obtain ⟨v, q, r⟩ := Rps.getV h2 (i := i) (by simpa using e)
      exact ⟨v, by simpa using q, r⟩
theorem Rps.append : ∀ {ds es : List D} {vs ws : List V}, Rps K F vs ds → Rps K F ws es → Rps K F (vs ++ ws) (ds ++ es)
  | [], _, _, _, h, h' => by cases h; exact h'
  | d :: ds, _, _, _, h, h' => by
    cases h with
    | cons h1 h2 => exact .cons h1 (Rps.append h2 h')
theorem Rps.take : ∀ {ds : List D} {vs : List V} (n : Nat), Rps K F vs ds → Rps K F (vs.take n) (ds.take n)
  | _, _, 0, _ => by simp; exact .nil
  | [], _, n + 1, h => by cases h; exact .nil
  | d :: ds, _, n + 1, h => by
    cases h with
    | cons h1 h2 => exact .cons h1 (Rps.take n h2)
theorem Rps.drop : ∀ {ds : List D} {vs : List V} (n : Nat), Rps K F vs ds → Rps K F (vs.drop n) (ds.drop n)
  | _, _, 0, h => h
  | [], _, n + 1, h => by cases h; exact .nil
  | d :: ds, _, n + 1, h => by
    cases h with
    | cons h1 h2 => exact Rps.drop n h2
theorem Rps.set {x : D} {v : V} (r : Rp K F v x) : ∀ {ds : List D} {vs : List V} (n : Nat), Rps K F vs ds → Rps K F (vs.set n v) (ds.set n x)
  | [], _, _, h => by cases h; exact .nil
  | d :: ds, _, 0, h => by
    cases h with
    | cons h1 h2 => exact .cons r h2
  | d :: ds, _, n + 1, h => by
    cases h with
    | cons h1 h2 => exact .cons h1 (Rps.set r n h2)
theorem Rps.eraseIdx : ∀ {ds : List D} {vs : List V} (n : Nat), Rps K F vs ds → Rps K F (vs.eraseIdx n) (ds.eraseIdx n)
  | [], _, _, h => by cases h; exact .nil
  | d :: ds, _, 0, h => by
    cases h with
    | cons h1 h2 => exact h2
  | d :: ds, _, n + 1, h => by
    cases h with
    | cons h1 h2 => exact .cons h1 (Rps.eraseIdx n h2)
theorem Rps.dropLast : ∀ {ds : List D} {vs : List V}, Rps K F vs ds → Rps K F vs.dropLast ds.dropLast
  | [], _, h => by cases h; exact .nil
  | [d], _, h => by
    cases h with
    | cons h1 h2 => cases h2; exact .nil
  | d :: e :: ds, _, h => by
    cases h with
    | cons h1 h2 =>
      have q := Rps.dropLast h2
      cases h2 with
      | cons h3 h4 => exact .cons h1 q
theorem Rps.reverse : ∀ {ds : List D} {vs : List V}, Rps K F vs ds → Rps K F vs.reverse ds.reverse
  | [], _, h => by cases h; exact .nil
  | d :: ds, _, h => by
    cases h with
    | cons h1 h2 =>
      rw [List.reverse_cons, List.reverse_cons]
      exact (Rps.reverse h2).append (.cons h1 .nil)
theorem Rps.flat : ∀ (n : Nat) {ds : List D} {vs : List V}, Rps K F vs ds → Rps K F (List.replicate n vs).flatten (List.replicate n ds).flatten
  | 0, _, _, _ => .nil
  | n + 1, _, _, h => by
    rw [List.replicate_succ, List.replicate_succ, List.flatten_cons, List.flatten_cons]
    exact h.append (Rps.flat n h)

/-- what may be looked at: a list stands in H, its items in F -/
def Lk (K : PySem.W.Frag) (F H : Hp) (w : V) : D → Prop
  | .lst ds => ∃ p vs, w = .ref p ∧ H p = some (.lst vs) ∧ ds.length ≤ sizeLine ∧ Rps K F vs ds
  | x => Rp K F w x
/-- .. or read as the script is -/
def LkS (K : PySem.W.Frag) (F H : Hp) (w : V) : D → Prop
  | .lst ds => ∃ p vs, w = .ref p ∧ SqL K H p vs ∧ ds.length ≤ sizeLine ∧ Rps K F vs ds
  | x => Rp K F w x
theorem Lk.s {w : V} {x : D} (h : Lk K F H w x) : LkS K F H w x := by
  cases x with
  | lst ds =>
    obtain ⟨p, vs, e, hs, hz, ha⟩ := h
    exact ⟨p, vs, e, Or.inl (Or.inl hs), hz, ha⟩
  | _ => exact h
theorem Lk.of (e : Ex F H) {w : V} {x : D} (h : Rp K F w x) : Lk K F H w x := by
  cases x with
  | lst ds =>
    cases h with
    | lst hs hz ha => exact ⟨_, _, rfl, e _ _ hs, hz, ha⟩
  | _ => exact h
theorem Lk.rp (e : Ex F H) {w : V} {x : D} (h : Lk K F H w x) : Rp K H w x := by
  cases x with
  | lst ds =>
    obtain ⟨p, vs, rfl, hs, hz, ha⟩ := h
    exact .lst hs hz (ha.mono e)
  | non => exact Rp.mono e (show Rp K F w _ from h)
  | bl => exact Rp.mono e (show Rp K F w _ from h)
  | int => exact Rp.mono e (show Rp K F w _ from h)
  | str => exact Rp.mono e (show Rp K F w _ from h)
  | tup => exact Rp.mono e (show Rp K F w _ from h)
theorem Lk.int {w : V} {i : Int} (h : Lk K F H w (.int i)) : w = .int i := by
  have h : Rp K F w (.int i) := h
  cases h; rfl
theorem Lk.bl {w : V} {i : Bool} (h : Lk K F H w (.bl i)) : w = .bl i := by
  have h : Rp K F w (.bl i) := h
  cases h; rfl
theorem Lk.str {w : V} {i : Str} (h : Lk K F H w (.str i)) : w = .str i := by
  have h : Rp K F w (.str i) := h
  cases h; rfl
theorem Lk.non {w : V} (h : Lk K F H w .non) : w = .non := by
  have h : Rp K F w .non := h
  cases h; rfl
theorem Lk.tup (e : Ex F H) {w : V} {ds : List D} (h : Lk K F H w (.tup ds)) : ∃ p vs, w = .ref p ∧ SqT K H p vs ∧ SqT K F p vs ∧ ds.length ≤ sizeLine ∧ Rps K F vs ds := by
  have h : Rp K F w (.tup ds) := h
  cases h with
  | tup hs hz ha => exact ⟨_, _, rfl, ex_t e hs, hs, hz, ha⟩
theorem Rp.intv {w : V} {i : Int} (h : Rp K F w (.int i)) : w = .int i := by cases h; rfl
theorem Rp.blv {w : V} {i : Bool} (h : Rp K F w (.bl i)) : w = .bl i := by cases h; rfl
theorem Rp.strv {w : V} {i : Str} (h : Rp K F w (.str i)) : w = .str i := by cases h; rfl
theorem Rp.nonv {w : V} (h : Rp K F w .non) : w = .non := by cases h; rfl

/-- new things alone: F and H grow, nothing that stood outside F comes into it -/
structure Al (F H F' H' : Hp) : Prop where
  ex : Ex F F'
  hx : Ex H H'
  sub : Ex F' H'
  new : ∀ b, H b ≠ none → F b = none → F' b = none
theorem Al.refl (e : Ex F H) : Al F H F H := ⟨Ex.refl _, Ex.refl _, e, fun _ _ h => h⟩
theorem Ex.none {p : Addr} (e : Ex F H) (h : H p = none) : F p = none := by
  cases q : F p with
  | none => rfl
  | some o => rw [e p o q] at h; cases h
theorem Al.one (e : Ex F H) {p : Addr} {o : HO} (h : H p = none) : Al F H (upd F p o) (upd H p o) := by
  refine ⟨Ex.new (Ov.Ex.none e h), Ex.new h, fun a u q => ?_, fun b hb hf => ?_⟩
  · by_cases hp : a = p
    · subst hp; rw [upd_same] at q ⊢; exact q
    · rw [upd_ne hp] at q ⊢; exact e a u q
  · rw [upd_ne (fun z => hb (by rw [z]; exact h))]; exact hf
theorem Al.trans {F1 F2 H1 H2 : Hp} (a : Al F H F1 H1) (b : Al F1 H1 F2 H2) : Al F H F2 H2 :=
  ⟨a.ex.trans b.ex, a.hx.trans b.hx, b.sub, fun c hc hf => b.new c (fun z => hc (by
    cases q : H c with
    | none => rfl
    | some o => rw [a.hx c o q] at z; cases z)) (a.new c hc hf)⟩
theorem rp_new_lst {p : Addr} {vs : List V} {ds : List D} (hp : F p = none) (hz : ds.length ≤ sizeLine) (h : Rps K F vs ds) : Rp K (upd F p (.lst vs)) (.ref p) (.lst ds) :=
  .lst upd_same hz (h.mono (Ex.new hp))
theorem rp_new_tup {p : Addr} {vs : List V} {ds : List D} (hp : F p = none) (hz : ds.length ≤ sizeLine) (h : Rps K F vs ds) : Rp K (upd F p (.tup vs)) (.ref p) (.tup ds) :=
  .tup (Or.inl (Or.inl upd_same)) hz (h.mono (Ex.new hp))
end

/-- a value just made: a list of its own, outside F -/
def Nw (K : PySem.W.Frag) (H F' H' : Hp) (z : V) : D → Prop
  | .lst ds => ∃ p vs, z = .ref p ∧ H p = none ∧ F' p = none ∧ H' p = some (.lst vs) ∧ ds.length ≤ sizeLine ∧ Rps K F' vs ds
  | x => Rp K F' z x
section
variable {K : PySem.W.Frag} {F F' H H' : Hp}
theorem Al.own (e : Ex F H) {p : Addr} {o : HO} (h : H p = none) : Al F H F (upd H p o) :=
  ⟨Ex.refl _, Ex.new h, e.trans (Ex.new h), fun _ _ hf => hf⟩
/-- the new list is shut -/
theorem Nw.shut {z : V} {c : D} (a : Al F H F' H') (h : Nw K H F' H' z c) : ∃ F2, Al F H F2 H' ∧ Rp K F2 z c := by
  cases c with
  | lst ds =>
    obtain ⟨p, vs, rfl, hp, hf, hh, hz, hr⟩ := h
    refine ⟨upd F' p (.lst vs), ⟨a.ex.trans (Ex.new hf), a.hx, fun b o q => ?_, fun b hb hn => ?_⟩, rp_new_lst hf hz hr⟩
    · by_cases e : b = p
      · subst e; rw [upd_same] at q; cases q; exact hh
      · rw [upd_ne e] at q; exact a.sub b o q
    · rw [upd_ne (fun e => hb (by rw [e]; exact hp))]; exact a.new b hb hn
  | _ => exact ⟨F', a, h⟩
theorem nw_lst (e : Ex F H) {p : Addr} {vs : List V} {ds : List D} (hp : H p = none) (hz : ds.length ≤ sizeLine) (h : Rps K F vs ds) : Nw K H F (upd H p (.lst vs)) (.ref p) (.lst ds) :=
  ⟨p, vs, rfl, hp, Ov.Ex.none e hp, upd_same, hz, h⟩
end

/-! ### operations by data -/
theorem OpR.or {X : Cx} {f : Value → Value → Sem Value} {r r' : R2} (h : OpR X f r) (h' : OpR X f r') : OpR X f (fun x y H Q => r x y H Q ∨ r' x y H Q) :=
  fun pins s σ H x y v u Q I rx ry q => q.elim (fun q => h pins s σ H x y v u Q I rx ry q) (fun q => h' pins s σ H x y v u Q I rx ry q)
/-- a two-place operation -/
def OpD (X : Cx) (f : Value → Value → Sem Value) (g : D → D → Option D) : Prop := ∃ r, OpR X f r ∧
  ∀ (F H : Hp) (x y : V) (a b c : D) (Q : VK), Ex F H → Lk X.K F H x a → Lk X.K F H y b → g a b = some c → (∀ F' H' z, Al F H F' H' → Nw X.K H F' H' z c → Q z H') → r x y H Q
def CallD (X : Cx) (f : Value) (g : List D → Option D) : Prop := ∃ r, CallR X f r ∧
  ∀ (F H : Hp) (xs : List V) (as : List D) (c : D) (Q : VK), Ex F H → Paired (Lk X.K F H) xs as → g as = some c → (∀ F' H' z, Al F H F' H' → Nw X.K H F' H' z c → Q z H') → r xs H Q
theorem CallR.or {X : Cx} {f : Value} {r r' : List V → Hp → VK → Prop} (h : CallR X f r) (h' : CallR X f r') : CallR X f (fun x H Q => r x H Q ∨ r' x H Q) :=
  fun pins s σ H xs us Q I rx q => q.elim (fun q => h pins s σ H xs us Q I rx q) (fun q => h' pins s σ H xs us Q I rx q)
section
variable {X : Cx}
theorem Ex.refl' {F H : Hp} (e : Ex F H) : Al F H F H := Al.refl e
theorem opd_add : OpD X (binaryOp .Add) (opD .add) := by
  refine ⟨_, Ov.OpR.or op_add (Ov.OpR.or op_add_str (Ov.OpR.or op_cat op_catA)), fun F H x y a b c Q e hx hy g q => ?_⟩
  cases a <;> cases b <;> try (cases g; done)
  · rename_i i j
    cases hx.int; cases hy.int
    simp only [opD, Option.some.injEq] at g; subst g
    exact Or.inl ⟨i, j, rfl, rfl, q F H _ (Al.refl e) (.int _)⟩
  · rename_i i j
    cases hx.str; cases hy.str
    simp only [opD] at g
    split at g
    · cases g
      exact Or.inr (Or.inl ⟨i, j, rfl, rfl, by assumption, q F H _ (Al.refl e) (.str _)⟩)
    · cases g
  · rename_i as bs
    obtain ⟨p, vs, rfl, h1, h2, hz, hr⟩ := hx.tup e
    obtain ⟨p', vs', rfl, h1', h2', hz', hr'⟩ := hy.tup e
    simp only [opD] at g
    split at g
    · rename_i hl
      cases g
      refine Or.inr (Or.inr (Or.inr ⟨p, p', vs, vs', rfl, rfl, h1, h1', by rw [hr.length, hr'.length]; exact hl, fun h => ?_, fun h h' => ?_, fun h h' p2 hp2 => ?_⟩))
      · subst h
        cases hr
        exact q F H _ (Al.refl e) (.tup h2' hz' hr')
      · subst h'
        cases hr'
        rw [List.append_nil] at q
        exact q F H _ (Al.refl e) (.tup h2 hz hr)
      · exact q _ _ _ (Al.one e hp2) (rp_new_tup (Ov.Ex.none e hp2) (by rw [List.length_append]; exact hl) (hr.append hr'))
    · cases g
  · rename_i as bs
    obtain ⟨p, vs, rfl, h1, hz, hr⟩ := hx
    obtain ⟨p', vs', rfl, h1', hz', hr'⟩ := hy
    simp only [opD] at g
    split at g
    · rename_i hl
      cases g
      refine Or.inr (Or.inr (Or.inl ⟨p, p', vs, vs', rfl, rfl, h1, h1', by rw [hr.length, hr'.length]; exact hl, fun p2 hp2 => ?_⟩))
      exact q _ _ _ (Al.own e hp2) (nw_lst e hp2 (by rw [List.length_append]; exact hl) (hr.append hr'))
    · cases g
theorem opd_sub : OpD X (binaryOp .Sub) (opD .sub) := by
  refine ⟨_, op_sub, fun F H x y a b c Q e hx hy g q => ?_⟩
  cases a <;> cases b <;> try (cases g; done)
  rename_i i j
  cases hx.int; cases hy.int
  simp only [opD, Option.some.injEq] at g; subst g
  exact ⟨i, j, rfl, rfl, q F H _ (Al.refl e) (.int _)⟩
theorem opd_mul : OpD X (binaryOp .Mult) (opD .mul) := by
  refine ⟨_, Ov.OpR.or (Ov.OpR.or op_mul op_rep) (Ov.OpR.or op_repT op_rep01), fun F H x y a b c Q e hx hy g q => ?_⟩
  cases a <;> cases b <;> try (cases g; done)
  · rename_i i j
    cases hx.int; cases hy.int
    simp only [opD] at g
    split at g
    · rename_i hs
      cases g
      refine Or.inl (Or.inl ⟨i, j, rfl, rfl, ?_, q F H _ (Al.refl e) (.int _)⟩)
      simp only [small, Bool.or_eq_true, decide_eq_true_eq] at hs
      exact hs
    · cases g
  · rename_i as j
    have hx : Rp X.K F x (.tup as) := hx
    cases hy.int
    cases hx with
    | tup h1 hz hr =>
      rename_i p vs
      simp only [opD] at g
      split at g
      · rename_i hl
        obtain ⟨hl0, hl1, hl2, hl3⟩ := hl
        cases g
        have hne : vs ≠ [] := fun z => by
          have := hr.length
          rw [z] at this
          rw [List.eq_nil_of_length_eq_zero this.symm] at hl0
          cases hl0
        by_cases h0 : j = 0
        · subst h0
          exact Or.inr (Or.inr ⟨p, vs, rfl, ex_t e h1, hne, Or.inr ⟨rfl, fun p2 hp2 => q _ _ _ (Al.one e hp2) (rp_new_tup (Ov.Ex.none e hp2) (Nat.zero_le _) .nil)⟩⟩)
        by_cases h01 : j = 1
        · subst h01
          refine Or.inr (Or.inr ⟨p, vs, rfl, ex_t e h1, hne, Or.inl ⟨rfl, q _ _ _ (Al.refl e) ?_⟩⟩)
          have : (List.replicate (1 : Int).toNat as).flatten = as := by simp
          show Rp X.K F _ (.tup (List.replicate (1 : Int).toNat as).flatten)
          rw [this]; exact .tup h1 hz hr
        · refine Or.inr (Or.inl ⟨p, j, vs, rfl, rfl, ex_t e h1, hne, by omega, hl2, by rw [hr.length]; exact hl3, fun p2 hp2 => ?_⟩)
          refine q _ _ _ (Al.one e hp2) (rp_new_tup (Ov.Ex.none e hp2) ?_ (hr.flat _))
          have a1 : j.toNat * as.length ≤ 1000 * 1000 := Nat.mul_le_mul (by omega) hl3
          rw [sizeLine_eq]
          simp [List.length_flatten]
          omega
      · cases g
  · rename_i as j
    obtain ⟨p, vs, rfl, h1, hz, hr⟩ := hx
    cases hy.int
    simp only [opD] at g
    split at g
    · rename_i hl
      cases g
      refine Or.inl (Or.inr ⟨p, j, vs, rfl, rfl, h1, hl.2.1, hl.2.2, by rw [hr.length]; exact hl.1, fun p2 hp2 => ?_⟩)
      exact q _ _ _ (Al.own e hp2) (nw_lst e hp2 (by simp [List.length_flatten]; rw [Nat.mul_comm]; exact hl.1) (hr.flat _))
    · cases g
theorem opd_fdiv : OpD X (binaryOp .FloorDiv) (opD .fdiv) := by
  refine ⟨_, op_fdivW, fun F H x y a b c Q e hx hy g q => ?_⟩
  cases a <;> cases b <;> try (cases g; done)
  rename_i i j
  cases hx.int; cases hy.int
  simp only [opD] at g
  split at g
  · cases g
    exact ⟨i, j, rfl, rfl, by assumption, q F H _ (Al.refl e) (.int _)⟩
  · cases g
theorem opd_mod : OpD X (binaryOp .Mod) (opD .mod) := by
  refine ⟨_, op_mod, fun F H x y a b c Q e hx hy g q => ?_⟩
  cases a <;> cases b <;> try (cases g; done)
  rename_i i j
  cases hx.int; cases hy.int
  simp only [opD] at g
  split at g
  · cases g
    exact ⟨i, j, rfl, rfl, by assumption, q F H _ (Al.refl e) (.int _)⟩
  · cases g
theorem opd_pow : OpD X (binaryOp .Pow) (opD .pow) := by
  refine ⟨_, op_pow, fun F H x y a b c Q e hx hy g q => ?_⟩
  cases a <;> cases b <;> try (cases g; done)
  rename_i i j
  cases hx.int; cases hy.int
  simp only [opD] at g
  split at g
  · cases g
    exact ⟨i, j, rfl, rfl, by assumption, q F H _ (Al.refl e) (.int _)⟩
  · cases g
end
end Ov

set_option maxHeartbeats 2000000
namespace Ov
open PySem PySem.Spec PyProof.Rows L2 Evl
mutual
theorem D.plain : ∀ d : D, d.py.plain = true
  | .non => rfl
  | .bl _ => rfl
  | .int _ => rfl
  | .str _ => rfl
  | .tup xs => D.plains xs
  | .lst xs => D.plains xs
theorem D.plains : ∀ ds : List D, PyData.plainAll (D.pys ds) = true
  | [] => rfl
  | x :: xs => by
    show (x.py.plain && PyData.plainAll (D.pys xs)) = true
    rw [D.plain x, D.plains xs]; rfl
end
mutual
theorem D.depth_py : ∀ d : D, d.py.depth = d.depth
  | .non => rfl
  | .bl _ => rfl
  | .int _ => rfl
  | .str _ => rfl
  | .tup xs => by
    show PyData.depthAll (D.pys xs) + 1 = D.depths xs + 1
    rw [D.depths_py xs]
  | .lst xs => by
    show PyData.depthAll (D.pys xs) + 1 = D.depths xs + 1
    rw [D.depths_py xs]
theorem D.depths_py : ∀ ds : List D, PyData.depthAll (D.pys ds) = D.depths ds
  | [] => rfl
  | x :: xs => by
    show max x.py.depth (PyData.depthAll (D.pys xs)) = max x.depth (D.depths xs)
    rw [D.depth_py x, D.depths_py xs]
end
mutual
theorem D.eqv_py : ∀ a b : D, PyData.eqv a.py b.py = D.eqv a b
  | .tup xs, .tup ys => by
    show PyData.eqvAll (D.pys xs) (D.pys ys) = D.eqvs xs ys
    exact D.eqvs_py xs ys
  | .lst xs, .lst ys => by
    show PyData.eqvAll (D.pys xs) (D.pys ys) = D.eqvs xs ys
    exact D.eqvs_py xs ys
  | .non, b => by cases b <;> simp [D.py, PyData.eqv, D.eqv]
  | .bl _, b => by cases b <;> simp [D.py, PyData.eqv, D.eqv]
  | .int _, b => by cases b <;> simp [D.py, PyData.eqv, D.eqv]
  | .str _, b => by cases b <;> simp [D.py, PyData.eqv, D.eqv]
  | .tup _, .non => by simp [D.py, PyData.eqv, D.eqv]
  | .tup _, .bl _ => by simp [D.py, PyData.eqv, D.eqv]
  | .tup _, .int _ => by simp [D.py, PyData.eqv, D.eqv]
  | .tup _, .str _ => by simp [D.py, PyData.eqv, D.eqv]
  | .tup _, .lst _ => by simp [D.py, PyData.eqv, D.eqv]
  | .lst _, .non => by simp [D.py, PyData.eqv, D.eqv]
  | .lst _, .bl _ => by simp [D.py, PyData.eqv, D.eqv]
  | .lst _, .int _ => by simp [D.py, PyData.eqv, D.eqv]
  | .lst _, .str _ => by simp [D.py, PyData.eqv, D.eqv]
  | .lst _, .tup _ => by simp [D.py, PyData.eqv, D.eqv]
theorem D.eqvs_py : ∀ xs ys : List D, PyData.eqvAll (D.pys xs) (D.pys ys) = D.eqvs xs ys
  | [], [] => by simp [D.pys, PyData.eqvAll, D.eqvs]
  | [], _ :: _ => by simp [D.pys, PyData.eqvAll, D.eqvs]
  | _ :: _, [] => by simp [D.pys, PyData.eqvAll, D.eqvs]
  | x :: xs, y :: ys => by
    simp only [D.pys, PyData.eqvAll, D.eqvs]
    rw [D.eqv_py x y, D.eqvs_py xs ys]
end
theorem pys_any (x : D) : ∀ xs : List D, ((D.pys xs).any fun y => PyData.eqv y x.py) = xs.any fun y => D.eqv y x
  | [] => rfl
  | y :: ys => by
    simp only [D.pys, List.any_cons]
    rw [D.eqv_py y x, pys_any x ys]
mutual
theorem Rp.dp {K : PySem.W.Frag} {H : Hp} : ∀ {d : D} {v : V}, Rp K H v d → Dp K H v d.py
  | .non, _, h => by cases h; exact .non
  | .bl b, _, h => by cases h; exact .bl b
  | .int b, _, h => by cases h; exact .int b
  | .str b, _, h => by cases h; exact .str b
  | .lst ds, _, h => by
    cases h with
    | lst hs hz ha => exact .lst (Or.inl (Or.inl hs)) (Rps.dp ha)
  | .tup ds, _, h => by
    cases h with
    | tup hs hz ha => exact .tup hs (Rps.dp ha)
theorem Rps.dp {K : PySem.W.Frag} {H : Hp} : ∀ {ds : List D} {vs : List V}, Rps K H vs ds → DpAll K H vs (D.pys ds)
  | [], _, h => by cases h; exact .nil
  | d :: ds, _, h => by
    cases h with
    | cons h1 h2 => exact .cons (Rp.dp h1) (Rps.dp h2)
end
section
variable {X : Cx}
def rEqP (K : PySem.W.Frag) (ng : Bool) : R2 := fun x y H Q => ∃ a b : D, Rp K H x a ∧ Rp K H y b ∧ min a.depth b.depth ≤ 64 ∧ Q (.bl (if ng then !D.eqv a b else D.eqv a b)) H
theorem op_eqP (hu : X.A.units + 65 < cLine) : OpR X (compareOp .Eq) (rEqP X.K false) := by
  intro pins s σ H x y v u Q I rx ry h
  obtain ⟨a, b, ha, hb, hd, q⟩ := h
  obtain ⟨as, h1⟩ := Dp.reads I _ _ _ ha.dp rx
  obtain ⟨bs, h2⟩ := Dp.reads I _ _ _ hb.dp ry
  refine PySem.SeqAt.eq_plain h1 h2 (D.plain a) (D.plain b) (by rw [D.depth_py, D.depth_py]; omega) ⟨.bl _, H, I, rfl, ?_⟩
  rw [D.eqv_py]; exact q
theorem op_neP (hu : X.A.units + 65 < cLine) : OpR X (compareOp .NotEq) (rEqP X.K true) := by
  intro pins s σ H x y v u Q I rx ry h
  obtain ⟨a, b, ha, hb, hd, q⟩ := h
  obtain ⟨as, h1⟩ := Dp.reads I _ _ _ ha.dp rx
  obtain ⟨bs, h2⟩ := Dp.reads I _ _ _ hb.dp ry
  refine PySem.SeqAt.ne_plain h1 h2 (D.plain a) (D.plain b) (by rw [D.depth_py, D.depth_py]; omega) ⟨.bl _, H, I, rfl, ?_⟩
  rw [D.eqv_py]; exact q
def rInP (K : PySem.W.Frag) (ng : Bool) : R2 := fun x y H Q => ∃ (a : D) (bs : List D), Rp K H x a ∧ (Rp K H y (.lst bs) ∨ Rp K H y (.tup bs)) ∧ min (D.depths bs) a.depth ≤ 64 ∧ Q (.bl (if ng then !(bs.any fun z => D.eqv z a) else (bs.any fun z => D.eqv z a))) H
theorem op_inP (hu : X.A.units + 65 < cLine) : OpR X (compareOp .In) (rInP X.K false) := by
  intro pins s σ H x y v u Q I rx ry h
  obtain ⟨a, bs, ha, hb, hd, q⟩ := h
  obtain ⟨as, h1⟩ := Dp.reads I _ _ _ ha.dp rx
  rcases hb with hb | hb
  · obtain ⟨cs, h2⟩ := Dp.reads I _ _ _ hb.dp ry
    refine PySem.SeqAt.in_list_data h2 h1 (D.plains bs) (D.plain a) (by rw [D.depth_py, D.depths_py]; omega) ⟨.bl _, H, I, rfl, ?_⟩
    rw [pys_any]; exact q
  · obtain ⟨cs, h2⟩ := Dp.reads I _ _ _ hb.dp ry
    refine PySem.SeqAt.in_tuple_data h2 h1 (D.plains bs) (D.plain a) (by rw [D.depth_py, D.depths_py]; omega) ⟨.bl _, H, I, rfl, ?_⟩
    rw [pys_any]; exact q
theorem op_ninP (hu : X.A.units + 65 < cLine) : OpR X (compareOp .NotIn) (rInP X.K true) := by
  intro pins s σ H x y v u Q I rx ry h
  obtain ⟨a, bs, ha, hb, hd, q⟩ := h
  obtain ⟨as, h1⟩ := Dp.reads I _ _ _ ha.dp rx
  rcases hb with hb | hb
  · obtain ⟨cs, h2⟩ := Dp.reads I _ _ _ hb.dp ry
    refine PySem.SeqAt.notIn_list_data h2 h1 (D.plains bs) (D.plain a) (by rw [D.depth_py, D.depths_py]; omega) ⟨.bl _, H, I, rfl, ?_⟩
    rw [pys_any]; exact q
  · obtain ⟨cs, h2⟩ := Dp.reads I _ _ _ hb.dp ry
    refine PySem.SeqAt.notIn_tuple_data h2 h1 (D.plains bs) (D.plain a) (by rw [D.depth_py, D.depths_py]; omega) ⟨.bl _, H, I, rfl, ?_⟩
    rw [pys_any]; exact q
def COp.py : COp → CmpOp
  | .eq => .Eq | .ne => .NotEq | .lt => .Lt | .le => .LtE | .gt => .Gt | .ge => .GtE | .isin => .In | .notin => .NotIn
theorem opd_cmp (hu : X.A.units + 65 < cLine) : ∀ o : COp, OpD X (compareOp o.py) (fun a b => (cmpD o a b).map D.bl)
  | .eq => by
    refine ⟨_, op_eqP hu, fun F H x y a b c Q e hx hy g q => ?_⟩
    simp only [cmpD, eqD] at g
    split at g
    · simp only [Option.map_some, Option.some.injEq] at g; subst g
      exact ⟨a, b, hx.rp e, hy.rp e, by assumption, q F H _ (Al.refl e) (.bl _)⟩
    · simp at g
  | .ne => by
    refine ⟨_, op_neP hu, fun F H x y a b c Q e hx hy g q => ?_⟩
    simp only [cmpD, eqD] at g
    split at g
    · simp only [Option.map_some, Option.some.injEq] at g; subst g
      exact ⟨a, b, hx.rp e, hy.rp e, by assumption, q F H _ (Al.refl e) (.bl _)⟩
    · simp at g
  | .lt => by
    refine ⟨_, Ov.OpR.or op_lt op_lt_str, fun F H x y a b c Q e hx hy g q => ?_⟩
    cases a <;> cases b <;> try (cases g; done)
    · cases hx.int; cases hy.int; cases g
      exact Or.inl ⟨_, _, rfl, rfl, q F H _ (Al.refl e) (.bl _)⟩
    · cases hx.str; cases hy.str; cases g
      exact Or.inr ⟨_, _, rfl, rfl, q F H _ (Al.refl e) (.bl _)⟩
  | .le => by
    refine ⟨_, op_le, fun F H x y a b c Q e hx hy g q => ?_⟩
    cases a <;> cases b <;> try (cases g; done)
    cases hx.int; cases hy.int; cases g
    exact ⟨_, _, rfl, rfl, q F H _ (Al.refl e) (.bl _)⟩
  | .gt => by
    refine ⟨_, op_gt, fun F H x y a b c Q e hx hy g q => ?_⟩
    cases a <;> cases b <;> try (cases g; done)
    cases hx.int; cases hy.int; cases g
    exact ⟨_, _, rfl, rfl, q F H _ (Al.refl e) (.bl _)⟩
  | .ge => by
    refine ⟨_, op_ge, fun F H x y a b c Q e hx hy g q => ?_⟩
    cases a <;> cases b <;> try (cases g; done)
    cases hx.int; cases hy.int; cases g
    exact ⟨_, _, rfl, rfl, q F H _ (Al.refl e) (.bl _)⟩
  | .isin => by
    refine ⟨_, Ov.OpR.or (op_inP hu) op_in_sign, fun F H x y a b c Q e hx hy g q => ?_⟩
    have fin : ∀ bs : List D, (Rp X.K H y (.lst bs) ∨ Rp X.K H y (.tup bs)) → ((inD a bs).map D.bl) = some c → rInP X.K false x y H Q := fun bs hb g => by
      unfold inD at g
      split at g
      · simp only [Option.map_some, Option.some.injEq] at g; subst g
        exact ⟨a, bs, hx.rp e, hb, by assumption, q F H _ (Al.refl e) (.bl _)⟩
      · simp at g
    cases b with
    | lst bs =>
      refine Or.inl (fin bs (Or.inl (hy.rp e)) ?_)
      cases a <;> exact g
    | tup bs =>
      refine Or.inl (fin bs (Or.inr (hy.rp e)) ?_)
      cases a <;> exact g
    | str z =>
      cases a <;> try (cases g; done)
      rename_i a
      cases hx.str; cases hy.str
      have g : (match a.cps.toList with | [c] => some (decide (c ∈ z.cps.toList)) | _ => none).map D.bl = some c := g
      split at g
      · rename_i ch he
        cases g
        refine Or.inr ⟨ch, z, ?_, rfl, q F H _ (Al.refl e) (.bl _)⟩
        have : a = ⟨#[ch]⟩ := by
          cases a with
          | mk cps =>
            congr 1
            exact Array.ext' (by simpa using he)
        rw [this]
      · cases g
    | _ => cases a <;> cases g
  | .notin => by
    refine ⟨_, op_ninP hu, fun F H x y a b c Q e hx hy g q => ?_⟩
    have fin : ∀ bs : List D, (Rp X.K H y (.lst bs) ∨ Rp X.K H y (.tup bs)) → (((inD a bs).map (!·)).map D.bl) = some c → rInP X.K true x y H Q := fun bs hb g => by
      unfold inD at g
      split at g
      · simp only [Option.map_some, Option.some.injEq] at g; subst g
        exact ⟨a, bs, hx.rp e, hb, by assumption, q F H _ (Al.refl e) (.bl _)⟩
      · simp at g
    cases b with
    | lst bs =>
      refine (fin bs (Or.inl (hy.rp e)) ?_)
      cases a <;> exact g
    | tup bs =>
      refine (fin bs (Or.inr (hy.rp e)) ?_)
      cases a <;> exact g
    | _ => cases a <;> cases g
end
end Ov

set_option maxHeartbeats 2000000
namespace Ov
open PySem PySem.Spec PyProof.Rows L2 Evl
section
variable {X : Cx} {K : PySem.W.Frag} {F H : Hp}
theorem boolsD_vs : ∀ {ds : List D} {vs : List V} {bs : List Bool}, Rps K F vs ds → boolsD ds = some bs → vs = bs.map V.bl
  | [], _, _, h, e => by cases h; cases e; rfl
  | d :: ds, _, _, h, e => by
    cases h with
    | cons h1 h2 =>
      cases d <;> try (cases e; done)
      simp only [boolsD] at e
      cases q : boolsD ds with
      | none => rw [q] at e; cases e
      | some r =>
        rw [q] at e; cases e
        cases h1
        rw [boolsD_vs h2 q]; rfl
theorem intsD_vs : ∀ {ds : List D} {vs : List V} {bs : List Int}, Rps K F vs ds → intsD ds = some bs → vs = bs.map V.int
  | [], _, _, h, e => by cases h; cases e; rfl
  | d :: ds, _, _, h, e => by
    cases h with
    | cons h1 h2 =>
      cases d <;> try (cases e; done)
      simp only [intsD] at e
      cases q : intsD ds with
      | none => rw [q] at e; cases e
      | some r =>
        rw [q] at e; cases e
        cases h1
        rw [intsD_vs h2 q]; rfl
theorem strsD_vs {K : PySem.W.Frag} {F : Hp} : ∀ {ds : List D} {vs : List V} {ss : List Str}, Rps K F vs ds → strsD ds = some ss → vs = ss.map V.str
  | [], _, _, h, e => by cases h; cases e; rfl
  | d :: ds, _, _, h, e => by
    cases h with
    | cons h1 h2 =>
      cases d <;> try (cases e; done)
      simp only [strsD] at e
      cases q : strsD ds with
      | none => rw [q] at e; cases e
      | some r =>
        rw [q] at e; cases e
        cases h1
        rw [strsD_vs h2 q]; rfl
def Bi.name : Bi → String
  | .len => "len" | .abs => "abs" | .int => "int" | .min2 => "min" | .max2 => "max" | .minL => "min" | .maxL => "max" | .sum => "sum" | .all => "all" | .any => "any" | .tuple => "tuple" | .list => "list" | .repr => "repr"
def Bi.isTy : Bi → Bool
  | .int => true | .tuple => true | .list => true | _ => false
def Bi.val (b : Bi) : Value := if b.isTy then .type b.name else .builtin b.name
theorem pr1 {R : V → D → Prop} {xs : List V} {as : List D} {f : D → Option D} {c : D} (h : Paired R xs as) (g : un1 f as = some c) : ∃ x a, xs = [x] ∧ R x a ∧ f a = some c := by
  cases h with
  | nil => cases g
  | cons h r =>
    cases r with
    | nil => exact ⟨_, _, rfl, h, g⟩
    | cons _ _ => cases g
theorem pr2 {R : V → D → Prop} {xs : List V} {as : List D} {f : D → D → Option D} {c : D} (h : Paired R xs as) (g : un2 f as = some c) : ∃ x y a b, xs = [x, y] ∧ R x a ∧ R y b ∧ f a b = some c := by
  cases h with
  | nil => cases g
  | cons h r =>
    cases r with
    | nil => cases g
    | cons h2 r2 =>
      cases r2 with
      | nil => exact ⟨_, _, _, _, rfl, h, h2, g⟩
      | cons _ _ => cases g
/-- len, of the script too -/
theorem cd_lenS : ∃ r, CallR X (.builtin "len") r ∧ ∀ (F H : Hp) (x : V) (a c : D) (Q : VK), Ex F H → LkS X.K F H x a → lenD a = some c → (∀ z, Rp X.K F z c → Q z H) → r [x] H Q := by
  refine ⟨_, Ov.CallR.or call_len_seq call_len_str, fun F H x a c Q e h g q => ?_⟩
  cases a <;> try (cases g; done)
  · have h : Rp X.K F x (.str _) := h
    cases h
    simp only [lenD] at g
    split at g
    · cases g; exact Or.inr ⟨_, rfl, by assumption, q _ (.int _)⟩
    · cases g
  · have h : Rp X.K F x (.tup _) := h
    cases h with
    | tup hs hz hr =>
      cases g
      refine Or.inl ⟨_, _, rfl, Or.inr (ex_t e hs), ?_⟩
      rw [hr.length]; exact q _ (.int _)
  · obtain ⟨p, vs, rfl, h1, hz, hr⟩ := h
    cases g
    refine Or.inl ⟨p, vs, rfl, Or.inl h1, ?_⟩
    rw [hr.length]; exact q _ (.int _)
/-! repr of data -/
mutual
theorem noDict : ∀ d : D, d.py.hasDict = false
  | .non => rfl
  | .bl _ => rfl
  | .int _ => rfl
  | .str _ => rfl
  | .tup xs => by simp only [D.py, PyData.hasDict]; exact noDicts xs
  | .lst xs => by simp only [D.py, PyData.hasDict]; exact noDicts xs
theorem noDicts : ∀ ds : List D, PyData.hasDictAll (D.pys ds) = false
  | [] => rfl
  | x :: xs => by simp only [D.pys, PyData.hasDictAll, noDict x, noDicts xs, Bool.or_self]
end
theorem call_repr (hgd : X.A.guards = some []) (hu : X.A.units + 65 < cLine) : CallR X (.builtin "repr") (fun xs H Q => ∃ x d, xs = [x] ∧ Dp X.K H x (D.py d) ∧ d.depth ≤ 60 ∧ d.py.showable = true ∧ d.py.shown.length ≤ sizeLine ∧ Q (.str d.py.shown) H) := by
  intro pins s σ H xs us Q I r h
  obtain ⟨x, d, rfl, hd, h1, h2, h3, q⟩ := h
  obtain ⟨u, rfl, rx⟩ := vals1 r
  have fin : ∀ (h' : Heap) (t : Tok) (tk : Nat), (∀ b o, s.heap.get? b = some o → h'.get? b = some o) → EP X pins σ Q (.str d.py.shown t) { s with heap := h', toks := tk } := fun h' t tk k => ⟨.str _, H, I.kept k, ⟨t, rfl⟩, q⟩
  have seq : ∀ a, u = .ref a → wpAny (model X.prog X.w) X.A (call (.builtin "repr") [.ref a]) (EP X pins σ Q) X.xe s := fun a e => by
    obtain ⟨as, rd⟩ := Dp.reads I _ _ _ hd rx
    subst e
    exact repr_of_reads' rd h2 (fun z => by rw [noDict] at z; cases z) hgd (by rw [D.depth_py]; omega) (fun _ _ z => z) (fun h' t tk k => fin h' t tk k) h3
  cases d with
  | non => cases hd; cases rx; exact PySem.P.repr_of_none (fin s.heap _ _ fun _ _ z => z)
  | bl b => cases hd; cases rx; exact PySem.P.repr_of_bool (fin s.heap _ _ fun _ _ z => z)
  | int i => cases hd; obtain ⟨t, rfl⟩ := rx; exact PySem.P.repr_of_int (of_decide_eq_true h2) (fin s.heap _ _ fun _ _ z => z)
  | str i => cases hd; obtain ⟨t, rfl⟩ := rx; exact PySem.P.repr_of_str (fin s.heap _ _ fun _ _ z => z) h3
  | tup ds => cases hd with | tup _ _ => cases rx; exact seq _ rfl
  | lst ds => cases hd with | lst _ _ => cases rx; exact seq _ rfl
theorem cd_of_bi (hc : X.calm = true) (hgd : X.A.guards = some []) (hu : X.A.units + 65 < cLine) : ∀ b : Bi, CallD X b.val (biD b)
  | .len => by
    obtain ⟨r, h1, h2⟩ := cd_lenS (X := X)
    refine ⟨r, h1, fun F H xs as c Q e hp g q => ?_⟩
    obtain ⟨x, a, rfl, hx, g⟩ := pr1 hp g
    refine h2 F H x a c Q e hx.s g fun z hz => q F H z (Al.refl e) ?_
    cases c <;> try exact hz
    cases a <;> simp [lenD] at g
  | .abs => by
    refine ⟨_, call_abs, fun F H xs as c Q e hp g q => ?_⟩
    obtain ⟨x, a, rfl, hx, g⟩ := pr1 hp g
    cases a <;> try (cases g; done)
    cases hx.int; cases g
    exact ⟨_, rfl, q F H _ (Al.refl e) (.int _)⟩
  | .int => by
    refine ⟨_, call_int1, fun F H xs as c Q e hp g q => ?_⟩
    obtain ⟨x, a, rfl, hx, g⟩ := pr1 hp g
    cases a <;> try (cases g; done)
    · cases hx.bl; cases g
      exact Or.inr ⟨_, rfl, q F H _ (Al.refl e) (.int _)⟩
    · cases hx.int; cases g
      exact Or.inl ⟨_, rfl, q F H _ (Al.refl e) (.int _)⟩
  | .min2 => by
    refine ⟨_, call_min2 hc, fun F H xs as c Q e hp g q => ?_⟩
    obtain ⟨x, y, a, b, rfl, hx, hy, g⟩ := pr2 hp g
    cases a <;> cases b <;> try (cases g; done)
    cases hx.int; cases hy.int; cases g
    exact ⟨_, _, rfl, q F H _ (Al.refl e) (.int _)⟩
  | .max2 => by
    refine ⟨_, call_max2 hc, fun F H xs as c Q e hp g q => ?_⟩
    obtain ⟨x, y, a, b, rfl, hx, hy, g⟩ := pr2 hp g
    cases a <;> cases b <;> try (cases g; done)
    cases hx.int; cases hy.int; cases g
    exact ⟨_, _, rfl, q F H _ (Al.refl e) (.int _)⟩
  | .minL => by
    refine ⟨_, Ov.CallR.or (cr_min hc) (cr_minS hc), fun F H xs as c Q e hp g q => ?_⟩
    obtain ⟨x, a, rfl, hx, g⟩ := pr1 hp g
    cases a <;> try (cases g; done)
    obtain ⟨p, vs, rfl, h1, hz, hr⟩ := hx
    rename_i ds
    simp only [minLD, bestD] at g
    cases hb : intsD ds with
    | some ns =>
      rw [hb] at g
      obtain ⟨m, hm, g⟩ := Option.map_eq_some_iff.mp g
      cases g
      have ev := intsD_vs hr hb
      subst ev
      obtain ⟨m1, m2⟩ := List.min?_eq_some_iff.mp hm
      refine Or.inl ⟨p, ns, rfl, Or.inl (Or.inl h1), List.length_pos_of_mem m1, fun m' k1 k2 => ?_⟩
      have : m' = m := Int.le_antisymm (k2 m m1) (m2 m' k1)
      rw [this]
      exact q F H _ (Al.refl e) (.int _)
    | none =>
      rw [hb] at g
      cases hs : strsD ds with
      | none => rw [hs] at g; cases g
      | some ss =>
        rw [hs] at g
        obtain ⟨m, hm, g⟩ := Option.map_eq_some_iff.mp g
        cases g
        have ev := strsD_vs hr hs
        subst ev
        have hl : 0 < ss.length := by
          rcases Nat.lt_or_ge 0 ss.length with z | z
          · exact z
          · rw [List.getElem?_eq_none (by omega)] at hm; cases hm
        refine Or.inr ⟨p, ss, rfl, Or.inl (Or.inl h1), hl, fun m' k1 => ?_⟩
        rw [hm] at k1; cases k1
        exact q F H _ (Al.refl e) (.str _)
  | .maxL => by
    refine ⟨_, Ov.CallR.or (cr_max hc) (cr_maxS hc), fun F H xs as c Q e hp g q => ?_⟩
    obtain ⟨x, a, rfl, hx, g⟩ := pr1 hp g
    cases a <;> try (cases g; done)
    obtain ⟨p, vs, rfl, h1, hz, hr⟩ := hx
    rename_i ds
    simp only [maxLD, bestD] at g
    cases hb : intsD ds with
    | some ns =>
      rw [hb] at g
      obtain ⟨m, hm, g⟩ := Option.map_eq_some_iff.mp g
      cases g
      have ev := intsD_vs hr hb
      subst ev
      obtain ⟨m1, m2⟩ := List.max?_eq_some_iff.mp hm
      refine Or.inl ⟨p, ns, rfl, Or.inl (Or.inl h1), List.length_pos_of_mem m1, fun m' k1 k2 => ?_⟩
      have : m' = m := Int.le_antisymm (m2 m' k1) (k2 m m1)
      rw [this]
      exact q F H _ (Al.refl e) (.int _)
    | none =>
      rw [hb] at g
      cases hs : strsD ds with
      | none => rw [hs] at g; cases g
      | some ss =>
        rw [hs] at g
        obtain ⟨m, hm, g⟩ := Option.map_eq_some_iff.mp g
        cases g
        have ev := strsD_vs hr hs
        subst ev
        have hl : 0 < ss.length := by
          rcases Nat.lt_or_ge 0 ss.length with z | z
          · exact z
          · rw [List.getElem?_eq_none (by omega)] at hm; cases hm
        refine Or.inr ⟨p, ss, rfl, Or.inl (Or.inl h1), hl, fun m' k1 => ?_⟩
        rw [hm] at k1; cases k1
        exact q F H _ (Al.refl e) (.str _)
  | .repr => by
    refine ⟨_, call_repr hgd hu, fun F H xs as c Q e hp g q => ?_⟩
    obtain ⟨x, a, rfl, hx, g⟩ := pr1 hp g
    unfold reprD at g
    split at g
    · rename_i hc
      cases g
      refine ⟨x, a, rfl, ?_, hc.1, hc.2.1, hc.2.2, q F H _ (Al.refl e) (.str _)⟩
      cases a with
      | lst ds =>
        obtain ⟨p', vs', rfl, h1', hz', hr'⟩ := hx
        exact (Rp.lst h1' hz' (hr'.mono e)).dp
      | non => exact (Rp.mono e hx).dp
      | bl _ => exact (Rp.mono e hx).dp
      | int _ => exact (Rp.mono e hx).dp
      | str _ => exact (Rp.mono e hx).dp
      | tup _ => exact (Rp.mono e hx).dp
    · cases g
  | .sum => by
    refine ⟨_, cr_sum hc, fun F H xs as c Q e hp g q => ?_⟩
    obtain ⟨x, a, rfl, hx, g⟩ := pr1 hp g
    cases a <;> try (cases g; done)
    obtain ⟨p, vs, rfl, h1, hz, hr⟩ := hx
    rename_i ds
    simp only [sumD] at g
    cases hb : intsD ds with
    | none => rw [hb] at g; cases g
    | some ns =>
      rw [hb] at g; cases g
      have ev := intsD_vs hr hb
      subst ev
      exact ⟨p, ns, rfl, Or.inl (Or.inl h1), q F H _ (Al.refl e) (.int _)⟩
  | .all => by
    refine ⟨_, cr_all hc, fun F H xs as c Q e hp g q => ?_⟩
    obtain ⟨x, a, rfl, hx, g⟩ := pr1 hp g
    cases a <;> try (cases g; done)
    obtain ⟨p, vs, rfl, h1, hz, hr⟩ := hx
    rename_i ds
    simp only [allD] at g
    cases hb : boolsD ds with
    | none => rw [hb] at g; cases g
    | some ns =>
      rw [hb] at g; cases g
      have ev := boolsD_vs hr hb
      subst ev
      exact ⟨p, ns, rfl, Or.inl (Or.inl h1), q F H _ (Al.refl e) (.bl _)⟩
  | .any => by
    refine ⟨_, cr_any hc, fun F H xs as c Q e hp g q => ?_⟩
    obtain ⟨x, a, rfl, hx, g⟩ := pr1 hp g
    cases a <;> try (cases g; done)
    obtain ⟨p, vs, rfl, h1, hz, hr⟩ := hx
    rename_i ds
    simp only [anyD] at g
    cases hb : boolsD ds with
    | none => rw [hb] at g; cases g
    | some ns =>
      rw [hb] at g; cases g
      have ev := boolsD_vs hr hb
      subst ev
      exact ⟨p, ns, rfl, Or.inl (Or.inl h1), q F H _ (Al.refl e) (.bl _)⟩
  | .tuple => by
    refine ⟨_, call_tuple_of, fun F H xs as c Q e hp g q => ?_⟩
    obtain ⟨x, a, rfl, hx, g⟩ := pr1 hp g
    cases a <;> try (cases g; done)
    · obtain ⟨p, vs, rfl, h1, h2, hz, hr⟩ := hx.tup e
      cases g
      exact ⟨p, vs, rfl, Or.inr ⟨h1, q F H _ (Al.refl e) (.tup h2 hz hr)⟩⟩
    · obtain ⟨p, vs, rfl, h1, hz, hr⟩ := hx
      cases g
      exact ⟨p, vs, rfl, Or.inl ⟨Or.inl (Or.inl h1), fun l hl => q _ _ _ (Al.one e hl) (rp_new_tup (Ov.Ex.none e hl) hz hr)⟩⟩
  | .list => by
    refine ⟨_, call_list_of, fun F H xs as c Q e hp g q => ?_⟩
    obtain ⟨x, a, rfl, hx, g⟩ := pr1 hp g
    cases a <;> try (cases g; done)
    · obtain ⟨p, vs, rfl, h1, h2, hz, hr⟩ := hx.tup e
      cases g
      exact ⟨p, vs, rfl, Or.inr h1, fun l hl => q _ _ _ (Al.own e hl) (nw_lst e hl hz hr)⟩
    · obtain ⟨p, vs, rfl, h1, hz, hr⟩ := hx
      cases g
      exact ⟨p, vs, rfl, Or.inl (Or.inl (Or.inl h1)), fun l hl => q _ _ _ (Al.own e hl) (nw_lst e hl hz hr)⟩
/-! ### isinstance -/
def D.ty : D → String
  | .non => "NoneType" | .bl _ => "bool" | .int _ => "int" | .str _ => "str" | .tup _ => "tuple" | .lst _ => "list"
theorem kit_non_int : kitB "NoneType" "int" = some false := by decide +kernel
theorem kit_non_bool : kitB "NoneType" "bool" = some false := by decide +kernel
theorem kit_non_str : kitB "NoneType" "str" = some false := by decide +kernel
theorem kit_non_list : kitB "NoneType" "list" = some false := by decide +kernel
theorem kit_non_tuple : kitB "NoneType" "tuple" = some false := by decide +kernel
theorem kit_bl_int : kitB "bool" "int" = some true := by decide +kernel
theorem kit_bl_bool : kitB "bool" "bool" = some true := by decide +kernel
theorem kit_bl_str : kitB "bool" "str" = some false := by decide +kernel
theorem kit_bl_list : kitB "bool" "list" = some false := by decide +kernel
theorem kit_bl_tuple : kitB "bool" "tuple" = some false := by decide +kernel
theorem kit_int_int : kitB "int" "int" = some true := by decide +kernel
theorem kit_int_bool : kitB "int" "bool" = some false := by decide +kernel
theorem kit_int_str : kitB "int" "str" = some false := by decide +kernel
theorem kit_int_list : kitB "int" "list" = some false := by decide +kernel
theorem kit_int_tuple : kitB "int" "tuple" = some false := by decide +kernel
theorem kit_str_int : kitB "str" "int" = some false := by decide +kernel
theorem kit_str_bool : kitB "str" "bool" = some false := by decide +kernel
theorem kit_str_str : kitB "str" "str" = some true := by decide +kernel
theorem kit_str_list : kitB "str" "list" = some false := by decide +kernel
theorem kit_str_tuple : kitB "str" "tuple" = some false := by decide +kernel
theorem kit_tup_int : kitB "tuple" "int" = some false := by decide +kernel
theorem kit_tup_bool : kitB "tuple" "bool" = some false := by decide +kernel
theorem kit_tup_str : kitB "tuple" "str" = some false := by decide +kernel
theorem kit_tup_list : kitB "tuple" "list" = some false := by decide +kernel
theorem kit_tup_tuple : kitB "tuple" "tuple" = some true := by decide +kernel
theorem kit_lst_int : kitB "list" "int" = some false := by decide +kernel
theorem kit_lst_bool : kitB "list" "bool" = some false := by decide +kernel
theorem kit_lst_str : kitB "list" "str" = some false := by decide +kernel
theorem kit_lst_list : kitB "list" "list" = some true := by decide +kernel
theorem kit_lst_tuple : kitB "list" "tuple" = some false := by decide +kernel
theorem kit_d : ∀ (x : D) (t : Ty), kitB x.ty t.nm = some (isTy t x)
  | .non, .int => kit_non_int
  | .non, .bool => kit_non_bool
  | .non, .str => kit_non_str
  | .non, .list => kit_non_list
  | .non, .tuple => kit_non_tuple
  | .bl _, .int => kit_bl_int
  | .bl _, .bool => kit_bl_bool
  | .bl _, .str => kit_bl_str
  | .bl _, .list => kit_bl_list
  | .bl _, .tuple => kit_bl_tuple
  | .int _, .int => kit_int_int
  | .int _, .bool => kit_int_bool
  | .int _, .str => kit_int_str
  | .int _, .list => kit_int_list
  | .int _, .tuple => kit_int_tuple
  | .str _, .int => kit_str_int
  | .str _, .bool => kit_str_bool
  | .str _, .str => kit_str_str
  | .str _, .list => kit_str_list
  | .str _, .tuple => kit_str_tuple
  | .tup _, .int => kit_tup_int
  | .tup _, .bool => kit_tup_bool
  | .tup _, .str => kit_tup_str
  | .tup _, .list => kit_tup_list
  | .tup _, .tuple => kit_tup_tuple
  | .lst _, .int => kit_lst_int
  | .lst _, .bool => kit_lst_bool
  | .lst _, .str => kit_lst_str
  | .lst _, .list => kit_lst_list
  | .lst _, .tuple => kit_lst_tuple
theorem kit_ds {K : PySem.W.Frag} (x : D) : ∀ ts : List Ty, PySem.W.kitAny K (.type x.ty) (ts.map fun t => Value.type t.nm) = some (isTys ts x)
  | [] => rfl
  | t :: ts => by
    rw [List.map_cons]
    refine kitAny_cons (kit_ty (kit_d x t)) (fun h => ?_) fun h => ?_
    · rw [kit_ds x ts]; simp [isTys, h]
    · simp [isTys, h]
theorem ty_of {w : V} {x : D} (e : Ex F H) (h : Lk K F H w x) : TyX K H w (.type x.ty) := by
  cases x with
  | non => cases h.non; exact .base .non
  | bl => cases h.bl; exact .base (.bl _)
  | int => cases h.int; exact .base (.int _)
  | str => cases h.str; exact .base (.str _)
  | tup ds =>
    obtain ⟨p, vs, rfl, h1, h2, hz, hr⟩ := h.tup e
    rcases h1 with (h1 | ⟨o, h1⟩) | ⟨o, its, n, h1, h2, _⟩
    · exact .base (.tup h1)
    · exact .fTuple h1
    · exact .kTuple h1 h2
  | lst ds =>
    obtain ⟨p, vs, rfl, h1, hz, hr⟩ := h
    exact .base (.lst h1)
end
end Ov

set_option maxHeartbeats 2000000
namespace Ov
open PySem PySem.Spec PyProof.Rows L2 Evl
/-- the entry of a def: what stood, the lists that were handed in to be changed -/
structure Ent where
  F0 : Hp
  H0 : Hp
  ps : List (Option Addr)
structure Rel (K : PySem.W.Frag) (n : Ent) (ρ : Slots) (σ : L2.St) (F H : Hp) : Prop where
  sub : Ex F H
  len : ρ.length = σ.length
  dat : ∀ (i : Nat) x, ρ[i]? = some (some (.d x)) → ∃ w, σ[i]? = some (some w) ∧ Rp K F w x
  own : ∀ (i : Nat) b xs, ρ[i]? = some (some (.own b xs)) → ∃ p vs, σ[i]? = some (some (.ref p)) ∧ H p = some (.lst vs) ∧ F p = none ∧ xs.length ≤ sizeLine ∧ Rps K F vs xs ∧ (if b = true then n.ps[i]? = some (some p) else n.H0 p = none)
  scr : ∀ (i : Nat) ns, ρ[i]? = some (some (.scr ns)) → ∃ p, σ[i]? = some (some (.ref p)) ∧ SqL K F p (ns.map V.int) ∧ ns.length ≤ sizeLine
  inj : ∀ (i j : Nat) p, isOwn ρ[i]? = true → isOwn ρ[j]? = true → σ[i]? = some (some (.ref p)) → σ[j]? = some (some (.ref p)) → i = j
  ex0 : Ex n.F0 F
  keep : ∀ b o, n.H0 b = some o → some b ∉ n.ps → H b = some o
  newF : ∀ b, n.H0 b ≠ none → n.F0 b = none → F b = none
  par : ∀ (i : Nat) p, n.ps[i]? = some (some p) → σ[i]? = some (some (.ref p)) ∧ ∃ xs, ρ[i]? = some (some (.own true xs))
def VR (K : PySem.W.Frag) (σ : L2.St) (F : Hp) (w : V) : Vl → Prop
  | .d x => Rp K F w x
  | .slot i => σ[i]? = some (some w)
/-- b is no slot's own list -/
def NoOwn (ρ : Slots) (σ : L2.St) (b : Addr) : Prop := ∀ i : Nat, isOwn ρ[i]? = true → σ[i]? ≠ some (some (.ref b))
structure Step (K : PySem.W.Frag) (n : Ent) (σ : L2.St) (ρ : Slots) (F H : Hp) (ρ' : Slots) (F' H' : Hp) : Prop where
  ex : Ex F F'
  rel : Rel K n ρ' σ F' H'
  fr : ∀ b o, H b = some o → NoOwn ρ σ b → H' b = some o ∧ (F b = none → F' b = none)
  ow : ∀ i : Nat, isOwn ρ'[i]? = true → isOwn ρ[i]? = true
  dom : ∀ b, H' b = none → H b = none
section
variable {K : PySem.W.Frag} {n : Ent} {σ : L2.St} {ρ ρ1 ρ2 : Slots} {F H F1 H1 F2 H2 : Hp}
theorem isOwn_iff {o : Option (Option EV)} : isOwn o = true ↔ ∃ b xs, o = some (some (.own b xs)) := by
  constructor
  · intro h
    match o, h with
    | some (some (.own b xs)), _ => exact ⟨b, xs, rfl⟩
  · rintro ⟨b, xs, rfl⟩; rfl
theorem NoOwn.step (s : Step K n σ ρ F H ρ1 F1 H1) {b : Addr} (h : NoOwn ρ σ b) : NoOwn ρ1 σ b := fun i hi => h i (s.ow i hi)
theorem Step.refl (r : Rel K n ρ σ F H) : Step K n σ ρ F H ρ F H := ⟨Ex.refl _, r, fun _ _ h _ => ⟨h, fun q => q⟩, fun _ h => h, fun _ h => h⟩
theorem Step.trans (a : Step K n σ ρ F H ρ1 F1 H1) (b : Step K n σ ρ1 F1 H1 ρ2 F2 H2) : Step K n σ ρ F H ρ2 F2 H2 :=
  ⟨a.ex.trans b.ex, b.rel, fun c o h q => ⟨(b.fr c o (a.fr c o h q).1 (q.step a)).1, fun hf => (b.fr c o (a.fr c o h q).1 (q.step a)).2 ((a.fr c o h q).2 hf)⟩, fun i h => a.ow i (b.ow i h), fun c h => a.dom c (b.dom c h)⟩
theorem Rel.al (r : Rel K n ρ σ F H) (a : Al F H F1 H1) : Rel K n ρ σ F1 H1 where
  sub := a.sub
  len := r.len
  dat := fun i x h => by obtain ⟨w, h1, h2⟩ := r.dat i x h; exact ⟨w, h1, h2.mono a.ex⟩
  own := fun i b xs h => by
    obtain ⟨p, vs, h1, h2, h3, h4, h5, h6⟩ := r.own i b xs h
    exact ⟨p, vs, h1, a.hx _ _ h2, a.new p (by rw [h2]; simp) h3, h4, h5.mono a.ex, h6⟩
  scr := fun i ns h => by obtain ⟨p, h1, h2, h3⟩ := r.scr i ns h; exact ⟨p, h1, ex_l a.ex h2, h3⟩
  inj := r.inj
  ex0 := r.ex0.trans a.ex
  keep := fun b o h q => a.hx _ _ (r.keep b o h q)
  newF := fun b h q => by
    by_cases hb : some b ∈ n.ps
    · obtain ⟨i, hi, e⟩ := List.getElem_of_mem hb
      have e' : n.ps[i]? = some (some b) := by rw [List.getElem?_eq_getElem hi, e]
      obtain ⟨h1, xs, hx⟩ := r.par i b e'
      obtain ⟨p, vs, g1, g2, g3, _⟩ := r.own i true xs hx
      rw [h1] at g1; cases g1
      exact a.new b (by rw [g2]; simp) g3
    · cases hh : n.H0 b with
      | none => exact absurd hh h
      | some o => exact a.new b (by rw [r.keep b o hh hb]; simp) (r.newF b h q)
  par := r.par
theorem Step.al (r : Rel K n ρ σ F H) (a : Al F H F1 H1) : Step K n σ ρ F H ρ F1 H1 :=
  ⟨a.ex, r.al a, fun b o h _ => ⟨a.hx _ _ h, fun hf => a.new b (by rw [h]; simp) hf⟩, fun _ h => h, fun b h => Ov.Ex.none a.hx h⟩
theorem VR.mono (e : Ex F F1) {w : V} {v : Vl} (h : VR K σ F w v) : VR K σ F1 w v := by
  cases v with
  | d x => exact Rp.mono e h
  | slot i => exact h
theorem VR.look (r : Rel K n ρ σ F H) {w : V} {v : Vl} {x : D} (h : VR K σ F w v) (e : v.look ρ = some x) : Lk K F H w x := by
  cases v with
  | d y => cases e; exact Lk.of r.sub h
  | slot i =>
    have e : (match ρ[i]? with | some (some (.own _ xs)) => some (D.lst xs) | _ => none) = some x := e
    split at e
    · rename_i b xs hi
      cases e
      obtain ⟨p, vs, h1, h2, h3, h4, h5, _⟩ := r.own i b xs hi
      have h : σ[i]? = some (some w) := h
      rw [h1] at h; cases h
      exact ⟨p, vs, rfl, h2, h4, h5⟩
    · cases e
theorem rps_ints (ns : List Int) : Rps K F (ns.map V.int) (ns.map D.int) := by
  induction ns with
  | nil => exact .nil
  | cons a l ih => exact .cons (.int a) ih
theorem VR.lookS (r : Rel K n ρ σ F H) {w : V} {v : Vl} {x : D} (h : VR K σ F w v) (e : v.lookS ρ = some x) : LkS K F H w x := by
  cases v with
  | d y => cases e; exact (Lk.of r.sub h).s
  | slot i =>
    have e : (match ρ[i]? with | some (some (.own _ xs)) => some (D.lst xs) | some (some (.scr ns)) => some (D.lst (ns.map D.int)) | _ => none) = some x := e
    have h : σ[i]? = some (some w) := h
    split at e
    · rename_i b xs hi
      cases e
      obtain ⟨p, vs, h1, h2, h3, h4, h5, _⟩ := r.own i b xs hi
      rw [h1] at h; cases h
      exact ⟨p, vs, rfl, Or.inl (Or.inl h2), h4, h5⟩
    · rename_i ns hi
      cases e
      obtain ⟨p, h1, h2, h3⟩ := r.scr i ns hi
      rw [h1] at h; cases h
      exact ⟨p, _, rfl, ex_l r.sub h2, by rw [List.length_map]; exact h3, rps_ints ns⟩
    · cases e
theorem VR.pure {w : V} {v : Vl} {x : D} (h : VR K σ F w v) (e : v.pure? = some x) : Rp K F w x := by
  cases v with
  | d y => cases e; exact h
  | slot i => cases e
theorem vr_looks (r : Rel K n ρ σ F H) : ∀ {ws : List V} {vs : List Vl} {xs : List D}, Paired (VR K σ F) ws vs → looks ρ vs = some xs → Paired (Lk K F H) ws xs
  | _, _, _, .nil, e => by cases e; exact .nil
  | _, _, _, .cons h t, e => by
    simp only [looks] at e
    rename_i _ v _ vs
    cases e1 : v.look ρ with
    | none => rw [e1] at e; cases e
    | some x =>
      rw [e1] at e
      cases e2 : looks ρ vs with
      | none => rw [e2] at e; cases e
      | some xs => rw [e2] at e; cases e; exact .cons (h.look r e1) (vr_looks r t e2)
theorem vr_pures : ∀ {ws : List V} {vs : List Vl} {xs : List D}, Paired (VR K σ F) ws vs → pures vs = some xs → Rps K F ws xs
  | _, _, _, .nil, e => by cases e; exact .nil
  | _, _, _, .cons h t, e => by
    simp only [pures] at e
    rename_i _ v _ vs
    cases e1 : v.pure? with
    | none => rw [e1] at e; cases e
    | some x =>
      rw [e1] at e
      cases e2 : pures vs with
      | none => rw [e2] at e; cases e
      | some xs => rw [e2] at e; cases e; exact .cons (h.pure e1) (vr_pures t e2)
theorem paired_vr (e : Ex F F1) {ws : List V} {vs : List Vl} (h : Paired (VR K σ F) ws vs) : Paired (VR K σ F1) ws vs := Paired.mapP h fun _ _ q => VR.mono e q
end

/-! ### the judgements -/
abbrev EF := Slots → Option (Vl × Slots)
def DE (X : Cx) (e : Expr) (f : EF) : Prop := ∃ t, PE X e t ∧ ∀ (n : Ent) (ρ : Slots) (σ : L2.St) (F H : Hp) (v : Vl) (ρ' : Slots) (Q : VK), Rel X.K n ρ σ F H → f ρ = some (v, ρ') →
  (∀ F' H' w, Step X.K n σ ρ F H ρ' F' H' → VR X.K σ F' w v → Q w H') → t σ H Q
/-- data; a list is new and stands outside F -/
def DN (X : Cx) (e : Expr) (f : EF) : Prop := ∃ t, PE X e t ∧ ∀ (n : Ent) (ρ : Slots) (σ : L2.St) (F H : Hp) (v : Vl) (ρ' : Slots) (Q : VK), Rel X.K n ρ σ F H → f ρ = some (v, ρ') →
  (∀ F' H' w c, Step X.K n σ ρ F H ρ' F' H' → v = .d c → Nw X.K H F' H' w c → Q w H') → t σ H Q
def DT (X : Cx) (e : Expr) (f : Slots → Option (Bool × Slots)) : Prop := ∃ t, PT X e t ∧ ∀ (n : Ent) (ρ : Slots) (σ : L2.St) (F H : Hp) (b : Bool) (ρ' : Slots) (Q : Bool → Hp → Prop), Rel X.K n ρ σ F H → f ρ = some (b, ρ') →
  (∀ F' H', Step X.K n σ ρ F H ρ' F' H' → Q b H') → t σ H Q
def DA (X : Cx) (es : List Expr) (f : Slots → Option (List Vl × Slots)) : Prop := ∃ t, PA X es t ∧ ∀ (n : Ent) (ρ : Slots) (σ : L2.St) (F H : Hp) (vs : List Vl) (ρ' : Slots) (Q : List V → Hp → Prop), Rel X.K n ρ σ F H → f ρ = some (vs, ρ') →
  (∀ F' H' ws, Step X.K n σ ρ F H ρ' F' H' → Paired (VR X.K σ F') ws vs → Q ws H') → t σ H Q
section
variable {X : Cx} {e a b c : Expr} {f fa fb fc : EF} {pos : Pos}
theorem Rel.dom {K : PySem.W.Frag} {n : Ent} {σ : L2.St} {ρ : Slots} {F H : Hp} (r : Rel K n ρ σ F H) {b : Addr} (h : H b = none) : n.H0 b = none := by
  cases q : n.H0 b with
  | none => rfl
  | some o =>
    by_cases hb : some b ∈ n.ps
    · obtain ⟨i, hi, e⟩ := List.getElem_of_mem hb
      have e' : n.ps[i]? = some (some b) := by rw [List.getElem?_eq_getElem hi, e]
      obtain ⟨h1, xs, hx⟩ := r.par i b e'
      obtain ⟨p, vs, g1, g2, _⟩ := r.own i true xs hx
      rw [h1] at g1; cases g1
      rw [h] at g2; cases g2
    · rw [r.keep b o q hb] at h; cases h
theorem Rel.shut {K : PySem.W.Frag} {n : Ent} {σ : L2.St} {ρ : Slots} {F H : Hp} {p : Addr} {vs : List V} (r : Rel K n ρ σ F H) (hp : H p = some (.lst vs)) (hf : F p = none) (no : NoOwn ρ σ p) (h0 : n.H0 p = none) : Rel K n ρ σ (upd F p (.lst vs)) H where
  sub := fun b o q => by
    by_cases e : b = p
    · subst e; rw [upd_same] at q; cases q; exact hp
    · rw [upd_ne e] at q; exact r.sub b o q
  len := r.len
  dat := fun i x h => by obtain ⟨w, h1, h2⟩ := r.dat i x h; exact ⟨w, h1, h2.mono (Ex.new hf)⟩
  own := fun i b xs h => by
    obtain ⟨q, us, h1, h2, h3, h4, h5, h6⟩ := r.own i b xs h
    have ne : q ≠ p := fun e => no i (isOwn_iff.mpr ⟨b, xs, h⟩) (by rw [h1, e])
    exact ⟨q, us, h1, h2, by rw [upd_ne ne]; exact h3, h4, h5.mono (Ex.new hf), h6⟩
  scr := fun i ns h => by obtain ⟨q, h1, h2, h3⟩ := r.scr i ns h; exact ⟨q, h1, ex_l (Ex.new hf) h2, h3⟩
  inj := r.inj
  ex0 := r.ex0.trans (Ex.new hf)
  keep := r.keep
  newF := fun b h q => by
    have ne : b ≠ p := fun e => h (by rw [e]; exact h0)
    rw [upd_ne ne]; exact r.newF b h q
  par := r.par
theorem own_ne {K : PySem.W.Frag} {n : Ent} {σ : L2.St} {ρ : Slots} {F H : Hp} (r : Rel K n ρ σ F H) {p : Addr} (h : H p = none) : NoOwn ρ σ p := fun i hi e => by
  obtain ⟨b, xs, hx⟩ := isOwn_iff.mp hi
  obtain ⟨q, us, h1, h2, _⟩ := r.own i b xs hx
  rw [h1] at e; cases e
  rw [h] at h2; cases h2
theorem shut_own {K : PySem.W.Frag} {n : Ent} {σ : L2.St} {ρ ρ' : Slots} {F H F' H' : Hp} {w : V} {c : D} (r : Rel K n ρ σ F H) (s : Step K n σ ρ F H ρ' F' H') (h : Nw K H F' H' w c) : ∃ F2, Step K n σ ρ F H ρ' F2 H' ∧ Rp K F2 w c := by
  cases c with
  | lst ds =>
    obtain ⟨p, vs, rfl, hp, hf, hh, hz, hr⟩ := h
    refine ⟨upd F' p (.lst vs), ⟨s.ex.trans (Ex.new hf), s.rel.shut hh hf ((own_ne r hp).step s) (r.dom hp), fun b o q no => ⟨(s.fr b o q no).1, fun hn => ?_⟩, s.ow, s.dom⟩, rp_new_lst hf hz hr⟩
    have ne : b ≠ p := fun e => by rw [e, hp] at q; cases q
    rw [upd_ne ne]; exact (s.fr b o q no).2 hn
  | _ => exact ⟨F', s, h⟩
theorem DN.de (h : DN X e f) : DE X e f := by
  obtain ⟨t, pe, q⟩ := h
  refine ⟨t, pe, fun n ρ σ F H v ρ' Q r g k => q n ρ σ F H v ρ' Q r g fun F' H' w c s ev hw => ?_⟩
  subst ev
  obtain ⟨F2, s2, rp⟩ := shut_own r s hw
  exact k F2 H' w s2 rp
theorem Step.nw {K : PySem.W.Frag} {n : Ent} {σ : L2.St} {ρ ρ' : Slots} {F H F1 H1 F' H' : Hp} {w : V} {c : D} (s : Step K n σ ρ F H ρ' F1 H1) (h : Nw K H1 F' H' w c) : Nw K H F' H' w c := by
  cases c with
  | lst ds =>
    obtain ⟨p, vs, e, hp, r⟩ := h
    exact ⟨p, vs, e, s.dom p hp, r⟩
  | _ => exact h
theorem bind_some {α β : Type} {x : Option α} {k : α → Option β} {y : β} (h : (x >>= k) = some y) : ∃ a, x = some a ∧ k a = some y := by
  cases x with
  | none => cases h
  | some a => exact ⟨a, rfl, h⟩
theorem pure_some {α β : Type} {a c : α} {b d : β} (h : (pure (a, b) : Option (α × β)) = some (c, d)) : c = a ∧ d = b := by
  cases h; exact ⟨rfl, rfl⟩
/-! ### names, constants -/
theorem de_var {i : Nat} {x : Str} (hN : X.N[i]? = some x) (hv : Vis X.env.scope x) (hd : (x == ("__debug__" : Str)) = false) (hcd : (x == ("__classdict__" : Str)) = false) {G : Cfg} : DE X (.Name x pos) (evE G (.var i)) := by
  refine ⟨_, pe_var hN hv hd hcd, fun n ρ σ F H v ρ' Q r g k => ?_⟩
  simp only [evE] at g
  split at g
  · rename_i x hi; cases g
    obtain ⟨w, h1, h2⟩ := r.dat i x hi
    exact ⟨w, h1, k F H w (Step.refl r) h2⟩
  · rename_i b x hi; cases g
    obtain ⟨p, vs, h1, _⟩ := r.own i b x hi
    exact ⟨_, h1, k F H _ (Step.refl r) h1⟩
  · rename_i x hi; cases g
    obtain ⟨p, h1, _⟩ := r.scr i x hi
    exact ⟨_, h1, k F H _ (Step.refl r) h1⟩
  · cases g
theorem de_const {t : TE} {w : V} {x : D} (h : PE X e t) (ht : ∀ σ H Q, Q w H → t σ H Q) (hx : ∀ F, Rp X.K F w x) : DE X e (fun ρ => some (.d x, ρ)) :=
  ⟨t, h, fun n ρ σ F H v ρ' Q r g k => by cases g; exact ht σ H Q (k F H w (Step.refl r) (hx F))⟩
/-! ### operators -/
theorem dn_op {o : Operator} {g : D → D → Option D} (ho : OpD X (binaryOp o) g) (ha : DE X a fa) (hb : DE X b fb) : DN X (.BinOp a o b pos) (fun ρ => do
    let (va, ρ1) ← fa ρ
    let (vb, ρ2) ← fb ρ1
    let x ← va.look ρ2
    let y ← vb.look ρ2
    let z ← g x y
    pure (.d z, ρ2)) := by
  obtain ⟨ta, pa, qa⟩ := ha
  obtain ⟨tb, pb, qb⟩ := hb
  obtain ⟨r, hr, qr⟩ := ho
  refine ⟨_, pe_op hr pa pb, fun n ρ σ F H v ρ' Q rl g k => ?_⟩
  obtain ⟨⟨va, ρ1⟩, ga, g⟩ := bind_some g
  obtain ⟨⟨vb, ρ2⟩, gb, g⟩ := bind_some g
  obtain ⟨x, gx, g⟩ := bind_some g
  obtain ⟨y, gy, g⟩ := bind_some g
  obtain ⟨z, gz, g⟩ := bind_some g
  obtain ⟨rfl, rfl⟩ := pure_some g
  refine qa n ρ σ F H va ρ1 _ rl ga fun F1 H1 w1 s1 v1 => qb n ρ1 σ F1 H1 vb _ _ s1.rel gb fun F2 H2 w2 s2 v2 => ?_
  refine qr F2 H2 w1 w2 x y z Q s2.rel.sub ((v1.mono s2.ex).look s2.rel gx) (v2.look s2.rel gy) gz fun F' H' w al nw => ?_
  exact k F' H' w z ((s1.trans s2).trans (Step.al s2.rel al)) rfl ((s1.trans s2).nw nw)
theorem de_cmp {o : COp} (hu : X.A.units + 65 < cLine) (ha : DE X a fa) (hb : DE X b fb) (hm : behindInMarks o.py b = false) : DE X (.Compare a [o.py] [b] pos) (fun ρ => do
    let (va, ρ1) ← fa ρ
    let (vb, ρ2) ← fb ρ1
    let x ← va.look ρ2
    let y ← vb.look ρ2
    let z ← cmpD o x y
    pure (.d (.bl z), ρ2)) ∧ DT X (.Compare a [o.py] [b] pos) (fun ρ => do
    let (va, ρ1) ← fa ρ
    let (vb, ρ2) ← fb ρ1
    let x ← va.look ρ2
    let y ← vb.look ρ2
    let z ← cmpD o x y
    pure (z, ρ2)) := by
  obtain ⟨ta, pa, qa⟩ := ha
  obtain ⟨tb, pb, qb⟩ := hb
  obtain ⟨r, hr, qr⟩ := opd_cmp hu o
  constructor
  · refine ⟨_, pe_cmpR hr pa pb hm, fun n ρ σ F H v ρ' Q rl g k => ?_⟩
    obtain ⟨⟨va, ρ1⟩, ga, g⟩ := bind_some g
    obtain ⟨⟨vb, ρ2⟩, gb, g⟩ := bind_some g
    obtain ⟨x, gx, g⟩ := bind_some g
    obtain ⟨y, gy, g⟩ := bind_some g
    obtain ⟨z, gz, g⟩ := bind_some g
    obtain ⟨rfl, rfl⟩ := pure_some g
    refine qa n ρ σ F H va ρ1 _ rl ga fun F1 H1 w1 s1 v1 => qb n ρ1 σ F1 H1 vb _ _ s1.rel gb fun F2 H2 w2 s2 v2 => ?_
    refine qr F2 H2 w1 w2 x y (.bl z) Q s2.rel.sub ((v1.mono s2.ex).look s2.rel gx) (v2.look s2.rel gy) (by simp [gz]) fun F' H' w al nw => ?_
    exact k F' H' w ((s1.trans s2).trans (Step.al s2.rel al)) nw
  · refine ⟨_, pt_cmpR hr pa pb hm, fun n ρ σ F H v ρ' Q rl g k => ?_⟩
    obtain ⟨⟨va, ρ1⟩, ga, g⟩ := bind_some g
    obtain ⟨⟨vb, ρ2⟩, gb, g⟩ := bind_some g
    obtain ⟨x, gx, g⟩ := bind_some g
    obtain ⟨y, gy, g⟩ := bind_some g
    obtain ⟨z, gz, g⟩ := bind_some g
    obtain ⟨rfl, rfl⟩ := pure_some g
    refine qa n ρ σ F H va ρ1 _ rl ga fun F1 H1 w1 s1 v1 => qb n ρ1 σ F1 H1 vb _ _ s1.rel gb fun F2 H2 w2 s2 v2 => ?_
    refine qr F2 H2 w1 w2 x y (.bl v) _ s2.rel.sub ((v1.mono s2.ex).look s2.rel gx) (v2.look s2.rel gy) (by simp [gz]) fun F' H' w al nw => ?_
    have nw : Rp X.K F' w (.bl v) := nw
    cases nw
    exact ⟨v, rfl, k F' H' ((s1.trans s2).trans (Step.al s2.rel al))⟩
end
end Ov

set_option maxHeartbeats 2000000
namespace Ov
open PySem PySem.Spec PyProof.Rows L2 Evl
def DW (X : Cx) (e : Expr) (f : Slots → Option (Bool × Slots)) : Prop := ∃ t, PW X e t ∧ ∀ (n : Ent) (ρ : Slots) (σ : L2.St) (F H : Hp) (b : Bool) (ρ' : Slots) (Q : Bool → Hp → Prop), Rel X.K n ρ σ F H → f ρ = some (b, ρ') →
  (∀ F' H', Step X.K n σ ρ F H ρ' F' H' → Q b H') → t σ H Q
section
variable {X : Cx} {e a b c : Expr} {f fa fb fc : EF} {ft fu : Slots → Option (Bool × Slots)} {pos : Pos} {G : Cfg} {ia ib ic : IR} {rest es : List Expr}
theorem DW.dt (h : DW X e ft) : DT X e ft := by
  obtain ⟨t, p, q⟩ := h
  exact ⟨t, p.pt, q⟩
theorem tst {v : Vl} {x : D} {b : Bool} {w : V} {K : PySem.W.Frag} {σ : L2.St} {F : Hp} (h : VR K σ F w v) (e : v.pure? = some x) (eb : asBool x = some b) : w = .bl b := by
  have r := h.pure e
  cases x <;> cases eb
  cases r; rfl
theorem evT_some {G : Cfg} {ir : IR} {ρ ρ' : Slots} {b : Bool} (h : evT G ir ρ = some (b, ρ')) : evE G ir ρ = some (.d (.bl b), ρ') := by
  unfold evT at h
  obtain ⟨⟨v, ρ1⟩, g, h⟩ := bind_some h
  obtain ⟨x, gx, h⟩ := bind_some h
  obtain ⟨q, gq, h⟩ := bind_some h
  obtain ⟨rfl, rfl⟩ := pure_some h
  cases v <;> cases gx
  cases x <;> cases gq
  exact g
theorem DE.dt (h : DE X e (evE G ia)) (he : ∀ whole, isTrue e X.env whole = (do let v ← whole; standAt e.pos; holding [v] (truthy v))) : DT X e (evT G ia) := by
  obtain ⟨t, p, q⟩ := h
  refine ⟨_, pt_val p he, fun n ρ σ F H b ρ' Q r g k => ?_⟩
  refine q n ρ σ F H _ ρ' _ r (evT_some g) fun F' H' w s v => ?_
  cases (show Rp X.K F' w (.bl b) from v)
  exact ⟨b, rfl, k F' H' s⟩
/-! ### is None, not, and, or, if -/
theorem de_neg (ha : DE X a (evE G ia)) : DE X (.UnaryOp .USub a pos) (evE G (.neg ia)) := by
  obtain ⟨ta, pa, qa⟩ := ha
  refine ⟨_, pe_un un_neg pa, fun n ρ σ F H v ρ' Q rl g k => ?_⟩
  unfold evE at g
  obtain ⟨⟨va, ρ1⟩, ga, g⟩ := bind_some g
  obtain ⟨x, gx, g⟩ := bind_some g
  obtain ⟨i, gi, g⟩ := bind_some g
  obtain ⟨rfl, rfl⟩ := pure_some g
  refine qa n ρ σ F H va _ _ rl ga fun F1 H1 w1 s1 v1 => ?_
  cases x <;> cases gi
  cases (v1.look s1.rel gx).int
  exact ⟨_, rfl, k F1 H1 _ s1 (.int _)⟩
theorem nonB {K : PySem.W.Frag} {F H : Hp} {w : V} {x : D} (h : Lk K F H w x) : decide (w = .non) = (match x with | .non => true | _ => false) := by
  cases x with
  | non => cases h.non; rfl
  | bl => cases h.bl; rfl
  | int => cases h.int; rfl
  | str => cases h.str; rfl
  | tup => have h : Rp K F w (.tup _) := h; cases h; rfl
  | lst => obtain ⟨p, vs, rfl, _⟩ := h; rfl
theorem de_isn (ng : Bool) {j : Nat} {p : Pos} (ha : DE X a (evE G ia)) : DE X (.Compare a [if ng then .IsNot else .Is] [.Constant .none j p] pos) (evE G (.isn ng ia)) ∧ DT X (.Compare a [if ng then .IsNot else .Is] [.Constant .none j p] pos) (evT G (.isn ng ia)) := by
  obtain ⟨ta, pa, qa⟩ := ha
  have val : ∀ {w : V} {x : D} {F H : Hp}, Lk X.K F H w x → (if ng then !decide (w = .non) else decide (w = .non)) = (match x with | .non => !ng | _ => ng) := fun {w x F H} h => by
    rw [nonB h]; cases ng <;> cases x <;> rfl
  constructor
  · cases ng with
    | false =>
      refine ⟨_, pe_cmpR op_isN pa pe_non (nomark _), fun n ρ σ F H v ρ' Q rl g k => ?_⟩
      unfold evE at g
      obtain ⟨⟨va, ρ1⟩, ga, g⟩ := bind_some g
      obtain ⟨x, gx, g⟩ := bind_some g
      obtain ⟨rfl, rfl⟩ := pure_some g
      refine qa n ρ σ F H va _ _ rl ga fun F1 H1 w1 s1 v1 => ⟨rfl, ?_⟩
      have q := val (v1.look s1.rel gx)
      simp only [Bool.false_eq_true, if_false] at q
      rw [q]
      exact k F1 H1 _ s1 (.bl _)
    | true =>
      refine ⟨_, pe_cmpR op_notN pa pe_non (nomark _), fun n ρ σ F H v ρ' Q rl g k => ?_⟩
      unfold evE at g
      obtain ⟨⟨va, ρ1⟩, ga, g⟩ := bind_some g
      obtain ⟨x, gx, g⟩ := bind_some g
      obtain ⟨rfl, rfl⟩ := pure_some g
      refine qa n ρ σ F H va _ _ rl ga fun F1 H1 w1 s1 v1 => ⟨rfl, ?_⟩
      have q := val (v1.look s1.rel gx)
      simp only [if_true] at q
      rw [q]
      exact k F1 H1 _ s1 (.bl _)
  · cases ng with
    | false =>
      refine ⟨_, pt_cmpR op_isN pa pe_non (nomark _), fun n ρ σ F H v ρ' Q rl g k => ?_⟩
      have g := evT_some g
      unfold evE at g
      obtain ⟨⟨va, ρ1⟩, ga, g⟩ := bind_some g
      obtain ⟨x, gx, g⟩ := bind_some g
      obtain ⟨e1, rfl⟩ := pure_some g
      refine qa n ρ σ F H va _ _ rl ga fun F1 H1 w1 s1 v1 => ⟨rfl, _, rfl, ?_⟩
      have q := val (v1.look s1.rel gx)
      simp only [Bool.false_eq_true, if_false] at q
      rw [q]
      cases e1
      exact k F1 H1 s1
    | true =>
      refine ⟨_, pt_cmpR op_notN pa pe_non (nomark _), fun n ρ σ F H v ρ' Q rl g k => ?_⟩
      have g := evT_some g
      unfold evE at g
      obtain ⟨⟨va, ρ1⟩, ga, g⟩ := bind_some g
      obtain ⟨x, gx, g⟩ := bind_some g
      obtain ⟨e1, rfl⟩ := pure_some g
      refine qa n ρ σ F H va _ _ rl ga fun F1 H1 w1 s1 v1 => ⟨rfl, _, rfl, ?_⟩
      have q := val (v1.look s1.rel gx)
      simp only [if_true] at q
      rw [q]
      cases e1
      exact k F1 H1 s1
/-! ### is True, is False -/
theorem op_nonBl : OpR X (compareOp .Is) (fun x y H Q => ∃ b : Bool, x = .non ∧ y = .bl b ∧ Q (.bl false) H) := by
  intro pins s σ H x y v u Q I rx ry h
  obtain ⟨b, rfl, rfl, q⟩ := h
  cases (show v = Value.none from rx)
  cases (show u = Value.bool b from ry)
  exact wpAny_is_other rfl (fun z => nomatch z) ⟨.bl false, H, I, rfl, q⟩
theorem op_nonNBl : OpR X (compareOp .IsNot) (fun x y H Q => ∃ b : Bool, x = .non ∧ y = .bl b ∧ Q (.bl true) H) := by
  intro pins s σ H x y v u Q I rx ry h
  obtain ⟨b, rfl, rfl, q⟩ := h
  cases (show v = Value.none from rx)
  cases (show u = Value.bool b from ry)
  exact wpAny_isNot_other rfl (fun z => nomatch z) ⟨.bl true, H, I, rfl, q⟩
theorem isb_rule (ng b : Bool) : ∃ r, OpR X (compareOp (if ng then .IsNot else .Is)) r ∧ ∀ (F H : Hp) (w : V) (x : D) (z : Bool) (Q : VK), Lk X.K F H w x → isbD x b = some z → Q (.bl (if ng then !z else z)) H → r w (.bl b) H Q := by
  cases ng with
  | false =>
    refine ⟨_, Ov.OpR.or op_isBl op_nonBl, fun F H w x z Q h g q => ?_⟩
    cases x <;> try (cases g; done)
    · cases h.non; cases g
      exact Or.inr ⟨b, rfl, rfl, q⟩
    · cases h.bl; cases g
      exact Or.inl ⟨_, b, rfl, rfl, q⟩
  | true =>
    refine ⟨_, Ov.OpR.or op_notBl op_nonNBl, fun F H w x z Q h g q => ?_⟩
    cases x <;> try (cases g; done)
    · cases h.non; cases g
      exact Or.inr ⟨b, rfl, rfl, q⟩
    · cases h.bl; cases g
      exact Or.inl ⟨_, b, rfl, rfl, q⟩
theorem de_isb (ng b : Bool) {j : Nat} {p : Pos} (ha : DE X a (evE G ia)) : DE X (.Compare a [if ng then .IsNot else .Is] [.Constant (.bool b) j p] pos) (evE G (.isb ng ia b)) ∧ DT X (.Compare a [if ng then .IsNot else .Is] [.Constant (.bool b) j p] pos) (evT G (.isb ng ia b)) := by
  obtain ⟨ta, pa, qa⟩ := ha
  obtain ⟨r, hr, hq⟩ := isb_rule (X := X) ng b
  have hm : behindInMarks (if ng then CmpOp.IsNot else CmpOp.Is) (.Constant (.bool b) j p) = false := by cases ng <;> rfl
  constructor
  · refine ⟨_, pe_cmpR hr pa pe_bl hm, fun n ρ σ F H v ρ' Q rl g k => ?_⟩
    unfold evE at g
    obtain ⟨⟨va, ρ1⟩, ga, g⟩ := bind_some g
    obtain ⟨x, gx, g⟩ := bind_some g
    obtain ⟨z, gz, g⟩ := bind_some g
    obtain ⟨rfl, rfl⟩ := pure_some g
    exact qa n ρ σ F H va _ _ rl ga fun F1 H1 w1 s1 v1 => hq F1 H1 w1 x z _ (v1.look s1.rel gx) gz (k F1 H1 _ s1 (.bl _))
  · refine ⟨_, pt_cmpR hr pa pe_bl hm, fun n ρ σ F H v ρ' Q rl g k => ?_⟩
    have g := evT_some g
    unfold evE at g
    obtain ⟨⟨va, ρ1⟩, ga, g⟩ := bind_some g
    obtain ⟨x, gx, g⟩ := bind_some g
    obtain ⟨z, gz, g⟩ := bind_some g
    obtain ⟨e1, rfl⟩ := pure_some g
    cases e1
    exact qa n ρ σ F H va _ _ rl ga fun F1 H1 w1 s1 v1 => hq F1 H1 w1 x z _ (v1.look s1.rel gx) gz ⟨_, rfl, k F1 H1 s1⟩
theorem de_not (ha : DE X a (evE G ia)) (ht : DT X a (evT G ia)) : DE X (.UnaryOp .Not a pos) (evE G (.bnot ia)) ∧ DT X (.UnaryOp .Not a pos) (evT G (.bnot ia)) := by
  constructor
  · obtain ⟨ta, pa, qa⟩ := ha
    refine ⟨_, pe_not pa, fun n ρ σ F H v ρ' Q rl g k => ?_⟩
    unfold evE at g
    obtain ⟨⟨va, ρ1⟩, ga, g⟩ := bind_some g
    obtain ⟨x, gx, g⟩ := bind_some g
    obtain ⟨p, gp, g⟩ := bind_some g
    obtain ⟨rfl, rfl⟩ := pure_some g
    refine qa n ρ σ F H va _ _ rl ga fun F1 H1 w1 s1 v1 => ?_
    cases tst v1 gx gp
    exact ⟨p, rfl, k F1 H1 _ s1 (.bl _)⟩
  · obtain ⟨ta, pa, qa⟩ := ht
    refine ⟨_, pt_not pa, fun n ρ σ F H v ρ' Q rl g k => ?_⟩
    have g := evT_some g
    unfold evE at g
    obtain ⟨⟨va, ρ1⟩, ga, g⟩ := bind_some g
    obtain ⟨x, gx, g⟩ := bind_some g
    obtain ⟨p, gp, g⟩ := bind_some g
    obtain ⟨e1, rfl⟩ := pure_some g
    cases e1
    refine qa n ρ σ F H p _ _ rl (by unfold evT; rw [ga]; simp [gx, gp]) fun F1 H1 s1 => k F1 H1 s1
theorem de_one {op : BoolOp} (ha : DE X a (evE G ia)) (ht : DT X a (evT G ia)) : DE X (.BoolOp op [a] pos) (evE G (.one ia)) ∧ DW X (.BoolOp op [a] pos) (evT G (.one ia)) := by
  obtain ⟨ta, pa, qa⟩ := ha
  obtain ⟨tt, pt, qt⟩ := ht
  refine ⟨⟨ta, pe_one pa, fun n ρ σ F H v ρ' Q rl g k => qa n ρ σ F H v ρ' Q rl (by simpa [evE] using g) k⟩, ?_⟩
  have q : ∀ ρ, evT G (.one ia) ρ = evT G ia ρ := fun ρ => by unfold evT; simp [evE]
  cases op with
  | And => exact ⟨tt, pw_and1 pt, fun n ρ σ F H v ρ' Q rl g k => qt n ρ σ F H v ρ' Q rl (by rw [← q]; exact g) k⟩
  | Or => exact ⟨tt, pw_or1 pt, fun n ρ σ F H v ρ' Q rl g k => qt n ρ σ F H v ρ' Q rl (by rw [← q]; exact g) k⟩
theorem de_and (ha : DE X a (evE G ia)) (ht : DT X a (evT G ia)) (hb : DE X (.BoolOp .And (b :: rest) pos) (evE G ib)) (hw : DW X (.BoolOp .And (b :: rest) pos) (evT G ib)) :
    DE X (.BoolOp .And (a :: b :: rest) pos) (evE G (.band ia ib)) ∧ DW X (.BoolOp .And (a :: b :: rest) pos) (evT G (.band ia ib)) := by
  constructor
  · obtain ⟨ta, pa, qa⟩ := ha
    obtain ⟨tb, pb, qb⟩ := hb
    refine ⟨_, pe_and pa pb, fun n ρ σ F H v ρ' Q rl g k => ?_⟩
    unfold evE at g
    obtain ⟨⟨va, ρ1⟩, ga, g⟩ := bind_some g
    obtain ⟨x, gx, g⟩ := bind_some g
    obtain ⟨p, gp, g⟩ := bind_some g
    refine qa n ρ σ F H va _ _ rl ga fun F1 H1 w1 s1 v1 => ?_
    cases tst v1 gx gp
    refine ⟨p, rfl, ?_⟩
    cases p with
    | true =>
      simp only [if_true] at g ⊢
      exact qb n _ σ F1 H1 v ρ' Q s1.rel g fun F2 H2 w2 s2 v2 => k F2 H2 w2 (s1.trans s2) v2
    | false =>
      simp only [Bool.false_eq_true, if_false] at g ⊢
      obtain ⟨rfl, rfl⟩ := pure_some g
      exact k F1 H1 _ s1 (.bl _)
  · obtain ⟨ta, pa, qa⟩ := ht
    obtain ⟨tb, pb, qb⟩ := hw
    refine ⟨_, pw_and pa pb, fun n ρ σ F H v ρ' Q rl g k => ?_⟩
    have g := evT_some g
    unfold evE at g
    obtain ⟨⟨va, ρ1⟩, ga, g⟩ := bind_some g
    obtain ⟨x, gx, g⟩ := bind_some g
    obtain ⟨p, gp, g⟩ := bind_some g
    refine qa n ρ σ F H p ρ1 _ rl (by unfold evT; rw [ga]; simp [gx, gp]) fun F1 H1 s1 => ?_
    cases p with
    | true =>
      simp only [if_true] at g ⊢
      exact qb n _ σ F1 H1 v ρ' Q s1.rel (by unfold evT; rw [g]; rfl) fun F2 H2 s2 => k F2 H2 (s1.trans s2)
    | false =>
      simp only [Bool.false_eq_true, if_false] at g ⊢
      obtain ⟨e1, rfl⟩ := pure_some g
      cases e1
      exact k F1 H1 s1
theorem de_or (ha : DE X a (evE G ia)) (ht : DT X a (evT G ia)) (hb : DE X (.BoolOp .Or (b :: rest) pos) (evE G ib)) (hw : DW X (.BoolOp .Or (b :: rest) pos) (evT G ib)) :
    DE X (.BoolOp .Or (a :: b :: rest) pos) (evE G (.bor ia ib)) ∧ DW X (.BoolOp .Or (a :: b :: rest) pos) (evT G (.bor ia ib)) := by
  constructor
  · obtain ⟨ta, pa, qa⟩ := ha
    obtain ⟨tb, pb, qb⟩ := hb
    refine ⟨_, pe_or pa pb, fun n ρ σ F H v ρ' Q rl g k => ?_⟩
    unfold evE at g
    obtain ⟨⟨va, ρ1⟩, ga, g⟩ := bind_some g
    obtain ⟨x, gx, g⟩ := bind_some g
    obtain ⟨p, gp, g⟩ := bind_some g
    refine qa n ρ σ F H va _ _ rl ga fun F1 H1 w1 s1 v1 => ?_
    cases tst v1 gx gp
    refine ⟨p, rfl, ?_⟩
    cases p with
    | false =>
      simp only [Bool.false_eq_true, if_false] at g ⊢
      exact qb n _ σ F1 H1 v ρ' Q s1.rel g fun F2 H2 w2 s2 v2 => k F2 H2 w2 (s1.trans s2) v2
    | true =>
      simp only [if_true] at g ⊢
      obtain ⟨rfl, rfl⟩ := pure_some g
      exact k F1 H1 _ s1 (.bl _)
  · obtain ⟨ta, pa, qa⟩ := ht
    obtain ⟨tb, pb, qb⟩ := hw
    refine ⟨_, pw_or pa pb, fun n ρ σ F H v ρ' Q rl g k => ?_⟩
    have g := evT_some g
    unfold evE at g
    obtain ⟨⟨va, ρ1⟩, ga, g⟩ := bind_some g
    obtain ⟨x, gx, g⟩ := bind_some g
    obtain ⟨p, gp, g⟩ := bind_some g
    refine qa n ρ σ F H p ρ1 _ rl (by unfold evT; rw [ga]; simp [gx, gp]) fun F1 H1 s1 => ?_
    cases p with
    | false =>
      simp only [Bool.false_eq_true, if_false] at g ⊢
      exact qb n _ σ F1 H1 v ρ' Q s1.rel (by unfold evT; rw [g]; rfl) fun F2 H2 s2 => k F2 H2 (s1.trans s2)
    | true =>
      simp only [if_true] at g ⊢
      obtain ⟨e1, rfl⟩ := pure_some g
      cases e1
      exact k F1 H1 s1
theorem de_ife (hc : DT X c (evT G ic)) (ha : DE X a (evE G ia)) (hb : DE X b (evE G ib)) : DE X (.IfExp c a b pos) (evE G (.ife ic ia ib)) := by
  obtain ⟨tc, pc, qc⟩ := hc
  obtain ⟨ta, pa, qa⟩ := ha
  obtain ⟨tb, pb, qb⟩ := hb
  refine ⟨_, pe_ifExp pc pa pb, fun n ρ σ F H v ρ' Q rl g k => ?_⟩
  unfold evE at g
  obtain ⟨⟨va, ρ1⟩, ga, g⟩ := bind_some g
  obtain ⟨x, gx, g⟩ := bind_some g
  obtain ⟨p, gp, g⟩ := bind_some g
  refine qc n ρ σ F H p ρ1 _ rl (by unfold evT; rw [ga]; simp [gx, gp]) fun F1 H1 s1 => ?_
  cases p with
  | false =>
    simp only [Bool.false_eq_true, if_false] at g ⊢
    exact qb n _ σ F1 H1 v ρ' Q s1.rel g fun F2 H2 w2 s2 v2 => k F2 H2 w2 (s1.trans s2) v2
  | true =>
    simp only [if_true] at g ⊢
    exact qa n _ σ F1 H1 v ρ' Q s1.rel g fun F2 H2 w2 s2 v2 => k F2 H2 w2 (s1.trans s2) v2
/-! ### arguments, displays -/
theorem da_nil : DA X [] (evL G .nil) := ⟨_, pa_nil, fun n ρ σ F H vs ρ' Q rl g k => by
  simp only [evL] at g
  cases g
  exact k F H [] (Step.refl rl) .nil⟩
theorem da_cons (ha : DE X a (evE G ia)) (hb : DA X es (evL G ib)) (hs : starEach (a :: es) X.env = (false, eval a X.env) :: starEach es X.env) : DA X (a :: es) (evL G (.cons ia ib)) := by
  obtain ⟨ta, pa, qa⟩ := ha
  obtain ⟨tb, pb, qb⟩ := hb
  refine ⟨_, pa_cons pa pb hs, fun n ρ σ F H vs ρ' Q rl g k => ?_⟩
  unfold evL at g
  obtain ⟨⟨va, ρ1⟩, ga, g⟩ := bind_some g
  obtain ⟨⟨vb, ρ2⟩, gb, g⟩ := bind_some g
  obtain ⟨rfl, rfl⟩ := pure_some g
  refine qa n ρ σ F H va ρ1 _ rl ga fun F1 H1 w1 s1 v1 => qb n ρ1 σ F1 H1 vb _ _ s1.rel gb fun F2 H2 ws s2 v2 => ?_
  exact k F2 H2 (w1 :: ws) (s1.trans s2) (.cons (v1.mono s2.ex) v2)
theorem de_tup {x1 : Nat} (h : DA X es (evL G ia)) : DE X (.Tuple es x1 pos) (evE G (.tup ia)) := by
  obtain ⟨t, p, q⟩ := h
  refine ⟨_, pe_tup p, fun n ρ σ F H v ρ' Q rl g k => ?_⟩
  unfold evE at g
  obtain ⟨⟨vs, ρ1⟩, ga, g⟩ := bind_some g
  obtain ⟨xs, gx, g⟩ := bind_some g
  split at g
  · rename_i hz
    obtain ⟨rfl, rfl⟩ := pure_some g
    refine q n ρ σ F H vs _ _ rl ga fun F1 H1 ws s1 hv => ?_
    have rs := vr_pures hv gx
    refine ⟨by rw [rs.length]; exact hz, fun p hp => ?_⟩
    exact k _ _ _ (s1.trans (Step.al s1.rel (Al.one s1.rel.sub hp))) (rp_new_tup (Ov.Ex.none s1.rel.sub hp) hz rs)
  · cases g
theorem dn_lst (h : DA X es (evL G ia)) : DN X (.List es pos) (evE G (.lst ia)) := by
  obtain ⟨t, p, q⟩ := h
  refine ⟨_, pe_lst p, fun n ρ σ F H v ρ' Q rl g k => ?_⟩
  unfold evE at g
  obtain ⟨⟨vs, ρ1⟩, ga, g⟩ := bind_some g
  obtain ⟨xs, gx, g⟩ := bind_some g
  split at g
  · rename_i hz
    obtain ⟨rfl, rfl⟩ := pure_some g
    refine q n ρ σ F H vs _ _ rl ga fun F1 H1 ws s1 hv => ?_
    have rs := vr_pures hv gx
    refine ⟨by rw [rs.length]; exact hz, fun p hp => ?_⟩
    exact k _ _ _ _ (s1.trans (Step.al s1.rel (Al.own s1.rel.sub hp))) rfl (s1.nw (nw_lst s1.rel.sub hp hz rs))
  · cases g
end
end Ov

set_option maxHeartbeats 2000000
namespace Ov
open PySem PySem.Spec PyProof.Rows L2 Evl
theorem ixN_eq (n : Nat) (i : Int) : ixN' n i = ixN n i := rfl
theorem sIx_eq (n d : Nat) (o : Option Int) : sIx' n d o = HT.sIx n d o := by cases o <;> rfl
section
variable {X : Cx} {e a b c : Expr} {f fa fb fc : EF} {pos : Pos} {G : Cfg} {ia ib ic : IR} {rest es : List Expr}
theorem at_rps {K : PySem.W.Frag} {F : Hp} {vs : List V} {ds : List D} {i : Int} {x : D} (h : Rps K F vs ds) (e : atD ds i = some x) : ∃ v, atI vs i = some v ∧ Rp K F v x := by
  unfold atD at e
  obtain ⟨j, e1, e2⟩ := Option.bind_eq_some_iff.mp e
  obtain ⟨v, h1, h2⟩ := h.get e2
  refine ⟨v, ?_, h2⟩
  unfold atI
  rw [h.length, ← ixN_eq, e1]
  exact h1
theorem de_idx (hs : PlainIx b) (ha : DE X a (evE G ia)) (hb : DE X b (evE G ib)) : DE X (.Subscript a b pos) (evE G (.idx ia ib)) := by
  obtain ⟨ta, pa, qa⟩ := ha
  obtain ⟨tb, pb, qb⟩ := hb
  refine ⟨_, pe_ix ix_seq pa pb hs, fun n ρ σ F H v ρ' Q rl g k => ?_⟩
  unfold evE at g
  obtain ⟨⟨va, ρ1⟩, ga, g⟩ := bind_some g
  obtain ⟨⟨vb, ρ2⟩, gb, g⟩ := bind_some g
  obtain ⟨x, gx, g⟩ := bind_some g
  obtain ⟨y, gy, g⟩ := bind_some g
  obtain ⟨i, gi, gg⟩ := bind_some g
  clear g
  refine qa n ρ σ F H va ρ1 _ rl ga fun F1 H1 w1 s1 v1 => qb n ρ1 σ F1 H1 vb ρ2 _ s1.rel gb fun F2 H2 w2 s2 v2 => ?_
  have l1 := (v1.mono s2.ex).lookS s2.rel gx
  have l2 := v2.look s2.rel gy
  cases y <;> cases gi
  cases l2.int
  cases x with
  | lst xs =>
    dsimp only at gg
    obtain ⟨z, gz, gg⟩ := bind_some gg
    obtain ⟨rfl, rfl⟩ := pure_some gg
    obtain ⟨p, vs, rfl, h1, hz, hr⟩ := l1
    obtain ⟨u, hu, ru⟩ := at_rps hr gz
    exact Or.inl ⟨p, vs, _, u, rfl, rfl, h1, hu, k F2 H2 u (s1.trans s2) ru⟩
  | tup xs =>
    dsimp only at gg
    obtain ⟨z, gz, gg⟩ := bind_some gg
    obtain ⟨rfl, rfl⟩ := pure_some gg
    have l1 : Rp X.K F2 w1 (.tup xs) := l1
    cases l1 with
    | tup h1 hz hr =>
      obtain ⟨u, hu, ru⟩ := at_rps hr gz
      exact Or.inr (Or.inl ⟨_, _, _, u, rfl, rfl, ex_t s2.rel.sub h1, hu, k F2 H2 u (s1.trans s2) ru⟩)
  | str z =>
    have l1 : Rp X.K F2 w1 (.str z) := l1
    cases l1
    dsimp only at gg
    split at gg
    · rename_i hz
      obtain ⟨j, gj, gg⟩ := bind_some gg
      obtain ⟨c, gc, gg⟩ := bind_some gg
      obtain ⟨rfl, rfl⟩ := pure_some gg
      refine Or.inr (Or.inr ⟨z, _, c, rfl, rfl, hz, ?_, k F2 H2 _ (s1.trans s2) (.str _)⟩)
      unfold atI
      have hl : z.cps.toList.length = z.length := by simp [Str.length]
      rw [hl, ← ixN_eq, gj]
      simpa using gc
    · cases gg
  | non => cases gg
  | bl => cases gg
  | int => cases gg
theorem cut_rps {K : PySem.W.Frag} {F : Hp} {vs : List V} {ds : List D} (lo hi : Option Int) (h : Rps K F vs ds) : Rps K F (cutV vs lo hi) (cutD ds lo hi) := by
  unfold cutV cutD
  rw [h.length, sIx_eq, sIx_eq]
  exact (h.drop _).take _
theorem cutD_len (ds : List D) (lo hi : Option Int) : (cutD ds lo hi).length ≤ ds.length := by
  unfold cutD
  rw [List.length_take, List.length_drop]; omega
/-- a slice's part -/
def DP (X : Cx) (e : Option Expr) (f : Slots → Option (Option Int × Slots)) : Prop := ∃ t, PO X e t ∧ ∀ (n : Ent) (ρ : Slots) (σ : L2.St) (F H : Hp) (o : Option Int) (ρ' : Slots) (Q : Option Int → Hp → Prop), Rel X.K n ρ σ F H → f ρ = some (o, ρ') →
  (∀ F' H', Step X.K n σ ρ F H ρ' F' H' → Q o H') → t σ H Q
def evPt (G : Cfg) (e : IR) (ρ : Slots) : Option (Option Int × Slots) := match e with
  | .nil => some (none, ρ)
  | e => do let (v, ρ') ← evE G e ρ; let p ← partD ρ' v; pure (p, ρ')
theorem dp_none : DP X none (evPt G .nil) := ⟨_, po_none, fun n ρ σ F H o ρ' Q rl g k => by
  cases g; exact k F H (Step.refl rl)⟩
theorem dp_some (hn : ia ≠ .nil) (ha : DE X a (evE G ia)) : DP X (some a) (evPt G ia) := by
  obtain ⟨ta, pa, qa⟩ := ha
  refine ⟨_, po_some pa, fun n ρ σ F H o ρ' Q rl g k => ?_⟩
  have g : (do let (v, ρ') ← evE G ia ρ; let p ← partD ρ' v; pure (p, ρ')) = some (o, ρ') := by
    unfold evPt at g
    split at g
    · exact absurd rfl hn
    · exact g
  obtain ⟨⟨va, ρ1⟩, ga, g⟩ := bind_some g
  obtain ⟨p, gp, g⟩ := bind_some g
  obtain ⟨rfl, rfl⟩ := pure_some g
  refine qa n ρ σ F H va _ _ rl ga fun F1 H1 w1 s1 v1 => ?_
  unfold partD at gp
  obtain ⟨x, gx, gp⟩ := bind_some gp
  obtain ⟨i, gi, gp⟩ := bind_some gp
  cases gp
  cases x <;> cases gi
  cases (v1.look s1.rel gx).int
  exact ⟨_, rfl, k F1 H1 s1⟩
theorem dn_stp {st : Expr} {p2 : Pos} (hn : ib ≠ .nil) (ha : DE X a (evE G ia)) (hs : DE X st (evE G ib)) : DN X (.Subscript a (.Slice none none (some st) p2) pos) (evE G (.stp ia ib)) := by
  obtain ⟨tl, pl, ql⟩ := dp_some hn hs
  obtain ⟨ta, pa, qa⟩ := ha
  refine ⟨_, pe_step pa pl, fun n ρ σ F H v ρ' Q rl g k => ?_⟩
  unfold evE at g
  obtain ⟨⟨va, ρ1⟩, ga, g⟩ := bind_some g
  obtain ⟨⟨vb, ρ2⟩, gb, g⟩ := bind_some g
  obtain ⟨y, gy, g⟩ := bind_some g
  obtain ⟨i, gi, g⟩ := bind_some g
  obtain ⟨x, gx, g⟩ := bind_some g
  obtain ⟨z, gz, g⟩ := bind_some g
  obtain ⟨rfl, rfl⟩ := pure_some g
  have e0 : evPt G ib ρ1 = (do let (v, ρ') ← evE G ib ρ1; let p ← partD ρ' v; pure (p, ρ')) := by
    unfold evPt
    split
    · exact absurd rfl hn
    · rfl
  have gl : evPt G ib ρ1 = some (some i, ρ') := by
    rw [e0, gb]
    show (partD ρ' vb >>= fun p => pure (p, ρ')) = _
    unfold partD
    rw [gy]
    show ((asInt y >>= fun i => pure (some i)) >>= fun p => pure (p, ρ')) = _
    rw [gi]; rfl
  refine qa n ρ σ F H va ρ1 _ rl ga fun F1 H1 w1 s1 v1 => ql n ρ1 σ F1 H1 _ ρ' _ s1.rel gl fun F3 H3 s3 => ⟨i, rfl, ?_⟩
  have l1 := (v1.mono s3.ex).lookS s3.rel gx
  have st := s1.trans s3
  cases x with
  | lst xs =>
    obtain ⟨p, vs, rfl, h1, hz, hr⟩ := l1
    refine Or.inl ⟨p, vs, rfl, h1, ?_⟩
    simp only [stpD] at gz
    split at gz
    · rename_i hi
      cases gz
      exact Or.inr ⟨hi, fun p2 hp2 => k _ _ _ _ (st.trans (Step.al s3.rel (Al.own s3.rel.sub hp2))) rfl (st.nw (nw_lst s3.rel.sub hp2 hz hr))⟩
    · split at gz
      · rename_i hi
        cases gz
        exact Or.inl ⟨hi, fun p2 hp2 => k _ _ _ _ (st.trans (Step.al s3.rel (Al.own s3.rel.sub hp2))) rfl (st.nw (nw_lst s3.rel.sub hp2 (by rw [List.length_reverse]; exact hz) hr.reverse))⟩
      · cases gz
  | tup xs =>
    have l1 : Rp X.K F3 w1 (.tup xs) := l1
    cases l1 with
    | tup h1 hz hr =>
      rename_i pa' vs
      refine Or.inr ⟨_, vs, rfl, ex_t s3.rel.sub h1, ?_⟩
      simp only [stpD] at gz
      split at gz
      · rename_i hi
        cases gz
        exact Or.inr ⟨hi, k F3 H3 _ _ st rfl (.tup h1 hz hr)⟩
      · split at gz
        · rename_i hi
          cases gz
          exact Or.inl ⟨hi, fun p2 hp2 => k _ _ _ _ (st.trans (Step.al s3.rel (Al.one s3.rel.sub hp2))) rfl (rp_new_tup (Ov.Ex.none s3.rel.sub hp2) (by rw [List.length_reverse]; exact hz) hr.reverse)⟩
        · cases gz
  | non => cases gz
  | bl => cases gz
  | int => cases gz
  | str => cases gz
theorem dn_slc {lo hi : Option Expr} {p2 : Pos} (ha : DE X a (evE G ia)) (hl : DP X lo (evPt G ib)) (hh : DP X hi (evPt G ic)) : DN X (.Subscript a (.Slice lo hi none p2) pos) (evE G (.slc ia ib ic)) := by
  obtain ⟨ta, pa, qa⟩ := ha
  obtain ⟨tl, pl, ql⟩ := hl
  obtain ⟨th, ph, qh⟩ := hh
  refine ⟨_, pe_slice (sl_list.or sl_tupA) pa pl ph, fun n ρ σ F H v ρ' Q rl g k => ?_⟩
  have g : (do
    let (va, ρ1) ← evE G ia ρ
    let (l, ρ2) ← evPt G ib ρ1
    let (h, ρ3) ← evPt G ic ρ2
    let x ← va.lookS ρ3
    match x with
    | .lst xs => pure (.d (.lst (cutD xs l h)), ρ3)
    | .tup xs => pure (.d (.tup (cutD xs l h)), ρ3)
    | _ => none) = some (v, ρ') := by
    unfold evE at g
    exact g
  obtain ⟨⟨va, ρ1⟩, ga, g⟩ := bind_some g
  obtain ⟨⟨l, ρ2⟩, gl, g⟩ := bind_some g
  obtain ⟨⟨h, ρ3⟩, gh, g⟩ := bind_some g
  obtain ⟨x, gx, g⟩ := bind_some g
  refine qa n ρ σ F H va ρ1 _ rl ga fun F1 H1 w1 s1 v1 => ql n ρ1 σ F1 H1 l ρ2 _ s1.rel gl fun F2 H2 s2 => qh n ρ2 σ F2 H2 h ρ3 _ s2.rel gh fun F3 H3 s3 => ?_
  have l1 := (v1.mono (s2.ex.trans s3.ex)).lookS s3.rel gx
  have st := (s1.trans s2).trans s3
  cases x with
  | lst xs =>
    obtain ⟨rfl, rfl⟩ := pure_some g
    obtain ⟨p, vs, rfl, h1, hz, hr⟩ := l1
    refine Or.inl ⟨p, vs, rfl, h1, fun p2 hp2 => ?_⟩
    exact k _ _ _ _ (st.trans (Step.al s3.rel (Al.own s3.rel.sub hp2))) rfl (st.nw (nw_lst s3.rel.sub hp2 (Nat.le_trans (cutD_len _ _ _) hz) (cut_rps l h hr)))
  | tup xs =>
    obtain ⟨rfl, rfl⟩ := pure_some g
    have l1 : Rp X.K F3 w1 (.tup xs) := l1
    cases l1 with
    | tup h1 hz hr =>
      rename_i pa' vs
      refine Or.inr ⟨_, vs, rfl, ex_t s3.rel.sub h1, fun hw => ?_, fun hw p2 hp2 => ?_⟩
      · have e1 : cutD xs l h = xs := by
          unfold cutD
          rw [sIx_eq, sIx_eq, ← hr.length, hw.1, hw.2]
          simp [hr.length]
        rw [e1] at k
        exact k F3 H3 _ _ st rfl (.tup h1 hz hr)
      · exact k _ _ _ _ (st.trans (Step.al s3.rel (Al.one s3.rel.sub hp2))) rfl (rp_new_tup (Ov.Ex.none s3.rel.sub hp2) (Nat.le_trans (cutD_len _ _ _) hz) (cut_rps l h hr))
  | non => cases g
  | bl => cases g
  | int => cases g
  | str => cases g
/-! ### calls of built-ins -/
theorem de_lenS {x p : Pos} {a : Expr} (hg : Gl X "len") (hm : X.mg "len" = none) (h1 : starEach [a] X.env = [(false, eval a X.env)]) (ha : DE X a (evE G ia)) : DE X (.Call (.Name "len" p) [a] [] pos) (evE G (.lenS ia)) := by
  obtain ⟨ta, pa, qa⟩ := ha
  obtain ⟨r, hr, qr⟩ := cd_lenS (X := X)
  refine ⟨_, pe_callB hr hg hm boot_len (pa_cons pa pa_nil h1) (by decide) (by decide) h1 rfl, fun n ρ σ F H v ρ' Q rl g k => ?_⟩
  unfold evE at g
  obtain ⟨⟨va, ρ1⟩, ga, g⟩ := bind_some g
  obtain ⟨y, gx, g⟩ := bind_some g
  obtain ⟨z, gz, g⟩ := bind_some g
  obtain ⟨rfl, rfl⟩ := pure_some g
  refine qa n ρ σ F H va _ _ rl ga fun F1 H1 w1 s1 v1 => ?_
  exact qr F1 H1 w1 y z Q s1.rel.sub (v1.lookS s1.rel gx) gz fun w hw => k F1 H1 w s1 hw
theorem boot_bi : ∀ b : Bi, bootBuiltins (Str.ofString b.name) = some b.val := by
  intro b; cases b <;> decide +kernel
theorem dn_bi {bi : Bi} {x : Str} {p : Pos} (hx : x = Str.ofString bi.name) (hc : X.calm = true) (hgd : X.A.guards = some []) (hu : X.A.units + 65 < cLine) (hg : Gl X x) (hm : X.mg x = none) (h1 : starEach (a :: es) X.env = (false, eval a X.env) :: starEach es X.env)
    (h2 : (backTo pos (starEach es X.env)).any (·.1) = false) (ha : DA X (a :: es) (evL G ia)) : DN X (.Call (.Name x p) (a :: es) [] pos) (evE G (.bi bi ia)) := by
  obtain ⟨ta, pa, qa⟩ := ha
  obtain ⟨r, hr, qr⟩ := cd_of_bi hc hgd hu bi
  have hv : bootBuiltins x = some bi.val := by rw [hx]; exact boot_bi bi
  have hn : x ≠ "__name__" := by rw [hx]; cases bi <;> decide
  have hdb : (x == ("__debug__" : Str)) = false := by rw [hx]; cases bi <;> decide
  have pe : PE X (.Call (.Name x p) (a :: es) [] pos) (tCB r ta) := by
    cases hb : bi.isTy with
    | true =>
      have ev : bi.val = .type bi.name := by unfold Bi.val; rw [hb]; rfl
      rw [ev] at hr hv
      exact pe_callTy hr hg hm hv pa hn hdb h1 h2
    | false =>
      have ev : bi.val = .builtin bi.name := by unfold Bi.val; rw [hb]; rfl
      rw [ev] at hr hv
      exact pe_callB hr hg hm hv pa hn hdb h1 h2
  refine ⟨_, pe, fun n ρ σ F H v ρ' Q rl g k => ?_⟩
  unfold evE at g
  obtain ⟨⟨va, ρ1⟩, ga, g⟩ := bind_some g
  obtain ⟨xs, gx, g⟩ := bind_some g
  obtain ⟨z, gz, g⟩ := bind_some g
  obtain ⟨rfl, rfl⟩ := pure_some g
  refine qa n ρ σ F H va _ _ rl ga fun F1 H1 ws s1 v1 => ?_
  exact qr F1 H1 ws xs z Q s1.rel.sub (vr_looks s1.rel v1 gx) gz fun F' H' w al nw => k F' H' w z (s1.trans (Step.al s1.rel al)) rfl (s1.nw nw)
end
end Ov

set_option maxHeartbeats 2000000
namespace Ov
open PySem PySem.Spec PyProof.Rows L2 Evl
section
variable {X : Cx} {e a b c : Expr} {pos p q : Pos} {G : Cfg} {ia ib ic : IR} {rest es : List Expr}
/-! ### isinstance -/
theorem boot_ty : ∀ t : Ty, bootBuiltins (Str.ofString t.nm) = some (.type t.nm) := by
  intro t; cases t <;> decide +kernel
theorem boot_isi : bootBuiltins "isinstance" = some (.builtin "isinstance") := by decide +kernel
theorem pe_ty {t : Ty} (hg : Gl X (Str.ofString t.nm)) (hm : X.mg (Str.ofString t.nm) = none) : PE X (.Name (Str.ofString t.nm) pos) (tC (.ty t.nm)) :=
  pe_bltn hg hm (boot_ty t) rfl (by cases t <;> decide) (by cases t <;> decide)
theorem de_isi1 {t : Ty} (hgi : Gl X "isinstance") (hmi : X.mg "isinstance" = none) (hg : Gl X (Str.ofString t.nm)) (hm : X.mg (Str.ofString t.nm) = none)
    (hs : starEach (a :: [.Name (Str.ofString t.nm) q]) X.env = (false, eval a X.env) :: starEach [.Name (Str.ofString t.nm) q] X.env) (ha : DE X a (evE G ia)) :
    DE X (.Call (.Name "isinstance" p) [a, .Name (Str.ofString t.nm) q] [] pos) (evE G (.isi ia [t])) := by
  obtain ⟨ta, pa, qa⟩ := ha
  refine ⟨_, pe_callB call_isi hgi hmi boot_isi (pa_cons pa (pa_cons (pe_ty hg hm) pa_nil) hs) (by decide) (by decide) hs rfl, fun n ρ σ F H v ρ' Q rl g k => ?_⟩
  unfold evE at g
  obtain ⟨⟨va, ρ1⟩, ga, g⟩ := bind_some g
  obtain ⟨x, gx, g⟩ := bind_some g
  obtain ⟨rfl, rfl⟩ := pure_some g
  refine qa n ρ σ F H va _ _ rl ga fun F1 H1 w1 s1 v1 => ?_
  refine ⟨w1, .ty t.nm, .type x.ty, .type t.nm, isTys [t] x, rfl, .ty _, ty_of s1.rel.sub (v1.look s1.rel gx), ?_, k F1 H1 _ s1 (.bl _)⟩
  rw [kit_ty (kit_d x t)]
  simp [isTys]
/-- names of types -/
def tyNames : List Ty → List (Pos × Ty) → List Expr
  | _, l => l.map fun p => .Name (Str.ofString p.2.nm) p.1
theorem pa_tys : ∀ (l : List (Pos × Ty)), (∀ t ∈ l.map (·.2), Gl X (Str.ofString t.nm) ∧ X.mg (Str.ofString t.nm) = none) →
    ∃ t, PA X (l.map fun p => .Name (Str.ofString p.2.nm) p.1) t ∧ ∀ σ H Q, Q (l.map fun p => V.ty p.2.nm) H → t σ H Q
  | [], _ => ⟨_, pa_nil, fun σ H Q q => q⟩
  | (ps, t) :: l, h => by
    obtain ⟨u, hu, qu⟩ := pa_tys l fun t ht => h t (List.mem_cons_of_mem _ ht)
    obtain ⟨h1, h2⟩ := h t (List.mem_cons_self ..)
    exact ⟨_, pa_cons (pe_ty h1 h2) hu rfl, fun σ H Q q => qu σ H _ q⟩
theorem de_isiT {l : List (Pos × Ty)} {x1 : Nat} (hgi : Gl X "isinstance") (hmi : X.mg "isinstance" = none) (hl : ∀ t ∈ l.map (·.2), Gl X (Str.ofString t.nm) ∧ X.mg (Str.ofString t.nm) = none) (hz : l.length ≤ sizeLine)
    (hs : starEach (a :: [.Tuple (l.map fun p => .Name (Str.ofString p.2.nm) p.1) x1 q]) X.env = (false, eval a X.env) :: starEach [.Tuple (l.map fun p => .Name (Str.ofString p.2.nm) p.1) x1 q] X.env) (ha : DE X a (evE G ia)) :
    DE X (.Call (.Name "isinstance" p) [a, .Tuple (l.map fun p => .Name (Str.ofString p.2.nm) p.1) x1 q] [] pos) (evE G (.isi ia (l.map (·.2)))) := by
  obtain ⟨ta, pa, qa⟩ := ha
  obtain ⟨tt, pt, qt⟩ := pa_tys l hl
  refine ⟨_, pe_callB call_isiT hgi hmi boot_isi (pa_cons pa (pa_cons (pe_tup pt) pa_nil) hs) (by decide) (by decide) hs rfl, fun n ρ σ F H v ρ' Q rl g k => ?_⟩
  unfold evE at g
  obtain ⟨⟨va, ρ1⟩, ga, g⟩ := bind_some g
  obtain ⟨x, gx, g⟩ := bind_some g
  obtain ⟨rfl, rfl⟩ := pure_some g
  refine qa n ρ σ F H va _ _ rl ga fun F1 H1 w1 s1 v1 => ?_
  refine qt σ H1 _ ⟨by rw [List.length_map]; exact hz, fun tp htp => ?_⟩
  have al := Al.own (o := .tup (l.map fun p => V.ty p.2.nm)) s1.rel.sub htp
  have s2 := s1.trans (Step.al s1.rel al)
  refine ⟨w1, tp, _, .type x.ty, _, _, rfl, upd_same, ?_, ty_of s2.rel.sub (v1.look s2.rel gx), kit_ds x (l.map fun (y : Pos × Ty) => y.2), k F1 _ _ s2 (.bl _)⟩
  have : ∀ l : List (Pos × Ty), Paired ClsV (l.map fun p => V.ty p.2.nm) ((l.map (·.2)).map fun t => Value.type t.nm) := fun l => by
    induction l with
    | nil => exact .nil
    | cons a l ih => exact .cons (.ty _) ih
  exact this l
/-! ### what is walked -/
/-- the i-th item comes at turn i -/
def YD (K : PySem.W.Frag) (F : Hp) (xs : List D) (Y : Nat → Hp → V → Hp → Prop) : Prop :=
  ∀ i Hc x H2, i < xs.length → Ex F Hc → Y i Hc x H2 → ∃ d, xs[i]? = some d ∧ ∀ Fc, Ex F Fc → Ex Fc Hc → ∃ F2, Al Fc Hc F2 H2 ∧ Rp K F2 x d
def DI (X : Cx) (tg iter : Expr) (f : Slots → Option (List D × Slots)) : Prop := ∃ wi, PI X tg iter wi ∧ ∀ (n : Ent) (ρ : Slots) (σ : L2.St) (F H : Hp) (xs : List D) (ρ' : Slots) (R : It → Hp → Prop), Rel X.K n ρ σ F H → f ρ = some (xs, ρ') →
  (∀ F' H' J Gd Y, Step X.K n σ ρ F H ρ' F' H' → xs.length ≤ sizeLine → Walk J xs.length Gd Y → (∀ H2, Ex F' H2 → Gd H2) → YD X.K F' xs Y → R J H') → wi σ H R
def evI (G : Cfg) (k : ItK) (a b : IR) (ρ : Slots) : Option (List D × Slots) := itGo k (evE G a ρ) (evE G b)
def iSeq (K : PySem.W.Frag) (tl : TE) : TI := fun σ H R => tl σ H fun x H1 => (∃ a, x = .ref a ∧ (∃ xs, SqL K H1 a xs) ∧ R (Itl K a) H1) ∨ (∃ a, x = .ref a ∧ (∃ xs, SqT K H1 a xs) ∧ R (Itt K a) H1) ∨ ∃ z, x = .str z ∧ R (Its z) H1
theorem pi_seq {tg l : Expr} {tl : TE} (hl : PE X l tl) : PI X tg l (iSeq X.K tl) := by
  refine ⟨fun pins s σ H R I h => ?_⟩
  refine thn (hl.run pins s σ H _ I h) fun v s1 ⟨x, H1, I1, r1, q1⟩ => ?_
  rcases q1 with ⟨a, e, ⟨xs, hq⟩, q⟩ | ⟨a, e, ⟨xs, hq⟩, q⟩ | ⟨z, e, q⟩
  · subst e
    cases r1
    obtain ⟨its, rv, p, hz⟩ := I1.list hq
    refine wpAny_pyIter_list p.isList ?_
    refine ⟨s1.heap.objs.size, [s1.heap.objs.size], _, _, H1, rfl, I1.kept (t' := s1.toks) fun b o e => Heap.get?_push_of_some _ e, turn_list a _, ⟨_, Heap.get?_push_size _ rfl, rfl, rfl⟩, fun b hb => ?_, q⟩
    have e : b = s1.heap.objs.size := by simpa using hb
    subst e
    exact I1.fpOk (Nat.le_refl _) (I1.hok.fresh (Nat.le_refl _))
  · subst e
    cases r1
    obtain ⟨its, rv, p, hz⟩ := I1.tuple hq
    refine wpAny_pyIter_tuple (show s1.heap.IsTuple a its.toArray from p) ?_
    refine ⟨s1.heap.objs.size, [s1.heap.objs.size], _, _, H1, rfl, I1.kept (t' := s1.toks) fun b o e => Heap.get?_push_of_some _ e, turn_tuple a _, ⟨_, Heap.get?_push_size _ rfl, rfl, rfl⟩, fun b hb => ?_, q⟩
    have e : b = s1.heap.objs.size := by simpa using hb
    subst e
    exact I1.fpOk (Nat.le_refl _) (I1.hok.fresh (Nat.le_refl _))
  · subst e
    obtain ⟨t, rfl⟩ := r1
    cases ha : z.cps.all (· < 128)
    · exact wpAny_pyIter_wide ha (pi_one (tk := s1.toks) I1 _ (turn_str _ z t "str_iterator" (.inr rfl)) ⟨_, Heap.get?_push_size _ rfl, rfl, rfl⟩ q)
    · exact wpAny_pyIter_ascii ha (pi_one (tk := s1.toks) I1 _ (turn_str _ z t "str_ascii_iterator" (.inl rfl)) ⟨_, Heap.get?_push_size _ rfl, rfl, rfl⟩ q)
theorem yd_at {K : PySem.W.Frag} {F : Hp} {vs : List V} {xs : List D} (h : Rps K F vs xs) : YD K F xs (YAt vs) := by
  intro i Hc x H2 hi e y
  obtain ⟨rfl, hy⟩ := y
  obtain ⟨d, h1, h2⟩ := h.getV hy
  exact ⟨d, h1, fun Fc e1 e2 => ⟨Fc, Al.refl e2, h2.mono e1⟩⟩
theorem di_seq {tg : Expr} (ha : DE X a (evE G ia)) : DI X tg a (evI G .seq ia ib) := by
  obtain ⟨ta, pa, qa⟩ := ha
  refine ⟨_, pi_seq pa, fun n ρ σ F H xs ρ' R rl g k => ?_⟩
  unfold evI itGo at g
  obtain ⟨⟨va, ρ1⟩, ga, g⟩ := bind_some g
  obtain ⟨x, gx, g⟩ := bind_some g
  obtain ⟨ys, gy, g⟩ := bind_some g
  obtain ⟨rfl, rfl⟩ := pure_some g
  refine qa n ρ σ F H va _ _ rl ga fun F1 H1 w1 s1 v1 => ?_
  have r := v1.pure gx
  cases x with
  | lst ds =>
    cases gy
    cases r with
    | lst h1 hz hr =>
      refine Or.inl ⟨_, rfl, ⟨_, Or.inl (Or.inl (s1.rel.sub _ _ h1))⟩, ?_⟩
      refine k F1 H1 _ _ _ s1 hz (by rw [← hr.length]; exact walk_list) (fun H2 e => Or.inl (Or.inl (e _ _ h1))) (yd_at hr)
  | tup ds =>
    cases gy
    cases r with
    | tup h1 hz hr =>
      refine Or.inr (Or.inl ⟨_, rfl, ⟨_, ex_t s1.rel.sub h1⟩, ?_⟩)
      refine k F1 H1 _ _ _ s1 hz (by rw [← hr.length]; exact walk_tup) (fun H2 e => ex_t e h1) (yd_at hr)
  | str z =>
    simp only [D.items] at gy
    split at gy
    · rename_i hz
      cases gy
      cases r
      refine Or.inr (Or.inr ⟨z, rfl, ?_⟩)
      have hl : (z.cps.toList.map fun c => D.str ⟨#[c]⟩).length = z.cps.size := by simp
      refine k F1 H1 _ _ _ s1 (by rw [hl]; exact hz) (by rw [hl]; exact walk_str) (fun H2 e => trivial) ?_
      intro i Hc x H2 hi e y
      obtain ⟨rfl, c, hc, rfl⟩ := y
      refine ⟨.str ⟨#[c]⟩, ?_, fun Fc e1 e2 => ⟨Fc, Al.refl e2, .str _⟩⟩
      rw [List.getElem?_map]
      simp [hc]
    · cases gy
  | non => cases gy
  | bl => cases gy
  | int => cases gy
theorem di_range1 {tg : Expr} (hg : Gl X "range") (hm : X.mg "range" = none) (hs : starEach [a] X.env = [(false, eval a X.env)]) (ha : DE X a (evE G ia)) : DI X tg (.Call (.Name "range" p) [a] [] pos) (evI G .rng ia ib) := by
  obtain ⟨ta, pa, qa⟩ := ha
  refine ⟨_, pi_range1 hg hm (pa_cons pa pa_nil hs) hs, fun n ρ σ F H xs ρ' R rl g k => ?_⟩
  unfold evI itGo at g
  obtain ⟨⟨va, ρ1⟩, ga, g⟩ := bind_some g
  obtain ⟨x, gx, g⟩ := bind_some g
  obtain ⟨m, gm, gi⟩ := bind_some g
  clear g
  split at gi
  · rename_i hb
    obtain ⟨rfl, rfl⟩ := pure_some gi
    refine qa n ρ σ F H va _ _ rl ga fun F1 H1 w1 s1 v1 => ?_
    cases x <;> cases gm
    cases (v1.look s1.rel gx).int
    have hs62 : (sizeLine : Int) < 2 ^ 62 := by decide
    refine ⟨m, rfl, hb.2, by omega, ?_⟩
    have hl : (range1 m.toNat).length = m.toNat := by simp [range1]
    refine k F1 H1 _ _ _ s1 (by rw [hl]; omega) (by rw [hl]; exact walk_range) (fun H2 e => trivial) ?_
    intro i Hc x H2 hi e y
    obtain ⟨rfl, rfl⟩ := y
    rw [hl] at hi
    refine ⟨.int (0 + (i : Int)), ?_, fun Fc e1 e2 => ⟨Fc, Al.refl e2, .int _⟩⟩
    simp [range1, hi]
  · cases gi
end
end Ov

set_option maxHeartbeats 4000000
namespace PySem
open Sem (wp)
open AutoSeq1 (wpAny_loadPart')
theorem ov_enumerate_newB {v : Value} {o : Obj} {H : Heap → Prop} (B : Begins v o H) :
    Meets (Builtin.«enumerate.__new__» ⟨[.type "enumerate", v], []⟩) (fun _ R s => H s.heap ∧
      R (.ok (.ret (.ref (s.heap.push o).objs.size))) { s with heap := (s.heap.push o).push { cls := .type "enumerate", data := .fields #[.none, .bool false, .ref s.heap.objs.size, rawInt 0, .none, .none] } }) :=
  .of_wp fun prog w A R s h => by
    obtain ⟨hp, g, d, tk, os⟩ := s; obtain ⟨h1, h⟩ := h
    have hsub := sub_enumerate
    have q1 : ∀ {A' : Around} {E : Value → Shared → Prop} {Q : Value → Shared → Prop}, Q (.ref hp.objs.size) ⟨hp.push o, g, d, tk, os⟩ → wpAny (model prog w) A' (pyIter v) Q E ⟨hp, g, d, tk, os⟩ :=
      fun q => B.iter prog w _ _ ⟨hp, g, d, tk, os⟩ _ h1 q
    wp_walk using q1
    refine wpAny_stack_any fun st => wpAny_pure ?_
    split
    · rename_i c _ _ _ _ _
      cases (c == Value.type "enumerate")
      · wp_walk using q1
        exact ⟨_, rfl, h⟩
      · wp_walk using q1
        exact ⟨_, rfl, h⟩
    · wp_walk using q1
      exact ⟨_, rfl, h⟩
end PySem
namespace Ov
open PySem PySem.Spec PyProof.Rows L2 Evl
theorem call_enumerate_tuple {prog : Program} {w : World} {A : Around} {E : Value → Shared → Prop} {s : Shared} {l : Addr} {items : Array Value} {Q : Value → Shared → Prop} (hL : s.heap.IsTuple l items)
    (h : ∀ h', IsEnum h' (s.heap.objs.size + 1) s.heap.objs.size 0 .none → h'.IsTupleIter s.heap.objs.size l 0 → h'.objs.size = s.heap.objs.size + 2 →
      (∀ b o, s.heap.get? b = some o → h'.get? b = some o) → Q (.ref (s.heap.objs.size + 1)) { s with heap := h' }) :
    wpAny (model prog w) A (call (.type "enumerate") [.ref l]) Q E s := by
  refine callType_new F.called_enumerate (by decide) (F.typeCall_enumerate_1 _) (F.newCall_enumerate_1 _) (fun obj => F.args_object_init_2 obj _) F.entry_enumerate_new
    (ov_enumerate_newB (begins_tuple l items)) ⟨hL, ?_⟩
  have hz : (s.heap.push { cls := .type "tuple_iterator", data := .fields #[.ref l, .int 0 0] }).objs.size = s.heap.objs.size + 1 := Heap.size_push ..
  show _ ∧ _
  rw [hz]
  have he : IsEnum ((s.heap.push { cls := .type "tuple_iterator", data := .fields #[.ref l, .int 0 0] }).push
      { cls := .type "enumerate", data := .fields #[.none, .bool false, .ref s.heap.objs.size, rawInt 0, .none, .none] }) (s.heap.objs.size + 1) s.heap.objs.size 0 .none := by
    have := Heap.get?_push_size (s.heap.push { cls := .type "tuple_iterator", data := .fields #[.ref l, .int 0 0] })
      (o := { cls := .type "enumerate", data := .fields #[.none, .bool false, .ref s.heap.objs.size, rawInt 0, .none, .none] }) rfl
    rw [hz] at this; exact this
  refine ⟨⟨_, he, rfl⟩, h _ he ⟨_, Heap.get?_push_of_some _ (Heap.get?_push_size _ rfl), rfl, rfl⟩ (by rw [Heap.size_push, hz]) fun b o x => Heap.get?_push_of_some _ (Heap.get?_push_of_some _ x)⟩
/-- the tuple at a, each item in a new pair -/
def IteT (K : PySem.W.Frag) (a : Addr) : It :=
  ⟨fun i H => ∃ (xs : List V) (x : V), SqT K H a xs ∧ xs[i]? = some x, fun i H v H' => ∃ T x, v = .ref T ∧ H T = none ∧ H' = upd H T (.tup [.int (i : Nat), x]) ∧ ∀ xs, SqT K H a xs → xs[i]? = some x, fun i H => ∃ xs : List V, SqT K H a xs ∧ xs.length = i⟩
theorem turn_enumT {P : Program} {w : World} {K : PySem.W.Frag} {elts : List Expr} {kk : Nat} {tpos : Pos} (a e it : Addr) (hai : a ≠ it) (hae : e ≠ a) :
    Turn P w K (.Tuple elts kk tpos) (IteT K a) [e, it] e (fun i h => (∃ old, IsEnum h e it ((i : Nat) : Int) old) ∧ h.IsTupleIter it a i ∧ e ≠ it) where
  mem := by simp
  obj := fun i h st b hb => by
    obtain ⟨⟨old, he⟩, ⟨o, ho, hc, hd⟩, _⟩ := st
    have e' : b = e ∨ b = it := by simpa using hb
    rcases e' with z | z
    · rw [z]; exact ⟨_, he, fun v q => nomatch q⟩
    · rw [z]; exact ⟨o, ho, fun v q => by rw [hd] at q; cases q⟩
  keep := fun i h h' st k => let ⟨⟨old, he⟩, hi, hne⟩ := st; ⟨⟨old, k e (by simp) _ he⟩, hi.at fun o q => k it (by simp) o q, hne⟩
  item := by
    intro X hP hw hK hc i pins s σ H E I hf st hg
    subst hP hw hK
    obtain ⟨⟨old, he⟩, hit, hne⟩ := st
    obtain ⟨xs, x, hq, hx⟩ := hg
    obtain ⟨its, rv, p, hz⟩ := I.tuple hq
    obtain ⟨u, hu, ru⟩ := rv.get hx
    have hel : e < s.heap.objs.size := Heap.lt_size he
    have hil : it < s.heap.objs.size := by obtain ⟨_, q, _⟩ := hit; exact Heap.lt_size q
    have hlt : i < its.toArray.size := by
      have := (List.getElem?_eq_some_iff.mp hu).1
      simpa using this
    refine wpAny_pyNext_enum_itemD (Draws.tuple (show X.A.in1.handled = none from I.ok.hd hc) it a hai its.toArray) he ⟨hit, p⟩ hlt hne (by simp [hne, hae]) fun y h' tk hy ho hst' hT hsz hk => ?_
    obtain rfl : y = u := by
      have h1 : its[i]? = some y := by simpa using hy
      rw [hu] at h1; cases h1; rfl
    obtain ⟨hit', _⟩ := hst'
    refine ⟨_, rfl, wpAny_letOwnedTupleGo_enum (s := { s with heap := h', toks := tk + 1 }) ho fun h'' he' sb => ?_⟩
    have hT2 : h''.get? s.heap.objs.size = some { cls := .type "tuple", data := .seq #[.int i tk, y] } := (sb.2 _ (Nat.ne_of_gt hel)).trans hT
    have new : ObjOk X.prog X.w (upd H s.heap.objs.size (.tup [.int (i : Nat), x])) h'' s.heap.objs.size (.tup [.int (i : Nat), x]) :=
      ⟨by show 2 ≤ sizeLine; decide, [.int i tk, y], .cons ⟨_, rfl⟩ (.cons ru .nil), ⟨_, hT2, rfl, _, rfl⟩⟩
    have I1 : Inv X pins σ (upd H s.heap.objs.size (.tup [.int (i : Nat), x])) { s with heap := h'', toks := tk + 1 } :=
      I.turnedNew (ch := [e, it]) (fun b ob hb q => (sb.2 b (fun z => hb (by simp [z]))).trans (hk b ob (fun z => hb (by simp [z])) (fun z => hb (by simp [z])) q)) hf (Nat.le_refl _) new
    refine ⟨.ref s.heap.objs.size, _, I1, rfl, ⟨_, x, rfl, I.hok.fresh (Nat.le_refl _), rfl, fun ys hy => by rw [I.tuple_inj hy hq]; exact hx⟩, ⟨⟨y, ?_⟩, hit'.at fun o q => (sb.2 it (Ne.symm hne)).trans q, hne⟩, fun b hb => ?_⟩
    · have e1 : ((i + 1 : Nat) : Int) = (i : Int) + 1 := by omega
      rw [e1]; exact he'
    · have hb' : b < s.heap.objs.size := by
        have e' : b = e ∨ b = it := by simpa using hb
        rcases e' with z | z
        · rw [z]; exact hel
        · rw [z]; exact hil
      rw [upd_ne (Nat.ne_of_lt hb')]
      exact (hf b hb).1
  done := by
    intro X hP hw hK hc i pins s σ H E I hf st hg
    subst hP hw hK
    obtain ⟨⟨old, he⟩, hit, hne⟩ := st
    obtain ⟨xs, hq, hx⟩ := hg
    obtain ⟨its, rv, p, hz⟩ := I.tuple hq
    obtain ⟨f0, f1, f2, f3, f4, f5⟩ := hf it (by simp)
    have hl := rv.length
    have hi : i = its.toArray.size := by simp; omega
    subst hi
    exact wpAny_pyNext_enum_endD (Draws.tuple (show X.A.in1.handled = none from I.ok.hd hc) it a hai its.toArray) he ⟨hit, p⟩ fun h' eb => ⟨rfl, I.turned (t' := s.toks) (fun b o hb q => eb b o hb q) f0 f1 f3 f4 f5⟩
  self := fun A i s Q E st h => let ⟨⟨_, he⟩, _⟩ := st; wpAny_pyIter_enum he h
end Ov

set_option maxHeartbeats 4000000
namespace Ov
open PySem PySem.Spec PyProof.Rows L2 Evl
def iEnumA (K : PySem.W.Frag) (ta : TA) : TI := fun σ H R => ta σ H fun vs H1 => ∃ a xs, vs = [.ref a] ∧ ((SqL K H1 a xs ∧ R (Ite K a) H1) ∨ (SqT K H1 a xs ∧ R (IteT K a) H1))
theorem pi_enumA {X : Cx} {e : Expr} {ta : TA} {p pos tpos : Pos} {elts : List Expr} {kk : Nat} (hg : Gl X "enumerate") (hm : X.mg "enumerate" = none) (ha : PA X [e] ta) (hs : starEach [e] X.env = [(false, eval e X.env)]) :
    PI X (.Tuple elts kk tpos) (.Call (.Name "enumerate" p) [e] [] pos) (iEnumA X.K ta) := by
  refine ⟨fun pins s σ H R I h => ?_⟩
  refine Call_ (ld_blt I hg hm boot_enumerate (PyProof.Rows.callWith_type1 (thn (ha.run pos pins s σ H _ I h) fun us s1 ⟨vs, H1, I1, r1, q1⟩ => ?_) hs rfl))
  obtain ⟨a, xs, ex, q⟩ := q1
  subst ex
  cases r1 with
  | cons r rr =>
    cases rr
    cases r
    have fr : ∀ b, b ∈ [s1.heap.objs.size + 1, s1.heap.objs.size] → FpOk X pins H1 b := fun b hb => by
      have e' : b = s1.heap.objs.size + 1 ∨ b = s1.heap.objs.size := by simpa using hb
      have hle : s1.heap.objs.size ≤ b := by
        rcases e' with z | z
        · rw [z]; exact Nat.le_add_right _ _
        · rw [z]; exact Nat.le_refl _
      exact I1.fpOk hle (I1.hok.fresh hle)
    rcases q with ⟨hq, q⟩ | ⟨hq, q⟩
    · obtain ⟨its, rv, p', hz⟩ := I1.list hq
      refine call_enumerate_list p'.isList fun h' he hit hsz hk => wpAny_pyIter_enum he ?_
      have I2 : Inv X pins σ H1 { s1 with heap := h' } := I1.kept (t' := s1.toks) hk
      exact ⟨s1.heap.objs.size + 1, [s1.heap.objs.size + 1, s1.heap.objs.size], _, _, H1, rfl, I2, turn_enum a (s1.heap.objs.size + 1) s1.heap.objs.size, ⟨⟨.none, he⟩, hit, Nat.succ_ne_self _⟩, fr, q⟩
    · obtain ⟨its, rv, p', hz⟩ := I1.tuple hq
      have hlt : a < s1.heap.objs.size := by obtain ⟨o1, ho1, _⟩ := id p'; exact Heap.lt_size ho1
      refine call_enumerate_tuple (show s1.heap.IsTuple a its.toArray from p') fun h' he hit hsz hk => wpAny_pyIter_enum he ?_
      have I2 : Inv X pins σ H1 { s1 with heap := h' } := I1.kept (t' := s1.toks) hk
      exact ⟨s1.heap.objs.size + 1, [s1.heap.objs.size + 1, s1.heap.objs.size], _, _, H1, rfl, I2, turn_enumT a (s1.heap.objs.size + 1) s1.heap.objs.size (Nat.ne_of_lt hlt) (Nat.ne_of_gt (Nat.lt_succ_of_lt hlt)), ⟨⟨.none, he⟩, hit, Nat.succ_ne_self _⟩, fr, q⟩
theorem walk_enumT {K : PySem.W.Frag} {a : Addr} {xs : List V} : Walk (IteT K a) xs.length (fun H => SqT K H a xs) (YPair (fun i => some (.int (i : Nat))) (fun i => xs[i]?)) := by
  refine ⟨fun i _ hi q => ⟨xs, xs[i], q, by simp [hi]⟩, fun _ q => ⟨xs, q, rfl⟩, fun i H v H' _ q y => ?_⟩
  obtain ⟨T, x, h1, h2, h3, h4⟩ := y
  exact ⟨T, .int (i : Nat), x, h1, h2, h3, rfl, h4 xs q⟩
theorem walk_zipT {K : PySem.W.Frag} {a b : Addr} {xs ys : List V} {n : Nat} (hn : n = min xs.length ys.length) : Walk (RZ.ItzT K a b) n (fun H => SqT K H a xs ∧ SqT K H b ys) (YPair (fun i => xs[i]?) (fun i => ys[i]?)) := by
  subst hn
  refine ⟨fun i _ hi q => ?_, fun _ q => ⟨xs, ys, q.1, q.2, by omega⟩, fun i H v H' _ q y => ?_⟩
  · have h1 : i < xs.length := by omega
    have h2 : i < ys.length := by omega
    exact ⟨xs, ys, xs[i], ys[i], q.1, q.2, by simp [h1], by simp [h2]⟩
  · obtain ⟨T, x, z, h1, h2, h3, h4, h5⟩ := y
    exact ⟨T, x, z, h1, h2, h3, h4 xs q.1, h5 ys q.2⟩
/-- pairs of data -/
theorem yd_pair {K : PySem.W.Frag} {F : Hp} {fa fb : Nat → Option V} {xs : List D} (h : ∀ (i : Nat) x y, i < xs.length → fa i = some x → fb i = some y → ∃ a b, xs[i]? = some (.tup [a, b]) ∧ Rp K F x a ∧ Rp K F y b) : YD K F xs (YPair fa fb) := by
  intro i Hc x H2 hi e y
  obtain ⟨T, u, v, rfl, hT, rfl, hu, hv⟩ := y
  obtain ⟨a, b, h1, h2, h3⟩ := h i u v hi hu hv
  exact ⟨_, h1, fun Fc e1 e2 => ⟨_, Al.one e2 hT, rp_new_tup (Ov.Ex.none e2 hT) (by show 2 ≤ sizeLine; decide) (.cons (h2.mono e1) (.cons (h3.mono e1) .nil))⟩⟩
section
variable {X : Cx} {G : Cfg} {a b : Expr} {ia ib : IR} {p pos tpos : Pos} {elts : List Expr} {kk : Nat}
theorem di_enum (hg : Gl X "enumerate") (hm : X.mg "enumerate" = none) (hs : starEach [a] X.env = [(false, eval a X.env)]) (ha : DE X a (evE G ia)) : DI X (.Tuple elts kk tpos) (.Call (.Name "enumerate" p) [a] [] pos) (evI G .enm ia ib) := by
  obtain ⟨ta, pa, qa⟩ := ha
  refine ⟨_, pi_enumA hg hm (pa_cons pa pa_nil hs) hs, fun n ρ σ F H xs ρ' R rl g k => ?_⟩
  unfold evI itGo at g
  obtain ⟨⟨va, ρ1⟩, ga, g⟩ := bind_some g
  obtain ⟨x, gx, g⟩ := bind_some g
  obtain ⟨ys, gy, g⟩ := bind_some g
  obtain ⟨rfl, rfl⟩ := pure_some g
  refine qa n ρ σ F H va _ _ rl ga fun F1 H1 w1 s1 v1 => ?_
  have r := v1.pure gx
  have hl : (enumD ys).length = ys.length := by simp [enumD]
  have yd : ∀ {vs : List V}, Rps X.K F1 vs ys → YD X.K F1 (enumD ys) (YPair (fun i => some (.int (i : Nat))) (fun i => vs[i]?)) := fun {vs} hr => by
    refine yd_pair fun i u v hi hu hv => ?_
    cases hu
    obtain ⟨d, h1, h2⟩ := hr.getV hv
    refine ⟨.int (i : Nat), d, ?_, .int _, h2⟩
    simp [enumD, h1]
  cases x with
  | lst ds =>
    cases gy
    cases r with
    | lst h1 hz hr =>
      refine ⟨_, _, rfl, Or.inl ⟨Or.inl (Or.inl (s1.rel.sub _ _ h1)), ?_⟩⟩
      exact k F1 H1 _ _ _ s1 (by rw [hl]; exact hz) (by rw [hl, ← hr.length]; exact walk_enum) (fun H2 e => Or.inl (Or.inl (e _ _ h1))) (yd hr)
  | tup ds =>
    cases gy
    cases r with
    | tup h1 hz hr =>
      refine ⟨_, _, rfl, Or.inr ⟨ex_t s1.rel.sub h1, ?_⟩⟩
      exact k F1 H1 _ _ _ s1 (by rw [hl]; exact hz) (by rw [hl, ← hr.length]; exact walk_enumT) (fun H2 e => ex_t e h1) (yd hr)
  | str z => cases gy
  | non => cases gy
  | bl => cases gy
  | int => cases gy
theorem di_zip (hg : Gl X "zip") (hm : X.mg "zip" = none) (hs : starEach [a, b] X.env = (false, eval a X.env) :: starEach [b] X.env) (hs2 : starEach [b] X.env = [(false, eval b X.env)])
    (ha : DE X a (evE G ia)) (hb : DE X b (evE G ib)) : DI X (.Tuple elts kk tpos) (.Call (.Name "zip" p) [a, b] [] pos) (evI G .zip ia ib) := by
  obtain ⟨ta, pa, qa⟩ := ha
  obtain ⟨tb, pb, qb⟩ := hb
  refine ⟨_, RZ.pi_zipA hg hm (pa_cons pa (pa_cons pb pa_nil hs2) hs) hs (by rw [hs2]; rfl), fun n ρ σ F H xs ρ' R rl g k => ?_⟩
  unfold evI itGo at g
  obtain ⟨⟨va, ρ1⟩, ga, g⟩ := bind_some g
  obtain ⟨⟨vb, ρ2⟩, gb, g⟩ := bind_some g
  obtain ⟨x, gx, g⟩ := bind_some g
  obtain ⟨y, gy, g⟩ := bind_some g
  refine qa n ρ σ F H va _ _ rl ga fun F1 H1 w1 s1 v1 => ?_
  refine qb n ρ1 σ F1 H1 vb _ _ s1.rel gb fun F2 H2 w2 s2 v2 => ?_
  have r1 := (v1.mono s2.ex).pure gx
  have r2 := v2.pure gy
  have s := s1.trans s2
  have yd : ∀ {us vs : List V} {ds es : List D}, Rps X.K F2 us ds → Rps X.K F2 vs es → YD X.K F2 (zipD ds es) (YPair (fun i => us[i]?) (fun i => vs[i]?)) := fun {us vs ds es} hr hr' => by
    refine yd_pair fun i u v hi hu hv => ?_
    obtain ⟨d, h1, h2⟩ := hr.getV hu
    obtain ⟨d', h1', h2'⟩ := hr'.getV hv
    refine ⟨d, d', ?_, h2, h2'⟩
    have hz := (List.getElem?_zip_eq_some (l₁ := ds) (l₂ := es) (z := (d, d')) (i := i)).mpr ⟨h1, h1'⟩
    simp only [zipD, List.getElem?_map, hz]; rfl
  have hl : ∀ ds es : List D, (zipD ds es).length = min ds.length es.length := fun ds es => by simp [zipD]
  cases x with
  | lst ds =>
    cases y with
    | lst es =>
      obtain ⟨rfl, rfl⟩ := pure_some g
      cases r1 with
      | lst h1 hz hr =>
        cases r2 with
        | lst h1' hz' hr' =>
          refine ⟨_, _, _, _, rfl, Or.inl ⟨Or.inl (Or.inl (s2.rel.sub _ _ h1)), Or.inl (Or.inl (s2.rel.sub _ _ h1')), ?_⟩⟩
          exact k F2 H2 _ _ _ s (by rw [hl]; omega) (walk_zip (by rw [hl, hr.length, hr'.length])) (fun H2 e => ⟨Or.inl (Or.inl (e _ _ h1)), Or.inl (Or.inl (e _ _ h1'))⟩) (yd hr hr')
    | _ => cases g
  | tup ds =>
    cases y with
    | tup es =>
      obtain ⟨rfl, rfl⟩ := pure_some g
      cases r1 with
      | tup h1 hz hr =>
        cases r2 with
        | tup h1' hz' hr' =>
          refine ⟨_, _, _, _, rfl, Or.inr ⟨ex_t s2.rel.sub h1, ex_t s2.rel.sub h1', ?_⟩⟩
          exact k F2 H2 _ _ _ s (by rw [hl]; omega) (walk_zipT (by rw [hl, hr.length, hr'.length])) (fun H2 e => ⟨ex_t e h1, ex_t e h1'⟩) (yd hr hr')
    | _ => cases g
  | str z => cases g
  | non => cases g
  | bl => cases g
  | int => cases g
end
end Ov

set_option maxHeartbeats 4000000
namespace Ov
open PySem PySem.Spec PyProof.Rows L2 Evl
section
variable {K : PySem.W.Frag} {F H : Hp}
/-- pairs with int keys, as they stand -/
theorem pairs_at : ∀ {ds : List D} {vs : List V} {ps : List (Int × D)}, Rps K F vs ds → pairsI ds = some ps →
    ∃ (as : List Addr) (kvs : List (Key × V)), vs = as.map V.ref ∧ Paired (fun p kv => SqT K F p [kV kv.1, kv.2]) as kvs ∧ Paired (fun kv q => kv.1 = Sum.inl q.1 ∧ Rp K F kv.2 q.2) kvs ps
  | [], _, ps, h, e => by
    cases h
    simp only [pairsI] at e
    cases e
    exact ⟨[], [], rfl, .nil, .nil⟩
  | d :: ds, _, ps, h, e => by
    cases h with
    | cons h1 h2 =>
      simp only [pairsI] at e
      obtain ⟨q, e1, e⟩ := bind_some e
      obtain ⟨qs, e2, e⟩ := bind_some e
      cases e
      obtain ⟨as, kvs, rfl, g1, g2⟩ := pairs_at h2 e2
      unfold pairI at e1
      split at e1
      · rename_i k v
        cases e1
        cases h1 with
        | tup hs hz ha =>
          cases ha with
          | cons r1 ra =>
            cases ra with
            | cons r2 rb =>
              cases rb
              cases r1
              exact ⟨_ :: as, (Sum.inl k, _) :: kvs, rfl, .cons hs g1, .cons ⟨rfl, r2⟩ g2⟩
      · cases e1
theorem val_merge : ∀ {ps : List (Int × D)} {kvs : List (Key × V)} {acc : List (Key × V)} {n : Int}, Paired (fun kv q => kv.1 = Sum.inl q.1 ∧ Rp K F kv.2 q.2) kvs ps →
    (match lastKey n ps with
      | some z => ∃ v, valV (mergeK acc kvs) (Sum.inl n) = some v ∧ Rp K F v z
      | none => valV (mergeK acc kvs) (Sum.inl n) = valV acc (Sum.inl n))
  | [], _, acc, n, h => by cases h; rfl
  | q :: ps, _, acc, n, h => by
    cases h with
    | cons h1 h2 =>
      rename_i kv kvs
      have ih := val_merge (acc := putK acc kv.1 kv.2) (n := n) h2
      have e : mergeK acc (kv :: kvs) = mergeK (putK acc kv.1 kv.2) kvs := rfl
      rw [e]
      obtain ⟨j, v⟩ := q
      simp only [lastKey]
      cases hl : lastKey n ps with
      | some u => rw [hl] at ih; exact ih
      | none =>
        rw [hl] at ih
        dsimp only at ih ⊢
        rw [valV_put] at ih
        obtain ⟨e1, e2⟩ := h1
        by_cases hj : j = n
        · subst hj
          rw [if_pos rfl]
          rw [e1, if_pos rfl] at ih
          rw [e1]
          exact ⟨_, ih, e2⟩
        · rw [if_neg hj]
          rw [e1, if_neg (fun z => hj (by cases z; rfl))] at ih
          rw [e1]; exact ih
end
section
variable {X : Cx} {G : Cfg} {a b : Expr} {ia ib : IR} {p pos pos' : Pos}
theorem boot_dict : bootBuiltins "dict" = some (.type "dict") := by decide +kernel
theorem de_dget (hc : X.calm = true) (hu : X.A.units + 65 < cLine) (hg : Gl X "dict") (hm : X.mg "dict" = none) (hs : starEach [a] X.env = [(false, eval a X.env)]) (hk : PlainIx b) (ha : DE X a (evE G ia)) (hb : DE X b (evE G ib)) :
    DE X (.Subscript (.Call (.Name "dict" p) [a] [] pos') b pos) (evE G (.dget ia ib)) := by
  obtain ⟨ta, pa, qa⟩ := ha
  obtain ⟨tb, pb, qb⟩ := hb
  refine ⟨_, pe_dget (by omega) (pe_callTy (call_dictP hc) hg hm boot_dict (pa_cons pa pa_nil hs) (by decide) (by decide) hs rfl) pb hk, fun n ρ σ F H v ρ' Q rl g k => ?_⟩
  unfold evE at g
  obtain ⟨⟨va, ρ1⟩, ga, g⟩ := bind_some g
  obtain ⟨x, gx, g⟩ := bind_some g
  obtain ⟨xs, gl, g⟩ := bind_some g
  obtain ⟨ps, gp, g⟩ := bind_some g
  obtain ⟨⟨vb, ρ2⟩, gb, g⟩ := bind_some g
  obtain ⟨y, gy, g⟩ := bind_some g
  obtain ⟨m, gm, g⟩ := bind_some g
  obtain ⟨z, gz, g⟩ := bind_some g
  obtain ⟨rfl, rfl⟩ := pure_some g
  refine qa n ρ σ F H va ρ1 _ rl ga fun F1 H1 w1 s1 v1 => ?_
  cases x <;> cases gl
  obtain ⟨q, vs, rfl, h1, hz, hr⟩ := v1.look s1.rel gx
  obtain ⟨as, kvs, rfl, g1, g2⟩ := pairs_at hr gp
  refine ⟨q, as, kvs, rfl, Or.inl (Or.inl h1), Paired.mapP g1 fun _ _ w => ex_t s1.rel.sub w, fun pd np => ?_⟩
  have al : Al F1 H1 F1 (upd H1 pd (.dK (mergeK [] kvs))) := Al.own s1.rel.sub np
  have s2 := Step.al s1.rel al
  refine qb n ρ1 σ F1 _ vb _ _ s2.rel gb fun F3 H3 w3 s3 v3 => ?_
  have l3 := v3.look s3.rel gy
  cases y <;> cases gm
  cases l3.int
  have hd : H3 pd = some (.dK (mergeK [] kvs)) := (s3.fr pd _ upd_same (by
    intro i hi e
    exact own_ne s1.rel np i hi e)).1
  have vm := val_merge (acc := []) (n := m) g2
  rw [gz] at vm
  obtain ⟨u, hu1, hu2⟩ := vm
  refine ⟨pd, u, rfl, ?_, ?_⟩
  · have := DGet.k (k := Sum.inl m) hd
    rw [hu1] at this
    exact this
  · exact k F3 H3 u (s1.trans (s2.trans s3)) (hu2.mono s3.ex)
end
end Ov

set_option maxHeartbeats 4000000
namespace Ov
open PySem PySem.Spec PyProof.Rows L2 Evl
/-! ### list(range(i, j)) -/
theorem vals_of_get : ∀ {xs : List V} {us : List Value}, xs.length = us.length → (∀ (i : Nat) x u, xs[i]? = some x → us[i]? = some u → RelV x u) → Vals xs us
  | [], [], _, _ => .nil
  | [], _ :: _, h, _ => by cases h
  | _ :: _, [], h, _ => by cases h
  | x :: xs, u :: us, h, g => .cons (g 0 x u rfl rfl) (vals_of_get (by simpa using h) fun i y v h1 h2 => g (i + 1) y v (by simpa using h1) (by simpa using h2))
def rngV (i j : Int) : List V := (List.range (j - i).toNat).map fun (k : Nat) => V.int (i + (k : Int))
section
variable {X : Cx}
theorem call_list_rng (hc : X.calm = true) : CallR X (.type "list") (fun xs H Q => ∃ (p : Addr) (i j : Int), xs = [.ref p] ∧ H p = some (.rng i j) ∧ Builtin.Range.small i j 1 = true ∧ (j - i).toNat ≤ 2 ^ 24 ∧ ∀ l, H l = none → Q (.ref l) (upd H l (.lst (rngV i j)))) := by
  intro pins s σ H xs us Q I r h
  obtain ⟨p, i, j, rfl, hp, hs, hl, q⟩ := h
  obtain ⟨u, rfl, rx⟩ := vals1 r
  cases rx
  obtain ⟨t, u, v, ho⟩ := I.hok p _ hp
  have hn : Builtin.Range.rangeSize i j 1 = (((j - i).toNat : Nat) : Int) := by
    unfold Builtin.Range.rangeSize
    rw [if_pos (by decide)]
    split <;> omega
  have hsz : 2 ^ 24 ≤ sizeLine := by decide
  refine call_list_range (I.ok.hd hc) ho hs hn hl fun h' tk acc' c' k e items => ?_
  have hv : Vals (rngV i j) acc'.toList := by
    refine vals_of_get (by simp [rngV, items.1]) fun m x w h1 h2 => ?_
    obtain ⟨t', rfl⟩ := items.2 m w (by simpa using h2)
    unfold rngV at h1
    rw [List.getElem?_map] at h1
    have hm : m < (j - i).toNat := by
      have := (List.getElem?_eq_some_iff.mp h2).1
      rw [Array.length_toList, items.1] at this
      exact this
    rw [List.getElem?_range hm] at h1
    cases h1
    exact ⟨t', by rw [Int.mul_one]⟩
  exact ⟨.ref s.heap.objs.size, upd H s.heap.objs.size (.lst (rngV i j)), I.laid (t' := tk) k (Nat.le_refl _) (show ObjOk X.prog X.w _ h' _ (.lst (rngV i j)) from ⟨by simp [rngV]; omega, acc'.toList, c', hv, by rw [Array.toArray_toList]; exact e⟩), rfl, q _ (I.hok.fresh (Nat.le_refl _))⟩
theorem boot_list' : bootBuiltins "list" = some (.type "list") := by decide +kernel
theorem boot_range' : bootBuiltins "range" = some (.type "range") := by decide +kernel
theorem rps_rng {K : PySem.W.Frag} {F : Hp} (i j : Int) : Rps K F (rngV i j) (rangeD i j) := by
  unfold rngV rangeD
  generalize List.range (j - i).toNat = L
  induction L with
  | nil => exact .nil
  | cons a L ih => exact .cons (.int _) ih
variable {G : Cfg} {a b : Expr} {ia ib : IR} {p p' pos pos' : Pos}
theorem dn_lrng (hc : X.calm = true) (hg : Gl X "list") (hm : X.mg "list" = none) (hg' : Gl X "range") (hm' : X.mg "range" = none) (hs : starEach [a, b] X.env = (false, eval a X.env) :: starEach [b] X.env) (hs2 : starEach [b] X.env = [(false, eval b X.env)])
    (hst : ∀ e : Expr, starEach [.Call (.Name "range" p') [a, b] [] pos'] X.env = [(false, eval (.Call (.Name "range" p') [a, b] [] pos') X.env)])
    (ha : DE X a (evE G ia)) (hb : DE X b (evE G ib)) : DN X (.Call (.Name "list" p) [.Call (.Name "range" p') [a, b] [] pos'] [] pos) (evE G (.lrng ia ib)) := by
  obtain ⟨ta, pa, qa⟩ := ha
  obtain ⟨tb, pb, qb⟩ := hb
  have pr : PE X (.Call (.Name "range" p') [a, b] [] pos') _ := pe_callTy cr_range2 hg' hm' boot_range' (pa_cons pa (pa_cons pb pa_nil hs2) hs) (by decide) (by decide) hs (by rw [hs2]; rfl)
  refine ⟨_, pe_callTy (call_list_rng hc) hg hm boot_list' (pa_cons pr pa_nil (hst a)) (by decide) (by decide) (hst a) rfl, fun n ρ σ F H v ρ' Q rl g k => ?_⟩
  unfold evE at g
  obtain ⟨⟨va, ρ1⟩, ga, g⟩ := bind_some g
  obtain ⟨⟨vb, ρ2⟩, gb, g⟩ := bind_some g
  obtain ⟨x, gx, g⟩ := bind_some g
  obtain ⟨y, gy, g⟩ := bind_some g
  obtain ⟨i, gi, g⟩ := bind_some g
  obtain ⟨j, gj, g⟩ := bind_some g
  obtain ⟨z, gz, g⟩ := bind_some g
  obtain ⟨rfl, rfl⟩ := pure_some g
  refine qa n ρ σ F H va ρ1 _ rl ga fun F1 H1 w1 s1 v1 => qb n ρ1 σ F1 H1 vb _ _ s1.rel gb fun F2 H2 w2 s2 v2 => ?_
  have l1 := (v1.mono s2.ex).look s2.rel gx
  have l2 := v2.look s2.rel gy
  cases x <;> cases gi
  cases y <;> cases gj
  cases l1.int
  cases l2.int
  unfold lrngD at gz
  split at gz
  · rename_i hb
    cases gz
    obtain ⟨b1, b2, b3, b4, b5⟩ := hb
    refine ⟨i, j, rfl, fun pr npr => ?_⟩
    refine ⟨pr, i, j, rfl, upd_same, ?_, by omega, fun l nl => ?_⟩
    · have hn : Builtin.Range.rangeSize i j 1 = (((j - i).toNat : Nat) : Int) := by
        unfold Builtin.Range.rangeSize
        rw [if_pos (by decide)]
        split <;> omega
      have f : ∀ z : Int, -(2 ^ 41) ≤ z → z ≤ 2 ^ 41 → Builtin.Range.rangeFitsLong z = true := fun z h1 h2 => by
        unfold Builtin.Range.rangeFitsLong
        simp
        omega
      unfold Builtin.Range.small
      rw [hn, f i (by omega) (by omega), f j (by omega) (by omega), f 1 (by decide) (by decide), f _ (by omega) (by omega), if_pos (by decide), f _ (by omega) (by omega)]
      simp
    · have al1 : Al F2 H2 F2 (upd H2 pr (.rng i j)) := Al.own s2.rel.sub npr
      have s3 := Step.al s2.rel al1
      have al2 : Al F2 (upd H2 pr (.rng i j)) F2 (upd (upd H2 pr (.rng i j)) l (.lst (rngV i j))) := Al.own s3.rel.sub nl
      have s4 := Step.al s3.rel al2
      have sz : (rangeD i j).length ≤ sizeLine := by
        have : 2 ^ 24 ≤ sizeLine := by decide
        simp [rangeD]; omega
      exact k _ _ _ _ ((s1.trans s2).trans (s3.trans s4)) rfl (((s1.trans s2).trans s3).nw (nw_lst s3.rel.sub nl sz (rps_rng i j)))
  · cases gz
end
end Ov

set_option maxHeartbeats 4000000
namespace Ov
open PySem PySem.Spec PyProof.Rows L2 Evl
section
variable {X : Cx} {G : Cfg} {b o e : Expr} {ib ia : IR} {p pos apos : Pos} {x : Str}
def tKGet (K : PySem.W.Frag) (d : Addr) (td ty : TE) : TE := fun σ H Q => td σ H fun x H1 => ty σ H1 fun y H2 => ∃ (z : Str) (u0 : Value) (v0 : V), x = .ref d ∧ y = .str z ∧ PySem.W.nsIn K d z = some (some u0) ∧ RelV v0 u0 ∧ Q v0 H2
theorem pe_kdget {d : Addr} {es : Array DictEntry} {m : Nat} {td ty : TE} (D : KDict X.K X.w d es m) (ho : PE X o td) (hi : PE X b ty) (hs : NoSl b) : PE X (.Subscript o b pos) (tKGet X.K d td ty) := by
  refine ⟨fun pins s σ H Q I h => ?_⟩
  refine subD_of PySem.F.slot_dict_getitem.lookup hs (thn (ho.run pins s σ H _ I h) fun u s1 ⟨x, H1, I1, rx, q1⟩ => thn (hi.run pins s1 σ H1 _ I1 q1) fun iv s2 ⟨y, H2, I2, ry, q2⟩ => ?_)
  obtain ⟨z, u0, v0, rfl, rfl, h1, h2, h3⟩ := q2
  have hu : u = Value.ref d := rx
  subst hu
  exact ⟨kd_type D I2, op_item_kd D pins s2 σ H2 _ _ _ _ Q I2 rx ry ⟨z, u0, v0, rfl, rfl, h1, h2, h3⟩⟩
theorem de_gdg {g : Nat} {kvs : List (Str × D)} {d : Addr} {es : Array DictEntry} {m : Nat} (D : KDict X.K X.w d es m) (hgl : Gl X x) (hmg : X.mg x = some (.ref d)) (hdb : (x == ("__debug__" : Str)) = false) (hdd : G.dd g = some kvs)
    (hv : ∀ z q, dicD kvs z = some q → ∃ u v, PySem.W.nsIn X.K d z = some (some u) ∧ RelV v u ∧ ∀ F, Rp X.K F v q) (hk : PlainIx b) (hb : DE X b (evE G ib)) : DE X (.Subscript (.Name x p) b pos) (evE G (.gdg g ib)) := by
  obtain ⟨tb, pb, qb⟩ := hb
  refine ⟨_, pe_kdget D (pe_glob (v := .ref d) hgl hmg rfl hdb) pb hk, fun n ρ σ F H v ρ' Q rl g' k => ?_⟩
  unfold evE at g'
  obtain ⟨⟨vb, ρ1⟩, gb, g'⟩ := bind_some g'
  obtain ⟨y, gy, g'⟩ := bind_some g'
  obtain ⟨kv, gk, gg⟩ := bind_some g'
  clear g'
  rw [hdd] at gk
  cases gk
  refine qb n ρ σ F H vb ρ1 _ rl gb fun F1 H1 w1 s1 v1 => ?_
  have l1 := v1.look s1.rel gy
  cases y with
  | str z =>
    dsimp only at gg
    obtain ⟨q, gq, gg⟩ := bind_some gg
    obtain ⟨rfl, rfl⟩ := pure_some gg
    have hw : w1 = .str z := Rp.strv l1
    subst hw
    obtain ⟨u, v0, h1, h2, h3⟩ := hv z q gq
    exact ⟨z, u, v0, rfl, rfl, h1, h2, k F1 H1 v0 s1 (h3 F1)⟩
  | _ => cases gg
/-! ### list.index -/
end
mutual
theorem D.lay : ∀ d : D, d.txt = true → d.py.canLay0 = true
  | .non, _ => rfl
  | .bl _, _ => rfl
  | .int _, _ => rfl
  | .str s, h => by simp only [D.txt] at h; simp only [D.py, PyData.canLay0, PyData.strOk]; exact h
  | .tup xs, h => by simp only [D.txt] at h; simp only [D.py, PyData.canLay0]; exact D.lays xs h
  | .lst xs, h => by simp only [D.txt] at h; simp only [D.py, PyData.canLay0]; exact D.lays xs h
theorem D.lays : ∀ ds : List D, D.txts ds = true → PyData.canLayAll0 (D.pys ds) = true
  | [], _ => rfl
  | x :: xs, h => by
    simp only [D.txts, Bool.and_eq_true] at h
    simp only [D.pys, PyData.canLayAll0, D.lay x h.1, D.lays xs h.2, Bool.and_self]
end
theorem pys_get : ∀ {xs : List D} {i : Nat}, (D.pys xs)[i]? = xs[i]?.map D.py
  | [], i => by simp [D.pys]
  | x :: xs, 0 => by simp [D.pys]
  | x :: xs, i + 1 => by simp [D.pys, pys_get]
theorem idxD_spec {x : D} : ∀ {ys : List D} {j : Nat}, idxD x ys = some j → (∃ z, ys[j]? = some z ∧ D.eqv z x = true) ∧ ∀ m z, m < j → ys[m]? = some z → D.eqv z x = false
  | [], j, h => by cases h
  | y :: ys, j, h => by
    simp only [idxD] at h
    by_cases e : D.eqv y x = true
    · rw [if_pos e] at h; cases h
      exact ⟨⟨y, rfl, e⟩, fun m z hm => absurd hm (Nat.not_lt_zero _)⟩
    · rw [if_neg e] at h
      cases h2 : idxD x ys with
      | none => rw [h2] at h; cases h
      | some k =>
        rw [h2] at h; cases h
        obtain ⟨⟨z, q1, q2⟩, q3⟩ := idxD_spec h2
        refine ⟨⟨z, by simpa using q1, q2⟩, fun m w hm hw => ?_⟩
        cases m with
        | zero => simp at hw; subst hw; simpa using e
        | succ m => exact q3 m w (by have : m + 1 < k + 1 := hm; omega) (by simpa using hw)
section
variable {X : Cx} {G : Cfg} {e : Expr} {io ia : IR} {p pos apos : Pos} {x : Str}
theorem de_index {o : Expr} (hbase : attributeBase o "index" X.env (eval o X.env) = eval o X.env) (hu : X.A.units + 65 < cLine) (ho : DE X o (evE G io)) (ha : DA X [e] (evL G ia))
    (hfew : ((backTo pos (starEach [e] X.env)).all (fun x => !x.1) && (backToKw pos (keywordEach [] X.env)).all (fun x => x.1.isSome)
      && decide ([e].length + ([] : List Keyword).length + (if ([] : List Keyword).isEmpty then 0 else 1) < 30)) = true)
    (hline : (apos.endLine == pos.line) = true) (hs : starEach [e] X.env = (false, eval e X.env) :: starEach [] X.env) :
    DE X (.Call (.Attribute o "index" apos) [e] [] pos) (evE G (.mt .index io ia)) := by
  obtain ⟨to, po, qo⟩ := ho
  obtain ⟨ta, pa, qa⟩ := ha
  refine ⟨_, pe_bm PySem.F.plainAttrs_list PySem.F.slot_list_index PySem.F.type_list_index (mt_indexD hu) po pa hbase hfew hline hs rfl, fun n ρ σ F H v ρ' Q rl g k => ?_⟩
  unfold evE at g
  obtain ⟨⟨vo, ρ1⟩, go, g⟩ := bind_some g
  obtain ⟨y, gy, g⟩ := bind_some g
  obtain ⟨⟨vs, ρ2⟩, gs, g⟩ := bind_some g
  obtain ⟨xs, gx, g⟩ := bind_some g
  obtain ⟨z, gz, g⟩ := bind_some g
  obtain ⟨rfl, rfl⟩ := pure_some g
  refine qo n ρ σ F H vo ρ1 _ rl go fun F1 H1 w1 s1 v1 => ?_
  have r1 := v1.pure gy
  cases y with
  | lst ys =>
    match xs, gz with
    | [q], gz =>
      simp only [mtD] at gz
      split at gz
      · rename_i hc
        obtain ⟨c1, c2, c3, c4⟩ := hc
        cases hi : idxD q ys with
        | none => rw [hi] at gz; cases gz
        | some j =>
          rw [hi] at gz; cases gz
          obtain ⟨⟨zz, z1, z2⟩, z3⟩ := idxD_spec hi
          cases id r1 with
          | @lst a0 us0 _ h1 hz hr =>
            refine ⟨Or.inl ⟨rfl, us0, Or.inl (Or.inl (s1.rel.sub _ _ h1))⟩, qa n ρ1 σ F1 H1 vs _ _ s1.rel gs fun F2 H2 ws s2 v2 => ?_⟩
            have lk := vr_looks s2.rel v2 gx
            cases lk with
            | @cons w0 _ _ _ l1 l2 =>
              cases l2
              have dpl := ((r1.mono s2.ex).mono s2.rel.sub).dp
              have dpq : Dp X.K H2 w0 q.py := by
                cases q with
                | lst ds =>
                  obtain ⟨p', vs', rfl, h1', hz', hr'⟩ := l1
                  exact (Rp.lst h1' hz' (hr'.mono s2.rel.sub)).dp
                | non => exact (Rp.mono s2.rel.sub l1).dp
                | bl _ => exact (Rp.mono s2.rel.sub l1).dp
                | int _ => exact (Rp.mono s2.rel.sub l1).dp
                | str _ => exact (Rp.mono s2.rel.sub l1).dp
                | tup _ => exact (Rp.mono s2.rel.sub l1).dp
              refine ⟨a0, w0, q.py, D.pys ys, j, zz.py, rfl, rfl, dpl, dpq, ?_, ?_, ?_, ?_, fun m z' hm hz' => ?_, ?_⟩
              · show (PyData.canLay0 (D.lst ys).py && decide ((D.lst ys).py.depth ≤ 64)) = true
                rw [D.lay (.lst ys) (by simp only [D.txt]; exact c3), D.depth_py, Bool.true_and]
                exact decide_eq_true (by simp only [D.depth]; exact c1)
              · show (PyData.canLay0 q.py && decide (q.py.depth ≤ 64)) = true
                rw [D.lay q c4, D.depth_py, Bool.true_and]
                exact decide_eq_true c2
              · rw [pys_get, z1]; rfl
              · rw [D.eqv_py]; exact z2
              · rw [pys_get] at hz'
                cases hm' : ys[m]? with
                | none => rw [hm'] at hz'; cases hz'
                | some w => rw [hm'] at hz'; cases hz'; rw [D.eqv_py]; exact z3 m w hm hm'
              · exact k F2 H2 _ (s1.trans s2) (.int _)
      · cases gz
    | [], gz => cases gz
    | _ :: _ :: _, gz => cases gz
  | _ => cases gz
theorem de_join {o : Expr} (hbase : attributeBase o "join" X.env (eval o X.env) = eval o X.env) (ho : DE X o (evE G io)) (he : DE X e (evE G ia)) (hline : (apos.endLine == pos.line) = true) (hs : starEach [e] X.env = [(false, eval e X.env)]) :
    DE X (.Call (.Attribute o "join" apos) [e] [] pos) (evE G (.mt .join io (.cons ia .nil))) := by
  obtain ⟨to, po, qo⟩ := ho
  obtain ⟨ta, pa, qa⟩ := he
  refine ⟨_, pe_join po pa hs hbase hline, fun n ρ σ F H v ρ' Q rl g k => ?_⟩
  unfold evE at g
  obtain ⟨⟨vo, ρ1⟩, go, g⟩ := bind_some g
  obtain ⟨y, gy, g⟩ := bind_some g
  obtain ⟨⟨vs, ρ2⟩, gs, g⟩ := bind_some g
  obtain ⟨xs, gx, g⟩ := bind_some g
  obtain ⟨z, gz, g⟩ := bind_some g
  obtain ⟨rfl, rfl⟩ := pure_some g
  unfold evL at gs
  obtain ⟨⟨va, ρ3⟩, ga, gs⟩ := bind_some gs
  unfold evL at gs
  obtain ⟨⟨vn, ρ4⟩, gn, gs⟩ := bind_some gs
  cases gn
  cases gs
  refine qo n ρ σ F H vo ρ1 _ rl go fun F1 H1 w1 s1 v1 => ?_
  have r1 := v1.pure gy
  simp only [looks] at gx
  obtain ⟨q, gq, gx⟩ := bind_some gx
  cases gx
  cases y with
  | str a =>
    have hw : w1 = .str a := Rp.strv r1
    subst hw
    refine ⟨⟨a, rfl⟩, qa n ρ1 σ F1 H1 va _ _ s1.rel ga fun F2 H2 w2 s2 v2 => ?_⟩
    have lk := v2.look s2.rel gq
    have key : ∀ {ds : List D} {us : List V}, Rps X.K F2 us ds → joinD a ds = some z → ∃ ys, us = ys.map V.str ∧ (ys.map (·.length)).sum + ys.length * a.length ≤ 16777216 ∧ z = .str (Txt.join a ys) := fun hr gj => by
      unfold joinD at gj
      obtain ⟨ys, h1, gj⟩ := bind_some gj
      split at gj
      · cases gj; exact ⟨ys, strsD_vs hr h1, by assumption, rfl⟩
      · cases gj
    cases q with
    | lst ds =>
      obtain ⟨p', us, rfl, h1', hz', hr'⟩ := lk
      obtain ⟨ys, rfl, hl, rfl⟩ := key hr' gz
      exact ⟨a, p', ys, rfl, rfl, Or.inl (Or.inl (Or.inl h1')), hl, k F2 H2 _ (s1.trans s2) (.str _)⟩
    | tup ds =>
      obtain ⟨p', us, rfl, h1', h2', hz', hr'⟩ := Lk.tup s2.rel.sub lk
      obtain ⟨ys, rfl, hl, rfl⟩ := key hr' gz
      exact ⟨a, p', ys, rfl, rfl, Or.inr h1', hl, k F2 H2 _ (s1.trans s2) (.str _)⟩
    | _ => cases gz
  | _ => cases gz
end
end Ov

set_option maxHeartbeats 2000000
namespace Ov
open PySem PySem.Spec PyProof.Rows L2 Evl
/-! ### slots -/
section
variable {α : Type}
theorem set_get (l : List (Option α)) (i j : Nat) (x : Option α) : (l.set i x)[j]? = if i = j then (if j < l.length then some x else none) else l[j]? := by
  rw [List.getElem?_set]
  by_cases e : i = j
  · subst e; rfl
  · rw [if_neg e, if_neg e]
theorem wipeE_len (ρ : Slots) : ∀ vs, (wipeE ρ vs).length = ρ.length
  | [] => rfl
  | v :: vs => by unfold wipeE; rw [List.length_set, wipeE_len ρ vs]
theorem wipeE_out {ρ : Slots} {i : Nat} : ∀ {vs : List Nat}, i ∉ vs → (wipeE ρ vs)[i]? = ρ[i]?
  | [], _ => rfl
  | v :: vs, h => by
    unfold wipeE
    rw [set_get, if_neg (fun e => h (by simp [e])), wipeE_out (fun q => h (List.mem_cons_of_mem _ q))]
theorem wipeE_in {ρ : Slots} {i : Nat} {x : EV} : ∀ {vs : List Nat}, i ∈ vs → (wipeE ρ vs)[i]? ≠ some (some x)
  | [], h => by cases h
  | v :: vs, h => by
    unfold wipeE
    rw [set_get]
    by_cases e : v = i
    · rw [if_pos e]; split <;> simp
    · rw [if_neg e]
      rcases List.mem_cons.mp h with q | q
      · exact absurd q.symm e
      · exact wipeE_in q
theorem wipe_out {σ : L2.St} {i : Nat} : ∀ {vs : List Nat}, i ∉ vs → (wipe σ vs)[i]? = σ[i]?
  | [], _ => rfl
  | v :: vs, h => by
    unfold wipe
    rw [set_get, if_neg (fun e => h (by simp [e])), wipe_out (fun q => h (List.mem_cons_of_mem _ q))]
theorem restore_len (old ρ : Slots) : ∀ vs, (restore old ρ vs).length = ρ.length
  | [] => rfl
  | v :: vs => by unfold restore; rw [List.length_set, restore_len old ρ vs]
theorem restore_out {old ρ : Slots} {i : Nat} : ∀ {vs : List Nat}, i ∉ vs → (restore old ρ vs)[i]? = ρ[i]?
  | [], _ => rfl
  | v :: vs, h => by
    unfold restore
    rw [set_get, if_neg (fun e => h (by simp [e])), restore_out (fun q => h (List.mem_cons_of_mem _ q))]
theorem restore_in {old ρ : Slots} {i : Nat} {x : EV} : ∀ {vs : List Nat}, i ∈ vs → (restore old ρ vs)[i]? = some (some x) → old[i]? = some (some x)
  | [], h, _ => by cases h
  | v :: vs, h, e => by
    unfold restore at e
    rw [set_get] at e
    by_cases q : v = i
    · subst q
      rw [if_pos rfl] at e
      split at e
      · cases ho : old[v]? with
        | none => rw [ho] at e; cases e
        | some o =>
          rw [ho] at e
          simp only [Option.getD_some, Option.some.injEq] at e
          rw [e]
      · cases e
    · rw [if_neg q] at e
      rcases List.mem_cons.mp h with z | z
      · exact absurd z.symm q
      · exact restore_in z e
theorem isOwn_false {o : Option (Option EV)} (h : isOwn o = false) : ∀ b xs, o ≠ some (some (.own b xs)) := fun b xs e => by rw [e] at h; cases h
end
section
variable {K : PySem.W.Frag} {n : Ent} {σ : L2.St} {ρ : Slots} {F H : Hp}
/-- a slot takes data -/
theorem Rel.setD (r : Rel K n ρ σ F H) {i : Nat} {w : V} {x : D} (hx : Rp K F w x) (hp : ∀ q, n.ps[i]? ≠ some (some q)) : Rel K n (ρ.set i (some (.d x))) (σ.set i (some w)) F H where
  sub := r.sub
  len := by rw [List.length_set, List.length_set]; exact r.len
  dat := fun j y h => by
    rw [set_get] at h ⊢
    by_cases e : i = j
    · rw [if_pos e] at h ⊢
      rw [← r.len]
      split at h
      · rename_i hl; cases h; rw [if_pos hl]; exact ⟨w, rfl, hx⟩
      · cases h
    · rw [if_neg e] at h ⊢; exact r.dat j y h
  own := fun j b y h => by
    rw [set_get] at h ⊢
    by_cases e : i = j
    · rw [if_pos e] at h; split at h <;> cases h
    · rw [if_neg e] at h ⊢; exact r.own j b y h
  scr := fun j y h => by
    rw [set_get] at h ⊢
    by_cases e : i = j
    · rw [if_pos e] at h; split at h <;> cases h
    · rw [if_neg e] at h ⊢; exact r.scr j y h
  inj := fun j l p h1 h2 h3 h4 => by
    rw [set_get] at h1 h2 h3 h4
    by_cases e : i = j
    · rw [if_pos e] at h1; split at h1 <;> cases h1
    · by_cases e' : i = l
      · rw [if_pos e'] at h2; split at h2 <;> cases h2
      · rw [if_neg e] at h1 h3; rw [if_neg e'] at h2 h4
        exact r.inj j l p h1 h2 h3 h4
  ex0 := r.ex0
  keep := r.keep
  newF := r.newF
  par := fun j p h => by
    have e : i ≠ j := fun e => hp p (by rw [e]; exact h)
    rw [set_get, set_get, if_neg e, if_neg e]
    exact r.par j p h
theorem Rel.wipe (r : Rel K n ρ σ F H) {vs : List Nat} (h : ∀ v ∈ vs, isOwn ρ[v]? = false) : Rel K n (wipeE ρ vs) (L2.wipe σ vs) F H where
  sub := r.sub
  len := by rw [wipeE_len, wipe_length]; exact r.len
  dat := fun j y q => by
    by_cases e : j ∈ vs
    · exact absurd q (wipeE_in e)
    · rw [wipeE_out e] at q; rw [wipe_out e]; exact r.dat j y q
  own := fun j b y q => by
    by_cases e : j ∈ vs
    · exact absurd q (wipeE_in e)
    · rw [wipeE_out e] at q; rw [wipe_out e]; exact r.own j b y q
  scr := fun j y q => by
    by_cases e : j ∈ vs
    · exact absurd q (wipeE_in e)
    · rw [wipeE_out e] at q; rw [wipe_out e]; exact r.scr j y q
  inj := fun j l p h1 h2 h3 h4 => by
    obtain ⟨b1, x1, q1⟩ := isOwn_iff.mp h1
    obtain ⟨b2, x2, q2⟩ := isOwn_iff.mp h2
    by_cases e : j ∈ vs
    · exact absurd q1 (wipeE_in e)
    · by_cases e' : l ∈ vs
      · exact absurd q2 (wipeE_in e')
      · rw [wipeE_out e] at h1; rw [wipe_out e] at h3; rw [wipeE_out e'] at h2; rw [wipe_out e'] at h4
        exact r.inj j l p h1 h2 h3 h4
  ex0 := r.ex0
  keep := r.keep
  newF := r.newF
  par := fun j p q => by
    obtain ⟨h1, xs, h2⟩ := r.par j p q
    have e : j ∉ vs := fun e => isOwn_false (h j e) _ _ h2
    rw [wipeE_out e, wipe_out e]; exact ⟨h1, xs, h2⟩
/-- behind a comprehension -/
theorem Rel.back {ρ1 : Slots} {F1 H1 : Hp} {vs : List Nat} (r : Rel K n (wipeE ρ vs) (L2.wipe σ vs) F H) (r1 : Rel K n ρ1 σ F1 H1) (ex : Ex F1 F) (h : ∀ v ∈ vs, isOwn ρ1[v]? = false) : Rel K n (restore ρ1 ρ vs) σ F H where
  sub := r.sub
  len := by
    have := r.len
    rw [wipeE_len, wipe_length] at this
    rw [restore_len]; exact this
  dat := fun j y q => by
    by_cases e : j ∈ vs
    · obtain ⟨w, h1, h2⟩ := r1.dat j y (restore_in e q)
      exact ⟨w, h1, h2.mono ex⟩
    · rw [restore_out e] at q
      obtain ⟨w, h1, h2⟩ := r.dat j y (by rw [wipeE_out e]; exact q)
      rw [wipe_out e] at h1
      exact ⟨w, h1, h2⟩
  own := fun j b y q => by
    by_cases e : j ∈ vs
    · exact absurd (restore_in e q) (isOwn_false (h j e) b y)
    · rw [restore_out e] at q
      have := r.own j b y (by rw [wipeE_out e]; exact q)
      rw [wipe_out e] at this
      exact this
  scr := fun j y q => by
    by_cases e : j ∈ vs
    · obtain ⟨p, h1, h2, h3⟩ := r1.scr j y (restore_in e q)
      exact ⟨p, h1, ex_l ex h2, h3⟩
    · rw [restore_out e] at q
      have := r.scr j y (by rw [wipeE_out e]; exact q)
      rw [wipe_out e] at this
      exact this
  inj := fun j l p h1 h2 h3 h4 => by
    obtain ⟨b1, x1, q1⟩ := isOwn_iff.mp h1
    obtain ⟨b2, x2, q2⟩ := isOwn_iff.mp h2
    by_cases e : j ∈ vs
    · exact absurd (restore_in e q1) (isOwn_false (h j e) b1 x1)
    · by_cases e' : l ∈ vs
      · exact absurd (restore_in e' q2) (isOwn_false (h l e') b2 x2)
      · rw [restore_out e] at h1; rw [restore_out e'] at h2
        exact r.inj j l p (by rw [wipeE_out e]; exact h1) (by rw [wipeE_out e']; exact h2) (by rw [wipe_out e]; exact h3) (by rw [wipe_out e']; exact h4)
  ex0 := r.ex0
  keep := r.keep
  newF := r.newF
  par := fun j p q => by
    obtain ⟨h1, xs, h2⟩ := r.par j p q
    have e : j ∉ vs := fun e => wipeE_in e h2
    rw [restore_out e]
    rw [wipe_out e] at h1; rw [wipeE_out e] at h2
    exact ⟨h1, xs, h2⟩
end
/-! ### patterns -/
mutual
theorem bind_own : ∀ {p : Pat} {x : D} {ρ ρ' : Slots} (i : Nat), Pat.bind p x ρ = some ρ' → isOwn ρ'[i]? = true → isOwn ρ[i]? = true
  | .nm j, x, ρ, ρ', i, h, q => by
    simp only [Pat.bind, Option.some.injEq] at h; subst h
    rw [set_get] at q
    by_cases e : j = i
    · rw [if_pos e] at q; split at q <;> cases q
    · rw [if_neg e] at q; exact q
  | .tp p, x, ρ, ρ', i, h, q => by
    simp only [Pat.bind] at h
    obtain ⟨xs, _, h⟩ := bind_some h
    exact binds_own i h q
  | .nil, x, ρ, ρ', i, h, q => by cases h
  | .cons a b, x, ρ, ρ', i, h, q => by cases h
theorem binds_own : ∀ {p : Pat} {xs : List D} {ρ ρ' : Slots} (i : Nat), Pat.binds p xs ρ = some ρ' → isOwn ρ'[i]? = true → isOwn ρ[i]? = true
  | .nil, [], ρ, ρ', i, h, q => by simp only [Pat.binds, Option.some.injEq] at h; subst h; exact q
  | .cons a b, x :: xs, ρ, ρ', i, h, q => by
    simp only [Pat.binds] at h
    obtain ⟨ρ1, h1, h⟩ := bind_some h
    exact bind_own i h1 (binds_own i h q)
  | .nil, _ :: _, ρ, ρ', i, h, q => by cases h
  | .cons a b, [], ρ, ρ', i, h, q => by cases h
  | .nm j, [], ρ, ρ', i, h, q => by cases h
  | .nm j, _ :: _, ρ, ρ', i, h, q => by cases h
  | .tp j, [], ρ, ρ', i, h, q => by cases h
  | .tp j, _ :: _, ρ, ρ', i, h, q => by cases h
end
/-- the slots outside l stand as they were -/
def But (l : List Nat) (σ σ' : L2.St) : Prop := σ'.length = σ.length ∧ ∀ i, i ∉ l → σ'[i]? = σ[i]?
theorem But.refl (l : List Nat) (σ : L2.St) : But l σ σ := ⟨rfl, fun _ _ => rfl⟩
theorem But.trans {l l' : List Nat} {σ σ1 σ2 : L2.St} (a : But l σ σ1) (b : But l' σ1 σ2) : But (l ++ l') σ σ2 :=
  ⟨b.1.trans a.1, fun i h => (b.2 i fun q => h (List.mem_append_right _ q)).trans (a.2 i fun q => h (List.mem_append_left _ q))⟩
theorem wipe_in {σ : L2.St} {i : Nat} (hl : i < σ.length) : ∀ {vs : List Nat}, i ∈ vs → (L2.wipe σ vs)[i]? = some none
  | [], h => by cases h
  | v :: vs, h => by
    unfold L2.wipe
    rw [set_get, wipe_length]
    by_cases e : v = i
    · rw [if_pos e, if_pos hl]
    · rw [if_neg e]
      rcases List.mem_cons.mp h with q | q
      · exact absurd q.symm e
      · exact wipe_in hl q
theorem But.wipe {l vs : List Nat} {σ σ' : L2.St} (h : But l σ σ') (hl : ∀ i ∈ l, i ∈ vs) : L2.wipe σ' vs = L2.wipe σ vs := by
  apply List.ext_getElem?
  intro i
  by_cases e : i ∈ vs
  · by_cases hi : i < σ.length
    · rw [wipe_in hi e, wipe_in (by rw [h.1]; exact hi) e]
    · rw [List.getElem?_eq_none (by rw [wipe_length, h.1]; omega), List.getElem?_eq_none (by rw [wipe_length]; omega)]
  · rw [wipe_out e, wipe_out e]
    exact h.2 i fun q => e (hl i q)
def FreeP (n : Ent) (l : List Nat) : Prop := ∀ i ∈ l, ∀ q, n.ps[i]? ≠ some (some q)
def tOfG (K : PySem.W.Frag) (p : Pat) : TG := fun w σ H Q => ∃ n ρ F x ρ', Rel K n ρ σ F H ∧ Rp K F w x ∧ Pat.bind p x ρ = some ρ' ∧ FreeP n p.slots ∧ ∀ σ', Rel K n ρ' σ' F H → But p.slots σ σ' → Q σ' H
def tOfGs (K : PySem.W.Frag) (p : Pat) : TGs := fun ws σ H Q => ∃ n ρ F xs ρ', Rel K n ρ σ F H ∧ Rps K F ws xs ∧ Pat.binds p xs ρ = some ρ' ∧ FreeP n p.slots ∧ ∀ σ', Rel K n ρ' σ' F H → But p.slots σ σ' → Q σ' H
section
variable {X : Cx} {e a b c : Expr} {pos p q : Pos} {G : Cfg} {ia ib ic : IR} {rest es : List Expr}
theorem PG.imp {t u : TG} (h : PG X e t) (i : ∀ w σ H Q, u w σ H Q → t w σ H Q) : PG X e u := ⟨fun pins s σ H v x Q I r q => h.run pins s σ H v x Q I r (i _ _ _ _ q)⟩
theorem PGs.imp {t u : TGs} (h : PGs X es t) (i : ∀ w σ H Q, u w σ H Q → t w σ H Q) : PGs X es u := ⟨fun pins s σ H v x Q I r q => h.run pins s σ H v x Q I r (i _ _ _ _ q)⟩
theorem PG.or {t u : TG} (h : PG X e t) (h' : PG X e u) : PG X e (fun w σ H Q => t w σ H Q ∨ u w σ H Q) :=
  ⟨fun pins s σ H v x Q I r q => q.elim (fun q => h.run pins s σ H v x Q I r q) (fun q => h'.run pins s σ H v x Q I r q)⟩
theorem dg_nm {i : Nat} {x : Str} (hN : X.N.Nodup) (hi : X.N[i]? = some x) (hx : Loc X.env.scope x) (hf : X.fn x = true ∨ X.env.scope.names.lookup x = some .local) : PG X (.Name x pos) (tOfG X.K (.nm i)) := by
  refine PG.imp (pg_name hN hi hx hf) fun w σ H Q h => ?_
  obtain ⟨n, ρ, F, x, ρ', r, rp, hb, hf, k⟩ := h
  simp only [Pat.bind, Option.some.injEq] at hb; subst hb
  refine k _ (r.setD rp (hf i (by simp [Pat.slots]))) ⟨by rw [List.length_set], fun j hj => ?_⟩
  rw [set_get, if_neg (fun e => hj (by simp [Pat.slots, e]))]
theorem dgs_nil : PGs X [] (tOfGs X.K .nil) := by
  refine PGs.imp pgs_nil fun w σ H Q h => ?_
  obtain ⟨n, ρ, F, xs, ρ', r, rp, hb, hf, k⟩ := h
  cases rp with
  | nil =>
    simp only [Pat.binds, Option.some.injEq] at hb; subst hb
    exact ⟨rfl, k σ r (But.refl _ _)⟩
  | cons _ _ => cases hb
theorem dgs_cons {pa pb : Pat} (ha : PG X e (tOfG X.K pa)) (hb : PGs X es (tOfGs X.K pb)) (hs : (assignEach (e :: es) X.env).map (·.2) = assign e X.env :: (assignEach es X.env).map (·.2)) : PGs X (e :: es) (tOfGs X.K (.cons pa pb)) := by
  refine PGs.imp (pgs_cons ha hb hs) fun ws σ H Q h => ?_
  obtain ⟨n, ρ, F, xs, ρ', r, rp, hb, hf, k⟩ := h
  cases rp with
  | nil => cases hb
  | cons h1 h2 =>
    simp only [Pat.binds] at hb
    obtain ⟨ρ1, g1, g2⟩ := bind_some hb
    refine ⟨_, _, rfl, n, ρ, F, _, ρ1, r, h1, g1, fun i hi => hf i (by simp [Pat.slots, hi]), fun σ1 r1 b1 => ?_⟩
    refine ⟨n, ρ1, F, _, ρ', r1, h2, g2, fun i hi => hf i (by simp [Pat.slots, hi]), fun σ2 r2 b2 => k σ2 r2 (b1.trans b2)⟩
theorem dg_tp {pa : Pat} {k : Nat} (hc : X.calm = true) (h : PGs X es (tOfGs X.K pa)) (hn : (assignEach es X.env).length = es.length) (hst : (assignEach es X.env).findIdx? (·.1) = none)
    (hl : ∀ (xs : List D) (ρ ρ' : Slots), Pat.binds pa xs ρ = some ρ' → xs.length = es.length) : PG X (.Tuple es k pos) (tOfG X.K (.tp pa)) := by
  refine PG.imp (PG.or (pg_tup hc h hn hst) (pg_unl hc h hn hst)) fun w σ H Q hh => ?_
  obtain ⟨n, ρ, F, x, ρ', r, rp, hb, hf, k⟩ := hh
  simp only [Pat.bind] at hb
  obtain ⟨xs, gx, hb⟩ := bind_some hb
  have hlen := hl xs ρ ρ' hb
  cases x <;> cases gx
  · cases rp with
    | tup h1 hz hr => exact Or.inl ⟨_, _, rfl, ex_t r.sub h1, by rw [hr.length]; exact hlen, n, ρ, F, _, ρ', r, hr, hb, hf, k⟩
  · cases rp with
    | lst h1 hz hr => exact Or.inr ⟨_, _, rfl, Or.inl (Or.inl (r.sub _ _ h1)), by rw [hr.length]; exact hlen, n, ρ, F, _, ρ', r, hr, hb, hf, k⟩
end
end Ov

set_option maxHeartbeats 2000000
namespace Ov
open PySem PySem.Spec PyProof.Rows L2 Evl
/-! ### readings told by the evaluator alone -/
def tOfE (K : PySem.W.Frag) (f : EF) : TE := fun σ H Q => ∃ n ρ F v ρ', Rel K n ρ σ F H ∧ f ρ = some (v, ρ') ∧ ∀ F' H' w, Step K n σ ρ F H ρ' F' H' → VR K σ F' w v → Q w H'
def tOfT (K : PySem.W.Frag) (f : Slots → Option (Bool × Slots)) : TT := fun σ H Q => ∃ n ρ F b ρ', Rel K n ρ σ F H ∧ f ρ = some (b, ρ') ∧ ∀ F' H', Step K n σ ρ F H ρ' F' H' → Q b H'
section
variable {X : Cx} {e a b c : Expr} {pos p q : Pos} {G : Cfg} {ia ib ic : IR} {rest es : List Expr}
theorem DE.can {f : EF} (h : DE X e f) : PE X e (tOfE X.K f) := by
  obtain ⟨t, pe, k⟩ := h
  refine ⟨fun pins s σ H Q I hq => pe.run pins s σ H Q I ?_⟩
  obtain ⟨n, ρ, F, v, ρ', r, g, q⟩ := hq
  exact k n ρ σ F H v ρ' Q r g q
theorem DT.can {f : Slots → Option (Bool × Slots)} (h : DT X e f) : PT X e (tOfT X.K f) := by
  obtain ⟨t, pe, k⟩ := h
  refine ⟨fun pins s σ H Q I hq => pe.run pins s σ H Q I ?_⟩
  obtain ⟨n, ρ, F, v, ρ', r, g, q⟩ := hq
  exact k n ρ σ F H v ρ' Q r g q
def evC (G : Cfg) (c : IR) (ρ : Slots) : Option (Bool × Slots) := match c with
  | .nil => some (true, ρ)
  | c => evT G c ρ
theorem PTs.imp {ts : List Expr} {t u : TT} (h : PTs X ts t) (i : ∀ σ H Q, u σ H Q → t σ H Q) : PTs X ts u := by
  constructor
  intros
  apply h.run <;> try assumption
  apply i; assumption
theorem dc_nil : PTs X [] (tOfT X.K (evC G .nil)) := PTs.imp pts_nil fun σ H Q h => by
  obtain ⟨n, ρ, F, v, ρ', r, g, q⟩ := h
  cases g
  exact q F H (Step.refl r)
theorem dc_one (hn : ia ≠ .nil) (h : DT X e (evT G ia)) : PTs X [e] (tOfT X.K (evC G ia)) := PTs.imp (pts_one h.can) fun σ H Q h => by
  obtain ⟨n, ρ, F, v, ρ', r, g, q⟩ := h
  refine ⟨n, ρ, F, v, ρ', r, ?_, q⟩
  unfold evC at g
  split at g
  · exact absurd rfl hn
  · exact g
end
section
variable {K : PySem.W.Frag} {n : Ent} {σ : L2.St} {ρ : Slots} {F H : Hp}
/-- a thing of nobody's is changed -/
theorem Rel.mutD (r : Rel K n ρ σ F H) {d : Addr} {o : HO} (hf : F d = none) (no : NoOwn ρ σ d) (h0 : n.H0 d = none) : Rel K n ρ σ F (upd H d o) where
  sub := fun b u q => by
    rw [upd_ne (fun e => by rw [e, hf] at q; cases q)]; exact r.sub b u q
  len := r.len
  dat := r.dat
  own := fun i b xs h => by
    obtain ⟨p, vs, h1, h2, h3, h4, h5, h6⟩ := r.own i b xs h
    have ne : p ≠ d := fun e => no i (isOwn_iff.mpr ⟨b, xs, h⟩) (by rw [h1, e])
    exact ⟨p, vs, h1, by rw [upd_ne ne]; exact h2, h3, h4, h5, h6⟩
  scr := r.scr
  inj := r.inj
  ex0 := r.ex0
  keep := fun b u q z => by
    have ne : b ≠ d := fun e => by rw [e, h0] at q; cases q
    rw [upd_ne ne]; exact r.keep b u q z
  newF := r.newF
  par := r.par
end
theorem wipe_wipe (σ : L2.St) (vs : List Nat) : L2.wipe (L2.wipe σ vs) vs = L2.wipe σ vs := by
  apply List.ext_getElem?
  intro j
  by_cases e : j ∈ vs
  · by_cases hl : j < σ.length
    · rw [wipe_in (by rw [wipe_length]; exact hl) e, wipe_in hl e]
    · rw [List.getElem?_eq_none (by rw [wipe_length, wipe_length]; omega), List.getElem?_eq_none (by rw [wipe_length]; omega)]
  · rw [wipe_out e]
section
variable {X : Cx} {tg iter elt : Expr} {ifs : List Expr} {scope : Scope} {own : List (Str × Nat)} {pos : Pos} {G : Cfg} {ik : ItK} {ita itb ci ei : IR} {p : Pat}
def compBody (G : Cfg) (vs : List Nat) (p : Pat) (c e : IR) (x : D) (ρ : Slots) : Option (Option D × Slots) := do
  let ρa ← Pat.bind p x (wipeE ρ vs)
  let (b, ρb) ← evC G c ρa
  if b then do
    let (vy, ρc) ← evE G e ρb
    let y ← vy.pure?
    pure (some y, ρc)
  else pure (none, ρb)
theorem evE_comp (vs : List Nat) (p : Pat) (k : ItK) (a b c e : IR) (ρ : Slots) : evE G (.comp vs p k a b c e) ρ = (do
    let (xs, ρ1) ← evI G k a b ρ
    if vs.any (fun v => isOwn ρ1[v]?) then none else
    let (ys, ρ2) ← compGo (compBody G vs p c e) xs ρ1
    pure (.d (.lst ys), restore ρ1 ρ2 vs)) := by
  conv => lhs; unfold evE
  congr 1
theorem dn_comp (hc : X.calm = true) (hN : X.N.Nodup) (hi : DI X tg iter (evI G ik ita itb)) (ok : BlkOk X.N X.env.scope scope own) (hp : ∀ i ∈ p.slots, i ∈ own.map (·.2))
    (hg : ∀ (s : Shared) (H : Hp) (C : Addr) (cl : List (Str × Addr)) (fp : List Addr), PG (X.blk s H scope (compEnvC scope cl C X.env) fp) tg (tOfG X.K p))
    (ht : ∀ (s : Shared) (H : Hp) (C : Addr) (cl : List (Str × Addr)) (fp : List Addr), PTs (X.blk s H scope (compEnvC scope cl C X.env) fp) ifs (tOfT X.K (evC G ci)))
    (he : ∀ (s : Shared) (H : Hp) (C : Addr) (cl : List (Str × Addr)) (fp : List Addr), PE (X.blk s H scope (compEnvC scope cl C X.env) fp) elt (tOfE X.K (evE G ei))) (hs : ∀ x, foldedSetIterable iter X.env x = pure x) :
    ∃ wi, PI X tg iter wi ∧ ∀ (n : Ent) (ρ : Slots) (σ : L2.St) (F H : Hp) (v : Vl) (ρ' : Slots) (Q : VK), Rel X.K n ρ σ F H → evE G (.comp (own.map (·.2)) p ik ita itb ci ei) ρ = some (v, ρ') →
      (∀ F' H' w c, Step X.K n σ ρ F H ρ' F' H' → v = .d c → Nw X.K H F' H' w c → Q w H') → tLc wi (tOfG X.K p) (tOfT X.K (evC G ci)) (tOfE X.K (evE G ei)) (own.map (·.2)) σ H Q := by
  obtain ⟨wi, pi, qi⟩ := hi
  generalize hvs : own.map (·.2) = vs at hp
  refine ⟨wi, pi, fun n ρ σ F H v ρ' Q rl g k => ?_⟩
  rw [evE_comp] at g
  obtain ⟨⟨xs, ρ1⟩, gi, g⟩ := bind_some g
  dsimp only at g
  split at g
  · cases g
  rename_i hany
  have noV : ∀ v ∈ vs, isOwn ρ1[v]? = false := fun v hv => by
    cases q : isOwn ρ1[v]? with
    | false => rfl
    | true => exact absurd (List.any_eq_true.mpr ⟨v, hv, q⟩) hany
  obtain ⟨⟨ys, ρ2⟩, gc, g⟩ := bind_some g
  obtain ⟨rfl, rfl⟩ := pure_some g
  refine qi n ρ σ F H xs ρ1 _ rl gi fun F1 H1 J Gd Y s1 hz wk hG yd => fun Dd hD => ?_
  have r1 := s1.rel
  have h0D : n.H0 Dd = none := r1.dom hD
  refine lc_it wk (fun i Hc => ∃ ρi Fi acc ds rest, Hc Dd = some (.lst acc) ∧ Fi Dd = none ∧ Ex F1 Fi ∧ Rel X.K n (wipeE ρi vs) (L2.wipe σ vs) Fi Hc ∧ NoOwn (wipeE ρi vs) (L2.wipe σ vs) Dd ∧ Rps X.K Fi acc ds ∧ ds.length ≤ i ∧
    compGo (compBody G vs p ci ei) (xs.drop i) ρi = some (rest, ρ2) ∧ ys = ds ++ rest ∧ (∀ b o, H1 b = some o → NoOwn ρ1 σ b → Hc b = some o ∧ (F1 b = none → Fi b = none)) ∧ (∀ i : Nat, isOwn (wipeE ρi vs)[i]? = true → isOwn ρ1[i]? = true) ∧ ∀ b, Hc b = none → H1 b = none) ?_ ?_ ?_ ?_
  · -- start
    refine ⟨ρ1, F1, [], [], ys, upd_same, Ov.Ex.none r1.sub hD, Ex.refl _, (r1.wipe noV).al (Al.own r1.sub hD), own_ne (r1.wipe noV) hD, .nil, Nat.zero_le _, by simpa using gc, rfl, fun b o hb no => ⟨?_, fun q => q⟩, fun i hi => ?_, fun b hb => ?_⟩
    · rw [upd_ne (fun e => by rw [e, hD] at hb; cases hb)]; exact hb
    · by_cases e : i ∈ vs
      · obtain ⟨by', y, hy⟩ := isOwn_iff.mp hi; exact absurd hy (wipeE_in e)
      · rw [wipeE_out e] at hi; exact hi
    · by_cases e : b = Dd
      · rw [e]; exact hD
      · rw [upd_ne e] at hb; exact hb
  · -- what is walked stands
    rintro i Hc hi ⟨ρi, Fi, acc, ds, rest, h1, h2, h3, h4, _⟩
    exact hG Hc (h3.trans h4.sub)
  · -- a turn
    rintro i x Hc H2 hi ⟨ρi, Fi, acc, ds, rest, hD1, hD2, ex, r, no, rs, hdl, gg, hys, fr, ow, dom⟩ hy
    obtain ⟨d, hxd, q⟩ := yd i Hc x H2 hi (ex.trans r.sub) hy
    obtain ⟨F2, al, rp⟩ := q Fi ex r.sub
    have hdrop : xs.drop i = d :: xs.drop (i + 1) := by
      obtain ⟨hi', e⟩ := List.getElem?_eq_some_iff.mp hxd
      rw [← e]; exact List.drop_eq_getElem_cons hi'
    rw [hdrop] at gg
    simp only [compGo] at gg
    obtain ⟨⟨y, ρn⟩, gb, gg⟩ := bind_some gg
    obtain ⟨⟨ys', ρe⟩, gr, gg⟩ := bind_some gg
    obtain ⟨e1, rfl⟩ := pure_some gg
    simp only [compBody] at gb
    obtain ⟨ρa, ga, gb⟩ := bind_some gb
    obtain ⟨⟨b, ρb⟩, gcd, gb⟩ := bind_some gb
    have wn : ∀ {ρx : Slots}, (∀ j : Nat, isOwn ρx[j]? = true → isOwn ρa[j]? = true) → ∀ v ∈ vs, isOwn ρx[v]? = false := fun {ρx} h v hv => by
      cases qq : isOwn ρx[v]? with
      | false => rfl
      | true =>
        obtain ⟨bz, z, hz⟩ := isOwn_iff.mp (bind_own v ga (h v qq))
        exact absurd hz (wipeE_in hv)
    refine ⟨n, wipeE ρi vs, F2, d, ρa, r.al al, rp, ga, fun j hj qa hqa => ?_, fun σ2 r2 but => ⟨(but.wipe hp).trans (wipe_wipe σ vs), ?_⟩⟩
    · obtain ⟨z, hz⟩ := (r.par j qa hqa).2
      exact absurd hz (wipeE_in (hp j hj))
    have hw2 : L2.wipe σ2 vs = L2.wipe σ vs := (but.wipe hp).trans (wipe_wipe σ vs)
    have noA : ∀ {b : Addr}, NoOwn (wipeE ρi vs) (L2.wipe σ vs) b → NoOwn ρa σ2 b := fun {b} hn j hj => by
      have o1 := bind_own j ga hj
      obtain ⟨bz, z, hz⟩ := isOwn_iff.mp o1
      have e : j ∉ vs := fun e => wipeE_in e hz
      rw [but.2 j fun q => e (hp j q)]
      exact hn j o1
    have hD2' : H2 Dd = some (.lst acc) := al.hx _ _ hD1
    have hF2 : F2 Dd = none := al.new Dd (by rw [hD1]; simp) hD2
    refine ⟨n, ρa, F2, b, ρb, r2, gcd, fun F3 H3 s3 => ?_⟩
    have f3 := s3.fr Dd _ hD2' (noA no)
    have own3 : ∀ {b : Addr}, NoOwn ρ1 σ b → NoOwn (wipeE ρi vs) (L2.wipe σ vs) b := fun {b} hn j hj => by
      have := ow j hj
      obtain ⟨bz, z, hz⟩ := isOwn_iff.mp hj
      have e : j ∉ vs := fun e => wipeE_in e hz
      rw [wipe_out e]; exact hn j this
    have backOwn : ∀ {ρx : Slots}, (∀ j : Nat, isOwn ρx[j]? = true → isOwn ρa[j]? = true) → ∀ j : Nat, isOwn (wipeE ρx vs)[j]? = true → isOwn (wipeE ρi vs)[j]? = true := fun {ρx} h j hj => by
      obtain ⟨bz, z, hz⟩ := isOwn_iff.mp hj
      have e : j ∉ vs := fun e => wipeE_in e hz
      rw [wipeE_out e] at hj
      exact bind_own j ga (h j hj)
    cases b with
    | false =>
      simp only [Bool.false_eq_true, if_false] at gb ⊢
      obtain ⟨e2, rfl⟩ := pure_some gb
      subst e2
      have rw3 := s3.rel.wipe (vs := vs) (wn s3.ow)
      rw [hw2] at rw3
      refine ⟨_, F3, acc, ds, ys', f3.1, f3.2 hF2, ex.trans (al.ex.trans s3.ex), rw3, fun j hj => no j (backOwn s3.ow j hj), rs.mono (al.ex.trans s3.ex), by omega, gr, by rw [hys, e1], fun b o hb hn => ?_, fun j hj => ow j (backOwn s3.ow j hj), fun b hb => dom b (Ov.Ex.none al.hx (s3.dom b hb))⟩
      obtain ⟨g1, g2⟩ := fr b o hb hn
      obtain ⟨g3, g4⟩ := s3.fr b o (al.hx _ _ g1) (noA (own3 hn))
      exact ⟨g3, fun hf => g4 (al.new b (by rw [g1]; simp) (g2 hf))⟩
    | true =>
      simp only [if_true] at gb ⊢
      obtain ⟨⟨vy, ρc⟩, ge, gb⟩ := bind_some gb
      obtain ⟨yy, gy, gb⟩ := bind_some gb
      obtain ⟨e2, rfl⟩ := pure_some gb
      subst e2
      refine ⟨n, ρb, F3, vy, _, s3.rel, ge, fun F4 H4 w s4 v4 => ?_⟩
      have s34 := s3.trans s4
      have f4 := s34.fr Dd _ hD2' (noA no)
      have rw4 := s4.rel.wipe (vs := vs) (wn s34.ow)
      rw [hw2] at rw4
      have no4 : NoOwn (wipeE ρn vs) (L2.wipe σ vs) Dd := fun j hj => no j (backOwn s34.ow j hj)
      refine ⟨acc, f4.1, by rw [rs.length]; omega, ρn, F4, acc ++ [w], ds ++ [yy], ys', upd_same, f4.2 hF2, ex.trans (al.ex.trans s34.ex), rw4.mutD (f4.2 hF2) no4 h0D, no4, (rs.mono (al.ex.trans s34.ex)).append (.cons (v4.pure gy) .nil), by simp; omega, gr, by rw [hys, e1]; simp, fun b o hb hn => ?_, fun j hj => ow j (backOwn s34.ow j hj), fun b hb => ?_⟩
      · obtain ⟨g1, g2⟩ := fr b o hb hn
        obtain ⟨g3, g4⟩ := s34.fr b o (al.hx _ _ g1) (noA (own3 hn))
        refine ⟨?_, fun hf => g4 (al.new b (by rw [g1]; simp) (g2 hf))⟩
        rw [upd_ne (fun e => by rw [e, hD] at hb; cases hb)]; exact g3
      · by_cases e : b = Dd
        · rw [e]; exact hD
        · rw [upd_ne e] at hb
          exact dom b (Ov.Ex.none al.hx (s34.dom b hb))
  · -- the end
    rintro Hc ⟨ρi, Fi, acc, ds, rest, hD1, hD2, ex, r, no, rs, hdl, gg, hys, fr, ow, dom⟩
    rw [List.drop_length] at gg
    simp only [compGo, Option.some.injEq, Prod.mk.injEq] at gg
    obtain ⟨e1, e2⟩ := gg
    subst e1 e2
    rw [List.append_nil] at hys
    subst hys
    refine k Fi Hc (.ref Dd) _ (s1.trans ⟨ex, r.back r1 ex noV, fr, fun i hi => ?_, dom⟩) rfl ⟨Dd, acc, rfl, s1.dom Dd hD, hD2, hD1, Nat.le_trans hdl hz, rs⟩
    by_cases e : i ∈ vs
    · obtain ⟨by', y, hy⟩ := isOwn_iff.mp hi
      rw [restore_in e hy]; rfl
    · rw [restore_out e] at hi
      exact ow i (by rw [wipeE_out e]; exact hi)
end
end Ov

set_option maxHeartbeats 2000000
namespace Ov
open PySem PySem.Spec PyProof.Rows L2 Evl
/-! ### the promise of a def where no repr is under way -/
structure FnO (P : Program) (w : World) (K : PySem.W.Frag) (mg : Str → Option Value) (base : Heap) (k : Nat) (f : Addr) (fd : FuncData) (ps : List Str) (sp : Sp) : Prop where
  many : ∀ vs H Q E, sp vs H Q E → vs.length = ps.length
  go : ∀ (A : Around) (outer : List Env) (s : Shared) (H : Hp) (args : Args) (us : List Value) (vs : List V) (Q : VK) (E : XK), A.guards = some [] → Room k A → Env0 P w K mg base A outer s H → BindsTo s fd args (ps.zip us) → Vals vs us → sp vs H Q E →
    codeAny (model P w) A (.call (.ref f) args) (CR CX0 outer P w H s Q E) s
section
variable {X : Cx} {k n : Nat} {f : Addr} {fd : FuncData} {ps ks : List Str} {sp : Sp} {E : XK} {x : Str} {p pos : Pos} {e : Expr} {es : List Expr} {kws : List Keyword} {t tk : TA} {g : List Value → List Value → List Value} {gV : List V → List V → List V} {ds : List Value} {dvs : List V}
theorem back_fn {pins : List (Addr × Obj)} {σ : L2.St} {H : Hp} {s s' : Shared} {Q : VK} (I : Inv X pins σ H s) : ∀ {r : Result}, CR CX0 X.stack X.prog X.w H s Q E r s' → ∃ u, r = .ok (.ret u) ∧ EP X pins σ Q u s'
  | .ok (.ret u), h => ⟨u, rfl, I.after h⟩
  | .ok .next, h => h.elim
  | .ok .brk, h => h.elim
  | .ok .cont, h => h.elim
  | .error _, h => h.elim
theorem go_fn {pins : List (Addr × Obj)} {σ : L2.St} {H : Hp} {s : Shared} {Q : VK} {us zs : List Value} {vs : List V} {kw : List (Str × Value)} (Fn : FnO X.prog X.w X.K X.mg X.base k f fd ps sp) (hgd : X.A.guards = some []) (hr : Room k X.A)
    (I : Inv X pins σ H s) (hb : BindsTo s fd ⟨us, kw⟩ (ps.zip zs)) (r : Vals vs zs) (h : sp vs H Q E) : wpAny (model X.prog X.w) X.A (call (.ref f) us kw) (EP X pins σ Q) X.xe s := by
  refine wpAny_call (codeAny_mono (Fn.go X.A X.stack s H _ zs vs Q E hgd hr I.env0 hb r h) fun r s' hq => ?_)
  obtain ⟨u, rfl, q⟩ := back_fn I hq
  exact q
theorem po_call (Fn : FnO X.prog X.w X.K X.mg X.base k f fd ps sp) (hgd : X.A.guards = some []) (hr : Room k X.A) (hg : Gl X x) (hm : X.mg x = some (.ref f)) (hk : PySem.W.keepIn X.K (.ref f) = true) (hb : Binds X.K fd ps [])
    (ha : PA X (e :: es) t) (hdb : (x == ("__debug__" : Str)) = false) (he : starEach (e :: es) X.env = (false, eval e X.env) :: starEach es X.env) (hpl : (backTo pos (starEach es X.env)).any (·.1) = false) :
    PE X (.Call (.Name x p) (e :: es) [] pos) (tCall sp [] E t) := by
  constructor
  intro pins s σ H Q I h
  refine wpAny_Call_Name_kw (ld_glob I hg hm (PySem.W.callWith_K (h₀ := X.base) I.ok.mod.kin hk (thn (ha.run pos pins s σ H _ I h) ?_) he hpl) hdb)
  rintro us s1 ⟨vs, H1, I1, r, q⟩
  have q' : sp vs H1 Q E := by have := q; rw [List.append_nil] at this; exact this
  have hl : us.length = ps.length := by rw [← r.length]; exact Fn.many _ _ _ _ q'
  have hbb := hb s1 us I1.kIn (by rw [List.append_nil]; exact hl)
  rw [List.append_nil] at hbb
  exact ⟨I1.kIn, go_fn Fn hgd hr I1 hbb r q'⟩
theorem po_callK (Fn : FnO X.prog X.w X.K X.mg X.base k f fd ps sp) (hgd : X.A.guards = some []) (hr : Room k X.A) (hg : Gl X x) (hm : X.mg x = some (.ref f)) (hk : PySem.W.keepIn X.K (.ref f) = true) (hb : KBn X.K fd ps 0 ks g gV)
    (hkw : PK X kws tk) (hall : (backToKw pos (keywordEach kws X.env)).all (·.1.isSome) = true) (hks : (backToKw pos (keywordEach kws X.env)).filterMap (·.1) = ks)
    (hdb : (x == ("__debug__" : Str)) = false) (hpl : ((backTo pos (starEach [] X.env)).any (·.1) || (backToKw pos (keywordEach kws X.env)).any (·.1.isNone)) = false) :
    PE X (.Call (.Name x p) [] kws pos) (fun σ H Q => tk σ H fun zs H2 => zs.length = ks.length ∧ sp (gV [] zs) H2 Q E) := by
  constructor
  intro pins s σ H Q I h
  refine wpAny_Call_Name_kw (ld_glob I hg hm (PySem.W.callWith_KW0 (h₀ := X.base) I.ok.mod.kin hk hall (thn (hkw.run pos pins s σ H _ I h) ?_) hpl) hdb)
  rintro ws s2 ⟨zs, H2, I2, rz, l2, q2⟩
  refine ⟨I2.kIn, ?_⟩
  rw [hks]
  exact go_fn (us := []) Fn hgd hr I2 (hb.to s2 [] ws I2.kIn rfl (rz.length.symm.trans l2)) (hb.rel .nil rz) q2
end
/-! ### a def's promise, of its body -/
theorem fno_of {P : Program} {w : World} {K : PySem.W.Frag} {mg : Str → Option Value} {base : Heap} {k : Nat} {f : Addr} {x qual : Str} {params : Arguments} {body : List Stmt} {scope : Scope} {fd : FuncData} {N ps : List Str} {sp : Sp}
    (Fd : FunD K x qual params body scope [] [] f fd) (S : FnScope N ps scope) (len : ∀ vs H Q E, sp vs H Q E → vs.length = ps.length)
    (hbody : ∀ (cdv : Value) (A : Around) (outer : List Env) (s : Shared) (H : Hp) (vs : List V) (Q : VK) (E : XK), A.guards = some [] → Room k (A.deeper (envOfC qual scope s.heap.objs.size f cdv)) → sp vs H Q E →
      ∃ t, PSs (cxOf CX0 P w K mg base N qual scope f cdv A outer s H E) body t ∧ t { nx := fun _ H' => Q .non H', rt := Q } (start N vs) H) : FnO P w K mg base (k + 1) f fd ps sp := by
  obtain ⟨oc, od, dV, kV, doc, pm, an, cdv, ct, osl, rfl, lk, hcd, _, _⟩ := Fd.ex
  constructor
  · exact len
  intro A outer s H args us vs Q E hgd hr e0 hb r hsp
  have old : ∀ b o, base.get? b = some o → s.heap.get? b = some o := fun b o e => (e0.bs b o e).1
  have hin : K.In s.heap := e0.mod.kin.keeps old
  have kinds : ∀ y ∈ ps.zip us, scope.names.lookup y.1 = some .local ∨ (scope.names.lookup y.1 = some .cell ∧ ((cellsFrom (s.heap.objs.size + 1) scope.names []).lookup y.1).isSome = true) := by
    rintro ⟨m, v⟩ hy
    cases S.par m (List.of_mem_zip hy).1 with
    | inl q => exact Or.inl q
    | inr q => exact Or.inr ⟨q, PySem.W.cellsFrom_some _ _ _ (Or.inl q)⟩
  refine codeAny_call_function hr.depth (hin _ _ lk) rfl S.co S.gen rfl (PySem.W.codeRec_of hin hcd) (hb _ _ _ _ (wpAny_newFunctionEnv_cells S.kind kinds ?_))
  intro env he s1 ic
  subst he
  obtain ⟨t, ht, hq⟩ := hbody cdv A outer s H vs Q E hgd (hr.deeper _) hsp
  have I := inv_start (CX := CX0) (cd := cdv) (qual := qual) (f := f) (E := E) S hr.hd e0 (len _ _ _ _ hsp) r ic
  refine ⟨(e0.mod.nolimit.keeps old).keeps ic.toInCall.keep, codeAny_func (wpAny_mono (ht.run [] s1 (start N vs) H _ I hq) ?_ fun _ _ h => h)⟩
  intro fl s' hs
  cases fl with
  | next =>
    obtain ⟨_, H', J, q⟩ := hs
    exact ⟨V.non, H', J.os, J.bare, J.base, J.hok, (rfl : (Value.none) = Value.none), q⟩
  | ret u =>
    obtain ⟨v, _, H', J, rv, q⟩ := hs
    exact ⟨v, H', J.os, J.bare, J.base, J.hok, rv, q⟩
  | brk => obtain ⟨_, _, _, q⟩ := hs; exact q.elim
  | cont => obtain ⟨_, _, _, q⟩ := hs; exact q.elim
end Ov

set_option maxHeartbeats 2000000
namespace Ov
open PySem PySem.Spec PyProof.Rows L2 Evl
/-! ### what a def promises -/
structure Post (K : PySem.W.Frag) (n : Ent) (r : EV) (outs : List EV) (w : V) (F' H' : Hp) : Prop where
  ex : Ex n.F0 F'
  sub : Ex F' H'
  keep : ∀ b o, n.H0 b = some o → some b ∉ n.ps → H' b = some o
  newF : ∀ b, n.H0 b ≠ none → n.F0 b = none → F' b = none
  dom : ∀ b, H' b = none → n.H0 b = none
  outs : ∀ (i : Nat) p, n.ps[i]? = some (some p) → ∃ b xs us, outs[i]? = some (.own b xs) ∧ H' p = some (.lst us) ∧ xs.length ≤ sizeLine ∧ Rps K F' us xs
  res : match r with
    | .d x => Rp K F' w x
    | .own _ xs => ∃ p us, w = .ref p ∧ n.H0 p = none ∧ F' p = none ∧ H' p = some (.lst us) ∧ xs.length ≤ sizeLine ∧ Rps K F' us xs
    | .scr _ => False
def SpF (K : PySem.W.Frag) (np : Nat) (cf : List EV → Option (EV × List EV)) : Sp := fun vs H Q _ => vs.length = np ∧ ∃ F ps as r outs, cf as = some (r, outs) ∧ ps.length ≤ np ∧ Rel K ⟨F, H, ps⟩ (as.map some) (vs.map some) F H ∧
  ∀ w F' H', Post K ⟨F, H, ps⟩ r outs w F' H' → Q w H'
section
theorem reown_len (ρ : Slots) (i : Nat) (xs : List D) : (reown ρ i xs).length = ρ.length := by
  unfold reown; split
  · exact List.length_set ..
  · rfl
theorem reown_ne {ρ : Slots} {i j : Nat} {xs : List D} (h : i ≠ j) : (reown ρ i xs)[j]? = ρ[j]? := by
  unfold reown; split
  · rw [set_get, if_neg h]
  · rfl
theorem reown_at {ρ : Slots} {i : Nat} {b : Bool} {ys xs : List D} (h : ρ[i]? = some (some (.own b ys))) : (reown ρ i xs)[i]? = some (some (.own b xs)) := by
  unfold reown
  rw [h]
  show (ρ.set i (some (.own b xs)))[i]? = _
  rw [set_get, if_pos rfl, if_pos (List.getElem?_eq_some_iff.mp h).1]
theorem reown_no {ρ : Slots} {i : Nat} {xs : List D} (h : isOwn ρ[i]? = false) : reown ρ i xs = ρ := by
  unfold reown; split
  · rename_i q; rw [q] at h; cases h
  · rfl
theorem putBack_len : ∀ (ρ : Slots) (vs : List Vl) (es : List EV), (putBack ρ vs es).length = ρ.length
  | ρ, [], _ => by unfold putBack; rfl
  | ρ, .slot i :: vs, [] => by simp [putBack]
  | ρ, .d _ :: vs, [] => by simp [putBack]
  | ρ, .slot i :: vs, .own b xs :: es => by
    rw [show putBack ρ (.slot i :: vs) (.own b xs :: es) = putBack (reown ρ i xs) vs es from rfl, putBack_len, reown_len]
  | ρ, .slot i :: vs, .d x :: es => by
    rw [show putBack ρ (.slot i :: vs) (.d x :: es) = putBack ρ vs es from rfl, putBack_len]
  | ρ, .slot i :: vs, .scr x :: es => by
    rw [show putBack ρ (.slot i :: vs) (.scr x :: es) = putBack ρ vs es from rfl, putBack_len]
  | ρ, .d y :: vs, e :: es => by
    rw [show putBack ρ (.d y :: vs) (e :: es) = putBack ρ vs es by cases e <;> rfl, putBack_len]
theorem putBack_out : ∀ (ρ : Slots) (vs : List Vl) (es : List EV) (j : Nat), (isOwn ρ[j]? = true → ∀ i : Nat, vs[i]? ≠ some (Vl.slot j)) → (putBack ρ vs es)[j]? = ρ[j]?
  | ρ, [], _, _, _ => by unfold putBack; rfl
  | ρ, .slot i :: vs, [], _, _ => by simp [putBack]
  | ρ, .d _ :: vs, [], _, _ => by simp [putBack]
  | ρ, .slot i :: vs, .own b xs :: es, j, h => by
    have e1 : (reown ρ i xs)[j]? = ρ[j]? := by
      by_cases e : i = j
      · subst e
        cases ho : isOwn ρ[i]? with
        | true => exact absurd rfl (h ho 0)
        | false => rw [reown_no ho]
      · exact reown_ne e
    rw [show putBack ρ (.slot i :: vs) (.own b xs :: es) = putBack (reown ρ i xs) vs es from rfl, putBack_out _ vs es j fun ho m h1 => h (by rw [e1] at ho; exact ho) (m + 1) (by simpa using h1)]
    exact e1
  | ρ, .slot i :: vs, .d x :: es, j, h => by
    rw [show putBack ρ (.slot i :: vs) (.d x :: es) = putBack ρ vs es from rfl, putBack_out _ vs es j fun ho m h1 => h ho (m + 1) (by simpa using h1)]
  | ρ, .slot i :: vs, .scr x :: es, j, h => by
    rw [show putBack ρ (.slot i :: vs) (.scr x :: es) = putBack ρ vs es from rfl, putBack_out _ vs es j fun ho m h1 => h ho (m + 1) (by simpa using h1)]
  | ρ, .d y :: vs, e :: es, j, h => by
    rw [show putBack ρ (.d y :: vs) (e :: es) = putBack ρ vs es by cases e <;> rfl, putBack_out _ vs es j fun ho m h1 => h ho (m + 1) (by simpa using h1)]
theorem mem_slots : ∀ {vs : List Vl} {i j : Nat}, vs[i]? = some (.slot j) → j ∈ slotsOf vs
  | [], _, _, h => by simp at h
  | .slot k :: vs, 0, j, h => by simp at h; subst h; simp [slotsOf]
  | .d _ :: vs, 0, j, h => by simp at h
  | .slot k :: vs, i + 1, j, h => by
    have := mem_slots (vs := vs) (i := i) (j := j) (by simpa using h)
    simp [slotsOf, this]
  | .d k :: vs, i + 1, j, h => by
    have := mem_slots (vs := vs) (i := i) (j := j) (by simpa using h)
    simp [slotsOf, this]
theorem slots_inj : ∀ {vs : List Vl} {i i' j : Nat}, (slotsOf vs).Nodup → vs[i]? = some (.slot j) → vs[i']? = some (.slot j) → i = i'
  | [], _, _, _, _, h, _ => by simp at h
  | .d k :: vs, 0, _, j, _, h, _ => by simp at h
  | .d k :: vs, i + 1, 0, j, _, _, h => by simp at h
  | .d k :: vs, i + 1, i' + 1, j, nd, h, h' => by
    have := slots_inj (vs := vs) (i := i) (i' := i') (j := j) (by simpa [slotsOf] using nd) (by simpa using h) (by simpa using h')
    omega
  | .slot k :: vs, 0, 0, j, _, _, _ => rfl
  | .slot k :: vs, 0, i' + 1, j, nd, h, h' => by
    simp at h; subst h
    have := mem_slots (vs := vs) (i := i') (j := k) (by simpa using h')
    simp [slotsOf] at nd
    exact absurd this nd.1
  | .slot k :: vs, i + 1, 0, j, nd, h, h' => by
    simp at h'; subst h'
    have := mem_slots (vs := vs) (i := i) (j := k) (by simpa using h)
    simp [slotsOf] at nd
    exact absurd this nd.1
  | .slot k :: vs, i + 1, i' + 1, j, nd, h, h' => by
    simp [slotsOf] at nd
    have := slots_inj (vs := vs) (i := i) (i' := i') (j := j) nd.2 (by simpa using h) (by simpa using h')
    omega
theorem putBack_in : ∀ (ρ : Slots) (vs : List Vl) (es : List EV) (i j : Nat) (b b' : Bool) (xs ys : List D), (slotsOf vs).Nodup → vs[i]? = some (Vl.slot j) → es[i]? = some (.own b' xs) → ρ[j]? = some (some (.own b ys)) → (putBack ρ vs es)[j]? = some (some (.own b xs))
  | ρ, [], _, i, _, _, _, _, _, _, h, _, _ => by simp at h
  | ρ, v :: vs, [], i, j, _, _, _, _, _, h, h2, _ => by simp at h2
  | ρ, v :: vs, e :: es, 0, j, b, b', xs, ys, nd, h, h2, hl => by
    simp at h h2; subst h h2
    rw [show putBack ρ (.slot j :: vs) (.own b' xs :: es) = putBack (reown ρ j xs) vs es from rfl]
    rw [putBack_out _ vs es j fun _ m h1 => by
      have := mem_slots h1
      simp [slotsOf] at nd
      exact absurd this nd.1]
    exact reown_at hl
  | ρ, v :: vs, e :: es, i + 1, j, b, b', xs, ys, nd, h, h2, hl => by
    have nd' : (slotsOf vs).Nodup := by
      cases v with
      | d x => simpa [slotsOf] using nd
      | slot k => simp [slotsOf] at nd; exact nd.2
    have key : ∀ ρ1 : Slots, ρ1[j]? = some (some (.own b ys)) → (putBack ρ1 vs es)[j]? = some (some (.own b xs)) := fun ρ1 hρ => putBack_in ρ1 vs es i j b b' xs ys nd' (by simpa using h) (by simpa using h2) hρ
    cases v with
    | d x => rw [show putBack ρ (.d x :: vs) (e :: es) = putBack ρ vs es by cases e <;> rfl]; exact key ρ hl
    | slot k =>
      have ne : k ≠ j := fun q => by
        have := mem_slots (vs := vs) (i := i) (j := j) (by simpa using h)
        simp [slotsOf, q] at nd
        exact absurd this nd.1
      cases e with
      | own b2 zs =>
        rw [show putBack ρ (.slot k :: vs) (.own b2 zs :: es) = putBack (reown ρ k zs) vs es from rfl]
        exact key _ (by rw [reown_ne ne]; exact hl)
      | d x => rw [show putBack ρ (.slot k :: vs) (.d x :: es) = putBack ρ vs es from rfl]; exact key ρ hl
      | scr x => rw [show putBack ρ (.slot k :: vs) (.scr x :: es) = putBack ρ vs es from rfl]; exact key ρ hl
theorem argsOf_len {ρ : Slots} : ∀ {vs : List Vl} {as : List EV}, argsOf ρ vs = some as → as.length = vs.length
  | [], _, h => by cases h; rfl
  | v :: vs, as, h => by
    simp only [argsOf] at h
    obtain ⟨x, hx, h⟩ := bind_some h
    obtain ⟨xs, hxs, h⟩ := bind_some h
    cases h
    simp [argsOf_len hxs]
theorem argsOf_get {ρ : Slots} : ∀ {vs : List Vl} {as : List EV} {i : Nat} {a : EV}, argsOf ρ vs = some as → as[i]? = some a → ∃ v, vs[i]? = some v ∧ v.arg ρ = some a
  | [], _, i, a, h, e => by cases h; simp at e
  | v :: vs, as, i, a, h, e => by
    simp only [argsOf] at h
    obtain ⟨x, hx, h⟩ := bind_some h
    obtain ⟨xs, hxs, h⟩ := bind_some h
    cases h
    cases i with
    | zero => simp at e; subst e; exact ⟨v, rfl, hx⟩
    | succ i =>
      obtain ⟨v', h1, h2⟩ := argsOf_get hxs (i := i) (a := a) (by simpa using e)
      exact ⟨v', by simpa using h1, h2⟩
theorem paired_get {R : V → Vl → Prop} : ∀ {ws : List V} {vs : List Vl} {i : Nat} {v : Vl}, Paired R ws vs → vs[i]? = some v → ∃ w, ws[i]? = some w ∧ R w v
  | _, _, _, _, .nil, h => by simp at h
  | _, _, 0, _, .cons r t, h => by simp at h; subst h; exact ⟨_, rfl, r⟩
  | _, _, i + 1, v, .cons r t, h => by
    obtain ⟨w, h1, h2⟩ := paired_get t (i := i) (v := v) (by simpa using h)
    exact ⟨w, by simpa using h1, h2⟩
end
section
variable {K : PySem.W.Frag} {n : Ent} {σ : L2.St} {ρ : Slots} {F H : Hp}
/-- the addresses of the lists that are handed on -/
def psOf (ρ : Slots) (σ : L2.St) : List Vl → List (Option Addr)
  | [] => []
  | .slot i :: r => (match isOwn ρ[i]?, σ[i]? with | true, some (some (.ref p)) => some p | _, _ => none) :: psOf ρ σ r
  | .d _ :: r => none :: psOf ρ σ r
theorem psOf_len : ∀ vs, (psOf ρ σ vs).length = vs.length
  | [] => rfl
  | .slot i :: r => by simp [psOf, psOf_len r]
  | .d i :: r => by simp [psOf, psOf_len r]
theorem psOf_get : ∀ {vs : List Vl} {i : Nat} {p : Addr}, (psOf ρ σ vs)[i]? = some (some p) ↔ ∃ j, vs[i]? = some (.slot j) ∧ isOwn ρ[j]? = true ∧ σ[j]? = some (some (.ref p))
  | [], i, p => by simp [psOf]
  | .d x :: r, 0, p => by simp [psOf]
  | .d x :: r, i + 1, p => by simpa [psOf] using psOf_get (vs := r) (i := i) (p := p)
  | .slot j :: r, i + 1, p => by simpa [psOf] using psOf_get (vs := r) (i := i) (p := p)
  | .slot j :: r, 0, p => by
    simp only [psOf, List.getElem?_cons_zero, Option.some.injEq, Vl.slot.injEq]
    constructor
    · intro h
      refine ⟨j, rfl, ?_⟩
      split at h
      · rename_i q h1 h2; cases h; exact ⟨h1, h2⟩
      · cases h
    · rintro ⟨j', rfl, h1, h2⟩
      rw [h1, h2]
theorem map_get {α β : Type} {f : α → β} {l : List α} {i : Nat} {y : β} (h : (l.map f)[i]? = some y) : ∃ x, l[i]? = some x ∧ f x = y := by
  rw [List.getElem?_map] at h
  cases q : l[i]? with
  | none => rw [q] at h; cases h
  | some x => rw [q] at h; cases h; exact ⟨x, rfl, rfl⟩
theorem Rel.call (r : Rel K n ρ σ F H) {ws : List V} {vs : List Vl} {as : List EV} (hw : Paired (VR K σ F) ws vs) (ha : argsOf ρ vs = some as) (nd : (slotsOf vs).Nodup) :
    Rel K ⟨F, H, psOf ρ σ vs⟩ (as.map some) (ws.map some) F H where
  sub := r.sub
  len := by rw [List.length_map, List.length_map, argsOf_len ha, hw.length]
  dat := fun i x h => by
    obtain ⟨a, h1, h2⟩ := map_get h
    cases h2
    obtain ⟨v, h3, h4⟩ := argsOf_get ha h1
    obtain ⟨w, h5, h6⟩ := paired_get hw h3
    refine ⟨w, by rw [List.getElem?_map, h5]; rfl, ?_⟩
    cases v with
    | d y => cases h4; exact h6
    | slot j =>
      simp only [Vl.arg] at h4
      split at h4 <;> cases h4
  own := fun i b xs h => by
    obtain ⟨a, h1, h2⟩ := map_get h
    cases h2
    obtain ⟨v, h3, h4⟩ := argsOf_get ha h1
    obtain ⟨w, h5, h6⟩ := paired_get hw h3
    cases v with
    | d y => cases h4
    | slot j =>
      simp only [Vl.arg] at h4
      split at h4
      · rename_i b2 ys hj
        cases h4
        obtain ⟨p, us, g1, g2, g3, g4, g5, _⟩ := r.own j b2 xs hj
        have h6 : σ[j]? = some (some w) := h6
        rw [g1] at h6; cases h6
        exact ⟨p, us, by rw [List.getElem?_map, h5]; rfl, g2, g3, g4, g5, psOf_get.mpr ⟨j, h3, by rw [hj]; rfl, g1⟩⟩
      · cases h4
      · cases h4
  scr := fun i xs h => by
    obtain ⟨a, h1, h2⟩ := map_get h
    cases h2
    obtain ⟨v, h3, h4⟩ := argsOf_get ha h1
    obtain ⟨w, h5, h6⟩ := paired_get hw h3
    cases v with
    | d y => cases h4
    | slot j =>
      simp only [Vl.arg] at h4
      split at h4
      · cases h4
      · rename_i ys hj
        cases h4
        obtain ⟨p, g1, g2, g3⟩ := r.scr j xs hj
        have h6 : σ[j]? = some (some w) := h6
        rw [g1] at h6; cases h6
        exact ⟨p, by rw [List.getElem?_map, h5]; rfl, g2, g3⟩
      · cases h4
  inj := fun i i' p h1 h2 h3 h4 => by
    have key : ∀ {i : Nat}, isOwn (as.map some)[i]? = true → (ws.map some)[i]? = some (some (.ref p)) → ∃ j, vs[i]? = some (.slot j) ∧ isOwn ρ[j]? = true ∧ σ[j]? = some (some (.ref p)) := fun {i} h1 h3 => by
      obtain ⟨b, xs, hx⟩ := isOwn_iff.mp h1
      obtain ⟨a, g1, g2⟩ := map_get hx
      cases g2
      obtain ⟨v, g3, g4⟩ := argsOf_get ha g1
      obtain ⟨w, g5, g6⟩ := paired_get hw g3
      rw [List.getElem?_map, g5] at h3
      cases h3
      cases v with
      | d y => cases g4
      | slot j =>
        simp only [Vl.arg] at g4
        split at g4
        · rename_i b2 ys hj; cases g4; exact ⟨j, g3, by rw [hj]; rfl, g6⟩
        · cases g4
        · cases g4
    obtain ⟨j, a1, a2, a3⟩ := key h1 h3
    obtain ⟨j', b1, b2, b3⟩ := key h2 h4
    have := r.inj j j' p a2 b2 a3 b3
    subst this
    exact slots_inj nd a1 b1
  ex0 := Ex.refl _
  keep := fun b o h _ => h
  newF := fun b _ h => h
  par := fun i p h => by
    obtain ⟨j, h1, h2, h3⟩ := psOf_get.mp h
    obtain ⟨w, h5, h6⟩ := paired_get hw h1
    have h6 : σ[j]? = some (some w) := h6
    rw [h3] at h6; cases h6
    refine ⟨by rw [List.getElem?_map, h5]; rfl, ?_⟩
    have hi : i < as.length := by rw [argsOf_len ha]; exact (List.getElem?_eq_some_iff.mp h1).1
    obtain ⟨v, g3, g4⟩ := argsOf_get ha (List.getElem?_eq_getElem hi)
    rw [h1] at g3; cases g3
    obtain ⟨b, xs, hx⟩ := isOwn_iff.mp h2
    simp only [Vl.arg, hx, Option.some.injEq] at g4
    exact ⟨xs, by rw [List.getElem?_map, List.getElem?_eq_getElem hi, ← g4]; rfl⟩
/-- behind a call -/
theorem Step.call (r : Rel K n ρ σ F H) {ws : List V} {vs : List Vl} {as outs : List EV} {rv : EV} {w : V} {F' H' : Hp} (hw : Paired (VR K σ F) ws vs) (ha : argsOf ρ vs = some as) (nd : (slotsOf vs).Nodup)
    (P : Post K ⟨F, H, psOf ρ σ vs⟩ rv outs w F' H') : Step K n σ ρ F H (putBack ρ vs outs) F' H' := by
  have notin : ∀ b, NoOwn ρ σ b → some b ∉ psOf ρ σ vs := fun b h hm => by
    obtain ⟨i, hi, e⟩ := List.getElem_of_mem hm
    obtain ⟨j, h1, h2, h3⟩ := psOf_get.mp (show (psOf ρ σ vs)[i]? = some (some b) by rw [List.getElem?_eq_getElem hi, e])
    exact h j h2 h3
  -- what a slot holds behind it
  have slot : ∀ j : Nat, ((putBack ρ vs outs)[j]? = ρ[j]? ∧ ∀ p, isOwn ρ[j]? = true → σ[j]? = some (some (.ref p)) → some p ∉ psOf ρ σ vs) ∨
      ∃ (i : Nat) (p : Addr) (b : Bool) (ys xs : List D) (us : List V), vs[i]? = some (Vl.slot j) ∧ ρ[j]? = some (some (.own b ys)) ∧ σ[j]? = some (some (.ref p)) ∧ (putBack ρ vs outs)[j]? = some (some (.own b xs)) ∧ H' p = some (.lst us) ∧ xs.length ≤ sizeLine ∧ Rps K F' us xs := fun j => by
    by_cases hj : isOwn ρ[j]? = true ∧ ∃ i : Nat, vs[i]? = some (Vl.slot j)
    · obtain ⟨ho, i, hi⟩ := hj
      obtain ⟨b, ys, hy⟩ := isOwn_iff.mp ho
      obtain ⟨p, us, g1, _⟩ := r.own j b ys hy
      obtain ⟨b', xs, us, o1, o2, o3, o4⟩ := P.outs i p (psOf_get.mpr ⟨j, hi, ho, g1⟩)
      exact Or.inr ⟨i, p, b, ys, xs, us, hi, hy, g1, putBack_in ρ vs outs i j b b' xs ys nd hi o1 hy, o2, o3, o4⟩
    · refine Or.inl ⟨putBack_out ρ vs outs j fun ho i hi => hj ⟨ho, i, hi⟩, fun p ho hs hm => ?_⟩
      obtain ⟨i, hi, e⟩ := List.getElem_of_mem hm
      obtain ⟨j', h1, h2, h3⟩ := psOf_get.mp (show (psOf ρ σ vs)[i]? = some (some p) by rw [List.getElem?_eq_getElem hi, e])
      have := r.inj j j' p ho h2 hs h3
      subst this
      exact hj ⟨ho, i, h1⟩
  have ow : ∀ j : Nat, isOwn (putBack ρ vs outs)[j]? = true → isOwn ρ[j]? = true := fun j h => by
    rcases slot j with ⟨e, _⟩ | ⟨_, _, _, _, _, _, _, ho, _⟩
    · rw [e] at h; exact h
    · rw [ho]; rfl
  refine ⟨P.ex, ⟨P.sub, by rw [putBack_len]; exact r.len, fun i x h => ?_, fun i b xs h => ?_, fun i ns h => ?_, fun i j p h1 h2 h3 h4 => r.inj i j p (ow i h1) (ow j h2) h3 h4, r.ex0.trans P.ex, fun b o h q => ?_, fun b h q => ?_, fun i p h => ?_⟩, fun b o h no => ⟨P.keep b o h (notin b no), fun hf => P.newF b (show H b ≠ none by rw [h]; simp) hf⟩, ow, P.dom⟩
  · rcases slot i with ⟨e, _⟩ | ⟨_, _, _, _, _, _, _, _, _, e, _⟩
    · rw [e] at h
      obtain ⟨u, h1, h2⟩ := r.dat i x h
      exact ⟨u, h1, h2.mono P.ex⟩
    · rw [e] at h; cases h
  · rcases slot i with ⟨e, hn⟩ | ⟨_, p, b2, zs, ys, us, _, hz, hs, e, h1, h2, h3⟩
    · rw [e] at h
      obtain ⟨p, us, h1, h2, h3, h4, h5, h6⟩ := r.own i b xs h
      have np := hn p (isOwn_iff.mpr ⟨b, xs, h⟩) h1
      exact ⟨p, us, h1, P.keep p _ h2 np, P.newF p (show H p ≠ none by rw [h2]; simp) h3, h4, h5.mono P.ex, h6⟩
    · rw [e] at h; cases h
      obtain ⟨p', us', g1, g2, g3, g4, g5, g6⟩ := r.own i b zs hz
      rw [hs] at g1; cases g1
      exact ⟨p, us, hs, h1, P.newF p (show H p ≠ none by rw [g2]; simp) g3, h2, h3, g6⟩
  · rcases slot i with ⟨e, _⟩ | ⟨_, _, _, _, _, _, _, _, _, e, _⟩
    · rw [e] at h
      obtain ⟨p, h1, h2, h3⟩ := r.scr i ns h
      exact ⟨p, h1, ex_l P.ex h2, h3⟩
    · rw [e] at h; cases h
  · by_cases hb : some b ∈ psOf ρ σ vs
    · obtain ⟨m, hm, e⟩ := List.getElem_of_mem hb
      obtain ⟨j, h1, h2, h3⟩ := psOf_get.mp (show (psOf ρ σ vs)[m]? = some (some b) by rw [List.getElem?_eq_getElem hm, e])
      obtain ⟨b3, zs, hz⟩ := isOwn_iff.mp h2
      obtain ⟨p', us', g1, g2, g3, g4, g5, g6⟩ := r.own j b3 zs hz
      rw [h3] at g1; cases g1
      cases b3 with
      | true => exact absurd (List.mem_of_getElem? g6) q
      | false =>
        have g6 : n.H0 b = none := g6
        rw [g6] at h; cases h
    · exact P.keep b o (r.keep b o h q) hb
  · by_cases hb : H b = none
    · exact absurd (r.dom hb) h
    · exact P.newF b hb (r.newF b h q)
  · obtain ⟨h1, xs, h2⟩ := r.par i p h
    refine ⟨h1, ?_⟩
    rcases slot i with ⟨e, _⟩ | ⟨_, _, b2, _, ys, _, _, hz, _, e, _⟩
    · rw [e]; exact ⟨xs, h2⟩
    · rw [h2] at hz; cases hz
      exact ⟨ys, e⟩
/-! ### a call of a def -/
def DO (X : Cx) (e : Expr) (f : Slots → Option (List D × Slots)) : Prop := ∃ t, PE X e t ∧ ∀ (n : Ent) (ρ : Slots) (σ : L2.St) (F H : Hp) (xs : List D) (ρ' : Slots) (Q : VK), Rel X.K n ρ σ F H → f ρ = some (xs, ρ') →
  (∀ F' H' p vs, Step X.K n σ ρ F H ρ' F' H' → H p = none → F' p = none → H' p = some (.lst vs) → xs.length ≤ sizeLine → Rps X.K F' vs xs → Q (.ref p) H') → t σ H Q
end
section
variable {X : Cx} {e a b c : Expr} {pos p q : Pos} {G : Cfg} {ia ib ic : IR} {rest es : List Expr} {k : Nat} {f : Addr} {fd : FuncData} {ps : List Str} {x : Str} {fi : Nat}
/-- what a call asks, whatever its value is -/
theorem call_core {n : Ent} {ρ ρ' : Slots} {σ : L2.St} {F H : Hp} {vs : List Vl} {ws : List V} {r : EV} {Q : VK} (rl : Rel X.K n ρ σ F H) (hw : Paired (VR X.K σ F) ws vs) (g : callD G fi vs ρ = some (r, ρ')) (hl : ps.length = ws.length)
    (k : ∀ F' H' w, Step X.K n σ ρ F H ρ' F' H' → (match r with
      | .d x => Rp X.K F' w x
      | .own _ xs => ∃ p us, w = .ref p ∧ H p = none ∧ F' p = none ∧ H' p = some (.lst us) ∧ xs.length ≤ sizeLine ∧ Rps X.K F' us xs
      | .scr _ => False) → Q w H') (E : XK) : SpF X.K ps.length (G.cf fi) ws H Q E := by
  unfold callD at g
  obtain ⟨as, ha, g⟩ := bind_some g
  split at g
  · rename_i nd
    obtain ⟨⟨r', outs⟩, gc, g⟩ := bind_some g
    obtain ⟨rfl, rfl⟩ := pure_some g
    refine ⟨hl.symm, F, psOf ρ σ vs, as, _, outs, gc, by rw [psOf_len, ← hw.length]; exact Nat.le_of_eq hl.symm, rl.call hw ha nd, fun w F' H' P => k F' H' w (Step.call rl hw ha nd P) P.res⟩
  · cases g
theorem de_call (Fn : FnO X.prog X.w X.K X.mg X.base k f fd ps (SpF X.K ps.length (G.cf fi))) (hgd : X.A.guards = some []) (hr : Room k X.A) (hg : Gl X x) (hm : X.mg x = some (.ref f)) (hk : PySem.W.keepIn X.K (.ref f) = true) (hb : Binds X.K fd ps [])
    (hl : ps.length = (a :: es).length) (hdb : (x == ("__debug__" : Str)) = false) (h1 : starEach (a :: es) X.env = (false, eval a X.env) :: starEach es X.env) (h2 : (backTo pos (starEach es X.env)).any (·.1) = false)
    (ha : DA X (a :: es) (evL G ia)) (hlen : ∀ (ρ ρ' : Slots) (vs : List Vl), evL G ia ρ = some (vs, ρ') → vs.length = (a :: es).length) :
    DE X (.Call (.Name x p) (a :: es) [] pos) (evE G (.call fi ia)) ∧ DO X (.Call (.Name x p) (a :: es) [] pos) (evO G (.call fi ia)) := by
  obtain ⟨ta, pa, qa⟩ := ha
  have pe := po_call (E := E0) (p := p) Fn hgd hr hg hm hk hb pa hdb h1 h2
  constructor
  · refine ⟨_, pe, fun n ρ σ F H v ρ' Q rl g k => ?_⟩
    unfold evE at g
    obtain ⟨⟨vs, ρ1⟩, ga, g⟩ := bind_some g
    obtain ⟨⟨r, ρ2⟩, gc, g⟩ := bind_some g
    obtain ⟨z, gz, g⟩ := bind_some g
    obtain ⟨rfl, rfl⟩ := pure_some g
    refine qa n ρ σ F H vs ρ1 _ rl ga fun F1 H1 ws s1 hv => ?_
    show SpF X.K ps.length (G.cf fi) (ws ++ []) H1 Q E0
    rw [List.append_nil]
    refine call_core s1.rel hv gc (by rw [hl, ← hlen _ _ _ ga]; exact hv.length.symm) (fun F' H' w s2 hres => ?_) E0
    cases r with
    | d y => cases gz; exact k F' H' w (s1.trans s2) hres
    | own b xs =>
      cases gz
      obtain ⟨F2, s3, rp⟩ := shut_own (c := .lst xs) s1.rel s2 hres
      exact k F2 H' w (s1.trans s3) rp
    | scr _ => exact hres.elim
  · refine ⟨_, pe, fun n ρ σ F H xs ρ' Q rl g k => ?_⟩
    unfold evO at g
    obtain ⟨⟨vs, ρ1⟩, ga, g⟩ := bind_some g
    obtain ⟨⟨r, ρ2⟩, gc, g⟩ := bind_some g
    refine qa n ρ σ F H vs ρ1 _ rl ga fun F1 H1 ws s1 hv => ?_
    show SpF X.K ps.length (G.cf fi) (ws ++ []) H1 Q E0
    rw [List.append_nil]
    cases r with
    | d y => cases g
    | scr _ => cases g
    | own b ys =>
      obtain ⟨rfl, rfl⟩ := pure_some g
      refine call_core s1.rel hv gc (by rw [hl, ← hlen _ _ _ ga]; exact hv.length.symm) (fun F' H' w s2 hres => ?_) E0
      obtain ⟨p, us, rfl, h1, h2, h3, h4, h5⟩ := hres
      exact k F' H' p us (s1.trans s2) (s1.dom p h1) h2 h3 h4 h5
end
end Ov

set_option maxHeartbeats 2000000
namespace Ov
open PySem PySem.Spec PyProof.Rows L2 Evl
section
variable {X : Cx} {e a b c : Expr} {pos p q : Pos} {G : Cfg} {ia ib ic : IR} {rest es : List Expr} {k k' : Nat} {f f' : Addr} {fd fd' : FuncData} {ps ps' : List Str} {x x' : Str} {fi gi : Nat}
/-- f(g(..)): the new list of g is handed to f to be changed, then forgotten -/
theorem de_callT (Fn : FnO X.prog X.w X.K X.mg X.base k f fd ps (SpF X.K ps.length (G.cf fi))) (hgd : X.A.guards = some []) (hr : Room k X.A) (hg : Gl X x) (hm : X.mg x = some (.ref f)) (hk : PySem.W.keepIn X.K (.ref f) = true) (hb : Binds X.K fd ps []) (hl : ps.length = 1) (hdb : (x == ("__debug__" : Str)) = false)
    (hi : DO X e (evO G (.call gi ia))) (h1 : starEach [e] X.env = [(false, eval e X.env)]) : DE X (.Call (.Name x p) [e] [] pos) (evE G (.callT fi gi ia)) := by
  obtain ⟨t, pe, q⟩ := hi
  refine ⟨_, po_call (E := E0) (p := p) Fn hgd hr hg hm hk hb (pa_cons pe pa_nil h1) hdb h1 rfl, fun n ρ σ F H v ρ' Q rl g k => ?_⟩
  unfold evE at g
  obtain ⟨⟨vs, ρ1⟩, ga, g⟩ := bind_some g
  obtain ⟨⟨r, ρ2⟩, gc, g⟩ := bind_some g
  cases r with
  | d y => cases g
  | scr _ => cases g
  | own b ys =>
    obtain ⟨⟨r2, outs⟩, gf, g⟩ := bind_some g
    obtain ⟨z, gz, g⟩ := bind_some g
    obtain ⟨rfl, rfl⟩ := pure_some g
    have go : evO G (.call gi ia) ρ = some (ys, ρ') := by
      simp only [evO, ga, gc, bind, Option.bind, pure]
    refine q n ρ σ F H ys _ _ rl go fun F1 H1 p us s1 h1 h2 h3 h4 h5 => ?_
    show SpF X.K ps.length (G.cf fi) ([.ref p] ++ []) H1 Q E0
    rw [List.append_nil]
    have no := (own_ne rl h1).step s1
    have rel : Rel X.K ⟨F1, H1, [some p]⟩ ([EV.own true ys].map some) ([V.ref p].map some) F1 H1 := by
      refine ⟨s1.rel.sub, rfl, fun i x h => ?_, fun i b x h => ?_, fun i x h => ?_, fun i j p h1 h2 h3 h4 => ?_, Ex.refl _, fun b o h _ => h, fun b _ h => h, fun i p' h => ?_⟩
      · match i, h with
        | 0, h => cases h
      · match i, h with
        | 0, h =>
          cases h
          exact ⟨p, us, rfl, h3, h2, h4, h5, rfl⟩
      · match i, h with
        | 0, h => cases h
      · match i, j, h1, h2 with
        | 0, 0, _, _ => rfl
        | 0, j + 1, _, h2 => simp [isOwn] at h2
        | i + 1, _, h1, _ => simp [isOwn] at h1
      · match i, h with
        | 0, h => cases h; exact ⟨rfl, ys, rfl⟩
    refine ⟨by rw [hl]; rfl, F1, [some p], [.own true ys], r2, outs, gf, by rw [hl]; exact Nat.le_refl _, rel, fun w F' H' P => ?_⟩
    have keepN : ∀ b o, H1 b = some o → b ≠ p → H' b = some o := fun b o h ne => P.keep b o h (by simpa using ne)
    have st : Step X.K n σ ρ F H ρ' F' H' := by
      refine ⟨s1.ex.trans P.ex, ⟨P.sub, s1.rel.len, fun i x h => ?_, fun i b x h => ?_, fun i x h => ?_, s1.rel.inj, s1.rel.ex0.trans P.ex, fun b o h q => ?_, fun b h q => ?_, s1.rel.par⟩, fun b o h nb => ?_, s1.ow, fun b h => s1.dom b (P.dom b h)⟩
      · obtain ⟨u, g1, g2⟩ := s1.rel.dat i x h
        exact ⟨u, g1, g2.mono P.ex⟩
      · obtain ⟨p', us', g1, g2, g3, g4, g5, g6⟩ := s1.rel.own i b x h
        have ne : p' ≠ p := fun e => no i (isOwn_iff.mpr ⟨b, x, h⟩) (by rw [g1, e])
        exact ⟨p', us', g1, keepN p' _ g2 ne, P.newF p' (show H1 p' ≠ none by rw [g2]; simp) g3, g4, g5.mono P.ex, g6⟩
      · obtain ⟨p', g1, g2, g3⟩ := s1.rel.scr i x h
        exact ⟨p', g1, ex_l P.ex g2, g3⟩
      · have ne : b ≠ p := fun e => by rw [e, rl.dom h1] at h; cases h
        exact keepN b o (s1.rel.keep b o h q) ne
      · by_cases hb : H1 b = none
        · exact absurd (s1.rel.dom hb) h
        · exact P.newF b hb (s1.rel.newF b h q)
      · have ne : b ≠ p := fun e => by rw [e, h1] at h; cases h
        obtain ⟨f1, f2⟩ := s1.fr b o h nb
        exact ⟨keepN b o f1 ne, fun hf => P.newF b (show H1 b ≠ none by rw [f1]; simp) (f2 hf)⟩
    have res := P.res
    cases r2 with
    | d y => cases gz; exact k F' H' w st res
    | own b xs =>
      cases gz
      obtain ⟨p', us', rfl, r1, r2, r3, r4, r5⟩ := res
      obtain ⟨F2, s3, rp⟩ := shut_own (w := .ref p') (c := .lst xs) rl st ⟨p', us', rfl, s1.dom p' r1, r2, r3, r4, r5⟩
      exact k F2 H' _ s3 rp
    | scr _ => exact res.elim
end
end Ov

set_option maxHeartbeats 2000000
namespace Ov
open PySem PySem.Spec PyProof.Rows L2 Evl
/-- the values of keywords -/
def DK (X : Cx) (kws : List Keyword) (f : Slots → Option (List Vl × Slots)) : Prop := ∃ t, PK X kws t ∧ ∀ (n : Ent) (ρ : Slots) (σ : L2.St) (F H : Hp) (vs : List Vl) (ρ' : Slots) (Q : List V → Hp → Prop), Rel X.K n ρ σ F H → f ρ = some (vs, ρ') →
  (∀ F' H' ws, Step X.K n σ ρ F H ρ' F' H' → Paired (VR X.K σ F') ws vs → Q ws H') → t σ H Q
def pickD {α : Type} (o : List Nat) (ws : List α) : List α := (pickAll ws o).getD []
section
variable {X : Cx} {CX : CXT} {k : Nat} {f : Addr} {fd : FuncData} {ps ks : List Str} {sp : Sp} {E : XK} {x : Str} {p pos : Pos} {kws : List Keyword} {tk : TA} {g : List Value → List Value → List Value} {gV : List V → List V → List V} {G : Cfg} {ia ib : IR} {e : Expr} {nm : Option Str} {kpos : Pos}
theorem dk_nil : DK X [] (evL G .nil) :=
  ⟨_, pk_nil, fun n ρ σ F H vs ρ' Q rl g k => by
    simp only [evL] at g
    cases g
    exact k F H [] (Step.refl rl) .nil⟩
theorem dk_cons (ha : DE X e (evE G ia)) (hb : DK X kws (evL G ib)) : DK X (⟨nm, e, kpos⟩ :: kws) (evL G (.cons ia ib)) := by
  obtain ⟨ta, pa, qa⟩ := ha
  obtain ⟨tb, pb, qb⟩ := hb
  refine ⟨_, pk_cons pa pb, fun n ρ σ F H vs ρ' Q rl g k => ?_⟩
  unfold evL at g
  obtain ⟨⟨va, ρ1⟩, ga, g⟩ := bind_some g
  obtain ⟨⟨vb, ρ2⟩, gb, g⟩ := bind_some g
  obtain ⟨rfl, rfl⟩ := pure_some g
  refine qa n ρ σ F H va ρ1 _ rl ga fun F1 H1 w1 s1 v1 => qb n ρ1 σ F1 H1 vb _ _ s1.rel gb fun F2 H2 ws s2 v2 => ?_
  exact k F2 H2 (w1 :: ws) (s1.trans s2) (.cons (v1.mono s2.ex) v2)
end
section
variable {α β : Type} {R : α → β → Prop}
theorem pair_ix : ∀ {xs : List V} {ys : List Vl} {R : V → Vl → Prop} {i : Nat} {x : V}, Paired R xs ys → xs[i]? = some x → ∃ y, ys[i]? = some y ∧ R x y
  | _, _, _, _, _, .nil, h => by simp at h
  | _, _, _, 0, _, .cons r _, h => by simp at h; subst h; exact ⟨_, rfl, r⟩
  | _, _, _, i + 1, x, .cons _ t, h => by
    obtain ⟨y, h1, h2⟩ := pair_ix t (i := i) (x := x) (by simpa using h)
    exact ⟨y, by simpa using h1, h2⟩
theorem pick_pair {R : V → Vl → Prop} {ws : List V} {vs : List Vl} (h : Paired R ws vs) : ∀ {o : List Nat} {us : List Vl}, pickAll vs o = some us → ∃ zs, pickAll ws o = some zs ∧ Paired R zs us
  | [], us, e => by cases e; exact ⟨[], rfl, .nil⟩
  | i :: o, us, e => by
    simp only [pickAll] at e
    obtain ⟨v, hv, e⟩ := bind_some e
    obtain ⟨q, hq, e⟩ := bind_some e
    cases e
    obtain ⟨w, h1, h2⟩ := paired_get h hv
    obtain ⟨zs, h3, h4⟩ := pick_pair h hq
    exact ⟨w :: zs, by simp [pickAll, h1, h3], .cons h2 h4⟩
theorem pick_len {α : Type} {xs : List α} : ∀ {o : List Nat} {ys : List α}, pickAll xs o = some ys → ys.length = o.length
  | [], ys, e => by cases e; rfl
  | i :: o, ys, e => by
    simp only [pickAll] at e
    obtain ⟨v, hv, e⟩ := bind_some e
    obtain ⟨q, hq, e⟩ := bind_some e
    cases e
    simp [pick_len hq]
end
section
variable {X : Cx} {k : Nat} {f : Addr} {fd : FuncData} {ps ks : List Str} {x : Str} {p pos : Pos} {kws : List Keyword} {G : Cfg} {ia : IR} {si fi : Nat} {o : List Nat}
theorem kw_all {env : Env} {pos : Pos} : ∀ {kws : List Keyword}, (kws.all fun q => q.arg.isSome) = true → (backToKw pos (keywordEach kws env)).all (·.1.isSome) = true ∧ (backToKw pos (keywordEach kws env)).any (·.1.isNone) = false ∧
    (backToKw pos (keywordEach kws env)).filterMap (·.1) = kws.filterMap (·.arg)
  | [], _ => ⟨rfl, rfl, rfl⟩
  | ⟨nm, v, q⟩ :: kws, h => by
    simp only [List.all_cons, Bool.and_eq_true] at h
    obtain ⟨h1, h2, h3⟩ := kw_all (env := env) (pos := pos) h.2
    cases nm with
    | none => cases h.1
    | some nm =>
      refine ⟨?_, ?_, ?_⟩
      · show (true && (backToKw pos (keywordEach kws env)).all (·.1.isSome)) = true
        rw [h1]; rfl
      · show (false || (backToKw pos (keywordEach kws env)).any (·.1.isNone)) = false
        rw [h2]; rfl
      · show nm :: (backToKw pos (keywordEach kws env)).filterMap (·.1) = nm :: kws.filterMap (·.arg)
        rw [h3]
theorem de_callK (Fn : FnO X.prog X.w X.K X.mg X.base k f fd ps (SpF X.K ps.length (G.cf fi))) (hgd : X.A.guards = some []) (hr : Room k X.A) (hg : Gl X x) (hm : X.mg x = some (.ref f)) (hk : PySem.W.keepIn X.K (.ref f) = true)
    (hb : KBn X.K fd ps 0 ks (fun _ ws => pickD o ws) (fun _ zs => pickD o zs)) (hl : ps.length = o.length) (hs : G.sh si = some (fi, o)) (hdb : (x == ("__debug__" : Str)) = false)
    (hall : (kws.all fun q => q.arg.isSome) = true) (hks : kws.filterMap (·.arg) = ks)
    (ha : DK X kws (evL G ia)) (hlen : ∀ (ρ ρ' : Slots) (vs : List Vl), evL G ia ρ = some (vs, ρ') → vs.length = ks.length) :
    DE X (.Call (.Name x p) [] kws pos) (evE G (.callK si ia)) := by
  obtain ⟨ta, pa, qa⟩ := ha
  obtain ⟨a1, a2, a3⟩ := kw_all (env := X.env) (pos := pos) hall
  refine ⟨_, po_callK (E := E0) (p := p) Fn hgd hr hg hm hk hb pa a1 (a3.trans hks) hdb (by rw [a2]; rfl), fun n ρ σ F H v ρ' Q rl g k => ?_⟩
  unfold evE at g
  rw [hs] at g
  obtain ⟨⟨f', o'⟩, e, g⟩ := bind_some g
  cases e
  obtain ⟨⟨vs, ρ1⟩, ga, g⟩ := bind_some g
  obtain ⟨us, gu, g⟩ := bind_some g
  obtain ⟨⟨r, ρ2⟩, gc, g⟩ := bind_some g
  obtain ⟨z, gz, g⟩ := bind_some g
  obtain ⟨rfl, rfl⟩ := pure_some g
  refine qa n ρ σ F H vs ρ1 _ rl ga fun F1 H1 ws s1 hv => ⟨by rw [hv.length]; exact hlen _ _ _ ga, ?_⟩
  obtain ⟨zs, hz, hp⟩ := pick_pair hv gu
  show SpF X.K ps.length (G.cf fi) (pickD o ws) H1 Q E0
  have e2 : pickD o ws = zs := by unfold pickD; rw [hz]; rfl
  rw [e2]
  refine call_core s1.rel hp gc (by rw [hl, pick_len hz]) (fun F' H' w s2 hres => ?_) E0
  cases r with
  | d y => cases gz; exact k F' H' w (s1.trans s2) hres
  | own b xs =>
    cases gz
    obtain ⟨F2, s3, rp⟩ := shut_own (c := .lst xs) s1.rel s2 hres
    exact k F2 H' w (s1.trans s3) rp
  | scr _ => exact hres.elim
end
end Ov

set_option maxHeartbeats 2000000
namespace Ov
open PySem PySem.Spec PyProof.Rows L2 Evl
section
variable {K : PySem.W.Frag} {n : Ent} {σ : L2.St} {ρ : Slots} {F H : Hp}
/-- a slot's own list is shut: data from now on -/
theorem Rel.frz (r : Rel K n ρ σ F H) {i : Nat} {xs : List D} {p : Addr} {vs : List V} (hi : ρ[i]? = some (some (.own false xs))) (hs : σ[i]? = some (some (.ref p))) (hp : H p = some (.lst vs)) (hf : F p = none) (hz : xs.length ≤ sizeLine) (hr : Rps K F vs xs) (h0 : n.H0 p = none) :
    Rel K n (ρ.set i (some (.d (.lst xs)))) σ (upd F p (.lst vs)) H where
  sub := fun b o q => by
    by_cases e : b = p
    · subst e; rw [upd_same] at q; cases q; exact hp
    · rw [upd_ne e] at q; exact r.sub b o q
  len := by rw [List.length_set]; exact r.len
  dat := fun j y h => by
    rw [set_get] at h
    by_cases e : i = j
    · subst e
      rw [if_pos rfl] at h
      split at h
      · cases h; exact ⟨_, hs, rp_new_lst hf hz hr⟩
      · cases h
    · rw [if_neg e] at h
      obtain ⟨w, h1, h2⟩ := r.dat j y h
      exact ⟨w, h1, h2.mono (Ex.new hf)⟩
  own := fun j b y h => by
    rw [set_get] at h
    by_cases e : i = j
    · rw [if_pos e] at h; split at h <;> cases h
    · rw [if_neg e] at h
      obtain ⟨q, us, h1, h2, h3, h4, h5, h6⟩ := r.own j b y h
      have ne : q ≠ p := fun z => e (r.inj i j p (isOwn_iff.mpr ⟨_, _, hi⟩) (isOwn_iff.mpr ⟨_, _, h⟩) hs (by rw [h1, z]))
      exact ⟨q, us, h1, h2, by rw [upd_ne ne]; exact h3, h4, h5.mono (Ex.new hf), h6⟩
  scr := fun j y h => by
    rw [set_get] at h
    by_cases e : i = j
    · rw [if_pos e] at h; split at h <;> cases h
    · rw [if_neg e] at h
      obtain ⟨q, h1, h2, h3⟩ := r.scr j y h
      exact ⟨q, h1, ex_l (Ex.new hf) h2, h3⟩
  inj := fun j l q h1 h2 h3 h4 => by
    rw [set_get] at h1 h2
    by_cases e : i = j
    · rw [if_pos e] at h1; split at h1 <;> cases h1
    · by_cases e' : i = l
      · rw [if_pos e'] at h2; split at h2 <;> cases h2
      · rw [if_neg e] at h1; rw [if_neg e'] at h2
        exact r.inj j l q h1 h2 h3 h4
  ex0 := r.ex0.trans (Ex.new hf)
  keep := r.keep
  newF := fun b h q => by
    have ne : b ≠ p := fun e => h (by rw [e]; exact h0)
    rw [upd_ne ne]; exact r.newF b h q
  par := fun j q h => by
    obtain ⟨h1, ys, h2⟩ := r.par j q h
    have e : i ≠ j := fun e => by rw [← e, hi] at h2; cases h2
    exact ⟨h1, ys, by rw [set_get, if_neg e]; exact h2⟩
/-- a slot's own list is changed -/
theorem Rel.mutO (r : Rel K n ρ σ F H) {i : Nat} {b : Bool} {xs zs : List D} {p : Addr} {us : List V} (hi : ρ[i]? = some (some (.own b xs))) (hs : σ[i]? = some (some (.ref p))) (hz : zs.length ≤ sizeLine) (hr : Rps K F us zs) :
    Rel K n (ρ.set i (some (.own b zs))) σ F (upd H p (.lst us)) := by
  obtain ⟨p', vs, g1, g2, g3, g4, g5, g6⟩ := r.own i b xs hi
  rw [hs] at g1; cases g1
  have li : i < ρ.length := (List.getElem?_eq_some_iff.mp hi).1
  have io : ∀ {j : Nat}, isOwn (ρ.set i (some (.own b zs)))[j]? = true → isOwn ρ[j]? = true := fun {j} h => by
    rw [set_get] at h
    by_cases e : i = j
    · rw [← e, hi]; rfl
    · rw [if_neg e] at h; exact h
  refine ⟨fun c o q => ?_, by rw [List.length_set]; exact r.len, fun j y h => ?_, fun j b2 y h => ?_, fun j y h => ?_, fun j l q h1 h2 h3 h4 => r.inj j l q (io h1) (io h2) h3 h4, r.ex0, fun c o h q => ?_, r.newF, fun j q h => ?_⟩
  · rw [upd_ne (fun e => by rw [e, g3] at q; cases q)]; exact r.sub c o q
  · rw [set_get] at h
    by_cases e : i = j
    · rw [if_pos e] at h; split at h <;> cases h
    · rw [if_neg e] at h; exact r.dat j y h
  · rw [set_get] at h
    by_cases e : i = j
    · subst e
      rw [if_pos rfl, if_pos li] at h
      cases h
      exact ⟨p, us, hs, upd_same, g3, hz, hr, g6⟩
    · rw [if_neg e] at h
      obtain ⟨q, us', h1, h2, h3, h4, h5, h6⟩ := r.own j b2 y h
      have ne : q ≠ p := fun z => e (r.inj i j p (isOwn_iff.mpr ⟨_, _, hi⟩) (isOwn_iff.mpr ⟨_, _, h⟩) hs (by rw [h1, z]))
      exact ⟨q, us', h1, by rw [upd_ne ne]; exact h2, h3, h4, h5, h6⟩
  · rw [set_get] at h
    by_cases e : i = j
    · rw [if_pos e] at h; split at h <;> cases h
    · rw [if_neg e] at h; exact r.scr j y h
  · by_cases e : c = p
    · subst e
      cases b with
      | true => exact absurd (List.mem_of_getElem? g6) q
      | false =>
        have g6 : n.H0 c = none := g6
        rw [g6] at h; cases h
    · rw [upd_ne e]; exact r.keep c o h q
  · obtain ⟨h1, ys, h2⟩ := r.par j q h
    refine ⟨h1, ?_⟩
    rw [set_get]
    by_cases e : i = j
    · subst e
      rw [hi] at h2; cases h2
      exact ⟨zs, by rw [if_pos rfl, if_pos li]⟩
    · exact ⟨ys, by rw [if_neg e]; exact h2⟩
theorem Step.mutO (r : Rel K n ρ σ F H) {i : Nat} {b : Bool} {xs zs : List D} {p : Addr} {us : List V} (hi : ρ[i]? = some (some (.own b xs))) (hs : σ[i]? = some (some (.ref p))) (hz : zs.length ≤ sizeLine) (hr : Rps K F us zs) :
    Step K n σ ρ F H (ρ.set i (some (.own b zs))) F (upd H p (.lst us)) := by
  refine ⟨Ex.refl _, r.mutO hi hs hz hr, fun c o h no => ⟨?_, fun q => q⟩, fun j h => ?_, fun c h => ?_⟩
  · rw [upd_ne (fun e => no i (isOwn_iff.mpr ⟨_, _, hi⟩) (by rw [e]; exact hs))]; exact h
  · rw [set_get] at h
    by_cases e : i = j
    · rw [← e, hi]; rfl
    · rw [if_neg e] at h; exact h
  · by_cases e : c = p
    · rw [e, upd_same] at h; cases h
    · rw [upd_ne e] at h; exact h
end
section
variable {X : Cx} {e a b c : Expr} {pos p q apos : Pos} {G : Cfg} {ia ib ic : IR} {rest es : List Expr} {x : Str}
theorem de_frz {i : Nat} (hN : X.N[i]? = some x) (hv : Vis X.env.scope x) (hd : (x == ("__debug__" : Str)) = false) (hcd : (x == ("__classdict__" : Str)) = false) : DE X (.Name x pos) (evE G (.frz i)) := by
  refine ⟨_, pe_var hN hv hd hcd, fun n ρ σ F H v ρ' Q r g k => ?_⟩
  simp only [evE] at g
  split at g
  · rename_i xs hi
    cases g
    obtain ⟨p, vs, h1, h2, h3, h4, h5, h6⟩ := r.own i false xs hi
    refine ⟨_, h1, k (upd F p (.lst vs)) H _ ⟨Ex.new h3, r.frz hi h1 h2 h3 h4 h5 h6, fun b o hb no => ⟨hb, fun hf => ?_⟩, fun j h => ?_, fun _ h => h⟩ (rp_new_lst h3 h4 h5)⟩
    · have ne : b ≠ p := fun e => no i (isOwn_iff.mpr ⟨_, _, hi⟩) (by rw [e]; exact h1)
      rw [upd_ne ne]; exact hf
    · rw [set_get] at h
      by_cases e : i = j
      · rw [if_pos e] at h; split at h <;> cases h
      · rw [if_neg e] at h; exact h
  · cases g
theorem DN.own (h : DN X e (evE G ia)) (hf : fresh ia = true) : DO X e (evO G ia) := by
  obtain ⟨t, pe, k⟩ := h
  refine ⟨t, pe, fun n ρ σ F H xs ρ' Q r g q => ?_⟩
  have g : (if fresh ia then (do
      match ← evE G ia ρ with
      | (.d (.lst xs), ρ1) => pure (xs, ρ1)
      | _ => none) else none) = some (xs, ρ') := by
    cases ia <;> first | exact g | cases hf
  rw [if_pos hf] at g
  obtain ⟨⟨v, ρ1⟩, ge, g⟩ := bind_some g
  cases v with
  | slot i => cases g
  | d c =>
    cases c with
    | lst ys =>
      obtain ⟨rfl, rfl⟩ := pure_some g
      refine k n ρ σ F H _ _ Q r ge fun F' H' w c s ev nw => ?_
      cases ev
      obtain ⟨p, vs, rfl, h1, h2, h3, h4, h5⟩ := nw
      exact q F' H' p vs s h1 h2 h3 h4 h5
    | _ => cases g
/-! ### methods that change a list -/
def Mu.name : Mu → String
  | .append => "append" | .extend => "extend" | .pop => "pop" | .popAt => "pop" | .insert => "insert"
def MuR (X : Cx) (id : String) (m : Mu) : Prop := ∃ r, MtR X id r ∧ ∀ (F H : Hp) (p : Addr) (vs ws : List V) (ys xs zs : List D) (c : D) (Q : VK), Ex F H → H p = some (.lst vs) → ys.length ≤ sizeLine → Rps X.K F vs ys → Rps X.K F ws xs → muD m ys xs = some (c, zs) →
  (∀ us w, Rps X.K F us zs → zs.length ≤ sizeLine → Rp X.K F w c → Q w (upd H p (.lst us))) → r (.ref p) ws H Q
theorem mur_append : MuR X "list.append" .append := by
  refine ⟨_, mt_append, fun F H p vs ws ys xs zs c Q e hp hz hr hw g k => ?_⟩
  match xs, hw, g with
  | [x], hw, g =>
    cases hw with
    | cons h1 h2 =>
      cases h2
      simp only [muD] at g
      split at g
      · rename_i hl
        cases g
        refine ⟨p, vs, _, rfl, rfl, hp, by rw [hr.length]; exact hl, k _ _ (hr.append (.cons h1 .nil)) (by simp; omega) .non⟩
      · cases g
theorem mur_extend : MuR X "list.extend" .extend := by
  refine ⟨_, mt_extend, fun F H p vs ws ys xs zs c Q e hp hz hr hw g k => ?_⟩
  match xs, hw, g with
  | [.lst us], hw, g =>
    cases hw with
    | cons h1 h2 =>
      cases h2
      simp only [muD] at g
      split at g
      · rename_i hl
        cases g
        cases h1 with
        | lst h3 h4 h5 =>
          refine ⟨p, _, vs, _, rfl, rfl, hp, e _ _ h3, by rw [hr.length, h5.length]; exact hl, k _ _ (hr.append h5) (by rw [List.length_append]; exact hl) .non⟩
      · cases g
theorem mur_popAt : MuR X "list.pop" .popAt := by
  refine ⟨_, mt_popAt, fun F H p vs ws ys xs zs c Q e hp hz hr hw g k => ?_⟩
  match xs, hw, g with
  | [.int i], hw, g =>
    cases hw with
    | cons h1 h2 =>
      cases h2
      cases h1
      simp only [muD] at g
      obtain ⟨j, gj, g⟩ := bind_some g
      obtain ⟨y, gy, g⟩ := bind_some g
      cases g
      rw [ixN_eq] at gj
      obtain ⟨q1, q2, q3, q4⟩ := ixN_seq gj
      obtain ⟨v, hv, rv⟩ := hr.get gy
      have hs : (sizeLine : Int) < 2 ^ 63 := by decide
      refine ⟨p, vs, i, j, v, rfl, rfl, hp, by omega, by omega, by rw [hr.length]; exact q1, hv, k _ _ (hr.eraseIdx j) (by rw [List.length_eraseIdx]; split <;> omega) rv⟩
theorem de_mu {m : Mu} {i : Nat} {id : String} (hm : MuR X id m) (slot : Slot "list" (Str.ofString m.name) id) (hty : typeOf (.builtin id) = pure (.type "method_descriptor"))
    (hN : X.N[i]? = some x) (hv : Vis X.env.scope x) (hd : (x == ("__debug__" : Str)) = false) (hcd : (x == ("__classdict__" : Str)) = false) (ha : DA X (a :: es) (evL G ia))
    (hfew : ((backTo pos (starEach (a :: es) X.env)).all (fun x => !x.1) && (backToKw pos (keywordEach [] X.env)).all (fun x => x.1.isSome)
      && decide ((a :: es).length + ([] : List Keyword).length + (if ([] : List Keyword).isEmpty then 0 else 1) < 30)) = true)
    (hline : (apos.endLine == pos.line) = true) (hs : starEach (a :: es) X.env = (false, eval a X.env) :: starEach es X.env) (hplain : (backTo pos (starEach es X.env)).any (·.1) = false) :
    DE X (.Call (.Attribute (.Name x p) (Str.ofString m.name) apos) (a :: es) [] pos) (evE G (.mu m i ia)) := by
  obtain ⟨ta, pa, qa⟩ := ha
  obtain ⟨r, hr, qr⟩ := hm
  refine ⟨_, pe_bm PySem.F.plainAttrs_list slot hty hr (pe_var hN hv hd hcd) pa rfl hfew hline hs hplain, fun n ρ σ F H v ρ' Q rl g k => ?_⟩
  unfold evE at g
  split at g
  · cases g
  rename_i ho
  have ho : isOwn ρ[i]? = true := by simpa using ho
  obtain ⟨b0, y0, hy0⟩ := isOwn_iff.mp ho
  obtain ⟨p0, us0, g1, g2, _⟩ := rl.own i b0 y0 hy0
  obtain ⟨⟨vs, ρ1⟩, ga, g⟩ := bind_some g
  obtain ⟨xs, gx, g⟩ := bind_some g
  dsimp only at g
  split at g
  · rename_i b ys hi
    obtain ⟨⟨c, zs⟩, gm, g⟩ := bind_some g
    obtain ⟨rfl, rfl⟩ := pure_some g
    refine ⟨_, g1, Or.inl ⟨rfl, _, Or.inl (Or.inl g2)⟩, qa n ρ σ F H vs ρ1 _ rl ga fun F1 H1 ws s1 hv => ?_⟩
    obtain ⟨p1, us1, k1, k2, k3, k4, k5, k6⟩ := s1.rel.own i b ys hi
    rw [g1] at k1; cases k1
    refine qr F1 H1 p0 us1 ws ys xs zs c Q s1.rel.sub k2 k4 k5 (vr_pures hv gx) gm fun us w h1 h2 h3 => ?_
    exact k F1 _ w (s1.trans (Step.mutO s1.rel hi g1 h2 h1)) h3
  · cases g
end
end Ov

set_option maxHeartbeats 2000000
namespace Ov
open PySem PySem.Spec PyProof.Rows L2 Evl
section
variable {K : PySem.W.Frag} {n : Ent} {σ : L2.St} {ρ : Slots} {F H : Hp}
theorem notBox_free (r : Rel K n ρ σ F H) {i : Nat} (h : okSet ρ i = true) : ∀ q, n.ps[i]? ≠ some (some q) := fun q e => by
  obtain ⟨_, xs, hx⟩ := r.par i q e
  simp [okSet, hx, isBox] at h
/-- a slot takes a list of its own -/
theorem Rel.setO (r : Rel K n ρ σ F H) {i : Nat} {p : Addr} {vs : List V} {xs : List D} (hp : H p = some (.lst vs)) (hf : F p = none) (no : NoOwn ρ σ p) (h0 : n.H0 p = none) (hz : xs.length ≤ sizeLine) (hr : Rps K F vs xs) (hq : ∀ q, n.ps[i]? ≠ some (some q)) :
    Rel K n (ρ.set i (some (.own false xs))) (σ.set i (some (.ref p))) F H where
  sub := r.sub
  len := by rw [List.length_set, List.length_set]; exact r.len
  dat := fun j y h => by
    rw [set_get] at h ⊢
    by_cases e : i = j
    · rw [if_pos e] at h; split at h <;> cases h
    · rw [if_neg e] at h ⊢; exact r.dat j y h
  own := fun j b y h => by
    rw [set_get] at h ⊢
    by_cases e : i = j
    · rw [if_pos e] at h ⊢
      rw [← r.len]
      split at h
      · rename_i hl; cases h; rw [if_pos hl]; exact ⟨p, vs, rfl, hp, hf, hz, hr, h0⟩
      · cases h
    · rw [if_neg e] at h ⊢; exact r.own j b y h
  scr := fun j y h => by
    rw [set_get] at h ⊢
    by_cases e : i = j
    · rw [if_pos e] at h; split at h <;> cases h
    · rw [if_neg e] at h ⊢; exact r.scr j y h
  inj := fun j l q h1 h2 h3 h4 => by
    rw [set_get] at h1 h2 h3 h4
    by_cases e : i = j
    · by_cases e' : i = l
      · rw [← e, ← e']
      · rw [if_neg e'] at h2 h4
        rw [if_pos e] at h3
        split at h3
        · cases h3; exact absurd h4 (no l h2)
        · cases h3
    · rw [if_neg e] at h1 h3
      by_cases e' : i = l
      · rw [if_pos e'] at h4
        split at h4
        · cases h4; exact absurd h3 (no j h1)
        · cases h4
      · rw [if_neg e'] at h2 h4
        exact r.inj j l q h1 h2 h3 h4
  ex0 := r.ex0
  keep := r.keep
  newF := r.newF
  par := fun j q h => by
    have e : i ≠ j := fun e => hq q (by rw [e]; exact h)
    rw [set_get, set_get, if_neg e, if_neg e]
    exact r.par j q h
/-- values ready to be stored -/
inductive EVs (K : PySem.W.Frag) (n : Ent) (ρ : Slots) (σ : L2.St) (F H : Hp) : List V → List EV → List Addr → Prop
  | nil : EVs K n ρ σ F H [] [] []
  | d {w : V} {x : D} {ws : List V} {vs : List EV} {ps : List Addr} : Rp K F w x → EVs K n ρ σ F H ws vs ps → EVs K n ρ σ F H (w :: ws) (.d x :: vs) ps
  | o {p : Addr} {us : List V} {xs : List D} {ws : List V} {vs : List EV} {ps : List Addr} : H p = some (.lst us) → F p = none → NoOwn ρ σ p → n.H0 p = none → xs.length ≤ sizeLine → Rps K F us xs → p ∉ ps → EVs K n ρ σ F H ws vs ps →
      EVs K n ρ σ F H (.ref p :: ws) (.own false xs :: vs) (p :: ps)
theorem EVs.len {ws : List V} {vs : List EV} {ps : List Addr} (h : EVs K n ρ σ F H ws vs ps) : ws.length = vs.length := by
  induction h with
  | nil => rfl
  | d _ _ ih => simp [ih]
  | o _ _ _ _ _ _ _ _ ih => simp [ih]
def setSt : L2.St → List (Nat × Bool) → List V → L2.St
  | σ, (i, _) :: fs, w :: ws => setSt (σ.set i (some w)) fs ws
  | σ, _, _ => σ
theorem EVs.mono {F1 H1 : Hp} {σ1 : L2.St} {ρ1 : Slots} {ws : List V} {vs : List EV} {ps : List Addr} (h : EVs K n ρ σ F H ws vs ps) (ex : Ex F F1) (hk : ∀ p ∈ ps, H p ≠ none → H1 p = H p ∧ (F p = none → F1 p = none) ∧ (NoOwn ρ σ p → NoOwn ρ1 σ1 p)) : EVs K n ρ1 σ1 F1 H1 ws vs ps := by
  induction h with
  | nil => exact .nil
  | d h1 _ ih => exact .d (h1.mono ex) (ih hk)
  | o h1 h2 h3 h4 h5 h6 h7 _ ih =>
    obtain ⟨g1, g2, g3⟩ := hk _ (List.mem_cons_self ..) (by rw [h1]; simp)
    exact .o (g1.trans h1) (g2 h2) (g3 h3) h4 h5 (h6.mono ex) h7 (ih fun p hp => hk p (List.mem_cons_of_mem _ hp))
theorem Rel.setAll : ∀ {fs : List (Nat × Bool)} {ws : List V} {vs : List EV} {ps : List Addr} {ρ : Slots} {σ : L2.St}, Rel K n ρ σ F H → EVs K n ρ σ F H ws vs ps → (∀ f ∈ fs, ∀ q, n.ps[f.1]? ≠ some (some q)) → Rel K n (setAll ρ fs vs) (setSt σ fs ws) F H
  | [], ws, vs, ps, ρ, σ, r, _, _ => by
    cases ws <;> cases vs <;> exact r
  | (i, b) :: fs, _, _, _, ρ, σ, r, .nil, _ => r
  | (i, b) :: fs, _, _, _, ρ, σ, r, .d h1 h2, hq => by
    refine Rel.setAll (fs := fs) (ρ := ρ.set i _) (σ := σ.set i _) (r.setD h1 (hq (i, b) (List.mem_cons_self ..))) (h2.mono (Ex.refl _) fun p hp _ => ⟨rfl, fun q => q, fun no j hj => ?_⟩) fun f hf => hq f (List.mem_cons_of_mem _ hf)
    rw [set_get] at hj ⊢
    by_cases e : i = j
    · rw [if_pos e] at hj; split at hj <;> cases hj
    · rw [if_neg e] at hj ⊢; exact no j hj
  | (i, b) :: fs, _, _, _, ρ, σ, r, .o g1 g2 g3 g4 g5 g6 g7 h2, hq => by
    refine Rel.setAll (fs := fs) (ρ := ρ.set i _) (σ := σ.set i _) (r.setO g1 g2 g3 g4 g5 g6 (hq (i, b) (List.mem_cons_self ..))) (h2.mono (Ex.refl _) fun p hp _ => ⟨rfl, fun q => q, fun no j hj => ?_⟩) fun f hf => hq f (List.mem_cons_of_mem _ hf)
    rw [set_get] at hj ⊢
    by_cases e : i = j
    · rw [if_pos e]
      split
      · intro q; cases q; exact g7 hp
      · simp
    · rw [if_neg e] at hj ⊢; exact no j hj
end
/-! ### statements -/
/-- the value that a def hands back -/
def RetR (K : PySem.W.Frag) (n : Ent) (F H : Hp) (w : V) : EV → Prop
  | .d x => Rp K F w x
  | .own _ xs => ∃ p us, w = .ref p ∧ n.H0 p = none ∧ F p = none ∧ H p = some (.lst us) ∧ xs.length ≤ sizeLine ∧ Rps K F us xs
  | .scr _ => False
def EndOk (K : PySem.W.Frag) (n : Ent) (F : Hp) (D : Ends) : Out → Prop
  | .nx ρ => ∀ σ F' H', Ex F F' → Rel K n ρ σ F' H' → D.nx σ H'
  | .ret v ρ => ∀ σ F' H' w, Ex F F' → Rel K n ρ σ F' H' → RetR K n F' H' w v → D.rt w H'
  | .brk ρ => ∀ σ F' H', Ex F F' → Rel K n ρ σ F' H' → D.bk σ H'
  | .ct ρ => ∀ σ F' H', Ex F F' → Rel K n ρ σ F' H' → D.ct σ H'
theorem EndOk.mono {K : PySem.W.Frag} {n : Ent} {F F1 : Hp} {D : Ends} {o : Out} (e : Ex F F1) (h : EndOk K n F D o) : EndOk K n F1 D o := by
  cases o with
  | nx ρ => exact fun σ F' H' ex => h σ F' H' (e.trans ex)
  | ret v ρ => exact fun σ F' H' w ex => h σ F' H' w (e.trans ex)
  | brk ρ => exact fun σ F' H' ex => h σ F' H' (e.trans ex)
  | ct ρ => exact fun σ F' H' ex => h σ F' H' (e.trans ex)
abbrev SF := Slots → Option Out
def DS (X : Cx) (st : Stmt) (f : SF) : Prop := ∃ t, PS X st t ∧ ∀ (n : Ent) (ρ : Slots) (σ : L2.St) (F H : Hp) (o : Out) (D : Ends), Rel X.K n ρ σ F H → f ρ = some o → EndOk X.K n F D o → t D σ H
def DSs (X : Cx) (sts : List Stmt) (f : SF) : Prop := ∃ t, PSs X sts t ∧ ∀ (n : Ent) (ρ : Slots) (σ : L2.St) (F H : Hp) (o : Out) (D : Ends), Rel X.K n ρ σ F H → f ρ = some o → EndOk X.K n F D o → t D σ H
section
variable {X : Cx} {st : Stmt} {sts rest : List Stmt} {e c : Expr} {pos p q : Pos} {G : Cfg} {ia ib ic : IR} {w i : Nat} {x : Str}
theorem dss_nil : DSs X [] (evS G w .skip) := ⟨_, pss_nil, fun n ρ σ F H o D r g k => by
  simp only [evS] at g; cases g
  exact k σ F H (Ex.refl _) r⟩
theorem dss_cons (h1 : DS X st (evS G w ia)) (h2 : DSs X rest (evS G w ib)) : DSs X (st :: rest) (evS G w (.seq ia ib)) := by
  obtain ⟨t, p1, q1⟩ := h1
  obtain ⟨u, p2, q2⟩ := h2
  refine ⟨_, pss_cons p1 p2, fun n ρ σ F H o D r g k => ?_⟩
  unfold evS at g
  obtain ⟨o1, g1, g⟩ := bind_some g
  refine q1 n ρ σ F H o1 { D with nx := u D } r g1 ?_
  cases o1 with
  | nx ρ1 => exact fun σ1 F1 H1 ex r1 => q2 n ρ1 σ1 F1 H1 o D r1 g (k.mono ex)
  | ret v ρ1 => cases g; exact k
  | brk ρ1 => cases g; exact k
  | ct ρ1 => cases g; exact k
theorem ds_pass : DS X (.Pass pos) (evS G w .skip) := ⟨_, ps_pass, fun n ρ σ F H o D r g k => by
  simp only [evS] at g; cases g
  exact k σ F H (Ex.refl _) r⟩
theorem ds_brk : DS X (.Break pos) (evS G w .brk) := ⟨_, ps_break, fun n ρ σ F H o D r g k => by
  simp only [evS] at g; cases g
  exact k σ F H (Ex.refl _) r⟩
theorem ds_cnt : DS X (.Continue pos) (evS G w .cnt) := ⟨_, ps_continue, fun n ρ σ F H o D r g k => by
  simp only [evS] at g; cases g
  exact k σ F H (Ex.refl _) r⟩
theorem ds_expr (h : DE X e (evE G ia)) (hs : swapsWith e none pos.line X.env = pure false) : DS X (.Expr e pos) (evS G w (.expr ia)) := by
  obtain ⟨t, p1, q1⟩ := h
  refine ⟨_, ps_expr p1 hs, fun n ρ σ F H o D r g k => ?_⟩
  unfold evS at g
  obtain ⟨⟨v, ρ1⟩, g1, g⟩ := bind_some g
  cases g
  exact q1 n ρ σ F H v ρ1 _ r g1 fun F1 H1 w1 s1 v1 => k σ F1 H1 s1.ex s1.rel
theorem ds_ret (h : DE X e (evE G ia)) : DS X (.Return (some e) pos) (evS G w (.ret ia)) := by
  obtain ⟨t, p1, q1⟩ := h
  refine ⟨_, ps_ret p1, fun n ρ σ F H o D r g k => ?_⟩
  unfold evS at g
  obtain ⟨⟨v, ρ1⟩, g1, g⟩ := bind_some g
  obtain ⟨x, gx, g⟩ := bind_some g
  cases g
  exact q1 n ρ σ F H v ρ1 _ r g1 fun F1 H1 w1 s1 v1 => k σ F1 H1 w1 s1.ex s1.rel (v1.pure gx)
theorem ds_retO (h : DO X e (evO G ia)) : DS X (.Return (some e) pos) (evS G w (.retO ia)) := by
  obtain ⟨t, p1, q1⟩ := h
  refine ⟨_, ps_ret p1, fun n ρ σ F H o D r g k => ?_⟩
  unfold evS at g
  obtain ⟨⟨v, ρ1⟩, g1, g⟩ := bind_some g
  cases g
  exact q1 n ρ σ F H v ρ1 _ r g1 fun F1 H1 p vs s1 h1 h2 h3 h4 h5 => k σ F1 H1 _ s1.ex s1.rel ⟨p, vs, rfl, r.dom h1, h2, h3, h4, h5⟩
theorem ds_retV (hN : X.N[i]? = some x) (hv : Vis X.env.scope x) (hd : (x == ("__debug__" : Str)) = false) (hcd : (x == ("__classdict__" : Str)) = false) : DS X (.Return (some (.Name x p)) pos) (evS G w (.retV i)) := by
  refine ⟨_, ps_ret (pe_var hN hv hd hcd), fun n ρ σ F H o D r g k => ?_⟩
  unfold evS at g
  split at g
  · rename_i xs hi
    cases g
    obtain ⟨p, vs, h1, h2, h3, h4, h5, h6⟩ := r.own i false xs hi
    exact ⟨_, h1, k σ F H _ (Ex.refl _) r ⟨p, vs, rfl, h6, h3, h2, h4, h5⟩⟩
  · cases g
theorem ds_retN : DS X (.Return none pos) (evS G w .retN) := ⟨_, ps_retN, fun n ρ σ F H o D r g k => by
  simp only [evS] at g; cases g
  exact k σ F H _ (Ex.refl _) r .non⟩
theorem ds_if {a b : List Stmt} (hc : DT X c (evT G ic)) (ha : DSs X a (evS G w ia)) (hb : DSs X b (evS G w ib)) : DS X (.If c a b pos) (evS G w (.ifS ic ia ib)) := by
  obtain ⟨tc, pc, qc⟩ := hc
  obtain ⟨t, p1, q1⟩ := ha
  obtain ⟨u, p2, q2⟩ := hb
  refine ⟨_, ps_if pc p1 p2, fun n ρ σ F H o D r g k => ?_⟩
  unfold evS at g
  obtain ⟨⟨bv, ρ1⟩, gc, g⟩ := bind_some g
  refine qc n ρ σ F H bv ρ1 _ r gc fun F1 H1 s1 => ?_
  cases bv with
  | true => simp only [if_true] at g ⊢; exact q1 n ρ1 σ F1 H1 o D s1.rel g (k.mono s1.ex)
  | false => simp only [Bool.false_eq_true, if_false] at g ⊢; exact q2 n ρ1 σ F1 H1 o D s1.rel g (k.mono s1.ex)
/-! ### stores -/
theorem all_ok {ρ : Slots} {l : List Nat} (h : l.all (okSet ρ) = true) : ∀ i ∈ l, okSet ρ i = true := fun i hi => List.all_eq_true.mp h i hi
theorem ds_asg {tg : Expr} {pt : Pat} (h : DE X e (evE G ia)) (hg : PG X tg (tOfG X.K pt)) (hps : ∀ {te : TE} {g : TG}, PE X e te → PG X tg g → PS X (.Assign [tg] e pos) (tAsg te g)) : DS X (.Assign [tg] e pos) (evS G w (.asg pt ia)) := by
  obtain ⟨t, p1, q1⟩ := h
  refine ⟨_, hps p1 hg, fun n ρ σ F H o D r g k => ?_⟩
  unfold evS at g
  obtain ⟨⟨v, ρ1⟩, g1, g⟩ := bind_some g
  obtain ⟨x, gx, g⟩ := bind_some g
  split at g
  · rename_i hok
    obtain ⟨ρ2, gb, g⟩ := bind_some g
    cases g
    refine q1 n ρ σ F H v ρ1 _ r g1 fun F1 H1 w1 s1 v1 => ?_
    exact ⟨n, ρ1, F1, x, ρ2, s1.rel, v1.pure gx, gb, fun i hi => notBox_free s1.rel (all_ok hok i hi), fun σ' r' _ => k σ' F1 H1 s1.ex r'⟩
  · cases g
theorem pip_of {o : BOp} : ∀ {op : Operator}, (match o with | .add => op = .Add | .sub => op = .Sub | .mul => op = .Mult | _ => False) → ∃ ti, PIp X op ti ∧ ∀ (i j z : Int) (H : Hp) (Q : VK), opD o (.int i) (.int j) = some (.int z) → Q (.int z) H → ti (.int i) (.int j) H Q := by
  intro op h
  cases o <;> try (cases h; done)
  · cases h
    exact ⟨_, ip_add, fun i j z H Q g q => by cases g; exact ⟨i, j, rfl, rfl, q⟩⟩
  · cases h
    exact ⟨_, ip_sub, fun i j z H Q g q => by cases g; exact ⟨i, j, rfl, rfl, q⟩⟩
  · cases h
    refine ⟨_, (iop_mul : OpR X (inplaceOp .Mult) _), fun i j z H Q g q => ?_⟩
    simp only [opD] at g
    split at g
    · rename_i hs
      cases g
      refine ⟨i, j, rfl, rfl, ?_, q⟩
      simp only [small, Bool.or_eq_true, decide_eq_true_eq] at hs
      exact hs
    · cases g
theorem ds_aug {o : BOp} {op : Operator} {pos' : Pos} (ho : (match o with | .add => op = .Add | .sub => op = .Sub | .mul => op = .Mult | _ => False)) (hN : X.N.Nodup) (hi : X.N[i]? = some x) (hx : Loc X.env.scope x) (hf : X.fn x = true ∨ X.env.scope.names.lookup x = some .local) (h : DE X e (evE G ia)) :
    DS X (.AugAssign (.Name x pos') op e pos) (evS G w (.aug o i ia)) := by
  obtain ⟨ti, hti, hq⟩ := pip_of (X := X) ho
  obtain ⟨t, p1, q1⟩ := h
  refine ⟨_, ps_aug hN hi hx p1 hti hf, fun n ρ σ F H out D r g k => ?_⟩
  unfold evS at g
  split at g
  · rename_i v0 hv
    obtain ⟨⟨v, ρ1⟩, g1, g⟩ := bind_some g
    obtain ⟨y, gy, g⟩ := bind_some g
    obtain ⟨j, gj, g⟩ := bind_some g
    split at g
    · rename_i z hz
      cases g
      obtain ⟨w0, hw, rw0⟩ := r.dat i _ hv
      cases rw0
      refine ⟨_, hw, q1 n ρ σ F H v ρ1 _ r g1 fun F1 H1 w1 s1 v1 => ?_⟩
      cases y <;> cases gj
      cases (v1.look s1.rel gy).int
      exact hq _ _ _ _ _ hz (k _ F1 H1 s1.ex (s1.rel.setD (.int z) (notBox_free r (by simp [okSet, hv, isBox]))))
    · cases g
  · cases g
theorem ds_asgO {y : Expr} (h : DO X e (evO G ia)) (hps : ∀ {te : TE}, PE X e te → PS X (.Assign [y] e pos) (tAsg te (gName i))) : DS X (.Assign [y] e pos) (evS G w (.asgO i ia)) := by
  obtain ⟨t, p1, q1⟩ := h
  refine ⟨_, hps p1, fun n ρ σ F H o D r g k => ?_⟩
  unfold evS at g
  obtain ⟨⟨xs, ρ1⟩, g1, g⟩ := bind_some g
  dsimp only at g
  split at g
  · rename_i hok
    cases g
    refine q1 n ρ σ F H xs ρ1 _ r g1 fun F1 H1 p vs s1 h1 h2 h3 h4 h5 => ?_
    exact k _ F1 H1 s1.ex (s1.rel.setO h3 h2 ((own_ne r h1).step s1) (r.dom h1) h4 h5 (notBox_free s1.rel hok))
  · cases g
theorem ds_setI {k2 : Expr} (ha : ∀ v, assign (.Subscript (.Name x p) k2 q) X.env v = (do
      let ov ← holding [v] (eval (.Name x p) X.env)
      let iv ← holding [v, ov] (eval k2 X.env)
      standAt q
      holding [v, ov, iv] (setItem ov iv v)
      release [v, ov, iv] [])) (he : DE X e (evE G ia)) (hk : DE X k2 (evE G ib)) (hN : X.N[i]? = some x) (hv : Vis X.env.scope x) (hd : (x == ("__debug__" : Str)) = false) (hcd : (x == ("__classdict__" : Str)) = false)
    (hsw : swapsWithSole [.Subscript (.Name x p) k2 q] e pos.line X.env = pure false) (hst : swappedStores [.Subscript (.Name x p) k2 q] e X.env = pure none) : DS X (.Assign [.Subscript (.Name x p) k2 q] e pos) (evS G w (.setI i ib ia)) := by
  obtain ⟨t, p1, q1⟩ := he
  obtain ⟨tk, p2, q2⟩ := hk
  refine ⟨_, ps_asg p1 (pg_sub (pe_var hN hv hd hcd) p2 set_list ha) hsw hst rfl, fun n ρ σ F H o D r g kk => ?_⟩
  unfold evS at g
  obtain ⟨⟨v, ρ1⟩, g1, g⟩ := bind_some g
  obtain ⟨y, gy, g⟩ := bind_some g
  split at g
  · cases g
  rename_i ho
  have ho : isOwn ρ1[i]? = true := by simpa using ho
  obtain ⟨⟨v2, ρ2⟩, g2, g⟩ := bind_some g
  obtain ⟨z, gz, g⟩ := bind_some g
  obtain ⟨m, gm, gg⟩ := bind_some g
  clear g
  split at gg
  · rename_i b xs hi
    obtain ⟨j, gj, gg⟩ := bind_some gg
    cases gg
    refine q1 n ρ σ F H v ρ1 _ r g1 fun F1 H1 w1 s1 v1 => ?_
    obtain ⟨b0, y0, hy0⟩ := isOwn_iff.mp ho
    obtain ⟨p0, us0, h1, h2, _⟩ := s1.rel.own i b0 y0 hy0
    refine ⟨_, h1, q2 n ρ1 σ F1 H1 v2 ρ2 _ s1.rel g2 fun F2 H2 w2 s2 vv2 => ?_⟩
    obtain ⟨p3, us3, k1, k3, k4, k5, k6, _⟩ := s2.rel.own i b xs hi
    rw [h1] at k1; cases k1
    cases z <;> cases gm
    cases (vv2.look s2.rel gz).int
    refine ⟨p0, us3, m, j, rfl, rfl, k3, by rw [k6.length, ← ixN_eq]; exact gj, ?_⟩
    exact kk σ F2 _ (s1.ex.trans s2.ex) (s2.rel.mutO hi h1 (by rw [List.length_set]; exact k5) (k6.set ((v1.pure gy).mono s2.ex) j))
  · cases gg
end
end Ov

set_option maxHeartbeats 2000000
namespace Ov
open PySem PySem.Spec PyProof.Rows L2 Evl
section
variable {X : Cx} {st : Stmt} {sts rest : List Stmt} {e c : Expr} {pos p q : Pos} {G : Cfg} {ia ib ic : IR} {w i : Nat} {x : Str}
theorem forGo_cons {body : D → Slots → Option Out} {d : D} {xs : List D} {ρ : Slots} : forGo body (d :: xs) ρ = (do
    match ← body d ρ with
    | .nx ρ1 => forGo body xs ρ1
    | .ct ρ1 => forGo body xs ρ1
    | .brk ρ1 => pure (.nx ρ1)
    | .ret v ρ1 => pure (.ret v ρ1)) := rfl
theorem ds_for {tg iter : Expr} {pt : Pat} {body : List Stmt} (hpo : PassesOwn (model X.prog X.w) X.A X.env X.xe) (hc : X.calm = true) {ik : ItK} {ita itb : IR} (hi : DI X tg iter (evI G ik ita itb)) (hg : PG X tg (tOfG X.K pt)) (hb : DSs X body (evS G w ib))
    (hs : ∀ x, foldedSetIterable iter X.env x = pure x) : DS X (.For tg iter body [] pos) (evS G w (.forS pt ik ita itb ib)) := by
  obtain ⟨wi, pi, qi⟩ := hi
  obtain ⟨tb, pb, qb⟩ := hb
  refine ⟨_, ps_for hpo hc pi hg pb hs, fun n ρ σ F H o D r g k => ?_⟩
  unfold evS at g
  obtain ⟨⟨xs, ρ1⟩, gi, g⟩ := bind_some g
  refine qi n ρ σ F H xs ρ1 _ r gi fun F1 H1 J Gd Y s1 hz wk hG yd => ?_
  have k := k.mono s1.ex
  refine for_it wk (fun i σi Hi => ∃ ρi Fi, Ex F1 Fi ∧ Rel X.K n ρi σi Fi Hi ∧ forGo (fun x ρ => if pt.slots.all (okSet ρ) then (do let ρa ← Pat.bind pt x ρ; evS G w ib ρa) else none) (xs.drop i) ρi = some o) ?_ ?_ ?_ ?_
  · exact ⟨ρ1, F1, Ex.refl _, s1.rel, by simpa using g⟩
  · rintro i σi Hi hi ⟨ρi, Fi, ex, ri, _⟩
    exact hG Hi (ex.trans ri.sub)
  · rintro i x σi Hi H2 hi ⟨ρi, Fi, ex, ri, gg⟩ hy
    obtain ⟨d, hxd, q⟩ := yd i Hi x H2 hi (ex.trans ri.sub) hy
    obtain ⟨F2, al, rp⟩ := q Fi ex ri.sub
    have hdrop : xs.drop i = d :: xs.drop (i + 1) := by
      obtain ⟨hi', e⟩ := List.getElem?_eq_some_iff.mp hxd
      rw [← e]; exact List.drop_eq_getElem_cons hi'
    rw [hdrop, forGo_cons] at gg
    obtain ⟨o1, g1, g2⟩ := bind_some gg
    split at g1
    · rename_i hok
      obtain ⟨ρa, ga, gb⟩ := bind_some g1
      have r2 := ri.al al
      refine ⟨n, ρi, F2, d, ρa, r2, rp, ga, fun j hj => notBox_free ri (all_ok hok j hj), fun σ2 r3 _ => ?_⟩
      refine qb n ρa σ2 F2 H2 o1 _ r3 gb ?_
      have ex2 := ex.trans al.ex
      cases o1 with
      | nx ρ3 => exact fun σ3 F3 H3 e3 r3 => ⟨ρ3, F3, ex2.trans e3, r3, g2⟩
      | ct ρ3 => exact fun σ3 F3 H3 e3 r3 => ⟨ρ3, F3, ex2.trans e3, r3, g2⟩
      | brk ρ3 => cases g2; exact fun σ3 F3 H3 e3 r3 => k σ3 F3 H3 (ex2.trans e3) r3
      | ret v ρ3 => cases g2; exact fun σ3 F3 H3 w3 e3 r3 rr => k σ3 F3 H3 w3 (ex2.trans e3) r3 rr
    · cases g1
  · rintro σi Hi ⟨ρi, Fi, ex, ri, gg⟩
    rw [List.drop_length] at gg
    simp only [forGo, Option.some.injEq] at gg
    subst gg
    exact k σi Fi Hi ex ri
theorem ds_while {body : List Stmt} (hpo : PassesOwn (model X.prog X.w) X.A X.env X.xe) (hc : DT X c (evT G ic)) (hb : DSs X body (evS G w ib)) : DS X (.While c body [] pos) (evS G w (.whS ic ib)) := by
  obtain ⟨tb, pb, qb⟩ := hb
  refine ⟨_, ps_while hpo hc.can pb, fun n ρ σ F H o D r g k => ?_⟩
  unfold evS at g
  refine ⟨fun m σi Hi => ∃ ρi Fi, Ex F Fi ∧ Rel X.K n ρi σi Fi Hi ∧ whGo (evT G ic) (evS G w ib) m ρi = some o, ⟨w, ρ, F, Ex.refl _, r, g⟩, ?_⟩
  rintro m σi Hi ⟨ρi, Fi, ex, ri, gg⟩
  cases m with
  | zero => cases gg
  | succ m =>
    simp only [whGo] at gg
    obtain ⟨⟨b, ρ1⟩, gt, gg⟩ := bind_some gg
    refine ⟨n, ρi, Fi, b, ρ1, ri, gt, fun F1 H1 s1 => ?_⟩
    cases b with
    | false =>
      simp only [Bool.false_eq_true, if_false] at gg ⊢
      cases gg
      exact k σi F1 H1 (ex.trans s1.ex) s1.rel
    | true =>
      simp only [if_true] at gg ⊢
      obtain ⟨o1, g1, g2⟩ := bind_some gg
      refine ⟨fun σ' H' => ∃ ρ' F', Ex F F' ∧ Rel X.K n ρ' σ' F' H' ∧ whGo (evT G ic) (evS G w ib) m ρ' = some o, fun σ' H' h => ⟨m, Nat.lt_succ_self m, h⟩, ?_⟩
      refine qb n ρ1 σi F1 H1 o1 _ s1.rel g1 ?_
      have ex2 := ex.trans s1.ex
      cases o1 with
      | nx ρ3 => exact fun σ3 F3 H3 e3 r3 => ⟨ρ3, F3, ex2.trans e3, r3, g2⟩
      | ct ρ3 => exact fun σ3 F3 H3 e3 r3 => ⟨ρ3, F3, ex2.trans e3, r3, g2⟩
      | brk ρ3 => cases g2; exact fun σ3 F3 H3 e3 r3 => k σ3 F3 H3 (ex2.trans e3) r3
      | ret v ρ3 => cases g2; exact fun σ3 F3 H3 w3 e3 r3 rr => k σ3 F3 H3 w3 (ex2.trans e3) r3 rr
/-! ### a, b = e1, e2 -/
def DPs (X : Cx) (es : List Expr) (f : Slots → Option (List EV × Slots)) : Prop := ∃ t, PA X es t ∧ ∀ (n : Ent) (ρ : Slots) (σ : L2.St) (F H : Hp) (vs : List EV) (ρ' : Slots) (Q : List V → Hp → Prop), Rel X.K n ρ σ F H → f ρ = some (vs, ρ') →
  (∀ F' H' ws ps, Step X.K n σ ρ F H ρ' F' H' → EVs X.K n ρ' σ F' H' ws vs ps → (∀ p ∈ ps, H p = none) → Q ws H') → t σ H Q
theorem dps_nil : DPs X [] (evP G [] .nil) := ⟨_, pa_nil, fun n ρ σ F H vs ρ' Q rl g k => by
  simp only [evP] at g
  cases g
  exact k F H [] [] (Step.refl rl) .nil (fun _ h => by cases h)⟩
theorem dps_d {a : Expr} {es : List Expr} {fs : List (Nat × Bool)} (ha : DE X a (evE G ia)) (hb : DPs X es (evP G fs ib)) (hs : starEach (a :: es) X.env = (false, eval a X.env) :: starEach es X.env) : DPs X (a :: es) (evP G ((i, false) :: fs) (.cons ia ib)) := by
  obtain ⟨ta, pa, qa⟩ := ha
  obtain ⟨tb, pb, qb⟩ := hb
  refine ⟨_, pa_cons pa pb hs, fun n ρ σ F H vs ρ' Q rl g k => ?_⟩
  unfold evP at g
  obtain ⟨⟨va, ρ1⟩, ga, g⟩ := bind_some g
  obtain ⟨x, gx, g⟩ := bind_some g
  obtain ⟨⟨vb, ρ2⟩, gb, g⟩ := bind_some g
  obtain ⟨rfl, rfl⟩ := pure_some g
  refine qa n ρ σ F H va ρ1 _ rl ga fun F1 H1 w1 s1 v1 => qb n ρ1 σ F1 H1 vb _ _ s1.rel gb fun F2 H2 ws ps s2 hv hp => ?_
  exact k F2 H2 (w1 :: ws) ps (s1.trans s2) (.d ((v1.pure gx).mono s2.ex) hv) fun p h => s1.dom p (hp p h)
theorem dps_o {a : Expr} {es : List Expr} {fs : List (Nat × Bool)} (ha : DO X a (evO G ia)) (hb : DPs X es (evP G fs ib)) (hs : starEach (a :: es) X.env = (false, eval a X.env) :: starEach es X.env) : DPs X (a :: es) (evP G ((i, true) :: fs) (.cons ia ib)) := by
  obtain ⟨ta, pa, qa⟩ := ha
  obtain ⟨tb, pb, qb⟩ := hb
  refine ⟨_, pa_cons pa pb hs, fun n ρ σ F H vs ρ' Q rl g k => ?_⟩
  unfold evP at g
  obtain ⟨⟨xs, ρ1⟩, ga, g⟩ := bind_some g
  obtain ⟨⟨vb, ρ2⟩, gb, g⟩ := bind_some g
  obtain ⟨rfl, rfl⟩ := pure_some g
  refine qa n ρ σ F H xs ρ1 _ rl ga fun F1 H1 p us s1 h1 h2 h3 h4 h5 => qb n ρ1 σ F1 H1 vb _ _ s1.rel gb fun F2 H2 ws ps s2 hv hp => ?_
  have no := (own_ne rl h1).step s1
  have f2 := s2.fr p _ h3 no
  refine k F2 H2 (.ref p :: ws) (p :: ps) (s1.trans s2) (.o f2.1 (f2.2 h2) (no.step s2) (rl.dom h1) h4 (h5.mono s2.ex) (fun hm => ?_) hv) fun q h => ?_
  · have := hp p hm
    rw [this] at h3; cases h3
  · rcases List.mem_cons.mp h with e | h
    · rw [e]; exact h1
    · exact s1.dom q (hp q h)
/-- the names' own targets -/
def gNames : List (Nat × Bool) → TGs
  | [] => gNil
  | (i, _) :: fs => gCons (gName i) (gNames fs)
theorem gNames_set : ∀ {fs : List (Nat × Bool)} {ws : List V} {σ : L2.St} {H : Hp} {Q : L2.St → Hp → Prop}, ws.length = fs.length → Q (setSt σ fs ws) H → gNames fs ws σ H Q
  | [], [], σ, H, Q, _, q => ⟨rfl, q⟩
  | (i, b) :: fs, w :: ws, σ, H, Q, hl, q => ⟨w, ws, rfl, gNames_set (by simpa using hl) q⟩
  | [], _ :: _, _, _, _, hl, _ => by cases hl
  | _ :: _, [], _, _, _, hl, _ => by cases hl
theorem evP_len : ∀ (fs : List (Nat × Bool)) {ir : IR} {ρ ρ' : Slots} {vs : List EV}, evP G fs ir ρ = some (vs, ρ') → vs.length = fs.length
  | [], ir, ρ, ρ', vs, h => by
    cases ir <;> first
      | (simp [evP] at h; done)
      | (simp only [evP] at h; cases h; rfl)
  | (i, b) :: fs, ir, ρ, ρ', vs, h => by
    cases ir with
    | cons a c =>
      cases b with
      | true =>
        unfold evP at h
        obtain ⟨⟨xs, ρ1⟩, ga, g⟩ := bind_some h
        obtain ⟨⟨vb, ρ2⟩, gb, g⟩ := bind_some g
        obtain ⟨rfl, rfl⟩ := pure_some g
        simp [evP_len fs gb]
      | false =>
        unfold evP at h
        obtain ⟨⟨va, ρ1⟩, ga, g⟩ := bind_some h
        obtain ⟨x, gx, g⟩ := bind_some g
        obtain ⟨⟨vb, ρ2⟩, gb, g⟩ := bind_some g
        obtain ⟨rfl, rfl⟩ := pure_some g
        simp [evP_len fs gb]
    | _ => cases b <;> (simp [evP] at h)
theorem ds_par {tgs es : List Expr} {fs : List (Nat × Bool)} {k1 k2 : Nat} (h : DPs X es (evP G fs ia)) (hl : es.length = fs.length)
    (hps : ∀ {ta : TA}, PA X es ta → ∃ t, PS X (.Assign [.Tuple tgs k1 p] (.Tuple es k2 q) pos) t ∧ ∀ D σ H, (ta σ H fun ws H1 => ws.length ≤ sizeLine ∧ ws.length = fs.length ∧ ∀ H2, (H2 = H1 ∨ ∃ p, H1 p = none ∧ H2 = upd H1 p (.tup ws)) → D.nx (setSt σ fs ws) H2) → t D σ H) (hz : fs.length ≤ sizeLine) :
    DS X (.Assign [.Tuple tgs k1 p] (.Tuple es k2 q) pos) (evS G w (.par fs ia)) := by
  obtain ⟨ta, pa, qa⟩ := h
  obtain ⟨t, ps, qs⟩ := hps pa
  refine ⟨t, ps, fun n ρ σ F H o D r g k => ?_⟩
  unfold evS at g
  obtain ⟨⟨vs, ρ1⟩, ga, g⟩ := bind_some g
  dsimp only at g
  split at g
  · rename_i hok
    cases g
    refine qs D σ H (qa n ρ σ F H vs ρ1 _ r ga fun F1 H1 ws ps s1 hv hp => ?_)
    have hlen : ws.length = fs.length := by rw [hv.len]; exact evP_len fs ga
    refine ⟨by omega, hlen, fun H2 h2 => ?_⟩
    have hq : ∀ f ∈ fs, ∀ q, n.ps[f.1]? ≠ some (some q) := fun f hf => notBox_free s1.rel (List.all_eq_true.mp hok f hf)
    rcases h2 with rfl | ⟨p2, hp2, rfl⟩
    · exact k _ F1 _ s1.ex (Rel.setAll s1.rel hv hq)
    · have al := Al.own (o := .tup ws) s1.rel.sub hp2
      refine k _ F1 _ s1.ex (Rel.setAll (s1.rel.al al) (hv.mono (Ex.refl _) fun p hp hn => ⟨?_, fun q => q, fun no => no⟩) hq)
      rw [upd_ne (fun e => hn (by rw [e]; exact hp2))]
  · cases g
end
end Ov

set_option maxHeartbeats 4000000
namespace Ov
open PySem PySem.Spec PyProof.Rows L2 Evl
/-! ### the checker -/
structure CI where
  N : List Str
  sc : Scope
  fn : Str → Bool
structure Tab where
  /-- name and number of parameters of a def -/
  fn : Nat → Option (Str × Nat)
  gl : Nat → Option Str
  /-- keyword shapes: the def's name, the keywords -/
  sh : Nat → Option (Str × List Str)
  free : List Str
  /-- dicts of the top -/
  dg : Nat → Option Str
def isStar : Expr → Bool
  | .Starred .. => true
  | _ => false
def isSlice : Expr → Bool
  | .Slice .. => true
  | _ => false
def isIfE : Expr → Bool
  | .IfExp .. => true
  | _ => false
def isSetE : Expr → Bool
  | .Set .. => true
  | _ => false
def BOp.py : BOp → Operator
  | .add => .Add | .sub => .Sub | .mul => .Mult | .fdiv => .FloorDiv | .mod => .Mod | .pow => .Pow
def visB (C : CI) (x : Str) : Bool := match C.sc.names.lookup x with
  | some .local => true
  | some .cell => true
  | some .free => true
  | _ => false
def nameB (C : CI) (i : Nat) (x : Str) : Bool := C.N[i]? == some x && visB C x && !(x == ("__debug__" : Str)) && !(x == ("__classdict__" : Str))
def glB (C : CI) (x : Str) : Bool := decide (C.sc.names.lookup x = some .globalImplicit)
def chkP (C : CI) : Pat → Expr → Bool
  | .nm i, e => match e with
    | .Name x _ => C.N[i]? == some x && (decide (C.sc.names.lookup x = some .local) || (decide (C.sc.names.lookup x = some .cell) && C.fn x))
    | _ => false
  | .tp p, e => match e with
    | .Tuple es _ _ => chkPs C p es
    | _ => false
  | _, _ => false
where chkPs (C : CI) : Pat → List Expr → Bool
  | .nil, [] => true
  | .cons a b, e :: es => !isStar e && chkP C a e && chkPs C b es
  | _, _ => false
def ownOf (C : CI) (vs : List Nat) : List (Str × Nat) := vs.map fun i => (C.N.getD i "", i)
def inBlk (C : CI) (scope : Scope) : CI := ⟨C.N, relS scope C.sc, fun x => scope.names.lookup x == some .cell⟩
def tyArgs : List Ty → Expr → Bool
  | [t], .Name x _ => x == Str.ofString t.nm
  | _, _ => false
def tyTup : List Ty → List Expr → Bool
  | [], [] => true
  | t :: ts, .Name x _ :: es => x == Str.ofString t.nm && tyTup ts es
  | _, _ => false
/-- a method may be asked of these by name -/
def recvB : Expr → Bool
  | .Name .. => true
  | .Constant .. => true
  | .ListComp .. => true
  | _ => false
def Mt.name : Mt → String
  | .index => "index"
  | .join => "join"
mutual
def chkE (T : Tab) : CI → IR → Expr → Bool
  | C, .var i, e => match e with
    | .Name x _ => nameB C i x
    | _ => false
  | C, .frz i, e => match e with
    | .Name x _ => nameB C i x
    | _ => false
  | C, .glob g, e => match e with
    | .Name x _ => T.gl g == some x && glB C x && !(x == ("__debug__" : Str))
    | _ => false
  | _, .int n, e => match e with
    | .Constant (.int m) _ _ => n == m
    | _ => false
  | _, .str n, e => match e with
    | .Constant (.str m) _ _ => n == m
    | _ => false
  | _, .bl n, e => match e with
    | .Constant (.bool m) _ _ => n == m
    | _ => false
  | _, .non, e => match e with
    | .Constant .none _ _ => true
    | _ => false
  | C, .op o a b, e => match e with
    | .BinOp l o' r _ => decide (o.py = o') && chkE T C a l && chkE T C b r
    | _ => false
  | C, .neg a, e => match e with
    | .UnaryOp .USub l _ => chkE T C a l
    | _ => false
  | C, .cmp o a b, e => match e with
    | .Compare l [o'] [r] _ => decide (o.py = o') && chkE T C a l && chkE T C b r && !behindInMarks o.py r
    | _ => false
  | C, .chain o o' a b c, e => match e with
    | .Compare l [p, q] [m, r] _ => decide (o.py = p) && decide (o'.py = q) && chkE T C a l && chkE T C b m && chkE T C c r && !lastMarks [o.py, o'.py] [m, r]
    | _ => false
  | C, .isn ng a, e => match e with
    | .Compare l [o'] [.Constant .none _ _] _ => decide ((if ng then CmpOp.IsNot else CmpOp.Is) = o') && chkE T C a l
    | _ => false
  | C, .one a, e => match e with
    | .BoolOp _ [l] _ => chkE T C a l && !isIfE l
    | _ => false
  | C, .band a b, e => match e with
    | .BoolOp .And (l :: m :: rest) pos => chkE T C a l && !isIfE l && chkE T C b (.BoolOp .And (m :: rest) pos)
    | _ => false
  | C, .bor a b, e => match e with
    | .BoolOp .Or (l :: m :: rest) pos => chkE T C a l && !isIfE l && chkE T C b (.BoolOp .Or (m :: rest) pos)
    | _ => false
  | C, .bnot a, e => match e with
    | .UnaryOp .Not l _ => chkE T C a l && !isIfE l
    | _ => false
  | C, .ife c a b, e => match e with
    | .IfExp ce ae be _ => chkE T C c ce && !isIfE ce && chkE T C a ae && chkE T C b be
    | _ => false
  | C, .tup es, e => match e with
    | .Tuple l _ _ => chkL T C es l
    | _ => false
  | C, .lst es, e => match e with
    | .List l _ => chkL T C es l
    | _ => false
  | C, .idx a i, e => match e with
    | .Subscript l k _ => chkE T C a l && chkE T C i k && !isSlice k
    | _ => false
  | C, .dget a k, e => match e with
    | .Subscript (.Call (.Name x _) [l] [] _) i _ => x == ("dict" : Str) && glB C x && T.free.contains x && !isStar l && chkE T C a l && chkE T C k i && !isSlice i
    | _ => false
  | C, .lrng a b, e => match e with
    | .Call (.Name x _) [.Call (.Name y _) [l, m] [] _] [] _ => x == ("list" : Str) && glB C x && T.free.contains x && y == ("range" : Str) && glB C y && T.free.contains y && !isStar l && !isStar m && chkE T C a l && chkE T C b m
    | _ => false
  | C, .gdg g k, e => match e with
    | .Subscript (.Name x _) i _ => T.dg g == some x && glB C x && !(x == ("__debug__" : Str)) && chkE T C k i && !isSlice i
    | _ => false
  | C, .mt m o es, e => match e with
    | .Call (.Attribute oe nm ap) [a] [] pos => recvB oe && nm == Str.ofString m.name && chkE T C o oe && chkL T C es [a] && (ap.endLine == pos.line)
    | _ => false
  | C, .stp a s, e => match e with
    | .Subscript l (.Slice none none (some st) _) _ => chkE T C a l && chkE T C s st
    | _ => false
  | C, .isb ng a b, e => match e with
    | .Compare l [o'] [.Constant (.bool b') _ _] _ => decide ((if ng then CmpOp.IsNot else CmpOp.Is) = o') && (b == b') && chkE T C a l
    | _ => false
  | C, .slc a lo hi, e => match e with
    | .Subscript l (.Slice x y none _) _ => chkE T C a l && (match x with
        | none => (match lo with | .nil => true | _ => false)
        | some x => chkE T C lo x) && (match y with
        | none => (match hi with | .nil => true | _ => false)
        | some y => chkE T C hi y)
    | _ => false
  | C, .call f es, e => match e with
    | .Call (.Name x _) (a :: as) [] _ => decide (T.fn f = some (x, (a :: as).length)) && glB C x && !(x == ("__debug__" : Str)) && chkL T C es (a :: as)
    | _ => false
  | C, .callK s ks, e => match e with
    | .Call (.Name x _) [] kws _ => decide (T.sh s = some (x, kws.filterMap (·.arg))) && (kws.all fun q => q.arg.isSome) && glB C x && !(x == ("__debug__" : Str)) && chkL T C ks (kws.map (·.value))
    | _ => false
  | C, .callT f g es, e => match e with
    | .Call (.Name x _) [.Call (.Name y _) (a :: as) [] _] [] _ => decide (T.fn f = some (x, 1)) && glB C x && !(x == ("__debug__" : Str)) && decide (T.fn g = some (y, (a :: as).length)) && glB C y && !(y == ("__debug__" : Str)) && chkL T C es (a :: as)
    | _ => false
  | C, .bi b es, e => match e with
    | .Call (.Name x _) (a :: as) [] _ => x == Str.ofString b.name && glB C x && T.free.contains x && chkL T C es (a :: as)
    | _ => false
  | C, .lenS a, e => match e with
    | .Call (.Name x _) [l] [] _ => x == ("len" : Str) && glB C x && T.free.contains x && !isStar l && chkE T C a l
    | _ => false
  | C, .isi a ts, e => match e with
    | .Call (.Name x _) [l, t] [] _ => x == ("isinstance" : Str) && glB C x && T.free.contains x && !isStar l && chkE T C a l && (ts.all fun t => glB C (Str.ofString t.nm) && T.free.contains (Str.ofString t.nm)) && (tyArgs ts t || (match t with
        | .Tuple es _ _ => tyTup ts es && decide (ts.length ≤ 1000)
        | _ => false))
    | _ => false
  | C, .mu m i es, e => match e with
    | .Call (.Attribute (.Name x _) nm ap) (a :: as) [] pos => nameB C i x && nm == Str.ofString m.name && chkL T C es (a :: as) && decide (as.length < 20) && (ap.endLine == pos.line) && (match m with | .append => true | .extend => true | .popAt => true | _ => false)
    | _ => false
  | C, .comp vs p k a b c e, ex => match ex with
    | .ListComp elt [⟨tg, iter, ifs, 0⟩] scope _ => blkC C.N C.sc scope (ownOf C vs) && (p.slots.all fun i => vs.contains i) && (match k with
      | .seq => chkE T C a iter
      | .rng => (match iter with
        | .Call (.Name x _) [l] [] _ => x == ("range" : Str) && glB C x && T.free.contains x && !isStar l && chkE T C a l
        | _ => false)
      | .enm => (match iter, tg with
        | .Call (.Name x _) [l] [] _, .Tuple _ _ _ => x == ("enumerate" : Str) && glB C x && T.free.contains x && !isStar l && chkE T C a l
        | _, _ => false)
      | .zip => (match iter, tg with
        | .Call (.Name x _) [l, m] [] _, .Tuple _ _ _ => x == ("zip" : Str) && glB C x && T.free.contains x && !isStar l && !isStar m && chkE T C a l && chkE T C b m
        | _, _ => false)) && !isSetE iter && chkP (inBlk C scope) p tg && (match ifs with
        | [] => (match c with | .nil => true | _ => false)
        | [t] => (match c with | .nil => false | _ => true) && !isIfE t && chkE T (inBlk C scope) c t
        | _ => false) && chkE T (inBlk C scope) e elt
    | _ => false
  | _, .skip, _ => true
  | _, _, _ => false
def chkL (T : Tab) : CI → IR → List Expr → Bool
  | _, .nil, l => match l with
    | [] => true
    | _ => false
  | C, .cons a b, l => match l with
    | e :: es => !isStar e && chkE T C a e && chkL T C b es
    | _ => false
  | _, _, _ => false
end
def chkI (T : Tab) (C : CI) (k : ItK) (a b : IR) (tg iter : Expr) : Bool := match k with
  | .seq => chkE T C a iter
  | .rng => (match iter with
    | .Call (.Name x _) [l] [] _ => x == ("range" : Str) && glB C x && T.free.contains x && !isStar l && chkE T C a l
    | _ => false)
  | .enm => (match iter, tg with
    | .Call (.Name x _) [l] [] _, .Tuple _ _ _ => x == ("enumerate" : Str) && glB C x && T.free.contains x && !isStar l && chkE T C a l
    | _, _ => false)
  | .zip => (match iter, tg with
    | .Call (.Name x _) [l, m] [] _, .Tuple _ _ _ => x == ("zip" : Str) && glB C x && T.free.contains x && !isStar l && !isStar m && chkE T C a l && chkE T C b m
    | _, _ => false)
end Ov

set_option maxHeartbeats 4000000
namespace Ov
open PySem PySem.Spec PyProof.Rows L2 Evl
/-- .. by keywords -/
def FnKw (G : Cfg) (X : Cx) (s : Nat) (x : Str) (ks : List Str) : Prop := ∃ (k : Nat) (a : Addr) (fd : FuncData) (ps : List Str) (f : Nat) (o : List Nat), FnO X.prog X.w X.K X.mg X.base k a fd ps (SpF X.K ps.length (G.cf f)) ∧ Room k X.A ∧ X.mg x = some (.ref a) ∧
  PySem.W.keepIn X.K (.ref a) = true ∧ KBn X.K fd ps 0 ks (fun _ ws => pickD o ws) (fun _ zs => pickD o zs) ∧ ps.length = o.length ∧ G.sh s = some (f, o)
/-- a def that may be called -/
def FnG (G : Cfg) (X : Cx) (f : Nat) (x : Str) (np : Nat) : Prop := ∃ (k : Nat) (a : Addr) (fd : FuncData) (ps : List Str), FnO X.prog X.w X.K X.mg X.base k a fd ps (SpF X.K ps.length (G.cf f)) ∧ Room k X.A ∧ X.mg x = some (.ref a) ∧
  PySem.W.keepIn X.K (.ref a) = true ∧ Binds X.K fd ps [] ∧ ps.length = np
structure Good (T : Tab) (G : Cfg) (X : Cx) (C : CI) : Prop where
  N : X.N = C.N
  sc : X.env.scope = C.sc
  fn : ∀ x, C.fn x = true → X.fn x = true
  nd : C.N.Nodup
  calm : X.calm = true
  units : X.A.units + 65 < cLine
  gds : X.A.guards = some []
  xe : X.xe = fun _ _ => False
  free : ∀ x ∈ T.free, X.mg x = none
  fns : ∀ f x np, T.fn f = some (x, np) → FnG G X f x np
  shs : ∀ s x ks, T.sh s = some (x, ks) → FnKw G X s x ks
  gls : ∀ g x, T.gl g = some x → ∃ u v d, X.mg x = some u ∧ RelV v u ∧ G.gd g = some d ∧ ∀ F, Rp X.K F v d
  dds : ∀ g x, T.dg g = some x → ∃ a es n kvs, X.mg x = some (.ref a) ∧ KDict X.K X.w a es n ∧ G.dd g = some kvs ∧ ∀ z q, dicD kvs z = some q → ∃ u v, PySem.W.nsIn X.K a z = some (some u) ∧ RelV v u ∧ ∀ F, Rp X.K F v q
theorem star1 {e : Expr} {es : List Expr} {env : Env} (h : isStar e = false) : starEach (e :: es) env = (false, eval e env) :: starEach es env := by
  cases e <;> first | rfl | cases h
theorem starAny {env : Env} {pos : Pos} : ∀ {es : List Expr}, (∀ e ∈ es, isStar e = false) → (backTo pos (starEach es env)).any (·.1) = false
  | [], _ => rfl
  | e :: es, h => by
    rw [star1 (h e (List.mem_cons_self ..))]
    show (false || (backTo pos (starEach es env)).any (·.1)) = false
    rw [starAny fun e he => h e (List.mem_cons_of_mem _ he)]; rfl
theorem starAll {env : Env} {pos : Pos} : ∀ {es : List Expr}, (∀ e ∈ es, isStar e = false) → (backTo pos (starEach es env)).all (fun x => !x.1) = true
  | [], _ => rfl
  | e :: es, h => by
    rw [star1 (h e (List.mem_cons_self ..))]
    show (true && (backTo pos (starEach es env)).all (fun x => !x.1)) = true
    rw [starAll fun e he => h e (List.mem_cons_of_mem _ he)]; rfl
section
variable {T : Tab} {G : Cfg} {X : Cx} {C : CI}
theorem Good.vis (g : Good T G X C) {x : Str} (h : visB C x = true) : Vis X.env.scope x := by
  rw [g.sc]
  unfold visB at h
  split at h <;> first | (rename_i q; exact Or.inl q) | (rename_i q; exact Or.inr (Or.inl q)) | (rename_i q; exact Or.inr (Or.inr q)) | cases h
theorem Good.gl (g : Good T G X C) {x : Str} (h : glB C x = true) : Gl X x := by
  show X.env.scope.names.lookup x = _
  rw [g.sc]; exact of_decide_eq_true h
theorem Good.name (g : Good T G X C) {i : Nat} {x : Str} (h : nameB C i x = true) : X.N[i]? = some x ∧ Vis X.env.scope x ∧ (x == ("__debug__" : Str)) = false ∧ (x == ("__classdict__" : Str)) = false := by
  simp only [nameB, Bool.and_eq_true, beq_iff_eq, Bool.not_eq_true'] at h
  obtain ⟨⟨⟨h1, h2⟩, h3⟩, h4⟩ := h
  exact ⟨by rw [g.N]; exact h1, g.vis h2, h3, h4⟩
theorem Good.free' (g : Good T G X C) {x : Str} (h : T.free.contains x = true) : X.mg x = none := g.free x (by simpa using h)
theorem Good.blk (g : Good T G X C) (scope : Scope) (s : Shared) (H : Hp) (c : Addr) (cl : List (Str × Addr)) (fp : List Addr) : Good T G (X.blk s H scope (compEnvC scope cl c X.env) fp) (inBlk C scope) := by
  refine ⟨g.N, ?_, fun x h => h, g.nd, g.calm, g.units, g.gds, rfl, g.free, fun f x np h => ?_, fun s x ks h => g.shs s x ks h, g.gls, g.dds⟩
  · show relabel scope X.env = relS scope C.sc
    rw [← g.sc]; rfl
  · exact g.fns f x np h
end
/-! ### patterns -/
section
variable {T : Tab} {G : Cfg} {X : Cx} {C : CI}
theorem binds_len : ∀ {p : Pat} {xs : List D} {ρ ρ' : Slots} {es : List Expr}, chkP.chkPs C p es = true → Pat.binds p xs ρ = some ρ' → xs.length = es.length
  | .nil, [], ρ, ρ', [], _, _ => rfl
  | .nil, [], ρ, ρ', _ :: _, h, _ => by simp [chkP.chkPs] at h
  | .nil, _ :: _, ρ, ρ', _, _, h => by cases h
  | .cons a b, [], ρ, ρ', _, _, h => by cases h
  | .cons a b, _ :: _, ρ, ρ', [], h, _ => by simp [chkP.chkPs] at h
  | .cons a b, x :: xs, ρ, ρ', e :: es, h, g => by
    simp only [chkP.chkPs, Bool.and_eq_true] at h
    simp only [Pat.binds] at g
    obtain ⟨ρ1, _, g⟩ := bind_some g
    simp [binds_len h.2 g]
  | .nm _, [], _, _, _, _, h => by cases h
  | .nm _, _ :: _, _, _, _, _, h => by cases h
  | .tp _, [], _, _, _, _, h => by cases h
  | .tp _, _ :: _, _, _, _, _, h => by cases h
theorem assign_star {env : Env} : ∀ {es : List Expr}, (∀ e ∈ es, isStar e = false) → (assignEach es env).length = es.length ∧ (assignEach es env).findIdx? (·.1) = none
  | [], _ => ⟨rfl, rfl⟩
  | e :: es, h => by
    have he := h e (List.mem_cons_self ..)
    obtain ⟨h1, h2⟩ := assign_star (env := env) fun e he => h e (List.mem_cons_of_mem _ he)
    have q : assignEach (e :: es) env = (false, assign e env) :: assignEach es env := by cases e <;> first | rfl | cases he
    rw [q]
    refine ⟨by simp [h1], ?_⟩
    rw [List.findIdx?_cons]
    simp [h2]
theorem assign_cons {e : Expr} {es : List Expr} {env : Env} (h : isStar e = false) : (assignEach (e :: es) env).map (·.2) = assign e env :: (assignEach es env).map (·.2) := by
  cases e <;> first | rfl | cases h
mutual
theorem pg_of (g : Good T G X C) : ∀ {p : Pat} {e : Expr}, chkP C p e = true → PG X e (tOfG X.K p)
  | .nm i, e, h => by
    cases e <;> try (simp [chkP] at h; done)
    rename_i x pos
    simp only [chkP, Bool.and_eq_true, Bool.or_eq_true, beq_iff_eq, decide_eq_true_eq] at h
    refine dg_nm (by rw [g.N]; exact g.nd) (by rw [g.N]; exact h.1) ?_ ?_
    · rw [g.sc]
      rcases h.2 with q | q
      · exact Or.inl q
      · exact Or.inr q.1
    · rcases h.2 with q | q
      · exact Or.inr (by rw [g.sc]; exact q)
      · exact Or.inl (g.fn x q.2)
  | .tp p, e, h => by
    cases e <;> try (simp [chkP] at h; done)
    rename_i es k pos
    simp only [chkP] at h
    obtain ⟨h1, h2⟩ := pgs_of g h
    exact dg_tp g.calm h1 (assign_star h2).1 (assign_star h2).2 fun xs ρ ρ' q => binds_len h q
  | .nil, e, h => by simp [chkP] at h
  | .cons _ _, e, h => by simp [chkP] at h
theorem pgs_of (g : Good T G X C) : ∀ {p : Pat} {es : List Expr}, chkP.chkPs C p es = true → PGs X es (tOfGs X.K p) ∧ ∀ e ∈ es, isStar e = false
  | .nil, [], _ => ⟨dgs_nil, fun _ h => by cases h⟩
  | .cons a b, e :: es, h => by
    simp only [chkP.chkPs, Bool.and_eq_true, Bool.not_eq_true'] at h
    obtain ⟨h1, h2⟩ := pgs_of g h.2
    refine ⟨dgs_cons (pg_of g h.1.2) h1 (assign_cons h.1.1), fun e' he => ?_⟩
    rcases List.mem_cons.mp he with q | q
    · rw [q]; exact h.1.1
    · exact h2 e' q
  | .nil, _ :: _, h => by simp [chkP.chkPs] at h
  | .cons _ _, [], h => by simp [chkP.chkPs] at h
  | .nm _, [], h => by simp [chkP.chkPs] at h
  | .nm _, _ :: _, h => by simp [chkP.chkPs] at h
  | .tp _, [], h => by simp [chkP.chkPs] at h
  | .tp _, _ :: _, h => by simp [chkP.chkPs] at h
end
end
end Ov

set_option maxHeartbeats 4000000
namespace Ov
open PySem PySem.Spec PyProof.Rows L2 Evl
def isBoolE : Expr → Bool
  | .BoolOp .. => true
  | _ => false
def isCompE : Expr → Bool
  | .ListComp .. => true
  | _ => false
def ownable : IR → Bool
  | .call .. => true
  | e => fresh e
structure Snd (G : Cfg) (X : Cx) (e : Expr) (ir : IR) : Prop where
  de : DE X e (evE G ir)
  dt : isIfE e = false → DT X e (evT G ir)
  dw : isBoolE e = true → DW X e (evT G ir)
  own : ownable ir = true → DO X e (evO G ir)
  lc : isCompE e = true → ∃ te : TE, (∀ {i : Nat} {y : Str} {py spos : Pos}, X.N[i]? = some y → X.env.scope.names.lookup y = some .local → swapsWith e (some (.Name y py)) spos.line X.env = pure true → PS X (.Assign [.Name y py] e spos) (tAsg te (gName i))) ∧
    ∀ (n : Ent) (ρ : Slots) (σ : L2.St) (F H : Hp) (v : Vl) (ρ' : Slots) (Q : VK), Rel X.K n ρ σ F H → evE G ir ρ = some (v, ρ') → (∀ F' H' w c, Step X.K n σ ρ F H ρ' F' H' → v = .d c → Nw X.K H F' H' w c → Q w H') → te σ H Q
section
variable {X : Cx} {e a b c : Expr} {pos : Pos} {G : Cfg} {ia ib ic ir : IR}
theorem DN.congr {f f' : EF} (h : DN X e f) (hf : ∀ ρ, f' ρ = f ρ) : DN X e f' := by
  have : f' = f := funext hf
  rw [this]; exact h
theorem DE.congr {f f' : EF} (h : DE X e f) (hf : ∀ ρ, f' ρ = f ρ) : DE X e f' := by
  have : f' = f := funext hf
  rw [this]; exact h
/-- what is never reached -/
theorem Snd.junk (h : ∀ ρ, evE G ir ρ = none) (ho : ownable ir = false := by rfl) : Snd G X e ir := by
  have ht : ∀ ρ, evT G ir ρ = none := fun ρ => by unfold evT; rw [h]; rfl
  refine ⟨⟨fun _ _ _ => False, ⟨fun _ _ _ _ _ _ z => z.elim⟩, fun n ρ σ F H v ρ' Q rl g k => by rw [h] at g; cases g⟩,
    fun _ => ⟨fun _ _ _ => False, ⟨fun _ _ _ _ _ _ z => z.elim⟩, fun n ρ σ F H v ρ' Q rl g k => by rw [ht] at g; cases g⟩,
    fun _ => ⟨fun _ _ _ => False, ⟨fun _ _ _ _ _ _ _ z => z.elim⟩, fun n ρ σ F H v ρ' Q rl g k => by rw [ht] at g; cases g⟩,
    fun q => (by rw [ho] at q; cases q), fun _ => ⟨fun _ _ _ => False, fun {i y py spos} _ _ _ => ⟨fun _ _ _ _ _ _ z => (z : False).elim⟩, fun n ρ σ F H v ρ' Q rl g k => by rw [h] at g; cases g⟩⟩
theorem Snd.plain (h : DE X e (evE G ir)) (ho : ownable ir = false) (he : ∀ whole, isTrue e X.env whole = (do let v ← whole; standAt e.pos; holding [v] (truthy v))) (hb : isBoolE e = false) (hc : isCompE e = false := by rfl) : Snd G X e ir :=
  ⟨h, fun _ => h.dt he, fun q => (by rw [hb] at q; cases q), fun q => (by rw [ho] at q; cases q), fun q => (by rw [hc] at q; cases q)⟩
theorem Snd.new (h : DN X e (evE G ir)) (hf : fresh ir = true) (he : ∀ whole, isTrue e X.env whole = (do let v ← whole; standAt e.pos; holding [v] (truthy v))) (hb : isBoolE e = false) (hc : isCompE e = false := by rfl) : Snd G X e ir :=
  ⟨h.de, fun _ => h.de.dt he, fun q => (by rw [hb] at q; cases q), fun _ => h.own hf, fun q => (by rw [hc] at q; cases q)⟩
theorem de_chain {o o' : COp} (hu : X.A.units + 65 < cLine) (ha : DE X a (evE G ia)) (hb : DE X b (evE G ib)) (hc : DE X c (evE G ic)) (hm : lastMarks [o.py, o'.py] [b, c] = false) :
    DE X (.Compare a [o.py, o'.py] [b, c] pos) (evE G (.chain o o' ia ib ic)) ∧ DT X (.Compare a [o.py, o'.py] [b, c] pos) (evT G (.chain o o' ia ib ic)) := by
  obtain ⟨ta, pa, qa⟩ := ha
  obtain ⟨tb, pb, qb⟩ := hb
  obtain ⟨tc, pc, qc⟩ := hc
  obtain ⟨r, hr, qr⟩ := opd_cmp hu o
  obtain ⟨r', hr', qr'⟩ := opd_cmp hu o'
  have core : ∀ (n : Ent) (ρ : Slots) (σ : L2.St) (F H : Hp) (v : Vl) (ρ' : Slots) (Q : VK), Rel X.K n ρ σ F H → evE G (.chain o o' ia ib ic) ρ = some (v, ρ') →
      (∀ F' H' z, Step X.K n σ ρ F H ρ' F' H' → v = .d (.bl z) → Q (.bl z) H') → tChain r r' ta tb tc σ H Q := fun n ρ σ F H v ρ' Q rl g k => by
    unfold evE at g
    obtain ⟨⟨va, ρ1⟩, ga, g⟩ := bind_some g
    obtain ⟨⟨vb, ρ2⟩, gb, g⟩ := bind_some g
    obtain ⟨x, gx, g⟩ := bind_some g
    obtain ⟨y, gy, g⟩ := bind_some g
    obtain ⟨z, gz, g⟩ := bind_some g
    refine qa n ρ σ F H va ρ1 _ rl ga fun F1 H1 w1 s1 v1 => qb n ρ1 σ F1 H1 vb ρ2 _ s1.rel gb fun F2 H2 w2 s2 v2 => ?_
    refine qr F2 H2 w1 w2 x y (.bl z) _ s2.rel.sub ((v1.mono s2.ex).look s2.rel gx) (v2.look s2.rel gy) (by simp [gz]) fun F3 H3 w3 al nw => ?_
    have nw : Rp X.K F3 w3 (.bl z) := nw
    cases nw
    have s3 := s2.trans (Step.al s2.rel al)
    refine ⟨z, rfl, ?_⟩
    cases z with
    | false =>
      simp only [Bool.false_eq_true, if_false] at g ⊢
      obtain ⟨rfl, rfl⟩ := pure_some g
      exact k F3 H3 false (s1.trans s3) rfl
    | true =>
      simp only [if_true] at g ⊢
      obtain ⟨⟨vc, ρ3⟩, gc, g⟩ := bind_some g
      obtain ⟨y', gy', g⟩ := bind_some g
      obtain ⟨w, gw, g⟩ := bind_some g
      obtain ⟨z', gz', g⟩ := bind_some g
      obtain ⟨rfl, rfl⟩ := pure_some g
      refine qc n ρ2 σ F3 H3 vc _ _ s3.rel gc fun F4 H4 w4 s4 v4 => ?_
      refine qr' F4 H4 w2 w4 y' w (.bl z') _ s4.rel.sub ((v2.mono (al.ex.trans s4.ex)).look s4.rel gy') (v4.look s4.rel gw) (by simp [gz']) fun F5 H5 w5 al5 nw5 => ?_
      have nw5 : Rp X.K F5 w5 (.bl z') := nw5
      cases nw5
      exact k F5 H5 z' ((s1.trans s3).trans (s4.trans (Step.al s4.rel al5))) rfl
  constructor
  · refine ⟨_, pe_chain hr hr' pa pb pc hm, fun n ρ σ F H v ρ' Q rl g k => core n ρ σ F H v ρ' Q rl g fun F' H' z s ev => ?_⟩
    subst ev
    exact k F' H' _ s (.bl z)
  · refine ⟨_, pt_chain hr hr' pa pb pc hm, fun n ρ σ F H v ρ' Q rl g k => core n ρ σ F H _ ρ' _ rl (evT_some g) fun F' H' z s ev => ?_⟩
    cases ev
    exact ⟨_, rfl, k F' H' s⟩
end
section
variable {T : Tab} {G : Cfg}
theorem tyTup_map {C : CI} : ∀ {ts : List Ty} {es : List Expr}, tyTup ts es = true → ∃ l : List (Pos × Ty), l.map (fun (y : Pos × Ty) => y.2) = ts ∧ es = l.map fun p => .Name (Str.ofString p.2.nm) p.1
  | [], [], _ => ⟨[], rfl, rfl⟩
  | t :: ts, e :: es, h => by
    cases e <;> try (simp [tyTup] at h; done)
    rename_i x p
    simp only [tyTup, Bool.and_eq_true, beq_iff_eq] at h
    obtain ⟨l, h1, h2⟩ := tyTup_map (C := C) h.2
    exact ⟨(p, t) :: l, by simp [h1], by simp [h2, h.1]⟩
  | [], _ :: _, h => by simp [tyTup] at h
  | _ :: _, [], h => by simp [tyTup] at h
theorem kw_len : ∀ {kws : List Keyword}, (kws.all fun q => q.arg.isSome) = true → (kws.filterMap (·.arg)).length = kws.length
  | [], _ => rfl
  | ⟨nm, v, q⟩ :: kws, h => by
    simp only [List.all_cons, Bool.and_eq_true] at h
    cases nm with
    | none => cases h.1
    | some nm => simp [kw_len h.2]
theorem sole {X : Cx} {e : Expr} (h : isStar e = false) : starEach [e] X.env = [(false, eval e X.env)] := star1 h
theorem plainIx {k : Expr} (h : isSlice k = false) : PlainIx k := fun o i => by
  cases k <;> first | rfl | cases h
theorem noSet {X : Cx} {iter : Expr} (h : isSetE iter = false) : ∀ x, foldedSetIterable iter X.env x = pure x := fun x => by
  cases iter <;> first | rfl | cases h
theorem name_plain {X : Cx} {x : Str} {pos : Pos} : ∀ whole, isTrue (.Name x pos) X.env whole = (do let v ← whole; standAt (Expr.Name x pos).pos; holding [v] (truthy v)) := fun _ => rfl
theorem ownOf_snd (C : CI) (vs : List Nat) : (ownOf C vs).map (fun (q : Str × Nat) => q.2) = vs := by
  induction vs with
  | nil => rfl
  | cons a l ih => unfold ownOf at ih ⊢; rw [List.map_cons, List.map_cons, ih]
theorem di_of {C : CI} {X : Cx} {tg iter : Expr} {k : ItK} {ia ib : IR} (g : Good T G X C) (sa : ∀ {e : Expr}, chkE T C ia e = true → DE X e (evE G ia)) (sb : ∀ {e : Expr}, chkE T C ib e = true → DE X e (evE G ib)) (h : chkI T C k ia ib tg iter = true) : DI X tg iter (evI G k ia ib) := by
  cases k with
  | seq => exact di_seq (sa h)
  | rng =>
    cases iter <;> try (simp [chkI] at h; done)
    rename_i fe as ks pos
    match fe, as, ks, h with
    | .Name x p, [l], [], h =>
      simp only [chkI, Bool.and_eq_true, beq_iff_eq, Bool.not_eq_true'] at h
      obtain ⟨⟨⟨⟨h1, h2⟩, h3⟩, h4⟩, h5⟩ := h
      subst h1
      exact di_range1 (g.gl h2) (g.free' h3) (sole h4) (sa h5)
  | enm =>
    cases iter <;> try (simp [chkI] at h; done)
    rename_i fe as ks pos
    cases tg <;> try (simp [chkI] at h; done)
    match fe, as, ks, h with
    | .Name x p, [l], [], h =>
      simp only [chkI, Bool.and_eq_true, beq_iff_eq, Bool.not_eq_true'] at h
      obtain ⟨⟨⟨⟨h1, h2⟩, h3⟩, h4⟩, h5⟩ := h
      subst h1
      exact di_enum (g.gl h2) (g.free' h3) (sole h4) (sa h5)
  | zip =>
    cases iter <;> try (simp [chkI] at h; done)
    rename_i fe as ks pos
    cases tg <;> try (simp [chkI] at h; done)
    match fe, as, ks, h with
    | .Name x p, [l, m], [], h =>
      simp only [chkI, Bool.and_eq_true, beq_iff_eq, Bool.not_eq_true'] at h
      obtain ⟨⟨⟨⟨⟨⟨h1, h2⟩, h3⟩, h4⟩, h5⟩, h6⟩, h7⟩ := h
      subst h1
      exact di_zip (g.gl h2) (g.free' h3) (star1 h4) (sole h5) (sa h6) (sb h7)
mutual
theorem snd : ∀ (ir : IR) {C : CI} {X : Cx} {e : Expr}, Good T G X C → chkE T C ir e = true → Snd G X e ir
  | .var i, C, X, e, g, h => by
    cases e <;> try (simp [chkE] at h; done)
    simp only [chkE] at h
    obtain ⟨h1, h2, h3, h4⟩ := g.name h
    exact .plain (de_var h1 h2 h3 h4) rfl (fun _ => rfl) rfl
  | .frz i, C, X, e, g, h => by
    cases e <;> try (simp [chkE] at h; done)
    simp only [chkE] at h
    obtain ⟨h1, h2, h3, h4⟩ := g.name h
    exact .plain (de_frz h1 h2 h3 h4) rfl (fun _ => rfl) rfl
  | .glob gi, C, X, e, g, h => by
    cases e <;> try (simp [chkE] at h; done)
    rename_i x pos
    simp only [chkE, Bool.and_eq_true, beq_iff_eq, Bool.not_eq_true'] at h
    obtain ⟨u, v, d, h1, h2, h3, h4⟩ := g.gls _ _ h.1.1
    have q := de_const (pe_glob (pos := pos) (g.gl h.1.2) h1 h2 h.2) (fun σ H Q q => q) h4
    refine .plain ?_ rfl (fun _ => rfl) rfl
    have e2 : evE G (.glob gi) = fun ρ => some (.d d, ρ) := by funext ρ; simp [evE, h3]
    rw [e2]; exact q
  | .int n, C, X, e, g, h => by
    cases e <;> try (simp [chkE] at h; done)
    rename_i c k pos
    cases c <;> try (simp [chkE] at h; done)
    simp only [chkE, beq_iff_eq] at h; subst h
    refine .plain ?_ rfl (fun _ => rfl) rfl
    have e2 : evE G (.int n) = fun ρ => some (.d (.int n), ρ) := by funext ρ; simp [evE]
    rw [e2]; exact de_const pe_int (fun σ H Q q => q) fun F => .int n
  | .str n, C, X, e, g, h => by
    cases e <;> try (simp [chkE] at h; done)
    rename_i c k pos
    cases c <;> try (simp [chkE] at h; done)
    simp only [chkE, beq_iff_eq] at h; subst h
    refine .plain ?_ rfl (fun _ => rfl) rfl
    have e2 : evE G (.str n) = fun ρ => some (.d (.str n), ρ) := by funext ρ; simp [evE]
    rw [e2]; exact de_const pe_str (fun σ H Q q => q) fun F => .str n
  | .bl n, C, X, e, g, h => by
    cases e <;> try (simp [chkE] at h; done)
    rename_i c k pos
    cases c <;> try (simp [chkE] at h; done)
    simp only [chkE, beq_iff_eq] at h; subst h
    refine .plain ?_ rfl (fun _ => rfl) rfl
    have e2 : evE G (.bl n) = fun ρ => some (.d (.bl n), ρ) := by funext ρ; simp [evE]
    rw [e2]; exact de_const pe_bl (fun σ H Q q => q) fun F => .bl n
  | .non, C, X, e, g, h => by
    cases e <;> try (simp [chkE] at h; done)
    rename_i c k pos
    cases c <;> try (simp [chkE] at h; done)
    refine .plain ?_ rfl (fun _ => rfl) rfl
    have e2 : evE G .non = fun ρ => some (.d .non, ρ) := by funext ρ; simp [evE]
    rw [e2]; exact de_const pe_non (fun σ H Q q => q) fun F => .non
  | .op o a b, C, X, e, g, h => by
    cases e <;> try (simp [chkE] at h; done)
    rename_i l o' r pos
    simp only [chkE, Bool.and_eq_true, decide_eq_true_eq] at h
    obtain ⟨⟨ho, h1⟩, h2⟩ := h
    subst ho
    have sa := snd a g h1
    have sb := snd b g h2
    have key : ∀ {o : BOp}, OpD X (binaryOp o.py) (opD o) → DN X (.BinOp l o.py r pos) (evE G (.op o a b)) := fun {o} hd => by
      exact (dn_op (pos := pos) hd sa.de sb.de).congr fun ρ => by rw [evE]
    cases o with
    | add => exact .new (key (o := .add) opd_add) rfl (fun _ => rfl) rfl
    | mul => exact .new (key (o := .mul) opd_mul) rfl (fun _ => rfl) rfl
    | sub => exact .plain (key (o := .sub) opd_sub).de rfl (fun _ => rfl) rfl
    | fdiv => exact .plain (key (o := .fdiv) opd_fdiv).de rfl (fun _ => rfl) rfl
    | mod => exact .plain (key (o := .mod) opd_mod).de rfl (fun _ => rfl) rfl
    | pow => exact .plain (key (o := .pow) opd_pow).de rfl (fun _ => rfl) rfl
  | .neg a, C, X, e, g, h => by
    cases e <;> try (simp [chkE] at h; done)
    rename_i o l pos
    cases o <;> try (simp [chkE] at h; done)
    simp only [chkE] at h
    exact .plain (de_neg (snd a g h).de) rfl (fun _ => rfl) rfl
  | .cmp o a b, C, X, e, g, h => by
    cases e <;> try (simp [chkE] at h; done)
    rename_i l os rs pos
    match os, rs, h with
    | [o'], [r], h =>
      simp only [chkE, Bool.and_eq_true, decide_eq_true_eq, Bool.not_eq_true'] at h
      obtain ⟨⟨⟨ho, h1⟩, h2⟩, h3⟩ := h
      subst ho
      obtain ⟨q1, q2⟩ := de_cmp (pos := pos) (o := o) g.units (snd a g h1).de (snd b g h2).de h3
      refine ⟨?_, fun _ => ?_, fun q => (by cases q), fun q => (by cases q), fun q => (by cases q)⟩
      · exact q1.congr fun ρ => by rw [evE]
      · obtain ⟨t, pt, qt⟩ := q2
        refine ⟨t, pt, fun n ρ σ F H bv ρ' Q rl g k => qt n ρ σ F H bv ρ' Q rl ?_ k⟩
        have g := evT_some g
        unfold evE at g
        obtain ⟨⟨va, ρ1⟩, ga, g⟩ := bind_some g
        obtain ⟨⟨vb, ρ2⟩, gb, g⟩ := bind_some g
        obtain ⟨x, gx, g⟩ := bind_some g
        obtain ⟨y, gy, g⟩ := bind_some g
        obtain ⟨z, gz, g⟩ := bind_some g
        obtain ⟨e1, rfl⟩ := pure_some g
        cases e1
        simp [ga, gb, gx, gy, gz]
  | .chain o o' a b c, C, X, e, g, h => by
    cases e <;> try (simp [chkE] at h; done)
    rename_i l os rs pos
    match os, rs, h with
    | [p, q], [m, r], h =>
      simp only [chkE, Bool.and_eq_true, decide_eq_true_eq, Bool.not_eq_true'] at h
      obtain ⟨⟨⟨⟨⟨ho, ho'⟩, h1⟩, h2⟩, h3⟩, h4⟩ := h
      subst ho ho'
      obtain ⟨q1, q2⟩ := de_chain (pos := pos) g.units (snd a g h1).de (snd b g h2).de (snd c g h3).de h4
      exact ⟨q1, fun _ => q2, fun q => (by cases q), fun q => (by cases q), fun q => (by cases q)⟩
  | .isn ng a, C, X, e, g, h => by
    cases e <;> try (simp [chkE] at h; done)
    rename_i l os rs pos
    match os, rs, h with
    | [o'], [.Constant .none j p], h =>
      simp only [chkE, Bool.and_eq_true, decide_eq_true_eq] at h
      obtain ⟨ho, h1⟩ := h
      subst ho
      obtain ⟨q1, q2⟩ := de_isn (pos := pos) (j := j) (p := p) ng (snd a g h1).de
      exact ⟨q1, fun _ => q2, fun q => (by cases q), fun q => (by cases q), fun q => (by cases q)⟩
  | .one a, C, X, e, g, h => by
    cases e <;> try (simp [chkE] at h; done)
    rename_i op vs pos
    match vs, h with
    | [l], h =>
      simp only [chkE, Bool.and_eq_true, Bool.not_eq_true'] at h
      have sa := snd a g h.1
      obtain ⟨q1, q2⟩ := de_one (pos := pos) (op := op) sa.de (sa.dt h.2)
      exact ⟨q1, fun _ => q2.dt, fun _ => q2, fun q => (by cases q), fun q => (by cases q)⟩
  | .band a b, C, X, e, g, h => by
    cases e <;> try (simp [chkE] at h; done)
    rename_i op vs pos
    match op, vs, h with
    | .And, l :: m :: rest, h =>
      simp only [chkE, Bool.and_eq_true, Bool.not_eq_true'] at h
      have sa := snd a g h.1.1
      have sb := snd b g h.2
      obtain ⟨q1, q2⟩ := de_and sa.de (sa.dt h.1.2) sb.de (sb.dw rfl)
      exact ⟨q1, fun _ => q2.dt, fun _ => q2, fun q => (by cases q), fun q => (by cases q)⟩
  | .bor a b, C, X, e, g, h => by
    cases e <;> try (simp [chkE] at h; done)
    rename_i op vs pos
    match op, vs, h with
    | .Or, l :: m :: rest, h =>
      simp only [chkE, Bool.and_eq_true, Bool.not_eq_true'] at h
      have sa := snd a g h.1.1
      have sb := snd b g h.2
      obtain ⟨q1, q2⟩ := de_or sa.de (sa.dt h.1.2) sb.de (sb.dw rfl)
      exact ⟨q1, fun _ => q2.dt, fun _ => q2, fun q => (by cases q), fun q => (by cases q)⟩
  | .bnot a, C, X, e, g, h => by
    cases e <;> try (simp [chkE] at h; done)
    rename_i o l pos
    cases o <;> try (simp [chkE] at h; done)
    simp only [chkE, Bool.and_eq_true, Bool.not_eq_true'] at h
    have sa := snd a g h.1
    obtain ⟨q1, q2⟩ := de_not (pos := pos) sa.de (sa.dt h.2)
    exact ⟨q1, fun _ => q2, fun q => (by cases q), fun q => (by cases q), fun q => (by cases q)⟩
  | .ife c a b, C, X, e, g, h => by
    cases e <;> try (simp [chkE] at h; done)
    simp only [chkE, Bool.and_eq_true, Bool.not_eq_true'] at h
    exact ⟨de_ife ((snd c g h.1.1.1).dt h.1.1.2) (snd a g h.1.2).de (snd b g h.2).de, fun q => (by cases q), fun q => (by cases q), fun q => (by cases q), fun q => (by cases q)⟩
  | .tup es, C, X, e, g, h => by
    cases e <;> try (simp [chkE] at h; done)
    simp only [chkE] at h
    exact .plain (de_tup (sndL es g h).1) rfl (fun _ => rfl) rfl
  | .lst es, C, X, e, g, h => by
    cases e <;> try (simp [chkE] at h; done)
    simp only [chkE] at h
    exact .new (dn_lst (sndL es g h).1) rfl (fun _ => rfl) rfl
  | .idx a i, C, X, e, g, h => by
    cases e <;> try (simp [chkE] at h; done)
    simp only [chkE, Bool.and_eq_true, Bool.not_eq_true'] at h
    exact .plain (de_idx (plainIx h.2) (snd a g h.1.1).de (snd i g h.1.2).de) rfl (fun _ => rfl) rfl
  | .dget a i, C, X, e, g, h => by
    cases e <;> try (simp [chkE] at h; done)
    rename_i l k pos
    cases l <;> try (simp [chkE] at h; done)
    rename_i fe as ks pos'
    match fe, as, ks, h with
    | .Name x p, [l], [], h =>
      simp only [chkE, Bool.and_eq_true, beq_iff_eq, Bool.not_eq_true'] at h
      obtain ⟨⟨⟨⟨⟨⟨h1, h2⟩, h3⟩, h4⟩, h5⟩, h6⟩, h7⟩ := h
      subst h1
      exact .plain (de_dget g.calm g.units (g.gl h2) (g.free' h3) (sole h4) (plainIx h7) (snd a g h5).de (snd i g h6).de) rfl (fun _ => rfl) rfl
  | .lrng a b, C, X, e, g, h => by
    cases e <;> try (simp [chkE] at h; done)
    rename_i fe as ks pos
    match fe, as, ks, h with
    | .Name x p, [.Call (.Name y p') [l, m] [] pos'], [], h =>
      simp only [chkE, Bool.and_eq_true, beq_iff_eq, Bool.not_eq_true'] at h
      obtain ⟨⟨⟨⟨⟨⟨⟨⟨⟨h1, h2⟩, h3⟩, h4⟩, h5⟩, h6⟩, h7⟩, h8⟩, h9⟩, h10⟩ := h
      subst h1
      subst h4
      exact .new (dn_lrng g.calm (g.gl h2) (g.free' h3) (g.gl h5) (g.free' h6) (star1 h7) (sole h8) (fun _ => rfl) (snd a g h9).de (snd b g h10).de) rfl (fun _ => rfl) rfl
  | .gdg gi k, C, X, e, g, h => by
    cases e <;> try (simp [chkE] at h; done)
    rename_i l i pos
    cases l <;> try (simp [chkE] at h; done)
    rename_i x p
    simp only [chkE, Bool.and_eq_true, beq_iff_eq, Bool.not_eq_true'] at h
    obtain ⟨⟨⟨⟨h1, h2⟩, h3⟩, h4⟩, h5⟩ := h
    obtain ⟨a, es, n, kvs, q1, q2, q3, q4⟩ := g.dds gi x h1
    exact .plain (de_gdg q2 (g.gl h2) q1 h3 q3 q4 (plainIx h5) (snd k g h4).de) rfl (fun _ => rfl) rfl
  | .mt m o es, C, X, e, g, h => by
    cases e <;> try (simp [chkE] at h; done)
    rename_i fe as ks pos
    match fe, as, ks, h with
    | .Attribute oe nm ap, [a], [], h =>
      simp only [chkE, Bool.and_eq_true, beq_iff_eq] at h
      obtain ⟨⟨⟨⟨h1, h2⟩, h3⟩, h4⟩, h5⟩ := h
      subst h2
      have so := snd o g h3
      have hbase : ∀ s : Str, attributeBase oe s X.env (eval oe X.env) = eval oe X.env := by
        intro s
        cases oe <;> first | rfl | (simp [recvB] at h1)
      cases m with
      | join =>
        match es, h4 with
        | .cons ia ib, h4 =>
          simp only [chkL, Bool.and_eq_true, Bool.not_eq_true'] at h4
          match ib, h4 with
          | .nil, h4 => exact .plain (de_join (hbase _) so.de (snd ia g h4.1.2).de (by simpa using h5) (star1 h4.1.1)) rfl (fun _ => rfl) rfl
      | index =>
        obtain ⟨l1, l2, l3, _⟩ := sndL es g h4
        have hfew : ((backTo pos (starEach [a] X.env)).all (fun x => !x.1) && (backToKw pos (keywordEach [] X.env)).all (fun x => x.1.isSome)
            && decide ([a].length + ([] : List Keyword).length + (if ([] : List Keyword).isEmpty then 0 else 1) < 30)) = true := by
          rw [starAll l2]
          simp [keywordEach, backToKw]
        exact .plain (de_index (hbase _) g.units so.de l1 hfew (by simpa using h5) (star1 (l2 a (List.mem_cons_self ..)))) rfl (fun _ => rfl) rfl
  | .stp a s, C, X, e, g, h => by
    cases e <;> try (simp [chkE] at h; done)
    rename_i l k pos
    cases k <;> try (simp [chkE] at h; done)
    rename_i x y st p2
    match x, y, st, h with
    | none, none, some st, h =>
      simp only [chkE, Bool.and_eq_true] at h
      refine .new (dn_stp (fun q => ?_) (snd a g h.1).de (snd s g h.2).de) rfl (fun _ => rfl) rfl
      have z := h.2
      rw [q] at z; simp [chkE] at z
  | .isb ng a b, C, X, e, g, h => by
    cases e <;> try (simp [chkE] at h; done)
    rename_i l os rs pos
    match os, rs, h with
    | [o'], [.Constant (.bool b') j p], h =>
      simp only [chkE, Bool.and_eq_true, decide_eq_true_eq, beq_iff_eq] at h
      obtain ⟨⟨ho, hb⟩, h1⟩ := h
      subst ho hb
      obtain ⟨q1, q2⟩ := de_isb (pos := pos) (j := j) (p := p) ng b (snd a g h1).de
      exact ⟨q1, fun _ => q2, fun q => (by cases q), fun q => (by cases q), fun q => (by cases q)⟩
  | .slc a lo hi, C, X, e, g, h => by
    cases e <;> try (simp [chkE] at h; done)
    rename_i l k pos
    cases k <;> try (simp [chkE] at h; done)
    rename_i x y st p2
    cases st <;> try (simp [chkE] at h; done)
    simp only [chkE, Bool.and_eq_true] at h
    obtain ⟨⟨h1, h2⟩, h3⟩ := h
    have sl : DP X x (evPt G lo) := by
      cases x with
      | none =>
        cases lo <;> first | exact dp_none | (simp at h2)
      | some x =>
        refine dp_some (fun q => ?_) (snd lo g h2).de
        rw [q] at h2; simp [chkE] at h2
    have sh : DP X y (evPt G hi) := by
      cases y with
      | none =>
        cases hi <;> first | exact dp_none | (simp at h3)
      | some y =>
        refine dp_some (fun q => ?_) (snd hi g h3).de
        rw [q] at h3; simp [chkE] at h3
    exact .new (dn_slc (snd a g h1).de sl sh) rfl (fun _ => rfl) rfl
  | .call f es, C, X, e, g, h => by
    cases e <;> try (simp [chkE] at h; done)
    rename_i fe as ks pos
    match fe, as, ks, h with
    | .Name x p, a :: as, [], h =>
      simp only [chkE, Bool.and_eq_true, decide_eq_true_eq, Bool.not_eq_true'] at h
      obtain ⟨⟨⟨h1, h2⟩, h3⟩, h4⟩ := h
      obtain ⟨k, ad, fd, ps, f1, f2, f3, f4, f5, f6⟩ := g.fns _ _ _ h1
      obtain ⟨l1, l2, l3, _⟩ := sndL es g h4
      obtain ⟨q1, q2⟩ := de_call (p := p) (pos := pos) f1 g.gds f2 (g.gl h2) f3 f4 f5 f6 h3 (star1 (l2 a (List.mem_cons_self ..))) (starAny fun e he => l2 e (List.mem_cons_of_mem _ he)) l1 l3
      exact ⟨q1, fun _ => q1.dt fun _ => rfl, fun q => (by cases q), fun _ => q2, fun q => (by cases q)⟩
  | .callK s ks, C, X, e, g, h => by
    cases e <;> try (simp [chkE] at h; done)
    rename_i fe as kws pos
    match fe, as, h with
    | .Name x p, [], h =>
      simp only [chkE, Bool.and_eq_true, decide_eq_true_eq, Bool.not_eq_true'] at h
      obtain ⟨⟨⟨⟨h1, h2⟩, h3⟩, h4⟩, h5⟩ := h
      obtain ⟨k, ad, fd, ps, fi, o, f1, f2, f3, f4, f5, f6, f7⟩ := g.shs _ _ _ h1
      obtain ⟨l1, l2, l3, l4⟩ := sndL ks g h5
      have hl : (kws.filterMap (·.arg)).length = (kws.map (·.value)).length := by rw [List.length_map]; exact kw_len h2
      exact .plain (de_callK (p := p) (pos := pos) f1 g.gds f2 (g.gl h3) f3 f4 f5 f6 f7 h4 h2 rfl (l4 kws rfl) fun ρ ρ' vs q => (l3 ρ ρ' vs q).trans hl.symm) rfl (fun _ => rfl) rfl
  | .callT f gf es, C, X, e, g, h => by
    cases e <;> try (simp [chkE] at h; done)
    rename_i fe as ks pos
    match fe, as, ks, h with
    | .Name x p, [.Call (.Name y p2) (a :: as) [] pos2], [], h =>
      simp only [chkE, Bool.and_eq_true, decide_eq_true_eq, Bool.not_eq_true'] at h
      obtain ⟨⟨⟨⟨⟨⟨h1, h2⟩, h3⟩, h1'⟩, h2'⟩, h3'⟩, h4⟩ := h
      obtain ⟨k, ad, fd, ps, f1, f2, f3, f4, f5, f6⟩ := g.fns _ _ _ h1
      obtain ⟨k', ad', fd', ps', f1', f2', f3', f4', f5', f6'⟩ := g.fns _ _ _ h1'
      obtain ⟨l1, l2, l3, _⟩ := sndL es g h4
      obtain ⟨q1, q2⟩ := de_call (p := p2) (pos := pos2) f1' g.gds f2' (g.gl h2') f3' f4' f5' f6' h3' (star1 (l2 a (List.mem_cons_self ..))) (starAny fun e he => l2 e (List.mem_cons_of_mem _ he)) l1 l3
      exact .plain (de_callT (p := p) (pos := pos) f1 g.gds f2 (g.gl h2) f3 f4 f5 f6 h3 q2 rfl) rfl (fun _ => rfl) rfl
  | .bi b es, C, X, e, g, h => by
    cases e <;> try (simp [chkE] at h; done)
    rename_i fe as ks pos
    match fe, as, ks, h with
    | .Name x p, a :: as, [], h =>
      simp only [chkE, Bool.and_eq_true, beq_iff_eq] at h
      obtain ⟨⟨⟨h1, h2⟩, h3⟩, h4⟩ := h
      obtain ⟨l1, l2, l3, _⟩ := sndL es g h4
      have q := dn_bi (p := p) (pos := pos) h1 g.calm g.gds g.units (g.gl h2) (g.free' h3) (star1 (l2 a (List.mem_cons_self ..))) (starAny fun e he => l2 e (List.mem_cons_of_mem _ he)) l1
      by_cases hb : b = .list
      · subst hb; exact .new q rfl (fun _ => rfl) rfl
      · refine .plain q.de ?_ (fun _ => rfl) rfl
        cases b <;> first | rfl | exact absurd rfl hb
  | .lenS a, C, X, e, g, h => by
    cases e <;> try (simp [chkE] at h; done)
    rename_i fe as ks pos
    match fe, as, ks, h with
    | .Name x p, [l], [], h =>
      simp only [chkE, Bool.and_eq_true, beq_iff_eq, Bool.not_eq_true'] at h
      obtain ⟨⟨⟨⟨h1, h2⟩, h3⟩, h4⟩, h5⟩ := h
      subst h1
      exact .plain (de_lenS (x := p) (g.gl h2) (g.free' h3) (sole h4) (snd a g h5).de) rfl (fun _ => rfl) rfl
  | .isi a ts, C, X, e, g, h => by
    cases e <;> try (simp [chkE] at h; done)
    rename_i fe as ks pos
    match fe, as, ks, h with
    | .Name x p, [l, t], [], h =>
      simp only [chkE, Bool.and_eq_true, beq_iff_eq, Bool.not_eq_true', Bool.or_eq_true] at h
      obtain ⟨⟨⟨⟨⟨⟨h1, h2⟩, h3⟩, h4⟩, h5⟩, h6⟩, h7⟩ := h
      subst h1
      have hts : ∀ t ∈ ts, Gl X (Str.ofString t.nm) ∧ X.mg (Str.ofString t.nm) = none := fun t ht => by
        have := List.all_eq_true.mp h6 t ht
        simp only [Bool.and_eq_true] at this
        exact ⟨g.gl this.1, g.free' this.2⟩
      rcases h7 with h7 | h7
      · match ts, t, h7 with
        | [ty], .Name y q, h7 =>
          simp only [tyArgs, beq_iff_eq] at h7
          subst h7
          obtain ⟨k1, k2⟩ := hts ty (List.mem_cons_self ..)
          exact .plain (de_isi1 (g.gl h2) (g.free' h3) k1 k2 (star1 h4) (snd a g h5).de) rfl (fun _ => rfl) rfl
      · cases t <;> try (simp at h7; done)
        rename_i es k q
        simp only [Bool.and_eq_true, decide_eq_true_eq] at h7
        obtain ⟨ll, m1, m2⟩ := tyTup_map (C := C) h7.1
        subst m1 m2
        refine .plain (de_isiT (g.gl h2) (g.free' h3) hts ?_ (star1 h4) (snd a g h5).de) rfl (fun _ => rfl) rfl
        have := h7.2
        rw [List.length_map] at this
        exact Nat.le_trans this (by decide)
  | .mu m i es, C, X, e, g, h => by
    cases e <;> try (simp [chkE] at h; done)
    rename_i fe as ks pos
    match fe, as, ks, h with
    | .Attribute (.Name x p) nm ap, a :: as, [], h =>
      simp only [chkE, Bool.and_eq_true, beq_iff_eq, decide_eq_true_eq] at h
      obtain ⟨⟨⟨⟨⟨h1, h2⟩, h3⟩, h4⟩, h5⟩, h6⟩ := h
      subst h2
      obtain ⟨k1, k2, k3, k4⟩ := g.name h1
      obtain ⟨l1, l2, l3, _⟩ := sndL es g h3
      have hfew : ((backTo pos (starEach (a :: as) X.env)).all (fun x => !x.1) && (backToKw pos (keywordEach [] X.env)).all (fun x => x.1.isSome)
          && decide ((a :: as).length + ([] : List Keyword).length + (if ([] : List Keyword).isEmpty then 0 else 1) < 30)) = true := by
        rw [starAll l2]
        have : (a :: as).length < 30 := by simp; omega
        simp [keywordEach, backToKw]; omega
      have hpl := starAny (env := X.env) (pos := pos) fun e he => l2 e (List.mem_cons_of_mem a he)
      have key : ∀ {id : String}, MuR X id m → Slot "list" (Str.ofString m.name) id → typeOf (.builtin id) = pure (.type "method_descriptor") → Snd G X (.Call (.Attribute (.Name x p) (Str.ofString m.name) ap) (a :: as) [] pos) (.mu m i es) := fun {id} q1 q2 q3 =>
        .plain (de_mu q1 q2 q3 k1 k2 k3 k4 l1 hfew (by simpa using h5) (star1 (l2 a (List.mem_cons_self ..))) hpl) rfl (fun _ => rfl) rfl
      cases m with
      | append => exact key mur_append PySem.F.slot_list_append PySem.F.type_list_append
      | extend => exact key mur_extend PySem.F.slot_list_extend PySem.F.type_list_extend
      | popAt => exact key mur_popAt PySem.F.slot_list_pop PySem.F.type_list_pop
      | pop => cases h6
      | insert => cases h6
  | .comp vs p k ia ib c e, C, X, ex, g, h => by
    cases ex <;> try (simp [chkE] at h; done)
    rename_i elt gens scope pos
    match gens, h with
    | [⟨tg, iter, ifs, 0⟩], h =>
      simp only [chkE, Bool.and_eq_true, Bool.not_eq_true'] at h
      obtain ⟨⟨⟨⟨⟨⟨h1, h2⟩, h3⟩, h4⟩, h5⟩, h6⟩, h7⟩ := h
      have hvs : (ownOf C vs).map (·.2) = vs := ownOf_snd C vs
      have sa : ∀ {e : Expr}, chkE T C ia e = true → DE X e (evE G ia) := fun h => (snd ia g h).de
      have sb : ∀ {e : Expr}, chkE T C ib e = true → DE X e (evE G ib) := fun h => (snd ib g h).de
      have hi : DI X tg iter (evI G k ia ib) := di_of g sa sb h3
      have ok : BlkOk X.N X.env.scope scope (ownOf C vs) := by rw [g.N, g.sc]; exact blkOk_by h1
      have sc : ∀ (s : Shared) (H : Hp) (C' : Addr) (cl : List (Str × Addr)) (fp : List Addr), PTs (X.blk s H scope (compEnvC scope cl C' X.env) fp) ifs (tOfT X.K (evC G c)) := fun s H C' cl fp => by
        match ifs, h6 with
        | [], h6 =>
          have hc : c = .nil := by cases c <;> first | rfl | (simp at h6)
          subst hc
          exact dc_nil
        | [t], h6 =>
          simp only [Bool.and_eq_true, Bool.not_eq_true'] at h6
          have hn : c ≠ .nil := fun q => by rw [q] at h6; simp at h6
          exact dc_one hn ((snd c (g.blk scope s H C' cl fp) h6.2).dt h6.1.2)
      obtain ⟨wi, pi, q⟩ := dn_comp (own := ownOf C vs) (p := p) (ci := c) (ei := e) g.calm (by rw [g.N]; exact g.nd) hi ok (fun i hi => by rw [hvs]; simpa using List.all_eq_true.mp h2 i hi)
        (fun s H C' cl fp => pg_of (g.blk scope s H C' cl fp) h5) sc (fun s H C' cl fp => (snd e (g.blk scope s H C' cl fp) h7).de.can) (noSet h4)
      rw [hvs] at q
      have hN : X.N.Nodup := by rw [g.N]; exact g.nd
      have hg : ∀ (s : Shared) (H : Hp) (C' : Addr) (cl : List (Str × Addr)) (fp : List Addr), PG (X.blk s H scope (compEnvC scope cl C' X.env) fp) tg (tOfG X.K p) := fun s H C' cl fp => pg_of (g.blk scope s H C' cl fp) h5
      have he : ∀ (s : Shared) (H : Hp) (C' : Addr) (cl : List (Str × Addr)) (fp : List Addr), PE (X.blk s H scope (compEnvC scope cl C' X.env) fp) elt (tOfE X.K (evE G e)) := fun s H C' cl fp => (snd e (g.blk scope s H C' cl fp) h7).de.can
      have pe : PE X (.ListComp elt [⟨tg, iter, ifs, 0⟩] scope pos) (tLc wi (tOfG X.K p) (tOfT X.K (evC G c)) (tOfE X.K (evE G e)) vs) := by
        have := pe_lc (own := ownOf C vs) (pos := pos) g.calm hN pi ok hg sc he (noSet h4)
        rw [hvs] at this
        exact this
      have dn : DN X (.ListComp elt [⟨tg, iter, ifs, 0⟩] scope pos) (evE G (.comp vs p k ia ib c e)) := ⟨_, pe, q⟩
      refine ⟨dn.de, fun _ => dn.de.dt fun _ => rfl, fun q => (by cases q), fun _ => dn.own rfl, fun _ => ⟨_, fun {i y py spos} h1 h2 h3 => ?_, q⟩⟩
      have := ps_setLc (own := ownOf C vs) (pos := pos) g.calm hN h1 h2 h3 pi ok hg sc he (noSet h4)
      rw [hvs] at this
      exact this
  | .nil, C, X, e, g, h => by simp [chkE] at h
  | .cons _ _, C, X, e, g, h => by simp [chkE] at h
  | .skip, C, X, e, g, h => Snd.junk fun ρ => by simp [evE]
  | .seq _ _, C, X, e, g, h => by simp [chkE] at h
  | .asg _ _, C, X, e, g, h => by simp [chkE] at h
  | .aug _ _ _, C, X, e, g, h => by simp [chkE] at h
  | .asgO _ _, C, X, e, g, h => by simp [chkE] at h
  | .par _ _, C, X, e, g, h => by simp [chkE] at h
  | .setI _ _ _, C, X, e, g, h => by simp [chkE] at h
  | .prb _ _ _ _ _, C, X, e, g, h => by simp [chkE] at h
  | .expr _, C, X, e, g, h => by simp [chkE] at h
  | .ret _, C, X, e, g, h => by simp [chkE] at h
  | .retO _, C, X, e, g, h => by simp [chkE] at h
  | .retV _, C, X, e, g, h => by simp [chkE] at h
  | .retN, C, X, e, g, h => by simp [chkE] at h
  | .ifS _ _ _, C, X, e, g, h => by simp [chkE] at h
  | .forS _ _ _ _ _, C, X, e, g, h => by simp [chkE] at h
  | .whS _ _, C, X, e, g, h => by simp [chkE] at h
  | .brk, C, X, e, g, h => by simp [chkE] at h
  | .cnt, C, X, e, g, h => by simp [chkE] at h
theorem sndL : ∀ (ir : IR) {C : CI} {X : Cx} {es : List Expr}, Good T G X C → chkL T C ir es = true → DA X es (evL G ir) ∧ (∀ e ∈ es, isStar e = false) ∧ (∀ (ρ ρ' : Slots) (vs : List Vl), evL G ir ρ = some (vs, ρ') → vs.length = es.length) ∧ ∀ kws : List Keyword, kws.map (·.value) = es → DK X kws (evL G ir)
  | .nil, C, X, es, g, h => by
    cases es <;> try (simp [chkL] at h; done)
    refine ⟨da_nil, fun _ h => by (cases h), fun ρ ρ' vs q => (by simp only [evL] at q; cases q; rfl), fun kws hk => ?_⟩
    cases kws with
    | nil => exact dk_nil
    | cons _ _ => cases hk
  | .cons a b, C, X, es, g, h => by
    cases es <;> try (simp [chkL] at h; done)
    rename_i e es
    simp only [chkL, Bool.and_eq_true, Bool.not_eq_true'] at h
    obtain ⟨l1, l2, l3, l4⟩ := sndL b g h.2
    refine ⟨da_cons (snd a g h.1.2).de l1 (star1 h.1.1), fun e' he => ?_, fun ρ ρ' vs q => ?_, fun kws hk => ?_⟩
    · rcases List.mem_cons.mp he with q | q
      · rw [q]; exact h.1.1
      · exact l2 e' q
    · unfold evL at q
      obtain ⟨⟨va, ρ1⟩, ga, q⟩ := bind_some q
      obtain ⟨⟨vb, ρ2⟩, gb, q⟩ := bind_some q
      obtain ⟨rfl, rfl⟩ := pure_some q
      simp [l3 _ _ _ gb]
    · match kws, hk with
      | ⟨nm, v, kp⟩ :: kws, hk =>
        have hk1 : v = e := (List.cons.inj hk).1
        have hk2 : kws.map (fun q => q.value) = es := (List.cons.inj hk).2
        subst hk1
        exact dk_cons (snd a g h.1.2).de (l4 kws hk2)
  | .var _, C, X, es, g, h => by simp [chkL] at h
  | .glob _, C, X, es, g, h => by simp [chkL] at h
  | .int _, C, X, es, g, h => by simp [chkL] at h
  | .str _, C, X, es, g, h => by simp [chkL] at h
  | .bl _, C, X, es, g, h => by simp [chkL] at h
  | .non, C, X, es, g, h => by simp [chkL] at h
  | .op _ _ _, C, X, es, g, h => by simp [chkL] at h
  | .neg _, C, X, es, g, h => by simp [chkL] at h
  | .cmp _ _ _, C, X, es, g, h => by simp [chkL] at h
  | .chain _ _ _ _ _, C, X, es, g, h => by simp [chkL] at h
  | .isn _ _, C, X, es, g, h => by simp [chkL] at h
  | .one _, C, X, es, g, h => by simp [chkL] at h
  | .band _ _, C, X, es, g, h => by simp [chkL] at h
  | .bor _ _, C, X, es, g, h => by simp [chkL] at h
  | .bnot _, C, X, es, g, h => by simp [chkL] at h
  | .ife _ _ _, C, X, es, g, h => by simp [chkL] at h
  | .tup _, C, X, es, g, h => by simp [chkL] at h
  | .lst _, C, X, es, g, h => by simp [chkL] at h
  | .idx _ _, C, X, es, g, h => by simp [chkL] at h
  | .slc _ _ _, C, X, es, g, h => by simp [chkL] at h
  | .stp _ _, C, X, es, g, h => by simp [chkL] at h
  | .isb _ _ _, C, X, es, g, h => by simp [chkL] at h
  | .aug _ _ _, C, X, es, g, h => by simp [chkL] at h
  | .call _ _, C, X, es, g, h => by simp [chkL] at h
  | .callK _ _, C, X, es, g, h => by simp [chkL] at h
  | .callT _ _ _, C, X, es, g, h => by simp [chkL] at h
  | .lenS _, C, X, es, g, h => by simp [chkL] at h
  | .bi _ _, C, X, es, g, h => by simp [chkL] at h
  | .isi _ _, C, X, es, g, h => by simp [chkL] at h
  | .mt _ _ _, C, X, es, g, h => by simp [chkL] at h
  | .dget _ _, C, X, es, g, h => by simp [chkL] at h
  | .lrng _ _, C, X, es, g, h => by simp [chkL] at h
  | .gdg _ _, C, X, es, g, h => by simp [chkL] at h
  | .comp _ _ _ _ _ _ _, C, X, es, g, h => by simp [chkL] at h
  | .frz _, C, X, es, g, h => by simp [chkL] at h
  | .mu _ _ _, C, X, es, g, h => by simp [chkL] at h
  | .skip, C, X, es, g, h => by simp [chkL] at h
  | .seq _ _, C, X, es, g, h => by simp [chkL] at h
  | .asg _ _, C, X, es, g, h => by simp [chkL] at h
  | .asgO _ _, C, X, es, g, h => by simp [chkL] at h
  | .par _ _, C, X, es, g, h => by simp [chkL] at h
  | .setI _ _ _, C, X, es, g, h => by simp [chkL] at h
  | .prb _ _ _ _ _, C, X, es, g, h => by simp [chkL] at h
  | .expr _, C, X, es, g, h => by simp [chkL] at h
  | .ret _, C, X, es, g, h => by simp [chkL] at h
  | .retO _, C, X, es, g, h => by simp [chkL] at h
  | .retV _, C, X, es, g, h => by simp [chkL] at h
  | .retN, C, X, es, g, h => by simp [chkL] at h
  | .ifS _ _ _, C, X, es, g, h => by simp [chkL] at h
  | .forS _ _ _ _ _, C, X, es, g, h => by simp [chkL] at h
  | .whS _ _, C, X, es, g, h => by simp [chkL] at h
  | .brk, C, X, es, g, h => by simp [chkL] at h
  | .cnt, C, X, es, g, h => by simp [chkL] at h
end
end
end Ov

set_option maxHeartbeats 2000000
namespace Ov
open PySem PySem.Spec PyProof.Rows L2 Evl
/-- how the stores of a, b = x, y go: none: not served; some none: plainly; some names: from the right -/
def swapN (sc : Scope) (ts vs : List Expr) : Option (Option (List Str)) :=
  if !(ts.length == 2 || ts.length == 3) || vs.length != ts.length then some none else
  if vs.any fun | .Starred .. => true | _ => false then some none else
  let line := (ts.head?.map (·.pos.line)).getD 0
  let names := ts.filterMap fun
    | .Name id pos => if (sc.names.lookup id == some .local && pos.line == line) then some id else none
    | _ => none
  if names.length != ts.length || names.eraseDups.length != names.length then some none else
  if vs.all (foldedForSure 8) then some none else
  if vs.all (constantsAlone 8) then none else some (some names)
theorem swapN_eq {env : Env} {ts vs : List Expr} {k k2 : Nat} {p q : Pos} {r : Option (List Str)} (hk : env.scope.kind = .function) (h : swapN env.scope ts vs = some r) : swappedStores [.Tuple ts k p] (.Tuple vs k2 q) env = pure r := by
  have hb : env.blockKind = .function := by unfold Env.blockKind; rw [hk]; rfl
  have hb2 : (env.blockKind != .function) = false := by rw [hb]; rfl
  unfold swapN at h
  unfold swappedStores
  dsimp only
  unfold Env.kindOf
  rw [hb2, Bool.or_false]
  split at h
  · rename_i c; cases h; exact if_pos c
  · rename_i c
    refine (if_neg c).trans ?_
    split at h
    · rename_i c2; cases h; exact if_pos c2
    · rename_i c2
      refine (if_neg c2).trans ?_
      dsimp only at h
      split at h
      · rename_i c3; cases h; exact if_pos c3
      · rename_i c3
        refine (if_neg c3).trans ?_
        split at h
        · rename_i c4; cases h; exact if_pos c4
        · rename_i c4
          refine (if_neg c4).trans ?_
          split at h
          · cases h
          · rename_i c5; cases h; exact if_neg c5
section
variable {X : Cx} {st : Stmt} {sts rest : List Stmt} {e c : Expr} {pos p q : Pos} {G : Cfg} {ia ib ic : IR} {w i : Nat} {x : Str}
theorem ds_parP {tgs es : List Expr} {fs : List (Nat × Bool)} {k1 k2 : Nat} (h : DPs X es (evP G fs ia)) (hc : X.calm = true) (hg : PGs X tgs (gNames fs)) (hn : (assignEach tgs X.env).length = fs.length) (hst : (assignEach tgs X.env).findIdx? (·.1) = none)
    (hw : swappedStores [.Tuple tgs k1 p] (.Tuple es k2 q) X.env = pure none) (hz : fs.length ≤ sizeLine) : DS X (.Assign [.Tuple tgs k1 p] (.Tuple es k2 q) pos) (evS G w (.par fs ia)) := by
  obtain ⟨ta, pa, qa⟩ := h
  refine ⟨_, ps_asg (pe_tup pa) (pg_tup hc hg hn hst) rfl hw rfl, fun n ρ σ F H o D r g k => ?_⟩
  unfold evS at g
  obtain ⟨⟨vs, ρ1⟩, ga, g⟩ := bind_some g
  dsimp only at g
  split at g
  · rename_i hok
    cases g
    refine qa n ρ σ F H vs ρ1 _ r ga fun F1 H1 ws ps s1 hv hp => ?_
    have hlen : ws.length = fs.length := by rw [hv.len]; exact evP_len fs ga
    have hq : ∀ f ∈ fs, ∀ q, n.ps[f.1]? ≠ some (some q) := fun f hf => notBox_free s1.rel (List.all_eq_true.mp hok f hf)
    refine ⟨by omega, fun p2 hp2 => ⟨p2, ws, rfl, Or.inl (Or.inl upd_same), hlen, gNames_set hlen ?_⟩⟩
    have al := Al.own (o := .tup ws) s1.rel.sub hp2
    refine k _ F1 _ s1.ex (Rel.setAll (s1.rel.al al) (hv.mono (Ex.refl _) fun p hp hn => ⟨?_, fun q => q, fun no => no⟩) hq)
    rw [upd_ne (fun e => hn (by rw [e]; exact hp2))]
  · cases g
/-- by a statement's own rule, the tuple not tracked -/
theorem ds_parS {tgs es : List Expr} {fs : List (Nat × Bool)} {k1 k2 : Nat} (h : DPs X es (evP G fs ia)) (hps : ∀ {ta : TA}, PA X es ta → PS X (.Assign [.Tuple tgs k1 p] (.Tuple es k2 q) pos) (fun D σ H => ta σ H fun ws H1 => ws.length = fs.length ∧ D.nx (setSt σ fs ws) H1)) :
    DS X (.Assign [.Tuple tgs k1 p] (.Tuple es k2 q) pos) (evS G w (.par fs ia)) := by
  obtain ⟨ta, pa, qa⟩ := h
  refine ⟨_, hps pa, fun n ρ σ F H o D r g k => ?_⟩
  unfold evS at g
  obtain ⟨⟨vs, ρ1⟩, ga, g⟩ := bind_some g
  dsimp only at g
  split at g
  · rename_i hok
    cases g
    refine qa n ρ σ F H vs ρ1 _ r ga fun F1 H1 ws ps s1 hv hp => ?_
    have hlen : ws.length = fs.length := by rw [hv.len]; exact evP_len fs ga
    have hq : ∀ f ∈ fs, ∀ q, n.ps[f.1]? ≠ some (some q) := fun f hf => notBox_free s1.rel (List.all_eq_true.mp hok f hf)
    exact ⟨hlen, k _ F1 _ s1.ex (Rel.setAll s1.rel hv hq)⟩
  · cases g
theorem PS.imp {t u : TS} (h : PS X st t) (i : ∀ D σ H, u D σ H → t D σ H) : PS X st u := ⟨fun pins s σ H D I q => h.run pins s σ H D I (i D σ H q)⟩
end
end Ov

set_option maxHeartbeats 2000000
namespace Ov
open PySem PySem.Spec PyProof.Rows L2 Evl
section
variable {X : Cx} {G : Cfg}
/-- some names, read one behind another -/
inductive VarsOk (X : Cx) : List Nat → List Expr → Prop
  | nil : VarsOk X [] []
  | cons {j : Nat} {js : List Nat} {x : Str} {p : Pos} {es : List Expr} : X.N[j]? = some x → Vis X.env.scope x → (x == ("__debug__" : Str)) = false → (x == ("__classdict__" : Str)) = false → VarsOk X js es → VarsOk X (j :: js) (.Name x p :: es)
theorem pa_vars : ∀ {js : List Nat} {es : List Expr}, VarsOk X js es → ∃ t, PA X es t ∧ ∀ (σ : L2.St) (H : Hp) (Q : List V → Hp → Prop) (ws : List V), Paired (fun w j => σ[j]? = some (some w)) ws js → Q ws H → t σ H Q
  | _, _, .nil => ⟨_, pa_nil, fun σ H Q ws h q => by cases h; exact q⟩
  | _, _, .cons h1 h2 h3 h4 r => by
    obtain ⟨t, p, k⟩ := pa_vars r
    refine ⟨_, pa_cons (pe_var h1 h2 h3 h4) p rfl, fun σ H Q ws h q => ?_⟩
    cases h with
    | cons a b => exact ⟨_, a, k σ H _ _ b q⟩
theorem slots_rel {K : PySem.W.Frag} {n : Ent} {ρ : Slots} {σ : L2.St} {F H : Hp} (r : Rel K n ρ σ F H) : ∀ {js : List Nat} {zs : List D}, slotsD ρ js = some zs → ∃ ws, Paired (fun w j => σ[j]? = some (some w)) ws js ∧ Rps K F ws zs
  | [], zs, e => by cases e; exact ⟨[], .nil, .nil⟩
  | j :: js, zs, e => by
    simp only [slotsD] at e
    split at e
    · rename_i x hx
      cases q : slotsD ρ js with
      | none => rw [q] at e; cases e
      | some r' =>
        rw [q] at e; cases e
        obtain ⟨ws, h1, h2⟩ := slots_rel r q
        obtain ⟨w, h3, h4⟩ := r.dat j x hx
        exact ⟨w :: ws, .cons h3 h1, .cons h4 h2⟩
    · cases e
theorem upd_none {H : Hp} {p : Addr} {o : HO} {b : Addr} (h : upd H p o b = none) : b ≠ p ∧ H b = none := by
  by_cases e : b = p
  · rw [e, upd_same] at h; cases h
  · rw [upd_ne e] at h; exact ⟨e, h⟩
/-- back behind the test: what was shut for it stands open again -/
theorem Rel.open_ {K : PySem.W.Frag} {n : Ent} {ρ : Slots} {σ : L2.St} {F H H' : Hp} {i : Nat} {w : V} {p0 : Addr} (r : Rel K n ρ σ F H) (hk : ∀ b o, H b = some o → b ≠ p0 → H' b = some o) (hf : F p0 = none) (hn : n.H0 p0 = none) (no : NoOwn ρ σ p0) (hi : ∀ q, n.ps[i]? ≠ some (some q)) :
    Rel K n (ρ.set i none) (σ.set i (some w)) F H' := by
  have ne : ∀ {j : Nat} {e : EV}, (ρ.set i none)[j]? = some (some e) → i ≠ j ∧ ρ[j]? = some (some e) := fun {j e} h => by
    rw [List.getElem?_set] at h
    split at h
    · split at h <;> cases h
    · exact ⟨by assumption, h⟩
  have st : ∀ {j : Nat}, i ≠ j → (σ.set i (some w))[j]? = σ[j]? := fun h => by rw [List.getElem?_set_ne h]
  have ow : ∀ {j : Nat}, isOwn (ρ.set i none)[j]? = true → i ≠ j ∧ isOwn ρ[j]? = true := fun {j} h => by
    obtain ⟨b, xs, hx⟩ := isOwn_iff.mp h
    obtain ⟨h1, h2⟩ := ne hx
    exact ⟨h1, isOwn_iff.mpr ⟨b, xs, h2⟩⟩
  refine ⟨fun b o h => hk b o (r.sub b o h) (fun e => by rw [e, hf] at h; cases h), by rw [List.length_set, List.length_set]; exact r.len, fun j x h => ?_, fun j b xs h => ?_, fun j ns h => ?_, fun j l p h1 h2 h3 h4 => ?_, r.ex0, fun b o h q => ?_, r.newF, fun j p h => ?_⟩
  · obtain ⟨h1, h2⟩ := ne h
    rw [st h1]; exact r.dat j x h2
  · obtain ⟨h1, h2⟩ := ne h
    rw [st h1]
    obtain ⟨p, vs, g1, g2, g3, g4, g5, g6⟩ := r.own j b xs h2
    refine ⟨p, vs, g1, hk p _ g2 (fun e => ?_), g3, g4, g5, g6⟩
    exact no j (isOwn_iff.mpr ⟨b, xs, h2⟩) (by rw [g1, e])
  · obtain ⟨h1, h2⟩ := ne h
    rw [st h1]; exact r.scr j ns h2
  · obtain ⟨a1, a2⟩ := ow h1
    obtain ⟨b1, b2⟩ := ow h2
    rw [st a1] at h3
    rw [st b1] at h4
    exact r.inj j l p a2 b2 h3 h4
  · exact hk b o (r.keep b o h q) (fun e => by rw [e, hn] at h; cases h)
  · have hj : i ≠ j := fun e => hi p (by rw [e]; exact h)
    obtain ⟨h1, xs, h2⟩ := r.par j p h
    refine ⟨by rw [st hj]; exact h1, xs, ?_⟩
    rw [List.getElem?_set_ne hj]; exact h2
end
section
variable {X : Cx} {G : Cfg} {w k i fi : Nat} {f : Addr} {fd : FuncData} {ps : List Str} {x g : Str} {e0 y : Expr} {es vs : List Expr} {ia ir ib : IR} {js : List Nat} {lp lp2 pos p2 gp cp np ip px3 q0 sp ap q1 cp3 ep : Pos} {body rest : List Stmt} {m : Str} {j0 j1 : Nat}
theorem dss_prb (hps : ∀ {te : TE}, PE X (.List (e0 :: es) lp) te → PS X (.Assign [y] (.List (e0 :: es) lp) pos) (tAsg te (gName i))) (ha : DO X e0 (evO G ia)) (hr : DA X es (evL G ir)) (hs0 : starEach (e0 :: es) X.env = (false, eval e0 X.env) :: starEach es X.env)
    (Fn : FnO X.prog X.w X.K X.mg X.base k f fd ps (SpF X.K ps.length (G.cf fi))) (hgd : X.A.guards = some []) (hrm : Room k X.A) (hg : Gl X g) (hm : X.mg g = some (.ref f)) (hk : PySem.W.keepIn X.K (.ref f) = true) (hb : Binds X.K fd ps []) (hl : ps.length = 2) (hdb : (g == ("__debug__" : Str)) = false)
    (hN : X.N[i]? = some x) (hv : Vis X.env.scope x) (hd : (x == ("__debug__" : Str)) = false) (hcd : (x == ("__classdict__" : Str)) = false) (hjs : VarsOk X js vs) (hap : (ap.endLine == cp3.line) = true) (hrest : DSs X rest (evS G w ib)) :
    DSs X (.Assign [y] (.List (e0 :: es) lp) pos :: .If (.UnaryOp .Not (.Call (.Name g gp) [.Name x p2, .List vs lp2] [] cp) np) body [] ip :: .Expr (.Call (.Attribute (.Subscript (.Name x px3) (.Constant (.int 0) j0 q0) sp) "append" ap) [.Constant (.str m) j1 q1] [] cp3) ep :: rest)
      (evS G w (.seq (.prb i ia ir fi js) ib)) := by
  obtain ⟨ta, pa, qa⟩ := ha
  obtain ⟨tr, pr, qr⟩ := hr
  obtain ⟨tv, pv, qv⟩ := pa_vars hjs
  obtain ⟨tu, pu, qu⟩ := hrest
  have P1 := hps (pe_lst (pos := lp) (pa_cons pa pr hs0))
  have P2 : PS X (.If (.UnaryOp .Not (.Call (.Name g gp) [.Name x p2, .List vs lp2] [] cp) np) body [] ip) _ :=
    ps_if (t := fun _ _ _ => False) (pt_not (pt_val (po_call (E := E0) Fn hgd hrm hg hm hk hb (pa_cons (pe_var hN hv hd hcd) (pa_cons (pe_lst pv) pa_nil rfl) rfl) hdb rfl rfl))) ⟨fun _ _ _ _ _ _ z => z.elim⟩ pss_nil
  have P3 : PS X (.Expr (.Call (.Attribute (.Subscript (.Name x px3) (.Constant (.int 0) j0 q0) sp) "append" ap) [.Constant (.str m) j1 q1] [] cp3) ep) _ :=
    ps_expr (pe_bm PySem.F.plainAttrs_list PySem.F.slot_list_append PySem.F.type_list_append mt_append (pe_ix ix_seq (pe_var hN hv hd hcd) pe_int (fun _ _ => rfl)) (pa_cons pe_str pa_nil rfl) rfl rfl hap rfl rfl)
  refine ⟨_, pss_cons P1 (pss_cons P2 (pss_cons P3 pu)), fun n ρ σ F H o D rl g kk => ?_⟩
  unfold evS at g
  obtain ⟨o1, g1, g⟩ := bind_some g
  unfold evS at g1
  obtain ⟨⟨xs, ρ1⟩, gx, g1⟩ := bind_some g1
  obtain ⟨⟨vv, ρ2⟩, gv, g1⟩ := bind_some g1
  obtain ⟨ys, gy, g1⟩ := bind_some g1
  split at g1
  · rename_i hc
    obtain ⟨c1, c2, c3, c4, c5⟩ := hc
    obtain ⟨zs, gz, g1⟩ := bind_some g1
    obtain ⟨⟨q, outs⟩, gq, g1⟩ := bind_some g1
    dsimp only at g1
    split at g1
    · rename_i hq
      cases g1
      have hq : q = .d (.bl true) := by
        cases q with
        | d z =>
          cases z with
          | bl b => cases b <;> first | rfl | (simp [isTrueD] at hq)
          | _ => simp [isTrueD] at hq
        | own b z => simp [isTrueD] at hq
        | scr z => simp [isTrueD] at hq
      subst hq
      refine qa n ρ σ F H xs ρ1 _ rl gx fun F1 H1 p0 us s1 h1 h2 h3 h4 h5 => ?_
      refine qr n ρ1 σ F1 H1 vv ρ2 _ s1.rel gv fun F2 H2 ws s2 hw => ?_
      have no0 : NoOwn ρ1 σ p0 := (own_ne rl h1).step s1
      have no2 : NoOwn ρ2 σ p0 := no0.step s2
      obtain ⟨k3, k2⟩ := s2.fr p0 _ h3 no0
      have k2 := k2 h2
      have rs := vr_pures hw gy
      refine ⟨by show ws.length + 1 ≤ sizeLine; rw [rs.length]; exact c1, fun p hp => ?_⟩
      have hn0 : n.H0 p0 = none := rl.dom h1
      have hnp : n.H0 p = none := s2.rel.dom hp
      have hpp : p ≠ p0 := fun e => by rw [e, k3] at hp; cases hp
      have hi : ∀ q, n.ps[i]? ≠ some (some q) := notBox_free s2.rel c4
      -- shut for the test
      have r1 : Rel X.K n ρ2 σ F2 (upd H2 p (.lst (.ref p0 :: ws))) := s2.rel.al (Al.own s2.rel.sub hp)
      have r2 := r1.shut (p := p0) (by rw [upd_ne (Ne.symm hpp)]; exact k3) k2 no2 hn0
      have e2 : Rp X.K (upd F2 p0 (.lst us)) (.ref p0) (.lst xs) := rp_new_lst k2 (Nat.le_of_lt c2) (h5.mono s2.ex)
      have fp : upd F2 p0 (.lst us) p = none := by rw [upd_ne hpp]; exact Ov.Ex.none s2.rel.sub hp
      have r3 := r2.shut (p := p) upd_same fp (own_ne s2.rel hp) hnp
      have hcx : Rp X.K (upd (upd F2 p0 (.lst us)) p (.lst (.ref p0 :: ws))) (.ref p) (.lst (.lst xs :: ys)) := rp_new_lst fp c1 (.cons e2 (rs.mono (Ex.new k2)))
      have r4 := r3.setD hcx hi
      obtain ⟨wz, hz1, hz2⟩ := slots_rel r4 gz
      have hlen : i < σ.length := by rw [← s2.rel.len]; exact c5
      have hsi : (σ.set i (some (.ref p)))[i]? = some (some (.ref p)) := List.getElem?_set_self hlen
      refine ⟨_, hsi, qv _ _ _ wz hz1 ⟨by rw [hz1.length]; exact c3, fun p3 hp3 => ?_⟩⟩
      have hzl : zs.length ≤ sizeLine := by rw [← hz2.length, hz1.length]; exact c3
      have r5 := r4.al (Al.one (o := .lst wz) r4.sub hp3)
      have f3 := Ov.Ex.none r4.sub hp3
      have hcall : Paired (VR X.K (σ.set i (some (.ref p))) (upd (upd (upd F2 p0 (.lst us)) p (.lst (.ref p0 :: ws))) p3 (.lst wz))) [V.ref p, V.ref p3] [Vl.d (.lst (.lst xs :: ys)), Vl.d (.lst zs)] :=
        .cons (show Rp _ _ _ _ from hcx.mono (Ex.new f3)) (.cons (show Rp _ _ _ _ from rp_new_lst f3 hzl hz2) .nil)
      show SpF X.K ps.length (G.cf fi) ([V.ref p, V.ref p3] ++ []) _ _ E0
      rw [List.append_nil]
      refine ⟨hl.symm, _, _, [.d (.lst (.lst xs :: ys)), .d (.lst zs)], _, outs, gq, ?_, r5.call hcall rfl List.nodup_nil, fun w4 F4 H4 P => ?_⟩
      · rw [psOf_len, hl]; exact Nat.le_refl _
      have hw4 : w4 = .bl true := by
        have := P.res
        cases this
        rfl
      have kp : ∀ b o, upd (upd H2 p (.lst (.ref p0 :: ws))) p3 (.lst wz) b = some o → H4 b = some o := fun b o h => P.keep b o h (by simp [psOf])
      have np3 := upd_none hp3
      have kb : ∀ b o, H2 b = some o → H4 b = some o := fun b o h => kp b o (by
        rw [upd_ne (fun e => by rw [e, np3.2] at h; cases h), upd_ne (fun e => by rw [e, hp] at h; cases h)]
        exact h)
      have e4 : H4 p0 = some (.lst us) := kb p0 _ k3
      have e5 : H4 p = some (.lst (.ref p0 :: ws)) := kp p _ (by rw [upd_ne (Ne.symm np3.1), upd_same])
      refine ⟨true, hw4, ?_⟩
      simp only [Bool.not_true, Bool.false_eq_true, if_false]
      show tBM X.K "list" rAppend (tOp (rIx X.K) (tVar i) (tC (V.int 0))) (tCons (tC (V.str m)) tNil) _ H4 _
      refine ⟨_, hsi, Or.inl ⟨p, _, 0, .ref p0, rfl, rfl, Or.inl (Or.inl e5), (by simp [atI, ixN]), Or.inl ⟨rfl, us, Or.inl (Or.inl e4)⟩, ?_⟩⟩
      refine ⟨p0, us, .str m, rfl, rfl, e4, by rw [h5.length]; exact c2, ?_⟩
      refine qu n _ _ F2 _ o D (Rel.open_ s2.rel (p0 := p0) (fun b o h e => ?_) k2 hn0 no2 hi) g (kk.mono (s1.ex.trans s2.ex))
      rw [upd_ne e]
      exact kb b o h
    · cases g1
  · cases g1
end
end Ov

set_option maxHeartbeats 4000000
namespace Ov
open PySem PySem.Spec PyProof.Rows L2 Evl
def isOtherComp : Expr → Bool
  | .SetComp .. => true
  | .DictComp .. => true
  | _ => false
def isTupE : Expr → Bool
  | .Tuple .. => true
  | _ => false
/-- a name = [..] whose target is stored within the comprehension -/
def swapB (sc : Scope) (v : Expr) (y : Str) (py : Pos) : Bool := match v with
  | .ListComp _ _ s pos => decide (sc.names.lookup y = some .local) && py.line == pos.line && !(s.names.any fun (n, k) => n == y && (k == .local || k == .cell))
  | _ => false
theorem swap_eq {env : Env} {v : Expr} {y : Str} {py : Pos} {l : Nat} (hk : env.scope.kind = .function) (ho : isOtherComp v = false) : swapsWith v (some (.Name y py)) l env = pure (swapB env.scope v y py) := by
  have hb : env.blockKind = .function := by unfold Env.blockKind; rw [hk]; rfl
  cases v <;> first
    | rfl
    | (simp [isOtherComp] at ho; done)
    | (unfold swapsWith swapB
       simp only [hb, Expr.pos]
       show (pure _ : Sem Bool) = pure _
       congr 1
       have : (env.kindOf y == some NameKind.local) = decide (env.scope.names.lookup y = some .local) := by
         unfold Env.kindOf
         cases env.scope.names.lookup y with
         | none => rfl
         | some k => cases k <;> rfl
       simp [this])
theorem swap_none {env : Env} {v : Expr} {l : Nat} (ho : isOtherComp v = false) (hc : isCompE v = false) : swapsWith v none l env = pure false := by
  cases v <;> first | rfl | (simp [isOtherComp] at ho; done) | (simp [isCompE] at hc; done)
theorem swap_tup {env : Env} {v : Expr} {es : List Expr} {k : Nat} {p : Pos} {l : Nat} (ho : isOtherComp v = false) : swapsWith v (some (.Tuple es k p)) l env = pure false := by
  cases v <;> first | rfl | (simp [isOtherComp] at ho; done)
theorem swap_sub {env : Env} {v o i : Expr} {p : Pos} {l : Nat} (ho : isOtherComp v = false) : swapsWith v (some (.Subscript o i p)) l env = pure false := by
  cases v <;> first | rfl | (simp [isOtherComp] at ho; done)
theorem sst_none {env : Env} {tg v : Expr} (h : isTupE v = false) : swappedStores [tg] v env = pure none := by
  cases tg <;> cases v <;> first | rfl | (simp [isTupE] at h; done)
theorem sst_sub {env : Env} {o i : Expr} {p : Pos} {v : Expr} : swappedStores [.Subscript o i p] v env = pure none := by
  cases v <;> rfl
theorem sst_name {env : Env} {x : Str} {p : Pos} {v : Expr} : swappedStores [.Name x p] v env = pure none := by
  cases v <;> rfl
theorem swapB_true {sc : Scope} {v : Expr} {y : Str} {py : Pos} (h : swapB sc v y py = true) : isCompE v = true ∧ sc.names.lookup y = some .local := by
  cases v <;> try (simp [swapB] at h; done)
  simp only [swapB, Bool.and_eq_true, decide_eq_true_eq] at h
  exact ⟨rfl, h.1.1⟩
theorem asg_sub {env : Env} {o k : Expr} {q : Pos} (h : isSlice k = false) : ∀ v, assign (.Subscript o k q) env v = (do
      let ov ← holding [v] (eval o env)
      let iv ← holding [v, ov] (eval k env)
      standAt q
      holding [v, ov, iv] (setItem ov iv v)
      release [v, ov, iv] []) := fun v => by
  cases k <;> first | rfl | (simp [isSlice] at h; done)
theorem snd_comp {T : Tab} {C : CI} {ir : IR} {e : Expr} (hc : isCompE e = true) (h : chkE T C ir e = true) (hj : ir ≠ .skip) : ∃ vs p k a b c x, ir = .comp vs p k a b c x := by
  cases e <;> try (simp [isCompE] at hc; done)
  by_cases hj' : ir = .skip
  · exact absurd hj' hj
  cases ir <;> first | exact ⟨_, _, _, _, _, _, _, rfl⟩ | exact absurd rfl hj | (simp [chkE] at h; done)
theorem evO_comp {G : Cfg} {ir : IR} {ρ ρ1 : Slots} {xs : List D} (h : ∃ vs p k a b c x, ir = .comp vs p k a b c x) (g : evO G ir ρ = some (xs, ρ1)) : evE G ir ρ = some (.d (.lst xs), ρ1) := by
  obtain ⟨vs, p, k, a, b, c, x, rfl⟩ := h
  simp only [evO, fresh, if_true] at g
  obtain ⟨⟨v, ρ2⟩, ge, g⟩ := bind_some g
  cases v with
  | slot i => cases g
  | d y =>
    cases y <;> try (cases g; done)
    obtain ⟨rfl, rfl⟩ := pure_some g
    exact ge
def locB (C : CI) (i : Nat) (x : Str) : Bool := chkP C (.nm i) (.Name x ⟨0, 0, 0, 0⟩)
def namesB (C : CI) : List (Nat × Bool) → List Expr → Bool
  | [], [] => true
  | (i, _) :: fs, .Name x _ :: es => locB C i x && namesB C fs es
  | _, _ => false
def chkPar (T : Tab) (C : CI) : List (Nat × Bool) → IR → List Expr → Bool
  | [], .nil, [] => true
  | (_, b) :: fs, .cons a r, e :: es => !isStar e && chkE T C a e && (!b || ownable a) && chkPar T C fs r es
  | _, _, _ => false
def allLoc (sc : Scope) : List Expr → Bool
  | [] => true
  | .Name x _ :: es => decide (sc.names.lookup x = some .local) && allLoc sc es
  | _ => false
def namesOf : List Expr → List Str
  | [] => []
  | .Name x _ :: es => x :: namesOf es
  | _ :: es => namesOf es
def parB (T : Tab) (C : CI) (fs : List (Nat × Bool)) (ir : IR) (tgs es : List Expr) : Bool :=
  namesB C fs tgs && chkPar T C fs ir es && decide (fs.length ≤ 1000) && decide ((fs.map (·.1)).Nodup) && (match swapN C.sc tgs es with
    | some none => true
    | some (some ns) => decide (ns = namesOf tgs) && allLoc C.sc tgs && (fs.length == 2 || fs.length == 3)
    | none => false)
def varsB (C : CI) : List Nat → List Expr → Bool
  | [], [] => true
  | j :: js, .Name x _ :: es => nameB C j x && varsB C js es
  | _, _ => false
/-- x = [a, ..]; if not f(x, [..]): ..; x[0].append('..') -/
def prbB (T : Tab) (C : CI) (i : Nat) (a r : IR) (f : Nat) (js : List Nat) : List Stmt → Bool
  | .Assign [.Name x px] (.List (e0 :: es) _) _ :: .If (.UnaryOp .Not (.Call (.Name g _) [.Name x2 _, .List vs _] [] _) _) _ [] _ :: .Expr (.Call (.Attribute (.Subscript (.Name x3 _) (.Constant (.int z) _ _) _) ma ap) [.Constant (.str _) _ _] [] cp) _ :: _ =>
    locB C i x && x2 == x && x3 == x && nameB C i x && !isStar e0 && chkE T C a e0 && ownable a && chkL T C r es && decide (T.fn f = some (g, 2)) && glB C g && !(g == ("__debug__" : Str)) && varsB C js vs && decide (z = 0) && ma == ("append" : Str) && ap.endLine == cp.line
  | _ => false
def isPrb (T : Tab) (C : CI) (a : IR) (l : List Stmt) : Bool := match a with
  | .prb i a' r f js => prbB T C i a' r f js l
  | _ => false
def augB : BOp → Operator → Bool
  | .add, .Add => true
  | .sub, .Sub => true
  | .mul, .Mult => true
  | _, _ => false
mutual
def chkS (T : Tab) (C : CI) : IR → Stmt → Bool
  | .nil, _ => true
  | .skip, s => match s with
    | .Pass _ => true
    | _ => false
  | .brk, s => match s with
    | .Break _ => true
    | _ => false
  | .cnt, s => match s with
    | .Continue _ => true
    | _ => false
  | .expr e, s => match s with
    | .Expr v _ => chkE T C e v && !isCompE v && !isOtherComp v
    | _ => false
  | .ret e, s => match s with
    | .Return (some v) _ => chkE T C e v
    | _ => false
  | .retO e, s => match s with
    | .Return (some v) _ => chkE T C e v && ownable e
    | _ => false
  | .retV i, s => match s with
    | .Return (some (.Name x _)) _ => nameB C i x
    | _ => false
  | .retN, s => match s with
    | .Return none _ => true
    | _ => false
  | .ifS c t u, s => match s with
    | .If ce a b _ => chkE T C c ce && !isIfE ce && chkSs T C t a && chkSs T C u b
    | _ => false
  | .forS p k a b body, s => match s with
    | .For tg iter bd [] _ => chkI T C k a b tg iter && !isSetE iter && chkP C p tg && chkSs T C body bd
    | _ => false
  | .whS c b, s => match s with
    | .While ce bd [] _ => chkE T C c ce && !isIfE ce && chkSs T C b bd
    | _ => false
  | .asg (.nm i) e, s => match s with
    | .Assign [.Name x px] v _ => locB C i x && chkE T C e v && !isOtherComp v
    | _ => false
  | .asg (.tp p) e, s => match s with
    | .Assign [.Tuple es k pt] v _ => chkP C (.tp p) (.Tuple es k pt) && chkE T C e v && !isOtherComp v && !isTupE v
    | _ => false
  | .asgO i e, s => match s with
    | .Assign [.Name x px] v _ => locB C i x && chkE T C e v && ownable e && !isOtherComp v
    | _ => false
  | .par fs es, s => match s with
    | .Assign [.Tuple tgs _ _] (.Tuple el _ _) _ => parB T C fs es tgs el
    | _ => false
  | .aug o i e, s => match s with
    | .AugAssign (.Name x _) op v _ => locB C i x && chkE T C e v && augB o op
    | _ => false
  | .setI i k e, s => match s with
    | .Assign [.Subscript (.Name x _) kx _] v _ => nameB C i x && chkE T C k kx && chkE T C e v && !isOtherComp v && !isSlice kx
    | _ => false
  | _, _ => false
def chkSs (T : Tab) (C : CI) : IR → List Stmt → Bool
  | .skip, l => match l with
    | [] => true
    | _ => false
  | .seq a b, l => (match l with
    | s :: ss => chkS T C a s && chkSs T C b ss
    | _ => false) || (isPrb T C a l && (match l with
      | _ :: _ :: _ :: ss => chkSs T C b ss
      | _ => false))
  | _, _ => false
end
section
variable {T : Tab} {G : Cfg} {w : Nat}
theorem loc_pg {X : Cx} {C : CI} (g : Good T G X C) {i : Nat} {x : Str} (h : locB C i x = true) : C.N[i]? = some x ∧ (Loc X.env.scope x) ∧ (X.fn x = true ∨ X.env.scope.names.lookup x = some .local) := by
  simp only [locB, chkP, Bool.and_eq_true, Bool.or_eq_true, beq_iff_eq, decide_eq_true_eq] at h
  refine ⟨h.1, ?_, ?_⟩
  · rw [g.sc]
    rcases h.2 with q | q
    · exact Or.inl q
    · exact Or.inr q.1
  · rcases h.2 with q | q
    · exact Or.inr (by rw [g.sc]; exact q)
    · exact Or.inl (g.fn x q.2)
theorem names_pgs {X : Cx} {C : CI} (g : Good T G X C) : ∀ {fs : List (Nat × Bool)} {tgs : List Expr}, namesB C fs tgs = true → PGs X tgs (gNames fs) ∧ (∀ e ∈ tgs, isStar e = false) ∧ tgs.length = fs.length
  | [], [], _ => ⟨pgs_nil, fun _ h => (by cases h), rfl⟩
  | (i, b) :: fs, e :: es, h => by
    cases e <;> try (simp [namesB] at h; done)
    rename_i x px
    simp only [namesB, Bool.and_eq_true] at h
    obtain ⟨h1, h2, h3⟩ := names_pgs g h.2
    obtain ⟨l1, l2, l3⟩ := loc_pg g h.1
    refine ⟨pgs_cons (pg_name (by rw [g.N]; exact g.nd) (by rw [g.N]; exact l1) l2 l3) h1 rfl, fun e he => ?_, by simp [h3]⟩
    rcases List.mem_cons.mp he with q | q
    · rw [q]; rfl
    · exact h2 e q
  | [], _ :: _, h => by simp [namesB] at h
  | _ :: _, [], h => by simp [namesB] at h
theorem dps_of {X : Cx} {C : CI} (g : Good T G X C) : ∀ {fs : List (Nat × Bool)} {ir : IR} {es : List Expr}, chkPar T C fs ir es = true → DPs X es (evP G fs ir)
  | [], ir, es, h => by
    cases ir <;> try (simp [chkPar] at h; done)
    cases es <;> try (simp [chkPar] at h; done)
    exact dps_nil
  | (i, b) :: fs, ir, es, h => by
    cases ir <;> try (simp [chkPar] at h; done)
    cases es <;> try (simp [chkPar] at h; done)
    simp only [chkPar, Bool.and_eq_true, Bool.not_eq_true', Bool.or_eq_true] at h
    obtain ⟨⟨⟨h1, h2⟩, h3⟩, h4⟩ := h
    have sa := snd _ g h2
    cases b with
    | false => exact dps_d sa.de (dps_of g h4) (star1 h1)
    | true =>
      rcases h3 with h3 | h3
      · cases h3
      · exact dps_o (sa.own h3) (dps_of g h4) (star1 h1)
theorem chkPar_len {T : Tab} {C : CI} : ∀ {fs : List (Nat × Bool)} {ir : IR} {es : List Expr}, chkPar T C fs ir es = true → es.length = fs.length
  | [], ir, es, h => by
    cases ir <;> try (simp [chkPar] at h; done)
    cases es <;> try (simp [chkPar] at h; done)
    rfl
  | (i, b) :: fs, ir, es, h => by
    cases ir <;> try (simp [chkPar] at h; done)
    cases es <;> try (simp [chkPar] at h; done)
    simp only [chkPar, Bool.and_eq_true] at h
    simp [chkPar_len h.2]
theorem snd_par {X : Cx} {C : CI} {fs : List (Nat × Bool)} {ir : IR} {tgs es : List Expr} {k1 k2 : Nat} {p q pos : Pos} (g : Good T G X C) (hk : X.env.scope.kind = .function) (h : parB T C fs ir tgs es = true) :
    DS X (.Assign [.Tuple tgs k1 p] (.Tuple es k2 q) pos) (evS G w (.par fs ir)) := by
  simp only [parB, Bool.and_eq_true, decide_eq_true_eq] at h
  obtain ⟨⟨⟨⟨h1, h2⟩, h3⟩, h4⟩, h5⟩ := h
  obtain ⟨n1, n2, n3⟩ := names_pgs g h1
  have hN : X.N.Nodup := by rw [g.N]; exact g.nd
  have dp := dps_of g h2
  cases hs : swapN C.sc tgs es with
  | none => rw [hs] at h5; cases h5
  | some r =>
    rw [hs] at h5
    rw [← g.sc] at hs
    have hsw := swapN_eq (k := k1) (k2 := k2) (p := p) (q := q) hk hs
    cases r with
    | none => exact ds_parP dp g.calm n1 (by rw [(assign_star n2).1, n3]) (assign_star n2).2 hsw (Nat.le_trans h3 (by decide))
    | some ns =>
      simp only [Bool.and_eq_true, decide_eq_true_eq, Bool.or_eq_true, beq_iff_eq] at h5
      obtain ⟨⟨m1, m2⟩, m3⟩ := h5
      subst m1
      rcases m3 with m3 | m3
      · match fs, tgs, m3, n3 with
        | [(i, b1), (j, b2)], [t1, t2], _, _ =>
          cases t1 <;> try (simp [allLoc] at m2; done)
          cases t2 <;> try (simp [allLoc] at m2; done)
          rename_i x px y py
          simp only [allLoc, Bool.and_eq_true, decide_eq_true_eq, Bool.and_true] at m2
          simp only [namesB, Bool.and_eq_true] at h1
          have hi := (loc_pg g h1.1).1
          have hj := (loc_pg g h1.2.1).1
          have hij : i ≠ j := by simpa using h4
          have he : ∃ a b, es = [a, b] := by
            have hl := chkPar_len h2
            match es, hl with
            | [a, b], _ => exact ⟨a, b, rfl⟩
          obtain ⟨a, b, rfl⟩ := he
          refine ds_parS dp fun {ta} pa => ?_
          have := ps_par (pos := pos) g.calm hN (by rw [g.N]; exact hi) (by rw [g.N]; exact hj) hij (by rw [g.sc]; exact m2.1) (by rw [g.sc]; exact m2.2) pa hsw rfl
          refine PS.imp this fun D σ H hh => ?_
          have e : (fun (vs : List V) (H1 : Hp) => ∃ v w, vs = [v, w] ∧ D.nx ((σ.set i (some v)).set j (some w)) H1) = fun ws H1 => ws.length = [(i, b1), (j, b2)].length ∧ D.nx (setSt σ [(i, b1), (j, b2)] ws) H1 := by
            funext vs H1
            refine propext ⟨?_, ?_⟩
            · rintro ⟨v, w, rfl, q⟩; exact ⟨rfl, q⟩
            · rintro ⟨hl, q⟩
              match vs, hl with
              | [v, w], _ => exact ⟨v, w, rfl, q⟩
          show ta σ H (fun (vs : List V) (H1 : Hp) => ∃ v w, vs = [v, w] ∧ D.nx ((σ.set i (some v)).set j (some w)) H1)
          rw [e]; exact hh
      · match fs, tgs, m3, n3 with
        | [(i, b1), (j, b2), (l, b3)], [t1, t2, t3], _, _ =>
          cases t1 <;> try (simp [allLoc] at m2; done)
          cases t2 <;> try (simp [allLoc] at m2; done)
          cases t3 <;> try (simp [allLoc] at m2; done)
          rename_i x px y py z pz
          simp only [allLoc, Bool.and_eq_true, decide_eq_true_eq, Bool.and_true] at m2
          simp only [namesB, Bool.and_eq_true] at h1
          have hi := (loc_pg g h1.1).1
          have hj := (loc_pg g h1.2.1).1
          have hl := (loc_pg g h1.2.2.1).1
          have hnd : (i ≠ j ∧ i ≠ l) ∧ j ≠ l := by simpa using h4
          have he : ∃ a b c, es = [a, b, c] := by
            have hl := chkPar_len h2
            match es, hl with
            | [a, b, c], _ => exact ⟨a, b, c, rfl⟩
          obtain ⟨a, b, c, rfl⟩ := he
          refine ds_parS dp fun {ta} pa => ?_
          have := ps_par3 (pos := pos) g.calm hN (by rw [g.N]; exact hi) (by rw [g.N]; exact hj) (by rw [g.N]; exact hl) hnd.1.1 hnd.1.2 hnd.2 (by rw [g.sc]; exact m2.1) (by rw [g.sc]; exact m2.2.1) (by rw [g.sc]; exact m2.2.2) pa hsw rfl
          refine PS.imp this fun D σ H hh => ?_
          have e : (fun (vs : List V) (H1 : Hp) => ∃ u v w, vs = [u, v, w] ∧ D.nx (((σ.set i (some u)).set j (some v)).set l (some w)) H1) = fun ws H1 => ws.length = [(i, b1), (j, b2), (l, b3)].length ∧ D.nx (setSt σ [(i, b1), (j, b2), (l, b3)] ws) H1 := by
            funext vs H1
            refine propext ⟨?_, ?_⟩
            · rintro ⟨u, v, w, rfl, q⟩; exact ⟨rfl, q⟩
            · rintro ⟨hl, q⟩
              match vs, hl with
              | [u, v, w], _ => exact ⟨u, v, w, rfl, q⟩
          show ta σ H (fun (vs : List V) (H1 : Hp) => ∃ u v w, vs = [u, v, w] ∧ D.nx (((σ.set i (some u)).set j (some v)).set l (some w)) H1)
          rw [e]; exact hh
theorem vars_ok {X : Cx} {C : CI} (g : Good T G X C) : ∀ {js : List Nat} {es : List Expr}, varsB C js es = true → VarsOk X js es
  | [], [], _ => .nil
  | j :: js, e :: es, h => by
    cases e <;> try (simp [varsB] at h; done)
    simp only [varsB, Bool.and_eq_true] at h
    obtain ⟨h1, h2, h3, h4⟩ := g.name h.1
    exact .cons h1 h2 h3 h4 (vars_ok g h.2)
  | [], _ :: _, h => by simp [varsB] at h
  | _ :: _, [], h => by simp [varsB] at h
theorem snd_prb {X : Cx} {C : CI} {i f : Nat} {a r b : IR} {js : List Nat} {s1 s2 s3 : Stmt} {ss : List Stmt} (g : Good T G X C) (hk : X.env.scope.kind = .function) (h : prbB T C i a r f js (s1 :: s2 :: s3 :: ss) = true) (hr : DSs X ss (evS G w b)) : DSs X (s1 :: s2 :: s3 :: ss) (evS G w (.seq (.prb i a r f js) b)) := by
  unfold prbB at h
  split at h
  · rename_i x px e0 es lp pos fn gp x2 p2 vs lp2 cp' np body ip x3 px3 z j0 q0 sp ma ap m j1 q1 cp ep rest heq
    cases heq
    simp only [Bool.and_eq_true, beq_iff_eq, decide_eq_true_eq, Bool.not_eq_true'] at h
    obtain ⟨⟨⟨⟨⟨⟨⟨⟨⟨⟨⟨⟨⟨⟨h1, h2⟩, h3⟩, h4⟩, h5⟩, h6⟩, h7⟩, h8⟩, h9⟩, h10⟩, h11⟩, h12⟩, h13⟩, h14⟩, h15⟩ := h
    subst h2
    subst h3
    subst h13
    subst h14
    obtain ⟨l1, l2, l3⟩ := loc_pg g h1
    obtain ⟨n1, n2, n3, n4⟩ := g.name h4
    obtain ⟨k, ad, fd, ps, f1, f2, f3, f4, f5, f6⟩ := g.fns _ _ _ h9
    have hN : X.N.Nodup := by rw [g.N]; exact g.nd
    refine dss_prb (fun {te} hpe => ps_set hN (by rw [g.N]; exact l1) l2 hpe rfl l3) ((snd a g h6).own h7) (sndL r g h8).1 (star1 h5) f1 g.gds f2 (g.gl h10) f3 f4 f5 f6 h11 n1 n2 n3 n4 (vars_ok g h12) (by simpa using h15) hr
  · cases h
mutual
theorem sndS : ∀ (ir : IR) {C : CI} {X : Cx} {s : Stmt}, Good T G X C → X.env.scope.kind = .function → chkS T C ir s = true → DS X s (evS G w ir)
  | .skip, C, X, s, g, hk, h => by
    cases s <;> try (simp [chkS] at h; done)
    exact ds_pass
  | .brk, C, X, s, g, hk, h => by
    cases s <;> try (simp [chkS] at h; done)
    exact ds_brk
  | .cnt, C, X, s, g, hk, h => by
    cases s <;> try (simp [chkS] at h; done)
    exact ds_cnt
  | .expr e, C, X, s, g, hk, h => by
    cases s <;> try (simp [chkS] at h; done)
    simp only [chkS, Bool.and_eq_true, Bool.not_eq_true'] at h
    exact ds_expr (snd e g h.1.1).de (swap_none h.2 h.1.2)
  | .ret e, C, X, s, g, hk, h => by
    cases s <;> try (simp [chkS] at h; done)
    rename_i v pos
    cases v <;> try (simp [chkS] at h; done)
    simp only [chkS] at h
    exact ds_ret (snd e g h).de
  | .retO e, C, X, s, g, hk, h => by
    cases s <;> try (simp [chkS] at h; done)
    rename_i v pos
    cases v <;> try (simp [chkS] at h; done)
    simp only [chkS, Bool.and_eq_true] at h
    exact ds_retO ((snd e g h.1).own h.2)
  | .retV i, C, X, s, g, hk, h => by
    cases s <;> try (simp [chkS] at h; done)
    rename_i v pos
    cases v <;> try (simp [chkS] at h; done)
    rename_i v
    cases v <;> try (simp [chkS] at h; done)
    simp only [chkS] at h
    obtain ⟨h1, h2, h3, h4⟩ := g.name h
    exact ds_retV h1 h2 h3 h4
  | .retN, C, X, s, g, hk, h => by
    cases s <;> try (simp [chkS] at h; done)
    rename_i v pos
    cases v <;> try (simp [chkS] at h; done)
    exact ds_retN
  | .ifS c t u, C, X, s, g, hk, h => by
    cases s <;> try (simp [chkS] at h; done)
    simp only [chkS, Bool.and_eq_true, Bool.not_eq_true'] at h
    exact ds_if ((snd c g h.1.1.1).dt h.1.1.2) (sndSs t g hk h.1.2) (sndSs u g hk h.2)
  | .forS p k a b body, C, X, s, g, hk, h => by
    cases s <;> try (simp [chkS] at h; done)
    rename_i tg iter bd oe pos
    cases oe <;> try (simp [chkS] at h; done)
    simp only [chkS, Bool.and_eq_true, Bool.not_eq_true'] at h
    refine ds_for (by rw [g.xe]; exact PassesOwn.never) g.calm (di_of g (fun h => (snd a g h).de) (fun h => (snd b g h).de) h.1.1.1) (pg_of g h.1.2) (sndSs body g hk h.2) (noSet h.1.1.2)
  | .whS c b, C, X, s, g, hk, h => by
    cases s <;> try (simp [chkS] at h; done)
    rename_i ce bd oe pos
    cases oe <;> try (simp [chkS] at h; done)
    simp only [chkS, Bool.and_eq_true, Bool.not_eq_true'] at h
    exact ds_while (by rw [g.xe]; exact PassesOwn.never) ((snd c g h.1.1).dt h.1.2) (sndSs b g hk h.2)
  | .aug o i e, C, X, s, g, hk, h => by
    cases s <;> try (simp [chkS] at h; done)
    rename_i tg op v pos
    cases tg <;> try (simp [chkS] at h; done)
    rename_i x px
    simp only [chkS, Bool.and_eq_true] at h
    obtain ⟨l1, l2, l3⟩ := loc_pg g h.1.1
    refine ds_aug ?_ (by rw [g.N]; exact g.nd) (by rw [g.N]; exact l1) l2 l3 (snd e g h.1.2).de
    have z := h.2
    cases o <;> cases op <;> first | rfl | (cases z; done)
  | .asg pt e, C, X, s, g, hk, h => by
    cases s <;> try (cases pt <;> simp [chkS] at h; done)
    rename_i tgs v pos
    cases pt with
    | nil => simp [chkS] at h
    | cons _ _ => simp [chkS] at h
    | nm i =>
      match tgs, h with
      | [.Name x px], h =>
        simp only [chkS, Bool.and_eq_true, Bool.not_eq_true'] at h
        obtain ⟨l1, l2, l3⟩ := loc_pg g h.1.1
        have se := snd e g h.1.2
        have hN : X.N[i]? = some x := by rw [g.N]; exact l1
        have hnd : X.N.Nodup := by rw [g.N]; exact g.nd
        have hsw := swap_eq (y := x) (py := px) (l := pos.line) hk h.2
        cases hq : swapB X.env.scope v x px with
        | false =>
          rw [hq] at hsw
          exact ds_asg (pt := .nm i) se.de (dg_nm hnd hN l2 l3) fun {te gg} hpe hpg => ps_asg hpe hpg hsw sst_name rfl
        | true =>
          rw [hq] at hsw
          obtain ⟨c1, c2⟩ := swapB_true hq
          obtain ⟨te, ps, q⟩ := se.lc c1
          refine ⟨_, ps hN c2 hsw, fun n ρ σ F H o D r gg k => ?_⟩
          unfold evS at gg
          obtain ⟨⟨v1, ρ1⟩, g1, gg⟩ := bind_some gg
          obtain ⟨y, gy, gg⟩ := bind_some gg
          split at gg
          · rename_i hok
            obtain ⟨ρ2, gb, gg⟩ := bind_some gg
            cases gg
            simp only [Pat.bind, Option.some.injEq] at gb
            subst gb
            refine q n ρ σ F H v1 ρ1 _ r g1 fun F' H' w1 c s1 ev nw => ?_
            subst ev
            cases gy
            obtain ⟨F2, s2, rp⟩ := shut_own r s1 nw
            exact k _ F2 H' s2.ex (s2.rel.setD rp (notBox_free s2.rel (all_ok hok i (by simp [Pat.slots]))))
          · cases gg
    | tp p =>
      match tgs, h with
      | [.Tuple es k pt], h =>
        simp only [chkS, Bool.and_eq_true, Bool.not_eq_true'] at h
        exact ds_asg (snd e g h.1.1.2).de (pg_of g h.1.1.1) fun {te gg} hpe hpg => ps_asg hpe hpg (show swapsWith v (some (.Tuple es k pt)) pos.line X.env = pure false from swap_tup h.1.2) (sst_none h.2) rfl
  | .asgO i e, C, X, s, g, hk, h => by
    cases s <;> try (simp [chkS] at h; done)
    rename_i tgs v pos
    match tgs, h with
    | [.Name x px], h =>
      simp only [chkS, Bool.and_eq_true, Bool.not_eq_true'] at h
      obtain ⟨l1, l2, l3⟩ := loc_pg g h.1.1.1
      have se := snd e g h.1.1.2
      have hN : X.N[i]? = some x := by rw [g.N]; exact l1
      have hnd : X.N.Nodup := by rw [g.N]; exact g.nd
      have hsw := swap_eq (y := x) (py := px) (l := pos.line) hk h.2
      cases hq : swapB X.env.scope v x px with
      | false =>
        rw [hq] at hsw
        exact ds_asgO (se.own h.1.2) fun {te} hpe => ps_set hnd hN l2 hpe hsw l3
      | true =>
        rw [hq] at hsw
        obtain ⟨c1, c2⟩ := swapB_true hq
        obtain ⟨te, ps, q⟩ := se.lc c1
        refine ⟨_, ps hN c2 hsw, fun n ρ σ F H o D r gg k => ?_⟩
        unfold evS at gg
        obtain ⟨⟨xs, ρ1⟩, g1, gg⟩ := bind_some gg
        dsimp only at gg
        split at gg
        · rename_i hok
          cases gg
          have ge := evO_comp (snd_comp c1 h.1.1.2 (fun q => by rw [q] at g1; simp [evO, fresh] at g1)) g1
          refine q n ρ σ F H _ ρ1 _ r ge fun F' H' w1 c s1 ev nw => ?_
          cases ev
          obtain ⟨p, vs, rfl, h1, h2, h3, h4, h5⟩ := nw
          exact k _ F' H' s1.ex (s1.rel.setO h3 h2 ((own_ne r h1).step s1) (r.dom h1) h4 h5 (notBox_free s1.rel hok))
        · cases gg
  | .prb _ _ _ _ _, C, X, s, g, hk, h => by simp [chkS] at h
  | .setI i k e, C, X, s, g, hk, h => by
    cases s <;> try (simp [chkS] at h; done)
    rename_i tgs v pos
    match tgs, h with
    | [.Subscript (.Name x p) kx q], h =>
      simp only [chkS, Bool.and_eq_true, Bool.not_eq_true'] at h
      obtain ⟨⟨⟨⟨h1, h2⟩, h3⟩, h4⟩, h6⟩ := h
      obtain ⟨k1, k2, k3, k4⟩ := g.name h1
      exact ds_setI (asg_sub h6) (snd e g h3).de (snd k g h2).de k1 k2 k3 k4 (show swapsWith v (some (.Subscript (.Name x p) kx q)) pos.line X.env = pure false from swap_sub h4) sst_sub
  | .par fs es, C, X, s, g, hk, h => by
    cases s <;> try (simp [chkS] at h; done)
    rename_i tgs v pos
    match tgs, v, h with
    | [.Tuple ts k1 p], .Tuple el k2 q, h =>
      simp only [chkS] at h
      exact snd_par g hk h
  | .nil, C, X, s, g, hk, h => ⟨fun _ _ _ => False, ⟨fun _ _ _ _ _ _ z => z.elim⟩, fun n ρ σ F H o D rl g k => by simp [evS] at g⟩
  | .cons _ _, C, X, s, g, hk, h => by simp [chkS] at h
  | .var _, C, X, s, g, hk, h => by simp [chkS] at h
  | .glob _, C, X, s, g, hk, h => by simp [chkS] at h
  | .int _, C, X, s, g, hk, h => by simp [chkS] at h
  | .str _, C, X, s, g, hk, h => by simp [chkS] at h
  | .bl _, C, X, s, g, hk, h => by simp [chkS] at h
  | .non, C, X, s, g, hk, h => by simp [chkS] at h
  | .op _ _ _, C, X, s, g, hk, h => by simp [chkS] at h
  | .neg _, C, X, s, g, hk, h => by simp [chkS] at h
  | .cmp _ _ _, C, X, s, g, hk, h => by simp [chkS] at h
  | .chain _ _ _ _ _, C, X, s, g, hk, h => by simp [chkS] at h
  | .isn _ _, C, X, s, g, hk, h => by simp [chkS] at h
  | .one _, C, X, s, g, hk, h => by simp [chkS] at h
  | .band _ _, C, X, s, g, hk, h => by simp [chkS] at h
  | .bor _ _, C, X, s, g, hk, h => by simp [chkS] at h
  | .bnot _, C, X, s, g, hk, h => by simp [chkS] at h
  | .ife _ _ _, C, X, s, g, hk, h => by simp [chkS] at h
  | .tup _, C, X, s, g, hk, h => by simp [chkS] at h
  | .lst _, C, X, s, g, hk, h => by simp [chkS] at h
  | .idx _ _, C, X, s, g, hk, h => by simp [chkS] at h
  | .slc _ _ _, C, X, s, g, hk, h => by simp [chkS] at h
  | .stp _ _, C, X, s, g, hk, h => by simp [chkS] at h
  | .isb _ _ _, C, X, s, g, hk, h => by simp [chkS] at h
  | .call _ _, C, X, s, g, hk, h => by simp [chkS] at h
  | .callK _ _, C, X, s, g, hk, h => by simp [chkS] at h
  | .callT _ _ _, C, X, s, g, hk, h => by simp [chkS] at h
  | .lenS _, C, X, s, g, hk, h => by simp [chkS] at h
  | .bi _ _, C, X, s, g, hk, h => by simp [chkS] at h
  | .isi _ _, C, X, s, g, hk, h => by simp [chkS] at h
  | .mt _ _ _, C, X, s, g, hk, h => by simp [chkS] at h
  | .dget _ _, C, X, s, g, hk, h => by simp [chkS] at h
  | .lrng _ _, C, X, s, g, hk, h => by simp [chkS] at h
  | .gdg _ _, C, X, s, g, hk, h => by simp [chkS] at h
  | .comp _ _ _ _ _ _ _, C, X, s, g, hk, h => by simp [chkS] at h
  | .frz _, C, X, s, g, hk, h => by simp [chkS] at h
  | .mu _ _ _, C, X, s, g, hk, h => by simp [chkS] at h
  | .seq _ _, C, X, s, g, hk, h => by simp [chkS] at h
theorem sndSs : ∀ (ir : IR) {C : CI} {X : Cx} {ss : List Stmt}, Good T G X C → X.env.scope.kind = .function → chkSs T C ir ss = true → DSs X ss (evS G w ir)
  | .skip, C, X, ss, g, hk, h => by
    cases ss <;> try (simp [chkSs] at h; done)
    exact dss_nil
  | .seq a b, C, X, ss, g, hk, h => by
    match ss, h with
    | [], h => simp [chkSs] at h
    | [s], h =>
      simp only [chkSs, Bool.and_false, Bool.or_false, Bool.and_eq_true] at h
      exact dss_cons (sndS a g hk h.1) (sndSs b g hk h.2)
    | [s, s2], h =>
      simp only [chkSs, Bool.and_false, Bool.or_false, Bool.and_eq_true] at h
      exact dss_cons (sndS a g hk h.1) (sndSs b g hk h.2)
    | s1 :: s2 :: s3 :: ss, h =>
      simp only [chkSs, Bool.or_eq_true, Bool.and_eq_true] at h
      rcases h with h | h
      · exact dss_cons (sndS a g hk h.1) (sndSs b g hk h.2)
      · have hr := sndSs b g hk h.2
        have h1 := h.1
        cases a <;> first | exact snd_prb g hk h1 hr | (simp [isPrb] at h1)
  | .nil, C, X, ss, g, hk, h => by simp [chkSs] at h
  | .cons _ _, C, X, ss, g, hk, h => by simp [chkSs] at h
  | .var _, C, X, ss, g, hk, h => by simp [chkSs] at h
  | .glob _, C, X, ss, g, hk, h => by simp [chkSs] at h
  | .int _, C, X, ss, g, hk, h => by simp [chkSs] at h
  | .str _, C, X, ss, g, hk, h => by simp [chkSs] at h
  | .bl _, C, X, ss, g, hk, h => by simp [chkSs] at h
  | .non, C, X, ss, g, hk, h => by simp [chkSs] at h
  | .op _ _ _, C, X, ss, g, hk, h => by simp [chkSs] at h
  | .neg _, C, X, ss, g, hk, h => by simp [chkSs] at h
  | .cmp _ _ _, C, X, ss, g, hk, h => by simp [chkSs] at h
  | .chain _ _ _ _ _, C, X, ss, g, hk, h => by simp [chkSs] at h
  | .isn _ _, C, X, ss, g, hk, h => by simp [chkSs] at h
  | .one _, C, X, ss, g, hk, h => by simp [chkSs] at h
  | .band _ _, C, X, ss, g, hk, h => by simp [chkSs] at h
  | .bor _ _, C, X, ss, g, hk, h => by simp [chkSs] at h
  | .bnot _, C, X, ss, g, hk, h => by simp [chkSs] at h
  | .ife _ _ _, C, X, ss, g, hk, h => by simp [chkSs] at h
  | .tup _, C, X, ss, g, hk, h => by simp [chkSs] at h
  | .lst _, C, X, ss, g, hk, h => by simp [chkSs] at h
  | .idx _ _, C, X, ss, g, hk, h => by simp [chkSs] at h
  | .slc _ _ _, C, X, ss, g, hk, h => by simp [chkSs] at h
  | .stp _ _, C, X, ss, g, hk, h => by simp [chkSs] at h
  | .isb _ _ _, C, X, ss, g, hk, h => by simp [chkSs] at h
  | .aug _ _ _, C, X, ss, g, hk, h => by simp [chkSs] at h
  | .call _ _, C, X, ss, g, hk, h => by simp [chkSs] at h
  | .callK _ _, C, X, ss, g, hk, h => by simp [chkSs] at h
  | .callT _ _ _, C, X, ss, g, hk, h => by simp [chkSs] at h
  | .lenS _, C, X, ss, g, hk, h => by simp [chkSs] at h
  | .bi _ _, C, X, ss, g, hk, h => by simp [chkSs] at h
  | .isi _ _, C, X, ss, g, hk, h => by simp [chkSs] at h
  | .mt _ _ _, C, X, ss, g, hk, h => by simp [chkSs] at h
  | .dget _ _, C, X, ss, g, hk, h => by simp [chkSs] at h
  | .lrng _ _, C, X, ss, g, hk, h => by simp [chkSs] at h
  | .gdg _ _, C, X, ss, g, hk, h => by simp [chkSs] at h
  | .comp _ _ _ _ _ _ _, C, X, ss, g, hk, h => by simp [chkSs] at h
  | .frz _, C, X, ss, g, hk, h => by simp [chkSs] at h
  | .mu _ _ _, C, X, ss, g, hk, h => by simp [chkSs] at h
  | .asg _ _, C, X, ss, g, hk, h => by simp [chkSs] at h
  | .asgO _ _, C, X, ss, g, hk, h => by simp [chkSs] at h
  | .par _ _, C, X, ss, g, hk, h => by simp [chkSs] at h
  | .setI _ _ _, C, X, ss, g, hk, h => by simp [chkSs] at h
  | .prb _ _ _ _ _, C, X, ss, g, hk, h => by simp [chkSs] at h
  | .expr _, C, X, ss, g, hk, h => by simp [chkSs] at h
  | .ret _, C, X, ss, g, hk, h => by simp [chkSs] at h
  | .retO _, C, X, ss, g, hk, h => by simp [chkSs] at h
  | .retV _, C, X, ss, g, hk, h => by simp [chkSs] at h
  | .retN, C, X, ss, g, hk, h => by simp [chkSs] at h
  | .ifS _ _ _, C, X, ss, g, hk, h => by simp [chkSs] at h
  | .forS _ _ _ _ _, C, X, ss, g, hk, h => by simp [chkSs] at h
  | .whS _ _, C, X, ss, g, hk, h => by simp [chkSs] at h
  | .brk, C, X, ss, g, hk, h => by simp [chkSs] at h
  | .cnt, C, X, ss, g, hk, h => by simp [chkSs] at h
end
end
end Ov

set_option maxHeartbeats 4000000
namespace Ov
open PySem PySem.Spec PyProof.Rows L2 Evl
/-- a def of the program: its text and its IR -/
structure FD where
  x : Str
  args : Arguments
  body : List Stmt
  scope : Scope
  ps : List Str
  N : List Str
  ir : IR
def FD.fn (d : FD) : Fn := ⟨d.ps.length, d.N.length, d.ir⟩
def scopeB (N P : List Str) (sc : Scope) : Bool :=
  decide (sc.kind = .function) && !sc.isCoroutine && !sc.isGenerator && decide N.Nodup && decide (N.take P.length = P) &&
  (P.all fun x => decide (sc.names.lookup x = some .local) || decide (sc.names.lookup x = some .cell)) && (sc.names.all fun y => decide (y.2 ≠ .free))
theorem scope_of {N P : List Str} {sc : Scope} (h : scopeB N P sc = true) : FnScope N P sc := by
  simp only [scopeB, Bool.and_eq_true, decide_eq_true_eq, Bool.not_eq_true', List.all_eq_true, Bool.or_eq_true] at h
  obtain ⟨⟨⟨⟨⟨⟨h1, h2⟩, h3⟩, h4⟩, h5⟩, h6⟩, h7⟩ := h
  exact ⟨h1, h2, h3, h4, h5, h6, h7⟩
def FD.ok (T : Tab) (d : FD) : Bool := scopeB d.N d.ps d.scope && decide (d.ps.length ≤ d.N.length) && chkSs T ⟨d.N, d.scope, fun _ => true⟩ d.ir d.body
/-- by number -/
def asg {α : Type} : List (Nat × α) → Nat → Option α
  | [], _ => none
  | (k, v) :: r, f => if k = f then some v else asg r f
theorem asg_mem {α : Type} {f : Nat} {v : α} : ∀ {l : List (Nat × α)}, asg l f = some v → (f, v) ∈ l
  | [], h => by cases h
  | (k, u) :: r, h => by
    simp only [asg] at h
    split at h
    · rename_i e; cases h; rw [e]; exact List.mem_cons_self ..
    · exact List.mem_cons_of_mem _ (asg_mem h)
/-- the program by its defs -/
structure PD where
  ds : List (Nat × FD)
  gd : List (Nat × Str × D)
  free : List Str
  w : Nat
  sh : List (Nat × Str × List Str × Nat × List Nat)
  dg : List (Nat × Str × List (Str × D))
def PD.tab (P : PD) : Tab := ⟨fun f => (asg P.ds f).map fun d => (d.x, d.ps.length), fun g => (asg P.gd g).map (·.1), fun s => (asg P.sh s).map fun q => (q.1, q.2.1), P.free, fun g => (asg P.dg g).map (·.1)⟩
def PD.prg (P : PD) : Prg := ⟨fun f => (asg P.ds f).map FD.fn, fun g => (asg P.gd g).map (·.2), fun s => (asg P.sh s).map fun q => (q.2.2.1, q.2.2.2), fun g => (asg P.dg g).map (·.2), P.w⟩
def PD.ok (P : PD) : Bool := P.ds.all fun q => FD.ok P.tab q.2
/-- a def stands where the top left it -/
structure At (K : PySem.W.Frag) (mg : Str → Option Value) (d : FD) (a : Addr) (fd : FuncData) : Prop where
  fun_ : FunD K d.x d.x d.args d.body d.scope [] [] a fd
  glob : mg d.x = some (.ref a)
  binds : Binds K fd d.ps []
structure TopP (P : PD) (w : World) (K : PySem.W.Frag) (mg : Str → Option Value) (ad : Nat → Addr) (fds : Nat → FuncData) : Prop where
  ats : ∀ (f : Nat) d, asg P.ds f = some d → At K mg d (ad f) (fds f)
  free : ∀ x ∈ P.free, mg x = none
  shs : ∀ (s : Nat) x ks f o, asg P.sh s = some (x, ks, f, o) → ∃ d, asg P.ds f = some d ∧ d.x = x ∧ KBn K (fds f) d.ps 0 ks (fun _ ws => pickD o ws) (fun _ zs => pickD o zs) ∧ d.ps.length = o.length
  gls : ∀ (g : Nat) x d, asg P.gd g = some (x, d) → ∃ u v, mg x = some u ∧ RelV v u ∧ ∀ F, Rp K F v d
  dgs : ∀ (g : Nat) x kvs, asg P.dg g = some (x, kvs) → ∃ a es n, mg x = some (.ref a) ∧ KDict K w a es n ∧ ∀ z q, dicD kvs z = some q → ∃ u v, PySem.W.nsIn K a z = some (some u) ∧ RelV v u ∧ ∀ F, Rp K F v q
  ok : P.ok = true
section
variable {K : PySem.W.Frag} {n : Ent} {σ : L2.St} {ρ : Slots} {F H : Hp}
theorem app_get {α : Type} {l : List α} {m : Nat} {i : Nat} {x : α} (h : (l.map some ++ List.replicate m none)[i]? = some (some x)) : l[i]? = some x := by
  rw [List.getElem?_append] at h
  split at h
  · obtain ⟨y, h1, h2⟩ := map_get h
    cases h2; exact h1
  · rw [List.getElem?_replicate] at h
    split at h <;> cases h
theorem app_put {α : Type} {l : List α} {m : Nat} {i : Nat} {x : α} (h : l[i]? = some x) : (l.map some ++ List.replicate m none)[i]? = some (some x) := by
  have hi := (List.getElem?_eq_some_iff.mp h).1
  rw [List.getElem?_append, if_pos (by rw [List.length_map]; exact hi), List.getElem?_map, h]; rfl
theorem Rel.ext {as : List EV} {vs : List V} {m : Nat} (r : Rel K n (as.map some) (vs.map some) F H) : Rel K n (as.map some ++ List.replicate m none) (vs.map some ++ List.replicate m none) F H := by
  have key : ∀ {i : Nat} {x : EV}, (as.map some ++ List.replicate m none)[i]? = some (some x) → (as.map some)[i]? = some (some x) := fun h => by
    rw [List.getElem?_map, app_get h]; rfl
  have put : ∀ {i : Nat} {w : V}, (vs.map some)[i]? = some (some w) → (vs.map some ++ List.replicate m none)[i]? = some (some w) := fun {i w} h => by
    obtain ⟨y, h1, h2⟩ := map_get h
    cases h2; exact app_put h1
  have own : ∀ {i : Nat}, isOwn (as.map some ++ List.replicate m none)[i]? = true → isOwn (as.map some)[i]? = true := fun {i} h => by
    obtain ⟨b, xs, hx⟩ := isOwn_iff.mp h
    rw [key hx]; rfl
  have back : ∀ {i : Nat} {w : V}, (vs.map some ++ List.replicate m none)[i]? = some (some w) → (vs.map some)[i]? = some (some w) := fun h => by
    rw [List.getElem?_map, app_get h]; rfl
  refine ⟨r.sub, ?_, fun i x h => ?_, fun i b x h => ?_, fun i x h => ?_, fun i j p h1 h2 h3 h4 => r.inj i j p (own h1) (own h2) (back h3) (back h4), r.ex0, r.keep, r.newF, fun i p h => ?_⟩
  · have := r.len
    simp only [List.length_map] at this
    simp [this]
  · obtain ⟨w, h1, h2⟩ := r.dat i x (key h)
    exact ⟨w, put h1, h2⟩
  · obtain ⟨p, us, h1, h2⟩ := r.own i b x (key h)
    exact ⟨p, us, put h1, h2⟩
  · obtain ⟨p, h1, h2⟩ := r.scr i x (key h)
    exact ⟨p, put h1, h2⟩
  · obtain ⟨h1, xs, h2⟩ := r.par i p h
    obtain ⟨y, g1, g2⟩ := map_get h2
    cases g2
    exact ⟨put h1, xs, app_put g1⟩
theorem Rel.post {w : V} {r : EV} {np : Nat} (rl : Rel K n ρ σ F H) (hl : n.ps.length ≤ np) (hr : RetR K n F H w r) : Post K n r ((ρ.take np).map fun o => o.getD (.d .non)) w F H := by
  refine ⟨rl.ex0, rl.sub, rl.keep, rl.newF, fun b h => rl.dom h, fun i p h => ?_, ?_⟩
  · obtain ⟨h1, xs, h2⟩ := rl.par i p h
    obtain ⟨p', us, g1, g2, g3, g4, g5, g6⟩ := rl.own i true xs h2
    rw [h1] at g1; cases g1
    refine ⟨true, xs, us, ?_, g2, g4, g5⟩
    have hi : i < np := Nat.lt_of_lt_of_le (List.getElem?_eq_some_iff.mp h).1 hl
    rw [List.getElem?_map, List.getElem?_take, if_pos hi, h2]; rfl
  · cases r with
    | d x => exact hr
    | own b xs => exact hr
    | scr _ => exact hr
end
section
variable {P : PD} {prog : Program} {w : World} {K : PySem.W.Frag} {mg : Str → Option Value} {ad : Nat → Addr} {fds : Nat → FuncData} {base : Heap}
theorem fn_sound (tp : TopP P w K mg ad fds) : ∀ (k : Nat) (f : Nat) (d : FD), asg P.ds f = some d → FnO prog w K mg base k (ad f) (fds f) d.ps (SpF K d.ps.length (ev P.prg k f))
  | 0, f, d, hd => ⟨fun vs H Q E h => h.1, fun A outer s H args us vs Q E _ _ _ _ _ h => by
      obtain ⟨_, F, ps, as, r, outs, h, _⟩ := h
      cases h⟩
  | k + 1, f, d, hd => by
    have at_ := tp.ats f d hd
    have hok : FD.ok P.tab d = true := List.all_eq_true.mp tp.ok (f, d) (asg_mem hd)
    simp only [FD.ok, Bool.and_eq_true, decide_eq_true_eq] at hok
    obtain ⟨⟨hsc, hle⟩, hchk⟩ := hok
    have sc := scope_of hsc
    refine fno_of at_.fun_ sc (fun vs H Q E h => h.1) fun cdv A outer s H vs Q E hgd hr h => ?_
    obtain ⟨hlen, F, ps, as, r, outs, hev, hpl, rl, k2⟩ := h
    have ih := fun f' d' h' => fn_sound tp k f' d' h'
    have G : Good P.tab { cf := ev P.prg k, gd := P.prg.gd, sh := P.prg.sh, dd := P.prg.dd } (cxOf CX0 prog w K mg base d.N d.x d.scope (ad f) cdv A outer s H E).nox ⟨d.N, d.scope, fun _ => true⟩ := by
      refine ⟨rfl, rfl, fun _ _ => rfl, sc.nd, rfl, ?_, hgd, rfl, tp.free, fun f' x np hf => ?_, fun s' x ks hs => ?_, fun g x hg => ?_, fun g x hg => ?_⟩
      · have := hr.un
        show (A.deeper (envOfC d.x d.scope s.heap.objs.size (ad f) cdv)).units + 65 < cLine
        omega
      · simp only [PD.tab] at hf
        cases hd' : asg P.ds f' with
        | none => rw [hd'] at hf; cases hf
        | some d' =>
          rw [hd'] at hf
          simp only [Option.map_some, Option.some.injEq, Prod.mk.injEq] at hf
          obtain ⟨rfl, rfl⟩ := hf
          have a' := tp.ats f' d' hd'
          exact ⟨k, ad f', fds f', d'.ps, ih f' d' hd', hr, a'.glob, a'.fun_.kp, a'.binds, rfl⟩
      · simp only [PD.tab] at hs
        cases hs' : asg P.sh s' with
        | none => rw [hs'] at hs; cases hs
        | some q =>
          obtain ⟨x', ks', f', o'⟩ := q
          rw [hs'] at hs
          simp only [Option.map_some, Option.some.injEq, Prod.mk.injEq] at hs
          obtain ⟨rfl, rfl⟩ := hs
          obtain ⟨d', hd', rfl, hb, hl⟩ := tp.shs s' _ _ f' o' hs'
          have a' := tp.ats f' d' hd'
          exact ⟨k, ad f', fds f', d'.ps, f', o', ih f' d' hd', hr, a'.glob, a'.fun_.kp, hb, hl, by simp [PD.prg, hs']⟩
      · simp only [PD.tab] at hg
        cases hg' : asg P.gd g with
        | none => rw [hg'] at hg; cases hg
        | some q =>
          obtain ⟨x', d'⟩ := q
          rw [hg'] at hg
          simp only [Option.map_some, Option.some.injEq] at hg
          subst hg
          obtain ⟨u, v, h1, h2, h3⟩ := tp.gls g _ d' hg'
          exact ⟨u, v, d', h1, h2, by simp [PD.prg, hg'], h3⟩
      · simp only [PD.tab] at hg
        cases hg' : asg P.dg g with
        | none => rw [hg'] at hg; cases hg
        | some q =>
          obtain ⟨x', kvs⟩ := q
          rw [hg'] at hg
          simp only [Option.map_some, Option.some.injEq] at hg
          subst hg
          obtain ⟨a, es, n, h1, h2, h3⟩ := tp.dgs g _ kvs hg'
          exact ⟨a, es, n, kvs, h1, h2, by simp [PD.prg, hg'], h3⟩
    obtain ⟨t, pss, sem⟩ := sndSs (w := P.w) d.ir G sc.kind hchk
    refine ⟨t, PSs.nox pss, ?_⟩
    have hev : runFn { cf := ev P.prg k, gd := P.prg.gd, sh := P.prg.sh, dd := P.prg.dd } P.w d.fn as = some (r, outs) := by
      have : ev P.prg (k + 1) f as = (do
        let fn ← P.prg.fns f
        runFn { cf := ev P.prg k, gd := P.prg.gd, sh := P.prg.sh, dd := P.prg.dd } P.prg.w fn as) := rfl
      rw [this] at hev
      have e : P.prg.fns f = some d.fn := by simp [PD.prg, hd]
      rw [e] at hev
      exact hev
    unfold runFn at hev
    split at hev
    · rename_i hal
      obtain ⟨o, go, hev⟩ := bind_some hev
      have hst : L2.start d.N vs = vs.map some ++ List.replicate (d.fn.n - d.fn.np) none := by
        unfold L2.start; rw [hlen]; rfl
      rw [hst]
      refine sem ⟨F, H, ps⟩ _ _ F H o _ rl.ext go ?_
      cases o with
      | nx ρ =>
        cases hev
        exact fun σ' F' H' ex r' => k2 _ F' H' (r'.post hpl Rp.non)
      | ret v ρ =>
        cases hev
        exact fun σ' F' H' w' ex r' rr => k2 _ F' H' (r'.post hpl rr)
      | brk ρ => cases hev
      | ct ρ => cases hev
    · cases hev
end
end Ov

set_option maxHeartbeats 4000000
namespace Ov
open PySem PySem.Spec PyProof.Rows L2 Evl
/-! ### the end: the law's call from outside -/
section
variable {P : Program} {w : World} {K : PySem.W.Frag} {mg mb : Str → Option Value} {k : Nat} {fa a : Addr} {fd : FuncData} {x : Str} {sp : Sp} {s : Shared} {vs : List Value} {ns : List Int}
def EndsTrue (s : Shared) (r : Result) (s' : Shared) : Prop := r = .ok (.ret (.bool true)) ∧ OldK s.heap s'.heap ∧ s'.os = s.os ∧ AllBare s'.gens
theorem end_at {H : Hp} (KX : K.In s.heap) (hns : s.heap.Ns mainGlobals mg) (hb : s.heap.Ns builtinsNs mb) (hbb : ∀ x : Str, x ≠ "__name__" → mb x = bootBuiltins x) (hlim : s.heap.NoLimit) (hg : s.gens = #[])
    (hseq : s.heap.get? a = some { cls := .type "list", data := .seq vs.toArray }) (hr : Room k callerA) (Fn : ∀ base : Heap, FnO P w K mg base k fa fd [x] sp) (hbind : ∀ (s : Shared) (u : Value), BindsTo s fd ⟨[u], []⟩ [(x, u)])
    (hfrz : ∀ b o, H b = some o → ∃ ob xs, o = .frz ob (.lst xs)) (hok : HOk P w H s.heap) (hA : ∀ b, H b ≠ none → b = a ∧ K.lookup a = none) (hsp : sp [.ref a] H (fun v _ => v = .bl true) fun _ _ _ => False) :
    codeAny (model P w) callerA (.call (.ref fa) ⟨[.ref a], []⟩) (EndsTrue s) s := by
  have free : ∀ {b : Addr} {o : Obj}, s.heap.get? b = some o → (∀ n, o ≠ { cls := .type "list", data := .seq n }) → H b = none := by
    intro b o e ne
    apply Classical.byContradiction
    intro q
    have e' := (hA b q).1
    rw [e', hseq] at e
    exact ne _ (Option.some.inj e).symm
  have out : ∀ {b : Addr} {m : Str → Option Value}, s.heap.Ns b m → (hidT s.heap H).Ns b m := by
    rintro b m ⟨o, es, ep, e, d, r⟩
    refine ⟨o, es, ep, hidT_get e (free e fun n q => ?_), d, r⟩
    rw [q] at d
    cases d
  have inK : K.In (hidT s.heap H) := by
    intro b o e
    refine hidT_get (KX b o e) (Classical.byContradiction fun q => ?_)
    obtain ⟨e', hk⟩ := hA b q
    rw [e', hk] at e
    cases e
  have env : Env0 P w K mg (hidT s.heap H) callerA [] s H := by
    obtain ⟨mc, l1, l2⟩ := hlim
    exact ⟨rfl, ⟨inK, out hns, ⟨mb, out hb, hbb⟩, ⟨mc, out l1, l2⟩⟩, fun b o e => of_hidT e, Nat.le_of_eq (hidT_size _ _), trivial, fun b h => (by cases h), hok, .of_eq hg⟩
  refine codeAny_mono ((Fn _).go callerA [] s H _ [.ref a] [.ref a] _ _ rfl hr env (hbind s (.ref a)) (.cons rfl .nil) hsp) ?_
  intro r s' h
  match r, h with
  | .ok (.ret u), ⟨v, H', os, bare, un, hok', rv, q⟩ =>
    have q : v = .bl true := q
    subst q
    have rv : u = Value.bool true := rv
    refine ⟨by rw [rv], OldK.of_keep fun b o e => ?_, os, bare⟩
    cases hb : H b with
    | none => exact un.keep b o e hb (fun z => by cases z) (by simp)
    | some z =>
      obtain ⟨ob, xs, rfl⟩ := hfrz b z hb
      have e1 := (hok b _ hb).1
      have e2 := (hok' b _ (un.frzs b ob _ hb)).1
      rw [e1] at e
      rw [← Option.some.inj e]
      exact e2
  | .ok .next, h => exact h.elim
  | .ok .brk, h => exact h.elim
  | .ok .cont, h => exact h.elim
  | .error _, h => exact h.elim
theorem end_call (KX : K.In s.heap) (hns : s.heap.Ns mainGlobals mg) (hb : s.heap.Ns builtinsNs mb) (hbb : ∀ x : Str, x ≠ "__name__" → mb x = bootBuiltins x) (hlim : s.heap.NoLimit) (hg : s.gens = #[])
    (hseq : s.heap.get? a = some { cls := .type "list", data := .seq vs.toArray }) (hi : IntsAre vs ns) (hl : ns.length ≤ sizeLine) (hr : Room k callerA) (Fn : ∀ base : Heap, FnO P w K mg base k fa fd [x] sp) (hbind : ∀ (s : Shared) (u : Value), BindsTo s fd ⟨[u], []⟩ [(x, u)])
    (hsp : ∀ H : Hp, SqL K H a (ns.map V.int) → sp [.ref a] H (fun v _ => v = .bl true) fun _ _ _ => False) : codeAny (model P w) callerA (.call (.ref fa) ⟨[.ref a], []⟩) (EndsTrue s) s := by
  have rv := vals_ints hi
  have hn := hi.length
  by_cases hk : K.lookup a = none
  · let H : Hp := fun b => if b = a then some (.frz { cls := .type "list", data := .seq vs.toArray } (.lst (ns.map V.int))) else none
    have at_ : H a = some (.frz { cls := .type "list", data := .seq vs.toArray } (.lst (ns.map V.int))) := if_pos rfl
    have only : ∀ b, H b ≠ none → b = a := fun b q => Classical.byContradiction fun ne => q (if_neg ne)
    refine end_at (H := H) KX hns hb hbb hlim hg hseq hr Fn hbind (fun b o e => ?_) (fun b o e => ?_) (fun b q => ⟨only b q, hk⟩) (hsp H (Or.inl (Or.inr ⟨_, at_⟩)))
    · have eb := only b (by rw [e]; simp)
      rw [eb, at_] at e
      exact ⟨_, _, (Option.some.inj e).symm⟩
    · have eb := only b (by rw [e]; simp)
      subst eb
      rw [at_] at e
      have e := Option.some.inj e
      subst e
      exact ⟨hseq, by rw [List.length_map]; exact hl, vs, _, rv, hseq⟩
  · obtain ⟨o, ho⟩ := Option.ne_none_iff_exists'.mp hk
    have eo : o = { cls := .type "list", data := .seq vs.toArray } := by
      have := KX a o ho
      rw [hseq] at this
      exact (Option.some.inj this).symm
    subst eo
    refine end_at (H := fun _ => none) KX hns hb hbb hlim hg hseq hr Fn hbind (fun b o e => by cases e) (fun b o e => by cases e) (fun b q => absurd rfl q) (hsp _ (Or.inr ⟨_, vs.toArray, _, ho, rfl, rfl, rfl, ?_, ?_⟩))
    · rw [List.size_toArray, hn]; exact hl
    · simpa using rv
end
/-- a law by its head's facts -/
theorem walk_E {l : PySem.W.OpenLaw} {n k : Nat} {q : Program} {loose : List Str} {XP : (Str → Option Value) → Heap → Prop} {YP : World → Heap → Prop} {d : DefRec} {x : Str} (hn : l.most = some n) (hn2 : n ≤ sizeLine) (hdf : d.params.defaults = []) (hr : Room k callerA)
    (hF : ∀ (w : World) (mg : Str → Option Value) (fa : Addr) (h : Heap), YP w h → h.Ns mainGlobals mg → mg d.name = some (.ref fa) →
      ∃ (K : PySem.W.Frag) (fd : FuncData) (sp : Sp), K.In h ∧ (∀ (s : Shared) (u : Value), BindsTo s fd ⟨[u], []⟩ [(x, u)]) ∧
        (∀ (H : Hp) (a : Addr) (ns : List Int), ns.length ≤ n → SqL K H a (ns.map V.int) → sp [.ref a] H (fun v _ => v = .bl true) fun _ _ _ => False) ∧ ∀ base : Heap, FnO l.prog w K mg base k fa fd [x] sp) :
    PySem.W.WalkO q loose XP YP l.row.toRowW d [] (fun f vs => PySem.call f vs) := by
  apply Att.attach_call hn hdf
  intro w s₀ s₁ mg mb fa o pm cd doc a vs ns Gx Y ho hd hcd hmg hobj hints hlen hg
  obtain ⟨K, fd, sp, KX, hb, hsp, Fn⟩ := hF w mg fa _ Y Gx.T.g hmg
  exact end_call KX Gx.T.g Gx.T.b Gx.T.builtins Gx.T.nolimit hg hobj hints (Nat.le_trans hlen hn2) hr Fn hb fun H hS => hsp H a ns hlen hS
end Ov

set_option maxHeartbeats 4000000
namespace Ov
open PySem PySem.Spec PyProof.Rows L2 Evl
/-! ### the head's facts -/
mutual
/-- the value u is the data d, in the written part -/
def rpB (K : PySem.W.Frag) : D → Value → Bool
  | .non, .none => true
  | .bl b, .bool c => b == c
  | .int i, .int j _ => decide (i = j)
  | .str x, .str y _ => decide (x = y)
  | .tup ds, .ref a => (match K.lookup a with
    | some ⟨.type c, _, .seq its _, _⟩ => decide (c = "tuple") && (decide (its.size ≤ sizeLine) && rpsB K ds its.toList)
    | _ => false)
  | _, _ => false
def rpsB (K : PySem.W.Frag) : List D → List Value → Bool
  | [], [] => true
  | d :: ds, u :: us => rpB K d u && rpsB K ds us
  | _, _ => false
end
mutual
theorem rpB_ok {K : PySem.W.Frag} : ∀ {d : D} {u : Value}, rpB K d u = true → ∃ v, RelV v u ∧ ∀ F, Rp K F v d
  | .non, u, h => by
    cases u with
    | none => exact ⟨.non, rfl, fun F => .non⟩
    | _ => simp [rpB] at h
  | .bl b, u, h => by
    cases u with
    | bool c => exact ⟨.bl b, by simp [rpB] at h; rw [h]; rfl, fun F => .bl b⟩
    | _ => simp [rpB] at h
  | .int i, u, h => by
    cases u with
    | int j t => exact ⟨.int i, by simp [rpB] at h; exact ⟨t, by rw [h]⟩, fun F => .int i⟩
    | _ => simp [rpB] at h
  | .str i, u, h => by
    cases u with
    | str j t => exact ⟨.str i, by simp [rpB] at h; exact ⟨t, by rw [h]⟩, fun F => .str i⟩
    | _ => simp [rpB] at h
  | .lst ds, u, h => by simp [rpB] at h
  | .tup ds, u, h => by
    cases u with
    | ref a =>
      simp only [rpB] at h
      split at h
      · rename_i c dd its m sl q
        simp only [Bool.and_eq_true, decide_eq_true_eq] at h
        obtain ⟨h1, h2, h3⟩ := h
        obtain ⟨vs, e1, e2⟩ := rpsB_ok h3
        refine ⟨.ref a, rfl, fun F => .tup (xs := vs) ?_ ?_ (e2 F)⟩
        · exact .inr ⟨_, its, m, q, congrArg Value.type h1, rfl, h2, e1⟩
        · have := (e2 F).length
          have := e1.length
          simp at this
          omega
      · cases h
    | _ => simp [rpB] at h
theorem rpsB_ok {K : PySem.W.Frag} : ∀ {ds : List D} {us : List Value}, rpsB K ds us = true → ∃ vs, Vals vs us ∧ ∀ F, Rps K F vs ds
  | [], [], _ => ⟨[], .nil, fun F => .nil⟩
  | [], _ :: _, h => by simp [rpsB] at h
  | _ :: _, [], h => by simp [rpsB] at h
  | d :: ds, u :: us, h => by
    simp only [rpsB, Bool.and_eq_true] at h
    obtain ⟨v, h1, h2⟩ := rpB_ok h.1
    obtain ⟨vs, g1, g2⟩ := rpsB_ok h.2
    exact ⟨v :: vs, .cons h1 g1, fun F => .cons (h2 F) (g2 F)⟩
end
/-- the module's name x holds d -/
def gdB (K : PySem.W.Frag) (q : Nat × Str × D) : Bool := match PySem.W.nsIn K mainGlobals q.2.1 with
  | some (some u) => rpB K q.2.2 u
  | _ => false
theorem gdB_ok {K : PySem.W.Frag} {h : Heap} {mg : Str → Option Value} (X : K.In h) (G : h.Ns mainGlobals mg) {q : Nat × Str × D} (c : gdB K q = true) : ∃ u v, mg q.2.1 = some u ∧ RelV v u ∧ ∀ F, Rp K F v q.2.2 := by
  unfold gdB at c
  split at c
  · rename_i u e
    obtain ⟨v, h1, h2⟩ := rpB_ok c
    exact ⟨u, v, PySem.W.mg_of X G e, h1, h2⟩
  · cases c
def PD.fa (P : PD) : List He.Fa := (P.ds.map fun q => He.Fa.glo q.2.x) ++ P.free.map He.Fa.free
def FD.defD (d : FD) : He.DefD := ⟨(d.x, none), d.x, d.x, d.args, d.body, d.scope, [], []⟩
def PD.fn (P : PD) : List He.DefD := P.ds.map fun q => q.2.defD
def PD.gdOk (P : PD) (K : PySem.W.Frag) : Bool := P.gd.all (gdB K)
def dgB (K : PySem.W.Frag) (q : Nat × Str × List (Str × D)) : Bool := q.2.2.all fun kv => match PySem.W.nsIn K (He.ga K q.2.1) kv.1 with
  | some (some u) => rpB K kv.2 u
  | _ => false
theorem dgB_ok {K : PySem.W.Frag} {q : Nat × Str × List (Str × D)} (c : dgB K q = true) : ∀ z r, dicD q.2.2 z = some r → ∃ u v, PySem.W.nsIn K (He.ga K q.2.1) z = some (some u) ∧ RelV v u ∧ ∀ F, Rp K F v r := by
  obtain ⟨g, x, kvs⟩ := q
  unfold dgB at c
  dsimp only at c ⊢
  intro z r h
  induction kvs with
  | nil => cases h
  | cons kv kvs ih =>
    simp only [List.all_cons, Bool.and_eq_true] at c
    obtain ⟨k, v⟩ := kv
    simp only [dicD] at h
    by_cases e : k = z
    · rw [if_pos e] at h; cases h; subst e
      have c1 := c.1
      split at c1
      · rename_i u hu
        obtain ⟨w, h1, h2⟩ := rpB_ok c1
        exact ⟨u, w, hu, h1, h2⟩
      · cases c1
    · rw [if_neg e] at h
      exact ih c.2 h
/-- where the dicts of the top stand, their keys -/
def PD.ts (P : PD) : List He.Tab := P.dg.map fun q => (fun K => He.ga K q.2.1, q.2.2.map (·.1))
def PD.dgOk (P : PD) (K : PySem.W.Frag) : Bool := P.dg.all fun q => (He.Fa.glo q.2.1).ok K && dgB K q
abbrev AlO : Type := Bool × He.AlT
def obsO (n : Nat) (P : PD) (g : Addr → Option Obj) : AlO := (fun K => (P.gdOk K && P.dgOk K, He.obsT P.fa P.fn P.ts K)) (He.frG g (He.asD g n))
def hookO (n : Nat) (P : PD) : PySem.W.Hook where
  α := AlO
  obs := fun s => obsO n P s.heap.get?
  val := fun w => (true, He.valT P.fn P.ts w)
  says := fun w h => ∃ K : PySem.W.Frag, K.In h ∧ He.SaysT P.fa P.fn P.ts w K ∧ P.gdOk K = true ∧ P.dgOk K = true
  of := fun w s e => by
    refine ⟨_, He.frG_in (as := He.asD s.heap.get? n), ?_⟩
    have e1 : (obsO n P s.heap.get?).1 = true := congrArg (fun z : AlO => z.1) e
    have e2 : (obsO n P s.heap.get?).2 = He.valT P.fn P.ts w := congrArg (fun z : AlO => z.2) e
    have e3 : (P.gdOk (He.frG s.heap.get? (He.asD s.heap.get? n)) && P.dgOk (He.frG s.heap.get? (He.asD s.heap.get? n))) = true := e1
    rw [Bool.and_eq_true] at e3
    exact ⟨e2, e3.1, e3.2⟩
  keeps := fun _ _ _ ⟨K, hK, c⟩ k => ⟨K, PySem.W.Frag.In.keeps hK k, c⟩
theorem obsO_eq {n : Nat} {P : PD} {g : Addr → Option Obj} {s : Shared} (h : ∀ a, g a = s.heap.get? a) : obsO n P g = (hookO n P).obs s := by
  have e : g = s.heap.get? := funext h
  rw [e] <;> rfl
/-! ### how arguments come to parameters -/
def BindOk (d : FD) : Prop := ∀ (kV doc pm : Value) (an : Option Addr) (cdv ct : Value) (us : List Value), us.length = d.ps.length → bindArgs (PySem.W.fnOf d.x d.x d.args d.body d.scope .none kV doc pm an cdv ct) ⟨us, []⟩ = pure (d.ps.zip us)
def ShOk (P : PD) (q : Str × List Str × Nat × List Nat) : Prop := ∃ d, asg P.ds q.2.2.1 = some d ∧ d.x = q.1 ∧ d.ps.length = q.2.2.2.length ∧
  ∀ (kV doc pm : Value) (an : Option Addr) (cdv ct : Value) (ws : List Value), ws.length = q.2.1.length → bindArgs (PySem.W.fnOf d.x d.x d.args d.body d.scope .none kV doc pm an cdv ct) ⟨[], q.2.1.zip ws⟩ = pure (d.ps.zip (pickD q.2.2.2 ws))
theorem vals_get {vs : List V} {us : List Value} (h : Vals vs us) (i : Nat) : (∃ v u, vs[i]? = some v ∧ us[i]? = some u ∧ RelV v u) ∨ (vs[i]? = none ∧ us[i]? = none) := by
  induction h generalizing i with
  | nil => exact Or.inr ⟨by simp, by simp⟩
  | cons h1 h2 ih =>
    cases i with
    | zero => exact Or.inl ⟨_, _, rfl, rfl, h1⟩
    | succ i => simpa using ih i
theorem vals_pick {vs : List V} {us : List Value} (h : Vals vs us) (o : List Nat) : (∃ a b, pickAll vs o = some a ∧ pickAll us o = some b ∧ Vals a b) ∨ (pickAll vs o = none ∧ pickAll us o = none) := by
  induction o with
  | nil => exact Or.inl ⟨[], [], rfl, rfl, .nil⟩
  | cons i o ih =>
    rcases vals_get h i with ⟨v, u, h1, h2, h3⟩ | ⟨h1, h2⟩
    · rcases ih with ⟨a, b, g1, g2, g3⟩ | ⟨g1, g2⟩
      · exact Or.inl ⟨v :: a, u :: b, by simp [pickAll, h1, g1], by simp [pickAll, h2, g2], .cons h3 g3⟩
      · exact Or.inr ⟨by simp [pickAll, h1, g1], by simp [pickAll, h2, g2]⟩
    · exact Or.inr ⟨by simp [pickAll, h1], by simp [pickAll, h2]⟩
theorem vals_pickD {vs : List V} {us : List Value} (h : Vals vs us) (o : List Nat) : Vals (pickD o vs) (pickD o us) := by
  unfold pickD
  rcases vals_pick h o with ⟨a, b, h1, h2, h3⟩ | ⟨h1, h2⟩
  · rw [h1, h2]; exact h3
  · rw [h1, h2]; exact .nil
theorem kbn_of {K : PySem.W.Frag} {x qual : Str} {params : Arguments} {body : List Stmt} {scope : Scope} {kws : List (Str × V)} {f : Addr} {fd : FuncData} {ps ks : List Str} {o : List Nat} (F : FunD K x qual params body scope [] kws f fd)
    (h : ∀ (kV doc pm : Value) (an : Option Addr) (cdv ct : Value) (ws : List Value), ws.length = ks.length → bindArgs (PySem.W.fnOf x qual params body scope .none kV doc pm an cdv ct) ⟨[], ks.zip ws⟩ = pure (ps.zip (pickD o ws))) : KBn K fd ps 0 ks (fun _ ws => pickD o ws) (fun _ zs => pickD o zs) := by
  obtain ⟨oc, od, dV, kV, doc, pm, an, cdv, ct, osl, rfl, lk, hcd, hD, hK⟩ := F.ex
  rcases hD with ⟨_, rfl⟩ | ⟨e, _⟩
  · refine ⟨fun s us ws X l1 l2 => ?_, fun r1 r2 => vals_pickD r2 o⟩
    cases us with
    | nil => exact .of_eq (h kV doc pm an cdv ct ws l2)
    | cons u us => simp at l1
  · exact absurd rfl e
noncomputable def adOf (P : PD) (K : PySem.W.Frag) (f : Nat) : Addr := match asg P.ds f with
  | some d => He.ga K d.x
  | none => 0
theorem top_of {P : PD} {w : World} {K : PySem.W.Frag} {h : Heap} {mg : Str → Option Value} (X : K.In h) (G : h.Ns mainGlobals mg) (ct : He.SaysT P.fa P.fn P.ts w K) (gd : P.gdOk K = true) (dg : P.dgOk K = true) (hok : P.ok = true) (hb : ∀ q ∈ P.ds, BindOk q.2) (hs : ∀ q ∈ P.sh, ShOk P q.2) :
    ∃ fds, TopP P w K mg (adOf P K) fds := by
  have c := ct.d
  have fact : ∀ f ∈ P.fa, f.ok K = true := fun f hf => by
    obtain ⟨i, hi⟩ := List.getElem?_of_mem hf
    exact c.fact i hi
  have glo : ∀ q ∈ P.ds, mg q.2.x = some (.ref (He.ga K q.2.x)) := fun q hq => He.glo_ok X G (fact _ (List.mem_append_left _ (List.mem_map_of_mem (f := fun q => He.Fa.glo q.2.x) hq)))
  have fr : ∀ x ∈ P.free, mg x = none := fun x hx => He.free_ok X G (fact _ (List.mem_append_right _ (List.mem_map_of_mem (f := He.Fa.free) hx)))
  have fun_ : ∀ q ∈ P.ds, ∃ fd, FunD K q.2.x q.2.x q.2.args q.2.body q.2.scope [] [] (He.ga K q.2.x) fd := fun q hq => by
    obtain ⟨i, hi⟩ := List.getElem?_of_mem (List.mem_map_of_mem (f := fun q : Nat × FD => q.2.defD) hq)
    exact c.def_ i hi
  have ch : ∀ f : Nat, ∃ fd : FuncData, ∀ d, asg P.ds f = some d → FunD K d.x d.x d.args d.body d.scope [] [] (He.ga K d.x) fd := fun f => by
    cases e : asg P.ds f with
    | none =>
      exact ⟨(PySem.W.fnOf "" "" (default : Arguments) [] (default : Scope) .none .none .none .none none .none .none), fun d hd => by cases hd⟩
    | some d =>
      obtain ⟨fd, hfd⟩ := fun_ _ (asg_mem e)
      exact ⟨fd, fun d' hd => by cases hd; exact hfd⟩
  refine ⟨fun f => Classical.choose (ch f), ⟨fun f d hd => ?_, fr, fun s x ks f o hso => ?_, fun g x d hg => ?_, fun g x kvs hg => ?_, hok⟩⟩
  · have F := Classical.choose_spec (ch f) d hd
    have ea : adOf P K f = He.ga K d.x := by unfold adOf; rw [hd]
    rw [ea]
    exact ⟨F, glo _ (asg_mem hd), F.bindsN (hb _ (asg_mem hd))⟩
  · obtain ⟨d, h1, h2, h3, h4⟩ := hs _ (asg_mem hso)
    exact ⟨d, h1, h2, kbn_of (Classical.choose_spec (ch f) d h1) h4, h3⟩
  · exact gdB_ok X G (List.all_eq_true.mp gd _ (asg_mem hg))
  · have q := List.all_eq_true.mp dg _ (asg_mem hg)
    rw [Bool.and_eq_true] at q
    obtain ⟨i, hi⟩ := List.getElem?_of_mem (List.mem_map_of_mem (f := fun q : Nat × Str × List (Str × D) => ((fun K => He.ga K q.2.1, q.2.2.map (·.1)) : He.Tab)) (asg_mem hg))
    obtain ⟨es, n, D⟩ := ct.tab i hi
    exact ⟨_, es, n, He.glo_ok X G q.1, D, dgB_ok q.2⟩
/-! ### the law's end -/
theorem law_sp {K : PySem.W.Frag} {H : Hp} {a : Addr} {ns : List Int} {cf : List EV → Option (EV × List EV)} (hS : SqL K H a (ns.map V.int)) (hl : ns.length ≤ sizeLine) {outs : List EV} (h : cf [.scr ns] = some (.d (.bl true), outs)) :
    SpF K 1 cf [.ref a] H (fun v _ => v = .bl true) fun _ _ _ => False := by
  refine ⟨rfl, H, [], [.scr ns], _, outs, h, Nat.zero_le _, ?_, fun w F' H' p => ?_⟩
  · refine ⟨fun _ _ h => h, rfl, fun i x h => ?_, fun i b xs h => ?_, fun i ms h => ?_, fun i j p h1 => ?_, fun _ _ h => h, fun _ _ h _ => h, fun _ _ h => h, fun i p h => by simp at h⟩
    · cases i with
      | zero => simp at h
      | succ i => simp at h
    · cases i with
      | zero => simp at h
      | succ i => simp at h
    · cases i with
      | zero => simp at h; subst h; exact ⟨a, rfl, hS, hl⟩
      | succ i => simp at h
    · cases i with
      | zero => cases h1
      | succ i => simp [isOwn] at h1
  · have := p.res
    exact this.blv
/-- the end over a written part (a head by k_head) -/
theorem walk_K {l : PySem.W.OpenLaw} {q : Program} {loose : List Str} {XP : (Str → Option Value) → Heap → Prop} {YP : World → Heap → Prop} {d : DefRec} {K : Params → PySem.W.Frag} {P : PD} {fl : Nat} {dl : FD} {x : Str} (hn : l.most = some 63) (hdf : d.params.defaults = [])
    (hY : ∀ (w : World) (h : Heap), YP w h → (K w.params).In h) (hname : d.name = dl.x) (hd : asg P.ds fl = some dl) (hps : dl.ps = [x]) (hok : P.ok = true) (hb : ∀ q ∈ P.ds, BindOk q.2) (hs : ∀ q ∈ P.sh, ShOk P q.2)
    (hc : ∀ w : World, He.SaysT P.fa P.fn P.ts w (K w.params)) (hg : ∀ w : World, P.gdOk (K w.params) = true) (hdg : ∀ w : World, P.dgOk (K w.params) = true)
    (hol : ∀ ns : List Int, ns.length ≤ 63 → ∃ outs, ev P.prg 40 fl [.scr ns] = some (.d (.bl true), outs)) : PySem.W.WalkO q loose XP YP l.row.toRowW d [] (fun f vs => PySem.call f vs) := by
  refine walk_E (n := 63) (k := 40) (x := x) hn (by decide) hdf ⟨rfl, by decide, by decide⟩ ?_
  intro w mg fa h Y G hmg
  have KX := hY w h Y
  obtain ⟨fds, tp⟩ := top_of (P := P) (w := w) KX G (hc w) (hg w) (hdg w) hok hb hs
  have at_ := tp.ats fl dl hd
  rw [hname] at hmg
  have e := hmg.symm.trans at_.glob
  cases e
  have b := L2.FunD.bindsA (ps := dl.ps) at_.fun_ (hb _ (asg_mem hd))
  refine ⟨K w.params, fds fl, SpF (K w.params) 1 (ev P.prg 40 fl), KX, fun s u => ?_, fun H a ns hl hS => ?_, fun base => ?_⟩
  · have := b s [u] (by rw [hps]; rfl)
    rw [hps] at this
    exact this
  · obtain ⟨outs, ho⟩ := hol ns hl
    exact law_sp hS (Nat.le_trans hl (by decide)) ho
  · have := fn_sound (prog := l.prog) (base := base) tp 40 fl dl hd
    rw [hps] at this
    exact this
end Ov

namespace Ov
open PySem
/-- 0 -/
def ir_moved : IR :=
    .seq (.ifS (.cmp .eq (.idx (.var 1) (.int 0)) (.glob 0)) (.seq (.ret (.op .sub (.var 0) (.idx (.var 1) (.int 1))))
    .skip) .skip)
    (.seq (.ret (.ife (.cmp .eq (.idx (.var 1) (.int 0)) (.glob 1)) (.op .add (.var 0) (.idx (.var 1) (.int 1))) (.var 0)))
    .skip)
def fn_moved : Fn := ⟨2, 2, ir_moved⟩
/-- 1 -/
def ir_first_of : IR :=
    .seq (.asg (.nm 2) (.comp [3, 4] (.tp (.cons (.nm 3) (.cons (.nm 4) .nil))) .enm (.idx (.var 0) (.int 1)) .nil (.cmp .ge (.idx (.var 4) (.int 0)) (.var 1)) (.var 3)))
    (.seq (.ret (.ife (.cmp .gt (.lenS (.var 2)) (.int 0)) (.idx (.var 2) (.int 0)) (.lenS (.idx (.var 0) (.int 1)))))
    .skip)
def fn_first_of : Fn := ⟨2, 5, ir_first_of⟩
/-- 2 -/
def ir_last_of : IR :=
    .seq (.asg (.nm 2) (.comp [3, 4] (.tp (.cons (.nm 3) (.cons (.nm 4) .nil))) .enm (.idx (.var 0) (.int 1)) .nil (.cmp .le (.idx (.var 4) (.int 0)) (.var 1)) (.var 3)))
    (.seq (.ret (.ife (.cmp .gt (.lenS (.var 2)) (.int 0)) (.idx (.var 2) (.neg (.int 1))) (.neg (.int 1))))
    .skip)
def fn_last_of : Fn := ⟨2, 5, ir_last_of⟩
/-- 3 -/
def ir_heights : IR :=
    .seq (.asg (.nm 1) (.ife (.cmp .eq (.idx (.var 0) (.int 0)) (.glob 2)) (.int 1) (.neg (.int 1))))
    (.seq (.ret (.comp [2, 3] (.tp (.cons (.nm 2) (.cons (.nm 3) .nil))) .enm (.idx (.var 0) (.int 1)) .nil (.isn true (.idx (.var 3) (.int 1))) (.tup (.cons (.var 2) (.cons (.op .mul (.var 1) (.idx (.var 3) (.int 1))) .nil)))))
    .skip)
def fn_heights : Fn := ⟨1, 4, ir_heights⟩
/-- 4 -/
def ir_height_low : IR :=
    .seq (.asg (.nm 3) (.call 3 (.cons (.var 0) .nil)))
    (.seq (.asg (.nm 4) (.call 0 (.cons (.dget (.var 3) (.var 1)) (.cons (.var 2) .nil))))
    (.seq (.asg (.nm 5) (.comp [6, 7] (.tp (.cons (.nm 6) (.cons (.nm 7) .nil))) .seq (.var 3) .nil (.cmp .ge (.var 7) (.var 4)) (.var 6)))
    (.seq (.ret (.ife (.cmp .gt (.lenS (.var 5)) (.int 0)) (.idx (.var 5) (.int 0)) (.op .add (.idx (.idx (.var 3) (.neg (.int 1))) (.int 0)) (.int 1))))
    .skip)))
def fn_height_low : Fn := ⟨3, 8, ir_height_low⟩
/-- 5 -/
def ir_height_high : IR :=
    .seq (.asg (.nm 3) (.call 3 (.cons (.var 0) .nil)))
    (.seq (.asg (.nm 4) (.call 0 (.cons (.dget (.var 3) (.var 1)) (.cons (.var 2) .nil))))
    (.seq (.asg (.nm 5) (.comp [6, 7] (.tp (.cons (.nm 6) (.cons (.nm 7) .nil))) .seq (.var 3) .nil (.cmp .le (.var 7) (.var 4)) (.var 6)))
    (.seq (.ret (.ife (.cmp .gt (.lenS (.var 5)) (.int 0)) (.idx (.var 5) (.neg (.int 1))) (.op .sub (.idx (.idx (.var 3) (.int 0)) (.int 0)) (.int 1))))
    .skip)))
def fn_height_high : Fn := ⟨3, 8, ir_height_high⟩
/-- 6 -/
def ir_low_of : IR :=
    .seq (.ifS (.cmp .eq (.idx (.var 3) (.int 0)) (.glob 3)) (.seq (.ret (.int 0))
    .skip) .skip)
    (.seq (.ifS (.cmp .eq (.var 2) (.glob 4)) (.seq (.ret (.bi .min2 (.cons (.bi .max2 (.cons (.call 0 (.cons (.var 1) (.cons (.var 3) .nil))) (.cons (.int 0) .nil))) (.cons (.lenS (.idx (.var 0) (.int 1))) .nil))))
    .skip) .skip)
    (.seq (.asg (.tp (.cons (.nm 4) (.cons (.nm 5) .nil))) (.idx (.idx (.var 0) (.int 1)) (.var 1)))
    (.seq (.ifS (.cmp .eq (.var 2) (.glob 5)) (.seq (.ret (.call 1 (.cons (.var 0) (.cons (.call 0 (.cons (.var 4) (.cons (.var 3) .nil))) .nil))))
    .skip) .skip)
    (.seq (.ret (.ife (.bor (.cmp .eq (.idx (.var 3) (.int 0)) (.glob 6)) (.one (.isn false (.var 5)))) (.call 1 (.cons (.var 0) (.cons (.var 4) .nil))) (.call 4 (.cons (.var 0) (.cons (.var 1) (.cons (.var 3) .nil))))))
    .skip))))
def fn_low_of : Fn := ⟨4, 6, ir_low_of⟩
/-- 7 -/
def ir_high_of : IR :=
    .seq (.ifS (.cmp .eq (.idx (.var 3) (.int 0)) (.glob 7)) (.seq (.ret (.op .sub (.lenS (.idx (.var 0) (.int 1))) (.int 1)))
    .skip) .skip)
    (.seq (.ifS (.cmp .eq (.var 2) (.glob 4)) (.seq (.ret (.bi .min2 (.cons (.bi .max2 (.cons (.call 0 (.cons (.var 1) (.cons (.var 3) .nil))) (.cons (.neg (.int 1)) .nil))) (.cons (.op .sub (.lenS (.idx (.var 0) (.int 1))) (.int 1)) .nil))))
    .skip) .skip)
    (.seq (.asg (.tp (.cons (.nm 4) (.cons (.nm 5) .nil))) (.idx (.idx (.var 0) (.int 1)) (.var 1)))
    (.seq (.ifS (.cmp .eq (.var 2) (.glob 5)) (.seq (.ret (.call 2 (.cons (.var 0) (.cons (.call 0 (.cons (.var 4) (.cons (.var 3) .nil))) .nil))))
    .skip) .skip)
    (.seq (.ret (.ife (.bor (.cmp .eq (.idx (.var 3) (.int 0)) (.glob 6)) (.one (.isn false (.var 5)))) (.call 2 (.cons (.var 0) (.cons (.var 4) .nil))) (.call 5 (.cons (.var 0) (.cons (.var 1) (.cons (.var 3) .nil))))))
    .skip))))
def fn_high_of : Fn := ⟨4, 6, ir_high_of⟩
/-- 8 -/
def ir_bounds : IR :=
    .seq (.ret (.tup (.cons (.call 6 (.cons (.var 0) (.cons (.var 1) (.cons (.idx (.var 2) (.int 0)) (.cons (.idx (.var 2) (.int 1)) .nil))))) (.cons (.call 7 (.cons (.var 0) (.cons (.var 1) (.cons (.idx (.var 2) (.int 0)) (.cons (.idx (.var 2) (.int 2)) .nil))))) .nil))))
    .skip
def fn_bounds : Fn := ⟨3, 3, ir_bounds⟩
/-- 9 -/
def ir_piece : IR :=
    .seq (.ret (.ife (.cmp .le (.var 0) (.var 1)) (.tup (.cons (.var 0) (.cons (.var 1) .nil))) .non))
    .skip
def fn_piece : Fn := ⟨2, 2, ir_piece⟩
/-- 10 -/
def ir_pieces : IR :=
    .seq (.asg (.tp (.cons (.nm 4) (.cons (.nm 5) .nil))) (.call 8 (.cons (.var 0) (.cons (.var 1) (.cons (.var 2) .nil)))))
    (.seq (.ifS (.cmp .eq (.idx (.var 2) (.int 3)) (.glob 8)) (.seq (.ret (.tup (.cons (.call 9 (.cons (.var 4) (.cons (.var 5) .nil))) (.cons .non (.cons .non .nil)))))
    .skip) .skip)
    (.seq (.par [(6, false), (7, false)] (.cons (.var 1) (.cons (.var 1) .nil)))
    (.seq (.ifS (.cmp .ne (.idx (.var 2) (.int 3)) (.glob 9)) (.seq (.asg (.nm 8) (.idx (.idx (.idx (.var 0) (.int 1)) (.var 1)) (.int 0)))
    (.seq (.par [(6, false), (7, false)] (.cons (.call 1 (.cons (.var 0) (.cons (.var 8) .nil))) (.cons (.call 2 (.cons (.var 0) (.cons (.var 8) .nil))) .nil)))
    .skip)) .skip)
    (.seq (.asg (.nm 3) (.ife (.cmp .eq (.idx (.var 2) (.int 3)) (.glob 10)) (.call 9 (.cons (.bi .max2 (.cons (.var 4) (.cons (.var 1) .nil))) (.cons (.bi .min2 (.cons (.var 5) (.cons (.var 1) .nil))) .nil))) .non))
    (.seq (.ret (.tup (.cons (.call 9 (.cons (.var 4) (.cons (.bi .min2 (.cons (.var 5) (.cons (.op .sub (.var 6) (.int 1)) .nil))) .nil))) (.cons (.var 3) (.cons (.call 9 (.cons (.bi .max2 (.cons (.var 4) (.cons (.op .add (.var 7) (.int 1)) .nil))) (.cons (.var 5) .nil))) .nil)))))
    .skip)))))
def fn_pieces : Fn := ⟨3, 9, ir_pieces⟩
/-- 11 -/
def ir_cell_at : IR :=
    .seq (.ret (.ife (.cmp .lt (.var 1) (.lenS (.var 0))) (.idx (.var 0) (.var 1)) (.int 0)))
    .skip
def fn_cell_at : Fn := ⟨2, 2, ir_cell_at⟩
/-- 12 -/
def ir_box : IR :=
    .seq (.asg (.nm 2) (.call 11 (.cons (.var 0) (.cons (.var 1) .nil))))
    (.seq (.retO (.lst (.cons (.op .mul (.bi .abs (.cons (.var 2) .nil)) (.bi .int (.cons (.cmp .ge (.bi .abs (.cons (.var 2) .nil)) (.op .pow (.int 10) (.int 18))) .nil))) (.cons (.op .add (.op .add (.op .mod (.var 2) (.int 2305843009213693951)) (.op .mul (.int 39373) (.var 1))) (.int 71)) (.cons (.int 0) .nil)))))
    .skip)
def fn_box : Fn := ⟨2, 3, ir_box⟩
/-- 13 -/
def ir_take : IR :=
    .seq (.ifS (.cmp .gt (.idx (.var 0) (.int 0)) (.int 0)) (.seq (.asg (.nm 4) (.op .mod (.idx (.var 0) (.int 0)) (.var 1)))
    (.seq (.setI 0 (.int 0) (.op .fdiv (.idx (.var 0) (.int 0)) (.var 1)))
    (.seq (.ret (.var 4))
    .skip))) .skip)
    (.seq (.ifS (.cmp .gt (.var 1) (.op .pow (.int 10) (.int 7))) (.seq (.ret (.op .mod (.op .add (.call 13 (.cons (.var 0) (.cons (.op .pow (.int 10) (.int 7)) .nil))) (.op .mul (.op .pow (.int 10) (.int 7)) (.call 13 (.cons (.var 0) (.cons (.op .add (.op .fdiv (.op .sub (.var 1) (.int 1)) (.op .pow (.int 10) (.int 7))) (.int 1)) .nil))))) (.var 1)))
    .skip) .skip)
    (.seq (.setI 0 (.int 2) (.op .add (.idx (.var 0) (.int 2)) (.int 1)))
    (.seq (.asg (.nm 2) (.op .mod (.op .mul (.op .add (.idx (.var 0) (.int 1)) (.op .mul (.int 48271) (.idx (.var 0) (.int 2)))) (.op .add (.int 39373) (.idx (.var 0) (.int 2)))) (.int 2147483647)))
    (.seq (.asg (.nm 3) (.op .mod (.op .mul (.op .add (.op .add (.var 2) (.idx (.var 0) (.int 2))) (.op .fdiv (.idx (.var 0) (.int 1)) (.int 1000003))) (.op .add (.op .mod (.var 2) (.int 40009)) (.int 7))) (.int 2147483629)))
    (.seq (.ret (.op .mod (.op .fdiv (.op .mod (.op .add (.op .mul (.var 3) (.int 48271)) (.var 2)) (.int 2147483587)) (.int 64)) (.var 1)))
    .skip)))))
def fn_take : Fn := ⟨2, 5, ir_take⟩
/-- 14 -/
def ir_of : IR :=
    .seq (.ret (.idx (.var 1) (.call 13 (.cons (.var 0) (.cons (.lenS (.var 1)) .nil)))))
    .skip
def fn_of : Fn := ⟨2, 2, ir_of⟩
/-- 15 -/
def ir_same : IR :=
    .seq (.ifS (.isi (.var 1) [.list, .tuple]) (.seq (.ifS (.bor (.cmp .ne (.isi (.var 0) [.list]) (.isi (.var 1) [.list])) (.one (.cmp .ne (.isi (.var 0) [.tuple]) (.isi (.var 1) [.tuple])))) (.seq (.ret (.bl false))
    .skip) .skip)
    (.seq (.ret (.band (.cmp .eq (.lenS (.var 0)) (.lenS (.var 1))) (.one (.bi .all (.cons (.comp [2, 3] (.tp (.cons (.nm 2) (.cons (.nm 3) .nil))) .zip (.var 0) (.var 1) .nil (.call 15 (.cons (.var 2) (.cons (.var 3) .nil)))) .nil)))))
    .skip)) .skip)
    (.seq (.ifS (.bor (.isn false (.var 1)) (.one (.isi (.var 1) [.str, .bool]))) (.seq (.ret (.band (.cmp .eq (.var 0) (.var 1)) (.band (.cmp .eq (.isi (.var 0) [.bool]) (.isi (.var 1) [.bool])) (.one (.cmp .eq (.isn false (.var 0)) (.isn false (.var 1)))))))
    .skip) .skip)
    (.seq (.ret (.band (.isi (.var 0) [.int]) (.band (.bnot (.isi (.var 0) [.bool])) (.one (.cmp .eq (.var 0) (.var 1))))))
    .skip))
def fn_same : Fn := ⟨2, 4, ir_same⟩
/-- 16 -/
def ir_lists : IR :=
    .seq (.ret (.ife (.isi (.var 0) [.list, .tuple]) (.comp [1] (.nm 1) .seq (.var 0) .nil .nil (.call 16 (.cons (.var 1) .nil))) (.var 0)))
    .skip
def fn_lists : Fn := ⟨1, 2, ir_lists⟩
/-- 17 -/
def ir_half : IR :=
    .seq (.asg (.nm 2) (.ife (.isi (.var 0) [.list, .tuple]) (.comp [3] (.nm 3) .seq (.var 0) .nil .nil (.call 17 (.cons (.var 3) (.cons (.op .add (.var 1) (.int 1)) .nil)))) (.var 0)))
    (.seq (.ret (.ife (.band (.isi (.var 2) [.list]) (.one (.cmp .eq (.op .mod (.var 1) (.int 2)) (.int 0)))) (.bi .tuple (.cons (.var 2) .nil)) (.var 2)))
    .skip)
def fn_half : Fn := ⟨2, 4, ir_half⟩
/-- 18 -/
def ir_lane : IR :=
    .seq (.par [(4, false), (5, false), (6, true), (7, false)] (.cons (.call 13 (.cons (.var 0) (.cons (.int 5) .nil))) (.cons (.call 13 (.cons (.var 0) (.cons (.int 3) .nil))) (.cons (.lst .nil) (.cons (.int 0) .nil)))))
    (.seq (.par [(8, false), (9, false)] (.cons (.op .sub (.call 13 (.cons (.var 0) (.cons (.int 9) .nil))) (.int 4)) (.cons (.op .sub (.int 1) (.op .mul (.int 2) (.call 13 (.cons (.var 0) (.cons (.int 2) .nil))))) .nil)))
    (.seq (.forS (.nm 2) .rng (.op .add (.int 1) (.call 13 (.cons (.var 0) (.cons (.var 1) .nil)))) .nil (.seq (.ifS (.band (.cmp .gt (.var 2) (.int 0)) (.one (.cmp .eq (.call 13 (.cons (.var 0) (.cons (.int 2) .nil))) (.int 0)))) (.seq (.par [(7, false), (8, false)] (.cons (.op .add (.var 7) (.int 1)) (.cons (.op .add (.op .add (.var 8) (.int 1)) (.call 13 (.cons (.var 0) (.cons (.int 3) .nil)))) .nil)))
    .skip) .skip)
    (.seq (.expr (.mu .append 6 (.cons (.tup (.cons (.var 7) (.cons (.op .mul (.var 9) (.var 8)) .nil))) .nil)))
    .skip)))
    (.seq (.ifS (.cmp .lt (.var 4) (.int 2)) (.seq (.asgO 6 (.comp [10, 11] (.tp (.cons (.nm 10) (.cons (.nm 11) .nil))) .seq (.frz 6) .nil .nil (.tup (.cons (.ife (.cmp .eq (.var 4) (.int 0)) (.var 10) (.int 0)) (.cons .non .nil)))))
    (.seq (.ret (.tup (.cons (.tup (.cons (.ife (.bor (.cmp .eq (.var 4) (.int 0)) (.one (.cmp .eq (.var 9) (.int 1)))) (.str "up") (.str "down")) (.cons (.bi .tuple (.cons (.var 6) .nil)) .nil))) (.cons (.cmp .eq (.var 4) (.int 1)) .nil))))
    .skip)) .skip)
    (.seq (.asg (.nm 3) (.op .mul (.lst (.cons (.tup (.cons (.int 0) (.cons .non .nil))) .nil)) (.op .add (.int 1) (.call 13 (.cons (.var 0) (.cons (.int 2) .nil))))))
    (.seq (.ifS (.cmp .eq (.var 5) (.int 1)) (.seq (.asgO 6 (.op .add (.var 3) (.comp [10, 11] (.tp (.cons (.nm 10) (.cons (.nm 11) .nil))) .seq (.frz 6) .nil .nil (.tup (.cons (.op .add (.var 10) (.int 1)) (.cons (.var 11) .nil))))))
    .skip) .skip)
    (.seq (.ifS (.cmp .eq (.var 5) (.int 2)) (.seq (.asgO 6 (.op .add (.var 6) (.op .mul (.lst (.cons (.tup (.cons (.op .add (.var 7) (.int 1)) (.cons .non .nil))) .nil)) (.lenS (.var 3)))))
    .skip) .skip)
    (.seq (.ret (.tup (.cons (.tup (.cons (.ife (.cmp .eq (.var 9) (.int 1)) (.str "up") (.str "down")) (.cons (.bi .tuple (.cons (.var 6) .nil)) .nil))) (.cons (.bl true) .nil))))
    .skip)))))))
def fn_lane : Fn := ⟨2, 12, ir_lane⟩
/-- 19 -/
def ir_edge : IR :=
    .seq (.ret (.call 14 (.cons (.var 0) (.cons (.lst (.cons (.tup (.cons (.str "here") .nil)) (.cons (.tup (.cons (.str "before") (.cons (.call 13 (.cons (.var 0) (.cons (.var 1) .nil))) .nil))) (.cons (.tup (.cons (.str "after") (.cons (.call 13 (.cons (.var 0) (.cons (.var 1) .nil))) .nil))) .nil)))) .nil))))
    .skip
def fn_edge : Fn := ⟨2, 2, ir_edge⟩
/-- 20 -/
def ir_shape : IR :=
    .seq (.asg (.nm 3) (.ife (.cmp .eq (.call 13 (.cons (.var 0) (.cons (.int 4) .nil))) (.int 0)) (.tup (.cons (.str "start") .nil)) (.call 19 (.cons (.var 0) (.cons (.var 2) .nil)))))
    (.seq (.asg (.nm 4) (.ife (.cmp .eq (.call 13 (.cons (.var 0) (.cons (.int 4) .nil))) (.int 0)) (.tup (.cons (.str "end") .nil)) (.call 19 (.cons (.var 0) (.cons (.var 2) .nil)))))
    (.seq (.asg (.nm 5) (.call 14 (.cons (.var 0) (.cons (.ife (.bor (.var 1) (.one (.cmp .eq (.op .add (.lenS (.var 3)) (.lenS (.var 4))) (.int 2)))) (.lst (.cons (.str "rows") (.cons (.str "range") (.cons (.str "groups") .nil)))) (.lst (.cons (.str "rows") (.cons (.str "groups") .nil)))) .nil))))
    (.seq (.ret (.tup (.cons (.var 5) (.cons (.var 3) (.cons (.var 4) (.cons (.call 14 (.cons (.var 0) (.cons (.lst (.cons (.str "nobody") (.cons (.str "row") (.cons (.str "group") (.cons (.str "ties") .nil))))) .nil))) .nil))))))
    .skip)))
def fn_shape : Fn := ⟨3, 6, ir_shape⟩
/-- 21 -/
def ir_reaches : IR :=
    .seq (.asg (.nm 6) (.ife (.cmp .eq (.idx (.var 4) (.int 0)) (.str "after")) (.idx (.var 4) (.int 1)) (.ife (.cmp .eq (.idx (.var 4) (.int 0)) (.str "before")) (.op .sub (.int 0) (.idx (.var 4) (.int 1))) (.int 0))))
    (.seq (.par [(8, false), (9, false)] (.cons (.idx (.idx (.var 0) (.int 1)) (.var 1)) (.cons (.idx (.idx (.var 0) (.int 1)) (.var 2)) .nil)))
    (.seq (.ifS (.cmp .isin (.idx (.var 4) (.int 0)) (.tup (.cons (.str "start") (.cons (.str "end") .nil)))) (.seq (.ret (.bl true))
    .skip) .skip)
    (.seq (.ifS (.cmp .eq (.var 3) (.str "rows")) (.seq (.ret (.cmp .ge (.op .mul (.var 5) (.var 2)) (.op .mul (.var 5) (.op .add (.var 1) (.var 6)))))
    .skip) .skip)
    (.seq (.ifS (.bor (.cmp .eq (.var 3) (.str "groups")) (.one (.cmp .eq (.idx (.var 4) (.int 0)) (.str "here")))) (.seq (.ret (.cmp .ge (.op .mul (.var 5) (.idx (.var 9) (.int 0))) (.op .mul (.var 5) (.op .add (.idx (.var 8) (.int 0)) (.var 6)))))
    .skip) .skip)
    (.seq (.ifS (.band (.isn false (.idx (.var 8) (.int 1))) (.one (.isn false (.idx (.var 9) (.int 1))))) (.seq (.ret (.bl true))
    .skip) .skip)
    (.seq (.ifS (.bor (.isn false (.idx (.var 8) (.int 1))) (.one (.isn false (.idx (.var 9) (.int 1))))) (.seq (.ret (.cmp .eq (.cmp .gt (.var 2) (.var 1)) (.cmp .eq (.var 5) (.int 1))))
    .skip) .skip)
    (.seq (.asg (.nm 7) (.ife (.cmp .eq (.idx (.var 0) (.int 0)) (.str "up")) (.int 1) (.neg (.int 1))))
    (.seq (.ret (.cmp .ge (.op .mul (.op .mul (.var 5) (.var 7)) (.idx (.var 9) (.int 1))) (.op .mul (.var 5) (.op .add (.op .mul (.var 7) (.idx (.var 8) (.int 1))) (.var 6)))))
    .skip))))))))
def fn_reaches : Fn := ⟨6, 10, ir_reaches⟩
/-- 22 -/
def ir_full : IR :=
    .seq (.asg (.nm 3) (.comp [4] (.nm 4) .rng (.lenS (.idx (.var 0) (.int 1))) .nil (.call 21 (.cons (.var 0) (.cons (.var 1) (.cons (.var 4) (.cons (.idx (.var 2) (.int 0)) (.cons (.idx (.var 2) (.int 1)) (.cons (.int 1) .nil))))))) (.var 4)))
    (.seq (.ret (.comp [4] (.nm 4) .seq (.var 3) .nil (.call 21 (.cons (.var 0) (.cons (.var 1) (.cons (.var 4) (.cons (.idx (.var 2) (.int 0)) (.cons (.idx (.var 2) (.int 2)) (.cons (.neg (.int 1)) .nil))))))) (.var 4)))
    .skip)
def fn_full : Fn := ⟨3, 5, ir_full⟩
/-- 23 -/
def ir_edges : IR :=
    .seq (.ret (.ife (.cmp .ne (.var 0) (.lst .nil)) (.tup (.cons (.idx (.var 0) (.int 0)) (.cons (.idx (.var 0) (.neg (.int 1))) .nil))) .non))
    .skip
def fn_edges : Fn := ⟨1, 1, ir_edges⟩
/-- 24 -/
def ir_due : IR :=
    .seq (.par [(6, false), (7, false)] (.cons (.call 22 (.cons (.var 0) (.cons (.var 1) (.cons (.var 2) .nil)))) (.cons (.idx (.var 2) (.int 3)) .nil)))
    (.seq (.ifS (.cmp .eq (.var 7) (.str "nobody")) (.seq (.ret (.tup (.cons (.call 23 (.cons (.var 6) .nil)) (.cons .non (.cons .non .nil)))))
    .skip) .skip)
    (.seq (.asg (.nm 3) (.comp [10, 11] (.tp (.cons (.nm 10) (.cons (.nm 11) .nil))) .enm (.idx (.var 0) (.int 1)) .nil (.cmp .eq (.idx (.var 11) (.int 0)) (.idx (.idx (.idx (.var 0) (.int 1)) (.var 1)) (.int 0))) (.var 10)))
    (.seq (.asg (.nm 4) (.ife (.cmp .eq (.var 7) (.str "row")) (.lst (.cons (.var 1) .nil)) (.var 3)))
    (.seq (.par [(8, false), (9, false)] (.cons (.comp [10] (.nm 10) .seq (.var 6) .nil (.cmp .lt (.var 10) (.idx (.var 4) (.int 0))) (.var 10)) (.cons (.comp [10] (.nm 10) .seq (.var 6) .nil (.cmp .gt (.var 10) (.idx (.var 4) (.neg (.int 1)))) (.var 10)) .nil)))
    (.seq (.asg (.nm 5) (.ife (.band (.cmp .eq (.var 7) (.str "ties")) (.one (.cmp .isin (.var 1) (.var 6)))) (.tup (.cons (.var 1) (.cons (.var 1) .nil))) .non))
    (.seq (.ret (.tup (.cons (.call 23 (.cons (.var 8) .nil)) (.cons (.var 5) (.cons (.call 23 (.cons (.var 9) .nil)) .nil)))))
    .skip))))))
def fn_due : Fn := ⟨3, 12, ir_due⟩
/-- 25 -/
def ir_right : IR :=
    .seq (.forS (.nm 1) .rng (.int 3) .nil (.seq (.asg (.tp (.cons (.nm 3) (.cons (.nm 4) .nil))) (.call 18 (.cons (.var 0) (.cons (.int 12) .nil))))
    (.seq (.forS (.nm 2) .rng (.int 6) .nil (.seq (.asg (.nm 5) (.call 20 (.cons (.var 0) (.cons (.var 4) (.cons (.int 6) .nil)))))
    (.seq (.forS (.nm 6) .rng (.lenS (.idx (.var 3) (.int 1))) .nil (.seq (.asg (.nm 7) (.call 24 (.cons (.var 3) (.cons (.var 6) (.cons (.var 5) .nil)))))
    (.seq (.asgO 8 (.lst (.cons (.call 10 (.cons (.var 3) (.cons (.var 6) (.cons (.var 5) .nil)))) .nil)))
    (.seq (.expr (.mu .append 8 (.cons (.callK 0 (.cons (.call 16 (.cons (.var 5) .nil)) (.cons (.var 6) (.cons (.call 16 (.cons (.var 3) .nil)) .nil)))) .nil)))
    (.seq (.expr (.mu .append 8 (.cons (.call 10 (.cons (.call 17 (.cons (.var 3) (.cons (.var 6) .nil))) (.cons (.var 6) (.cons (.call 17 (.cons (.var 5) (.cons (.var 2) .nil))) .nil)))) .nil)))
    (.seq (.ifS (.bnot (.call 15 (.cons (.frz 8) (.cons (.op .mul (.lst (.cons (.var 7) .nil)) (.int 3)) .nil)))) (.seq (.ret (.bl false))
    .skip) .skip)
    .skip))))))
    .skip)))
    .skip)))
    (.seq (.ret (.bl true))
    .skip)
def fn_right : Fn := ⟨1, 9, ir_right⟩
/-- 26 -/
def ir_law : IR :=
    .seq (.ret (.bi .all (.cons (.comp [1] (.nm 1) .rng (.op .add (.int 1) (.bi .min2 (.cons (.int 2) (.cons (.lenS (.var 0)) .nil)))) .nil .nil (.callT 25 12 (.cons (.var 0) (.cons (.var 1) .nil)))) .nil)))
    .skip
def fn_law : Fn := ⟨1, 2, ir_law⟩
/-- 27 -/
def ir_stretches : IR :=
    .seq (.asgO 3 (.lst .nil))
    (.seq (.forS (.nm 4) .seq (.call 10 (.cons (.var 0) (.cons (.var 1) (.cons (.var 2) .nil)))) .nil (.seq (.ifS (.band (.isn true (.var 4)) (.band (.cmp .gt (.lenS (.var 3)) (.int 0)) (.one (.cmp .eq (.op .add (.idx (.idx (.var 3) (.neg (.int 1))) (.int 1)) (.int 1)) (.idx (.var 4) (.int 0)))))) (.seq (.setI 3 (.neg (.int 1)) (.tup (.cons (.idx (.idx (.var 3) (.neg (.int 1))) (.int 0)) (.cons (.idx (.var 4) (.int 1)) .nil))))
    .skip) (.seq (.ifS (.isn true (.var 4)) (.seq (.expr (.mu .append 3 (.cons (.var 4) .nil)))
    .skip) .skip)
    .skip))
    .skip))
    (.seq (.ret (.bi .tuple (.cons (.var 3) .nil)))
    .skip))
def fn_stretches : Fn := ⟨3, 5, ir_stretches⟩
/-- 28 -/
def ir_out : IR :=
    .seq (.asg (.nm 3) (.comp [4, 5] (.tp (.cons (.nm 4) (.cons (.nm 5) .nil))) .enm (.idx (.var 0) (.int 1)) .nil (.cmp .eq (.idx (.var 5) (.int 0)) (.idx (.idx (.idx (.var 0) (.int 1)) (.var 1)) (.int 0))) (.var 4)))
    (.seq (.ifS (.cmp .isin (.idx (.var 2) (.int 3)) (.tup (.cons (.str "nobody") (.cons (.str "row") .nil)))) (.seq (.ret (.op .mul (.lst (.cons (.var 1) .nil)) (.bi .int (.cons (.cmp .eq (.idx (.var 2) (.int 3)) (.str "row")) .nil))))
    .skip) .skip)
    (.seq (.ret (.comp [4] (.nm 4) .seq (.var 3) .nil (.bor (.cmp .ne (.var 4) (.var 1)) (.one (.cmp .eq (.idx (.var 2) (.int 3)) (.str "group")))) (.var 4)))
    .skip))
def fn_out : Fn := ⟨3, 6, ir_out⟩
/-- 29 -/
def ir_frame : IR :=
    .seq (.asg (.nm 3) (.call 28 (.cons (.var 0) (.cons (.var 1) (.cons (.var 2) .nil)))))
    (.seq (.ret (.comp [4] (.nm 4) .seq (.call 22 (.cons (.var 0) (.cons (.var 1) (.cons (.var 2) .nil)))) .nil (.cmp .notin (.var 4) (.var 3)) (.var 4)))
    .skip)
def fn_frame : Fn := ⟨3, 5, ir_frame⟩
/-- 30 -/
def ir_runs : IR :=
    .seq (.asgO 1 (.lst .nil))
    (.seq (.forS (.nm 2) .seq (.var 0) .nil (.seq (.ifS (.band (.cmp .ne (.var 1) (.lst .nil)) (.one (.cmp .eq (.op .add (.idx (.idx (.var 1) (.neg (.int 1))) (.int 1)) (.int 1)) (.var 2)))) (.seq (.setI 1 (.neg (.int 1)) (.tup (.cons (.idx (.idx (.var 1) (.neg (.int 1))) (.int 0)) (.cons (.var 2) .nil))))
    .skip) (.seq (.expr (.mu .append 1 (.cons (.tup (.cons (.var 2) (.cons (.var 2) .nil))) .nil)))
    .skip))
    .skip))
    (.seq (.ret (.bi .tuple (.cons (.var 1) .nil)))
    .skip))
def fn_runs : Fn := ⟨1, 3, ir_runs⟩
/-- 31 -/
def ir_right_2 : IR :=
    .seq (.forS (.nm 1) .rng (.int 3) .nil (.seq (.asg (.tp (.cons (.nm 3) (.cons (.nm 4) .nil))) (.call 18 (.cons (.var 0) (.cons (.int 12) .nil))))
    (.seq (.forS (.nm 2) .rng (.int 6) .nil (.seq (.asg (.nm 5) (.call 20 (.cons (.var 0) (.cons (.var 4) (.cons (.int 6) .nil)))))
    (.seq (.forS (.nm 6) .rng (.lenS (.idx (.var 3) (.int 1))) .nil (.seq (.asg (.nm 7) (.call 30 (.cons (.call 29 (.cons (.var 3) (.cons (.var 6) (.cons (.var 5) .nil)))) .nil)))
    (.seq (.asgO 8 (.lst (.cons (.call 27 (.cons (.var 3) (.cons (.var 6) (.cons (.var 5) .nil)))) .nil)))
    (.seq (.expr (.mu .append 8 (.cons (.callK 1 (.cons (.call 16 (.cons (.var 5) .nil)) (.cons (.var 6) (.cons (.call 16 (.cons (.var 3) .nil)) .nil)))) .nil)))
    (.seq (.expr (.mu .append 8 (.cons (.call 27 (.cons (.call 17 (.cons (.var 3) (.cons (.var 6) .nil))) (.cons (.var 6) (.cons (.call 17 (.cons (.var 5) (.cons (.var 2) .nil))) .nil)))) .nil)))
    (.seq (.ifS (.bor (.bnot (.call 15 (.cons (.frz 8) (.cons (.op .mul (.lst (.cons (.var 7) .nil)) (.int 3)) .nil)))) (.one (.cmp .gt (.lenS (.var 7)) (.int 3)))) (.seq (.ret (.bl false))
    .skip) .skip)
    .skip))))))
    .skip)))
    .skip)))
    (.seq (.ret (.bl true))
    .skip)
def fn_right_2 : Fn := ⟨1, 9, ir_right_2⟩
/-- 32 -/
def ir_law_2 : IR :=
    .seq (.ret (.bi .all (.cons (.comp [1] (.nm 1) .rng (.op .add (.int 1) (.bi .min2 (.cons (.int 2) (.cons (.lenS (.var 0)) .nil)))) .nil .nil (.callT 31 12 (.cons (.var 0) (.cons (.var 1) .nil)))) .nil)))
    .skip
def fn_law_2 : Fn := ⟨1, 2, ir_law_2⟩
/-- 33 -/
def ir_turned_bound : IR :=
    .seq (.ret (.op .add (.tup (.cons (.gdg 0 (.idx (.var 0) (.int 0))) .nil)) (.bi .tuple (.cons (.slc (.var 0) (.int 1) .nil) .nil))))
    .skip
def fn_turned_bound : Fn := ⟨1, 1, ir_turned_bound⟩
/-- 34 -/
def ir_turned : IR :=
    .seq (.ret (.tup (.cons (.idx (.var 0) (.int 0)) (.cons (.call 33 (.cons (.idx (.var 0) (.int 2)) .nil)) (.cons (.call 33 (.cons (.idx (.var 0) (.int 1)) .nil)) (.cons (.idx (.var 0) (.int 3)) .nil))))))
    .skip
def fn_turned : Fn := ⟨1, 1, ir_turned⟩
/-- 35 -/
def ir_holders : IR :=
    .seq (.ret (.call 27 (.cons (.var 0) (.cons (.var 1) (.cons (.call 34 (.cons (.var 2) .nil)) .nil)))))
    .skip
def fn_holders : Fn := ⟨3, 3, ir_holders⟩
/-- 36 -/
def ir_other_way : IR :=
    .seq (.asg (.nm 1) (.lst (.cons (.str "start") (.cons (.str "before") (.cons (.str "here") (.cons (.str "after") (.cons (.str "end") .nil)))))))
    (.seq (.ret (.op .add (.tup (.cons (.idx (.var 1) (.op .sub (.int 4) (.mt .index (.var 1) (.cons (.idx (.var 0) (.int 0)) .nil)))) .nil)) (.slc (.var 0) (.int 1) .nil)))
    .skip)
def fn_other_way : Fn := ⟨1, 2, ir_other_way⟩
/-- 37 -/
def ir_right_3 : IR :=
    .seq (.forS (.nm 1) .rng (.int 3) .nil (.seq (.asg (.tp (.cons (.nm 3) (.cons (.nm 4) .nil))) (.call 18 (.cons (.var 0) (.cons (.int 10) .nil))))
    (.seq (.forS (.nm 2) .rng (.int 6) .nil (.seq (.par [(8, false), (9, false)] (.cons (.call 20 (.cons (.var 0) (.cons (.var 4) (.cons (.int 6) .nil)))) (.cons (.call 20 (.cons (.var 0) (.cons (.bl true) (.cons (.int 51) .nil)))) .nil)))
    (.seq (.forS (.nm 5) .seq (.tup (.cons (.var 8) (.cons (.var 9) .nil))) .nil (.seq (.asg (.nm 10) (.tup (.cons (.idx (.var 5) (.int 0)) (.cons (.call 36 (.cons (.idx (.var 5) (.int 2)) .nil)) (.cons (.call 36 (.cons (.idx (.var 5) (.int 1)) .nil)) (.cons (.idx (.var 5) (.int 3)) .nil))))))
    (.seq (.asgO 11 (.lst (.cons (.call 34 (.cons (.var 5) .nil)) (.cons (.callK 2 (.cons (.call 16 (.cons (.var 5) .nil)) .nil)) (.cons (.call 34 (.cons (.call 17 (.cons (.var 5) (.cons (.var 2) .nil))) .nil)) (.cons (.call 34 (.cons (.call 34 (.cons (.var 5) .nil)) .nil)) .nil))))))
    (.seq (.ifS (.bnot (.call 15 (.cons (.frz 11) (.cons (.lst (.cons (.var 10) (.cons (.var 10) (.cons (.var 10) (.cons (.var 5) .nil))))) .nil)))) (.seq (.ret (.bl false))
    .skip) .skip)
    .skip))))
    (.seq (.asg (.nm 6) (.comp [12] (.nm 12) .rng (.lenS (.idx (.var 3) (.int 1))) .nil .nil (.call 29 (.cons (.var 3) (.cons (.var 12) (.cons (.var 8) .nil))))))
    (.seq (.forS (.nm 7) .rng (.lenS (.idx (.var 3) (.int 1))) .nil (.seq (.asg (.nm 10) (.call 30 (.cons (.comp [12, 13] (.tp (.cons (.nm 12) (.cons (.nm 13) .nil))) .enm (.var 6) .nil (.cmp .isin (.var 7) (.var 13)) (.var 12)) .nil)))
    (.seq (.asgO 11 (.lst (.cons (.call 35 (.cons (.var 3) (.cons (.var 7) (.cons (.var 8) .nil)))) .nil)))
    (.seq (.expr (.mu .append 11 (.cons (.callK 3 (.cons (.call 16 (.cons (.var 8) .nil)) (.cons (.var 7) (.cons (.call 16 (.cons (.var 3) .nil)) .nil)))) .nil)))
    (.seq (.expr (.mu .append 11 (.cons (.call 35 (.cons (.call 17 (.cons (.var 3) (.cons (.var 7) .nil))) (.cons (.var 7) (.cons (.call 17 (.cons (.var 8) (.cons (.var 2) .nil))) .nil)))) .nil)))
    (.seq (.ifS (.bnot (.call 15 (.cons (.frz 11) (.cons (.op .mul (.lst (.cons (.var 10) .nil)) (.int 3)) .nil)))) (.seq (.ret (.bl false))
    .skip) .skip)
    .skip))))))
    .skip)))))
    .skip)))
    (.seq (.ret (.bl true))
    .skip)
def fn_right_3 : Fn := ⟨1, 14, ir_right_3⟩
/-- 38 -/
def ir_law_3 : IR :=
    .seq (.ret (.bi .all (.cons (.comp [1] (.nm 1) .rng (.op .add (.int 1) (.bi .min2 (.cons (.int 2) (.cons (.lenS (.var 0)) .nil)))) .nil .nil (.callT 37 12 (.cons (.var 0) (.cons (.var 1) .nil)))) .nil)))
    .skip
def fn_law_3 : Fn := ⟨1, 2, ir_law_3⟩
/-- 39 -/
def ir_frame_places : IR :=
    .seq (.asgO 3 (.lst .nil))
    (.seq (.forS (.tp (.cons (.nm 4) (.cons (.nm 5) .nil))) .seq (.call 27 (.cons (.var 0) (.cons (.var 1) (.cons (.var 2) .nil)))) .nil (.seq (.expr (.mu .extend 3 (.cons (.lrng (.var 4) (.op .add (.var 5) (.int 1))) .nil)))
    .skip))
    (.seq (.ret (.frz 3))
    .skip))
def fn_frame_places : Fn := ⟨3, 6, ir_frame_places⟩
/-- 40 -/
def ir_slides : IR :=
    .seq (.asg (.nm 0) (.comp [3] (.nm 3) .seq (.var 0) .nil (.isn true (.var 3)) (.var 3)))
    (.seq (.forS (.tp (.cons (.nm 1) (.cons (.nm 2) .nil))) .zip (.var 0) (.slc (.var 0) (.int 1) .nil) (.seq (.ifS (.bor (.cmp .lt (.idx (.var 2) (.int 0)) (.idx (.var 1) (.int 0))) (.one (.cmp .lt (.idx (.var 2) (.int 1)) (.idx (.var 1) (.int 1))))) (.seq (.ret (.bl false))
    .skip) .skip)
    .skip))
    (.seq (.ret (.bl true))
    .skip))
def fn_slides : Fn := ⟨1, 4, ir_slides⟩
/-- 41 -/
def ir_lane_right : IR :=
    .seq (.par [(6, false), (7, false)] (.cons (.lenS (.idx (.var 0) (.int 1))) (.cons (.call 34 (.cons (.var 1) .nil)) .nil)))
    (.seq (.asg (.nm 2) (.comp [9] (.nm 9) .rng (.var 6) .nil .nil (.call 39 (.cons (.var 0) (.cons (.var 9) (.cons (.var 1) .nil))))))
    (.seq (.forS (.nm 3) .rng (.var 6) .nil (.seq (.asg (.nm 8) (.comp [9] (.nm 9) .rng (.var 6) .nil (.cmp .isin (.var 3) (.idx (.var 2) (.var 9))) (.var 9)))
    (.seq (.ifS (.bor (.cmp .ne (.call 39 (.cons (.var 0) (.cons (.var 3) (.cons (.var 7) .nil)))) (.var 8)) (.one (.cmp .ne (.call 35 (.cons (.var 0) (.cons (.var 3) (.cons (.var 1) .nil)))) (.call 30 (.cons (.var 8) .nil))))) (.seq (.ret (.bl false))
    .skip) .skip)
    (.seq (.ifS (.bor (.cmp .ne (.call 35 (.cons (.var 0) (.cons (.var 3) (.cons (.var 7) .nil)))) (.call 30 (.cons (.idx (.var 2) (.var 3)) .nil))) (.one (.cmp .ne (.call 27 (.cons (.var 0) (.cons (.var 3) (.cons (.var 1) .nil)))) (.call 30 (.cons (.idx (.var 2) (.var 3)) .nil))))) (.seq (.ret (.bl false))
    .skip) .skip)
    .skip))))
    (.seq (.asg (.nm 4) (.comp [9] (.nm 9) .rng (.var 6) .nil .nil (.call 8 (.cons (.var 0) (.cons (.var 9) (.cons (.var 1) .nil))))))
    (.seq (.asg (.nm 5) (.comp [9] (.nm 9) .rng (.var 6) .nil .nil (.call 10 (.cons (.var 0) (.cons (.var 9) (.cons (.var 1) .nil))))))
    (.seq (.ifS (.bor (.bnot (.call 40 (.cons (.var 4) .nil))) (.one (.bnot (.call 40 (.cons (.comp [10, 11, 12] (.tp (.cons (.nm 10) (.cons (.nm 11) (.cons (.nm 12) .nil)))) .seq (.var 5) .nil .nil (.var 10)) .nil))))) (.seq (.ret (.bl false))
    .skip) .skip)
    (.seq (.ret (.call 40 (.cons (.comp [10, 11, 12] (.tp (.cons (.nm 10) (.cons (.nm 11) (.cons (.nm 12) .nil)))) .seq (.var 5) .nil .nil (.var 12)) .nil)))
    .skip))))))
def fn_lane_right : Fn := ⟨2, 13, ir_lane_right⟩
/-- 42 -/
def ir_right_4 : IR :=
    .seq (.forS (.nm 1) .rng (.int 4) .nil (.seq (.asg (.tp (.cons (.nm 2) (.cons (.nm 3) .nil))) (.call 18 (.cons (.var 0) (.cons (.int 12) .nil))))
    (.seq (.ifS (.bnot (.bi .all (.cons (.comp [4] (.nm 4) .rng (.int 5) .nil .nil (.call 41 (.cons (.var 2) (.cons (.call 20 (.cons (.var 0) (.cons (.var 3) (.cons (.int 5) .nil)))) .nil)))) .nil))) (.seq (.ret (.bl false))
    .skip) .skip)
    .skip)))
    (.seq (.ret (.bl true))
    .skip)
def fn_right_4 : Fn := ⟨1, 5, ir_right_4⟩
/-- 43 -/
def ir_law_4 : IR :=
    .seq (.ret (.bi .all (.cons (.comp [1] (.nm 1) .rng (.op .add (.int 1) (.bi .min2 (.cons (.int 2) (.cons (.lenS (.var 0)) .nil)))) .nil .nil (.callT 42 12 (.cons (.var 0) (.cons (.var 1) .nil)))) .nil)))
    .skip
def fn_law_4 : Fn := ⟨1, 2, ir_law_4⟩
/-- 44 -/
def ir_wider : IR :=
    .seq (.par [(1, false), (2, false)] (.cons (.idx (.var 0) (.int 1)) (.cons (.idx (.var 0) (.int 2)) .nil)))
    (.seq (.ifS (.cmp .isin (.idx (.var 1) (.int 0)) (.tup (.cons (.str "before") (.cons (.str "after") .nil)))) (.seq (.asg (.nm 1) (.ife (.bor (.cmp .eq (.idx (.var 1) (.int 0)) (.str "before")) (.one (.cmp .eq (.idx (.var 1) (.int 1)) (.int 0)))) (.tup (.cons (.str "before") (.cons (.op .add (.idx (.var 1) (.int 1)) (.int 1)) .nil))) (.tup (.cons (.str "after") (.cons (.op .sub (.idx (.var 1) (.int 1)) (.int 1)) .nil)))))
    .skip) .skip)
    (.seq (.ifS (.cmp .isin (.idx (.var 2) (.int 0)) (.tup (.cons (.str "before") (.cons (.str "after") .nil)))) (.seq (.asg (.nm 2) (.ife (.bor (.cmp .eq (.idx (.var 2) (.int 0)) (.str "after")) (.one (.cmp .eq (.idx (.var 2) (.int 1)) (.int 0)))) (.tup (.cons (.str "after") (.cons (.op .add (.idx (.var 2) (.int 1)) (.int 1)) .nil))) (.tup (.cons (.str "before") (.cons (.op .sub (.idx (.var 2) (.int 1)) (.int 1)) .nil)))))
    .skip) .skip)
    (.seq (.ret (.tup (.cons (.idx (.var 0) (.int 0)) (.cons (.var 1) (.cons (.var 2) (.cons (.idx (.var 0) (.int 3)) .nil))))))
    .skip)))
def fn_wider : Fn := ⟨1, 3, ir_wider⟩
/-- 45 -/
def ir_far : IR :=
    .seq (.ret (.ife (.cmp .eq (.lenS (.var 0)) (.int 1)) (.var 0) (.tup (.cons (.idx (.var 0) (.int 0)) (.cons (.op .mul (.idx (.var 0) (.int 1)) (.var 1)) .nil)))))
    .skip
def fn_far : Fn := ⟨2, 2, ir_far⟩
/-- 46 -/
def ir_left_out_right : IR :=
    .seq (.asg (.nm 3) (.comp [6] (.nm 6) .seq (.tup (.cons (.str "nobody") (.cons (.str "row") (.cons (.str "group") (.cons (.str "ties") .nil))))) .nil .nil (.call 39 (.cons (.var 0) (.cons (.var 1) (.cons (.op .add (.slc (.var 2) .nil (.int 3)) (.tup (.cons (.var 6) .nil))) .nil))))))
    (.seq (.asg (.nm 4) (.comp [7, 8] (.tp (.cons (.nm 7) (.cons (.nm 8) .nil))) .enm (.idx (.var 0) (.int 1)) .nil (.cmp .eq (.idx (.var 8) (.int 0)) (.idx (.idx (.idx (.var 0) (.int 1)) (.var 1)) (.int 0))) (.var 7)))
    (.seq (.asgO 5 (.lst (.cons (.idx (.var 3) (.int 0)) (.cons (.comp [7] (.nm 7) .seq (.idx (.var 3) (.int 0)) .nil (.cmp .ne (.var 7) (.var 1)) (.var 7)) (.cons (.comp [7] (.nm 7) .seq (.idx (.var 3) (.int 0)) .nil (.cmp .notin (.var 7) (.var 4)) (.var 7)) .nil)))))
    (.seq (.expr (.mu .append 5 (.cons (.comp [7] (.nm 7) .seq (.idx (.var 3) (.int 0)) .nil (.bor (.cmp .eq (.var 7) (.var 1)) (.one (.cmp .notin (.var 7) (.var 4)))) (.var 7)) .nil)))
    (.seq (.ret (.cmp .eq (.var 3) (.var 5)))
    .skip))))
def fn_left_out_right : Fn := ⟨3, 9, ir_left_out_right⟩
/-- 47 -/
def ir_lifted_by : IR :=
    .seq (.ret (.tup (.cons (.idx (.var 0) (.int 0)) (.cons (.bi .tuple (.cons (.comp [3, 4] (.tp (.cons (.nm 3) (.cons (.nm 4) .nil))) .seq (.idx (.var 0) (.int 1)) .nil .nil (.tup (.cons (.var 3) (.cons (.ife (.isn false (.var 4)) .non (.op .add (.op .mul (.var 1) (.var 4)) (.var 2))) .nil)))) .nil)) .nil))))
    .skip
def fn_lifted_by : Fn := ⟨3, 5, ir_lifted_by⟩
/-- 48 -/
def ir_lane_right_2 : IR :=
    .seq (.par [(8, false), (9, false)] (.cons (.tup (.cons (.tup (.cons (.str "here") .nil)) (.cons (.tup (.cons (.str "here") .nil)) (.cons (.idx (.var 2) (.int 3)) .nil)))) (.cons (.call 47 (.cons (.var 0) (.cons (.var 3) (.cons (.var 4) .nil)))) .nil)))
    (.seq (.asg (.nm 5) (.tup (.cons (.idx (.var 2) (.int 0)) (.cons (.call 45 (.cons (.idx (.var 2) (.int 1)) (.cons (.var 3) .nil))) (.cons (.call 45 (.cons (.idx (.var 2) (.int 2)) (.cons (.var 3) .nil))) (.cons (.idx (.var 2) (.int 3)) .nil))))))
    (.seq (.asg (.nm 6) (.tup (.cons (.str "up") (.cons (.bi .tuple (.cons (.comp [16] (.nm 16) .rng (.lenS (.idx (.var 0) (.int 1))) .nil .nil (.tup (.cons (.var 16) (.cons .non .nil)))) .nil)) .nil))))
    (.seq (.forS (.nm 7) .rng (.lenS (.idx (.var 0) (.int 1))) .nil (.seq (.asg (.nm 10) (.call 39 (.cons (.var 0) (.cons (.var 7) (.cons (.var 2) .nil)))))
    (.seq (.asg (.nm 11) (.call 39 (.cons (.var 0) (.cons (.var 7) (.cons (.call 44 (.cons (.var 2) .nil)) .nil)))))
    (.seq (.ifS (.bor (.bnot (.bi .all (.cons (.comp [16] (.nm 16) .seq (.var 10) .nil .nil (.cmp .isin (.var 16) (.var 11))) .nil))) (.one (.bnot (.call 46 (.cons (.var 0) (.cons (.var 7) (.cons (.var 2) .nil))))))) (.seq (.ret (.bl false))
    .skip) .skip)
    (.seq (.par [(12, false), (14, false)] (.cons (.call 27 (.cons (.var 0) (.cons (.var 7) (.cons (.op .add (.tup (.cons (.str "groups") .nil)) (.var 8)) .nil)))) (.cons (.tup (.cons (.str "range") (.cons (.tup (.cons (.str "before") (.cons (.int 0) .nil))) (.cons (.tup (.cons (.str "after") (.cons (.int 0) .nil))) (.cons (.idx (.var 2) (.int 3)) .nil))))) .nil)))
    (.seq (.ifS (.bor (.cmp .ne (.call 27 (.cons (.var 0) (.cons (.var 7) (.cons (.op .add (.tup (.cons (.str "range") .nil)) (.var 8)) .nil)))) (.var 12)) (.one (.band (.var 1) (.one (.cmp .ne (.call 27 (.cons (.var 0) (.cons (.var 7) (.cons (.var 14) .nil)))) (.var 12)))))) (.seq (.ret (.bl false))
    .skip) .skip)
    (.seq (.asg (.nm 12) (.call 27 (.cons (.var 0) (.cons (.var 7) (.cons (.var 2) .nil)))))
    (.seq (.ifS (.band (.cmp .eq (.idx (.var 2) (.int 0)) (.str "range")) (.one (.cmp .ne (.call 27 (.cons (.var 9) (.cons (.var 7) (.cons (.var 5) .nil)))) (.var 12)))) (.seq (.ret (.bl false))
    .skip) .skip)
    (.seq (.asg (.nm 13) (.comp [15] (.nm 15) .seq (.tup (.cons (.str "rows") (.cons (.str "groups") .nil))) .nil .nil (.call 27 (.cons (.var 6) (.cons (.var 7) (.cons (.op .add (.tup (.cons (.var 15) .nil)) (.slc (.var 2) (.int 1) .nil)) .nil))))))
    (.seq (.ifS (.cmp .ne (.idx (.var 13) (.int 0)) (.idx (.var 13) (.int 1))) (.seq (.ret (.bl false))
    .skip) .skip)
    .skip))))))))))
    (.seq (.ret (.bl true))
    .skip))))
def fn_lane_right_2 : Fn := ⟨5, 17, ir_lane_right_2⟩
/-- 49 -/
def ir_right_5 : IR :=
    .seq (.forS (.nm 1) .rng (.int 4) .nil (.seq (.asg (.tp (.cons (.nm 3) (.cons (.nm 4) .nil))) (.call 18 (.cons (.var 0) (.cons (.int 12) .nil))))
    (.seq (.forS (.nm 2) .rng (.int 4) .nil (.seq (.par [(6, false), (7, false)] (.cons (.call 20 (.cons (.var 0) (.cons (.var 4) (.cons (.int 5) .nil)))) (.cons (.op .add (.int 1) (.call 13 (.cons (.var 0) (.cons (.int 9) .nil)))) .nil)))
    (.seq (.asg (.nm 5) (.op .sub (.call 13 (.cons (.var 0) (.cons (.op .pow (.int 10) (.int 9)) .nil))) (.op .mul (.int 5) (.op .pow (.int 10) (.int 8)))))
    (.seq (.ifS (.bnot (.call 48 (.cons (.var 3) (.cons (.var 4) (.cons (.var 6) (.cons (.var 7) (.cons (.var 5) .nil))))))) (.seq (.ret (.bl false))
    .skip) .skip)
    .skip))))
    .skip)))
    (.seq (.ret (.bl true))
    .skip)
def fn_right_5 : Fn := ⟨1, 8, ir_right_5⟩
/-- 50 -/
def ir_law_5 : IR :=
    .seq (.ret (.bi .all (.cons (.comp [1] (.nm 1) .rng (.op .add (.int 1) (.bi .min2 (.cons (.int 2) (.cons (.lenS (.var 0)) .nil)))) .nil .nil (.callT 49 12 (.cons (.var 0) (.cons (.var 1) .nil)))) .nil)))
    .skip
def fn_law_5 : Fn := ⟨1, 2, ir_law_5⟩
/-- 51 -/
def ir_frame_places_2 : IR :=
    .seq (.asgO 3 (.lst .nil))
    (.seq (.forS (.tp (.cons (.nm 4) (.cons (.nm 5) .nil))) .seq (.call 27 (.cons (.var 0) (.cons (.var 1) (.cons (.var 2) .nil)))) .nil (.seq (.expr (.mu .extend 3 (.cons (.lrng (.var 4) (.op .add (.var 5) (.int 1))) .nil)))
    .skip))
    (.seq (.retV 3)
    .skip))
def fn_frame_places_2 : Fn := ⟨3, 6, ir_frame_places_2⟩
/-- 52 -/
def ir_lane_right_3 : IR :=
    .seq (.par [(4, false), (5, false)] (.cons (.lenS (.idx (.var 0) (.int 1))) (.cons (.lst (.cons (.call 16 (.cons (.var 0) .nil)) (.cons (.call 16 (.cons (.var 1) .nil)) .nil))) .nil)))
    (.seq (.asg (.nm 2) (.bi .repr (.cons (.var 5) .nil)))
    (.seq (.forS (.nm 3) .rng (.var 4) .nil (.seq (.asg (.nm 6) (.comp [11] (.nm 11) .rng (.var 4) .nil (.call 21 (.cons (.var 0) (.cons (.var 3) (.cons (.var 11) (.cons (.idx (.var 1) (.int 0)) (.cons (.idx (.var 1) (.int 1)) (.cons (.int 1) .nil))))))) (.var 11)))
    (.seq (.asg (.nm 7) (.comp [11] (.nm 11) .rng (.var 4) .nil (.call 21 (.cons (.var 0) (.cons (.var 3) (.cons (.var 11) (.cons (.idx (.var 1) (.int 0)) (.cons (.idx (.var 1) (.int 2)) (.cons (.neg (.int 1)) .nil))))))) (.var 11)))
    (.seq (.par [(9, false), (10, false)] (.cons (.tup (.cons (.op .sub (.var 4) (.lenS (.var 6))) (.cons (.op .sub (.lenS (.var 7)) (.int 1)) .nil))) (.cons (.call 29 (.cons (.var 0) (.cons (.var 3) (.cons (.var 1) .nil)))) .nil)))
    (.seq (.asgO 8 (.lst (.cons (.call 8 (.cons (.var 0) (.cons (.var 3) (.cons (.var 1) .nil)))) (.cons (.callK 4 (.cons (.idx (.var 5) (.int 1)) (.cons (.var 3) (.cons (.idx (.var 5) (.int 0)) .nil)))) .nil))))
    (.seq (.expr (.mu .append 8 (.cons (.call 8 (.cons (.call 17 (.cons (.var 0) (.cons (.var 3) .nil))) (.cons (.var 3) (.cons (.call 17 (.cons (.var 1) (.cons (.var 3) .nil))) .nil)))) .nil)))
    (.seq (.ifS (.bnot (.call 15 (.cons (.frz 8) (.cons (.op .mul (.lst (.cons (.var 9) .nil)) (.int 3)) .nil)))) (.seq (.ret (.bl false))
    .skip) .skip)
    (.seq (.prb 8 (.call 51 (.cons (.var 0) (.cons (.var 3) (.cons (.var 1) .nil)))) (.cons (.callK 5 (.cons (.idx (.var 5) (.int 1)) (.cons (.var 3) (.cons (.idx (.var 5) (.int 0)) .nil)))) .nil) 15 [10, 10])
    (.seq (.ifS (.bnot (.call 15 (.cons (.call 51 (.cons (.var 0) (.cons (.var 3) (.cons (.var 1) .nil)))) (.cons (.var 10) .nil)))) (.seq (.ret (.bl false))
    .skip) .skip)
    .skip)))))))))
    (.seq (.ret (.cmp .eq (.bi .repr (.cons (.var 5) .nil)) (.var 2)))
    .skip)))
def fn_lane_right_3 : Fn := ⟨2, 12, ir_lane_right_3⟩
/-- 53 -/
def ir_right_6 : IR :=
    .seq (.forS (.nm 1) .rng (.int 3) .nil (.seq (.asg (.tp (.cons (.nm 2) (.cons (.nm 3) .nil))) (.call 18 (.cons (.var 0) (.cons (.int 12) .nil))))
    (.seq (.ifS (.bnot (.bi .all (.cons (.comp [4] (.nm 4) .rng (.int 6) .nil .nil (.call 52 (.cons (.var 2) (.cons (.call 20 (.cons (.var 0) (.cons (.var 3) (.cons (.int 6) .nil)))) .nil)))) .nil))) (.seq (.ret (.bl false))
    .skip) .skip)
    .skip)))
    (.seq (.ret (.bl true))
    .skip)
def fn_right_6 : Fn := ⟨1, 5, ir_right_6⟩
/-- 54 -/
def ir_law_6 : IR :=
    .seq (.ret (.bi .all (.cons (.comp [1] (.nm 1) .rng (.op .add (.int 1) (.bi .min2 (.cons (.int 2) (.cons (.lenS (.var 0)) .nil)))) .nil .nil (.callT 53 12 (.cons (.var 0) (.cons (.var 1) .nil)))) .nil)))
    .skip
def fn_law_6 : Fn := ⟨1, 2, ir_law_6⟩
/-- 55 -/
def ir_common_divisor : IR :=
    .seq (.par [(2, false), (3, false)] (.cons (.var 1) (.cons (.bi .abs (.cons (.var 0) .nil)) .nil)))
    (.seq (.whS (.cmp .gt (.var 3) (.int 0)) (.seq (.par [(2, false), (3, false)] (.cons (.var 3) (.cons (.op .mod (.var 2) (.var 3)) .nil)))
    .skip))
    (.seq (.ret (.var 2))
    .skip))
def fn_common_divisor : Fn := ⟨2, 4, ir_common_divisor⟩
/-- 56 -/
def ir_fraction : IR :=
    .seq (.asg (.nm 2) (.call 55 (.cons (.var 0) (.cons (.var 1) .nil))))
    (.seq (.ret (.tup (.cons (.op .fdiv (.var 0) (.var 2)) (.cons (.op .fdiv (.var 1) (.var 2)) .nil))))
    .skip)
def fn_fraction : Fn := ⟨2, 3, ir_fraction⟩
/-- 57 -/
def ir_tile_of : IR :=
    .seq (.par [(3, false), (4, false)] (.cons (.op .fdiv (.var 2) (.var 0)) (.cons (.op .mod (.var 2) (.var 0)) .nil)))
    (.seq (.ifS (.cmp .lt (.var 1) (.op .mul (.var 4) (.op .add (.var 3) (.int 1)))) (.seq (.ret (.op .add (.op .fdiv (.var 1) (.op .add (.var 3) (.int 1))) (.int 1)))
    .skip) .skip)
    (.seq (.ret (.op .add (.op .add (.var 4) (.op .fdiv (.op .sub (.var 1) (.op .mul (.var 4) (.op .add (.var 3) (.int 1)))) (.var 3))) (.int 1)))
    .skip))
def fn_tile_of : Fn := ⟨3, 5, ir_tile_of⟩
/-- 58 -/
def ir_rank_value : IR :=
    .seq (.ifS (.cmp .eq (.var 0) (.glob 11)) (.seq (.ret (.call 57 (.cons (.idx (.var 1) (.int 0)) (.cons (.idx (.var 2) (.int 0)) (.cons (.idx (.var 2) (.int 1)) .nil)))))
    .skip) .skip)
    (.seq (.ifS (.cmp .eq (.var 0) (.glob 12)) (.seq (.ret (.call 56 (.cons (.idx (.var 2) (.int 0)) (.cons (.bi .max2 (.cons (.int 1) (.cons (.op .sub (.idx (.var 2) (.int 1)) (.int 1)) .nil))) .nil))))
    .skip) .skip)
    (.seq (.ret (.ife (.cmp .eq (.var 0) (.glob 13)) (.call 56 (.cons (.idx (.var 2) (.int 0)) (.cons (.idx (.var 2) (.int 1)) .nil))) (.op .add (.idx (.var 2) (.int 0)) (.int 1))))
    .skip))
def fn_rank_value : Fn := ⟨3, 3, ir_rank_value⟩
/-- 59 -/
def ir_offset_value : IR :=
    .seq (.ifS (.cmp .gt (.lenS (.var 2)) (.int 0)) (.seq (.ret (.idx (.var 2) (.int 0)))
    .skip) .skip)
    (.seq (.ret (.ife (.cmp .isin (.var 0) (.glob 14)) (.idx (.var 1) (.int 2)) .non))
    .skip)
def fn_offset_value : Fn := ⟨3, 3, ir_offset_value⟩
/-- 60 -/
def ir_once_each : IR :=
    .seq (.asgO 1 (.lst .nil))
    (.seq (.forS (.nm 2) .seq (.var 0) .nil (.seq (.ifS (.cmp .notin (.var 2) (.var 1)) (.seq (.expr (.mu .append 1 (.cons (.var 2) .nil)))
    .skip) .skip)
    .skip))
    (.seq (.ret (.frz 1))
    .skip))
def fn_once_each : Fn := ⟨1, 3, ir_once_each⟩
/-- 61 -/
def ir_sum_value : IR :=
    .seq (.ifS (.cmp .eq (.var 0) (.glob 15)) (.seq (.ret (.lenS (.var 1)))
    .skip) .skip)
    (.seq (.ifS (.cmp .eq (.lenS (.var 1)) (.int 0)) (.seq (.ret .non)
    .skip) .skip)
    (.seq (.ifS (.cmp .eq (.var 0) (.glob 16)) (.seq (.ret (.mt .join (.glob 17) (.cons (.var 1) .nil)))
    .skip) .skip)
    (.seq (.ifS (.cmp .eq (.var 0) (.glob 18)) (.seq (.ret (.call 56 (.cons (.bi .sum (.cons (.var 1) .nil)) (.cons (.lenS (.var 1)) .nil))))
    .skip) .skip)
    (.seq (.ifS (.cmp .eq (.var 0) (.glob 19)) (.seq (.ret (.bi .sum (.cons (.var 1) .nil)))
    .skip) .skip)
    (.seq (.ret (.ife (.cmp .eq (.var 0) (.glob 20)) (.bi .minL (.cons (.var 1) .nil)) (.bi .maxL (.cons (.var 1) .nil))))
    .skip)))))
def fn_sum_value : Fn := ⟨2, 2, ir_sum_value⟩
/-- 62 -/
def ir_call_value : IR :=
    .seq (.asg (.tp (.cons (.nm 2) (.cons (.nm 3) .nil))) (.var 0))
    (.seq (.ifS (.cmp .isin (.var 2) (.glob 21)) (.seq (.ret (.call 58 (.cons (.var 2) (.cons (.var 3) (.cons (.var 1) .nil)))))
    .skip) .skip)
    (.seq (.ifS (.cmp .isin (.var 2) (.glob 22)) (.seq (.ret (.call 59 (.cons (.var 2) (.cons (.var 3) (.cons (.var 1) .nil)))))
    .skip) .skip)
    (.seq (.ret (.call 61 (.cons (.var 2) (.cons (.ife (.cmp .gt (.lenS (.var 3)) (.int 1)) (.call 60 (.cons (.var 1) .nil)) (.bi .list (.cons (.var 1) .nil))) .nil))))
    .skip)))
def fn_call_value : Fn := ⟨2, 4, ir_call_value⟩
/-- 63 -/
def ir_box_2 : IR :=
    .seq (.asg (.nm 2) (.ife (.cmp .lt (.var 1) (.lenS (.var 0))) (.idx (.var 0) (.var 1)) (.int 0)))
    (.seq (.retO (.lst (.cons (.op .mul (.bi .abs (.cons (.var 2) .nil)) (.bi .int (.cons (.cmp .ge (.bi .abs (.cons (.var 2) .nil)) (.op .pow (.int 10) (.int 18))) .nil))) (.cons (.op .add (.op .add (.op .mod (.var 2) (.int 2305843009213693951)) (.op .mul (.int 39373) (.var 1))) (.int 71)) (.cons (.int 0) .nil)))))
    .skip)
def fn_box_2 : Fn := ⟨2, 3, ir_box_2⟩
/-- 64 -/
def ir_worth : IR :=
    .seq (.ifS (.cmp .eq (.call 13 (.cons (.var 0) (.cons (.int 5) .nil))) (.int 0)) (.seq (.ret .non)
    .skip) .skip)
    (.seq (.ifS (.cmp .eq (.var 2) (.int 2)) (.seq (.ret (.ife (.cmp .eq (.var 1) (.str "number")) (.call 13 (.cons (.var 0) (.cons (.int 2) .nil))) (.call 14 (.cons (.var 0) (.cons (.lst (.cons (.str "a") (.cons (.str "B") .nil))) .nil)))))
    .skip) .skip)
    (.seq (.ifS (.cmp .eq (.var 1) (.str "text")) (.seq (.ret (.call 14 (.cons (.var 0) (.cons (.lst (.cons (.str "") (.cons (.str "a") (.cons (.str "b") (.cons (.str "B") (.cons (.str "a,") (.cons (.str "ab c") (.cons (.str "~") (.cons (.str "1") (.cons (.str "None") .nil)))))))))) .nil))))
    .skip) .skip)
    (.seq (.ret (.ife (.cmp .eq (.var 2) (.int 0)) (.op .sub (.call 13 (.cons (.var 0) (.cons (.int 4) .nil))) (.int 1)) (.op .sub (.call 13 (.cons (.var 0) (.cons (.op .add (.op .mul (.int 2) (.op .pow (.int 10) (.int 12))) (.int 1)) .nil))) (.op .pow (.int 10) (.int 12)))))
    .skip)))
def fn_worth : Fn := ⟨3, 3, ir_worth⟩
/-- 65 -/
def ir_lowest : IR :=
    .seq (.par [(2, false), (3, false)] (.cons (.var 1) (.cons (.bi .abs (.cons (.var 0) .nil)) .nil)))
    (.seq (.whS (.cmp .gt (.var 3) (.int 0)) (.seq (.par [(2, false), (3, false)] (.cons (.var 3) (.cons (.op .mod (.var 2) (.var 3)) .nil)))
    .skip))
    (.seq (.ret (.tup (.cons (.op .fdiv (.var 0) (.var 2)) (.cons (.op .fdiv (.var 1) (.var 2)) .nil))))
    .skip))
def fn_lowest : Fn := ⟨2, 4, ir_lowest⟩
/-- 66 -/
def ir_value : IR :=
    .seq (.par [(2, false), (3, false)] (.cons (.idx (.var 0) (.int 0)) (.cons (.bi .list (.cons (.var 1) .nil)) .nil)))
    (.seq (.ifS (.cmp .eq (.slc (.idx (.var 0) (.int 1)) (.int 1) .nil) (.tup (.cons (.str "unlike") .nil))) (.seq (.asg (.nm 3) (.comp [4, 5] (.tp (.cons (.nm 4) (.cons (.nm 5) .nil))) .enm (.var 1) .nil (.cmp .notin (.var 5) (.slc (.var 1) .nil (.var 4))) (.var 5)))
    .skip) .skip)
    (.seq (.ifS (.bor (.cmp .eq (.var 2) (.str "count")) (.one (.cmp .eq (.var 3) (.lst .nil)))) (.seq (.ret (.ife (.cmp .eq (.var 2) (.str "count")) (.lenS (.var 3)) .non))
    .skip) .skip)
    (.seq (.ifS (.cmp .eq (.var 2) (.str "joined")) (.seq (.ret (.mt .join (.str ",") (.cons (.var 3) .nil)))
    .skip) .skip)
    (.seq (.ifS (.cmp .isin (.var 2) (.tup (.cons (.str "least") (.cons (.str "most") .nil)))) (.seq (.ret (.ife (.cmp .eq (.var 2) (.str "least")) (.bi .minL (.cons (.var 3) .nil)) (.bi .maxL (.cons (.var 3) .nil))))
    .skip) .skip)
    (.seq (.ret (.ife (.cmp .eq (.var 2) (.str "sum")) (.bi .sum (.cons (.var 3) .nil)) (.call 65 (.cons (.bi .sum (.cons (.var 3) .nil)) (.cons (.lenS (.var 3)) .nil)))))
    .skip)))))
def fn_value : Fn := ⟨2, 6, ir_value⟩
/-- 67 -/
def ir_look : IR :=
    .seq (.asg (.nm 3) (.lst .nil))
    (.seq (.forS (.nm 4) .rng (.call 13 (.cons (.var 0) (.cons (.int 13) .nil))) .nil (.seq (.asg (.nm 5) (.call 64 (.cons (.var 0) (.cons (.var 1) (.cons (.var 2) .nil)))))
    (.seq (.asg (.nm 3) (.op .add (.var 3) (.op .mul (.lst (.cons (.var 5) .nil)) (.bi .int (.cons (.isn true (.var 5)) .nil)))))
    .skip)))
    (.seq (.ret (.bi .tuple (.cons (.op .add (.var 3) (.slc (.var 3) .nil (.call 13 (.cons (.var 0) (.cons (.int 3) .nil))))) .nil)))
    .skip))
def fn_look : Fn := ⟨3, 6, ir_look⟩
/-- 68 -/
def ir_right_7 : IR :=
    .seq (.forS (.nm 1) .rng (.int 4) .nil (.seq (.asg (.nm 2) (.call 14 (.cons (.var 0) (.cons (.lst (.cons (.str "number") (.cons (.str "text") .nil))) .nil))))
    (.seq (.asg (.nm 3) (.call 67 (.cons (.var 0) (.cons (.var 2) (.cons (.call 13 (.cons (.var 0) (.cons (.int 3) .nil))) .nil)))))
    (.seq (.asg (.nm 4) (.bi .repr (.cons (.var 3) .nil)))
    (.seq (.asg (.nm 5) (.op .add (.lst (.cons (.str "count") (.cons (.str "least") (.cons (.str "most") .nil)))) (.ife (.cmp .eq (.var 2) (.str "number")) (.lst (.cons (.str "sum") (.cons (.str "mean") .nil))) (.lst (.cons (.str "joined") .nil)))))
    (.seq (.forS (.nm 6) .seq (.var 5) .nil (.seq (.forS (.nm 8) .seq (.slc (.lst (.cons (.tup (.cons (.str "price") .nil)) (.cons (.tup (.cons (.str "price") (.cons (.str "unlike") .nil))) .nil))) .nil (.op .add (.int 1) (.bi .int (.cons (.cmp .notin (.var 6) (.tup (.cons (.str "least") (.cons (.str "most") .nil)))) .nil)))) .nil (.seq (.asg (.nm 9) (.call 66 (.cons (.tup (.cons (.var 6) (.cons (.var 8) .nil))) (.cons (.var 3) .nil))))
    (.seq (.asg (.nm 10) (.lst (.cons (.call 62 (.cons (.tup (.cons (.var 6) (.cons (.var 8) .nil))) (.cons (.var 3) .nil))) (.cons (.callK 6 (.cons (.bi .list (.cons (.var 3) .nil)) (.cons (.tup (.cons (.var 6) (.cons (.bi .list (.cons (.var 8) .nil)) .nil))) .nil))) .nil))))
    (.seq (.ifS (.bor (.bnot (.call 15 (.cons (.var 10) (.cons (.lst (.cons (.var 9) (.cons (.var 9) .nil))) .nil)))) (.one (.cmp .ne (.bi .repr (.cons (.var 3) .nil)) (.var 4)))) (.seq (.ret (.bl false))
    .skip) .skip)
    .skip))))
    .skip))
    (.seq (.asg (.nm 7) (.call 13 (.cons (.var 0) (.cons (.int 40) .nil))))
    (.seq (.ifS (.bnot (.call 15 (.cons (.lst (.cons (.call 62 (.cons (.tup (.cons (.str "count") (.cons (.tup .nil) .nil))) (.cons (.op .mul (.tup (.cons (.int 1) .nil)) (.var 7)) .nil))) (.cons (.call 62 (.cons (.lst (.cons (.str "count") (.cons (.lst .nil) .nil))) (.cons (.op .mul (.lst (.cons (.int 1) .nil)) (.var 7)) .nil))) .nil))) (.cons (.lst (.cons (.var 7) (.cons (.var 7) .nil))) .nil)))) (.seq (.ret (.bl false))
    .skip) .skip)
    .skip))))))))
    (.seq (.ret (.call 15 (.cons (.lst (.cons (.call 62 (.cons (.tup (.cons (.str "joined") (.cons (.tup (.cons (.str "price") .nil)) .nil))) (.cons (.tup (.cons (.str "a,") (.cons (.str "") (.cons (.str "b") .nil)))) .nil))) (.cons (.call 62 (.cons (.tup (.cons (.str "mean") (.cons (.tup (.cons (.str "price") .nil)) .nil))) (.cons (.tup (.cons (.neg (.int 4)) (.cons (.int 6) .nil))) .nil))) .nil))) (.cons (.lst (.cons (.str "a,,,b") (.cons (.tup (.cons (.int 1) (.cons (.int 1) .nil))) .nil))) .nil))))
    .skip)
def fn_right_7 : Fn := ⟨1, 11, ir_right_7⟩
/-- 69 -/
def ir_law_7 : IR :=
    .seq (.forS (.nm 1) .rng (.op .add (.int 1) (.bi .min2 (.cons (.int 3) (.cons (.lenS (.var 0)) .nil)))) .nil (.seq (.asgO 2 (.call 63 (.cons (.var 0) (.cons (.var 1) .nil))))
    (.seq (.ifS (.bnot (.bi .all (.cons (.comp [3] (.nm 3) .rng (.int 2) .nil .nil (.call 68 (.cons (.var 2) .nil))) .nil))) (.seq (.ret (.bl false))
    .skip) .skip)
    .skip)))
    (.seq (.ret (.bl true))
    .skip)
def fn_law_7 : Fn := ⟨1, 4, ir_law_7⟩
end Ov

set_option maxHeartbeats 0
namespace Ov.k17
open PySem PySem.Spec PyProof.Rows L2 Evl
def top (i : Nat) : Stmt := PySem.Challenge.pw_overrows_k17_bounds_and_places.main.body.getD i (.Pass ⟨0, 0, 0, 0⟩)
def d0 : FD := ⟨"moved", defArgs (top 12), defBody (top 12), defScope (top 12), ["here", "bound"], ["here", "bound"], ir_moved⟩
def d1 : FD := ⟨"first_of", defArgs (top 13), defBody (top 13), defScope (top 13), ["line", "group"], ["line", "group", "places", "place", "entry"], ir_first_of⟩
def d2 : FD := ⟨"last_of", defArgs (top 14), defBody (top 14), defScope (top 14), ["line", "group"], ["line", "group", "places", "place", "entry"], ir_last_of⟩
def d3 : FD := ⟨"heights", defArgs (top 15), defBody (top 15), defScope (top 15), ["line"], ["line", "sign", "place", "entry"], ir_heights⟩
def d4 : FD := ⟨"height_low", defArgs (top 16), defBody (top 16), defScope (top 16), ["line", "place", "bound"], ["line", "place", "bound", "some", "goal", "places", "other", "height"], ir_height_low⟩
def d5 : FD := ⟨"height_high", defArgs (top 17), defBody (top 17), defScope (top 17), ["line", "place", "bound"], ["line", "place", "bound", "some", "goal", "places", "other", "height"], ir_height_high⟩
def d6 : FD := ⟨"low_of", defArgs (top 18), defBody (top 18), defScope (top 18), ["line", "place", "unit", "bound"], ["line", "place", "unit", "bound", "group", "value"], ir_low_of⟩
def d7 : FD := ⟨"high_of", defArgs (top 19), defBody (top 19), defScope (top 19), ["line", "place", "unit", "bound"], ["line", "place", "unit", "bound", "group", "value"], ir_high_of⟩
def d8 : FD := ⟨"bounds", defArgs (top 20), defBody (top 20), defScope (top 20), ["line", "place", "frame"], ["line", "place", "frame"], ir_bounds⟩
def d9 : FD := ⟨"piece", defArgs (top 21), defBody (top 21), defScope (top 21), ["first", "last"], ["first", "last"], ir_piece⟩
def d10 : FD := ⟨"pieces", defArgs (top 22), defBody (top 22), defScope (top 22), ["line", "place", "frame"], ["line", "place", "frame", "own", "low", "high", "first", "last", "group"], ir_pieces⟩
def d27 : FD := ⟨"stretches", defArgs (top 23), defBody (top 23), defScope (top 23), ["line", "place", "frame"], ["line", "place", "frame", "found", "part"], ir_stretches⟩
def d51 : FD := ⟨"frame_places", defArgs (top 24), defBody (top 24), defScope (top 24), ["line", "place", "frame"], ["line", "place", "frame", "found", "first", "last"], ir_frame_places_2⟩
def d11 : FD := ⟨"_law_cell_at", defArgs (top 26), defBody (top 26), defScope (top 26), ["_law_script", "_law_k"], ["_law_script", "_law_k"], ir_cell_at⟩
def d12 : FD := ⟨"_law_box", defArgs (top 27), defBody (top 27), defScope (top 27), ["_law_script", "_law_k"], ["_law_script", "_law_k", "_law_cell"], ir_box⟩
def d13 : FD := ⟨"_law_take", defArgs (top 28), defBody (top 28), defScope (top 28), ["_law_box_here", "_law_below"], ["_law_box_here", "_law_below", "_law_once", "_law_twice", "_law_found"], ir_take⟩
def d14 : FD := ⟨"_law_of", defArgs (top 29), defBody (top 29), defScope (top 29), ["_law_box_here", "_law_some"], ["_law_box_here", "_law_some"], ir_of⟩
def d15 : FD := ⟨"_law_same", defArgs (top 30), defBody (top 30), defScope (top 30), ["_law_found", "_law_due"], ["_law_found", "_law_due", "_law_mine", "_law_its"], ir_same⟩
def d16 : FD := ⟨"_law_lists", defArgs (top 31), defBody (top 31), defScope (top 31), ["_law_matter"], ["_law_matter", "_law_bit"], ir_lists⟩
def d17 : FD := ⟨"_law_half", defArgs (top 32), defBody (top 32), defScope (top 32), ["_law_matter", "_law_level"], ["_law_matter", "_law_level", "_law_parts", "_law_bit"], ir_half⟩
def d18 : FD := ⟨"_law_lane", defArgs (top 33), defBody (top 33), defScope (top 33), ["_law_box_here", "_law_most"], ["_law_box_here", "_law_most", "_law_turn", "_law_bare_so", "_law_sort", "_law_nulls", "_law_found", "_law_group_so", "_law_worth", "_law_sign", "_law_own", "_law_its"], ir_lane⟩
def d19 : FD := ⟨"_law_edge", defArgs (top 34), defBody (top 34), defScope (top 34), ["_law_box_here", "_law_most"], ["_law_box_here", "_law_most"], ir_edge⟩
def d20 : FD := ⟨"_law_shape", defArgs (top 35), defBody (top 35), defScope (top 35), ["_law_box_here", "_law_fits", "_law_most"], ["_law_box_here", "_law_fits", "_law_most", "_law_low", "_law_high", "_law_unit"], ir_shape⟩
def d21 : FD := ⟨"_law_reaches", defArgs (top 36), defBody (top 36), defScope (top 36), ["_law_lane_here", "_law_spot", "_law_at", "_law_unit", "_law_edge_here", "_law_side"], ["_law_lane_here", "_law_spot", "_law_at", "_law_unit", "_law_edge_here", "_law_side", "_law_far", "_law_sign", "_law_mine", "_law_its"], ir_reaches⟩
def d22 : FD := ⟨"_law_full", defArgs (top 37), defBody (top 37), defScope (top 37), ["_law_lane_here", "_law_spot", "_law_shape_here"], ["_law_lane_here", "_law_spot", "_law_shape_here", "_law_some", "_law_at"], ir_full⟩
def d28 : FD := ⟨"_law_out", defArgs (top 38), defBody (top 38), defScope (top 38), ["_law_lane_here", "_law_spot", "_law_shape_here"], ["_law_lane_here", "_law_spot", "_law_shape_here", "_law_peers_so", "_law_at", "_law_own"], ir_out⟩
def d29 : FD := ⟨"_law_frame", defArgs (top 39), defBody (top 39), defScope (top 39), ["_law_lane_here", "_law_spot", "_law_shape_here"], ["_law_lane_here", "_law_spot", "_law_shape_here", "_law_out_here", "_law_at"], ir_frame⟩
def d52 : FD := ⟨"_law_lane_right", defArgs (top 40), defBody (top 40), defScope (top 40), ["_law_lane_here", "_law_shape_here"], ["_law_lane_here", "_law_shape_here", "_law_marks", "_law_spot", "_law_size", "_law_soft", "_law_lows", "_law_highs", "_law_heard", "_law_due", "_law_places_so", "_law_at"], ir_lane_right_3⟩
def d53 : FD := ⟨"_law_right", defArgs (top 41), defBody (top 41), defScope (top 41), ["_law_box_here"], ["_law_box_here", "_law_turn", "_law_lane_here", "_law_fits", "_law_again"], ir_right_6⟩
def d54 : FD := ⟨"law", defArgs (top 42), defBody (top 42), defScope (top 42), ["_law_script"], ["_law_script", "_law_k"], ir_law_6⟩
def P : PD := ⟨[(0, d0), (1, d1), (2, d2), (3, d3), (4, d4), (5, d5), (6, d6), (7, d7), (8, d8), (9, d9), (10, d10), (27, d27), (51, d51), (11, d11), (12, d12), (13, d13), (14, d14), (15, d15), (16, d16), (17, d17), (18, d18), (19, d19), (20, d20), (21, d21), (22, d22), (28, d28), (29, d29), (52, d52), (53, d53), (54, d54)], [(0, "BEFORE", .str "before"), (1, "AFTER", .str "after"), (2, "UP", .str "up"), (3, "START", .str "start"), (4, "ROWS", .str "rows"), (5, "GROUPS", .str "groups"), (6, "HERE", .str "here"), (7, "END", .str "end"), (8, "NOBODY", .str "nobody"), (9, "ROW", .str "row"), (10, "TIES", .str "ties")], ["len", "enumerate", "dict", "min", "max", "tuple", "list", "range", "abs", "int", "isinstance", "bool", "str", "all", "zip", "repr"], 64, [(4, "bounds", ["frame", "place", "line"], 8, [2, 1, 0]), (5, "frame_places", ["frame", "place", "line"], 51, [2, 1, 0])], []⟩
theorem ok : P.ok = true := by decide +kernel
theorem fa_cons {α : Type} {p : α → Prop} {a : α} {l : List α} (h : p a) (r : ∀ q ∈ l, p q) : ∀ q ∈ a :: l, p q := fun q hq => by
  rcases List.mem_cons.mp hq with e | e
  · rw [e]; exact h
  · exact r q e
theorem binds : ∀ q ∈ P.ds, BindOk q.2 :=
  (fa_cons (fun _ _ _ _ _ _ us hl => match us, hl with | [_, _], _ => rfl)
  (fa_cons (fun _ _ _ _ _ _ us hl => match us, hl with | [_, _], _ => rfl)
  (fa_cons (fun _ _ _ _ _ _ us hl => match us, hl with | [_, _], _ => rfl)
  (fa_cons (fun _ _ _ _ _ _ us hl => match us, hl with | [_], _ => rfl)
  (fa_cons (fun _ _ _ _ _ _ us hl => match us, hl with | [_, _, _], _ => rfl)
  (fa_cons (fun _ _ _ _ _ _ us hl => match us, hl with | [_, _, _], _ => rfl)
  (fa_cons (fun _ _ _ _ _ _ us hl => match us, hl with | [_, _, _, _], _ => rfl)
  (fa_cons (fun _ _ _ _ _ _ us hl => match us, hl with | [_, _, _, _], _ => rfl)
  (fa_cons (fun _ _ _ _ _ _ us hl => match us, hl with | [_, _, _], _ => rfl)
  (fa_cons (fun _ _ _ _ _ _ us hl => match us, hl with | [_, _], _ => rfl)
  (fa_cons (fun _ _ _ _ _ _ us hl => match us, hl with | [_, _, _], _ => rfl)
  (fa_cons (fun _ _ _ _ _ _ us hl => match us, hl with | [_, _, _], _ => rfl)
  (fa_cons (fun _ _ _ _ _ _ us hl => match us, hl with | [_, _, _], _ => rfl)
  (fa_cons (fun _ _ _ _ _ _ us hl => match us, hl with | [_, _], _ => rfl)
  (fa_cons (fun _ _ _ _ _ _ us hl => match us, hl with | [_, _], _ => rfl)
  (fa_cons (fun _ _ _ _ _ _ us hl => match us, hl with | [_, _], _ => rfl)
  (fa_cons (fun _ _ _ _ _ _ us hl => match us, hl with | [_, _], _ => rfl)
  (fa_cons (fun _ _ _ _ _ _ us hl => match us, hl with | [_, _], _ => rfl)
  (fa_cons (fun _ _ _ _ _ _ us hl => match us, hl with | [_], _ => rfl)
  (fa_cons (fun _ _ _ _ _ _ us hl => match us, hl with | [_, _], _ => rfl)
  (fa_cons (fun _ _ _ _ _ _ us hl => match us, hl with | [_, _], _ => rfl)
  (fa_cons (fun _ _ _ _ _ _ us hl => match us, hl with | [_, _], _ => rfl)
  (fa_cons (fun _ _ _ _ _ _ us hl => match us, hl with | [_, _, _], _ => rfl)
  (fa_cons (fun _ _ _ _ _ _ us hl => match us, hl with | [_, _, _, _, _, _], _ => rfl)
  (fa_cons (fun _ _ _ _ _ _ us hl => match us, hl with | [_, _, _], _ => rfl)
  (fa_cons (fun _ _ _ _ _ _ us hl => match us, hl with | [_, _, _], _ => rfl)
  (fa_cons (fun _ _ _ _ _ _ us hl => match us, hl with | [_, _, _], _ => rfl)
  (fa_cons (fun _ _ _ _ _ _ us hl => match us, hl with | [_, _], _ => rfl)
  (fa_cons (fun _ _ _ _ _ _ us hl => match us, hl with | [_], _ => rfl)
  (fa_cons (fun _ _ _ _ _ _ us hl => match us, hl with | [_], _ => rfl)
  (fun _ h => nomatch h)))))))))))))))))))))))))))))))
theorem shs : ∀ q ∈ P.sh, ShOk P q.2 :=
  (fa_cons ⟨d8, rfl, rfl, rfl, fun _ _ _ _ _ _ us hl => match us, hl with | [_, _, _], _ => rfl⟩
  (fa_cons ⟨d51, rfl, rfl, rfl, fun _ _ _ _ _ _ us hl => match us, hl with | [_, _, _], _ => rfl⟩
  (fun _ h => nomatch h)))
abbrev R : PySem.W.OpenRow := PySem.W.OpenLaw.row PySem.Challenge.rw_overrows_k17_bounds_and_places
abbrev hk : PySem.W.Hook := hookO 4 P
def ob (s : PySem.W.SharedT) : AlO := obsO 4 P (HandSHeadRun.getT s)
theorem ob_eq (s : PySem.W.SharedT) : ob s = hk.obs s.abs := obsO_eq (HandSHeadRun.getT_eq s)
def loose0 : List Str := ["ROWS", "GROUPS", "START", "BEFORE", "HERE", "AFTER", "END", "NOBODY", "ROW", "TIES", "UP", "moved", "first_of", "last_of", "heights", "height_low", "height_high", "low_of", "high_of", "bounds"]
def loose1 : List Str := ["piece", "pieces", "stretches", "frame_places", "_law_cell_at", "_law_box", "_law_take", "_law_of", "_law_same", "_law_lists", "_law_half", "_law_lane", "_law_edge", "_law_shape", "_law_reaches", "_law_full", "_law_out", "_law_frame", "_law_lane_right", "_law_right"]
abbrev loose : List Str := loose0 ++ loose1
theorem run (w : World) : HandSHeadRun.RunEq R (PySem.W.view R.prog [42]) hk ob 4000 loose w := by
  intro os
  kernel_rfl
end Ov.k17

set_option maxHeartbeats 4000000
namespace Ov
open PySem
/-! ### what an option gives -/
def W0 {α : Type} (o : Option α) (Q : α → Prop) : Prop := ∃ x, o = some x ∧ Q x
theorem W_some0 {α : Type} {x : α} {Q : α → Prop} : W0 (some x) Q = Q x := by
  apply propext; constructor
  · rintro ⟨y, h, q⟩; cases h; exact q
  · intro q; exact ⟨x, rfl, q⟩
theorem W_pure0 {α : Type} {x : α} {Q : α → Prop} : W0 (pure x) Q = Q x := W_some0
theorem W_none0 {α : Type} {Q : α → Prop} : W0 none Q = False := by
  apply propext; constructor
  · rintro ⟨y, h, q⟩; cases h
  · intro q; exact q.elim
theorem W_bind0 {α β : Type} {o : Option α} {f : α → Option β} {Q : β → Prop} : W0 (o >>= f) Q = W0 o (fun x => W0 (f x) Q) := by
  apply propext; constructor
  · rintro ⟨y, h, q⟩
    cases o with
    | none => cases h
    | some x => exact ⟨x, rfl, y, h, q⟩
  · rintro ⟨x, rfl, y, h, q⟩
    exact ⟨y, h, q⟩
theorem W_bind0' {α β : Type} {o : Option α} {f : α → Option β} {Q : β → Prop} : W0 (o.bind f) Q = W0 o (fun x => W0 (f x) Q) := W_bind0
theorem W_map0 {α β : Type} {o : Option α} {f : α → β} {Q : β → Prop} : W0 (o.map f) Q = W0 o (fun x => Q (f x)) := by
  cases o with
  | none => simp [W_none0]
  | some x => simp [W_some0]
theorem W_ite0 {α : Type} {c : Prop} [Decidable c] {a b : Option α} {Q : α → Prop} : W0 (if c then a else b) Q = if c then W0 a Q else W0 b Q := by
  split <;> rfl
theorem W_mono0 {α : Type} {o : Option α} {Q Q' : α → Prop} (h : W0 o Q) (i : ∀ x, Q x → Q' x) : W0 o Q' := by
  obtain ⟨x, h, q⟩ := h; exact ⟨x, h, i x q⟩
theorem W_of0 {α : Type} {o : Option α} {x : α} {Q : α → Prop} (h : o = some x) (q : Q x) : W0 o Q := ⟨x, h, q⟩
theorem W_eq0 {α : Type} {o : Option α} {x : α} (h : W0 o (fun y => y = x)) : o = some x := by
  obtain ⟨y, h, rfl⟩ := h; exact h
/-! ### a call -/
def Cf (T : Prg) (k : Nat) : Cfg := { cf := ev T k, gd := T.gd, sh := T.sh, dd := T.dd }
theorem ev_succ {T : Prg} {k f : Nat} {fn : Fn} {as : List EV} (h : T.fns f = some fn) : ev T (k + 1) f as = runFn (Cf T k) T.w fn as := by
  show (T.fns f >>= fun fn => runFn (Cf T k) T.w fn as) = _
  rw [h]; rfl
def outOf (np : Nat) : Out → Option (EV × List EV)
  | .ret v ρ => some (v, (ρ.take np).map fun o => o.getD (.d .non))
  | .nx ρ => some (.d .non, (ρ.take np).map fun o => o.getD (.d .non))
  | _ => none
theorem runFn_eq {G : Cfg} {w : Nat} {fn : Fn} {as : List EV} (h : as.length = fn.np) : runFn G w fn as = (evS G w fn.body (as.map some ++ List.replicate (fn.n - fn.np) none) >>= outOf fn.np) := by
  unfold runFn
  rw [if_pos h]
  rfl
/-- into a def -/
theorem W_call0 {T : Prg} {k f np n : Nat} {ir : IR} {as : List EV} {Q : EV × List EV → Prop} (h : T.fns f = some ⟨np, n, ir⟩) (hk : 1 ≤ k) (hl : as.length = np)
    (q : ∀ j, k = j + 1 → W0 (evS (Cf T j) T.w ir (as.map some ++ List.replicate (n - np) none)) (fun o => W0 (outOf np o) Q)) : W0 (ev T k f as) Q := by
  obtain ⟨j, rfl⟩ : ∃ j, k = j + 1 := ⟨k - 1, by omega⟩
  rw [ev_succ h, runFn_eq hl, W_bind0]
  exact q j rfl
theorem Cf_cf {T : Prg} {k : Nat} : (Cf T k).cf = ev T k := rfl
theorem Cf_gd {T : Prg} {k : Nat} : (Cf T k).gd = T.gd := rfl
theorem Cf_sh {T : Prg} {k : Nat} : (Cf T k).sh = T.sh := rfl
theorem Cf_dd {T : Prg} {k : Nat} : (Cf T k).dd = T.dd := (rfl)
/-! ### comprehensions -/
def turnC (G : Cfg) (p : Pat) (c e : IR) (x : D) (ρ : Slots) : Option (Option D × Slots) := do
  let ρa ← Pat.bind p x ρ
  let (b, ρb) ← (match c with
    | .nil => some (true, ρa)
    | c => do let (vc, ρ') ← evE G c ρa; let y ← vc.pure?; let q ← asBool y; pure (q, ρ'))
  if b then do
    let (vy, ρc) ← evE G e ρb
    let y ← vy.pure?
    pure (some y, ρc)
  else pure (none, ρb)
theorem compGo_inv {body : D → Slots → Option (Option D × Slots)} {I : Slots → Prop} {f : D → Option D} : ∀ {xs : List D}, (∀ x ∈ xs, ∀ ρ, I ρ → ∃ ρ', body x ρ = some (f x, ρ') ∧ I ρ') → ∀ ρ, I ρ → ∃ ρ', compGo body xs ρ = some (xs.filterMap f, ρ') ∧ I ρ'
  | [], _, ρ, h => ⟨ρ, rfl, h⟩
  | x :: xs, hb, ρ, h => by
    obtain ⟨ρ1, h1, i1⟩ := hb x (List.mem_cons_self ..) ρ h
    obtain ⟨ρ2, h2, i2⟩ := compGo_inv (fun y hy => hb y (List.mem_cons_of_mem _ hy)) ρ1 i1
    refine ⟨ρ2, ?_, i2⟩
    simp only [compGo, h1, Option.bind_eq_bind, Option.bind_some, h2]
    rw [List.filterMap_cons]
    cases f x <;> rfl
theorem restore_wipe {ρ1 ρ2 : Slots} : ∀ {vs : List Nat}, (∀ v ∈ vs, v < ρ1.length) → wipeE ρ2 vs = wipeE ρ1 vs → restore ρ1 ρ2 vs = ρ1 := by
  intro vs hv h
  have hlen : ∀ (ρ : Slots) (vs : List Nat), (wipeE ρ vs).length = ρ.length := fun ρ vs => by
    induction vs with
    | nil => rfl
    | cons v vs ih => simp [wipeE, ih]
  have hlr : ∀ (vs : List Nat), (restore ρ1 ρ2 vs).length = ρ2.length := fun vs => by
    induction vs with
    | nil => rfl
    | cons v vs ih => simp [restore, ih]
  have hl : ρ2.length = ρ1.length := by rw [← hlen ρ2 vs, h, hlen]
  have w : ∀ (ρ : Slots) (vs : List Nat) (i : Nat), i ∉ vs → (wipeE ρ vs)[i]? = ρ[i]? := fun ρ vs i hi => by
    induction vs with
    | nil => rfl
    | cons v vs ih =>
      simp only [List.mem_cons, not_or] at hi
      simp only [wipeE]
      rw [List.getElem?_set_ne (Ne.symm hi.1)]
      exact ih hi.2
  have r : ∀ (vs : List Nat) (i : Nat), i ∉ vs → (restore ρ1 ρ2 vs)[i]? = ρ2[i]? := fun vs i hi => by
    induction vs with
    | nil => rfl
    | cons v vs ih =>
      simp only [List.mem_cons, not_or] at hi
      simp only [restore]
      rw [List.getElem?_set_ne (Ne.symm hi.1)]
      exact ih hi.2
  have r2 : ∀ (vs : List Nat) (i : Nat), i ∈ vs → i < ρ1.length → (restore ρ1 ρ2 vs)[i]? = ρ1[i]? := fun vs i hi hlt => by
    induction vs with
    | nil => cases hi
    | cons v vs ih =>
      simp only [restore]
      by_cases e : i = v
      · subst e
        rw [List.getElem?_set_self (by rw [hlr, hl]; exact hlt)]
        rw [List.getElem?_eq_getElem hlt]; rfl
      · rw [List.getElem?_set_ne (Ne.symm e)]
        exact ih (by rcases List.mem_cons.mp hi with q | q; exact absurd q e; exact q)
  apply List.ext_getElem?
  intro i
  by_cases hi : i ∈ vs
  · exact r2 vs i hi (hv i hi)
  · rw [r vs i hi, ← w ρ2 vs i hi, h, w ρ1 vs i hi]
theorem evE_cmpr {G : Cfg} {vs : List Nat} {p : Pat} {k : ItK} {a b c e : IR} {ρ0 ρ : Slots} {xs : List D} {f : D → Option D} (hit : itGo k (evE G a ρ0) (evE G b) = some (xs, ρ)) (ho : (vs.any fun v => isOwn ρ[v]?) = false)
    (hv : ∀ v ∈ vs, v < ρ.length) (ht : ∀ x ∈ xs, W0 (turnC G p c e x (wipeE ρ vs)) (fun r => r.1 = f x ∧ wipeE r.2 vs = wipeE ρ vs)) : evE G (.comp vs p k a b c e) ρ0 = some (.d (.lst (xs.filterMap f)), ρ) := by
  unfold evE
  rw [hit]
  show (if (vs.any fun v => isOwn ρ[v]?) = true then none else _) = _
  rw [if_neg (by rw [ho]; decide)]
  obtain ⟨ρ2, h2, i2⟩ := compGo_inv (body := fun x ρ => turnC G p c e x (wipeE ρ vs)) (I := fun ρ' => wipeE ρ' vs = wipeE ρ vs) (f := f) (xs := xs) (fun x hx ρ' hi => by
    obtain ⟨⟨y, ρ3⟩, h3, h4, h5⟩ := ht x hx
    refine ⟨ρ3, ?_, h5⟩
    show turnC G p c e x (wipeE ρ' vs) = _
    rw [hi, h3]; exact congrArg (fun z => some (z, ρ3)) h4) ρ rfl
  refine (congrArg (fun z => z >>= _) (?_ : compGo _ xs ρ = some (xs.filterMap f, ρ2))).trans ?_
  · rw [← h2]; congr 1
  show some (_, restore ρ ρ2 vs) = _
  rw [restore_wipe hv i2]
/-- .. with effects on the slots: an invariant -/
theorem compGo_all {body : D → Slots → Option (Option D × Slots)} {I : List D → List D → Slots → Prop} : ∀ {xs : List D} (pre : List D) (acc : List D), (∀ pre x post acc ρ, pre ++ x :: post = pre ++ x :: post → I pre acc ρ → W0 (body x ρ) (fun r => I (pre ++ [x]) (acc ++ r.1.toList) r.2)) →
    ∀ ρ, I pre acc ρ → W0 (compGo body xs ρ) (fun r => I (pre ++ xs) (acc ++ r.1) r.2)
  | [], pre, acc, _, ρ, h => ⟨([], ρ), rfl, by simpa using h⟩
  | x :: xs, pre, acc, hb, ρ, h => by
    obtain ⟨⟨y, ρ1⟩, h1, i1⟩ := hb pre x xs acc ρ rfl h
    obtain ⟨⟨ys, ρ2⟩, h2, i2⟩ := compGo_all (xs := xs) (pre ++ [x]) (acc ++ y.toList) hb ρ1 i1
    refine ⟨(y.toList ++ ys, ρ2), ?_, ?_⟩
    · simp only [compGo, h1, Option.bind_eq_bind, Option.bind_some, h2]
      cases y <;> rfl
    · simpa using i2
/-! ### loops -/
theorem forGo_inv {body : D → Slots → Option Out} {I : Nat → Slots → Prop} {xs : List D} {Q : Out → Prop} (ρ : Slots) (h0 : I 0 ρ)
    (hs : ∀ (i : Nat) x ρ, xs[i]? = some x → I i ρ → W0 (body x ρ) (fun o => match o with
      | .nx ρ1 => I (i + 1) ρ1
      | .ct ρ1 => I (i + 1) ρ1
      | .brk ρ1 => Q (.nx ρ1)
      | .ret v ρ1 => Q (.ret v ρ1))) (hd : ∀ ρ, I xs.length ρ → Q (.nx ρ)) : W0 (forGo body xs ρ) Q := by
  have key : ∀ (ys : List D) (pre : List D) (ρ : Slots), pre ++ ys = xs → I pre.length ρ → W0 (forGo body ys ρ) Q := by
    intro ys
    induction ys with
    | nil =>
      intro pre ρ e h
      simp only [List.append_nil] at e
      subst e
      exact ⟨_, rfl, hd ρ h⟩
    | cons y ys ih =>
      intro pre ρ e h
      obtain ⟨o, h1, h2⟩ := hs pre.length y ρ (by rw [← e]; simp) h
      unfold forGo
      rw [h1]
      cases o with
      | nx ρ1 => exact ih (pre ++ [y]) ρ1 (by simp [e]) (by simpa using h2)
      | ct ρ1 => exact ih (pre ++ [y]) ρ1 (by simp [e]) (by simpa using h2)
      | brk ρ1 => exact ⟨_, rfl, h2⟩
      | ret v ρ1 => exact ⟨_, rfl, h2⟩
  exact key xs [] ρ rfl h0
theorem whGo_inv {test : Slots → Option (Bool × Slots)} {body : Slots → Option Out} {Q : Out → Prop} {I : Slots → Prop} (μ : Slots → Nat) : ∀ (n : Nat) (ρ : Slots), μ ρ < n → I ρ →
    (∀ ρ, I ρ → W0 (test ρ) (fun r => if r.1 = true then W0 (body r.2) (fun o => match o with
      | .nx ρ1 => I ρ1 ∧ μ ρ1 < μ ρ
      | .ct ρ1 => I ρ1 ∧ μ ρ1 < μ ρ
      | .brk ρ1 => Q (.nx ρ1)
      | .ret v ρ1 => Q (.ret v ρ1)) else Q (.nx r.2))) → W0 (whGo test body n ρ) Q
  | 0, ρ, h, _, _ => absurd h (Nat.not_lt_zero _)
  | n + 1, ρ, h, hi, hs => by
    obtain ⟨⟨b, ρ1⟩, h1, h2⟩ := hs ρ hi
    unfold whGo
    rw [h1]
    cases b with
    | false => exact ⟨_, rfl, by simpa using h2⟩
    | true =>
      simp only [if_true] at h2
      obtain ⟨o, h3, h4⟩ := h2
      show W0 (body ρ1 >>= _) Q
      rw [h3]
      cases o with
      | nx ρ2 => exact whGo_inv μ n ρ2 (by have := h4.2; omega) h4.1 hs
      | ct ρ2 => exact whGo_inv μ n ρ2 (by have := h4.2; omega) h4.1 hs
      | brk ρ2 => exact ⟨_, rfl, h4⟩
      | ret v ρ2 => exact ⟨_, rfl, h4⟩
end Ov

set_option maxHeartbeats 4000000
namespace Ov
open PySem
/-! ### the evaluator, by what is wanted of its end -/
section
variable {G : Cfg} {w : Nat}
def wE0 (G : Cfg) (e : IR) (ρ : Slots) (Q : Vl → Slots → Prop) : Prop := W0 (evE G e ρ) (fun r => Q r.1 r.2)
def wL0 (G : Cfg) (e : IR) (ρ : Slots) (Q : List Vl → Slots → Prop) : Prop := W0 (evL G e ρ) (fun r => Q r.1 r.2)
def wO0 (G : Cfg) (e : IR) (ρ : Slots) (Q : List D → Slots → Prop) : Prop := W0 (evO G e ρ) (fun r => Q r.1 r.2)
def wP0 (G : Cfg) (fs : List (Nat × Bool)) (e : IR) (ρ : Slots) (Q : List EV → Slots → Prop) : Prop := W0 (evP G fs e ρ) (fun r => Q r.1 r.2)
def wT0 (G : Cfg) (e : IR) (ρ : Slots) (Q : Bool → Slots → Prop) : Prop := W0 (evT G e ρ) (fun r => Q r.1 r.2)
def wI0 (G : Cfg) (k : ItK) (a b : IR) (ρ : Slots) (Q : List D → Slots → Prop) : Prop := W0 (itGo k (evE G a ρ) (evE G b)) (fun r => Q r.1 r.2)
def wS0 (G : Cfg) (w : Nat) (e : IR) (ρ : Slots) (Q : Out → Prop) : Prop := W0 (evS G w e ρ) Q
/-- a slot read -/
def wv0 (i : Nat) (o : Option (Option EV)) (Q : Vl → Prop) : Prop := match o with
  | some (some (.d x)) => Q (.d x)
  | some (some (.own _ _)) => Q (.slot i)
  | some (some (.scr _)) => Q (.slot i)
  | _ => False
theorem wv_d0 {i : Nat} {x : D} {Q : Vl → Prop} : wv0 i (some (some (.d x))) Q = Q (.d x) := rfl
theorem wv_own0 {i : Nat} {b : Bool} {x : List D} {Q : Vl → Prop} : wv0 i (some (some (.own b x))) Q = Q (.slot i) := rfl
theorem wv_scr0 {i : Nat} {x : List Int} {Q : Vl → Prop} : wv0 i (some (some (.scr x))) Q = Q (.slot i) := rfl
def ownF0 (o : Option (Option EV)) (Q : List D → Prop) : Prop := match o with
  | some (some (.own false xs)) => Q xs
  | _ => False
def ownA0 (o : Option (Option EV)) (Q : Bool → List D → Prop) : Prop := match o with
  | some (some (.own b xs)) => Q b xs
  | _ => False
theorem ownF_own0 {x : List D} {Q : List D → Prop} : ownF0 (some (some (.own false x))) Q = Q x := rfl
theorem ownA_own0 {b : Bool} {x : List D} {Q : Bool → List D → Prop} : ownA0 (some (some (.own b x))) Q = Q b x := rfl
theorem wE_var0 {i : Nat} {ρ : Slots} {Q : Vl → Slots → Prop} : wE0 G (.var i) ρ Q = wv0 i ρ[i]? (fun v => Q v ρ) := by
  unfold wE0 evE wv0
  split <;> simp_all [W_some0, W_none0]
theorem wE_glob0 {g : Nat} {ρ : Slots} {Q : Vl → Slots → Prop} : wE0 G (.glob g) ρ Q = W0 (G.gd g) (fun x => Q (.d x) ρ) := by
  simp only [wE0, evE, W_bind0, W_pure0]
theorem wE_int0 {n : Int} {ρ : Slots} {Q : Vl → Slots → Prop} : wE0 G (.int n) ρ Q = Q (.d (.int n)) ρ := by simp only [wE0, evE, W_some0]
theorem wE_str0 {n : Str} {ρ : Slots} {Q : Vl → Slots → Prop} : wE0 G (.str n) ρ Q = Q (.d (.str n)) ρ := by simp only [wE0, evE, W_some0]
theorem wE_bl0 {n : Bool} {ρ : Slots} {Q : Vl → Slots → Prop} : wE0 G (.bl n) ρ Q = Q (.d (.bl n)) ρ := by simp only [wE0, evE, W_some0]
theorem wE_non0 {ρ : Slots} {Q : Vl → Slots → Prop} : wE0 G .non ρ Q = Q (.d .non) ρ := by simp only [wE0, evE, W_some0]
theorem wE_op0 {o : BOp} {a b : IR} {ρ : Slots} {Q : Vl → Slots → Prop} : wE0 G (.op o a b) ρ Q = wE0 G a ρ (fun va ρ1 => wE0 G b ρ1 (fun vb ρ2 => W0 (va.look ρ2) (fun x => W0 (vb.look ρ2) (fun y => W0 (opD o x y) (fun z => Q (.d z) ρ2))))) := by
  simp only [wE0, evE, W_bind0, W_pure0]
theorem wE_neg0 {a : IR} {ρ : Slots} {Q : Vl → Slots → Prop} : wE0 G (.neg a) ρ Q = wE0 G a ρ (fun va ρ1 => W0 (va.look ρ1) (fun x => W0 (asInt x) (fun i => Q (.d (.int (-i))) ρ1))) := by
  simp only [wE0, evE, W_bind0, W_pure0]
theorem wE_cmp0 {o : COp} {a b : IR} {ρ : Slots} {Q : Vl → Slots → Prop} : wE0 G (.cmp o a b) ρ Q = wE0 G a ρ (fun va ρ1 => wE0 G b ρ1 (fun vb ρ2 => W0 (va.look ρ2) (fun x => W0 (vb.look ρ2) (fun y => W0 (cmpD o x y) (fun z => Q (.d (.bl z)) ρ2))))) := by
  simp only [wE0, evE, W_bind0, W_pure0]
theorem wE_chain0 {o o' : COp} {a b c : IR} {ρ : Slots} {Q : Vl → Slots → Prop} : wE0 G (.chain o o' a b c) ρ Q = wE0 G a ρ (fun va ρ1 => wE0 G b ρ1 (fun vb ρ2 => W0 (va.look ρ2) (fun x => W0 (vb.look ρ2) (fun y => W0 (cmpD o x y) (fun z =>
    if z = true then wE0 G c ρ2 (fun vc ρ3 => W0 (vb.look ρ3) (fun y' => W0 (vc.look ρ3) (fun u => W0 (cmpD o' y' u) (fun z' => Q (.d (.bl z')) ρ3)))) else Q (.d (.bl false)) ρ2))))) := by
  simp only [wE0, evE, W_bind0, W_pure0, W_ite0]
def isnD (ng : Bool) : D → Bool
  | .non => !ng
  | _ => ng
theorem wE_stp0 {a s : IR} {ρ : Slots} {Q : Vl → Slots → Prop} : wE0 G (.stp a s) ρ Q = wE0 G a ρ (fun va ρ1 => wE0 G s ρ1 (fun vs ρ2 => W0 (vs.look ρ2) (fun y => W0 (asInt y) (fun k => W0 (va.lookS ρ2) (fun x => W0 (stpD x k) (fun z => Q (.d z) ρ2)))))) := by
  simp only [wE0, evE, W_bind0, W_pure0]
theorem wE_isb0 {ng : Bool} {a : IR} {b : Bool} {ρ : Slots} {Q : Vl → Slots → Prop} : wE0 G (.isb ng a b) ρ Q = wE0 G a ρ (fun va ρ1 => W0 (va.look ρ1) (fun x => W0 (isbD x b) (fun r => Q (.d (.bl (if ng then !r else r))) ρ1))) := by
  simp only [wE0, evE, W_bind0, W_pure0]
theorem wE_isn0 {ng : Bool} {a : IR} {ρ : Slots} {Q : Vl → Slots → Prop} : wE0 G (.isn ng a) ρ Q = wE0 G a ρ (fun va ρ1 => W0 (va.look ρ1) (fun x => Q (.d (.bl (isnD ng x))) ρ1)) := by
  simp only [wE0, evE, W_bind0, W_pure0]
  rfl
theorem wE_one0 {a : IR} {ρ : Slots} {Q : Vl → Slots → Prop} : wE0 G (.one a) ρ Q = wE0 G a ρ Q := by simp only [wE0, evE]
theorem wE_band0 {a b : IR} {ρ : Slots} {Q : Vl → Slots → Prop} : wE0 G (.band a b) ρ Q = wE0 G a ρ (fun va ρ1 => W0 va.pure? (fun x => W0 (asBool x) (fun p => if p = true then wE0 G b ρ1 Q else Q (.d (.bl false)) ρ1))) := by
  simp only [wE0, evE, W_bind0, W_pure0, W_ite0]
theorem wE_bor0 {a b : IR} {ρ : Slots} {Q : Vl → Slots → Prop} : wE0 G (.bor a b) ρ Q = wE0 G a ρ (fun va ρ1 => W0 va.pure? (fun x => W0 (asBool x) (fun p => if p = true then Q (.d (.bl true)) ρ1 else wE0 G b ρ1 Q))) := by
  simp only [wE0, evE, W_bind0, W_pure0, W_ite0]
theorem wE_bnot0 {a : IR} {ρ : Slots} {Q : Vl → Slots → Prop} : wE0 G (.bnot a) ρ Q = wE0 G a ρ (fun va ρ1 => W0 va.pure? (fun x => W0 (asBool x) (fun p => Q (.d (.bl (!p))) ρ1))) := by
  simp only [wE0, evE, W_bind0, W_pure0]
theorem wE_ife0 {c a b : IR} {ρ : Slots} {Q : Vl → Slots → Prop} : wE0 G (.ife c a b) ρ Q = wE0 G c ρ (fun va ρ1 => W0 va.pure? (fun x => W0 (asBool x) (fun p => if p = true then wE0 G a ρ1 Q else wE0 G b ρ1 Q))) := by
  simp only [wE0, evE, W_bind0, W_pure0, W_ite0]
theorem wE_tup0 {es : IR} {ρ : Slots} {Q : Vl → Slots → Prop} : wE0 G (.tup es) ρ Q = wL0 G es ρ (fun vs ρ1 => W0 (pures vs) (fun xs => if xs.length ≤ sizeLine then Q (.d (.tup xs)) ρ1 else False)) := by
  simp only [wE0, wL0, evE, W_bind0, W_pure0, W_ite0, W_none0]
theorem wE_lst0 {es : IR} {ρ : Slots} {Q : Vl → Slots → Prop} : wE0 G (.lst es) ρ Q = wL0 G es ρ (fun vs ρ1 => W0 (pures vs) (fun xs => if xs.length ≤ sizeLine then Q (.d (.lst xs)) ρ1 else False)) := by
  simp only [wE0, wL0, evE, W_bind0, W_pure0, W_ite0, W_none0]
/-- x[n] -/
def ixD (x : D) (n : Int) : Option D := match x with
  | .lst xs => atD xs n
  | .tup xs => atD xs n
  | .str s => if s.length ≤ sizeLine then (do
      let j ← ixN' s.length n
      let c ← s.cps[j]?
      pure (.str ⟨#[c]⟩)) else none
  | _ => none
theorem wE_idx0 {a i : IR} {ρ : Slots} {Q : Vl → Slots → Prop} : wE0 G (.idx a i) ρ Q = wE0 G a ρ (fun va ρ1 => wE0 G i ρ1 (fun vi ρ2 => W0 (va.lookS ρ2) (fun x => W0 (vi.look ρ2) (fun y => W0 (asInt y) (fun n => W0 (ixD x n) (fun z => Q (.d z) ρ2)))))) := by
  simp only [wE0, evE, W_bind0, W_pure0]
  congr 1; funext x; congr 1; funext y; congr 1; funext z; congr 1; funext u; congr 1; funext n
  unfold ixD
  cases z <;> simp only [W_bind0, W_pure0, W_none0, W_ite0]
def partW0 (G : Cfg) (e : IR) (ρ : Slots) (Q : Option Int → Slots → Prop) : Prop := match e with
  | .nil => Q none ρ
  | e => wE0 G e ρ (fun v ρ' => W0 (partD ρ' v) (fun p => Q p ρ'))
def slcD (x : D) (l h : Option Int) : Option D := match x with
  | .lst xs => some (.lst (cutD xs l h))
  | .tup xs => some (.tup (cutD xs l h))
  | _ => none
def evPtX (G : Cfg) (e : IR) (ρ : Slots) : Option (Option Int × Slots) := match e with
  | .nil => some (none, ρ)
  | e => do let (v, ρ') ← evE G e ρ; let p ← partD ρ' v; pure (p, ρ')
theorem evE_slc {a lo hi : IR} {ρ : Slots} : evE G (.slc a lo hi) ρ = (evE G a ρ >>= fun r => evPtX G lo r.2 >>= fun l => evPtX G hi l.2 >>= fun h => r.1.lookS h.2 >>= fun x => match x with
    | .lst xs => pure (.d (.lst (cutD xs l.1 h.1)), h.2)
    | .tup xs => pure (.d (.tup (cutD xs l.1 h.1)), h.2)
    | _ => none) := by
  rw [evE]; rfl
theorem wPt0 {e : IR} {ρ : Slots} {Q : Option Int → Slots → Prop} : W0 (evPtX G e ρ) (fun r => Q r.1 r.2) = partW0 G e ρ Q := by
  unfold evPtX partW0
  cases e <;> simp only [W_some0, W_bind0, W_pure0, wE0]
theorem wE_slc0 {a lo hi : IR} {ρ : Slots} {Q : Vl → Slots → Prop} : wE0 G (.slc a lo hi) ρ Q = wE0 G a ρ (fun va ρ1 => partW0 G lo ρ1 (fun l ρ2 => partW0 G hi ρ2 (fun h ρ3 => W0 (va.lookS ρ3) (fun x => W0 (slcD x l h) (fun z => Q (.d z) ρ3))))) := by
  unfold wE0
  rw [evE_slc, W_bind0]
  congr 1; funext r
  dsimp only
  rw [← wPt0, W_bind0]
  congr 1; funext l
  rw [← wPt0, W_bind0]
  congr 1; funext h
  rw [W_bind0]
  congr 1; funext x
  unfold slcD
  cases x <;> simp only [W_pure0, W_some0, W_none0]
/-- a call's end -/
def wC0 (G : Cfg) (f : Nat) (vs : List Vl) (ρ : Slots) (Q : EV → Slots → Prop) : Prop := W0 (argsOf ρ vs) (fun as => if (slotsOf vs).Nodup then W0 (G.cf f as) (fun r => Q r.1 (putBack ρ vs r.2)) else False)
theorem wC_eq0 {f : Nat} {vs : List Vl} {ρ : Slots} {Q : EV → Slots → Prop} : W0 (callD G f vs ρ) (fun r => Q r.1 r.2) = wC0 G f vs ρ Q := by
  simp only [callD, wC0, W_bind0, W_pure0, W_ite0, W_none0]
theorem wE_call0 {f : Nat} {es : IR} {ρ : Slots} {Q : Vl → Slots → Prop} : wE0 G (.call f es) ρ Q = wL0 G es ρ (fun vs ρ1 => wC0 G f vs ρ1 (fun r ρ2 => W0 r.toD (fun z => Q (.d z) ρ2))) := by
  simp only [wE0, wL0, evE, W_bind0, W_pure0, callD, wC0, W_ite0, W_none0]
theorem wE_callK0 {s : Nat} {es : IR} {ρ : Slots} {Q : Vl → Slots → Prop} : wE0 G (.callK s es) ρ Q = W0 (G.sh s) (fun q => wL0 G es ρ (fun ws ρ1 => W0 (pickAll ws q.2) (fun us => wC0 G q.1 us ρ1 (fun r ρ2 => W0 r.toD (fun z => Q (.d z) ρ2))))) := by
  simp only [wE0, wL0, evE, W_bind0, W_pure0, callD, wC0, W_ite0, W_none0]
theorem wE_callT0 {f g : Nat} {es : IR} {ρ : Slots} {Q : Vl → Slots → Prop} : wE0 G (.callT f g es) ρ Q = wL0 G es ρ (fun vs ρ1 => wC0 G g vs ρ1 (fun r ρ2 => match r with
    | .own _ xs => W0 (G.cf f [.own true xs]) (fun q => W0 q.1.toD (fun z => Q (.d z) ρ2))
    | _ => False)) := by
  simp only [wE0, wL0, evE, W_bind0]
  congr 1; funext x
  rw [← wC_eq0]
  congr 1; funext r
  obtain ⟨r, ρ2⟩ := r
  cases r <;> simp only [W_bind0, W_pure0, W_none0]
theorem wE_lenS0 {a : IR} {ρ : Slots} {Q : Vl → Slots → Prop} : wE0 G (.lenS a) ρ Q = wE0 G a ρ (fun va ρ1 => W0 (va.lookS ρ1) (fun x => W0 (lenD x) (fun z => Q (.d z) ρ1))) := by
  simp only [wE0, evE, W_bind0, W_pure0]
theorem wE_bi0 {b : Bi} {es : IR} {ρ : Slots} {Q : Vl → Slots → Prop} : wE0 G (.bi b es) ρ Q = wL0 G es ρ (fun vs ρ1 => W0 (looks ρ1 vs) (fun xs => W0 (biD b xs) (fun z => Q (.d z) ρ1))) := by
  simp only [wE0, wL0, evE, W_bind0, W_pure0]
theorem wE_isi0 {a : IR} {ts : List Ty} {ρ : Slots} {Q : Vl → Slots → Prop} : wE0 G (.isi a ts) ρ Q = wE0 G a ρ (fun va ρ1 => W0 (va.look ρ1) (fun x => Q (.d (.bl (isTys ts x))) ρ1)) := by
  simp only [wE0, evE, W_bind0, W_pure0]
theorem wE_dget0 {e k : IR} {ρ : Slots} {Q : Vl → Slots → Prop} : wE0 G (.dget e k) ρ Q = wE0 G e ρ (fun v ρ1 => W0 (v.look ρ1) (fun x => W0 x.ofLst (fun xs => W0 (pairsI xs) (fun ps => wE0 G k ρ1 (fun u ρ2 => W0 (u.look ρ2) (fun y => W0 (asInt y) (fun n => W0 (lastKey n ps) (fun z => Q (.d z) ρ2)))))))) := by
  simp only [wE0, evE, W_bind0, W_pure0]
theorem wE_lrng0 {a b : IR} {ρ : Slots} {Q : Vl → Slots → Prop} : wE0 G (.lrng a b) ρ Q = wE0 G a ρ (fun va ρ1 => wE0 G b ρ1 (fun vb ρ2 => W0 (va.look ρ2) (fun x => W0 (vb.look ρ2) (fun y => W0 (asInt x) (fun i => W0 (asInt y) (fun j => W0 (lrngD i j) (fun z => Q (.d z) ρ2))))))) := by
  simp only [wE0, evE, W_bind0, W_pure0]
def dgO (kvs : List (Str × D)) (x : D) : Option D := match x with
  | .str z => dicD kvs z
  | _ => none
theorem wE_gdg0 {g : Nat} {k : IR} {ρ : Slots} {Q : Vl → Slots → Prop} : wE0 G (.gdg g k) ρ Q = wE0 G k ρ (fun v ρ1 => W0 (v.look ρ1) (fun x => W0 (G.dd g) (fun kvs => W0 (dgO kvs x) (fun d => Q (.d d) ρ1)))) := by
  simp only [wE0, evE, W_bind0]
  congr 1; funext r; congr 1; funext x; congr 1; funext kvs
  unfold dgO
  cases x <;> simp only [W_bind0, W_pure0, W_none0]
theorem wE_mt0 {m : Mt} {o es : IR} {ρ : Slots} {Q : Vl → Slots → Prop} : wE0 G (.mt m o es) ρ Q = wE0 G o ρ (fun v ρ1 => W0 v.pure? (fun x => wL0 G es ρ1 (fun vs ρ2 => W0 (looks ρ2 vs) (fun xs => W0 (mtD m x xs) (fun z => Q (.d z) ρ2))))) := by
  simp only [wE0, wL0, evE, W_bind0, W_pure0]
theorem wE_frz0 {i : Nat} {ρ : Slots} {Q : Vl → Slots → Prop} : wE0 G (.frz i) ρ Q = ownF0 ρ[i]? (fun xs => Q (.d (.lst xs)) (ρ.set i (some (.d (.lst xs))))) := by
  unfold wE0 evE ownF0
  split <;> simp_all [W_some0, W_none0]
theorem wE_mu0 {m : Mu} {i : Nat} {es : IR} {ρ : Slots} {Q : Vl → Slots → Prop} : wE0 G (.mu m i es) ρ Q = if isOwn ρ[i]? = true then wL0 G es ρ (fun vs ρ1 => W0 (pures vs) (fun xs => ownA0 ρ1[i]? (fun b ys => W0 (muD m ys xs) (fun r => Q (.d r.1) (ρ1.set i (some (.own b r.2))))))) else False := by
  unfold wE0
  rw [evE]
  cases h : isOwn ρ[i]? <;> simp only [Bool.not_true, Bool.not_false, Bool.false_eq_true, if_true, if_false, W_none0]
  simp only [wL0, W_bind0]
  congr 1; funext x; congr 1; funext y
  unfold ownA0
  split <;> simp_all [W_bind0', W_some0, W_none0]
theorem wL_nil0 {ρ : Slots} {Q : List Vl → Slots → Prop} : wL0 G .nil ρ Q = Q [] ρ := by simp only [wL0, evL, W_some0]
theorem wL_cons0 {a b : IR} {ρ : Slots} {Q : List Vl → Slots → Prop} : wL0 G (.cons a b) ρ Q = wE0 G a ρ (fun v ρ1 => wL0 G b ρ1 (fun vs ρ2 => Q (v :: vs) ρ2)) := by
  simp only [wE0, wL0, evL, W_bind0, W_pure0]
theorem wT_eq0 {e : IR} {ρ : Slots} {Q : Bool → Slots → Prop} : wT0 G e ρ Q = wE0 G e ρ (fun v ρ1 => W0 v.pure? (fun x => W0 (asBool x) (fun b => Q b ρ1))) := by
  simp only [wT0, wE0, evT, W_bind0, W_pure0]
theorem wI_seq0 {a b : IR} {ρ : Slots} {Q : List D → Slots → Prop} : wI0 G .seq a b ρ Q = wE0 G a ρ (fun v ρ1 => W0 v.pure? (fun x => W0 x.items (fun xs => Q xs ρ1))) := by
  simp only [wI0, wE0, itGo, W_bind0, W_pure0]
theorem wI_rng0 {a b : IR} {ρ : Slots} {Q : List D → Slots → Prop} : wI0 G .rng a b ρ Q = wE0 G a ρ (fun v ρ1 => W0 (v.look ρ1) (fun x => W0 (asInt x) (fun n => if n ≤ sizeLine ∧ -(2 ^ 62) ≤ n then Q (range1 n.toNat) ρ1 else False))) := by
  simp only [wI0, wE0, itGo, W_bind0, W_pure0, W_ite0, W_none0]
theorem wI_enm0 {a b : IR} {ρ : Slots} {Q : List D → Slots → Prop} : wI0 G .enm a b ρ Q = wE0 G a ρ (fun v ρ1 => W0 v.pure? (fun x => W0 x.ofSeq (fun xs => Q (enumD xs) ρ1))) := by
  simp only [wI0, wE0, itGo, W_bind0, W_pure0]
def zipO (x y : D) : Option (List D) := match x, y with
  | .lst xs, .lst ys => some (zipD xs ys)
  | .tup xs, .tup ys => some (zipD xs ys)
  | _, _ => none
theorem wI_zip0 {a b : IR} {ρ : Slots} {Q : List D → Slots → Prop} : wI0 G .zip a b ρ Q = wE0 G a ρ (fun v ρ1 => wE0 G b ρ1 (fun u ρ2 => W0 v.pure? (fun x => W0 u.pure? (fun y => W0 (zipO x y) (fun xs => Q xs ρ2))))) := by
  simp only [wI0, wE0, itGo, W_bind0, W_pure0]
  congr 1; funext p; congr 1; funext q; congr 1; funext x; congr 1; funext y
  unfold zipO
  cases x <;> cases y <;> simp only [W_pure0, W_some0, W_none0]
/-! ### own lists -/
theorem wO_call0 {f : Nat} {es : IR} {ρ : Slots} {Q : List D → Slots → Prop} : wO0 G (.call f es) ρ Q = wL0 G es ρ (fun vs ρ1 => wC0 G f vs ρ1 (fun r ρ2 => match r with
    | .own _ xs => Q xs ρ2
    | _ => False)) := by
  simp only [wO0, wL0, evO, W_bind0]
  congr 1; funext x
  rw [← wC_eq0]
  congr 1; funext r
  obtain ⟨r, ρ2⟩ := r
  cases r <;> simp only [W_bind0, W_pure0, W_none0]
theorem wO_of0 {e : IR} {ρ : Slots} {Q : List D → Slots → Prop} (h : fresh e = true) : wO0 G e ρ Q = wE0 G e ρ (fun v ρ1 => match v with
    | .d (.lst xs) => Q xs ρ1
    | _ => False) := by
  unfold wO0 wE0
  rw [evO.eq_def]
  cases e <;> first | (simp [fresh] at h; done) | skip
  all_goals
    simp only [h, if_true, W_bind0]
    congr 1; funext r
    obtain ⟨r, ρ2⟩ := r
    cases r with
    | slot i => simp only [W_none0]
    | d x => cases x <;> simp only [W_pure0, W_none0]
theorem wO_lst0 {es : IR} {ρ : Slots} {Q : List D → Slots → Prop} : wO0 G (.lst es) ρ Q = wL0 G es ρ (fun vs ρ1 => W0 (pures vs) (fun xs => if xs.length ≤ sizeLine then Q xs ρ1 else False)) := by
  rw [wO_of0 rfl, wE_lst0]
theorem wO_comp0 {vs : List Nat} {p : Pat} {k : ItK} {a b c e : IR} {ρ : Slots} {Q : List D → Slots → Prop} : wO0 G (.comp vs p k a b c e) ρ Q = wE0 G (.comp vs p k a b c e) ρ (fun v ρ1 => match v with
    | .d (.lst xs) => Q xs ρ1
    | _ => False) := wO_of0 rfl
theorem wO_op0 {o : BOp} {a b : IR} {ρ : Slots} {Q : List D → Slots → Prop} (h : fresh (.op o a b) = true) : wO0 G (.op o a b) ρ Q = wE0 G (.op o a b) ρ (fun v ρ1 => match v with
    | .d (.lst xs) => Q xs ρ1
    | _ => False) := wO_of0 h
theorem wO_slc0 {a b c : IR} {ρ : Slots} {Q : List D → Slots → Prop} : wO0 G (.slc a b c) ρ Q = wE0 G (.slc a b c) ρ (fun v ρ1 => match v with
    | .d (.lst xs) => Q xs ρ1
    | _ => False) := wO_of0 rfl
theorem wO_lrng0 {a b : IR} {ρ : Slots} {Q : List D → Slots → Prop} : wO0 G (.lrng a b) ρ Q = wE0 G (.lrng a b) ρ (fun v ρ1 => match v with
    | .d (.lst xs) => Q xs ρ1
    | _ => False) := wO_of0 rfl
theorem wO_list0 {es : IR} {ρ : Slots} {Q : List D → Slots → Prop} : wO0 G (.bi .list es) ρ Q = wE0 G (.bi .list es) ρ (fun v ρ1 => match v with
    | .d (.lst xs) => Q xs ρ1
    | _ => False) := wO_of0 rfl
theorem wP_nil0 {ρ : Slots} {Q : List EV → Slots → Prop} : wP0 G [] .nil ρ Q = Q [] ρ := by simp only [wP0, evP, W_some0]
theorem wP_own0 {i : Nat} {fs : List (Nat × Bool)} {a b : IR} {ρ : Slots} {Q : List EV → Slots → Prop} : wP0 G ((i, true) :: fs) (.cons a b) ρ Q = wO0 G a ρ (fun xs ρ1 => wP0 G fs b ρ1 (fun vs ρ2 => Q (.own false xs :: vs) ρ2)) := by
  simp only [wP0, wO0, evP, W_bind0, W_pure0]
theorem wP_dat0 {i : Nat} {fs : List (Nat × Bool)} {a b : IR} {ρ : Slots} {Q : List EV → Slots → Prop} : wP0 G ((i, false) :: fs) (.cons a b) ρ Q = wE0 G a ρ (fun v ρ1 => W0 v.pure? (fun x => wP0 G fs b ρ1 (fun vs ρ2 => Q (.d x :: vs) ρ2))) := by
  simp only [wP0, wE0, evP, W_bind0, W_pure0]
/-! ### statements -/
theorem wS_skip0 {ρ : Slots} {Q : Out → Prop} : wS0 G w .skip ρ Q = Q (.nx ρ) := by simp only [wS0, evS, W_some0]
/-- what follows -/
def thenW0 (G : Cfg) (w : Nat) (b : IR) (Q : Out → Prop) : Out → Prop
  | .nx ρ1 => wS0 G w b ρ1 Q
  | o => Q o
theorem thenW_nx0 {b : IR} {Q : Out → Prop} {ρ : Slots} : thenW0 G w b Q (.nx ρ) = wS0 G w b ρ Q := rfl
theorem thenW_ret0 {b : IR} {Q : Out → Prop} {v : EV} {ρ : Slots} : thenW0 G w b Q (.ret v ρ) = Q (.ret v ρ) := rfl
theorem thenW_brk0 {b : IR} {Q : Out → Prop} {ρ : Slots} : thenW0 G w b Q (.brk ρ) = Q (.brk ρ) := rfl
theorem thenW_ct0 {b : IR} {Q : Out → Prop} {ρ : Slots} : thenW0 G w b Q (.ct ρ) = Q (.ct ρ) := rfl
theorem wS_seq0 {a b : IR} {ρ : Slots} {Q : Out → Prop} : wS0 G w (.seq a b) ρ Q = wS0 G w a ρ (thenW0 G w b Q) := by
  simp only [wS0, evS, W_bind0]
  congr 1; funext o
  cases o <;> simp only [thenW0, wS0, W_pure0]
theorem wS_asg0 {p : Pat} {e : IR} {ρ : Slots} {Q : Out → Prop} : wS0 G w (.asg p e) ρ Q = wE0 G e ρ (fun v ρ1 => W0 v.pure? (fun x => if p.slots.all (okSet ρ1) = true then W0 (Pat.bind p x ρ1) (fun ρ2 => Q (.nx ρ2)) else False)) := by
  simp only [wS0, wE0, evS, W_bind0, W_pure0, W_ite0, W_none0]
theorem wS_asgO0 {i : Nat} {e : IR} {ρ : Slots} {Q : Out → Prop} : wS0 G w (.asgO i e) ρ Q = wO0 G e ρ (fun xs ρ1 => if okSet ρ1 i = true then Q (.nx (ρ1.set i (some (.own false xs)))) else False) := by
  simp only [wS0, wO0, evS, W_bind0, W_pure0, W_ite0, W_none0]
theorem wS_par0 {fs : List (Nat × Bool)} {e : IR} {ρ : Slots} {Q : Out → Prop} : wS0 G w (.par fs e) ρ Q = wP0 G fs e ρ (fun vs ρ1 => if (fs.all fun p => okSet ρ1 p.1) = true then Q (.nx (setAll ρ1 fs vs)) else False) := by
  simp only [wS0, wP0, evS, W_bind0, W_pure0, W_ite0, W_none0]
def augI (ρ : Slots) (i : Nat) : Option Int := match ρ[i]? with
  | some (some (.d (.int v))) => some v
  | _ => none
def augZ (o : BOp) (v j : Int) : Option Int := match opD o (.int v) (.int j) with
  | some (.int z) => some z
  | _ => none
theorem wS_aug0 {o : BOp} {i : Nat} {e : IR} {ρ : Slots} {Q : Out → Prop} : wS0 G w (.aug o i e) ρ Q = W0 (augI ρ i) (fun v => wE0 G e ρ (fun vy ρ1 => W0 (vy.look ρ1) (fun y => W0 (asInt y) (fun j => W0 (augZ o v j) (fun z => Q (.nx (ρ1.set i (some (.d (.int z))))))))))  := by
  simp only [wS0, wE0, evS]
  split
  · rename_i v hv
    have e1 : augI ρ i = some v := by unfold augI; rw [hv]
    rw [e1]
    simp only [W_bind0, W_some0]
    congr 1; funext x; congr 1; funext y; congr 1; funext j
    unfold augZ
    split <;> simp_all [W_some0, W_none0]
  · rename_i hv
    have e1 : augI ρ i = none := by
      unfold augI
      split
      · rename_i v hq; exact absurd hq (hv v)
      · rfl
    rw [e1]
    simp only [W_none0]
theorem wS_setI0 {i : Nat} {k e : IR} {ρ : Slots} {Q : Out → Prop} : wS0 G w (.setI i k e) ρ Q = wE0 G e ρ (fun v ρ1 => W0 v.pure? (fun x => if isOwn ρ1[i]? = true then wE0 G k ρ1 (fun u ρ2 => W0 (u.look ρ2) (fun y => W0 (asInt y) (fun n => ownA0 ρ2[i]? (fun b xs => W0 (ixN' xs.length n) (fun j => Q (.nx (ρ2.set i (some (.own b (xs.set j x))))))))) ) else False)) := by
  simp only [wS0, wE0, evS, W_bind0]
  congr 1; funext x; congr 1; funext y
  cases h : isOwn x.2[i]? <;> simp only [Bool.not_true, Bool.not_false, Bool.false_eq_true, if_true, if_false, W_none0]
  simp only [W_bind0]
  congr 1; funext z; congr 1; funext u; congr 1; funext n
  unfold ownA0
  split <;> simp_all [W_bind0', W_some0, W_none0]
def slO : Option (Option EV) → Option D
  | some (some (.d x)) => some x
  | _ => none
theorem wS_prb0 {i f : Nat} {a r : IR} {js : List Nat} {ρ : Slots} {Q : Out → Prop} : wS0 G w (.prb i a r f js) ρ Q = wO0 G a ρ (fun xs ρ1 => wL0 G r ρ1 (fun vs ρ2 => W0 (pures vs) (fun ys => if ys.length + 1 ≤ sizeLine ∧ xs.length < sizeLine ∧ js.length ≤ sizeLine ∧ okSet ρ2 i = true ∧ i < ρ2.length then W0 (slotsD (ρ2.set i (some (.d (.lst (.lst xs :: ys))))) js) (fun zs => W0 (G.cf f [.d (.lst (.lst xs :: ys)), .d (.lst zs)]) (fun q => if isTrueD q.1 = true then Q (.nx (ρ2.set i none)) else False)) else False))) := by
  simp only [wS0, wO0, wL0, evS, W_bind0, W_pure0, W_ite0, W_none0]
theorem wS_expr0 {e : IR} {ρ : Slots} {Q : Out → Prop} : wS0 G w (.expr e) ρ Q = wE0 G e ρ (fun _ ρ1 => Q (.nx ρ1)) := by
  simp only [wS0, wE0, evS, W_bind0, W_pure0]
theorem wS_ret0 {e : IR} {ρ : Slots} {Q : Out → Prop} : wS0 G w (.ret e) ρ Q = wE0 G e ρ (fun v ρ1 => W0 v.pure? (fun x => Q (.ret (.d x) ρ1))) := by
  simp only [wS0, wE0, evS, W_bind0, W_pure0]
theorem wS_retO0 {e : IR} {ρ : Slots} {Q : Out → Prop} : wS0 G w (.retO e) ρ Q = wO0 G e ρ (fun xs ρ1 => Q (.ret (.own false xs) ρ1)) := by
  simp only [wS0, wO0, evS, W_bind0, W_pure0]
theorem wS_retV0 {i : Nat} {ρ : Slots} {Q : Out → Prop} : wS0 G w (.retV i) ρ Q = ownF0 ρ[i]? (fun xs => Q (.ret (.own false xs) ρ)) := by
  unfold wS0 ownF0
  rw [evS.eq_def]
  dsimp only
  split <;> simp_all [W_some0, W_none0]
theorem wS_retN0 {ρ : Slots} {Q : Out → Prop} : wS0 G w .retN ρ Q = Q (.ret (.d .non) ρ) := by simp only [wS0, evS, W_some0]
theorem wS_brk0 {ρ : Slots} {Q : Out → Prop} : wS0 G w .brk ρ Q = Q (.brk ρ) := by simp only [wS0, evS, W_some0]
theorem wS_cnt0 {ρ : Slots} {Q : Out → Prop} : wS0 G w .cnt ρ Q = Q (.ct ρ) := by simp only [wS0, evS, W_some0]
theorem wS_ifS0 {c t u : IR} {ρ : Slots} {Q : Out → Prop} : wS0 G w (.ifS c t u) ρ Q = wT0 G c ρ (fun b ρ1 => if b = true then wS0 G w t ρ1 Q else wS0 G w u ρ1 Q) := by
  simp only [wS0, wT0, evS, W_bind0, W_ite0]
/-- a turn of a for -/
def forB (G : Cfg) (w : Nat) (p : Pat) (body : IR) (x : D) (ρ : Slots) : Option Out := if p.slots.all (okSet ρ) then (do
      let ρa ← Pat.bind p x ρ
      evS G w body ρa) else none
theorem W_forB0 {p : Pat} {body : IR} {x : D} {ρ : Slots} {Q : Out → Prop} : W0 (forB G w p body x ρ) Q = if p.slots.all (okSet ρ) = true then W0 (Pat.bind p x ρ) (fun ρa => wS0 G w body ρa Q) else False := by
  simp only [forB, W_ite0, W_bind0, W_none0, wS0]
def wF0 (G : Cfg) (w : Nat) (p : Pat) (body : IR) (xs : List D) (ρ : Slots) (Q : Out → Prop) : Prop := W0 (forGo (forB G w p body) xs ρ) Q
theorem wS_forS0 {p : Pat} {k : ItK} {a b body : IR} {ρ : Slots} {Q : Out → Prop} : wS0 G w (.forS p k a b body) ρ Q = wI0 G k a b ρ (fun xs ρ1 => wF0 G w p body xs ρ1 Q) := by
  simp only [wS0, wI0, evS, W_bind0]
  rfl
def wWh0 (G : Cfg) (w : Nat) (c b : IR) (n : Nat) (ρ : Slots) (Q : Out → Prop) : Prop := W0 (whGo (evT G c) (evS G w b) n ρ) Q
theorem wS_whS0 {c b : IR} {ρ : Slots} {Q : Out → Prop} : wS0 G w (.whS c b) ρ Q = wWh0 G w c b w ρ Q := by
  simp only [wS0, evS]; rfl
/-- a for, by an invariant -/
theorem wF_inv0 {p : Pat} {body : IR} {xs : List D} {ρ : Slots} {Q : Out → Prop} (I : Nat → Slots → Prop) (h0 : I 0 ρ)
    (hs : ∀ (i : Nat) x ρ, xs[i]? = some x → I i ρ → if p.slots.all (okSet ρ) = true then W0 (Pat.bind p x ρ) (fun ρa => wS0 G w body ρa (fun o => match o with
      | .nx ρ1 => I (i + 1) ρ1
      | .ct ρ1 => I (i + 1) ρ1
      | .brk ρ1 => Q (.nx ρ1)
      | .ret v ρ1 => Q (.ret v ρ1))) else False) (hd : ∀ ρ, I xs.length ρ → Q (.nx ρ)) : wF0 G w p body xs ρ Q :=
  forGo_inv ρ h0 (fun i x ρ hx hi => by rw [W_forB0]; exact hs i x ρ hx hi) hd
theorem wWh_inv0 {c b : IR} {n : Nat} {ρ : Slots} {Q : Out → Prop} (I : Slots → Prop) (μ : Slots → Nat) (h0 : I ρ) (hn : μ ρ < n)
    (hs : ∀ ρ, I ρ → wT0 G c ρ (fun t ρ' => if t = true then wS0 G w b ρ' (fun o => match o with
      | .nx ρ1 => I ρ1 ∧ μ ρ1 < μ ρ
      | .ct ρ1 => I ρ1 ∧ μ ρ1 < μ ρ
      | .brk ρ1 => Q (.nx ρ1)
      | .ret v ρ1 => Q (.ret v ρ1)) else Q (.nx ρ'))) : wWh0 G w c b n ρ Q :=
  whGo_inv μ n ρ hn h0 hs
end
/-! ### comprehensions -/
section
variable {G : Cfg}
theorem wE_compF0 {vs : List Nat} {p : Pat} {k : ItK} {a b c e : IR} {ρ0 ρ : Slots} {Q : Vl → Slots → Prop} {xs : List D} (f : D → Option D) (hit : wI0 G k a b ρ0 (fun ys ρ1 => ys = xs ∧ ρ1 = ρ)) (ho : (vs.any fun v => isOwn ρ[v]?) = false)
    (hv : (vs.all fun v => decide (v < ρ.length)) = true) (ht : ∀ x ∈ xs, W0 (Pat.bind p x (wipeE ρ vs)) (fun ρa => match c with
      | .nil => wE0 G e ρa (fun v ρc => W0 v.pure? (fun y => f x = some y ∧ wipeE ρc vs = wipeE ρ vs))
      | c => wE0 G c ρa (fun v ρb => W0 v.pure? (fun y => W0 (asBool y) (fun q => if q = true then wE0 G e ρb (fun v ρc => W0 v.pure? (fun y => f x = some y ∧ wipeE ρc vs = wipeE ρ vs)) else f x = none ∧ wipeE ρb vs = wipeE ρ vs)))))
    (q : Q (.d (.lst (xs.filterMap f))) ρ) : wE0 G (.comp vs p k a b c e) ρ0 Q := by
  obtain ⟨⟨ys, ρ1⟩, h1, rfl, rfl⟩ := hit
  refine ⟨_, evE_cmpr (f := f) h1 ho (fun v hv' => of_decide_eq_true (List.all_eq_true.mp hv v hv')) (fun x hx => ?_), q⟩
  have h := ht x hx
  unfold turnC
  rw [W_bind0]
  refine W_mono0 h fun ρa h => ?_
  cases c with
  | nil =>
    simp only [W_bind0, W_some0, if_true, W_pure0]
    refine W_mono0 h fun r h => W_mono0 h fun y h => ⟨h.1.symm, h.2⟩
  | _ =>
    simp only [W_bind0, W_pure0]
    refine W_mono0 h fun r h => W_mono0 h fun y h => W_mono0 h fun b h => ?_
    cases b with
    | true =>
      simp only [if_true, W_bind0, W_pure0] at h ⊢
      refine W_mono0 h fun r h => W_mono0 h fun y h => ⟨h.1.symm, h.2⟩
    | false =>
      simp only [Bool.false_eq_true, if_false, W_pure0] at h ⊢
      exact ⟨h.1.symm, h.2⟩
theorem wE_comp0 {vs : List Nat} {p : Pat} {k : ItK} {a b c e : IR} {ρ : Slots} {Q : Vl → Slots → Prop} {xs : List D} (f : D → Option D) (hit : wI0 G k a b ρ (fun ys ρ1 => ys = xs ∧ ρ1 = ρ)) (ho : (vs.any fun v => isOwn ρ[v]?) = false)
    (hv : (vs.all fun v => decide (v < ρ.length)) = true) (ht : ∀ x ∈ xs, W0 (Pat.bind p x (wipeE ρ vs)) (fun ρa => match c with
      | .nil => wE0 G e ρa (fun v ρc => W0 v.pure? (fun y => f x = some y ∧ wipeE ρc vs = wipeE ρ vs))
      | c => wE0 G c ρa (fun v ρb => W0 v.pure? (fun y => W0 (asBool y) (fun q => if q = true then wE0 G e ρb (fun v ρc => W0 v.pure? (fun y => f x = some y ∧ wipeE ρc vs = wipeE ρ vs)) else f x = none ∧ wipeE ρb vs = wipeE ρ vs)))))
    (q : Q (.d (.lst (xs.filterMap f))) ρ) : wE0 G (.comp vs p k a b c e) ρ Q := by
  obtain ⟨⟨ys, ρ1⟩, h1, rfl, rfl⟩ := hit
  refine ⟨_, evE_cmpr (f := f) h1 ho (fun v hv' => of_decide_eq_true (List.all_eq_true.mp hv v hv')) (fun x hx => ?_), q⟩
  have h := ht x hx
  unfold turnC
  rw [W_bind0]
  refine W_mono0 h fun ρa h => ?_
  cases c with
  | nil =>
    simp only [W_bind0, W_some0, if_true, W_pure0]
    refine W_mono0 h fun r h => W_mono0 h fun y h => ⟨h.1.symm, h.2⟩
  | _ =>
    simp only [W_bind0, W_pure0]
    refine W_mono0 h fun r h => W_mono0 h fun y h => W_mono0 h fun b h => ?_
    cases b with
    | true =>
      simp only [if_true, W_bind0, W_pure0] at h ⊢
      refine W_mono0 h fun r h => W_mono0 h fun y h => ⟨h.1.symm, h.2⟩
    | false =>
      simp only [Bool.false_eq_true, if_false, W_pure0] at h ⊢
      exact ⟨h.1.symm, h.2⟩
end
end Ov

set_option maxHeartbeats 4000000
namespace Ov
open PySem
/-- a tag that hangs on a -/
structure Tg {α : Sort u} (a : α) : Type where
def W {α : Type} (o : Option α) (Q : α → Prop) (h : Tg Q := ⟨⟩) : Prop := W0 o Q
def wE (G : Cfg) (e : IR) (ρ : Slots) (Q : Vl → Slots → Prop) (h : Tg Q := ⟨⟩) : Prop := wE0 G e ρ Q
def wL (G : Cfg) (e : IR) (ρ : Slots) (Q : List Vl → Slots → Prop) (h : Tg Q := ⟨⟩) : Prop := wL0 G e ρ Q
def wO (G : Cfg) (e : IR) (ρ : Slots) (Q : List D → Slots → Prop) (h : Tg Q := ⟨⟩) : Prop := wO0 G e ρ Q
def wP (G : Cfg) (fs : List (Nat × Bool)) (e : IR) (ρ : Slots) (Q : List EV → Slots → Prop) (h : Tg Q := ⟨⟩) : Prop := wP0 G fs e ρ Q
def wT (G : Cfg) (e : IR) (ρ : Slots) (Q : Bool → Slots → Prop) (h : Tg Q := ⟨⟩) : Prop := wT0 G e ρ Q
def wI (G : Cfg) (k : ItK) (a b : IR) (ρ : Slots) (Q : List D → Slots → Prop) (h : Tg Q := ⟨⟩) : Prop := wI0 G k a b ρ Q
def wS (G : Cfg) (w : Nat) (e : IR) (ρ : Slots) (Q : Out → Prop) (h : Tg Q := ⟨⟩) : Prop := wS0 G w e ρ Q
def wv (i : Nat) (o : Option (Option EV)) (Q : Vl → Prop) (h : Tg Q := ⟨⟩) : Prop := wv0 i o Q
def ownF (o : Option (Option EV)) (Q : List D → Prop) (h : Tg Q := ⟨⟩) : Prop := ownF0 o Q
def ownA (o : Option (Option EV)) (Q : Bool → List D → Prop) (h : Tg Q := ⟨⟩) : Prop := ownA0 o Q
def partW (G : Cfg) (e : IR) (ρ : Slots) (Q : Option Int → Slots → Prop) (h : Tg Q := ⟨⟩) : Prop := partW0 G e ρ Q
def wC (G : Cfg) (f : Nat) (vs : List Vl) (ρ : Slots) (Q : EV → Slots → Prop) (h : Tg Q := ⟨⟩) : Prop := wC0 G f vs ρ Q
def thenW (G : Cfg) (w : Nat) (b : IR) (Q : Out → Prop) : Out → Prop := thenW0 G w b Q
def wF (G : Cfg) (w : Nat) (p : Pat) (body : IR) (xs : List D) (ρ : Slots) (Q : Out → Prop) (h : Tg Q := ⟨⟩) : Prop := wF0 G w p body xs ρ Q
def wWh (G : Cfg) (w : Nat) (c b : IR) (n : Nat) (ρ : Slots) (Q : Out → Prop) (h : Tg Q := ⟨⟩) : Prop := wWh0 G w c b n ρ Q
section
variable {G : Cfg} {w : Nat}
theorem partW_nil {ρ : Slots} {Q : Option Int → Slots → Prop} : partW G .nil ρ Q = Q none ρ := by first | exact rfl
theorem partW_some {e : IR} {ρ : Slots} {Q : Option Int → Slots → Prop} (h : e ≠ .nil) : partW G e ρ Q = wE G e ρ (fun v ρ1 => W (partD ρ1 v) (fun p => Q p ρ1)) := by cases e <;> first | exact absurd rfl h | exact rfl
theorem wC_def {f : Nat} {vs : List Vl} {ρ : Slots} {Q : EV → Slots → Prop} : wC G f vs ρ Q = W (argsOf ρ vs) (fun as => if (slotsOf vs).Nodup then W (G.cf f as) (fun r => Q r.1 (putBack ρ vs r.2)) else False) := by first | exact rfl
theorem W_some {α : Type} {x : α} {Q : α → Prop} : W (some x) Q = Q x := by first | exact W_some0
theorem W_pure {α : Type} {x : α} {Q : α → Prop} : W (pure x) Q = Q x := by first | exact W_pure0
theorem W_none {α : Type} {Q : α → Prop} : W none Q = False := by first | exact W_none0
theorem W_bind {α β : Type} {o : Option α} {f : α → Option β} {Q : β → Prop} : W (o >>= f) Q = W o (fun x => W (f x) Q) := by first | exact W_bind0
theorem W_bind' {α β : Type} {o : Option α} {f : α → Option β} {Q : β → Prop} : W (o.bind f) Q = W o (fun x => W (f x) Q) := by first | exact W_bind0'
theorem W_map {α β : Type} {o : Option α} {f : α → β} {Q : β → Prop} : W (o.map f) Q = W o (fun x => Q (f x)) := by first | exact W_map0
theorem W_ite {α : Type} {c : Prop} [Decidable c] {a b : Option α} {Q : α → Prop} : W (if c then a else b) Q = if c then W a Q else W b Q := by first | exact W_ite0
theorem wv_d {i : Nat} {x : D} {Q : Vl → Prop} : wv i (some (some (.d x))) Q = Q (.d x) := by first | exact wv_d0
theorem wv_own {i : Nat} {b : Bool} {x : List D} {Q : Vl → Prop} : wv i (some (some (.own b x))) Q = Q (.slot i) := by first | exact wv_own0
theorem wv_scr {i : Nat} {x : List Int} {Q : Vl → Prop} : wv i (some (some (.scr x))) Q = Q (.slot i) := by first | exact wv_scr0
theorem ownF_own {x : List D} {Q : List D → Prop} : ownF (some (some (.own false x))) Q = Q x := by first | exact ownF_own0
theorem ownA_own {b : Bool} {x : List D} {Q : Bool → List D → Prop} : ownA (some (some (.own b x))) Q = Q b x := by first | exact ownA_own0
theorem wE_var {i : Nat} {ρ : Slots} {Q : Vl → Slots → Prop} : wE G (.var i) ρ Q = wv i ρ[i]? (fun v => Q v ρ) := by first | exact wE_var0
theorem wE_glob {g : Nat} {ρ : Slots} {Q : Vl → Slots → Prop} : wE G (.glob g) ρ Q = W (G.gd g) (fun x => Q (.d x) ρ) := by first | exact wE_glob0
theorem wE_int {n : Int} {ρ : Slots} {Q : Vl → Slots → Prop} : wE G (.int n) ρ Q = Q (.d (.int n)) ρ := by first | exact wE_int0
theorem wE_str {n : Str} {ρ : Slots} {Q : Vl → Slots → Prop} : wE G (.str n) ρ Q = Q (.d (.str n)) ρ := by first | exact wE_str0
theorem wE_bl {n : Bool} {ρ : Slots} {Q : Vl → Slots → Prop} : wE G (.bl n) ρ Q = Q (.d (.bl n)) ρ := by first | exact wE_bl0
theorem wE_non {ρ : Slots} {Q : Vl → Slots → Prop} : wE G .non ρ Q = Q (.d .non) ρ := by first | exact wE_non0
theorem wE_op {o : BOp} {a b : IR} {ρ : Slots} {Q : Vl → Slots → Prop} : wE G (.op o a b) ρ Q = wE G a ρ (fun va ρ1 => wE G b ρ1 (fun vb ρ2 => W (va.look ρ2) (fun x => W (vb.look ρ2) (fun y => W (opD o x y) (fun z => Q (.d z) ρ2))))) := by first | exact wE_op0
theorem wE_neg {a : IR} {ρ : Slots} {Q : Vl → Slots → Prop} : wE G (.neg a) ρ Q = wE G a ρ (fun va ρ1 => W (va.look ρ1) (fun x => W (asInt x) (fun i => Q (.d (.int (-i))) ρ1))) := by first | exact wE_neg0
theorem wE_cmp {o : COp} {a b : IR} {ρ : Slots} {Q : Vl → Slots → Prop} : wE G (.cmp o a b) ρ Q = wE G a ρ (fun va ρ1 => wE G b ρ1 (fun vb ρ2 => W (va.look ρ2) (fun x => W (vb.look ρ2) (fun y => W (cmpD o x y) (fun z => Q (.d (.bl z)) ρ2))))) := by first | exact wE_cmp0
theorem wE_chain {o o' : COp} {a b c : IR} {ρ : Slots} {Q : Vl → Slots → Prop} : wE G (.chain o o' a b c) ρ Q = wE G a ρ (fun va ρ1 => wE G b ρ1 (fun vb ρ2 => W (va.look ρ2) (fun x => W (vb.look ρ2) (fun y => W (cmpD o x y) (fun z =>
    if z = true then wE G c ρ2 (fun vc ρ3 => W (vb.look ρ3) (fun y' => W (vc.look ρ3) (fun u => W (cmpD o' y' u) (fun z' => Q (.d (.bl z')) ρ3)))) else Q (.d (.bl false)) ρ2))))) := by first | exact wE_chain0
theorem wE_stp {a s : IR} {ρ : Slots} {Q : Vl → Slots → Prop} : wE G (.stp a s) ρ Q = wE G a ρ (fun va ρ1 => wE G s ρ1 (fun vs ρ2 => W (vs.look ρ2) (fun y => W (asInt y) (fun k => W (va.lookS ρ2) (fun x => W (stpD x k) (fun z => Q (.d z) ρ2)))))) := by first | exact wE_stp0
theorem wE_isb {ng : Bool} {a : IR} {b : Bool} {ρ : Slots} {Q : Vl → Slots → Prop} : wE G (.isb ng a b) ρ Q = wE G a ρ (fun va ρ1 => W (va.look ρ1) (fun x => W (isbD x b) (fun r => Q (.d (.bl (if ng then !r else r))) ρ1))) := by first | exact wE_isb0
theorem wE_isn {ng : Bool} {a : IR} {ρ : Slots} {Q : Vl → Slots → Prop} : wE G (.isn ng a) ρ Q = wE G a ρ (fun va ρ1 => W (va.look ρ1) (fun x => Q (.d (.bl (isnD ng x))) ρ1)) := by first | exact wE_isn0
theorem wE_one {a : IR} {ρ : Slots} {Q : Vl → Slots → Prop} : wE G (.one a) ρ Q = wE G a ρ Q := by first | exact wE_one0
theorem wE_band {a b : IR} {ρ : Slots} {Q : Vl → Slots → Prop} : wE G (.band a b) ρ Q = wE G a ρ (fun va ρ1 => W va.pure? (fun x => W (asBool x) (fun p => if p = true then wE G b ρ1 Q else Q (.d (.bl false)) ρ1))) := by first | exact wE_band0
theorem wE_bor {a b : IR} {ρ : Slots} {Q : Vl → Slots → Prop} : wE G (.bor a b) ρ Q = wE G a ρ (fun va ρ1 => W va.pure? (fun x => W (asBool x) (fun p => if p = true then Q (.d (.bl true)) ρ1 else wE G b ρ1 Q))) := by first | exact wE_bor0
theorem wE_bnot {a : IR} {ρ : Slots} {Q : Vl → Slots → Prop} : wE G (.bnot a) ρ Q = wE G a ρ (fun va ρ1 => W va.pure? (fun x => W (asBool x) (fun p => Q (.d (.bl (!p))) ρ1))) := by first | exact wE_bnot0
theorem wE_ife {c a b : IR} {ρ : Slots} {Q : Vl → Slots → Prop} : wE G (.ife c a b) ρ Q = wE G c ρ (fun va ρ1 => W va.pure? (fun x => W (asBool x) (fun p => if p = true then wE G a ρ1 Q else wE G b ρ1 Q))) := by first | exact wE_ife0
theorem wE_tup {es : IR} {ρ : Slots} {Q : Vl → Slots → Prop} : wE G (.tup es) ρ Q = wL G es ρ (fun vs ρ1 => W (pures vs) (fun xs => if xs.length ≤ sizeLine then Q (.d (.tup xs)) ρ1 else False)) := by first | exact wE_tup0
theorem wE_lst {es : IR} {ρ : Slots} {Q : Vl → Slots → Prop} : wE G (.lst es) ρ Q = wL G es ρ (fun vs ρ1 => W (pures vs) (fun xs => if xs.length ≤ sizeLine then Q (.d (.lst xs)) ρ1 else False)) := by first | exact wE_lst0
theorem wE_idx {a i : IR} {ρ : Slots} {Q : Vl → Slots → Prop} : wE G (.idx a i) ρ Q = wE G a ρ (fun va ρ1 => wE G i ρ1 (fun vi ρ2 => W (va.lookS ρ2) (fun x => W (vi.look ρ2) (fun y => W (asInt y) (fun n => W (ixD x n) (fun z => Q (.d z) ρ2)))))) := by first | exact wE_idx0
theorem wE_slc {a lo hi : IR} {ρ : Slots} {Q : Vl → Slots → Prop} : wE G (.slc a lo hi) ρ Q = wE G a ρ (fun va ρ1 => partW G lo ρ1 (fun l ρ2 => partW G hi ρ2 (fun h ρ3 => W (va.lookS ρ3) (fun x => W (slcD x l h) (fun z => Q (.d z) ρ3))))) := by first | exact wE_slc0
theorem wE_call {f : Nat} {es : IR} {ρ : Slots} {Q : Vl → Slots → Prop} : wE G (.call f es) ρ Q = wL G es ρ (fun vs ρ1 => wC G f vs ρ1 (fun r ρ2 => W r.toD (fun z => Q (.d z) ρ2))) := by first | exact wE_call0
theorem wE_callK {s : Nat} {es : IR} {ρ : Slots} {Q : Vl → Slots → Prop} : wE G (.callK s es) ρ Q = W (G.sh s) (fun q => wL G es ρ (fun ws ρ1 => W (pickAll ws q.2) (fun us => wC G q.1 us ρ1 (fun r ρ2 => W r.toD (fun z => Q (.d z) ρ2))))) := by first | exact wE_callK0
theorem wE_callT {f g : Nat} {es : IR} {ρ : Slots} {Q : Vl → Slots → Prop} : wE G (.callT f g es) ρ Q = wL G es ρ (fun vs ρ1 => wC G g vs ρ1 (fun r ρ2 => match r with
    | .own _ xs => W (G.cf f [.own true xs]) (fun q => W q.1.toD (fun z => Q (.d z) ρ2))
    | _ => False)) := by first | exact wE_callT0
theorem wE_lenS {a : IR} {ρ : Slots} {Q : Vl → Slots → Prop} : wE G (.lenS a) ρ Q = wE G a ρ (fun va ρ1 => W (va.lookS ρ1) (fun x => W (lenD x) (fun z => Q (.d z) ρ1))) := by first | exact wE_lenS0
theorem wE_bi {b : Bi} {es : IR} {ρ : Slots} {Q : Vl → Slots → Prop} : wE G (.bi b es) ρ Q = wL G es ρ (fun vs ρ1 => W (looks ρ1 vs) (fun xs => W (biD b xs) (fun z => Q (.d z) ρ1))) := by first | exact wE_bi0
theorem wE_isi {a : IR} {ts : List Ty} {ρ : Slots} {Q : Vl → Slots → Prop} : wE G (.isi a ts) ρ Q = wE G a ρ (fun va ρ1 => W (va.look ρ1) (fun x => Q (.d (.bl (isTys ts x))) ρ1)) := by first | exact wE_isi0
theorem wE_dget {e k : IR} {ρ : Slots} {Q : Vl → Slots → Prop} : wE G (.dget e k) ρ Q = wE G e ρ (fun v ρ1 => W (v.look ρ1) (fun x => W x.ofLst (fun xs => W (pairsI xs) (fun ps => wE G k ρ1 (fun u ρ2 => W (u.look ρ2) (fun y => W (asInt y) (fun n => W (lastKey n ps) (fun z => Q (.d z) ρ2)))))))) := by first | exact wE_dget0
theorem wE_lrng {a b : IR} {ρ : Slots} {Q : Vl → Slots → Prop} : wE G (.lrng a b) ρ Q = wE G a ρ (fun va ρ1 => wE G b ρ1 (fun vb ρ2 => W (va.look ρ2) (fun x => W (vb.look ρ2) (fun y => W (asInt x) (fun i => W (asInt y) (fun j => W (lrngD i j) (fun z => Q (.d z) ρ2))))))) := by first | exact wE_lrng0
theorem wE_gdg {g : Nat} {k : IR} {ρ : Slots} {Q : Vl → Slots → Prop} : wE G (.gdg g k) ρ Q = wE G k ρ (fun v ρ1 => W (v.look ρ1) (fun x => W (G.dd g) (fun kvs => W (dgO kvs x) (fun d => Q (.d d) ρ1)))) := by first | exact wE_gdg0
theorem wE_mt {m : Mt} {o es : IR} {ρ : Slots} {Q : Vl → Slots → Prop} : wE G (.mt m o es) ρ Q = wE G o ρ (fun v ρ1 => W v.pure? (fun x => wL G es ρ1 (fun vs ρ2 => W (looks ρ2 vs) (fun xs => W (mtD m x xs) (fun z => Q (.d z) ρ2))))) := by first | exact wE_mt0
theorem wE_frz {i : Nat} {ρ : Slots} {Q : Vl → Slots → Prop} : wE G (.frz i) ρ Q = ownF ρ[i]? (fun xs => Q (.d (.lst xs)) (ρ.set i (some (.d (.lst xs))))) := by first | exact wE_frz0
theorem wE_mu {m : Mu} {i : Nat} {es : IR} {ρ : Slots} {Q : Vl → Slots → Prop} : wE G (.mu m i es) ρ Q = if isOwn ρ[i]? = true then wL G es ρ (fun vs ρ1 => W (pures vs) (fun xs => ownA ρ1[i]? (fun b ys => W (muD m ys xs) (fun r => Q (.d r.1) (ρ1.set i (some (.own b r.2))))))) else False := by first | exact wE_mu0
theorem wL_nil {ρ : Slots} {Q : List Vl → Slots → Prop} : wL G .nil ρ Q = Q [] ρ := by first | exact wL_nil0
theorem wL_cons {a b : IR} {ρ : Slots} {Q : List Vl → Slots → Prop} : wL G (.cons a b) ρ Q = wE G a ρ (fun v ρ1 => wL G b ρ1 (fun vs ρ2 => Q (v :: vs) ρ2)) := by first | exact wL_cons0
theorem wT_eq {e : IR} {ρ : Slots} {Q : Bool → Slots → Prop} : wT G e ρ Q = wE G e ρ (fun v ρ1 => W v.pure? (fun x => W (asBool x) (fun b => Q b ρ1))) := by first | exact wT_eq0
theorem wI_seq {a b : IR} {ρ : Slots} {Q : List D → Slots → Prop} : wI G .seq a b ρ Q = wE G a ρ (fun v ρ1 => W v.pure? (fun x => W x.items (fun xs => Q xs ρ1))) := by first | exact wI_seq0
theorem wI_rng {a b : IR} {ρ : Slots} {Q : List D → Slots → Prop} : wI G .rng a b ρ Q = wE G a ρ (fun v ρ1 => W (v.look ρ1) (fun x => W (asInt x) (fun n => if n ≤ sizeLine ∧ -(2 ^ 62) ≤ n then Q (range1 n.toNat) ρ1 else False))) := by first | exact wI_rng0
theorem wI_enm {a b : IR} {ρ : Slots} {Q : List D → Slots → Prop} : wI G .enm a b ρ Q = wE G a ρ (fun v ρ1 => W v.pure? (fun x => W x.ofSeq (fun xs => Q (enumD xs) ρ1))) := by first | exact wI_enm0
theorem wI_zip {a b : IR} {ρ : Slots} {Q : List D → Slots → Prop} : wI G .zip a b ρ Q = wE G a ρ (fun v ρ1 => wE G b ρ1 (fun u ρ2 => W v.pure? (fun x => W u.pure? (fun y => W (zipO x y) (fun xs => Q xs ρ2))))) := by first | exact wI_zip0
theorem wO_call {f : Nat} {es : IR} {ρ : Slots} {Q : List D → Slots → Prop} : wO G (.call f es) ρ Q = wL G es ρ (fun vs ρ1 => wC G f vs ρ1 (fun r ρ2 => match r with
    | .own _ xs => Q xs ρ2
    | _ => False)) := by first | exact wO_call0
theorem wO_of {e : IR} {ρ : Slots} {Q : List D → Slots → Prop} (h : fresh e = true) : wO G e ρ Q = wE G e ρ (fun v ρ1 => match v with
    | .d (.lst xs) => Q xs ρ1
    | _ => False) := by first | exact wO_of0 h
theorem wO_lst {es : IR} {ρ : Slots} {Q : List D → Slots → Prop} : wO G (.lst es) ρ Q = wL G es ρ (fun vs ρ1 => W (pures vs) (fun xs => if xs.length ≤ sizeLine then Q xs ρ1 else False)) := by first | exact wO_lst0
theorem wO_comp {vs : List Nat} {p : Pat} {k : ItK} {a b c e : IR} {ρ : Slots} {Q : List D → Slots → Prop} : wO G (.comp vs p k a b c e) ρ Q = wE G (.comp vs p k a b c e) ρ (fun v ρ1 => match v with
    | .d (.lst xs) => Q xs ρ1
    | _ => False) := by first | exact wO_comp0
theorem wO_op {o : BOp} {a b : IR} {ρ : Slots} {Q : List D → Slots → Prop} (h : fresh (.op o a b) = true) : wO G (.op o a b) ρ Q = wE G (.op o a b) ρ (fun v ρ1 => match v with
    | .d (.lst xs) => Q xs ρ1
    | _ => False) := by first | exact wO_op0 h
theorem wO_slc {a b c : IR} {ρ : Slots} {Q : List D → Slots → Prop} : wO G (.slc a b c) ρ Q = wE G (.slc a b c) ρ (fun v ρ1 => match v with
    | .d (.lst xs) => Q xs ρ1
    | _ => False) := by first | exact wO_slc0
theorem wO_lrng {a b : IR} {ρ : Slots} {Q : List D → Slots → Prop} : wO G (.lrng a b) ρ Q = wE G (.lrng a b) ρ (fun v ρ1 => match v with
    | .d (.lst xs) => Q xs ρ1
    | _ => False) := by first | exact wO_lrng0
theorem wO_list {es : IR} {ρ : Slots} {Q : List D → Slots → Prop} : wO G (.bi .list es) ρ Q = wE G (.bi .list es) ρ (fun v ρ1 => match v with
    | .d (.lst xs) => Q xs ρ1
    | _ => False) := by first | exact wO_list0
theorem wP_nil {ρ : Slots} {Q : List EV → Slots → Prop} : wP G [] .nil ρ Q = Q [] ρ := by first | exact wP_nil0
theorem wP_own {i : Nat} {fs : List (Nat × Bool)} {a b : IR} {ρ : Slots} {Q : List EV → Slots → Prop} : wP G ((i, true) :: fs) (.cons a b) ρ Q = wO G a ρ (fun xs ρ1 => wP G fs b ρ1 (fun vs ρ2 => Q (.own false xs :: vs) ρ2)) := by first | exact wP_own0
theorem wP_dat {i : Nat} {fs : List (Nat × Bool)} {a b : IR} {ρ : Slots} {Q : List EV → Slots → Prop} : wP G ((i, false) :: fs) (.cons a b) ρ Q = wE G a ρ (fun v ρ1 => W v.pure? (fun x => wP G fs b ρ1 (fun vs ρ2 => Q (.d x :: vs) ρ2))) := by first | exact wP_dat0
theorem wS_skip {ρ : Slots} {Q : Out → Prop} : wS G w .skip ρ Q = Q (.nx ρ) := by first | exact wS_skip0
theorem thenW_nx {b : IR} {Q : Out → Prop} {ρ : Slots} : thenW G w b Q (.nx ρ) = wS G w b ρ Q := by first | exact thenW_nx0
theorem thenW_ret {b : IR} {Q : Out → Prop} {v : EV} {ρ : Slots} : thenW G w b Q (.ret v ρ) = Q (.ret v ρ) := by first | exact thenW_ret0
theorem thenW_brk {b : IR} {Q : Out → Prop} {ρ : Slots} : thenW G w b Q (.brk ρ) = Q (.brk ρ) := by first | exact thenW_brk0
theorem thenW_ct {b : IR} {Q : Out → Prop} {ρ : Slots} : thenW G w b Q (.ct ρ) = Q (.ct ρ) := by first | exact thenW_ct0
theorem wS_seq {a b : IR} {ρ : Slots} {Q : Out → Prop} : wS G w (.seq a b) ρ Q = wS G w a ρ (thenW G w b Q) := by first | exact wS_seq0
theorem wS_asg {p : Pat} {e : IR} {ρ : Slots} {Q : Out → Prop} : wS G w (.asg p e) ρ Q = wE G e ρ (fun v ρ1 => W v.pure? (fun x => if p.slots.all (okSet ρ1) = true then W (Pat.bind p x ρ1) (fun ρ2 => Q (.nx ρ2)) else False)) := by first | exact wS_asg0
theorem wS_asgO {i : Nat} {e : IR} {ρ : Slots} {Q : Out → Prop} : wS G w (.asgO i e) ρ Q = wO G e ρ (fun xs ρ1 => if okSet ρ1 i = true then Q (.nx (ρ1.set i (some (.own false xs)))) else False) := by first | exact wS_asgO0
theorem wS_par {fs : List (Nat × Bool)} {e : IR} {ρ : Slots} {Q : Out → Prop} : wS G w (.par fs e) ρ Q = wP G fs e ρ (fun vs ρ1 => if (fs.all fun p => okSet ρ1 p.1) = true then Q (.nx (setAll ρ1 fs vs)) else False) := by first | exact wS_par0
theorem wS_aug {o : BOp} {i : Nat} {e : IR} {ρ : Slots} {Q : Out → Prop} : wS G w (.aug o i e) ρ Q = W (augI ρ i) (fun v => wE G e ρ (fun vy ρ1 => W (vy.look ρ1) (fun y => W (asInt y) (fun j => W (augZ o v j) (fun z => Q (.nx (ρ1.set i (some (.d (.int z))))))))))  := by first | exact wS_aug0
theorem wS_setI {i : Nat} {k e : IR} {ρ : Slots} {Q : Out → Prop} : wS G w (.setI i k e) ρ Q = wE G e ρ (fun v ρ1 => W v.pure? (fun x => if isOwn ρ1[i]? = true then wE G k ρ1 (fun u ρ2 => W (u.look ρ2) (fun y => W (asInt y) (fun n => ownA ρ2[i]? (fun b xs => W (ixN' xs.length n) (fun j => Q (.nx (ρ2.set i (some (.own b (xs.set j x))))))))) ) else False)) := by first | exact wS_setI0
theorem wS_prb {i f : Nat} {a r : IR} {js : List Nat} {ρ : Slots} {Q : Out → Prop} : wS G w (.prb i a r f js) ρ Q = wO G a ρ (fun xs ρ1 => wL G r ρ1 (fun vs ρ2 => W (pures vs) (fun ys => if ys.length + 1 ≤ sizeLine ∧ xs.length < sizeLine ∧ js.length ≤ sizeLine ∧ okSet ρ2 i = true ∧ i < ρ2.length then W (slotsD (ρ2.set i (some (.d (.lst (.lst xs :: ys))))) js) (fun zs => W (G.cf f [.d (.lst (.lst xs :: ys)), .d (.lst zs)]) (fun q => if isTrueD q.1 = true then Q (.nx (ρ2.set i none)) else False)) else False))) := by first | exact wS_prb0
theorem wS_expr {e : IR} {ρ : Slots} {Q : Out → Prop} : wS G w (.expr e) ρ Q = wE G e ρ (fun _ ρ1 => Q (.nx ρ1)) := by first | exact wS_expr0
theorem wS_ret {e : IR} {ρ : Slots} {Q : Out → Prop} : wS G w (.ret e) ρ Q = wE G e ρ (fun v ρ1 => W v.pure? (fun x => Q (.ret (.d x) ρ1))) := by first | exact wS_ret0
theorem wS_retO {e : IR} {ρ : Slots} {Q : Out → Prop} : wS G w (.retO e) ρ Q = wO G e ρ (fun xs ρ1 => Q (.ret (.own false xs) ρ1)) := by first | exact wS_retO0
theorem wS_retV {i : Nat} {ρ : Slots} {Q : Out → Prop} : wS G w (.retV i) ρ Q = ownF ρ[i]? (fun xs => Q (.ret (.own false xs) ρ)) := by first | exact wS_retV0
theorem wS_retN {ρ : Slots} {Q : Out → Prop} : wS G w .retN ρ Q = Q (.ret (.d .non) ρ) := by first | exact wS_retN0
theorem wS_brk {ρ : Slots} {Q : Out → Prop} : wS G w .brk ρ Q = Q (.brk ρ) := by first | exact wS_brk0
theorem wS_cnt {ρ : Slots} {Q : Out → Prop} : wS G w .cnt ρ Q = Q (.ct ρ) := by first | exact wS_cnt0
theorem wS_ifS {c t u : IR} {ρ : Slots} {Q : Out → Prop} : wS G w (.ifS c t u) ρ Q = wT G c ρ (fun b ρ1 => if b = true then wS G w t ρ1 Q else wS G w u ρ1 Q) := by first | exact wS_ifS0
theorem wS_forS {p : Pat} {k : ItK} {a b body : IR} {ρ : Slots} {Q : Out → Prop} : wS G w (.forS p k a b body) ρ Q = wI G k a b ρ (fun xs ρ1 => wF G w p body xs ρ1 Q) := by first | exact wS_forS0
theorem wS_whS {c b : IR} {ρ : Slots} {Q : Out → Prop} : wS G w (.whS c b) ρ Q = wWh G w c b w ρ Q := by first | exact wS_whS0
theorem wF_inv {p : Pat} {body : IR} {xs : List D} {ρ : Slots} {Q : Out → Prop} (I : Nat → Slots → Prop) (h0 : I 0 ρ)
    (hs : ∀ (i : Nat) x ρ, xs[i]? = some x → I i ρ → if p.slots.all (okSet ρ) = true then W (Pat.bind p x ρ) (fun ρa => wS G w body ρa (fun o => match o with
      | .nx ρ1 => I (i + 1) ρ1
      | .ct ρ1 => I (i + 1) ρ1
      | .brk ρ1 => Q (.nx ρ1)
      | .ret v ρ1 => Q (.ret v ρ1))) else False) (hd : ∀ ρ, I xs.length ρ → Q (.nx ρ)) : wF G w p body xs ρ Q := by first | exact wF_inv0 I h0 hs hd
theorem wWh_inv {c b : IR} {n : Nat} {ρ : Slots} {Q : Out → Prop} (I : Slots → Prop) (μ : Slots → Nat) (h0 : I ρ) (hn : μ ρ < n)
    (hs : ∀ ρ, I ρ → wT G c ρ (fun t ρ' => if t = true then wS G w b ρ' (fun o => match o with
      | .nx ρ1 => I ρ1 ∧ μ ρ1 < μ ρ
      | .ct ρ1 => I ρ1 ∧ μ ρ1 < μ ρ
      | .brk ρ1 => Q (.nx ρ1)
      | .ret v ρ1 => Q (.ret v ρ1)) else Q (.nx ρ'))) : wWh G w c b n ρ Q := by first | exact wWh_inv0 I μ h0 hn hs
theorem wE_compF {vs : List Nat} {p : Pat} {k : ItK} {a b c e : IR} {ρ0 ρ : Slots} {Q : Vl → Slots → Prop} {xs : List D} (f : D → Option D) (hit : wI G k a b ρ0 (fun ys ρ1 => ys = xs ∧ ρ1 = ρ)) (ho : (vs.any fun v => isOwn ρ[v]?) = false)
    (hv : (vs.all fun v => decide (v < ρ.length)) = true) (ht : ∀ x ∈ xs, W (Pat.bind p x (wipeE ρ vs)) (fun ρa => match c with
      | .nil => wE G e ρa (fun v ρc => W v.pure? (fun y => f x = some y ∧ wipeE ρc vs = wipeE ρ vs))
      | c => wE G c ρa (fun v ρb => W v.pure? (fun y => W (asBool y) (fun q => if q = true then wE G e ρb (fun v ρc => W v.pure? (fun y => f x = some y ∧ wipeE ρc vs = wipeE ρ vs)) else f x = none ∧ wipeE ρb vs = wipeE ρ vs)))))
    (q : Q (.d (.lst (xs.filterMap f))) ρ) : wE G (.comp vs p k a b c e) ρ0 Q := by first | exact wE_compF0 f hit ho hv ht q
theorem wE_comp {vs : List Nat} {p : Pat} {k : ItK} {a b c e : IR} {ρ : Slots} {Q : Vl → Slots → Prop} {xs : List D} (f : D → Option D) (hit : wI G k a b ρ (fun ys ρ1 => ys = xs ∧ ρ1 = ρ)) (ho : (vs.any fun v => isOwn ρ[v]?) = false)
    (hv : (vs.all fun v => decide (v < ρ.length)) = true) (ht : ∀ x ∈ xs, W (Pat.bind p x (wipeE ρ vs)) (fun ρa => match c with
      | .nil => wE G e ρa (fun v ρc => W v.pure? (fun y => f x = some y ∧ wipeE ρc vs = wipeE ρ vs))
      | c => wE G c ρa (fun v ρb => W v.pure? (fun y => W (asBool y) (fun q => if q = true then wE G e ρb (fun v ρc => W v.pure? (fun y => f x = some y ∧ wipeE ρc vs = wipeE ρ vs)) else f x = none ∧ wipeE ρb vs = wipeE ρ vs)))))
    (q : Q (.d (.lst (xs.filterMap f))) ρ) : wE G (.comp vs p k a b c e) ρ Q := by first | exact wE_comp0 f hit ho hv ht q
end
theorem W_mono {α : Type} {o : Option α} {Q Q' : α → Prop} (h : W o Q) (i : ∀ x, Q x → Q' x) : W o Q' := W_mono0 h i
theorem W_of {α : Type} {o : Option α} {x : α} {Q : α → Prop} (h : o = some x) (q : Q x) : W o Q := W_of0 h q
theorem W_eq {α : Type} {o : Option α} {x : α} (h : W o (fun y => y = x)) : o = some x := W_eq0 h
theorem W_call {T : Prg} {k f np n : Nat} {ir : IR} {as : List EV} {Q : EV × List EV → Prop} (h : T.fns f = some ⟨np, n, ir⟩) (hk : 1 ≤ k) (hl : as.length = np)
    (q : ∀ j, k = j + 1 → wS (Cf T j) T.w ir (as.map some ++ List.replicate (n - np) none) (fun o => W (outOf np o) Q)) : W (ev T k f as) Q := W_call0 h hk hl q
theorem W_ext {α : Type} {o : Option α} {Q Q' : α → Prop} (h : ∀ x, Q x = Q' x) : W o Q = W o Q' := by
  have : Q = Q' := funext h
  subst this; exact rfl
end Ov

set_option maxHeartbeats 4000000
namespace Ov
open PySem
theorem q_get0 {α : Type} {a : α} {l : List α} : (a :: l)[0]? = some a := (rfl)
theorem q_getS {α : Type} {a : α} {l : List α} {i : Nat} : (a :: l)[i + 1]? = l[i]? := (rfl)
theorem q_set0 {α : Type} {a b : α} {l : List α} : (a :: l).set 0 b = b :: l := (rfl)
theorem q_setS {α : Type} {a b : α} {l : List α} {i : Nat} : (a :: l).set (i + 1) b = a :: l.set i b := (rfl)
theorem q_mapC {α β : Type} {f : α → β} {a : α} {l : List α} : (a :: l).map f = f a :: l.map f := (rfl)
theorem q_mapN {α β : Type} {f : α → β} : ([] : List α).map f = [] := (rfl)
theorem q_allC {α : Type} {f : α → Bool} {a : α} {l : List α} : (a :: l).all f = (f a && l.all f) := (rfl)
theorem q_allN {α : Type} {f : α → Bool} : ([] : List α).all f = true := (rfl)
theorem q_anyC {α : Type} {f : α → Bool} {a : α} {l : List α} : (a :: l).any f = (f a || l.any f) := (rfl)
theorem q_anyN {α : Type} {f : α → Bool} : ([] : List α).any f = false := (rfl)
theorem q_takeS {α : Type} {a : α} {l : List α} {n : Nat} : (a :: l).take (n + 1) = a :: l.take n := (rfl)
theorem q_take0 {α : Type} {l : List α} : l.take 0 = [] := by simp
theorem q_appC {α : Type} {a : α} {l m : List α} : a :: l ++ m = a :: (l ++ m) := (rfl)
theorem q_appN {α : Type} {m : List α} : [] ++ m = m := (rfl)
theorem q_gdS {α : Type} {a b : α} : (some a).getD b = a := (rfl)
theorem q_gdN {α : Type} {b : α} : (none : Option α).getD b = b := (rfl)
theorem q_bS {α β : Type} {a : α} {f : α → Option β} : (some a).bind f = f a := (rfl)
theorem q_bS' {α β : Type} {a : α} {f : α → Option β} : (some a >>= f) = f a := (rfl)
theorem q_lenC {α : Type} {a : α} {l : List α} : (a :: l).length = l.length + 1 := (rfl)
theorem q_lenN {α : Type} : ([] : List α).length = 0 := (rfl)
theorem q_nf : (!false) = true := (rfl)
theorem q_nt : (!true) = false := (rfl)
theorem q_pureN : pures [] = some [] := (rfl)
theorem q_pureC {v : Vl} {r : List Vl} : pures (v :: r) = (v.pure? >>= fun x => pures r >>= fun xs => some (x :: xs)) := (rfl)
theorem q_argN {ρ : Slots} : argsOf ρ [] = some [] := (rfl)
theorem q_argC {ρ : Slots} {v : Vl} {r : List Vl} : argsOf ρ (v :: r) = (v.arg ρ >>= fun x => argsOf ρ r >>= fun xs => some (x :: xs)) := (rfl)
theorem q_pickN {α : Type} {xs : List α} : pickAll xs [] = some [] := (rfl)
theorem q_pickC {α : Type} {xs : List α} {i : Nat} {r : List Nat} : pickAll xs (i :: r) = (xs[i]? >>= fun x => pickAll xs r >>= fun q => some (x :: q)) := (rfl)
theorem q_setA {ρ : Slots} {i : Nat} {b : Bool} {fs : List (Nat × Bool)} {v : EV} {vs : List EV} : setAll ρ ((i, b) :: fs) (v :: vs) = setAll (ρ.set i (some v)) fs vs := (rfl)
theorem q_setN {ρ : Slots} : setAll ρ [] [] = ρ := (rfl)
theorem q_bindN {i : Nat} {x : D} {ρ : Slots} : Pat.bind (.nm i) x ρ = some (ρ.set i (some (.d x))) := by simp only [Pat.bind]
theorem q_bindT {p : Pat} {x : D} {ρ : Slots} : Pat.bind (.tp p) x ρ = (x.ofSeq >>= fun xs => Pat.binds p xs ρ) := by simp only [Pat.bind]
theorem q_bindsN {ρ : Slots} : Pat.binds .nil [] ρ = some ρ := by simp only [Pat.binds]
theorem q_bindsC {a b : Pat} {x : D} {xs : List D} {ρ : Slots} : Pat.binds (.cons a b) (x :: xs) ρ = (Pat.bind a x ρ >>= fun ρ1 => Pat.binds b xs ρ1) := by simp only [Pat.binds]
theorem q_slN {i : Nat} : Pat.slots (.nm i) = [i] := (rfl)
theorem q_slE : Pat.slots .nil = [] := (rfl)
theorem q_slC {a b : Pat} : Pat.slots (.cons a b) = a.slots ++ b.slots := (rfl)
theorem q_slT {p : Pat} : Pat.slots (.tp p) = p.slots := (rfl)
theorem q_ok {ρ : Slots} {i : Nat} : okSet ρ i = !isBox ρ[i]? := (rfl)
theorem q_part {ρ : Slots} {v : Vl} : partD ρ v = (v.look ρ >>= fun x => asInt x >>= fun i => some (some i)) := (rfl)
theorem wO_add {G : Cfg} {a b : IR} {ρ : Slots} {Q : List D → Slots → Prop} : wO G (.op .add a b) ρ Q = wE G (.op .add a b) ρ (fun v ρ1 => match v with
    | .d (.lst xs) => Q xs ρ1
    | _ => False) := wO_of (rfl)
theorem wO_mul {G : Cfg} {a b : IR} {ρ : Slots} {Q : List D → Slots → Prop} : wO G (.op .mul a b) ρ Q = wE G (.op .mul a b) ρ (fun v ρ1 => match v with
    | .d (.lst xs) => Q xs ρ1
    | _ => False) := wO_of (rfl)
theorem W_eqn {α : Type} {o : Option α} {x : α} (h : o = some x) {Q : α → Prop} : W o Q = Q x := by rw [h, W_some]
theorem ofString_inj {a b : String} : (Str.ofString a = Str.ofString b) = (a = b) := by
  apply propext
  constructor
  · intro h
    have h2 : (Str.ofString a).cps.toList = (Str.ofString b).cps.toList := by rw [h]
    have e : ∀ s : String, (Str.ofString s).cps.toList = s.toList.map Char.toNat := fun s => by
      rw [Str.ofString_eq_toList]
    rw [e, e] at h2
    have h3 : a.toList = b.toList := (List.map_inj_right (fun x y hxy => Char.ext (UInt32.toNat_inj.mp hxy))).mp h2
    exact String.toList_inj.mp h3
  · intro h; rw [h]
theorem cmp_eq_str {a b : Str} : cmpD .eq (.str a) (.str b) = some (decide (a = b)) := by
  simp only [cmpD, eqD, D.depth, D.eqv]; exact (rfl)
theorem cmp_ne_str {a b : Str} : cmpD .ne (.str a) (.str b) = some (!decide (a = b)) := by
  simp only [cmpD, eqD, D.depth, D.eqv]; exact (rfl)
theorem cmp_eq_int {a b : Int} : cmpD .eq (.int a) (.int b) = some (decide (a = b)) := by
  simp only [cmpD, eqD, D.depth, D.eqv]; exact (rfl)
theorem cmp_ne_int {a b : Int} : cmpD .ne (.int a) (.int b) = some (!decide (a = b)) := by
  simp only [cmpD, eqD, D.depth, D.eqv]; exact (rfl)
theorem cmp_eq_bl {a b : Bool} : cmpD .eq (.bl a) (.bl b) = some (a == b) := by
  simp only [cmpD, eqD, D.depth, D.eqv]; exact (rfl)
theorem cmp_ne_bl {a b : Bool} : cmpD .ne (.bl a) (.bl b) = some (!(a == b)) := by
  simp only [cmpD, eqD, D.depth, D.eqv]; exact (rfl)
theorem cmp_lt {i j : Int} : cmpD .lt (.int i) (.int j) = some (decide (i < j)) := (rfl)
theorem cmp_le {i j : Int} : cmpD .le (.int i) (.int j) = some (decide (i ≤ j)) := (rfl)
theorem cmp_gt {i j : Int} : cmpD .gt (.int i) (.int j) = some (decide (j < i)) := (rfl)
theorem cmp_ge {i j : Int} : cmpD .ge (.int i) (.int j) = some (decide (j ≤ i)) := (rfl)
theorem op_add {i j : Int} : opD .add (.int i) (.int j) = some (.int (i + j)) := (rfl)
theorem op_addL {a b : List D} : opD .add (.lst a) (.lst b) = if a.length + b.length ≤ sizeLine then some (.lst (a ++ b)) else none := (rfl)
theorem op_addT {a b : List D} : opD .add (.tup a) (.tup b) = if a.length + b.length ≤ sizeLine then some (.tup (a ++ b)) else none := (rfl)
theorem op_sub {i j : Int} : opD .sub (.int i) (.int j) = some (.int (i - j)) := (rfl)
theorem op_mul {i j : Int} : opD .mul (.int i) (.int j) = if (small i || small j) = true then some (.int (i * j)) else none := (rfl)
theorem op_mulL {a : List D} {j : Int} : opD .mul (.lst a) (.int j) = if a.length * j.toNat ≤ sizeLine ∧ -(2 ^ 63) ≤ j ∧ j < 2 ^ 63 then some (.lst (List.replicate j.toNat a).flatten) else none := (rfl)
theorem op_fdiv {i j : Int} : opD .fdiv (.int i) (.int j) = if 0 < j ∧ j.natAbs.log2 < 9000 then some (.int (i / j)) else none := (rfl)
theorem op_mod {i j : Int} : opD .mod (.int i) (.int j) = if 0 < j then some (.int (i % j)) else none := (rfl)
theorem op_pow {i j : Int} : opD .pow (.int i) (.int j) = if 0 ≤ j ∧ j ≤ 1000000 ∧ i.natAbs < 2 ^ 64 then some (.int (i ^ j.toNat)) else none := (rfl)
theorem size_int : (sizeLine : Int) = (sizeLine : Nat) := (rfl)
theorem small_of {i : Int} (h : -(2 ^ 64) < i ∧ i < 2 ^ 64) : small i = true := decide_eq_true h
theorem sizeLine_ge : 1000000 ≤ sizeLine := by decide
theorem looks_nil {ρ : Slots} : looks ρ [] = some [] := (rfl)
theorem looks_cons {ρ : Slots} {v : Vl} {r : List Vl} : looks ρ (v :: r) = (v.look ρ >>= fun x => looks ρ r >>= fun xs => some (x :: xs)) := (rfl)
theorem ixD_lst {xs : List D} {n : Int} : ixD (.lst xs) n = atD xs n := (rfl)
theorem ixD_tup {xs : List D} {n : Int} : ixD (.tup xs) n = atD xs n := (rfl)
theorem ixD_seq {x : D} {xs : List D} {n : Int} (h : x.ofSeq = some xs) : ixD x n = atD xs n := by
  cases x <;> cases h <;> rfl
theorem ixN'_nat {n i : Nat} (h : i < n) : ixN' n (i : Int) = some i := by
  unfold ixN'
  rw [if_pos (by omega), if_pos (by omega)]
  simp
theorem ixN'_0 {n : Nat} : ixN' (n + 1) 0 = some 0 := ixN'_nat (i := 0) (by omega)
theorem ixN'_1 {n : Nat} : ixN' (n + 1 + 1) 1 = some 1 := ixN'_nat (i := 1) (by omega)
theorem ixN'_2 {n : Nat} : ixN' (n + 1 + 1 + 1) 2 = some 2 := ixN'_nat (i := 2) (by omega)
theorem atD_nat {xs : List D} {i : Nat} {x : D} (h : xs[i]? = some x) : atD xs (i : Int) = some x := by
  have hi := (List.getElem?_eq_some_iff.mp h).1
  unfold atD
  rw [ixN'_nat hi]
  exact h
theorem atD_0 {x : D} {xs : List D} : atD (x :: xs) 0 = some x := atD_nat (i := 0) rfl
theorem atD_1 {x y : D} {xs : List D} : atD (x :: y :: xs) 1 = some y := atD_nat (i := 1) rfl
theorem atD_2 {x y z : D} {xs : List D} : atD (x :: y :: z :: xs) 2 = some z := atD_nat (i := 2) rfl
theorem atD_3 {x y z u : D} {xs : List D} : atD (x :: y :: z :: u :: xs) 3 = some u := atD_nat (i := 3) rfl
theorem atD_int {xs : List D} {n : Int} {x : D} (h0 : 0 ≤ n) (h : xs[n.toNat]? = some x) : atD xs n = some x := by
  have := atD_nat h
  rwa [Int.toNat_of_nonneg h0] at this
theorem atD_last {xs : List D} {x : D} (h : xs.getLast? = some x) : atD xs (-1) = some x := by
  rw [List.getLast?_eq_getElem?] at h
  have hi := (List.getElem?_eq_some_iff.mp h).1
  unfold atD ixN'
  rw [if_neg (by omega), if_pos (by omega)]
  show xs[(-1 + (xs.length : Int)).toNat]? = _
  rw [show (-1 + (xs.length : Int)).toNat = xs.length - 1 by omega]
  exact h
theorem look_d {ρ : Slots} {x : D} : Vl.look ρ (.d x) = some x := (rfl)
def lookO : Option (Option EV) → Option D
  | some (some (.own _ xs)) => some (.lst xs)
  | _ => none
theorem lookO_own {b : Bool} {xs : List D} : lookO (some (some (.own b xs))) = some (.lst xs) := (rfl)
theorem look_s {ρ : Slots} {i : Nat} : Vl.look ρ (.slot i) = lookO ρ[i]? := by
  cases h : ρ[i]? with
  | none => simp [Vl.look, lookO, h]
  | some o =>
    cases o with
    | none => simp [Vl.look, lookO, h]
    | some e => cases e <;> simp [Vl.look, lookO, h]
def lookSO : Option (Option EV) → Option D
  | some (some (.own _ xs)) => some (.lst xs)
  | some (some (.scr ns)) => some (.lst (ns.map D.int))
  | _ => none
theorem lookSO_own {b : Bool} {xs : List D} : lookSO (some (some (.own b xs))) = some (.lst xs) := (rfl)
theorem lookSO_scr {xs : List Int} : lookSO (some (some (.scr xs))) = some (.lst (xs.map D.int)) := (rfl)
theorem lookS_d {ρ : Slots} {x : D} : Vl.lookS ρ (.d x) = some x := (rfl)
theorem lookS_s {ρ : Slots} {i : Nat} : Vl.lookS ρ (.slot i) = lookSO ρ[i]? := by
  cases h : ρ[i]? with
  | none => simp [Vl.lookS, lookSO, h]
  | some o =>
    cases o with
    | none => simp [Vl.lookS, lookSO, h]
    | some e => cases e <;> simp [Vl.lookS, lookSO, h]
theorem pure_d {x : D} : Vl.pure? (.d x) = some x := (rfl)
theorem arg_d {ρ : Slots} {x : D} : Vl.arg ρ (.d x) = some (.d x) := (rfl)
def argO : Option (Option EV) → Option EV
  | some (some (.own _ xs)) => some (.own true xs)
  | some (some (.scr ns)) => some (.scr ns)
  | _ => none
theorem argO_own {b : Bool} {xs : List D} : argO (some (some (.own b xs))) = some (.own true xs) := (rfl)
theorem argO_scr {xs : List Int} : argO (some (some (.scr xs))) = some (.scr xs) := (rfl)
theorem arg_s {ρ : Slots} {i : Nat} : Vl.arg ρ (.slot i) = argO ρ[i]? := by
  cases h : ρ[i]? with
  | none => simp [Vl.arg, argO, h]
  | some o =>
    cases o with
    | none => simp [Vl.arg, argO, h]
    | some e => cases e <;> simp [Vl.arg, argO, h]
theorem toD_d {x : D} : EV.toD (.d x) = some x := (rfl)
theorem toD_own {b : Bool} {x : List D} : EV.toD (.own b x) = some (.lst x) := (rfl)
theorem asInt_int {i : Int} : asInt (.int i) = some i := (rfl)
theorem asBool_bl {i : Bool} : asBool (.bl i) = some i := (rfl)
theorem reown_own {ρ : Slots} {i : Nat} {b : Bool} {xs ys : List D} (h : ρ[i]? = some (some (.own b ys))) : reown ρ i xs = ρ.set i (some (.own b xs)) := by
  unfold reown; rw [h]
theorem reown_0 {b : Bool} {xs ys : List D} {r : Slots} : reown (some (.own b ys) :: r) 0 xs = some (.own b xs) :: r := (rfl)
theorem reown_succ {o : Option EV} {r : Slots} {i : Nat} {xs : List D} : reown (o :: r) (i + 1) xs = o :: reown r i xs := by
  unfold reown
  simp only [List.getElem?_cons_succ]
  split <;> simp_all
theorem putBack_s {ρ : Slots} {i : Nat} {vs : List Vl} {b : Bool} {xs : List D} {es : List EV} : putBack ρ (.slot i :: vs) (.own b xs :: es) = putBack (reown ρ i xs) vs es := (rfl)
theorem putBack_scr {ρ : Slots} {i : Nat} {vs : List Vl} {xs : List Int} {es : List EV} : putBack ρ (.slot i :: vs) (.scr xs :: es) = putBack ρ vs es := (rfl)
theorem putBack_d {ρ : Slots} {x : D} {vs : List Vl} {e : EV} {es : List EV} : putBack ρ (.d x :: vs) (e :: es) = putBack ρ vs es := by cases e <;> rfl
theorem putBack_n {ρ : Slots} {es : List EV} : putBack ρ [] es = ρ := by cases es <;> rfl
theorem slotsOf_n : slotsOf [] = [] := (rfl)
theorem slotsOf_s {i : Nat} {r : List Vl} : slotsOf (.slot i :: r) = i :: slotsOf r := (rfl)
theorem slotsOf_d {x : D} {r : List Vl} : slotsOf (.d x :: r) = slotsOf r := (rfl)
theorem outOf_ret {np : Nat} {v : EV} {ρ : Slots} : outOf np (.ret v ρ) = some (v, (ρ.take np).map fun o => o.getD (.d .non)) := (rfl)
theorem outOf_nx {np : Nat} {ρ : Slots} : outOf np (.nx ρ) = some (.d .non, (ρ.take np).map fun o => o.getD (.d .non)) := (rfl)
theorem isOwn_own {b : Bool} {x : List D} : isOwn (some (some (.own b x))) = true := (rfl)
theorem isOwn_d {x : D} : isOwn (some (some (.d x))) = false := (rfl)
theorem isOwn_n : isOwn (some none) = false := (rfl)
theorem isBox_t {x : List D} : isBox (some (some (.own true x))) = true := (rfl)
theorem isBox_f {x : List D} : isBox (some (some (.own false x))) = false := (rfl)
theorem isBox_d {x : D} : isBox (some (some (.d x))) = false := (rfl)
theorem isBox_n : isBox (some none) = false := (rfl)
theorem ofSeq_t {xs : List D} : D.ofSeq (.tup xs) = some xs := (rfl)
theorem ofSeq_l {xs : List D} : D.ofSeq (.lst xs) = some xs := (rfl)
theorem ofLst_l {xs : List D} : D.ofLst (.lst xs) = some xs := (rfl)
theorem isnD_non {b : Bool} : isnD b .non = !b := (rfl)
theorem isnD_int {b : Bool} {i : Int} : isnD b (.int i) = b := (rfl)
theorem isnD_str {b : Bool} {i : Str} : isnD b (.str i) = b := (rfl)
theorem isnD_tup {b : Bool} {i : List D} : isnD b (.tup i) = b := (rfl)
theorem isnD_lst {b : Bool} {i : List D} : isnD b (.lst i) = b := (rfl)
theorem lenD_l {xs : List D} : lenD (.lst xs) = some (.int xs.length) := (rfl)
theorem lenD_t {xs : List D} : lenD (.tup xs) = some (.int xs.length) := (rfl)
theorem lenD_seq {x : D} {xs : List D} (h : x.ofSeq = some xs) : lenD x = some (.int xs.length) := by
  cases x <;> cases h <;> rfl
theorem bi_abs {i : Int} : biD .abs [.int i] = some (.int (if i < 0 then -i else i)) := (rfl)
theorem bi_intb {b : Bool} : biD .int [.bl b] = some (.int (if b = true then 1 else 0)) := (rfl)
theorem bi_int {b : Int} : biD .int [.int b] = some (.int b) := (rfl)
theorem bi_min2 {i j : Int} : biD .min2 [.int i, .int j] = some (.int (if j < i then j else i)) := (rfl)
theorem bi_max2 {i j : Int} : biD .max2 [.int i, .int j] = some (.int (if j > i then j else i)) := (rfl)
theorem bi_tuple {xs : List D} : biD .tuple [.lst xs] = some (.tup xs) := (rfl)
theorem bi_tuple' {xs : List D} : biD .tuple [.tup xs] = some (.tup xs) := (rfl)
theorem bi_list {xs : List D} : biD .list [.lst xs] = some (.lst xs) := (rfl)
theorem bi_list' {xs : List D} : biD .list [.tup xs] = some (.lst xs) := (rfl)
theorem pow7 : opD .pow (.int 10) (.int 7) = some (.int 10000000) := (rfl)
theorem pow18 : opD .pow (.int 10) (.int 18) = some (.int 1000000000000000000) := (rfl)
theorem pow12 : opD .pow (.int 10) (.int 12) = some (.int 1000000000000) := (rfl)
/-! ### draws -/
/-- the box: what is left of a great number, the seed, the counter -/
theorem q_slotN {ρ : Slots} : slotsD ρ [] = some [] := (rfl)
theorem q_slotC {ρ : Slots} {j : Nat} {js : List Nat} : slotsD ρ (j :: js) = ((slO ρ[j]?).bind fun x => (slotsD ρ js).bind fun xs => some (x :: xs)) := by
  simp only [slotsD]
  unfold slO
  split <;> rename_i h
  · simp only [h, Option.bind_some]
    cases slotsD ρ js <;> rfl
  · first
    | (split
       · rename_i x hx; exact absurd hx (h x)
       · rfl)
    | rfl
theorem slO_d {x : D} : slO (some (some (.d x))) = some x := (rfl)
theorem isT_t : isTrueD (.d (.bl true)) = true := (rfl)
def BoxOk (a b c : Int) : Prop := 0 ≤ a ∧ 0 ≤ b ∧ b < 2 ^ 62 ∧ 0 ≤ c ∧ c ≤ 10 ^ 12
def bx (a b c : Int) : List D := [.int a, .int b, .int c]
theorem log2_small {m : Int} (h0 : 0 < m) (h : m ≤ 10 ^ 100) : 0 < m ∧ m.natAbs.log2 < 9000 := by
  refine ⟨h0, ?_⟩
  have h1 : m.natAbs < 2 ^ 9000 := by
    have : (m.natAbs : Int) ≤ 10 ^ 100 := by omega
    have e : (10 ^ 100 : Nat) < 2 ^ 9000 := by decide +kernel
    have : m.natAbs ≤ 10 ^ 100 := by exact_mod_cast this
    omega
  exact (Nat.log2_lt (by omega)).mpr h1
end Ov

set_option maxHeartbeats 4000000
local macro_rules
  | `(tactic| simp_arith only [$xs,*] $[$l:location]?) => `(tactic| simp -implicitDefEqProofs only [↓Ov.wE_var, ↓Ov.wE_glob, ↓Ov.wE_int, ↓Ov.wE_str, ↓Ov.wE_bl, ↓Ov.wE_non, ↓Ov.wE_op, ↓Ov.wE_neg, ↓Ov.wE_cmp, ↓Ov.wE_chain, ↓Ov.wE_isn, ↓Ov.wE_stp, ↓Ov.wE_isb, ↓Ov.wE_one, ↓Ov.wE_band, ↓Ov.wE_bor, ↓Ov.wE_bnot, ↓Ov.wE_ife, ↓Ov.wE_tup, ↓Ov.wE_lst, ↓Ov.wE_idx, ↓Ov.wE_slc, ↓Ov.wE_call, ↓Ov.wE_callK, ↓Ov.wE_callT, ↓Ov.wE_lenS, ↓Ov.wE_bi, ↓Ov.wE_isi, ↓Ov.wE_dget, ↓Ov.wE_lrng, ↓Ov.wE_gdg, ↓Ov.wE_mt, ↓Ov.wE_frz, ↓Ov.wE_mu, ↓Ov.wL_nil, ↓Ov.wL_cons, ↓Ov.wT_eq, ↓Ov.wI_seq, ↓Ov.wI_rng, ↓Ov.wI_enm, ↓Ov.wI_zip, ↓Ov.wO_call, ↓Ov.wO_lst, ↓Ov.wO_comp, ↓Ov.wO_add, ↓Ov.wO_mul, ↓Ov.wO_slc, ↓Ov.wO_lrng, ↓Ov.wO_list, ↓Ov.wP_nil, ↓Ov.wP_own, ↓Ov.wP_dat, ↓Ov.wC_def, ↓Ov.partW_nil, ↓Ov.W_some, ↓Ov.W_none, ↓Ov.W_pure, ↓Ov.W_bind, ↓Ov.W_bind', ↓Ov.W_map, ↓Ov.W_ite, ↓Ov.thenW_nx, ↓Ov.thenW_ret, ↓Ov.thenW_brk, ↓Ov.thenW_ct, Ov.wS_skip, Ov.wS_seq, Ov.wS_asg, Ov.wS_asgO, Ov.wS_par, Ov.wS_setI, Ov.wS_aug, Ov.wS_prb, Ov.wS_expr, Ov.wS_ret, Ov.wS_retO, Ov.wS_retV, Ov.wS_retN, Ov.wS_brk, Ov.wS_cnt, Ov.wS_ifS, Ov.wS_forS, Ov.wS_whS, Ov.wv_d, Ov.wv_own, Ov.wv_scr, Ov.ownF_own, Ov.ownA_own, Ov.W_some, Ov.W_none, Ov.W_pure, Ov.Cf_cf, Ov.Cf_gd, Ov.Cf_sh, Ov.Cf_dd, Ov.look_d, Ov.look_s, Ov.lookO_own, Ov.lookS_d, Ov.lookS_s, Ov.lookSO_own, Ov.lookSO_scr, Ov.pure_d, Ov.looks_nil, Ov.looks_cons, Ov.q_pureN, Ov.q_pureC, Ov.q_argN, Ov.q_argC, Ov.arg_d, Ov.arg_s, Ov.argO_own, Ov.argO_scr, Ov.slotsOf_n, Ov.slotsOf_s, Ov.slotsOf_d, Ov.putBack_s, Ov.putBack_scr, Ov.putBack_d, Ov.putBack_n, Ov.reown_0, Ov.reown_succ, Ov.toD_d, Ov.toD_own, Ov.asInt_int, Ov.asBool_bl, Ov.ixD_lst, Ov.ixD_tup, Ov.ixN'_0, Ov.ixN'_1, Ov.ixN'_2, Ov.atD_0, Ov.atD_1, Ov.atD_2, Ov.atD_3, Ov.op_add, Ov.op_addL, Ov.op_addT, Ov.op_sub, Ov.op_mul, Ov.op_mulL, Ov.op_fdiv, Ov.op_mod, Ov.pow7, Ov.pow18, Ov.pow12, Ov.cmp_lt, Ov.cmp_le, Ov.cmp_gt, Ov.cmp_ge, Ov.cmp_eq_str, Ov.cmp_ne_str, Ov.cmp_eq_int, Ov.cmp_ne_int, Ov.cmp_eq_bl, Ov.cmp_ne_bl, Ov.lenD_l, Ov.lenD_t, Ov.bi_abs, Ov.bi_intb, Ov.bi_int, Ov.bi_min2, Ov.bi_max2, Ov.bi_tuple, Ov.bi_tuple', Ov.bi_list, Ov.bi_list', Ov.q_setA, Ov.q_setN, Ov.q_bindN, Ov.q_bindT, Ov.q_bindsN, Ov.q_bindsC, Ov.q_slN, Ov.q_slE, Ov.q_slC, Ov.q_slT, Ov.q_slotN, Ov.q_slotC, Ov.slO_d, Ov.isT_t, Ov.q_ok, Ov.isBox_t, Ov.isBox_f, Ov.isBox_d, Ov.isBox_n, Ov.isOwn_own, Ov.isOwn_d, Ov.isOwn_n, Ov.outOf_ret, Ov.outOf_nx, Ov.q_part, Ov.q_pickN, Ov.q_pickC, Ov.ofSeq_t, Ov.ofSeq_l, Ov.ofLst_l, Ov.isnD_non, Ov.isnD_int, Ov.isnD_str, Ov.isnD_tup, Ov.isnD_lst, Ov.q_get0, Ov.q_getS, Ov.q_set0, Ov.q_setS, Ov.q_mapC, Ov.q_mapN, Ov.q_allC, Ov.q_allN, Ov.q_anyC, Ov.q_anyN, Ov.q_takeS, Ov.q_take0, List.nodup_cons, List.nodup_nil, List.not_mem_nil, Ov.q_appC, Ov.q_appN, List.append_nil, Ov.ofString_inj, String.reduceEq, decide_true, decide_false, Ov.q_bS, Ov.q_bS', Ov.q_gdS, Ov.q_gdN, Bool.and_true, Bool.true_and, Ov.q_nf, Ov.q_nt, Bool.or_false, Bool.false_or, Bool.false_eq_true, decide_eq_true_eq, if_true, if_false, not_false_eq_true, and_true, true_and, and_self, Ov.q_lenC, Ov.q_lenN, $xs,*] $[$l:location]?)
local macro_rules
  | `(tactic| simp_arith [$xs,*] $[$l:location]?) => `(tactic| simp -implicitDefEqProofs only [↓Ov.wE_var, ↓Ov.wE_glob, ↓Ov.wE_int, ↓Ov.wE_str, ↓Ov.wE_bl, ↓Ov.wE_non, ↓Ov.wE_op, ↓Ov.wE_neg, ↓Ov.wE_cmp, ↓Ov.wE_chain, ↓Ov.wE_isn, ↓Ov.wE_stp, ↓Ov.wE_isb, ↓Ov.wE_one, ↓Ov.wE_band, ↓Ov.wE_bor, ↓Ov.wE_bnot, ↓Ov.wE_ife, ↓Ov.wE_tup, ↓Ov.wE_lst, ↓Ov.wE_idx, ↓Ov.wE_slc, ↓Ov.wE_call, ↓Ov.wE_callK, ↓Ov.wE_callT, ↓Ov.wE_lenS, ↓Ov.wE_bi, ↓Ov.wE_isi, ↓Ov.wE_dget, ↓Ov.wE_lrng, ↓Ov.wE_gdg, ↓Ov.wE_mt, ↓Ov.wE_frz, ↓Ov.wE_mu, ↓Ov.wL_nil, ↓Ov.wL_cons, ↓Ov.wT_eq, ↓Ov.wI_seq, ↓Ov.wI_rng, ↓Ov.wI_enm, ↓Ov.wI_zip, ↓Ov.wO_call, ↓Ov.wO_lst, ↓Ov.wO_comp, ↓Ov.wO_add, ↓Ov.wO_mul, ↓Ov.wO_slc, ↓Ov.wO_lrng, ↓Ov.wO_list, ↓Ov.wP_nil, ↓Ov.wP_own, ↓Ov.wP_dat, ↓Ov.wC_def, ↓Ov.partW_nil, ↓Ov.W_some, ↓Ov.W_none, ↓Ov.W_pure, ↓Ov.W_bind, ↓Ov.W_bind', ↓Ov.W_map, ↓Ov.W_ite, ↓Ov.thenW_nx, ↓Ov.thenW_ret, ↓Ov.thenW_brk, ↓Ov.thenW_ct, Ov.wv_d, Ov.wv_own, Ov.wv_scr, Ov.ownF_own, Ov.ownA_own, Ov.W_some, Ov.W_none, Ov.W_pure, Ov.Cf_cf, Ov.Cf_gd, Ov.Cf_sh, Ov.Cf_dd, Ov.look_d, Ov.look_s, Ov.lookO_own, Ov.lookS_d, Ov.lookS_s, Ov.lookSO_own, Ov.lookSO_scr, Ov.pure_d, Ov.looks_nil, Ov.looks_cons, Ov.q_pureN, Ov.q_pureC, Ov.q_argN, Ov.q_argC, Ov.arg_d, Ov.arg_s, Ov.argO_own, Ov.argO_scr, Ov.slotsOf_n, Ov.slotsOf_s, Ov.slotsOf_d, Ov.putBack_s, Ov.putBack_scr, Ov.putBack_d, Ov.putBack_n, Ov.reown_0, Ov.reown_succ, Ov.toD_d, Ov.toD_own, Ov.asInt_int, Ov.asBool_bl, Ov.ixD_lst, Ov.ixD_tup, Ov.ixN'_0, Ov.ixN'_1, Ov.ixN'_2, Ov.atD_0, Ov.atD_1, Ov.atD_2, Ov.atD_3, Ov.op_add, Ov.op_addL, Ov.op_addT, Ov.op_sub, Ov.op_mul, Ov.op_mulL, Ov.op_fdiv, Ov.op_mod, Ov.pow7, Ov.pow18, Ov.pow12, Ov.cmp_lt, Ov.cmp_le, Ov.cmp_gt, Ov.cmp_ge, Ov.cmp_eq_str, Ov.cmp_ne_str, Ov.cmp_eq_int, Ov.cmp_ne_int, Ov.cmp_eq_bl, Ov.cmp_ne_bl, Ov.lenD_l, Ov.lenD_t, Ov.bi_abs, Ov.bi_intb, Ov.bi_int, Ov.bi_min2, Ov.bi_max2, Ov.bi_tuple, Ov.bi_tuple', Ov.bi_list, Ov.bi_list', Ov.q_setA, Ov.q_setN, Ov.q_bindN, Ov.q_bindT, Ov.q_bindsN, Ov.q_bindsC, Ov.q_slN, Ov.q_slE, Ov.q_slC, Ov.q_slT, Ov.q_slotN, Ov.q_slotC, Ov.slO_d, Ov.isT_t, Ov.q_ok, Ov.isBox_t, Ov.isBox_f, Ov.isBox_d, Ov.isBox_n, Ov.isOwn_own, Ov.isOwn_d, Ov.isOwn_n, Ov.outOf_ret, Ov.outOf_nx, Ov.q_part, Ov.q_pickN, Ov.q_pickC, Ov.ofSeq_t, Ov.ofSeq_l, Ov.ofLst_l, Ov.isnD_non, Ov.isnD_int, Ov.isnD_str, Ov.isnD_tup, Ov.isnD_lst, Ov.q_get0, Ov.q_getS, Ov.q_set0, Ov.q_setS, Ov.q_mapC, Ov.q_mapN, Ov.q_allC, Ov.q_allN, Ov.q_anyC, Ov.q_anyN, Ov.q_takeS, Ov.q_take0, List.nodup_cons, List.nodup_nil, List.not_mem_nil, Ov.q_appC, Ov.q_appN, List.append_nil, Ov.ofString_inj, String.reduceEq, decide_true, decide_false, Ov.q_bS, Ov.q_bS', Ov.q_gdS, Ov.q_gdN, Bool.and_true, Bool.true_and, Ov.q_nf, Ov.q_nt, Bool.or_false, Bool.false_or, Bool.false_eq_true, decide_eq_true_eq, if_true, if_false, not_false_eq_true, and_true, true_and, and_self, Ov.q_lenC, Ov.q_lenN, $xs,*] $[$l:location]?)
namespace Ov
open PySem
theorem sm_l {i j : Int} (h : -(2 ^ 64) < i ∧ i < 2 ^ 64) : (small i || small j) = true := by rw [small_of h]; rfl
theorem sm_r {i j : Int} (h : -(2 ^ 64) < j ∧ j < 2 ^ 64) : (small i || small j) = true := by rw [small_of h, Bool.or_true]
structure Dr (T : Prg) : Prop where
  cell_at : T.fns 11 = some fn_cell_at
  box : T.fns 12 = some fn_box
  take : T.fns 13 = some fn_take
  of : T.fns 14 = some fn_of
structure Core (T : Prg) : Prop extends Dr T where
  same : T.fns 15 = some fn_same
  lists : T.fns 16 = some fn_lists
  half : T.fns 17 = some fn_half
/-- a box whose counter is at most n -/
def Bx (n : Nat) (B : List D) : Prop := ∃ x y z : Int, B = [.int x, .int y, .int z] ∧ 0 ≤ x ∧ 0 ≤ y ∧ y < 2 ^ 62 ∧ 0 ≤ z ∧ z ≤ n
theorem Bx.mono {n m : Nat} {B : List D} (h : Bx n B) (hm : n ≤ m) : Bx m B := by
  obtain ⟨x, y, z, e, h1, h2, h3, h4, h5⟩ := h
  exact ⟨x, y, z, e, h1, h2, h3, h4, by omega⟩
section
variable {T : Prg} {k n : Nat} {b : Bool} {B : List D} {m : Int} {Q : EV × List EV → Prop}
theorem W_take1 (hT : Dr T) (hk : 1 ≤ k) (hB : Bx n B) (hn : n ≤ 10 ^ 12) (hm : 0 < m) (hm2 : m ≤ 10 ^ 7) (q : ∀ r B', 0 ≤ r → r < m → Bx (n + 1) B' → Q (.d (.int r), [.own b B', .d (.int m)])) : W (ev T k 13 [.own b B, .d (.int m)]) Q := by
  obtain ⟨x, y, z, rfl, hx, hy, hy2, hz, hz2⟩ := hB
  refine W_call hT.take hk rfl fun j hj => ?_
  show wS _ _ ir_take [some (.own b _), some (.d (.int m)), none, none, none] _
  simp_arith only [ir_take]
  by_cases h1 : 0 < x
  · rw [if_pos h1, if_pos hm, if_pos (log2_small hm (by omega))]
    exact q _ _ (Int.emod_nonneg _ (by omega)) (Int.emod_lt_of_pos _ hm) ⟨_, _, _, rfl, Int.ediv_nonneg hx (by omega), hy, hy2, hz, by omega⟩
  · rw [if_neg h1, if_neg (by omega)]
    have e1 := Int.emod_nonneg ((y + 48271 * (z + 1)) * (39373 + (z + 1)) % 2147483647) (show (40009 : Int) ≠ 0 by decide)
    have e2 := Int.emod_lt_of_pos ((y + 48271 * (z + 1)) * (39373 + (z + 1)) % 2147483647) (show (0 : Int) < 40009 by decide)
    rw [if_pos (sm_l (by decide)), if_pos (sm_r (by omega)), if_pos (by decide), if_pos (by decide), if_pos (by decide), if_pos (sm_r (by omega)), if_pos (by decide), if_pos (sm_r (by decide)), if_pos (by decide), if_pos (by decide), if_pos hm]
    exact q _ _ (Int.emod_nonneg _ (by omega)) (Int.emod_lt_of_pos _ hm) ⟨_, _, _, rfl, hx, hy, hy2, by omega, by omega⟩
/-- a draw -/
theorem W_take (hT : Dr T) (hk : 2 ≤ k) (hB : Bx n B) (hn : n + 2 ≤ 10 ^ 12) (hm : 0 < m) (hm2 : m ≤ 10 ^ 13) (q : ∀ r B', 0 ≤ r → r < m → Bx (n + 2) B' → Q (.d (.int r), [.own b B', .d (.int m)])) : W (ev T k 13 [.own b B, .d (.int m)]) Q := by
  by_cases h7 : m ≤ 10 ^ 7
  · exact W_take1 hT (by omega) hB (by omega) hm h7 fun r B' h1 h2 h3 => q r B' h1 h2 (h3.mono (by omega))
  obtain ⟨x, y, z, rfl, hx, hy, hy2, hz, hz2⟩ := id hB
  refine W_call hT.take (by omega) rfl fun j hj => ?_
  show wS _ _ ir_take [some (.own b _), some (.d (.int m)), none, none, none] _
  simp_arith only [ir_take]
  by_cases h1 : 0 < x
  · rw [if_pos h1, if_pos hm, if_pos (log2_small hm (by omega))]
    exact q _ _ (Int.emod_nonneg _ (by omega)) (Int.emod_lt_of_pos _ hm) ⟨_, _, _, rfl, Int.ediv_nonneg hx (by omega), hy, hy2, hz, by omega⟩
  · rw [if_neg h1, if_pos (by omega)]
    refine W_take1 hT (by omega) hB (by omega) (by decide) (by decide) fun r B' h2 h3 hB' => ?_
    simp_arith only []
    rw [if_pos (by decide)]
    refine W_take1 hT (by omega) hB' (by omega) (by omega) (by omega) fun r2 B2 h4 h5 hB2 => ?_
    simp_arith only []
    rw [if_pos (sm_l (by decide)), if_pos hm]
    exact q _ _ (Int.emod_nonneg _ (by omega)) (Int.emod_lt_of_pos _ hm) hB2
theorem W_pick (hT : Dr T) (hk : 3 ≤ k) (hB : Bx n B) (hn : n + 2 ≤ 10 ^ 12) {s : D} {xs : List D} (hs : s.ofSeq = some xs) (h0 : xs ≠ []) (h1 : xs.length ≤ 10 ^ 7) (q : ∀ x B', x ∈ xs → Bx (n + 2) B' → Q (.d x, [.own b B', .d s])) : W (ev T k 14 [.own b B, .d s]) Q := by
  refine W_call hT.of (by omega) rfl fun j hj => ?_
  show wS _ _ ir_of [some (.own b _), some (.d s)] _
  have hl : 0 < xs.length := List.length_pos_iff.mpr h0
  simp_arith only [ir_of, lenD_seq hs]
  refine W_take hT (by omega) hB hn (by omega) (by omega) fun r B' h2 h3 hB' => ?_
  have hlt : r.toNat < xs.length := by omega
  simp_arith only [ixD_seq hs, atD_int h2 (List.getElem?_eq_getElem hlt)]
  exact q _ _ (List.getElem_mem hlt) hB'
theorem W_box (hT : Dr T) (hk : 2 ≤ k) {ns : List Int} {i : Int} (h0 : 0 ≤ i) (hi : i ≤ 1000) (q : ∀ B', Bx 0 B' → Q (.own false B', [.scr ns, .d (.int i)])) : W (ev T k 12 [.scr ns, .d (.int i)]) Q := by
  refine W_call hT.box (by omega) rfl fun j hj => ?_
  show wS _ _ ir_box [some (.scr ns), some (.d (.int i)), none] _
  simp_arith only [ir_box]
  have hc : ∃ c : Int, ev T j 11 [.scr ns, .d (.int i)] = some (.d (.int c), [.scr ns, .d (.int i)]) := by
    suffices h : W (ev T j 11 [.scr ns, .d (.int i)]) (fun q => ∃ c : Int, q = (.d (.int c), [.scr ns, .d (.int i)])) by
      obtain ⟨q, h1, c, h2⟩ := h
      exact ⟨c, by rw [h1, h2]⟩
    refine W_call hT.cell_at (by omega) rfl fun j hj => ?_
    show wS _ _ ir_cell_at [some (.scr ns), some (.d (.int i))] _
    simp_arith only [ir_cell_at]
    by_cases hl : i < (ns.map D.int).length
    · rw [if_pos hl]
      have hlt : i.toNat < ns.length := by rw [List.length_map] at hl; omega
      have e : atD (ns.map D.int) i = some (.int ns[i.toNat]) := atD_int h0 (by rw [List.getElem?_map, List.getElem?_eq_getElem hlt]; rfl)
      simp_arith only [e]
      exact ⟨_, rfl⟩
    · rw [if_neg hl]
      exact ⟨_, rfl⟩
  obtain ⟨c, hc⟩ := hc
  rw [hc]
  simp_arith only []
  have e1 := Int.emod_nonneg c (show (2305843009213693951 : Int) ≠ 0 by decide)
  have e2 := Int.emod_lt_of_pos c (show (0 : Int) < 2305843009213693951 by decide)
  have e3 : ∀ p : Prop, [Decidable p] → -(2 ^ 64) < (if p then (1 : Int) else 0) ∧ (if p then (1 : Int) else 0) < 2 ^ 64 := fun p _ => by split <;> decide
  rw [if_pos (sm_r (e3 _)), if_pos (by decide), if_pos (sm_l (by decide)), if_pos (by decide)]
  refine q _ ⟨_, _, _, rfl, ?_, by omega, by omega, by omega, by omega⟩
  refine Int.mul_nonneg (by split <;> omega) ?_
  generalize (if c < 0 then -c else c) = u
  split <;> omega
end
/-! ### equal, and of the same kinds at every depth -/
theorem items_t {xs : List D} : D.items (.tup xs) = some xs := rfl
theorem items_l {xs : List D} : D.items (.lst xs) = some xs := rfl
theorem zipO_t {xs ys : List D} : zipO (.tup xs) (.tup ys) = some (zipD xs ys) := rfl
theorem zipO_l {xs ys : List D} : zipO (.lst xs) (.lst ys) = some (zipD xs ys) := rfl
theorem boolsD_map {α : Type} (f : α → Bool) : ∀ xs : List α, boolsD (xs.map fun x => D.bl (f x)) = some (xs.map f)
  | [] => rfl
  | x :: xs => by simp only [List.map_cons, boolsD, boolsD_map f xs, Option.map_some]
theorem bi_all {bs : List Bool} : biD .all [.lst (bs.map D.bl)] = some (.bl (bs.all id)) := by
  have := boolsD_map (fun b => b) bs
  simp only [List.map_id'] at this
  show (boolsD (bs.map D.bl)).map _ = _
  have e : bs.map D.bl = bs.map fun x => D.bl x := rfl
  rw [e, this]; rfl
theorem depths_mem {x : D} : ∀ {xs : List D}, x ∈ xs → x.depth ≤ D.depths xs
  | y :: xs, h => by
    rcases List.mem_cons.mp h with e | e
    · subst e; simp only [D.depths]; omega
    · have := depths_mem e; simp only [D.depths]; omega
theorem zip_self_mem {x : D} {xs : List D} (h : x ∈ zipD xs xs) : ∃ y ∈ xs, x = .tup [y, y] := by
  unfold zipD at h
  obtain ⟨⟨a, b⟩, h1, rfl⟩ := List.mem_map.mp h
  obtain ⟨i, hi⟩ := List.getElem?_of_mem h1
  obtain ⟨e1, e2⟩ := List.getElem?_zip_eq_some.mp hi
  dsimp only at e1 e2
  rw [e1] at e2; cases e2
  exact ⟨a, List.mem_of_getElem? e1, rfl⟩
theorem zip_true (xs : List D) : (zipD xs xs).filterMap (fun _ => some (D.bl true)) = (xs.map fun _ => true).map D.bl := by
  unfold zipD
  rw [List.filterMap_map]
  show List.filterMap (fun _ => some (D.bl true)) (xs.zip xs) = _
  rw [List.filterMap_eq_map']
  apply List.ext_getElem?
  intro i
  simp only [List.getElem?_map, List.getElem?_zip_eq_some]
  cases h : xs[i]? <;> simp [List.zip, List.getElem?_zipWith, h]
theorem cmp_eq_non : cmpD .eq .non .non = some true := rfl
theorem same_refl {T : Prg} (hT : Core T) : ∀ (k : Nat) (x : D), x.depth + 1 ≤ k → ev T k 15 [.d x, .d x] = some (.d (.bl true), [.d x, .d x])
  | 0, x, hk => by omega
  | k + 1, x, hk => W_eq (W_call hT.same (by omega) rfl fun j hj => by
      obtain rfl : k = j := by omega
      show wS _ _ ir_same [some (.d _), some (.d _), none, none] _
      have key : ∀ (xs : List D) (Q : Vl → Slots → Prop) (a : IR) (ρ : Slots), D.depths xs + 1 ≤ k → (ρ = [some (.d (.tup xs)), some (.d (.tup xs)), none, none] ∨ ρ = [some (.d (.lst xs)), some (.d (.lst xs)), none, none]) →
          Q (.d (.lst ((xs.map fun _ => true).map D.bl))) ρ → wE (Cf T k) (.comp [2, 3] (.tp (.cons (.nm 2) (.cons (.nm 3) .nil))) .zip (.var 0) (.var 1) .nil (.call 15 (.cons (.var 2) (.cons (.var 3) .nil)))) ρ Q := by
        intro xs Q a ρ hd hρ q
        refine wE_comp (xs := zipD xs xs) (fun _ => some (.bl true)) ?_ ?_ ?_ ?_ ?_
        · rcases hρ with rfl | rfl <;> simp_arith only [zipO_t, zipO_l]
        · rcases hρ with rfl | rfl <;> rfl
        · rcases hρ with rfl | rfl <;> rfl
        · intro x hx
          obtain ⟨y, hy, rfl⟩ := zip_self_mem hx
          have hs := same_refl hT k y (by have := depths_mem hy; omega)
          rcases hρ with rfl | rfl <;> simp_arith only [wipeE, hs]
        · rw [zip_true]; exact q
      have hall : ∀ xs : List D, ((xs.map fun _ => true).all id) = true := fun xs => by simp
      cases x with
      | non => simp_arith only [ir_same, isTys, isTy, cmp_eq_non]; rfl
      | bl c => simp_arith only [ir_same, isTys, isTy]; cases c <;> rfl
      | int c => simp_arith only [ir_same, isTys, isTy]
      | str c => simp_arith only [ir_same, isTys, isTy]; rfl
      | tup xs =>
        simp only [D.depth] at hk
        simp_arith only [ir_same, isTys, isTy]
        simp_arith only [beq_self_eq_true]
        refine key xs _ .nil _ (by omega) (Or.inl rfl) ?_
        simp_arith only [bi_all, hall]
      | lst xs =>
        simp only [D.depth] at hk
        simp_arith only [ir_same, isTys, isTy]
        simp_arith only [beq_self_eq_true]
        refine key xs _ .nil _ (by omega) (Or.inr rfl) ?_
        simp_arith only [bi_all, hall])
/-! ### lists for tuples -/
mutual
def er : D → D
  | .tup xs => .tup (ers xs)
  | .lst xs => .tup (ers xs)
  | x => x
def ers : List D → List D
  | [] => []
  | x :: xs => er x :: ers xs
end
theorem ers_map : ∀ xs : List D, ers xs = xs.map er
  | [] => rfl
  | x :: xs => by simp only [ers, ers_map xs, List.map_cons]
theorem er_seq {x : D} {ys : List D} (h : er x = .tup ys) : ∃ xs, x.ofSeq = some xs ∧ xs.map er = ys := by
  cases x with
  | tup xs => simp only [er, ers_map] at h; cases h; exact ⟨xs, rfl, rfl⟩
  | lst xs => simp only [er, ers_map] at h; cases h; exact ⟨xs, rfl, rfl⟩
  | _ => cases h
theorem er_int {x : D} {i : Int} (h : er x = .int i) : x = .int i := by cases x <;> first | exact h | cases h
theorem er_str {x : D} {i : Str} (h : er x = .str i) : x = .str i := by cases x <;> first | exact h | cases h
theorem er_non {x : D} (h : er x = .non) : x = .non := by cases x <;> first | exact h | cases h
theorem er_bl {x : D} {i : Bool} (h : er x = .bl i) : x = .bl i := by cases x <;> first | exact h | cases h
/-- the value that a call gives -/
def val (T : Prg) (k f : Nat) (as : List EV) : Option D := (ev T k f as).bind fun r => r.1.toD
theorem fm_er {f : D → Option D} : ∀ {xs : List D}, (∀ x ∈ xs, ∃ y, f x = some y ∧ er y = er x) → (xs.filterMap f).map er = xs.map er
  | [], _ => rfl
  | x :: xs, h => by
    obtain ⟨y, h1, h2⟩ := h x (List.mem_cons_self ..)
    rw [List.filterMap_cons, h1]
    simp only [List.map_cons, h2, fm_er fun y hy => h y (List.mem_cons_of_mem _ hy)]
theorem W_lists {T : Prg} (hT : Core T) : ∀ (k : Nat) (x : D), x.depth + 1 ≤ k → ∃ y, ev T k 16 [.d x] = some (.d y, [.d x]) ∧ er y = er x
  | 0, x, hk => by omega
  | k + 1, x, hk => by
    suffices h : W (ev T (k + 1) 16 [.d x]) (fun q => ∃ y, q = (.d y, [.d x]) ∧ er y = er x) by
      obtain ⟨q, h1, y, h2, h3⟩ := h
      exact ⟨y, by rw [h1, h2], h3⟩
    refine W_call hT.lists (by omega) rfl fun j hj => ?_
    obtain rfl : k = j := by omega
    show wS _ _ ir_lists [some (.d _), none] _
    have key : ∀ (xs : List D) (Q : Vl → Slots → Prop) (ρ : Slots), D.depths xs + 1 ≤ k → (ρ = [some (.d (.tup xs)), none] ∨ ρ = [some (.d (.lst xs)), none]) →
        (∀ ys, ys.map er = xs.map er → Q (.d (.lst ys)) ρ) → wE (Cf T k) (.comp [1] (.nm 1) .seq (.var 0) .nil .nil (.call 16 (.cons (.var 1) .nil))) ρ Q := by
      intro xs Q ρ hd hρ q
      refine wE_comp (xs := xs) (fun x => val T k 16 [.d x]) ?_ ?_ ?_ ?_ (q _ (fm_er fun x hx => ?_))
      · rcases hρ with rfl | rfl <;> simp_arith only [items_t, items_l]
      · rcases hρ with rfl | rfl <;> rfl
      · rcases hρ with rfl | rfl <;> rfl
      · intro x hx
        obtain ⟨y, h1, h2⟩ := W_lists hT k x (by have := depths_mem hx; omega)
        rcases hρ with rfl | rfl <;> simp_arith only [wipeE, val, h1]
      · obtain ⟨y, h1, h2⟩ := W_lists hT k x (by have := depths_mem hx; omega)
        exact ⟨y, by simp only [val, h1]; rfl, h2⟩
    cases x with
    | tup xs =>
      simp only [D.depth] at hk
      simp_arith only [ir_lists, isTys, isTy]
      exact key xs _ _ (by omega) (Or.inl rfl) fun ys he => by
        simp_arith only []
        exact ⟨_, rfl, by simp only [er, ers_map, he]⟩
    | lst xs =>
      simp only [D.depth] at hk
      simp_arith only [ir_lists, isTys, isTy]
      exact key xs _ _ (by omega) (Or.inr rfl) fun ys he => by
        simp_arith only []
        exact ⟨_, rfl, by simp only [er, ers_map, he]⟩
    | _ =>
      simp_arith only [ir_lists, isTys, isTy]
      exact ⟨_, rfl, rfl⟩
theorem W_half {T : Prg} (hT : Core T) : ∀ (k : Nat) (x : D) (l : Int), x.depth + 1 ≤ k → ∃ y, ev T k 17 [.d x, .d (.int l)] = some (.d y, [.d x, .d (.int l)]) ∧ er y = er x
  | 0, x, l, hk => by omega
  | k + 1, x, l, hk => by
    suffices h : W (ev T (k + 1) 17 [.d x, .d (.int l)]) (fun q => ∃ y, q = (.d y, [.d x, .d (.int l)]) ∧ er y = er x) by
      obtain ⟨q, h1, y, h2, h3⟩ := h
      exact ⟨y, by rw [h1, h2], h3⟩
    refine W_call hT.half (by omega) rfl fun j hj => ?_
    obtain rfl : k = j := by omega
    show wS _ _ ir_half [some (.d _), some (.d _), none, none] _
    have key : ∀ (xs : List D) (Q : Vl → Slots → Prop) (ρ : Slots), D.depths xs + 1 ≤ k → (ρ = [some (.d (.tup xs)), some (.d (.int l)), none, none] ∨ ρ = [some (.d (.lst xs)), some (.d (.int l)), none, none]) →
        (∀ ys, ys.map er = xs.map er → Q (.d (.lst ys)) ρ) → wE (Cf T k) (.comp [3] (.nm 3) .seq (.var 0) .nil .nil (.call 17 (.cons (.var 3) (.cons (.op .add (.var 1) (.int 1)) .nil)))) ρ Q := by
      intro xs Q ρ hd hρ q
      refine wE_comp (xs := xs) (fun x => val T k 17 [.d x, .d (.int (l + 1))]) ?_ ?_ ?_ ?_ (q _ (fm_er fun x hx => ?_))
      · rcases hρ with rfl | rfl <;> simp_arith only [items_t, items_l]
      · rcases hρ with rfl | rfl <;> rfl
      · rcases hρ with rfl | rfl <;> rfl
      · intro x hx
        obtain ⟨y, h1, h2⟩ := W_half hT k x (l + 1) (by have := depths_mem hx; omega)
        rcases hρ with rfl | rfl <;> simp_arith only [wipeE, val, h1]
      · obtain ⟨y, h1, h2⟩ := W_half hT k x (l + 1) (by have := depths_mem hx; omega)
        exact ⟨y, by simp only [val, h1]; rfl, h2⟩
    cases x with
    | tup xs =>
      simp only [D.depth] at hk
      simp_arith only [ir_half, isTys, isTy]
      refine key xs _ _ (by omega) (Or.inl rfl) fun ys he => ?_
      simp_arith only [isTys, isTy]
      rw [if_pos (by decide)]
      by_cases hl : l % 2 = 0
      · rw [if_pos hl]; exact ⟨_, rfl, by simp only [er, ers_map, he]⟩
      · rw [if_neg hl]; exact ⟨_, rfl, by simp only [er, ers_map, he]⟩
    | lst xs =>
      simp only [D.depth] at hk
      simp_arith only [ir_half, isTys, isTy]
      refine key xs _ _ (by omega) (Or.inr rfl) fun ys he => ?_
      simp_arith only [isTys, isTy]
      rw [if_pos (by decide)]
      by_cases hl : l % 2 = 0
      · rw [if_pos hl]; exact ⟨_, rfl, by simp only [er, ers_map, he]⟩
      · rw [if_neg hl]; exact ⟨_, rfl, by simp only [er, ers_map, he]⟩
    | _ =>
      simp_arith only [ir_half, isTys, isTy]
      exact ⟨_, rfl, rfl⟩
end Ov

set_option maxHeartbeats 4000000
namespace Ov
open PySem
/-! ### lines, frames -/
structure Ln where
  up : Bool
  es : List (Int × Option Int)
inductive Bd where | start | here | fin | before (n : Int) | after (n : Int)
inductive Un where | rows | range | groups
inductive Wo where | nobody | row | group | ties
structure Frm where
  u : Un
  lo : Bd
  hi : Bd
  wo : Wo
def optD : Option Int → D
  | none => .non
  | some v => .int v
def entD (q : Int × Option Int) : D := .tup [.int q.1, optD q.2]
def wayD (b : Bool) : Str := if b = true then "up" else "down"
def lineD (l : Ln) : D := .tup [.str (wayD l.up), .tup (l.es.map entD)]
def Bd.nm : Bd → Str
  | .start => "start" | .here => "here" | .fin => "end" | .before _ => "before" | .after _ => "after"
def bdD : Bd → D
  | .before n => .tup [.str "before", .int n]
  | .after n => .tup [.str "after", .int n]
  | .start => .tup [.str "start"]
  | .here => .tup [.str "here"]
  | .fin => .tup [.str "end"]
def Un.nm : Un → Str
  | .rows => "rows" | .range => "range" | .groups => "groups"
def Wo.nm : Wo → Str
  | .nobody => "nobody" | .row => "row" | .group => "group" | .ties => "ties"
def frD (f : Frm) : D := .tup [.str f.u.nm, bdD f.lo, bdD f.hi, .str f.wo.nm]
structure Fr (T : Prg) : Prop where
  f0 : T.fns 0 = some fn_moved
  f1 : T.fns 1 = some fn_first_of
  f2 : T.fns 2 = some fn_last_of
  f3 : T.fns 3 = some fn_heights
  f4 : T.fns 4 = some fn_height_low
  f5 : T.fns 5 = some fn_height_high
  f6 : T.fns 6 = some fn_low_of
  f7 : T.fns 7 = some fn_high_of
  f8 : T.fns 8 = some fn_bounds
  f9 : T.fns 9 = some fn_piece
  f10 : T.fns 10 = some fn_pieces
  g0 : T.gd 0 = some (.str "before")
  g1 : T.gd 1 = some (.str "after")
  g2 : T.gd 2 = some (.str "up")
  g3 : T.gd 3 = some (.str "start")
  g4 : T.gd 4 = some (.str "rows")
  g5 : T.gd 5 = some (.str "groups")
  g6 : T.gd 6 = some (.str "here")
  g7 : T.gd 7 = some (.str "end")
  g8 : T.gd 8 = some (.str "nobody")
  g9 : T.gd 9 = some (.str "row")
  g10 : T.gd 10 = some (.str "ties")
def mv (h : Int) : Bd → Int
  | .before n => h - n
  | .after n => h + n
  | _ => h
theorem map_one {xs : List D} {a : D} (h : xs.map er = [a]) : ∃ x, xs = [x] ∧ er x = a := by
  match xs, h with
  | [x], h => simp only [List.map_cons, List.map_nil, List.cons.injEq, and_true] at h; exact ⟨x, rfl, h⟩
theorem map_two {xs : List D} {a b : D} (h : xs.map er = [a, b]) : ∃ x y, xs = [x, y] ∧ er x = a ∧ er y = b := by
  match xs, h with
  | [x, y], h => simp only [List.map_cons, List.map_nil, List.cons.injEq, and_true] at h; exact ⟨x, y, rfl, h.1, h.2⟩
theorem map_four {xs : List D} {a b c d : D} (h : xs.map er = [a, b, c, d]) : ∃ x y z u, xs = [x, y, z, u] ∧ er x = a ∧ er y = b ∧ er z = c ∧ er u = d := by
  match xs, h with
  | [x, y, z, u], h => simp only [List.map_cons, List.map_nil, List.cons.injEq, and_true] at h; exact ⟨x, y, z, u, rfl, h.1, h.2.1, h.2.2.1, h.2.2.2⟩
/-- a bound as it is handed in -/
theorem bd_cases {x : D} {b : Bd} (h : er x = bdD b) : (∃ r, x.ofSeq = some (.str b.nm :: r)) ∧ (∀ n, b = .before n ∨ b = .after n → ∃ s, x.ofSeq = some [s, .int n]) := by
  cases b with
  | before n =>
    obtain ⟨xs, h1, h2⟩ := er_seq h
    obtain ⟨y, z, rfl, h3, h4⟩ := map_two h2
    cases er_str h3; cases er_int h4
    refine ⟨⟨_, h1⟩, fun m hm => ?_⟩
    rcases hm with e | e <;> cases e
    exact ⟨_, h1⟩
  | after n =>
    obtain ⟨xs, h1, h2⟩ := er_seq h
    obtain ⟨y, z, rfl, h3, h4⟩ := map_two h2
    cases er_str h3; cases er_int h4
    refine ⟨⟨_, h1⟩, fun m hm => ?_⟩
    rcases hm with e | e <;> cases e
    exact ⟨_, h1⟩
  | start =>
    obtain ⟨xs, h1, h2⟩ := er_seq h
    obtain ⟨y, rfl, h3⟩ := map_one h2
    cases er_str h3
    exact ⟨⟨_, h1⟩, fun m hm => by rcases hm with e | e <;> cases e⟩
  | here =>
    obtain ⟨xs, h1, h2⟩ := er_seq h
    obtain ⟨y, rfl, h3⟩ := map_one h2
    cases er_str h3
    exact ⟨⟨_, h1⟩, fun m hm => by rcases hm with e | e <;> cases e⟩
  | fin =>
    obtain ⟨xs, h1, h2⟩ := er_seq h
    obtain ⟨y, rfl, h3⟩ := map_one h2
    cases er_str h3
    exact ⟨⟨_, h1⟩, fun m hm => by rcases hm with e | e <;> cases e⟩
theorem ix0 {x : D} {b : Bd} (h : er x = bdD b) : ixD x 0 = some (.str b.nm) := by
  obtain ⟨⟨r, h1⟩, _⟩ := bd_cases h
  rw [ixD_seq h1, atD_0]
theorem ix1 {x : D} {b : Bd} (h : er x = bdD b) {n : Int} (hn : b = .before n ∨ b = .after n) : ixD x 1 = some (.int n) := by
  obtain ⟨s, h1⟩ := (bd_cases h).2 n hn
  rw [ixD_seq h1, atD_1]
section
variable {T : Prg} {k : Nat}
theorem moved_eq (hF : Fr T) (hk : 1 ≤ k) {h : Int} {x : D} {b : Bd} (hb : er x = bdD b) : ev T k 0 [.d (.int h), .d x] = some (.d (.int (mv h b)), [.d (.int h), .d x]) := by
  refine W_eq (W_call hF.f0 hk rfl fun j hj => ?_)
  show wS _ _ ir_moved [some (.d _), some (.d _)] _
  cases b with
  | before n => simp_arith only [ir_moved, ix0 hb, ix1 hb (Or.inl rfl), hF.g0, hF.g1, Bd.nm, mv]
  | after n => simp_arith only [ir_moved, ix0 hb, ix1 hb (Or.inr rfl), hF.g0, hF.g1, Bd.nm, mv]
  | start => simp_arith only [ir_moved, ix0 hb, hF.g0, hF.g1, Bd.nm, mv]
  | here => simp_arith only [ir_moved, ix0 hb, hF.g0, hF.g1, Bd.nm, mv]
  | fin => simp_arith only [ir_moved, ix0 hb, hF.g0, hF.g1, Bd.nm, mv]
end
/-- the places of the entries that pass -/
def idxs {α : Type} (p : α → Bool) (es : List α) : List Nat := es.zipIdx.filterMap fun q => if p q.1 = true then some q.2 else none
theorem enum_fm {f : D → Option D} {p : Int × Option Int → Bool} : ∀ {ys : List D} {es : List (Int × Option Int)} (n : Nat), ys.map er = es.map entD → (∀ (i : Nat) (e : D) (a : Int × Option Int), er e = entD a → f (.tup [.int (i : Int), e]) = if p a = true then some (.int (i : Int)) else none) →
    ((ys.zipIdx n).map fun q => D.tup [.int (q.2 : Int), q.1]).filterMap f = ((es.zipIdx n).filterMap fun q => if p q.1 = true then some q.2 else none).map fun (i : Nat) => D.int (i : Int)
  | [], [], n, _, _ => rfl
  | [], _ :: _, _, h, _ => by cases h
  | _ :: _, [], _, h, _ => by cases h
  | y :: ys, e :: es, n, h, hf => by
    simp only [List.map_cons, List.cons.injEq] at h
    simp only [List.zipIdx_cons, List.map_cons, List.filterMap_cons]
    rw [hf n y e h.1, enum_fm (n + 1) h.2 hf]
    cases p e <;> rfl
theorem enum_idxs {f : D → Option D} {p : Int × Option Int → Bool} {ys : List D} {es : List (Int × Option Int)} (h : ys.map er = es.map entD) (hf : ∀ (i : Nat) (e : D) (a : Int × Option Int), er e = entD a → f (.tup [.int (i : Int), e]) = if p a = true then some (.int (i : Int)) else none) :
    (enumD ys).filterMap f = (idxs p es).map fun (i : Nat) => D.int (i : Int) := enum_fm 0 h hf
theorem mem_zipIdx_iff {α : Type} : ∀ {es : List α} {n : Nat} {q : α × Nat}, q ∈ es.zipIdx n ↔ n ≤ q.2 ∧ es[q.2 - n]? = some q.1
  | [], n, q => by simp
  | e :: es, n, q => by
    rw [List.zipIdx_cons, List.mem_cons, mem_zipIdx_iff]
    constructor
    · rintro (rfl | ⟨h1, h2⟩)
      · simp
      · refine ⟨by omega, ?_⟩
        rw [show q.2 - n = (q.2 - (n + 1)) + 1 by omega]
        simpa using h2
    · rintro ⟨h1, h2⟩
      by_cases e : q.2 = n
      · left
        rw [e, Nat.sub_self] at h2
        simp only [List.getElem?_cons_zero, Option.some.injEq] at h2
        exact Prod.ext h2.symm e
      · right
        refine ⟨by omega, ?_⟩
        rw [show q.2 - n = (q.2 - (n + 1)) + 1 by omega] at h2
        simpa using h2
theorem mem_idxs {α : Type} {p : α → Bool} {es : List α} {i : Nat} : i ∈ idxs p es ↔ ∃ a, es[i]? = some a ∧ p a = true := by
  unfold idxs
  rw [List.mem_filterMap]
  constructor
  · rintro ⟨q, h1, h2⟩
    rw [mem_zipIdx_iff] at h1
    split at h2
    · cases h2
      exact ⟨q.1, by simpa using h1.2, by assumption⟩
    · cases h2
  · rintro ⟨a, h1, h2⟩
    exact ⟨(a, i), mem_zipIdx_iff.mpr ⟨Nat.zero_le _, by simpa using h1⟩, by simp [h2]⟩
theorem zipIdx_sorted {α : Type} : ∀ (es : List α) (n : Nat), (es.zipIdx n).Pairwise (fun a b => a.2 < b.2)
  | [], n => by simp
  | e :: es, n => by
    rw [List.zipIdx_cons, List.pairwise_cons]
    refine ⟨fun q hq => ?_, zipIdx_sorted es (n + 1)⟩
    have := (mem_zipIdx_iff.mp hq).1
    show n < q.2
    omega
theorem idxs_sorted {α : Type} (p : α → Bool) (es : List α) : (idxs p es).Pairwise (· < ·) := by
  unfold idxs
  rw [List.pairwise_filterMap]
  refine (zipIdx_sorted es 0).imp fun {a b} h x hx y hy => ?_
  split at hx <;> cases hx
  split at hy <;> cases hy
  exact h
theorem mem_enumD {x : D} {ys : List D} (h : x ∈ enumD ys) : ∃ (i : Nat) (e : D), ys[i]? = some e ∧ x = .tup [.int (i : Int), e] := by
  unfold enumD at h
  obtain ⟨q, h1, rfl⟩ := List.mem_map.mp h
  exact ⟨q.2, q.1, by simpa using (mem_zipIdx_iff.mp h1).2, rfl⟩
theorem ent_at {ys : List D} {es : List (Int × Option Int)} (h : ys.map er = es.map entD) {i : Nat} {e : D} (hi : ys[i]? = some e) : ∃ a, es[i]? = some a ∧ er e = entD a := by
  have h2 : (ys.map er)[i]? = (es.map entD)[i]? := by rw [h]
  rw [List.getElem?_map, List.getElem?_map, hi] at h2
  cases h3 : es[i]? with
  | none => rw [h3] at h2; cases h2
  | some a => rw [h3] at h2; exact ⟨a, rfl, Option.some.inj h2⟩
theorem ent_at' {ys : List D} {es : List (Int × Option Int)} (h : ys.map er = es.map entD) {i : Nat} {a : Int × Option Int} (hi : es[i]? = some a) : ∃ e, ys[i]? = some e ∧ er e = entD a := by
  have h2 : (ys.map er)[i]? = (es.map entD)[i]? := by rw [h]
  rw [List.getElem?_map, List.getElem?_map, hi] at h2
  cases h3 : ys[i]? with
  | none => rw [h3] at h2; cases h2
  | some a => rw [h3] at h2; exact ⟨a, rfl, Option.some.inj h2⟩
theorem er_opt {y : D} {v : Option Int} (h : er y = optD v) : y = optD v := by
  cases v with
  | none => exact er_non h
  | some v => exact er_int h
theorem ent_seq {e : D} {a : Int × Option Int} (h : er e = entD a) : e.ofSeq = some [.int a.1, optD a.2] := by
  obtain ⟨xs, h1, h2⟩ := er_seq h
  obtain ⟨y, z, rfl, h3, h4⟩ := map_two h2
  cases er_int h3; cases er_opt h4
  exact h1
theorem ent0 {e : D} {a : Int × Option Int} (h : er e = entD a) : ixD e 0 = some (.int a.1) := by rw [ixD_seq (ent_seq h), atD_0]
theorem ent1 {e : D} {a : Int × Option Int} (h : er e = entD a) : ixD e 1 = some (optD a.2) := by rw [ixD_seq (ent_seq h), atD_1]
/-- a line as it is handed in -/
theorem line_seq {x : D} {l : Ln} (h : er x = lineD l) : ∃ y ys, ixD x 0 = some (.str (wayD l.up)) ∧ ixD x 1 = some y ∧ y.ofSeq = some ys ∧ ys.map er = l.es.map entD := by
  obtain ⟨xs, h1, h2⟩ := er_seq h
  obtain ⟨y, z, rfl, h3, h4⟩ := map_two h2
  cases er_str h3
  obtain ⟨ys, h5, h6⟩ := er_seq h4
  exact ⟨z, ys, by rw [ixD_seq h1, atD_0], by rw [ixD_seq h1, atD_1], h5, h6⟩
def firstOf (es : List (Int × Option Int)) (g : Int) : Int := match idxs (fun a => decide (g ≤ a.1)) es with
  | [] => es.length
  | i :: _ => i
def lastOf (es : List (Int × Option Int)) (g : Int) : Int := match (idxs (fun a => decide (a.1 ≤ g)) es).getLast? with
  | none => -1
  | some i => i
section
variable {T : Prg} {k : Nat}
theorem first_of_eq (hF : Fr T) (hk : 1 ≤ k) {x : D} {l : Ln} (hx : er x = lineD l) {g : Int} : ev T k 1 [.d x, .d (.int g)] = some (.d (.int (firstOf l.es g)), [.d x, .d (.int g)]) := by
  refine W_eq (W_call hF.f1 hk rfl fun j hj => ?_)
  show wS _ _ ir_first_of [some (.d _), some (.d _), none, none, none] _
  obtain ⟨y, ys, h0, h1, h2, h3⟩ := line_seq hx
  have hlen : ys.length = l.es.length := by have := congrArg List.length h3; simpa using this
  simp_arith only [ir_first_of]
  refine wE_comp (xs := enumD ys) (fun x => match x with
    | .tup [.int i, e] => (match ixD e 0 with
      | some (.int g') => if decide (g ≤ g') = true then some (.int i) else none
      | _ => none)
    | _ => none) ?_ rfl rfl (fun x hx => ?_) ?_
  · simp_arith only [h1, h2]
  · obtain ⟨i, e, hi, rfl⟩ := mem_enumD hx
    obtain ⟨a, ha, he⟩ := ent_at h3 hi
    simp_arith only [wipeE, ent0 he]
    split
    · simp_arith only []
    · simp_arith only []
  · rw [enum_idxs (p := fun a => decide (g ≤ a.1)) h3 (fun i e a he => by simp only [ent0 he])]
    simp_arith only []
    unfold firstOf
    cases hi : idxs (fun a => decide (g ≤ a.1)) l.es with
    | nil => simp_arith only [h1, lenD_seq h2, hlen]; rw [if_neg (by decide)]; trivial
    | cons i r =>
      simp_arith only []
      rw [if_pos (by omega)]; trivial
theorem last_of_eq (hF : Fr T) (hk : 1 ≤ k) {x : D} {l : Ln} (hx : er x = lineD l) {g : Int} : ev T k 2 [.d x, .d (.int g)] = some (.d (.int (lastOf l.es g)), [.d x, .d (.int g)]) := by
  refine W_eq (W_call hF.f2 hk rfl fun j hj => ?_)
  show wS _ _ ir_last_of [some (.d _), some (.d _), none, none, none] _
  obtain ⟨y, ys, h0, h1, h2, h3⟩ := line_seq hx
  simp_arith only [ir_last_of]
  refine wE_comp (xs := enumD ys) (fun x => match x with
    | .tup [.int i, e] => (match ixD e 0 with
      | some (.int g') => if decide (g' ≤ g) = true then some (.int i) else none
      | _ => none)
    | _ => none) ?_ rfl rfl (fun x hx => ?_) ?_
  · simp_arith only [h1, h2]
  · obtain ⟨i, e, hi, rfl⟩ := mem_enumD hx
    obtain ⟨a, ha, he⟩ := ent_at h3 hi
    simp_arith only [wipeE, ent0 he]
    split
    · simp_arith only []
    · simp_arith only []
  · rw [enum_idxs (p := fun a => decide (a.1 ≤ g)) h3 (fun i e a he => by simp only [ent0 he])]
    simp_arith only []
    unfold lastOf
    cases hi : (idxs (fun a => decide (a.1 ≤ g)) l.es).getLast? with
    | none =>
      rw [List.getLast?_eq_none_iff] at hi
      simp_arith only [hi]; rw [if_neg (by decide)]; trivial
    | some i =>
      have hn : idxs (fun a => decide (a.1 ≤ g)) l.es ≠ [] := fun e => by rw [e] at hi; cases hi
      have hl : 0 < (idxs (fun a => decide (a.1 ≤ g)) l.es).length := List.length_pos_iff.mpr hn
      rw [if_pos (by rw [List.length_map]; omega)]
      have e : atD ((idxs (fun a => decide (a.1 ≤ g)) l.es).map fun (i : Nat) => D.int (i : Int)) (-1) = some (.int (i : Int)) := atD_last (by rw [List.getLast?_map, hi]; rfl)
      simp_arith only [e]
end
end Ov

set_option maxHeartbeats 4000000
namespace Ov
open PySem
/-! ### first and last -/
theorem head_min {α : Type} {f : α → Nat} {L : List α} (hs : L.Pairwise fun a b => f a < f b) {q : α} {r : List α} (h : L = q :: r) : q ∈ L ∧ ∀ x ∈ L, f q ≤ f x := by
  subst h
  refine ⟨List.mem_cons_self .., fun x hx => ?_⟩
  rcases List.mem_cons.mp hx with e | e
  · rw [e]; exact Nat.le_refl _
  · exact Nat.le_of_lt ((List.pairwise_cons.mp hs).1 x e)
theorem last_max {α : Type} {f : α → Nat} {L : List α} (hs : L.Pairwise fun a b => f a < f b) {q : α} (h : L.getLast? = some q) : q ∈ L ∧ ∀ x ∈ L, f x ≤ f q := by
  obtain ⟨ys, rfl⟩ := List.getLast?_eq_some_iff.mp h
  refine ⟨by simp, fun x hx => ?_⟩
  rcases List.mem_append.mp hx with e | e
  · exact Nat.le_of_lt ((List.pairwise_append.mp hs).2.2 x e q (by simp))
  · simp only [List.mem_cons, List.not_mem_nil, or_false] at e
    rw [e]; exact Nat.le_refl _
def Mono (es : List (Int × Option Int)) : Prop := ∀ (i j : Nat) a c, es[i]? = some a → es[j]? = some c → i ≤ j → a.1 ≤ c.1
theorem lt_of_get {α : Type} {es : List α} {i : Nat} {a : α} (h : es[i]? = some a) : i < es.length := (List.getElem?_eq_some_iff.mp h).1
theorem firstOf_spec {es : List (Int × Option Int)} (hm : Mono es) (g : Int) : 0 ≤ firstOf es g ∧ firstOf es g ≤ es.length ∧ ∀ (i : Nat) c, es[i]? = some c → (firstOf es g ≤ i ↔ g ≤ c.1) := by
  unfold firstOf
  cases h : idxs (fun a => decide (g ≤ a.1)) es with
  | nil =>
    refine ⟨by simp, by simp, fun i c hc => ?_⟩
    have hi := lt_of_get hc
    constructor
    · intro q; dsimp only at q; omega
    · intro q
      have : i ∈ idxs (fun a => decide (g ≤ a.1)) es := mem_idxs.mpr ⟨c, hc, by simpa using q⟩
      rw [h] at this; cases this
  | cons q r =>
    obtain ⟨h1, h2⟩ := head_min (f := fun i => i) (idxs_sorted _ es) h
    obtain ⟨a, ha, hp⟩ := mem_idxs.mp h1
    have hq := lt_of_get ha
    refine ⟨by simp, by dsimp only; omega, fun i c hc => ?_⟩
    constructor
    · intro hle
      have : a.1 ≤ c.1 := hm q i a c ha hc (by dsimp only at hle; omega)
      simp only [decide_eq_true_eq] at hp
      omega
    · intro hg
      have := h2 i (mem_idxs.mpr ⟨c, hc, by simpa using hg⟩)
      dsimp only; omega
theorem lastOf_spec {es : List (Int × Option Int)} (hm : Mono es) (g : Int) : -1 ≤ lastOf es g ∧ lastOf es g ≤ es.length - 1 ∧ ∀ (i : Nat) c, es[i]? = some c → (i ≤ lastOf es g ↔ c.1 ≤ g) := by
  unfold lastOf
  cases h : (idxs (fun a => decide (a.1 ≤ g)) es).getLast? with
  | none =>
    rw [List.getLast?_eq_none_iff] at h
    refine ⟨by simp, by dsimp only; omega, fun i c hc => ?_⟩
    constructor
    · intro q; dsimp only at q; omega
    · intro q
      have : i ∈ idxs (fun a => decide (a.1 ≤ g)) es := mem_idxs.mpr ⟨c, hc, by simpa using q⟩
      rw [h] at this; cases this
  | some q =>
    obtain ⟨h1, h2⟩ := last_max (f := fun i => i) (idxs_sorted _ es) h
    obtain ⟨a, ha, hp⟩ := mem_idxs.mp h1
    have hq := lt_of_get ha
    refine ⟨by dsimp only; omega, by dsimp only; omega, fun i c hc => ?_⟩
    constructor
    · intro hle
      have : c.1 ≤ a.1 := hm i q c a hc ha (by dsimp only at hle; omega)
      simp only [decide_eq_true_eq] at hp
      omega
    · intro hg
      have := h2 i (mem_idxs.mpr ⟨c, hc, by simpa using hg⟩)
      dsimp only at this ⊢; omega
/-! ### heights -/
def sgn (l : Ln) : Int := if l.up = true then 1 else -1
def hts (l : Ln) : List (Nat × Int) := l.es.zipIdx.filterMap fun q => q.1.2.map fun v => (q.2, sgn l * v)
def htD (q : Nat × Int) : D := .tup [.int (q.1 : Int), .int q.2]
theorem mem_hts {l : Ln} {q : Nat × Int} : q ∈ hts l ↔ ∃ g v, l.es[q.1]? = some (g, some v) ∧ q.2 = sgn l * v := by
  unfold hts
  rw [List.mem_filterMap]
  constructor
  · rintro ⟨⟨⟨g, o⟩, i⟩, h1, h2⟩
    rw [mem_zipIdx_iff] at h1
    cases o with
    | none => cases h2
    | some v =>
      cases h2
      exact ⟨g, v, by simpa using h1.2, rfl⟩
  · rintro ⟨g, v, h1, h2⟩
    exact ⟨((g, some v), q.1), mem_zipIdx_iff.mpr ⟨Nat.zero_le _, by simpa using h1⟩, by simp [← h2]⟩
theorem hts_sorted (l : Ln) : (hts l).Pairwise fun a b => a.1 < b.1 := by
  unfold hts
  rw [List.pairwise_filterMap]
  refine (zipIdx_sorted l.es 0).imp fun {a b} h x hx y hy => ?_
  cases ha : a.1.2 with
  | none => rw [ha] at hx; cases hx
  | some v =>
    cases hb : b.1.2 with
    | none => rw [hb] at hy; cases hy
    | some u =>
      rw [ha] at hx; rw [hb] at hy
      cases hx; cases hy
      exact h
/-- a line whose values may be compared -/
structure Val (l : Ln) : Prop where
  blk : ∃ s e : Nat, ∀ (i : Nat) a, l.es[i]? = some a → (a.2 ≠ none ↔ s ≤ i ∧ i < e)
  peer : ∀ (i j : Nat) a c, l.es[i]? = some a → l.es[j]? = some c → a.2 = none → (c.2 = none ↔ a.1 = c.1)
  up : ∀ (i j : Nat) g v g' v', l.es[i]? = some (g, some v) → l.es[j]? = some (g', some v') → i ≤ j → sgn l * v ≤ sgn l * v'
theorem enum_hts {f : D → Option D} {l : Ln} (hf : ∀ (i : Nat) (e : D) (a : Int × Option Int), er e = entD a → f (.tup [.int (i : Int), e]) = a.2.map fun v => htD (i, sgn l * v)) : ∀ {ys : List D} {es : List (Int × Option Int)} (n : Nat), ys.map er = es.map entD →
    ((ys.zipIdx n).map fun q => D.tup [.int (q.2 : Int), q.1]).filterMap f = ((es.zipIdx n).filterMap fun q => q.1.2.map fun v => (q.2, sgn l * v)).map htD
  | [], [], n, _ => rfl
  | [], _ :: _, _, h => by cases h
  | _ :: _, [], _, h => by cases h
  | y :: ys, e :: es, n, h => by
    simp only [List.map_cons, List.cons.injEq] at h
    simp only [List.zipIdx_cons, List.map_cons, List.filterMap_cons]
    rw [hf n y e h.1, enum_hts hf (n + 1) h.2]
    cases e.2 <;> rfl
theorem pairs_hts : ∀ L : List (Nat × Int), pairsI (L.map htD) = some (L.map fun q => ((q.1 : Int), D.int q.2))
  | [] => rfl
  | q :: L => by
    simp only [List.map_cons, pairsI, pairs_hts L]
    rfl
theorem last_hts {p : Nat} {h : Int} : ∀ {L : List (Nat × Int)}, (L.Pairwise fun a b => a.1 < b.1) → (p, h) ∈ L → lastKey (p : Int) (L.map fun q => ((q.1 : Int), D.int q.2)) = some (.int h)
  | q :: L, hs, hm => by
    rw [List.pairwise_cons] at hs
    simp only [List.map_cons, lastKey]
    rcases List.mem_cons.mp hm with e | e
    · subst e
      have : lastKey (p : Int) (L.map fun q => ((q.1 : Int), D.int q.2)) = none := by
        have key : ∀ M : List (Nat × Int), (∀ x ∈ M, p < x.1) → lastKey (p : Int) (M.map fun q => ((q.1 : Int), D.int q.2)) = none := by
          intro M
          induction M with
          | nil => intro _; rfl
          | cons m M ih =>
            intro hM
            have h1 := hM m (List.mem_cons_self ..)
            simp only [List.map_cons, lastKey, ih fun x hx => hM x (List.mem_cons_of_mem _ hx)]
            rw [if_neg (by omega)]
        exact key L fun x hx => hs.1 x hx
      rw [this]; simp
    · rw [last_hts hs.2 e]
section
variable {T : Prg} {k : Nat}
theorem heights_eq (hF : Fr T) (hk : 1 ≤ k) {x : D} {l : Ln} (hx : er x = lineD l) : ev T k 3 [.d x] = some (.d (.lst ((hts l).map htD)), [.d x]) := by
  refine W_eq (W_call hF.f3 hk rfl fun j hj => ?_)
  show wS _ _ ir_heights [some (.d _), none, none, none] _
  obtain ⟨y, ys, h0, h1, h2, h3⟩ := line_seq hx
  have key : ∀ (s : Int), s = sgn l → -(2 ^ 64) < s ∧ s < 2 ^ 64 → wE (Cf T j) (.comp [2, 3] (.tp (.cons (.nm 2) (.cons (.nm 3) .nil))) .enm (.idx (.var 0) (.int 1)) .nil (.isn true (.idx (.var 3) (.int 1))) (.tup (.cons (.var 2) (.cons (.op .mul (.var 1) (.idx (.var 3) (.int 1))) .nil)))) [some (.d x), some (.d (.int s)), none, none]
      (fun v ρ => v = .d (.lst ((hts l).map htD)) ∧ ρ = [some (.d x), some (.d (.int s)), none, none]) := by
    intro s hs hb
    refine wE_comp (xs := enumD ys) (fun x => match x with
      | .tup [.int i, e] => (match ixD e 1 with
        | some (.int v) => some (.tup [.int i, .int (s * v)])
        | _ => none)
      | _ => none) ?_ rfl rfl (fun x hx => ?_) ?_
    · simp_arith only [h1, h2]
    · obtain ⟨i, e, hi, rfl⟩ := mem_enumD hx
      obtain ⟨⟨g, o⟩, ha, he⟩ := ent_at h3 hi
      cases o with
      | none => simp_arith only [wipeE, ent1 he, optD]
      | some v =>
        simp_arith only [wipeE, ent1 he, optD]
        rw [if_pos (sm_l hb), if_pos (by decide)]
        trivial
    · refine ⟨?_, rfl⟩
      have e := enum_hts (l := l) (f := fun x => match x with
      | .tup [.int i, e] => (match ixD e 1 with
        | some (.int v) => some (.tup [.int i, .int (s * v)])
        | _ => none)
      | _ => none) (fun i e a he => by
        obtain ⟨g, o⟩ := a
        cases o with
        | none => simp only [ent1 he, optD, Option.map_none]
        | some v => simp only [ent1 he, optD, Option.map_some, htD, hs]) 0 h3
      exact congrArg (fun z => Vl.d (D.lst z)) e
  cases hu : l.up with
  | true =>
    simp_arith only [ir_heights, h0, hF.g2, wayD, hu]
    refine W_mono (key 1 (by simp [sgn, hu]) (by decide)) fun r h => ?_
    obtain ⟨e1, e2⟩ := h
    simp_arith only [e1, e2]
  | false =>
    simp_arith only [ir_heights, h0, hF.g2, wayD, hu]
    refine W_mono (key (-1) (by simp [sgn, hu]) (by decide)) fun r h => ?_
    obtain ⟨e1, e2⟩ := h
    simp_arith only [e1, e2]
end
end Ov

set_option maxHeartbeats 4000000
namespace Ov
open PySem
def far : Bd → Int
  | .after n => n
  | .before n => -n
  | _ => 0
theorem mv_far (h : Int) (b : Bd) : mv h b = h + far b := by cases b <;> simp only [mv, far] <;> omega
/-- a place reaches a bound, from the side -/
def Rch (sg : Int) (u : Un) (b : Bd) (p : Nat) (a : Int × Option Int) (i : Nat) (c : Int × Option Int) (side : Int) : Prop :=
  match b with
  | .start => True
  | .fin => True
  | .here => (match u with
    | .rows => side * (p : Int) ≤ side * (i : Int)
    | _ => side * a.1 ≤ side * c.1)
  | b => (match u with
    | .rows => side * ((p : Int) + far b) ≤ side * (i : Int)
    | .groups => side * (a.1 + far b) ≤ side * c.1
    | .range => (match a.2, c.2 with
      | none, none => True
      | some m, some t => side * (sg * m + far b) ≤ side * (sg * t)
      | _, _ => (p < i ↔ side = 1)))
def counts : Bd → Bool
  | .before _ => true
  | .after _ => true
  | _ => false
theorem filter_fm {L : List (Nat × Int)} {P : Int → Bool} {f : D → Option D} (hf : ∀ q, f (htD q) = if P q.2 = true then some (.int (q.1 : Int)) else none) : (L.map htD).filterMap f = (L.filter fun q => P q.2).map fun q => D.int (q.1 : Int) := by
  induction L with
  | nil => rfl
  | cons q L ih =>
    rw [List.map_cons, List.filterMap_cons, hf, List.filter_cons]
    cases h : P q.2 <;> simp [h, ih]
def hLow (L : List (Nat × Int)) (goal : Int) : Int := match L.filter fun q => decide (goal ≤ q.2) with
  | q :: _ => q.1
  | [] => (match L.getLast? with
    | some q => q.1 + 1
    | none => 0)
def hHigh (L : List (Nat × Int)) (goal : Int) : Int := match (L.filter fun q => decide (q.2 ≤ goal)).getLast? with
  | some q => q.1
  | none => (match L.head? with
    | some q => q.1 - 1
    | none => 0)
section
variable {T : Prg} {k : Nat}
theorem height_low_eq (hF : Fr T) (hk : 2 ≤ k) {x : D} {l : Ln} (hx : er x = lineD l) {p : Nat} {g m : Int} (hp : l.es[p]? = some (g, some m)) {y : D} {b : Bd} (hb : er y = bdD b) :
    ev T k 4 [.d x, .d (.int (p : Int)), .d y] = some (.d (.int (hLow (hts l) (mv (sgn l * m) b))), [.d x, .d (.int (p : Int)), .d y]) := by
  refine W_eq (W_call hF.f4 (by omega) rfl fun j hj => ?_)
  show wS _ _ ir_height_low [some (.d _), some (.d _), some (.d _), none, none, none, none, none] _
  have hm : (p, sgn l * m) ∈ hts l := mem_hts.mpr ⟨g, m, hp, rfl⟩
  simp_arith only [ir_height_low, heights_eq hF (show 1 ≤ j by omega) hx, pairs_hts, last_hts (hts_sorted l) hm, moved_eq hF (show 1 ≤ j by omega) hb]
  generalize mv (sgn l * m) b = goal
  refine wE_comp (xs := (hts l).map htD) (fun x => match x with
    | .tup [.int i, .int h] => if decide (goal ≤ h) = true then some (.int i) else none
    | _ => none) ?_ rfl rfl (fun x hx => ?_) ?_
  · simp_arith only [items_l]
  · obtain ⟨q, hq, rfl⟩ := List.mem_map.mp hx
    simp_arith only [wipeE, htD]
    split <;> simp_arith only []
  · rw [filter_fm (P := fun h => decide (goal ≤ h)) (fun q => rfl)]
    simp_arith only []
    unfold hLow
    cases hi : (hts l).filter fun q => decide (goal ≤ q.2) with
    | nil =>
      simp_arith only []; rw [if_neg (by decide)]
      have hn : hts l ≠ [] := fun e => by rw [e] at hm; cases hm
      cases hg : (hts l).getLast? with
      | none => rw [List.getLast?_eq_none_iff] at hg; exact absurd hg hn
      | some q =>
        have e : atD ((hts l).map htD) (-1) = some (htD q) := atD_last (by rw [List.getLast?_map, hg]; rfl)
        simp_arith only [e, htD]
    | cons i r =>
      simp_arith only []
      rw [if_pos (by omega)]; trivial
theorem height_high_eq (hF : Fr T) (hk : 2 ≤ k) {x : D} {l : Ln} (hx : er x = lineD l) {p : Nat} {g m : Int} (hp : l.es[p]? = some (g, some m)) {y : D} {b : Bd} (hb : er y = bdD b) :
    ev T k 5 [.d x, .d (.int (p : Int)), .d y] = some (.d (.int (hHigh (hts l) (mv (sgn l * m) b))), [.d x, .d (.int (p : Int)), .d y]) := by
  refine W_eq (W_call hF.f5 (by omega) rfl fun j hj => ?_)
  show wS _ _ ir_height_high [some (.d _), some (.d _), some (.d _), none, none, none, none, none] _
  have hm : (p, sgn l * m) ∈ hts l := mem_hts.mpr ⟨g, m, hp, rfl⟩
  simp_arith only [ir_height_high, heights_eq hF (show 1 ≤ j by omega) hx, pairs_hts, last_hts (hts_sorted l) hm, moved_eq hF (show 1 ≤ j by omega) hb]
  generalize mv (sgn l * m) b = goal
  refine wE_comp (xs := (hts l).map htD) (fun x => match x with
    | .tup [.int i, .int h] => if decide (h ≤ goal) = true then some (.int i) else none
    | _ => none) ?_ rfl rfl (fun x hx => ?_) ?_
  · simp_arith only [items_l]
  · obtain ⟨q, hq, rfl⟩ := List.mem_map.mp hx
    simp_arith only [wipeE, htD]
    split <;> simp_arith only []
  · rw [filter_fm (P := fun h => decide (h ≤ goal)) (fun q => rfl)]
    simp_arith only []
    unfold hHigh
    cases hi : ((hts l).filter fun q => decide (q.2 ≤ goal)).getLast? with
    | none =>
      rw [List.getLast?_eq_none_iff] at hi
      simp_arith only [hi]; rw [if_neg (by decide)]
      cases hg : hts l with
      | nil => rw [hg] at hm; cases hm
      | cons q r => simp_arith only [htD, List.head?_cons]
    | some q =>
      have hn : ((hts l).filter fun q => decide (q.2 ≤ goal)) ≠ [] := fun e => by rw [e] at hi; cases hi
      have hl : 0 < ((hts l).filter fun q => decide (q.2 ≤ goal)).length := List.length_pos_iff.mpr hn
      rw [if_pos (by rw [List.length_map]; omega)]
      have e : atD (((hts l).filter fun q => decide (q.2 ≤ goal)).map fun q => D.int (q.1 : Int)) (-1) = some (.int (q.1 : Int)) := atD_last (by rw [List.getLast?_map, hi]; rfl)
      simp_arith only [e]
end
theorem hLow_spec {l : Ln} (hv : Val l) {p : Nat} {g m : Int} (hp : l.es[p]? = some (g, some m)) (goal : Int) : 0 ≤ hLow (hts l) goal ∧ hLow (hts l) goal ≤ l.es.length ∧
    ∀ (i : Nat) c, l.es[i]? = some c → (hLow (hts l) goal ≤ i ↔ (match c.2 with | some t => goal ≤ sgn l * t | none => p < i)) := by
  obtain ⟨s, e, blk⟩ := hv.blk
  have hpb := (blk p _ hp).mp (by simp)
  unfold hLow
  cases h : (hts l).filter fun q => decide (goal ≤ q.2) with
  | cons q r =>
    obtain ⟨h1, h2⟩ := head_min (f := fun (x : Nat × Int) => x.1) ((hts_sorted l).filter _) h
    obtain ⟨h3, h4⟩ := List.mem_filter.mp h1
    obtain ⟨g1, v1, e1, e2⟩ := mem_hts.mp h3
    simp only [decide_eq_true_eq] at h4
    have hq := lt_of_get e1
    have hqb := (blk q.1 _ e1).mp (by simp)
    refine ⟨by dsimp only; omega, by dsimp only; omega, fun i c hc => ?_⟩
    dsimp only
    cases ht : c.2 with
    | some t =>
      dsimp only
      have hc' : l.es[i]? = some (c.1, some t) := by rw [hc, ← ht]
      constructor
      · intro hle
        have := hv.up q.1 i _ _ _ _ e1 hc' (by omega)
        omega
      · intro hg
        have := h2 (i, sgn l * t) (List.mem_filter.mpr ⟨mem_hts.mpr ⟨c.1, t, hc', rfl⟩, by simpa using hg⟩)
        dsimp only at this; omega
    | none =>
      dsimp only
      have hn : ¬(s ≤ i ∧ i < e) := fun z => ((blk i c hc).mpr z) ht
      omega
  | nil =>
    have hm : (p, sgn l * m) ∈ hts l := mem_hts.mpr ⟨g, m, hp, rfl⟩
    cases hg : (hts l).getLast? with
    | none => rw [List.getLast?_eq_none_iff] at hg; rw [hg] at hm; cases hm
    | some q =>
      obtain ⟨h1, h2⟩ := last_max (f := fun (x : Nat × Int) => x.1) (hts_sorted l) hg
      obtain ⟨g1, v1, e1, e2⟩ := mem_hts.mp h1
      have hq := lt_of_get e1
      have hqb := (blk q.1 _ e1).mp (by simp)
      have hpq := h2 _ hm
      dsimp only at hpq
      refine ⟨by dsimp only; omega, by dsimp only; omega, fun i c hc => ?_⟩
      dsimp only
      cases ht : c.2 with
      | some t =>
        dsimp only
        have hc' : l.es[i]? = some (c.1, some t) := by rw [hc, ← ht]
        have hmem : (i, sgn l * t) ∈ hts l := mem_hts.mpr ⟨c.1, t, hc', rfl⟩
        constructor
        · intro hle
          have := h2 _ hmem
          dsimp only at this; omega
        · intro hgo
          have : (i, sgn l * t) ∈ (hts l).filter fun q => decide (goal ≤ q.2) := List.mem_filter.mpr ⟨hmem, by simpa using hgo⟩
          rw [h] at this; cases this
      | none =>
        dsimp only
        have hn : ¬(s ≤ i ∧ i < e) := fun z => ((blk i c hc).mpr z) ht
        omega
theorem hHigh_spec {l : Ln} (hv : Val l) {p : Nat} {g m : Int} (hp : l.es[p]? = some (g, some m)) (goal : Int) : -1 ≤ hHigh (hts l) goal ∧ hHigh (hts l) goal ≤ l.es.length - 1 ∧
    ∀ (i : Nat) c, l.es[i]? = some c → ((i : Int) ≤ hHigh (hts l) goal ↔ (match c.2 with | some t => sgn l * t ≤ goal | none => i < p)) := by
  obtain ⟨s, e, blk⟩ := hv.blk
  have hpb := (blk p _ hp).mp (by simp)
  unfold hHigh
  cases h : ((hts l).filter fun q => decide (q.2 ≤ goal)).getLast? with
  | some q =>
    obtain ⟨h1, h2⟩ := last_max (f := fun (x : Nat × Int) => x.1) ((hts_sorted l).filter _) h
    obtain ⟨h3, h4⟩ := List.mem_filter.mp h1
    obtain ⟨g1, v1, e1, e2⟩ := mem_hts.mp h3
    simp only [decide_eq_true_eq] at h4
    have hq := lt_of_get e1
    have hqb := (blk q.1 _ e1).mp (by simp)
    refine ⟨by dsimp only; omega, by dsimp only; omega, fun i c hc => ?_⟩
    dsimp only
    cases ht : c.2 with
    | some t =>
      dsimp only
      have hc' : l.es[i]? = some (c.1, some t) := by rw [hc, ← ht]
      constructor
      · intro hle
        have := hv.up i q.1 _ _ _ _ hc' e1 (by omega)
        omega
      · intro hg
        have := h2 (i, sgn l * t) (List.mem_filter.mpr ⟨mem_hts.mpr ⟨c.1, t, hc', rfl⟩, by simpa using hg⟩)
        dsimp only at this; omega
    | none =>
      dsimp only
      have hn : ¬(s ≤ i ∧ i < e) := fun z => ((blk i c hc).mpr z) ht
      omega
  | none =>
    rw [List.getLast?_eq_none_iff] at h
    have hm : (p, sgn l * m) ∈ hts l := mem_hts.mpr ⟨g, m, hp, rfl⟩
    cases hg : hts l with
    | nil => rw [hg] at hm; cases hm
    | cons q r =>
      obtain ⟨h1, h2⟩ := head_min (f := fun (x : Nat × Int) => x.1) (hts_sorted l) hg
      obtain ⟨g1, v1, e1, e2⟩ := mem_hts.mp h1
      have hq := lt_of_get e1
      have hqb := (blk q.1 _ e1).mp (by simp)
      have hpq := h2 _ hm
      dsimp only at hpq
      refine ⟨by dsimp only [List.head?_cons]; omega, by dsimp only [List.head?_cons]; omega, fun i c hc => ?_⟩
      dsimp only [List.head?_cons]
      cases ht : c.2 with
      | some t =>
        dsimp only
        have hc' : l.es[i]? = some (c.1, some t) := by rw [hc, ← ht]
        have hmem : (i, sgn l * t) ∈ hts l := mem_hts.mpr ⟨c.1, t, hc', rfl⟩
        constructor
        · intro hle
          have := h2 _ hmem
          dsimp only at this; omega
        · intro hgo
          have : (i, sgn l * t) ∈ (hts l).filter fun q => decide (q.2 ≤ goal) := List.mem_filter.mpr ⟨hmem, by simpa using hgo⟩
          rw [h] at this; cases this
      | none =>
        dsimp only
        have hn : ¬(s ≤ i ∧ i < e) := fun z => ((blk i c hc).mpr z) ht
        omega
end Ov

set_option maxHeartbeats 4000000
namespace Ov
open PySem
def LowOk (l : Ln) (u : Un) (b : Bd) (p : Nat) (a : Int × Option Int) (v : Int) : Prop := 0 ≤ v ∧ v ≤ l.es.length ∧ ∀ (i : Nat) c, l.es[i]? = some c → (v ≤ i ↔ Rch (sgn l) u b p a i c 1)
def HighOk (l : Ln) (u : Un) (b : Bd) (p : Nat) (a : Int × Option Int) (v : Int) : Prop := -1 ≤ v ∧ v ≤ l.es.length - 1 ∧ ∀ (i : Nat) c, l.es[i]? = some c → ((i : Int) ≤ v ↔ Rch (sgn l) u b p a i c (-1))
/-- the frame may stand over the line -/
def FitB (l : Ln) (u : Un) (b : Bd) : Prop := u = .range → counts b = true → Val l
section
variable {T : Prg} {k : Nat} {x y : D} {l : Ln} {p : Nat} {a : Int × Option Int} {b : Bd} {u : Un}
theorem row_low {b : Bd} : LowOk l .rows b p a (if (l.es.length : Int) < (if (0 : Int) > mv p b then 0 else mv p b) then (l.es.length : Int) else (if (0 : Int) > mv p b then 0 else mv p b)) ∨ b = .start ∨ b = .fin := by
  have h : ∀ v : Int, mv p b = v → (∀ (i : Nat) c, (v ≤ (i : Int) ↔ Rch (sgn l) .rows b p a i c 1)) → LowOk l .rows b p a (if (l.es.length : Int) < (if (0 : Int) > mv p b then 0 else mv p b) then (l.es.length : Int) else (if (0 : Int) > mv p b then 0 else mv p b)) := by
    intro v hv hs
    rw [hv]
    have hc : ∀ i : Nat, i < l.es.length → ((if (l.es.length : Int) < (if (0 : Int) > v then 0 else v) then (l.es.length : Int) else (if (0 : Int) > v then 0 else v)) ≤ (i : Int) ↔ v ≤ (i : Int)) := fun i hi => by
      split <;> split <;> omega
    refine ⟨by split <;> (try split) <;> omega, by split <;> (try split) <;> omega, fun i c hi => ?_⟩
    rw [hc i (lt_of_get hi)]
    exact hs i c
  cases b with
  | start => exact .inr (.inl rfl)
  | fin => exact .inr (.inr rfl)
  | here => exact .inl (h p rfl fun i c => by simp only [Rch]; omega)
  | before n => exact .inl (h _ rfl fun i c => by simp only [Rch, mv, far]; omega)
  | after n => exact .inl (h _ rfl fun i c => by simp only [Rch, mv, far]; omega)
theorem row_high {b : Bd} : HighOk l .rows b p a (if (l.es.length : Int) - 1 < (if (-1 : Int) > mv p b then -1 else mv p b) then (l.es.length : Int) - 1 else (if (-1 : Int) > mv p b then -1 else mv p b)) ∨ b = .start ∨ b = .fin := by
  have h : ∀ v : Int, mv p b = v → (∀ (i : Nat) c, ((i : Int) ≤ v ↔ Rch (sgn l) .rows b p a i c (-1))) → HighOk l .rows b p a (if (l.es.length : Int) - 1 < (if (-1 : Int) > mv p b then -1 else mv p b) then (l.es.length : Int) - 1 else (if (-1 : Int) > mv p b then -1 else mv p b)) := by
    intro v hv hs
    rw [hv]
    have hc : ∀ i : Nat, i < l.es.length → ((i : Int) ≤ (if (l.es.length : Int) - 1 < (if (-1 : Int) > v then -1 else v) then (l.es.length : Int) - 1 else (if (-1 : Int) > v then -1 else v)) ↔ (i : Int) ≤ v) := fun i hi => by
      split <;> split <;> omega
    refine ⟨by split <;> (try split) <;> omega, by split <;> (try split) <;> omega, fun i c hi => ?_⟩
    rw [hc i (lt_of_get hi)]
    exact hs i c
  cases b with
  | start => exact .inr (.inl rfl)
  | fin => exact .inr (.inr rfl)
  | here => exact .inl (h p rfl fun i c => by simp only [Rch]; omega)
  | before n => exact .inl (h _ rfl fun i c => by simp only [Rch, mv, far]; omega)
  | after n => exact .inl (h _ rfl fun i c => by simp only [Rch, mv, far]; omega)
theorem low_of_eq (hF : Fr T) (hk : 3 ≤ k) (hx : er x = lineD l) (hm : Mono l.es) (hp : l.es[p]? = some a) (hb : er y = bdD b) (hnb : b ≠ .fin) (hv : FitB l u b) :
    ∃ v, ev T k 6 [.d x, .d (.int (p : Int)), .d (.str u.nm), .d y] = some (.d (.int v), [.d x, .d (.int (p : Int)), .d (.str u.nm), .d y]) ∧ LowOk l u b p a v := by
  suffices h : W (ev T k 6 [.d x, .d (.int (p : Int)), .d (.str u.nm), .d y]) (fun q => ∃ v, q = (.d (.int v), [.d x, .d (.int (p : Int)), .d (.str u.nm), .d y]) ∧ LowOk l u b p a v) by
    obtain ⟨q, h1, v, h2, h3⟩ := h
    exact ⟨v, by rw [h1, h2], h3⟩
  refine W_call hF.f6 (by omega) rfl fun j hj => ?_
  show wS _ _ ir_low_of [some (.d _), some (.d _), some (.d _), some (.d _), none, none] _
  obtain ⟨z, zs, h0, h1, h2, h3⟩ := line_seq hx
  have hlen : zs.length = l.es.length := by have := congrArg List.length h3; simpa using this
  obtain ⟨e, he1, he2⟩ := ent_at' h3 hp
  have hz : ixD z (p : Int) = some e := by rw [ixD_seq h2]; exact atD_nat he1
  have hfo : ∀ g, ev T j 1 [.d x, .d (.int g)] = some (.d (.int (firstOf l.es g)), [.d x, .d (.int g)]) := fun g => first_of_eq hF (by omega) hx
  have hmo : ∀ g, ev T j 0 [.d (.int g), .d y] = some (.d (.int (mv g b)), [.d (.int g), .d y]) := fun g => moved_eq hF (by omega) hb
  have fs := firstOf_spec hm
  have fin : ∀ v, LowOk l u b p a v → ∃ v', (EV.d (.int v), [EV.d x, EV.d (.int (p : Int)), EV.d (.str u.nm), EV.d y]) = (.d (.int v'), [.d x, .d (.int (p : Int)), .d (.str u.nm), .d y]) ∧ LowOk l u b p a v' := fun v h => ⟨v, rfl, h⟩
  have start : b = .start → LowOk l u b p a 0 := fun e => by
    subst e
    exact ⟨by omega, by omega, fun i c _ => by simp only [Rch, iff_true]; omega⟩
  by_cases hs : b = .start
  · subst hs
    simp_arith only [ir_low_of, ix0 hb, hF.g3, Bd.nm]
    exact fin _ (start rfl)
  have hsn : (b.nm = ("start" : Str)) = False := by
    cases b <;> first | exact absurd rfl hs | (simp only [Bd.nm, ofString_inj, String.reduceEq])
  cases u with
  | rows =>
    simp_arith only [ir_low_of, ix0 hb, hF.g3, hF.g4, Un.nm, hsn, hmo, h1, lenD_seq h2, hlen]
    rcases row_low (l := l) (p := p) (a := a) (b := b) with h | h | h
    · exact fin _ h
    · exact absurd h hs
    · exact absurd h hnb
  | groups =>
    simp_arith only [ir_low_of, ix0 hb, hF.g3, hF.g4, hF.g5, Un.nm, hsn, hmo, h1, hz, ent_seq he2, hfo]
    refine fin _ ⟨(fs _).1, (fs _).2.1, fun i c hc => ?_⟩
    rw [(fs _).2.2 i c hc]
    cases b with
    | start => exact absurd rfl hs
    | fin => exact absurd rfl hnb
    | here => simp only [Rch, mv]; omega
    | before n => simp only [Rch, mv, far]; omega
    | after n => simp only [Rch, mv, far]; omega
  | range =>
    by_cases hh : b = .here
    · subst hh
      simp_arith only [ir_low_of, ix0 hb, hF.g3, hF.g4, hF.g5, hF.g6, Un.nm, Bd.nm, hmo, h1, hz, ent_seq he2, hfo]
      refine fin _ ⟨(fs _).1, (fs _).2.1, fun i c hc => ?_⟩
      rw [(fs _).2.2 i c hc]
      simp only [Rch]; omega
    have hc : counts b = true := by cases b <;> first | exact absurd rfl hs | exact absurd rfl hnb | exact absurd rfl hh | rfl
    have hhn : (b.nm = ("here" : Str)) = False := by
      cases b <;> first | exact absurd rfl hh | (simp only [Bd.nm, ofString_inj, String.reduceEq])
    have V := hv rfl hc
    obtain ⟨ga, va⟩ := a
    cases va with
    | none =>
      simp_arith only [ir_low_of, ix0 hb, hF.g3, hF.g4, hF.g5, hF.g6, Un.nm, hsn, hhn, h1, hz, ent_seq he2, hfo, optD]
      refine fin _ ⟨(fs _).1, (fs _).2.1, fun i c hc' => ?_⟩
      rw [(fs _).2.2 i c hc']
      have hpe := V.peer p i _ _ hp hc' rfl
      have hmn1 := hm p i _ _ hp hc'
      have hmn2 := hm i p _ _ hc' hp
      dsimp only at hpe hmn1 hmn2
      obtain ⟨gc, vc⟩ := c
      cases b with
      | start => exact absurd rfl hs
      | fin => exact absurd rfl hnb
      | here => exact absurd rfl hh
      | before n =>
        cases vc with
        | none => simp only [Rch, iff_true]; have := hpe.mp rfl; dsimp only at this ⊢; omega
        | some t =>
          simp only [Rch, iff_true]
          have : ¬ ga = gc := fun e => by have := hpe.mpr e; cases this
          dsimp only at hmn1 hmn2 ⊢
          by_cases hlt : p ≤ i
          · have := hmn1 hlt
            by_cases e : p = i
            · subst e; rw [hp] at hc'; cases hc'
            · omega
          · have := hmn2 (by omega)
            omega
      | after n =>
        cases vc with
        | none => simp only [Rch, iff_true]; have := hpe.mp rfl; dsimp only at this ⊢; omega
        | some t =>
          simp only [Rch, iff_true]
          have : ¬ ga = gc := fun e => by have := hpe.mpr e; cases this
          dsimp only at hmn1 hmn2 ⊢
          by_cases hlt : p ≤ i
          · have := hmn1 hlt
            by_cases e : p = i
            · subst e; rw [hp] at hc'; cases hc'
            · omega
          · have := hmn2 (by omega)
            omega
    | some m =>
      simp_arith only [ir_low_of, ix0 hb, hF.g3, hF.g4, hF.g5, hF.g6, Un.nm, hsn, hhn, h1, hz, ent_seq he2, optD, height_low_eq hF (show 2 ≤ j by omega) hx hp hb]
      obtain ⟨s1, s2, s3⟩ := hLow_spec V hp (mv (sgn l * m) b)
      refine fin _ ⟨s1, s2, fun i c hc' => ?_⟩
      rw [s3 i c hc']
      obtain ⟨gc, vc⟩ := c
      cases b with
      | start => exact absurd rfl hs
      | fin => exact absurd rfl hnb
      | here => exact absurd rfl hh
      | before n => cases vc <;> simp only [Rch, mv, far, iff_true] <;> omega
      | after n => cases vc <;> simp only [Rch, mv, far, iff_true] <;> omega
theorem high_of_eq (hF : Fr T) (hk : 3 ≤ k) (hx : er x = lineD l) (hm : Mono l.es) (hp : l.es[p]? = some a) (hb : er y = bdD b) (hnb : b ≠ .start) (hv : FitB l u b) :
    ∃ v, ev T k 7 [.d x, .d (.int (p : Int)), .d (.str u.nm), .d y] = some (.d (.int v), [.d x, .d (.int (p : Int)), .d (.str u.nm), .d y]) ∧ HighOk l u b p a v := by
  suffices h : W (ev T k 7 [.d x, .d (.int (p : Int)), .d (.str u.nm), .d y]) (fun q => ∃ v, q = (.d (.int v), [.d x, .d (.int (p : Int)), .d (.str u.nm), .d y]) ∧ HighOk l u b p a v) by
    obtain ⟨q, h1, v, h2, h3⟩ := h
    exact ⟨v, by rw [h1, h2], h3⟩
  refine W_call hF.f7 (by omega) rfl fun j hj => ?_
  show wS _ _ ir_high_of [some (.d _), some (.d _), some (.d _), some (.d _), none, none] _
  obtain ⟨z, zs, h0, h1, h2, h3⟩ := line_seq hx
  have hlen : zs.length = l.es.length := by have := congrArg List.length h3; simpa using this
  have hpl := lt_of_get hp
  obtain ⟨e, he1, he2⟩ := ent_at' h3 hp
  have hz : ixD z (p : Int) = some e := by rw [ixD_seq h2]; exact atD_nat he1
  have hfo : ∀ g, ev T j 2 [.d x, .d (.int g)] = some (.d (.int (lastOf l.es g)), [.d x, .d (.int g)]) := fun g => last_of_eq hF (by omega) hx
  have hmo : ∀ g, ev T j 0 [.d (.int g), .d y] = some (.d (.int (mv g b)), [.d (.int g), .d y]) := fun g => moved_eq hF (by omega) hb
  have fs := lastOf_spec hm
  have fin : ∀ v, HighOk l u b p a v → ∃ v', (EV.d (.int v), [EV.d x, EV.d (.int (p : Int)), EV.d (.str u.nm), EV.d y]) = (.d (.int v'), [.d x, .d (.int (p : Int)), .d (.str u.nm), .d y]) ∧ HighOk l u b p a v' := fun v h => ⟨v, rfl, h⟩
  by_cases hs : b = .fin
  · subst hs
    simp_arith only [ir_high_of, ix0 hb, hF.g7, Bd.nm, h1, lenD_seq h2, hlen]
    exact fin _ ⟨by omega, by omega, fun i c hc => by have := lt_of_get hc; simp only [Rch, iff_true]; omega⟩
  have hsn : (b.nm = ("end" : Str)) = False := by
    cases b <;> first | exact absurd rfl hs | (simp only [Bd.nm, ofString_inj, String.reduceEq])
  cases u with
  | rows =>
    simp_arith only [ir_high_of, ix0 hb, hF.g7, hF.g4, Un.nm, hsn, hmo, h1, lenD_seq h2, hlen]
    rcases row_high (l := l) (p := p) (a := a) (b := b) with h | h | h
    · exact fin _ h
    · exact absurd h hnb
    · exact absurd h hs
  | groups =>
    simp_arith only [ir_high_of, ix0 hb, hF.g7, hF.g4, hF.g5, Un.nm, hsn, hmo, h1, hz, ent_seq he2, hfo]
    refine fin _ ⟨(fs _).1, (fs _).2.1, fun i c hc => ?_⟩
    rw [(fs _).2.2 i c hc]
    cases b with
    | start => exact absurd rfl hnb
    | fin => exact absurd rfl hs
    | here => simp only [Rch, mv]; omega
    | before n => simp only [Rch, mv, far]; omega
    | after n => simp only [Rch, mv, far]; omega
  | range =>
    by_cases hh : b = .here
    · subst hh
      simp_arith only [ir_high_of, ix0 hb, hF.g7, hF.g4, hF.g5, hF.g6, Un.nm, Bd.nm, hmo, h1, hz, ent_seq he2, hfo]
      refine fin _ ⟨(fs _).1, (fs _).2.1, fun i c hc => ?_⟩
      rw [(fs _).2.2 i c hc]
      simp only [Rch]; omega
    have hc : counts b = true := by cases b <;> first | exact absurd rfl hs | exact absurd rfl hnb | exact absurd rfl hh | rfl
    have hhn : (b.nm = ("here" : Str)) = False := by
      cases b <;> first | exact absurd rfl hh | (simp only [Bd.nm, ofString_inj, String.reduceEq])
    have V := hv rfl hc
    obtain ⟨ga, va⟩ := a
    cases va with
    | none =>
      simp_arith only [ir_high_of, ix0 hb, hF.g7, hF.g4, hF.g5, hF.g6, Un.nm, hsn, hhn, h1, hz, ent_seq he2, hfo, optD]
      refine fin _ ⟨(fs _).1, (fs _).2.1, fun i c hc' => ?_⟩
      rw [(fs _).2.2 i c hc']
      have hpe := V.peer p i _ _ hp hc' rfl
      have hmn1 := hm p i _ _ hp hc'
      have hmn2 := hm i p _ _ hc' hp
      dsimp only at hpe hmn1 hmn2
      obtain ⟨gc, vc⟩ := c
      have key : vc ≠ none → (gc ≤ ga ↔ (p < i ↔ (-1 : Int) = 1)) := fun hvc => by
        have : ¬ ga = gc := fun e => hvc (hpe.mpr e)
        dsimp only at hmn1 hmn2 ⊢
        by_cases hlt : p ≤ i
        · have := hmn1 hlt
          by_cases e : p = i
          · subst e; rw [hp] at hc'; cases hc'; exact absurd rfl hvc
          · omega
        · have := hmn2 (by omega)
          omega
      cases b with
      | start => exact absurd rfl hnb
      | fin => exact absurd rfl hs
      | here => exact absurd rfl hh
      | before n =>
        cases vc with
        | none => simp only [Rch, iff_true]; have := hpe.mp rfl; dsimp only at this ⊢; omega
        | some t => simp only [Rch]; exact key (by simp)
      | after n =>
        cases vc with
        | none => simp only [Rch, iff_true]; have := hpe.mp rfl; dsimp only at this ⊢; omega
        | some t => simp only [Rch]; exact key (by simp)
    | some m =>
      simp_arith only [ir_high_of, ix0 hb, hF.g7, hF.g4, hF.g5, hF.g6, Un.nm, hsn, hhn, h1, hz, ent_seq he2, optD, height_high_eq hF (show 2 ≤ j by omega) hx hp hb]
      obtain ⟨s1, s2, s3⟩ := hHigh_spec V hp (mv (sgn l * m) b)
      refine fin _ ⟨s1, s2, fun i c hc' => ?_⟩
      rw [s3 i c hc']
      obtain ⟨gc, vc⟩ := c
      have hip : vc = none → i ≠ p := fun hvc e => by subst e; subst hvc; rw [hp] at hc'; cases hc'
      cases b with
      | start => exact absurd rfl hnb
      | fin => exact absurd rfl hs
      | here => exact absurd rfl hh
      | before n =>
        cases vc with
        | none => have := hip rfl; simp only [Rch, mv, far]; omega
        | some t => simp only [Rch, mv, far]; omega
      | after n =>
        cases vc with
        | none => have := hip rfl; simp only [Rch, mv, far]; omega
        | some t => simp only [Rch, mv, far]; omega
end
end Ov

set_option maxHeartbeats 4000000
namespace Ov
open PySem
def pcD (f l : Int) : D := if f ≤ l then .tup [.int f, .int l] else .non
def piecesD (l : Ln) (p : Nat) (a : Int × Option Int) (w : Wo) (lo hi : Int) : D :=
  match w with
  | .nobody => .tup [pcD lo hi, .non, .non]
  | .row => .tup [pcD lo (min hi ((p : Int) - 1)), .non, pcD (max lo ((p : Int) + 1)) hi]
  | .group => .tup [pcD lo (min hi (firstOf l.es a.1 - 1)), .non, pcD (max lo (lastOf l.es a.1 + 1)) hi]
  | .ties => .tup [pcD lo (min hi (firstOf l.es a.1 - 1)), if lo ≤ p ∧ (p : Int) ≤ hi then .tup [.int p, .int p] else .non, pcD (max lo (lastOf l.es a.1 + 1)) hi]
theorem min_ite {a b : Int} : (if b < a then b else a) = min a b := by split <;> omega
theorem max_ite {a b : Int} : (if b > a then b else a) = max a b := by split <;> omega
theorem max_ite' {a b : Int} : (if a < b then b else a) = max a b := by split <;> omega
theorem fr_seq {x : D} {f : Frm} (h : er x = frD f) : ∃ y z, ixD x 0 = some (.str f.u.nm) ∧ ixD x 1 = some y ∧ ixD x 2 = some z ∧ ixD x 3 = some (.str f.wo.nm) ∧ er y = bdD f.lo ∧ er z = bdD f.hi := by
  obtain ⟨xs, h1, h2⟩ := er_seq h
  obtain ⟨a, y, z, d, rfl, h3, h4, h5, h6⟩ := map_four h2
  cases er_str h3; cases er_str h6
  exact ⟨y, z, by rw [ixD_seq h1, atD_0], by rw [ixD_seq h1, atD_1], by rw [ixD_seq h1, atD_2], by rw [ixD_seq h1, atD_3], h4, h5⟩
/-- a frame that may stand over the line -/
structure Fits (l : Ln) (f : Frm) : Prop where
  mono : Mono l.es
  lo : f.lo ≠ .fin
  hi : f.hi ≠ .start
  vlo : FitB l f.u f.lo
  vhi : FitB l f.u f.hi
section
variable {T : Prg} {k : Nat} {x y : D} {l : Ln} {p : Nat} {a : Int × Option Int} {f : Frm}
theorem piece_eq (hF : Fr T) (hk : 1 ≤ k) {i j : Int} : ev T k 9 [.d (.int i), .d (.int j)] = some (.d (pcD i j), [.d (.int i), .d (.int j)]) := by
  refine W_eq (W_call hF.f9 hk rfl fun _ hj => ?_)
  show wS _ _ ir_piece [some (.d _), some (.d _)] _
  simp_arith only [ir_piece, pcD]
  split
  · rw [if_pos (by decide)]
  · rfl
theorem bounds_eq (hF : Fr T) (hk : 4 ≤ k) (hx : er x = lineD l) (hp : l.es[p]? = some a) (hy : er y = frD f) (hf : Fits l f) :
    ∃ lo hi, ev T k 8 [.d x, .d (.int (p : Int)), .d y] = some (.d (.tup [.int lo, .int hi]), [.d x, .d (.int (p : Int)), .d y]) ∧ LowOk l f.u f.lo p a lo ∧ HighOk l f.u f.hi p a hi := by
  obtain ⟨b, c, q0, q1, q2, q3, q4, q5⟩ := fr_seq hy
  obtain ⟨lo, e1, h1⟩ := low_of_eq hF (k := k - 1) (by omega) hx hf.mono hp q4 hf.lo hf.vlo
  obtain ⟨hi, e2, h2⟩ := high_of_eq hF (k := k - 1) (by omega) hx hf.mono hp q5 hf.hi hf.vhi
  refine ⟨lo, hi, W_eq (W_call hF.f8 (by omega) rfl fun j hj => ?_), h1, h2⟩
  obtain rfl : j = k - 1 := by omega
  show wS _ _ ir_bounds [some (.d _), some (.d _), some (.d _)] _
  simp_arith only [ir_bounds, q0, q1, q2, e1, e2]
  rw [if_pos (by decide)]; trivial
theorem wo_ne {a b : Wo} : (a.nm = b.nm) = (a = b) := by
  cases a <;> cases b <;> simp only [Wo.nm, ofString_inj, String.reduceEq, reduceCtorEq]
theorem pieces_eq (hF : Fr T) (hk : 5 ≤ k) (hx : er x = lineD l) (hp : l.es[p]? = some a) (hy : er y = frD f) (hf : Fits l f) {lo hi : Int}
    (hb : ev T (k - 1) 8 [.d x, .d (.int (p : Int)), .d y] = some (.d (.tup [.int lo, .int hi]), [.d x, .d (.int (p : Int)), .d y])) :
    ev T k 10 [.d x, .d (.int (p : Int)), .d y] = some (.d (piecesD l p a f.wo lo hi), [.d x, .d (.int (p : Int)), .d y]) := by
  obtain ⟨b, c, q0, q1, q2, q3, q4, q5⟩ := fr_seq hy
  refine W_eq (W_call hF.f10 (by omega) rfl fun j hj => ?_)
  obtain rfl : j = k - 1 := by omega
  obtain ⟨z, zs, h0, h1, h2, h3⟩ := line_seq hx
  obtain ⟨e, he1, he2⟩ := ent_at' h3 hp
  have hz : ixD z (p : Int) = some e := by rw [ixD_seq h2]; exact atD_nat he1
  have hpc : ∀ i j, ev T (k - 1) 9 [.d (.int i), .d (.int j)] = some (.d (pcD i j), [.d (.int i), .d (.int j)]) := fun i j => piece_eq hF (by omega)
  have hfo : ∀ g, ev T (k - 1) 1 [.d x, .d (.int g)] = some (.d (.int (firstOf l.es g)), [.d x, .d (.int g)]) := fun g => first_of_eq hF (by omega) hx
  have hla : ∀ g, ev T (k - 1) 2 [.d x, .d (.int g)] = some (.d (.int (lastOf l.es g)), [.d x, .d (.int g)]) := fun g => last_of_eq hF (by omega) hx
  show wS _ _ ir_pieces [some (.d _), some (.d _), some (.d _), none, none, none, none, none, none] _
  have h3l : ∀ n : Nat, n = 0 + 1 + 1 + 1 → n ≤ sizeLine := fun n e => by subst e; decide
  cases hw : f.wo with
  | nobody =>
    rw [hw] at q3
    simp_arith only [ir_pieces, hb, q3, Wo.nm, hF.g8, hpc]
    rw [if_pos (h3l _ rfl)]; simp only [piecesD]
  | row =>
    rw [hw] at q3
    simp_arith only [ir_pieces, hb, q3, Wo.nm, hF.g8, hF.g9, hF.g10, hpc, min_ite, max_ite]
    rw [if_pos (h3l _ rfl)]; simp only [piecesD]
  | group =>
    rw [hw] at q3
    simp_arith only [ir_pieces, hb, q3, Wo.nm, hF.g8, hF.g9, hF.g10, hpc, min_ite, max_ite, h1, hz, ent0 he2, hfo, hla]
    rw [if_pos (h3l _ rfl)]; simp only [piecesD]
  | ties =>
    rw [hw] at q3
    simp_arith only [ir_pieces, hb, q3, Wo.nm, hF.g8, hF.g9, hF.g10, hpc, min_ite, max_ite, h1, hz, ent0 he2, hfo, hla]
    rw [if_pos (h3l _ rfl)]
    have e : pcD (max lo (p : Int)) (min hi (p : Int)) = if lo ≤ p ∧ (p : Int) ≤ hi then .tup [.int p, .int p] else .non := by
      unfold pcD
      by_cases hh : lo ≤ p ∧ (p : Int) ≤ hi
      · rw [if_pos hh, if_pos (by omega), show max lo (p : Int) = p by omega, show min hi (p : Int) = p by omega]
      · rw [if_neg hh, if_neg (by omega)]
    rw [e]; simp only [piecesD]
end
end Ov

set_option maxHeartbeats 4000000
namespace Ov
open PySem
structure Gn (T : Prg) : Prop where
  lane : T.fns 18 = some fn_lane
  edge : T.fns 19 = some fn_edge
  shape : T.fns 20 = some fn_shape
structure Ls (T : Prg) : Prop extends Gn T where
  reaches : T.fns 21 = some fn_reaches
  full : T.fns 22 = some fn_full
theorem in_str2 {a b c : Str} : cmpD .isin (.str a) (.tup [.str b, .str c]) = some (decide (b = a) || decide (c = a)) := by
  show inD _ _ = _
  simp only [inD, D.depth, D.depths, List.any_cons, List.any_nil, D.eqv, Bool.or_false]
  rfl
theorem bd_ix0 {b : Bd} : ixD (bdD b) 0 = some (.str b.nm) := by cases b <;> simp only [bdD, Bd.nm, ixD_tup, atD_0]
section
variable {T : Prg} {k : Nat} {l : Ln} {p i : Nat} {a c : Int × Option Int} {u : Un} {b : Bd}
theorem ent_D : ixD (entD a) 0 = some (.int a.1) ∧ ixD (entD a) 1 = some (optD a.2) := ⟨rfl, rfl⟩
theorem reaches_eq (hL : Ls T) (hk : 1 ≤ k) (hp : l.es[p]? = some a) (hi : l.es[i]? = some c) {s : Int} (hs : s = 1 ∨ s = -1) :
    ∃ r, ev T k 21 [.d (lineD l), .d (.int (p : Int)), .d (.int (i : Int)), .d (.str u.nm), .d (bdD b), .d (.int s)] = some (.d (.bl r), [.d (lineD l), .d (.int (p : Int)), .d (.int (i : Int)), .d (.str u.nm), .d (bdD b), .d (.int s)]) ∧ (r = true ↔ Rch (sgn l) u b p a i c s) := by
  suffices h : W (ev T k 21 [.d (lineD l), .d (.int (p : Int)), .d (.int (i : Int)), .d (.str u.nm), .d (bdD b), .d (.int s)]) (fun q => ∃ r, q = (.d (.bl r), [.d (lineD l), .d (.int (p : Int)), .d (.int (i : Int)), .d (.str u.nm), .d (bdD b), .d (.int s)]) ∧ (r = true ↔ Rch (sgn l) u b p a i c s)) by
    obtain ⟨q, h1, r, h2, h3⟩ := h
    exact ⟨r, by rw [h1, h2], h3⟩
  refine W_call hL.reaches hk rfl fun j hj => ?_
  show wS _ _ ir_reaches [some (.d _), some (.d _), some (.d _), some (.d _), some (.d _), some (.d _), none, none, none, none] _
  have e0 : ixD (lineD l) 0 = some (.str (wayD l.up)) := rfl
  have e1 : ixD (lineD l) 1 = some (.tup (l.es.map entD)) := rfl
  have ep : atD (l.es.map entD) (p : Int) = some (entD a) := atD_nat (by rw [List.getElem?_map, hp]; rfl)
  have ei : atD (l.es.map entD) (i : Int) = some (entD c) := atD_nat (by rw [List.getElem?_map, hi]; rfl)
  have b1 : ∀ n, b = .before n ∨ b = .after n → ixD (bdD b) 1 = some (.int n) := fun n h => by rcases h with e | e <;> (subst e; rfl)
  have fin : ∀ r : Bool, (r = true ↔ Rch (sgn l) u b p a i c s) → ∃ r', (EV.d (.bl r), [EV.d (lineD l), EV.d (.int (p : Int)), EV.d (.int (i : Int)), EV.d (.str u.nm), EV.d (bdD b), EV.d (.int s)]) = (.d (.bl r'), [.d (lineD l), .d (.int (p : Int)), .d (.int (i : Int)), .d (.str u.nm), .d (bdD b), .d (.int s)]) ∧ (r' = true ↔ Rch (sgn l) u b p a i c s) := fun r h => ⟨r, rfl, h⟩
  have l2 : (0 + 1 + 1 : Nat) ≤ sizeLine := by decide
  have m1 : ∀ z : Int, (small s || small z) = true := fun z => sm_l (by rcases hs with e | e <;> (subst e; decide))
  have hsg : sgn l = 1 ∨ sgn l = -1 := by unfold sgn; split <;> simp
  have m2 : ∀ y z : Int, (y = 1 ∨ y = -1) → (small y || small z) = true := fun y z h => sm_l (by rcases h with e | e <;> (subst e; decide))
  have msg : ∀ y, (s * sgn l * y) = s * (sgn l * y) := fun y => Int.mul_assoc ..
  have hss : s * sgn l = 1 ∨ s * sgn l = -1 := by rcases hs with e | e <;> rcases hsg with f | f <;> rw [e, f] <;> decide
  have hsgn : (if l.up = true then (1 : Int) else -1) = sgn l := rfl
  obtain ⟨ga, va⟩ := a
  obtain ⟨gc, vc⟩ := c
  have E0 := ent_D (a := (ga, va))
  have E1 := ent_D (a := (gc, vc))
  cases b with
  | start =>
    simp_arith only [ir_reaches, bd_ix0, Bd.nm, e1, ep, ei, in_str2, if_pos l2]
    exact fin _ (by simp [Rch])
  | fin =>
    simp_arith only [ir_reaches, bd_ix0, Bd.nm, e1, ep, ei, in_str2, if_pos l2]
    exact fin _ (by simp [Rch])
  | here =>
    cases u with
    | rows =>
      simp_arith only [ir_reaches, bd_ix0, Bd.nm, Un.nm, e1, ep, ei, in_str2, if_pos l2, if_pos (m1 _)]
      refine fin _ ?_
      simp only [decide_eq_true_eq, Rch, Int.add_zero]
    | groups =>
      simp_arith only [ir_reaches, bd_ix0, Bd.nm, Un.nm, e1, ep, ei, in_str2, if_pos l2, if_pos (m1 _), E0.1, E1.1]
      refine fin _ ?_
      simp only [decide_eq_true_eq, Rch, Int.add_zero]
    | range =>
      simp_arith only [ir_reaches, bd_ix0, Bd.nm, Un.nm, e1, ep, ei, in_str2, if_pos l2, if_pos (m1 _), E0.1, E1.1]
      refine fin _ ?_
      simp only [decide_eq_true_eq, Rch, Int.add_zero]
  | after n =>
    cases u with
    | rows =>
      simp_arith only [ir_reaches, bd_ix0, b1 n (Or.inr rfl), Bd.nm, Un.nm, e1, ep, ei, in_str2, if_pos l2, if_pos (m1 _)]
      refine fin _ ?_
      simp only [decide_eq_true_eq, Rch, far]
    | groups =>
      simp_arith only [ir_reaches, bd_ix0, b1 n (Or.inr rfl), Bd.nm, Un.nm, e1, ep, ei, in_str2, if_pos l2, if_pos (m1 _), E0.1, E1.1]
      refine fin _ ?_
      simp only [decide_eq_true_eq, Rch, far]
    | range =>
      cases va with
      | none =>
        cases vc with
        | none =>
          simp_arith only [ir_reaches, bd_ix0, b1 n (Or.inr rfl), Bd.nm, Un.nm, e1, ep, ei, in_str2, if_pos l2, E0.2, E1.2, optD]
          exact fin _ (by simp [Rch])
        | some t =>
          simp_arith only [ir_reaches, bd_ix0, b1 n (Or.inr rfl), Bd.nm, Un.nm, e1, ep, ei, in_str2, if_pos l2, E0.2, E1.2, optD]
          refine fin _ ?_
          simp only [Rch, beq_iff_eq, decide_eq_decide]
          rcases hs with e | e <;> subst e <;> omega
      | some m =>
        cases vc with
        | none =>
          simp_arith only [ir_reaches, bd_ix0, b1 n (Or.inr rfl), Bd.nm, Un.nm, e1, ep, ei, in_str2, if_pos l2, E0.2, E1.2, optD]
          refine fin _ ?_
          simp only [Rch, beq_iff_eq, decide_eq_decide]
          rcases hs with e | e <;> subst e <;> omega
        | some t =>
          cases hu : l.up with
          | true =>
            have h1 : sgn l = 1 := by simp [sgn, hu]
            simp_arith only [ir_reaches, bd_ix0, b1 n (Or.inr rfl), Bd.nm, Un.nm, e0, e1, ep, ei, in_str2, if_pos l2, E0.2, E1.2, optD, wayD, hu, if_pos (m1 _), if_pos (m2 _ _ (Or.inl rfl)), if_pos (m2 _ _ (h1 ▸ hss : s * 1 = 1 ∨ s * 1 = -1))]
            refine fin _ ?_
            simp only [Rch, h1, far, decide_eq_true_eq]
            rcases hs with e | e <;> subst e <;> omega
          | false =>
            have h1 : sgn l = -1 := by simp [sgn, hu]
            simp_arith only [ir_reaches, bd_ix0, b1 n (Or.inr rfl), Bd.nm, Un.nm, e0, e1, ep, ei, in_str2, if_pos l2, E0.2, E1.2, optD, wayD, hu, if_pos (m1 _), if_pos (m2 _ _ (Or.inr rfl)), if_pos (m2 _ _ (h1 ▸ hss : s * -1 = 1 ∨ s * -1 = -1))]
            refine fin _ ?_
            simp only [Rch, h1, far, decide_eq_true_eq]
            rcases hs with e | e <;> subst e <;> omega
  | before n =>
    cases u with
    | rows =>
      simp_arith only [ir_reaches, bd_ix0, b1 n (Or.inl rfl), Bd.nm, Un.nm, e1, ep, ei, in_str2, if_pos l2, if_pos (m1 _)]
      refine fin _ ?_
      simp only [decide_eq_true_eq, Rch, far, Int.zero_sub]
    | groups =>
      simp_arith only [ir_reaches, bd_ix0, b1 n (Or.inl rfl), Bd.nm, Un.nm, e1, ep, ei, in_str2, if_pos l2, if_pos (m1 _), E0.1, E1.1]
      refine fin _ ?_
      simp only [decide_eq_true_eq, Rch, far, Int.zero_sub]
    | range =>
      cases va with
      | none =>
        cases vc with
        | none =>
          simp_arith only [ir_reaches, bd_ix0, b1 n (Or.inl rfl), Bd.nm, Un.nm, e1, ep, ei, in_str2, if_pos l2, E0.2, E1.2, optD]
          exact fin _ (by simp [Rch])
        | some t =>
          simp_arith only [ir_reaches, bd_ix0, b1 n (Or.inl rfl), Bd.nm, Un.nm, e1, ep, ei, in_str2, if_pos l2, E0.2, E1.2, optD]
          refine fin _ ?_
          simp only [Rch, beq_iff_eq, decide_eq_decide]
          rcases hs with e | e <;> subst e <;> omega
      | some m =>
        cases vc with
        | none =>
          simp_arith only [ir_reaches, bd_ix0, b1 n (Or.inl rfl), Bd.nm, Un.nm, e1, ep, ei, in_str2, if_pos l2, E0.2, E1.2, optD]
          refine fin _ ?_
          simp only [Rch, beq_iff_eq, decide_eq_decide]
          rcases hs with e | e <;> subst e <;> omega
        | some t =>
          cases hu : l.up with
          | true =>
            have h1 : sgn l = 1 := by simp [sgn, hu]
            simp_arith only [ir_reaches, bd_ix0, b1 n (Or.inl rfl), Bd.nm, Un.nm, e0, e1, ep, ei, in_str2, if_pos l2, E0.2, E1.2, optD, wayD, hu, if_pos (m1 _), if_pos (m2 _ _ (Or.inl rfl)), if_pos (m2 _ _ (h1 ▸ hss : s * 1 = 1 ∨ s * 1 = -1))]
            refine fin _ ?_
            simp only [Rch, h1, far, decide_eq_true_eq]
            rcases hs with e | e <;> subst e <;> omega
          | false =>
            have h1 : sgn l = -1 := by simp [sgn, hu]
            simp_arith only [ir_reaches, bd_ix0, b1 n (Or.inl rfl), Bd.nm, Un.nm, e0, e1, ep, ei, in_str2, if_pos l2, E0.2, E1.2, optD, wayD, hu, if_pos (m1 _), if_pos (m2 _ _ (Or.inr rfl)), if_pos (m2 _ _ (h1 ▸ hss : s * -1 = 1 ∨ s * -1 = -1))]
            refine fin _ ?_
            simp only [Rch, h1, far, decide_eq_true_eq]
            rcases hs with e | e <;> subst e <;> omega
end
end Ov

set_option maxHeartbeats 4000000
namespace Ov
open PySem
/-- the places from lo to hi -/
def iv (n : Nat) (lo hi : Int) : List Nat := (List.range n).filter fun (i : Nat) => decide (lo ≤ (i : Int)) && decide ((i : Int) ≤ hi)
def dI (L : List Nat) : List D := L.map fun (i : Nat) => .int (i : Int)
theorem mem_iv {n : Nat} {lo hi : Int} {i : Nat} : i ∈ iv n lo hi ↔ i < n ∧ lo ≤ i ∧ (i : Int) ≤ hi := by
  unfold iv
  simp [List.mem_filter]
theorem iv_sorted (n : Nat) (lo hi : Int) : (iv n lo hi).Pairwise (· < ·) := List.pairwise_lt_range.filter _
theorem dI_fm {L : List Nat} {P : Int → Bool} {f : D → Option D} (hf : ∀ i : Nat, f (.int (i : Int)) = if P i = true then some (.int (i : Int)) else none) : (dI L).filterMap f = dI (L.filter fun (i : Nat) => P i) := by
  unfold dI
  induction L with
  | nil => rfl
  | cons q L ih =>
    rw [List.map_cons, List.filterMap_cons, hf, List.filter_cons]
    cases h : P q <;> simp [h, ih]
theorem range_dI (n : Nat) : range1 n = dI (List.range n) := rfl
theorem mem_dI {x : D} {L : List Nat} (h : x ∈ dI L) : ∃ i ∈ L, x = .int (i : Int) := by
  obtain ⟨i, h1, rfl⟩ := List.mem_map.mp h
  exact ⟨i, h1, rfl⟩
theorem cmp_ne_nil {xs : List D} : cmpD .ne (.lst xs) (.lst []) = some (!xs.isEmpty) := by
  show (eqD _ _).map _ = _
  have h : min (D.lst xs).depth (D.lst []).depth ≤ 64 := by
    have : (D.lst []).depth = 1 := rfl
    omega
  simp only [eqD, if_pos h, Option.map_some]
  cases xs <;> rfl
theorem in_dI {p : Nat} {L : List Nat} : cmpD .isin (.int (p : Int)) (.lst (dI L)) = some (decide (p ∈ L)) := by
  show inD _ _ = _
  have h : min (D.depths (dI L)) (D.int (p : Int)).depth ≤ 64 := by
    have : (D.int (p : Int)).depth = 0 := rfl
    omega
  simp only [inD, if_pos h, Option.some.injEq]
  rw [Bool.eq_iff_iff, List.any_eq_true, decide_eq_true_eq]
  constructor
  · rintro ⟨y, hy, he⟩
    obtain ⟨i, hi, rfl⟩ := mem_dI hy
    simp only [D.eqv, beq_iff_eq] at he
    have : i = p := by omega
    rw [← this]; exact hi
  · intro hp
    exact ⟨.int (p : Int), List.mem_map.mpr ⟨p, hp, rfl⟩, by simp [D.eqv]⟩
/-- the ends of a list of places -/
def edD (L : List Nat) : D := match L with
  | [] => .non
  | i :: r => .tup [.int (i : Int), .int (((i :: r).getLast (by simp) : Nat) : Int)]
theorem ed_iv {n : Nat} {lo hi : Int} (h0 : 0 ≤ lo) (h1 : hi ≤ n - 1) : edD (iv n lo hi) = pcD lo hi := by
  unfold pcD
  by_cases h : lo ≤ hi
  · rw [if_pos h]
    have m1 : lo.toNat ∈ iv n lo hi := mem_iv.mpr ⟨by omega, by omega, by omega⟩
    have m2 : hi.toNat ∈ iv n lo hi := mem_iv.mpr ⟨by omega, by omega, by omega⟩
    cases e : iv n lo hi with
    | nil => rw [e] at m1; cases m1
    | cons i r =>
      obtain ⟨q1, q2⟩ := head_min (f := fun i => i) (iv_sorted n lo hi) e
      have hg : (iv n lo hi).getLast? = some ((i :: r).getLast (by simp)) := by rw [e]; exact List.getLast?_eq_some_getLast (by simp)
      obtain ⟨q3, q4⟩ := last_max (f := fun i => i) (iv_sorted n lo hi) hg
      have a1 := mem_iv.mp q1
      have a2 := mem_iv.mp q3
      have a3 := q2 _ m1
      have a4 := q4 _ m2
      show D.tup [.int (i : Int), .int (((i :: r).getLast (by simp) : Nat) : Int)] = _
      have b1 : (i : Int) = lo := by omega
      have b2 : (((i :: r).getLast (by simp) : Nat) : Int) = hi := by omega
      rw [b1, b2]
  · rw [if_neg h]
    cases e : iv n lo hi with
    | nil => rfl
    | cons i r =>
      have : i ∈ iv n lo hi := by rw [e]; exact List.mem_cons_self ..
      have := mem_iv.mp this
      omega
theorem iv_lt {n : Nat} {lo hi f : Int} : (iv n lo hi).filter (fun (i : Nat) => decide ((i : Int) < f)) = iv n lo (min hi (f - 1)) := by
  unfold iv
  rw [List.filter_filter]
  apply List.filter_congr
  intro i _
  rw [Bool.eq_iff_iff]
  simp only [Bool.and_eq_true, decide_eq_true_eq]
  omega
theorem iv_gt {n : Nat} {lo hi f : Int} : (iv n lo hi).filter (fun (i : Nat) => decide (f < (i : Int))) = iv n (max lo (f + 1)) hi := by
  unfold iv
  rw [List.filter_filter]
  apply List.filter_congr
  intro i _
  rw [Bool.eq_iff_iff]
  simp only [Bool.and_eq_true, decide_eq_true_eq]
  omega
section
variable {T : Prg} {k : Nat} {l : Ln} {p : Nat} {a : Int × Option Int} {f : Frm} {lo hi : Int}
theorem full_eq (hL : Ls T) (hk : 2 ≤ k) (hn : l.es.length ≤ 1000) (hp : l.es[p]? = some a) (h1 : LowOk l f.u f.lo p a lo) (h2 : HighOk l f.u f.hi p a hi) :
    ev T k 22 [.d (lineD l), .d (.int (p : Int)), .d (frD f)] = some (.d (.lst (dI (iv l.es.length lo hi))), [.d (lineD l), .d (.int (p : Int)), .d (frD f)]) := by
  refine W_eq (W_call hL.full (by omega) rfl fun j hj => ?_)
  show wS _ _ ir_full [some (.d _), some (.d _), some (.d _), none, none] _
  have e1 : ixD (lineD l) 1 = some (.tup (l.es.map entD)) := rfl
  have f0 : ixD (frD f) 0 = some (.str f.u.nm) := rfl
  have f1 : ixD (frD f) 1 = some (bdD f.lo) := rfl
  have f2 : ixD (frD f) 2 = some (bdD f.hi) := rfl
  have hsz := sizeLine_ge
  simp_arith only [ir_full]
  refine wE_comp (xs := dI (List.range l.es.length)) (fun x => match x with
    | .int i => if decide (lo ≤ i) = true then some (.int i) else none
    | _ => none) ?_ rfl rfl (fun x hx => ?_) ?_
  · simp_arith only [e1]
    rw [if_pos (by rw [List.length_map]; omega), range_dI, List.length_map]
    simp only [Int.toNat_natCast]
  · obtain ⟨i, hi', rfl⟩ := mem_dI hx
    rw [List.mem_range] at hi'
    have hg : l.es[i]? = some l.es[i] := List.getElem?_eq_getElem hi'
    obtain ⟨r, er1, er2⟩ := reaches_eq (u := f.u) (b := f.lo) hL (k := j) (by omega) hp hg (s := 1) (Or.inl rfl)
    rw [← h1.2.2 i _ hg] at er2
    simp_arith only [wipeE, f0, f1, er1]
    cases r with
    | true => simp_arith only []; rw [if_pos (er2.mp rfl)]
    | false => simp_arith only []; rw [if_neg (fun q => by have := er2.mpr q; cases this)]
  rw [dI_fm (P := fun i => decide (lo ≤ i)) (fun i => rfl)]
  simp_arith only []
  refine wE_comp (xs := dI ((List.range l.es.length).filter fun (i : Nat) => decide (lo ≤ (i : Int)))) (fun x => match x with
    | .int i => if decide (i ≤ hi) = true then some (.int i) else none
    | _ => none) ?_ rfl rfl (fun x hx => ?_) ?_
  · simp_arith only [items_l]
  · obtain ⟨i, hi', rfl⟩ := mem_dI hx
    have hi' := (List.mem_filter.mp hi').1
    rw [List.mem_range] at hi'
    have hg : l.es[i]? = some l.es[i] := List.getElem?_eq_getElem hi'
    obtain ⟨r, er1, er2⟩ := reaches_eq (u := f.u) (b := f.hi) hL (k := j) (by omega) hp hg (s := -1) (Or.inr rfl)
    rw [← h2.2.2 i _ hg] at er2
    simp_arith only [wipeE, f0, f2, er1]
    cases r with
    | true => simp_arith only []; rw [if_pos (er2.mp rfl)]
    | false => simp_arith only []; rw [if_neg (fun q => by have := er2.mpr q; cases this)]
  rw [dI_fm (P := fun i => decide (i ≤ hi)) (fun i => rfl), List.filter_filter]
  simp_arith only []
  have e : (List.range l.es.length).filter (fun (i : Nat) => decide ((i : Int) ≤ hi) && decide (lo ≤ (i : Int))) = iv l.es.length lo hi := by
    unfold iv
    apply List.filter_congr
    intro i _
    rw [Bool.and_comm]
  rw [e]
end
end Ov

set_option maxHeartbeats 4000000
namespace Ov
open PySem
section
variable {T : Prg} {k n : Nat} {β : Bool} {B : List D} {Q : EV × List EV → Prop}
/-- numbers below m alone -/
def SmlB (m : Int) (b : Bd) : Prop := ∀ n, b = .before n ∨ b = .after n → 0 ≤ n ∧ n < m
theorem W_edge (hT : Dr T) (hL : Gn T) (hk : 4 ≤ k) (hB : Bx n B) (hn : n + 6 ≤ 10 ^ 12) {m : Int} (hm : 0 < m) (hm2 : m ≤ 10 ^ 7) (q : ∀ b B', b ≠ .start → b ≠ .fin → SmlB m b → Bx (n + 6) B' → Q (.d (bdD b), [.own β B', .d (.int m)])) : W (ev T k 19 [.own β B, .d (.int m)]) Q := by
  refine W_call hL.edge (by omega) rfl fun j hj => ?_
  show wS _ _ ir_edge [some (.own β _), some (.d _)] _
  have l3 : (0 + 1 + 1 + 1 : Nat) ≤ sizeLine := by decide
  have l2 : (0 + 1 + 1 : Nat) ≤ sizeLine := by decide
  have l1 : (0 + 1 : Nat) ≤ sizeLine := by decide
  simp_arith only [ir_edge, if_pos l1]
  refine W_take hT (by omega) hB (by omega) hm (by omega) fun r1 B1 h1 h2 hB1 => ?_
  simp_arith only [if_pos l2]
  refine W_take hT (by omega) hB1 (by omega) hm (by omega) fun r2 B2 h3 h4 hB2 => ?_
  simp_arith only [if_pos l2, if_pos l3]
  refine W_pick hT (by omega) hB2 (by omega) rfl (by simp) (by simp) fun x B3 hx hB3 => ?_
  simp_arith only []
  simp only [List.mem_cons, List.not_mem_nil, or_false] at hx
  rcases hx with e | e | e
  · subst e; exact q .here _ (by simp) (by simp) (fun n h => by simp at h) (hB3.mono (by omega))
  · subst e; exact q (.before r1) _ (by simp) (by simp) (fun n h => by simp at h; omega) (hB3.mono (by omega))
  · subst e; exact q (.after r2) _ (by simp) (by simp) (fun n h => by simp at h; omega) (hB3.mono (by omega))
theorem len_bd {b : Bd} : lenD (bdD b) = some (.int (if counts b = true then 2 else 1)) := by cases b <;> rfl
theorem W_shape' (hT : Dr T) (hL : Gn T) (hk : 5 ≤ k) (hB : Bx n B) (hn : n + 20 ≤ 10 ^ 12) {fits : Bool} {m : Int} (hm : 0 < m) (hm2 : m ≤ 10 ^ 7)
    (q : ∀ f B', f.lo ≠ .fin ∧ SmlB m f.lo → f.hi ≠ .start ∧ SmlB m f.hi → (f.u = .range → fits = true ∨ (counts f.lo = false ∧ counts f.hi = false)) → Bx (n + 20) B' → Q (.d (frD f), [.own β B', .d (.bl fits), .d (.int m)])) : W (ev T k 20 [.own β B, .d (.bl fits), .d (.int m)]) Q := by
  refine W_call hL.shape (by omega) rfl fun j hj => ?_
  show wS _ _ ir_shape [some (.own β _), some (.d _), some (.d _), none, none, none] _
  have l4 : (0 + 1 + 1 + 1 + 1 : Nat) ≤ sizeLine := by decide
  have l3 : (0 + 1 + 1 + 1 : Nat) ≤ sizeLine := by decide
  have l2 : (0 + 1 + 1 : Nat) ≤ sizeLine := by decide
  have l1 : (0 + 1 : Nat) ≤ sizeLine := by decide
  -- the rest, once both bounds are there
  have rest : ∀ (lo hi : Bd) (B2 : List D), lo ≠ .fin ∧ SmlB m lo → hi ≠ .start ∧ SmlB m hi → Bx (n + 16) B2 →
      wS (Cf T j) T.w (.seq (.asg (.nm 5) (.call 14 (.cons (.var 0) (.cons (.ife (.bor (.var 1) (.one (.cmp .eq (.op .add (.lenS (.var 3)) (.lenS (.var 4))) (.int 2)))) (.lst (.cons (.str "rows") (.cons (.str "range") (.cons (.str "groups") .nil)))) (.lst (.cons (.str "rows") (.cons (.str "groups") .nil)))) .nil))))
    (.seq (.ret (.tup (.cons (.var 5) (.cons (.var 3) (.cons (.var 4) (.cons (.call 14 (.cons (.var 0) (.cons (.lst (.cons (.str "nobody") (.cons (.str "row") (.cons (.str "group") (.cons (.str "ties") .nil))))) .nil))) .nil))))))
    .skip)) [some (.own β B2), some (.d (.bl fits)), some (.d (.int m)), some (.d (bdD lo)), some (.d (bdD hi)), none] (fun o => W (outOf 3 o) Q) := by
    intro lo hi B2 h1 h2 hB2
    -- the last pick
    have tail : ∀ (u : Un) (B3 : List D), Bx (n + 18) B3 → (u = .range → fits = true ∨ (counts lo = false ∧ counts hi = false)) →
        wS (Cf T j) T.w (.seq (.ret (.tup (.cons (.var 5) (.cons (.var 3) (.cons (.var 4) (.cons (.call 14 (.cons (.var 0) (.cons (.lst (.cons (.str "nobody") (.cons (.str "row") (.cons (.str "group") (.cons (.str "ties") .nil))))) .nil))) .nil))))))
    .skip) [some (.own β B3), some (.d (.bl fits)), some (.d (.int m)), some (.d (bdD lo)), some (.d (bdD hi)), some (.d (.str u.nm))] (fun o => W (outOf 3 o) Q) := by
      intro u B3 hB3 hu
      simp_arith only [if_pos l4]
      refine W_pick hT (by omega) hB3 (by omega) rfl (by simp) (by simp) fun x B4 hx hB4 => ?_
      simp_arith only [if_pos l4]
      simp only [List.mem_cons, List.not_mem_nil, or_false] at hx
      rcases hx with e | e | e | e
      · subst e; exact q ⟨u, lo, hi, .nobody⟩ _ h1 h2 hu (hB4.mono (by omega))
      · subst e; exact q ⟨u, lo, hi, .row⟩ _ h1 h2 hu (hB4.mono (by omega))
      · subst e; exact q ⟨u, lo, hi, .group⟩ _ h1 h2 hu (hB4.mono (by omega))
      · subst e; exact q ⟨u, lo, hi, .ties⟩ _ h1 h2 hu (hB4.mono (by omega))
    have three : (fits = true ∨ (counts lo = false ∧ counts hi = false)) → W (ev T j 14 [.own true B2, .d (.lst [.str "rows", .str "range", .str "groups"])]) (fun r => ∃ (u : Un) (B3 : List D), r = (.d (.str u.nm), [.own true B3, .d (.lst [.str "rows", .str "range", .str "groups"])]) ∧ Bx (n + 18) B3 ∧ (u = .range → fits = true ∨ (counts lo = false ∧ counts hi = false))) := fun hf => by
      refine W_pick hT (by omega) hB2 (by omega) rfl (by simp) (by simp) fun x B3 hx hB3 => ?_
      simp only [List.mem_cons, List.not_mem_nil, or_false] at hx
      rcases hx with e | e | e
      · subst e; exact ⟨.rows, B3, rfl, hB3, fun e => by cases e⟩
      · subst e; exact ⟨.range, B3, rfl, hB3, fun _ => hf⟩
      · subst e; exact ⟨.groups, B3, rfl, hB3, fun e => by cases e⟩
    have two : W (ev T j 14 [.own true B2, .d (.lst [.str "rows", .str "groups"])]) (fun r => ∃ (u : Un) (B3 : List D), r = (.d (.str u.nm), [.own true B3, .d (.lst [.str "rows", .str "groups"])]) ∧ Bx (n + 18) B3 ∧ (u = .range → fits = true ∨ (counts lo = false ∧ counts hi = false))) := by
      refine W_pick hT (by omega) hB2 (by omega) rfl (by simp) (by simp) fun x B3 hx hB3 => ?_
      simp only [List.mem_cons, List.not_mem_nil, or_false] at hx
      rcases hx with e | e
      · subst e; exact ⟨.rows, B3, rfl, hB3, fun e => by cases e⟩
      · subst e; exact ⟨.groups, B3, rfl, hB3, fun e => by cases e⟩
    cases hfit : fits with
    | true =>
      subst hfit
      rw [wS_seq]
      simp_arith [wS_asg, if_pos l3]
      refine W_mono (three (Or.inl rfl)) ?_
      rintro r ⟨u, B3, rfl, hB3, hu⟩
      simp_arith [thenW_nx]
      exact tail u B3 hB3 hu
    | false =>
      subst hfit
      rw [wS_seq]
      simp_arith [wS_asg, len_bd]
      by_cases hc : (if counts lo = true then (2 : Int) else 1) + (if counts hi = true then 2 else 1) = 2
      · have hcc : counts lo = false ∧ counts hi = false := by
          cases h1 : counts lo <;> cases h2 : counts hi <;> simp [h1, h2] at hc ⊢
        simp only [if_pos hc, if_pos l3]
        refine W_mono (three (Or.inr hcc)) ?_
        rintro r ⟨u, B3, rfl, hB3, hu⟩
        simp_arith [thenW_nx]
        exact tail u B3 hB3 hu
      · simp only [if_neg hc, if_pos l2]
        refine W_mono two ?_
        rintro r ⟨u, B3, rfl, hB3, hu⟩
        simp_arith [thenW_nx]
        exact tail u B3 hB3 hu
  -- the upper bound
  have upper : ∀ (lo : Bd) (B1 : List D), lo ≠ .fin ∧ SmlB m lo → Bx (n + 8) B1 →
      wS (Cf T j) T.w (.seq (.asg (.nm 4) (.ife (.cmp .eq (.call 13 (.cons (.var 0) (.cons (.int 4) .nil))) (.int 0)) (.tup (.cons (.str "end") .nil)) (.call 19 (.cons (.var 0) (.cons (.var 2) .nil)))))
      (.seq (.asg (.nm 5) (.call 14 (.cons (.var 0) (.cons (.ife (.bor (.var 1) (.one (.cmp .eq (.op .add (.lenS (.var 3)) (.lenS (.var 4))) (.int 2)))) (.lst (.cons (.str "rows") (.cons (.str "range") (.cons (.str "groups") .nil)))) (.lst (.cons (.str "rows") (.cons (.str "groups") .nil)))) .nil))))
    (.seq (.ret (.tup (.cons (.var 5) (.cons (.var 3) (.cons (.var 4) (.cons (.call 14 (.cons (.var 0) (.cons (.lst (.cons (.str "nobody") (.cons (.str "row") (.cons (.str "group") (.cons (.str "ties") .nil))))) .nil))) .nil))))))
    .skip))) [some (.own β B1), some (.d (.bl fits)), some (.d (.int m)), some (.d (bdD lo)), none, none] (fun o => W (outOf 3 o) Q) := by
    intro lo B1 h1 hB1
    rw [wS_seq]
    simp_arith [wS_asg]
    refine W_take hT (by omega) hB1 (by omega) (by decide) (by decide) fun r1 B2 _ _ hB2 => ?_
    simp_arith [wS_asg]
    by_cases hr : r1 = 0
    · rw [if_pos hr, if_pos l1]
      exact rest lo .fin B2 h1 ⟨by simp, fun n h => by simp at h⟩ (hB2.mono (by omega))
    · rw [if_neg hr]
      refine W_edge hT hL (by omega) hB2 (by omega) hm hm2 fun b B3 hb1 hb2 hb3 hB3 => ?_
      simp_arith [thenW_nx]
      exact rest lo b B3 h1 ⟨hb1, hb3⟩ (hB3.mono (by omega))
  show wS _ _ (.seq _ _) _ _
  rw [wS_seq]
  simp_arith [wS_asg]
  refine W_take hT (by omega) hB (by omega) (by decide) (by decide) fun r1 B2 _ _ hB2 => ?_
  simp_arith [wS_asg]
  by_cases hr : r1 = 0
  · rw [if_pos hr, if_pos l1]
    exact upper .start B2 ⟨by simp, fun n h => by simp at h⟩ (hB2.mono (by omega))
  · rw [if_neg hr]
    refine W_edge hT hL (by omega) hB2 (by omega) hm hm2 fun b B3 hb1 hb2 hb3 hB3 => ?_
    simp_arith [thenW_nx]
    exact upper b B3 ⟨hb2, hb3⟩ (hB3.mono (by omega))
theorem W_shape (hT : Dr T) (hL : Gn T) (hk : 5 ≤ k) (hB : Bx n B) (hn : n + 20 ≤ 10 ^ 12) {fits : Bool} {m : Int} (hm : 0 < m) (hm2 : m ≤ 10 ^ 7)
    (q : ∀ f B', f.lo ≠ .fin → f.hi ≠ .start → (f.u = .range → fits = true ∨ (counts f.lo = false ∧ counts f.hi = false)) → Bx (n + 20) B' → Q (.d (frD f), [.own β B', .d (.bl fits), .d (.int m)])) : W (ev T k 20 [.own β B, .d (.bl fits), .d (.int m)]) Q :=
  W_shape' hT hL hk hB hn hm hm2 fun f B' h1 h2 => q f B' h1.1 h2.1
end
end Ov

set_option maxHeartbeats 4000000
namespace Ov
open PySem
/-- rows with values that go on -/
structure Asc (sg : Int) (es : List (Int × Option Int)) (G w : Int) : Prop where
  mono : ∀ (i j : Nat) a c, es[i]? = some a → es[j]? = some c → i ≤ j → a.1 ≤ c.1 ∧ ∀ v v', a.2 = some v → c.2 = some v' → sg * v ≤ sg * v'
  all : ∀ (i : Nat) a, es[i]? = some a → 0 ≤ a.1 ∧ a.1 ≤ G ∧ ∃ v, a.2 = some v ∧ sg * v ≤ w
  pos : 0 ≤ G
  gv : ∀ (i j : Nat) a c v v', es[i]? = some a → es[j]? = some c → a.2 = some v → c.2 = some v' → (a.1 = c.1 ↔ v = v')
  top : ∀ (i : Nat) a v, es[i]? = some a → a.2 = some v → (a.1 = G ↔ sg * v = w)
  low : -4 ≤ w ∧ ∀ (i : Nat) a v, es[i]? = some a → a.2 = some v → -4 ≤ sg * v
theorem get_snoc {α : Type} {es : List α} {x : α} {i : Nat} {a : α} (h : (es ++ [x])[i]? = some a) : es[i]? = some a ∨ (i = es.length ∧ a = x) := by
  rw [List.getElem?_append] at h
  split at h
  · exact Or.inl h
  · rename_i hn
    right
    cases hk : i - es.length with
    | zero => rw [hk] at h; simp only [List.getElem?_cons_zero, Option.some.injEq] at h; exact ⟨by omega, h.symm⟩
    | succ k => rw [hk] at h; simp at h
theorem Asc.snoc {sg : Int} (hsg : sg = 1 ∨ sg = -1) {es : List (Int × Option Int)} {G w G' w' : Int} (h : Asc sg es G w) (hGw : (G' = G ∧ w' = w) ∨ (G < G' ∧ w < w')) : Asc sg (es ++ [(G', some (sg * w'))]) G' w' := by
  have hG : G ≤ G' := by omega
  have hw : w ≤ w' := by omega
  have hss : sg * (sg * w') = w' := by rcases hsg with e | e <;> subst e <;> omega
  have hp := h.pos
  have sinj : ∀ x y : Int, sg * x = sg * y ↔ x = y := fun x y => by rcases hsg with e | e <;> subst e <;> omega
  have old : ∀ (i : Nat) a v, es[i]? = some a → a.2 = some v → (a.1 = G' ↔ v = sg * w') := fun i a v hi hv => by
    have h1 := h.top i a v hi hv
    obtain ⟨_, h3, v', h4, h5⟩ := h.all i a hi
    rw [hv] at h4; cases h4
    have h6 := sinj v (sg * w')
    rw [hss] at h6
    omega
  have hlow := h.low
  refine ⟨fun i j a c hi hj hij => ?_, fun i a hi => ?_, by omega, fun i j a c v v' hi hj hv hv' => ?_, fun i a v hi hv => ?_, ⟨by omega, fun i a v hi hv => ?_⟩⟩
  rotate_left 4
  · rcases get_snoc hi with hi | ⟨hi, rfl⟩
    · exact hlow.2 i a v hi hv
    · cases hv; rw [hss]; omega
  rotate_left 2
  · rcases get_snoc hi with hi | ⟨hi, rfl⟩
    · rcases get_snoc hj with hj | ⟨hj, rfl⟩
      · exact h.gv i j a c v v' hi hj hv hv'
      · cases hv'; exact old i a v hi hv
    · cases hv
      rcases get_snoc hj with hj | ⟨hj, rfl⟩
      · have := old j c v' hj hv'
        constructor
        · intro e; exact (this.mp e.symm).symm
        · intro e; exact (this.mpr e.symm).symm
      · cases hv'; simp
  · rcases get_snoc hi with hi | ⟨hi, rfl⟩
    · have h1 := old i a v hi hv
      have h6 := sinj v (sg * w')
      rw [hss] at h6
      rw [h1, ← h6]
    · cases hv; rw [hss]; simp
  · rcases get_snoc hi with hi | ⟨hi, rfl⟩
    · rcases get_snoc hj with hj | ⟨hj, rfl⟩
      · exact h.mono i j a c hi hj hij
      · obtain ⟨h1, h2, v, h3, h4⟩ := h.all i a hi
        refine ⟨by show a.1 ≤ G'; omega, fun u u' e1 e2 => ?_⟩
        rw [h3] at e1; cases e1; cases e2
        omega
    · rcases get_snoc hj with hj | ⟨hj, rfl⟩
      · have := lt_of_get hj; omega
      · refine ⟨Int.le_refl _, fun u u' e1 e2 => ?_⟩
        cases e1; cases e2; omega
  · rcases get_snoc hi with hi | ⟨hi, rfl⟩
    · obtain ⟨h1, h2, v, h3, h4⟩ := h.all i a hi
      exact ⟨h1, by omega, v, h3, by omega⟩
    · exact ⟨by show 0 ≤ G'; omega, Int.le_refl _, _, rfl, by omega⟩
theorem mu_append {ys : List D} {x : D} : muD .append ys [x] = if ys.length < sizeLine then some (.non, ys ++ [x]) else none := rfl
def NB (o : Option EV) : Prop := isBox (some o) = false ∧ isOwn (some o) = false
/-- small numbers alone -/
def Sml (es : List (Int × Option Int)) : Prop := ∀ a ∈ es, -2000 ≤ a.1 ∧ a.1 ≤ 2000 ∧ ∀ v, a.2 = some v → -5000 ≤ v ∧ v ≤ 5000
theorem Asc.sm {sg G w : Int} (hsg : sg = 1 ∨ sg = -1) {es : List (Int × Option Int)} (h : Asc sg es G w) (hG : G ≤ 1000) (hw : w ≤ 5000) : ∀ a ∈ es, 0 ≤ a.1 ∧ a.1 ≤ 1000 ∧ ∀ v, a.2 = some v → -5000 ≤ v ∧ v ≤ 5000 := fun a ha => by
  obtain ⟨i, hi⟩ := List.getElem?_of_mem ha
  obtain ⟨h1, h2, v, h3, h4⟩ := h.all i a hi
  refine ⟨h1, by omega, fun v' hv => ?_⟩
  rw [h3] at hv; cases hv
  have := h.low.2 i a v hi h3
  rcases hsg with e | e <;> subst e <;> omega
structure LaneOk (l : Ln) (fits : Bool) (m : Int) : Prop where
  mono : Mono l.es
  val : fits = true → Val l
  ne : 1 ≤ l.es.length
  le : (l.es.length : Int) ≤ m + 2
  gv : fits = true → ∀ (i j : Nat) g v g' v', l.es[i]? = some (g, some v) → l.es[j]? = some (g', some v') → (g = g' ↔ v = v')
  sm : Sml l.es
theorem lane_bare {sg G w : Int} {es : List (Int × Option Int)} (h : Asc sg es G w) (hsm : ∀ a ∈ es, 0 ≤ a.1 ∧ a.1 ≤ 1000 ∧ ∀ v, a.2 = some v → -5000 ≤ v ∧ v ≤ 5000) {m : Int} (h1 : 1 ≤ es.length) (h2 : (es.length : Int) ≤ m) {up : Bool} : LaneOk ⟨up, es.map fun q => (q.1, none)⟩ false m := by
  refine ⟨fun i j a c hi hj hij => ?_, fun e => (by cases e), by simpa using h1, (by simp; omega), fun e => (by cases e), fun a ha => ?_⟩
  rotate_left
  · obtain ⟨b, hb, rfl⟩ := List.mem_map.mp ha
    have := hsm b hb
    exact ⟨by show -2000 ≤ b.1; omega, by show b.1 ≤ 2000; omega, fun v e => by cases e⟩
  simp only [List.getElem?_map] at hi hj
  cases hi' : es[i]? with
  | none => rw [hi'] at hi; cases hi
  | some a' =>
    cases hj' : es[j]? with
    | none => rw [hj'] at hj; cases hj
    | some c' =>
      rw [hi'] at hi; rw [hj'] at hj; cases hi; cases hj
      exact (h.mono i j a' c' hi' hj' hij).1
theorem lane_alike {n : Nat} {m : Int} (h1 : 1 ≤ n) (h2 : (n : Int) ≤ m) {up : Bool} {es : List (Int × Option Int)} (he : es = List.replicate n (0, none)) : LaneOk ⟨up, es⟩ true m := by
  subst he
  have get : ∀ (i : Nat) a, (List.replicate n ((0 : Int), (none : Option Int)))[i]? = some a → a = (0, none) := fun i a h => by
    rw [List.getElem?_replicate] at h
    split at h
    · cases h; rfl
    · cases h
  refine ⟨fun i j a c hi hj hij => ?_, fun _ => ⟨⟨0, 0, fun i a h => ?_⟩, fun i j a c hi hj _ => ?_, fun i j g v g' v' hi => ?_⟩, by simpa using h1, (by simp; omega), fun _ i j g v g' v' hi => (by have := get i _ hi; cases this), fun a ha => ?_⟩
  rotate_left 4
  · rw [List.eq_of_mem_replicate ha]
    exact ⟨by decide, by decide, fun v e => by cases e⟩
  · rw [get i a hi, get j c hj]; exact Int.le_refl _
  · rw [get i a h]; simp
  · rw [get i a hi, get j c hj]; simp
  · have := get i _ hi; cases this
theorem sgn_of {up : Bool} {es : List (Int × Option Int)} {sg : Int} (h : (sg = 1 ∧ up = true) ∨ (sg = -1 ∧ up = false)) : sgn ⟨up, es⟩ = sg := by
  rcases h with ⟨e, f⟩ | ⟨e, f⟩ <;> subst e <;> subst f <;> rfl
theorem lane_plain {sg G w : Int} {es : List (Int × Option Int)} (h : Asc sg es G w) (hsm : ∀ a ∈ es, 0 ≤ a.1 ∧ a.1 ≤ 1000 ∧ ∀ v, a.2 = some v → -5000 ≤ v ∧ v ≤ 5000) {m : Int} (h1 : 1 ≤ es.length) (h2 : (es.length : Int) ≤ m) {up : Bool} (hs : (sg = 1 ∧ up = true) ∨ (sg = -1 ∧ up = false)) : LaneOk ⟨up, es⟩ true m := by
  refine ⟨fun i j a c hi hj hij => (h.mono i j a c hi hj hij).1, fun _ => ⟨⟨0, es.length, fun i a hi => ?_⟩, fun i j a c hi hj hn => ?_, fun i j g v g' v' hi hj hij => ?_⟩, h1, (by show (es.length : Int) ≤ m + 2; omega), fun _ i j g v g' v' hi hj => h.gv i j _ _ v v' hi hj rfl rfl, fun a ha => (by have := hsm a ha; exact ⟨by omega, by omega, this.2.2⟩)⟩
  · obtain ⟨_, _, v, e, _⟩ := h.all i a hi
    have := lt_of_get hi
    rw [e]; simp; exact this
  · obtain ⟨_, _, v, e, _⟩ := h.all i a hi
    rw [hn] at e; cases e
  · rw [sgn_of hs]
    exact (h.mono i j _ _ hi hj hij).2 v v' rfl rfl
theorem get_app {α : Type} {xs ys : List α} {i : Nat} {a : α} (h : (xs ++ ys)[i]? = some a) : (i < xs.length ∧ xs[i]? = some a) ∨ (xs.length ≤ i ∧ ys[i - xs.length]? = some a) := by
  rw [List.getElem?_append] at h
  split at h
  · rename_i q; exact Or.inl ⟨q, h⟩
  · rename_i q; exact Or.inr ⟨by omega, h⟩
theorem get_rep {α : Type} {n : Nat} {x a : α} {i : Nat} (h : (List.replicate n x)[i]? = some a) : a = x := by
  rw [List.getElem?_replicate] at h
  split at h
  · cases h; rfl
  · cases h
theorem lane_nulls1 {sg G w : Int} {es : List (Int × Option Int)} (h : Asc sg es G w) (hsm : ∀ a ∈ es, 0 ≤ a.1 ∧ a.1 ≤ 1000 ∧ ∀ v, a.2 = some v → -5000 ≤ v ∧ v ≤ 5000) {m : Int} (h1 : 1 ≤ es.length) (h2 : (es.length : Int) ≤ m) {n : Nat} (hn : n ≤ 2) {up : Bool} (hs : (sg = 1 ∧ up = true) ∨ (sg = -1 ∧ up = false)) :
    LaneOk ⟨up, List.replicate n (0, none) ++ es.map fun q => (q.1 + 1, q.2)⟩ true m := by
  have get : ∀ (i : Nat) a, (List.replicate n ((0 : Int), (none : Option Int)) ++ es.map fun q => (q.1 + 1, q.2))[i]? = some a → (i < n ∧ a = (0, none)) ∨ (n ≤ i ∧ ∃ b, es[i - n]? = some b ∧ a = (b.1 + 1, b.2)) := fun i a h => by
    rcases get_app h with ⟨q1, q2⟩ | ⟨q1, q2⟩
    · left; exact ⟨by simpa using q1, get_rep q2⟩
    · right
      rw [List.length_replicate] at q1 q2
      rw [List.getElem?_map] at q2
      cases hb : es[i - n]? with
      | none => rw [hb] at q2; cases q2
      | some b => rw [hb] at q2; cases q2; exact ⟨q1, b, rfl, rfl⟩
  refine ⟨fun i j a c hi hj hij => ?_, fun _ => ⟨⟨n, n + es.length, fun i a hi => ?_⟩, fun i j a c hi hj hnn => ?_, fun i j g v g' v' hi hj hij => ?_⟩, (by simp; omega), (by simp; omega), fun _ i j g v g' v' hi hj => ?_, fun a ha => ?_⟩
  rotate_left 5
  · rcases List.mem_append.mp ha with ha | ha
    · rw [List.eq_of_mem_replicate ha]
      exact ⟨by decide, by decide, fun v e => by cases e⟩
    · obtain ⟨b, hb, rfl⟩ := List.mem_map.mp ha
      have := hsm b hb
      exact ⟨by show -2000 ≤ b.1 + 1; omega, by show b.1 + 1 ≤ 2000; omega, this.2.2⟩
  · rcases get i a hi with ⟨q1, rfl⟩ | ⟨q1, b, q2, rfl⟩
    · rcases get j c hj with ⟨p1, rfl⟩ | ⟨p1, d, p2, rfl⟩
      · exact Int.le_refl _
      · have := (h.all _ d p2).1
        show (0 : Int) ≤ d.1 + 1; omega
    · rcases get j c hj with ⟨p1, rfl⟩ | ⟨p1, d, p2, rfl⟩
      · omega
      · have := (h.mono _ _ b d q2 p2 (by omega)).1
        show b.1 + 1 ≤ d.1 + 1; omega
  · rcases get i a hi with ⟨q1, rfl⟩ | ⟨q1, b, q2, rfl⟩
    · simp; omega
    · obtain ⟨_, _, v, e, _⟩ := h.all _ b q2
      have := lt_of_get q2
      simp only [e]; simp; omega
  · rcases get i a hi with ⟨q1, rfl⟩ | ⟨q1, b, q2, rfl⟩
    · rcases get j c hj with ⟨p1, rfl⟩ | ⟨p1, d, p2, rfl⟩
      · simp
      · obtain ⟨g1, _, v, e, _⟩ := h.all _ d p2
        simp only [e]; simp; omega
    · obtain ⟨_, _, v, e, _⟩ := h.all _ b q2
      rw [e] at hnn; cases hnn
  · rw [sgn_of hs]
    rcases get i _ hi with ⟨q1, e⟩ | ⟨q1, b, q2, e⟩
    · cases e
    · rcases get j _ hj with ⟨p1, f⟩ | ⟨p1, d, p2, f⟩
      · cases f
      · simp only [Prod.mk.injEq] at e f
        exact (h.mono _ _ b d q2 p2 (by omega)).2 v v' e.2.symm f.2.symm
  · rcases get i _ hi with ⟨q1, e⟩ | ⟨q1, b, q2, e⟩
    · cases e
    · rcases get j _ hj with ⟨p1, f⟩ | ⟨p1, d, p2, f⟩
      · cases f
      · simp only [Prod.mk.injEq] at e f
        have := h.gv _ _ b d v v' q2 p2 e.2.symm f.2.symm
        omega
theorem lane_nulls2 {sg G w : Int} {es : List (Int × Option Int)} (h : Asc sg es G w) (hG1 : G ≤ 1000) (hsm : ∀ a ∈ es, 0 ≤ a.1 ∧ a.1 ≤ 1000 ∧ ∀ v, a.2 = some v → -5000 ≤ v ∧ v ≤ 5000) {m : Int} (h1 : 1 ≤ es.length) (h2 : (es.length : Int) ≤ m) {n : Nat} (hn : n ≤ 2) {up : Bool} (hs : (sg = 1 ∧ up = true) ∨ (sg = -1 ∧ up = false)) :
    LaneOk ⟨up, es ++ List.replicate n (G + 1, none)⟩ true m := by
  have get : ∀ (i : Nat) a, (es ++ List.replicate n (G + 1, (none : Option Int)))[i]? = some a → (i < es.length ∧ es[i]? = some a) ∨ (es.length ≤ i ∧ a = (G + 1, none)) := fun i a h => by
    rcases get_app h with q | ⟨q1, q2⟩
    · exact Or.inl q
    · exact Or.inr ⟨q1, get_rep q2⟩
  refine ⟨fun i j a c hi hj hij => ?_, fun _ => ⟨⟨0, es.length, fun i a hi => ?_⟩, fun i j a c hi hj hnn => ?_, fun i j g v g' v' hi hj hij => ?_⟩, (by simp; omega), (by simp; omega), fun _ i j g v g' v' hi hj => ?_, fun a ha => ?_⟩
  rotate_left 5
  · have hp := h.pos
    rcases List.mem_append.mp ha with ha | ha
    · have := hsm a ha
      exact ⟨by omega, by omega, this.2.2⟩
    · rw [List.eq_of_mem_replicate ha]
      exact ⟨by show -2000 ≤ G + 1; omega, by show G + 1 ≤ 2000; omega, fun v e => by cases e⟩
  · rcases get i a hi with ⟨q1, q2⟩ | ⟨q1, rfl⟩
    · rcases get j c hj with ⟨p1, p2⟩ | ⟨p1, rfl⟩
      · exact (h.mono _ _ a c q2 p2 hij).1
      · have := (h.all _ a q2).2.1
        show a.1 ≤ G + 1; omega
    · rcases get j c hj with ⟨p1, p2⟩ | ⟨p1, rfl⟩
      · omega
      · exact Int.le_refl _
  · rcases get i a hi with ⟨q1, q2⟩ | ⟨q1, rfl⟩
    · obtain ⟨_, _, v, e, _⟩ := h.all _ a q2
      simp only [e]; simp; omega
    · simp; omega
  · rcases get i a hi with ⟨q1, q2⟩ | ⟨q1, rfl⟩
    · obtain ⟨_, _, v, e, _⟩ := h.all _ a q2
      rw [e] at hnn; cases hnn
    · rcases get j c hj with ⟨p1, p2⟩ | ⟨p1, rfl⟩
      · obtain ⟨g1, g2, v, e, _⟩ := h.all _ c p2
        simp only [e]; simp; omega
      · simp
  · rw [sgn_of hs]
    rcases get i _ hi with ⟨q1, q2⟩ | ⟨q1, e⟩
    · rcases get j _ hj with ⟨p1, p2⟩ | ⟨p1, f⟩
      · exact (h.mono _ _ _ _ q2 p2 hij).2 v v' rfl rfl
      · cases f
    · cases e
  · rcases get i _ hi with ⟨q1, q2⟩ | ⟨q1, e⟩
    · rcases get j _ hj with ⟨p1, p2⟩ | ⟨p1, f⟩
      · exact h.gv _ _ _ _ v v' q2 p2 rfl rfl
      · cases f
    · cases e
theorem ent_val {a : Int × Option Int} {v : Int} (h : a.2 = some v) : entD a = .tup [.int a.1, .int v] := by unfold entD; rw [h]; rfl
/-- every entry has a value -/
def Full (es : List (Int × Option Int)) : Prop := ∀ a ∈ es, ∃ v, a.2 = some v
theorem fm_ent {f : D → Option D} {g : Int × Option Int → D} : ∀ {es : List (Int × Option Int)}, (∀ a ∈ es, f (entD a) = some (g a)) → (es.map entD).filterMap f = es.map g
  | [], _ => rfl
  | e :: es, h => by
    rw [List.map_cons, List.filterMap_cons, h e (List.mem_cons_self ..), List.map_cons, fm_ent fun a ha => h a (List.mem_cons_of_mem _ ha)]
theorem rep_flat {x : D} : ∀ n : Nat, (List.replicate n [x]).flatten = List.replicate n x
  | 0 => rfl
  | n + 1 => by rw [List.replicate_succ, List.flatten_cons, rep_flat n]; rfl
theorem range_get {N i : Nat} {x : D} (h : (range1 N)[i]? = some x) : i < N ∧ x = .int (i : Int) := by
  unfold range1 at h
  rw [List.getElem?_map] at h
  by_cases hi : i < N
  · rw [List.getElem?_range hi] at h
    exact ⟨hi, (Option.some.inj h).symm⟩
  · rw [List.getElem?_eq_none (by simpa using hi)] at h
    cases h
section
variable {T : Prg} {k n : Nat} {β : Bool} {B : List D} {Q : EV × List EV → Prop}
/-- the turns -/
def LaneI (β : Bool) (n : Nat) (m sort nulls sg : Int) (i : Nat) (ρ : Slots) : Prop := ∃ (B : List D) (s2 : Option EV) (es : List (Int × Option Int)) (G w : Int), NB s2 ∧ Bx (n + 10 + 4 * i) B ∧ es.length = i ∧ Asc sg es G w ∧ G ≤ i ∧ w ≤ 4 + 4 * i ∧
  ρ = [some (.own β B), some (.d (.int m)), s2, none, some (.d (.int sort)), some (.d (.int nulls)), some (.own false (es.map entD)), some (.d (.int G)), some (.d (.int w)), some (.d (.int sg)), none, none]
theorem W_lane (hT : Dr T) (hL : Gn T) (hk : 4 ≤ k) (hB : Bx n B) (hn : n + 10 ^ 6 ≤ 10 ^ 12) {m : Int} (hm : 0 < m) (hm2 : m ≤ 1000)
    (q : ∀ l fits B', LaneOk l fits m → Bx (n + 4 * m.toNat + 40) B' → Q (.d (.tup [lineD l, .bl fits]), [.own β B', .d (.int m)])) : W (ev T k 18 [.own β B, .d (.int m)]) Q := by
  refine W_call hL.lane (by omega) rfl fun j hj => ?_
  show wS _ _ ir_lane [some (.own β _), some (.d _), none, none, none, none, none, none, none, none, none, none] _
  have l3 : (0 + 1 + 1 + 1 : Nat) ≤ sizeLine := by decide
  have l2 : (0 + 1 + 1 : Nat) ≤ sizeLine := by decide
  have l1 : (0 + 1 : Nat) ≤ sizeLine := by decide
  have l0 : (0 : Nat) ≤ sizeLine := by decide
  have hsz := sizeLine_ge
  unfold ir_lane
  rw [wS_seq]
  simp_arith [wS_par]
  refine W_take hT (by omega) hB (by omega) (by decide) (by decide) fun sort B1 hs0 hs1 hB1 => ?_
  simp_arith []
  refine W_take hT (by omega) hB1 (by omega) (by decide) (by decide) fun nulls B2 hn0 hn1 hB2 => ?_
  simp_arith [if_pos l0, thenW_nx]
  rw [wS_seq]
  simp_arith [wS_par]
  refine W_take hT (by omega) hB2 (by omega) (by decide) (by decide) fun w0 B3 hw0 hw1 hB3 => ?_
  simp_arith []
  refine W_take hT (by omega) hB3 (by omega) (by decide) (by decide) fun g0 B4 hg0 hg1 hB4 => ?_
  rw [show (n + 2 + 2 + 2 + 2) = n + 8 by omega] at hB4
  simp_arith [if_pos (sm_l (show -(2 ^ 64) < (2 : Int) ∧ (2 : Int) < 2 ^ 64 by decide)), thenW_nx]
  have hsg : (1 - 2 * g0) = 1 ∨ (1 - 2 * g0) = -1 := by omega
  generalize 1 - 2 * g0 = sg at hsg
  have msg : ∀ z : Int, (small sg || small z) = true := fun z => sm_l (by rcases hsg with e | e <;> (subst e; decide))
  rw [wS_seq]
  simp_arith [wS_forS]
  refine W_take hT (by omega) hB4 (by omega) hm (by omega) fun many B5 hm0 hm1 hB5 => ?_
  rw [show (n + 8 + 2) = n + 10 by omega] at hB5
  simp_arith []
  rw [if_pos (by omega)]
  generalize hN : (1 + many).toNat = N
  refine wF_inv (LaneI β n m sort nulls sg) ?_ ?_ ?_
  · exact ⟨B5, none, [], 0, w0 - 4, ⟨rfl, rfl⟩, by simpa using hB5, rfl, ⟨fun i j a c hi => by simp at hi, fun i a hi => by simp at hi, by omega, fun i j a c v v' hi => by simp at hi, fun i a v hi => by simp at hi, ⟨by omega, fun i a v hi => by simp at hi⟩⟩, by omega, by omega, rfl⟩
  · rintro i x ρ hx ⟨B, s2, es, G, w, hs2, hB, hlen, ha, hGi, hwi, rfl⟩
    obtain ⟨hiN, rfl⟩ := range_get hx
    simp_arith [hs2.1]
    rw [wS_seq]
    have app : ∀ (QQ : Out → Prop), (∀ ρ1, LaneI β n m sort nulls sg (i + 1) ρ1 → QQ (.nx ρ1)) → ∀ (B' : List D) (G' w' : Int), Bx (n + 10 + 4 * (i + 1)) B' → ((G' = G ∧ w' = w) ∨ (G < G' ∧ w < w')) → G' ≤ i + 1 → w' ≤ 4 + 4 * (i + 1) →
        wS (Cf T j) T.w (.seq (.expr (.mu .append 6 (.cons (.tup (.cons (.var 7) (.cons (.op .mul (.var 9) (.var 8)) .nil))) .nil))) .skip)
          [some (.own β B'), some (.d (.int m)), some (.d (.int (i : Int))), none, some (.d (.int sort)), some (.d (.int nulls)), some (.own false (es.map entD)), some (.d (.int G')), some (.d (.int w')), some (.d (.int sg)), none, none]
          QQ := by
      intro QQ hQ B' G' w' hB' hGw hG1 hw1
      simp_arith only [if_pos (msg _), if_pos l2, mu_append]
      rw [if_pos (by rw [List.length_map]; omega)]
      exact hQ _ ⟨B', some (.d (.int (i : Int))), es ++ [(G', some (sg * w'))], G', w', ⟨rfl, rfl⟩, hB', by simp [hlen], ha.snoc hsg hGw, by omega, by omega, by simp [entD, optD]⟩
    simp_arith [wS_ifS, wS_par]
    by_cases h0 : (0 : Int) < (i : Int)
    · simp only [if_pos h0]
      refine W_take hT (by omega) hB (by omega) (by decide) (by decide) fun r1 B6 _ _ hB6 => ?_
      simp_arith []
      by_cases hr : r1 = 0
      · simp_arith [if_pos hr, wS_seq, wS_par]
        refine W_take hT (by omega) hB6 (by omega) (by decide) (by decide) fun r2 B7 h20 h23 hB7 => ?_
        simp_arith [thenW_nx, wS_skip]
        exact app _ (fun _ h => h) B7 _ _ (hB7.mono (by omega)) (by omega) (by omega) (by omega)
      · simp only [if_neg hr, wS_skip, thenW_nx]
        exact app _ (fun _ h => h) B6 _ _ (hB6.mono (by omega)) (by omega) (by omega) (by omega)
    · simp_arith [if_neg h0, wS_skip, thenW_nx]
      exact app _ (fun _ h => h) B _ _ (hB.mono (by omega)) (by omega) (by omega) (by omega)
  · rintro ρ ⟨B, s2, es, G, w, hs2, hB, hlen, ha, hGi, hwi, rfl⟩
    have hlN : es.length = N := by rw [hlen]; simp [range1]
    have h1 : 1 ≤ es.length := by omega
    have h2 : (es.length : Int) ≤ m := by omega
    have hB' : Bx (n + 4 * m.toNat + 20) B := hB.mono (by simp only [range1, List.length_map, List.length_range]; omega)
    have hrl : (range1 N).length = N := by simp [range1]
    rw [hrl] at hGi hwi
    have hsm := ha.sm hsg (by omega) (by omega)
    have hfull : ∀ a ∈ es, ∃ v, a.2 = some v := fun a h => by
      obtain ⟨i, hi⟩ := List.getElem?_of_mem h
      obtain ⟨_, _, v, e, _⟩ := ha.all i a hi
      exact ⟨v, e⟩
    rw [thenW_nx, wS_seq]
    simp_arith [wS_ifS]
    by_cases hs : sort < 2
    · rw [if_pos hs, wS_seq]
      simp_arith [wS_asgO]
      refine wE_compF (xs := es.map entD) (ρ := [some (.own β B), some (.d (.int m)), s2, none, some (.d (.int sort)), some (.d (.int nulls)), some (.d (.lst (es.map entD))), some (.d (.int G)), some (.d (.int w)), some (.d (.int sg)), none, none]) (fun x => match x with
        | .tup [.int g, .int _] => some (.tup [.int (if sort = 0 then g else 0), .non])
        | _ => none) ?_ rfl rfl (fun x hx => ?_) ?_
      · simp_arith [items_l]
      · obtain ⟨a, hm, rfl⟩ := List.mem_map.mp hx
        obtain ⟨v, hv⟩ := hfull a hm
        rw [ent_val hv]
        simp_arith [wipeE]
        split
        · simp_arith [if_pos l2]
        · simp_arith [if_pos l2]
      · rw [fm_ent (g := fun a => entD (if sort = 0 then a.1 else 0, none)) (fun a h => by obtain ⟨v, hv⟩ := hfull a h; rw [ent_val hv]; rfl)]
        have hmm : (es.map fun a => entD (if sort = 0 then a.1 else 0, none)) = (es.map fun (a : Int × Option Int) => ((if sort = 0 then a.1 else 0, none) : Int × Option Int)).map entD := by rw [List.map_map]; rfl
        rw [hmm]
        by_cases hz : sort = 0
        · subst hz
          simp_arith only [if_pos l2]
          exact q ⟨true, es.map fun q => (q.1, none)⟩ false B (lane_bare ha hsm h1 h2) (hB'.mono (by omega))
        · simp only [if_neg hz]
          have he : (es.map fun (a : Int × Option Int) => ((0, none) : Int × Option Int)) = List.replicate es.length (0, none) := by
            rw [List.map_const']
          have hs1 : sort = 1 := by omega
          have h01 : ((1 : Int) = 0) = False := by simp
          subst hs1
          simp_arith only [h01]
          rcases hsg with e | e
          · subst e
            simp_arith only [if_pos l2]
            exact q ⟨true, es.map fun _ => (0, none)⟩ true B (lane_alike h1 h2 he) (hB'.mono (by omega))
          · subst e
            have h02 : ((-1 : Int) = 1) = False := by simp
            simp_arith only [h02, if_pos l2]
            exact q ⟨false, es.map fun _ => (0, none)⟩ true B (lane_alike h1 h2 he) (hB'.mono (by omega))
    · rw [if_neg hs, wS_skip, thenW_nx, wS_seq]
      simp_arith [wS_asg, if_pos l2, if_pos l1]
      refine W_take hT (by omega) hB' (by omega) (by decide) (by decide) fun r B6 hr0 hr1 hB6 => ?_
      have hB6' : Bx (n + 4 * m.toNat + 40) B6 := hB6.mono (by omega)
      have hc : ∃ c : Nat, (1 + r).toNat = c ∧ c ≤ 2 := ⟨_, rfl, by omega⟩
      obtain ⟨c, hc1, hc2⟩ := hc
      have hbare : ∀ g : Int, (List.replicate c [D.tup [.int g, .non]]).flatten = (List.replicate c ((g, none) : Int × Option Int)).map entD := fun g => by
        rw [rep_flat, List.map_replicate]; rfl
      have hmul : ∀ z : D, opD .mul (.lst [z]) (.int (1 + r)) = some (.lst (List.replicate c [z]).flatten) := fun z => by
        rw [op_mulL, if_pos ⟨by simp only [List.length_cons, List.length_nil]; omega, by omega, by omega⟩, hc1]
      have hmul2 : ∀ z : D, opD .mul (.lst [z]) (.int ((List.replicate c ((0, none) : Int × Option Int)).map entD).length) = some (.lst (List.replicate c [z]).flatten) := fun z => by
        rw [op_mulL, if_pos ⟨by simp only [List.length_cons, List.length_nil, List.length_map, List.length_replicate]; omega, by simp only [List.length_map, List.length_replicate]; omega, by simp only [List.length_map, List.length_replicate]; omega⟩]
        simp only [List.length_map, List.length_replicate, Int.toNat_natCast]
      simp_arith [wS_asg, hmul, hbare, thenW_nx]
      have fin : ∀ (es' : List (Int × Option Int)) (s6 : Slots), (∀ up, ((sg = 1 ∧ up = true) ∨ (sg = -1 ∧ up = false)) → LaneOk ⟨up, es'⟩ true m) →
          wS (Cf T j) T.w (.seq (.ret (.tup (.cons (.tup (.cons (.ife (.cmp .eq (.var 9) (.int 1)) (.str "up") (.str "down")) (.cons (.bi .tuple (.cons (.var 6) .nil)) .nil))) (.cons (.bl true) .nil)))) .skip)
            [some (.own β B6), some (.d (.int m)), s2, some (.d (.lst ((List.replicate c ((0, none) : Int × Option Int)).map entD))), some (.d (.int sort)), some (.d (.int nulls)), some (.own false (es'.map entD)), some (.d (.int G)), some (.d (.int w)), some (.d (.int sg)), none, none] (fun o => W (outOf 2 o) Q) := by
        intro es' _ hl
        rcases hsg with e | e
        · subst e
          simp_arith only [if_pos l2]
          exact q ⟨true, es'⟩ true B6 (hl true (Or.inl ⟨rfl, rfl⟩)) hB6'
        · subst e
          have h02 : ((-1 : Int) = 1) = False := by simp
          simp_arith only [h02, if_pos l2]
          exact q ⟨false, es'⟩ true B6 (hl false (Or.inr ⟨rfl, rfl⟩)) hB6'
      have hnu : nulls = 0 ∨ nulls = 1 ∨ nulls = 2 := by omega
      have d01 : ((0 : Int) = 1) = False := by simp
      have d02 : ((0 : Int) = 2) = False := by simp
      have d12 : ((1 : Int) = 2) = False := by simp
      have d21 : ((2 : Int) = 1) = False := by simp
      rcases hnu with e | e | e
      · subst e
        rw [wS_seq]
        simp_arith [wS_ifS, d01, wS_skip, thenW_nx]
        rw [wS_seq]
        simp_arith [wS_ifS, d02, wS_skip, thenW_nx]
        exact fin es [] fun up hu => lane_plain ha hsm h1 h2 hu
      · subst e
        rw [wS_seq]
        simp_arith [wS_ifS]
        rw [wS_seq]
        simp_arith [wS_asgO, ↓wO_add]
        refine wE_compF (xs := es.map entD) (ρ := [some (.own β B6), some (.d (.int m)), s2, some (.d (.lst ((List.replicate c ((0, none) : Int × Option Int)).map entD))), some (.d (.int sort)), some (.d (.int 1)), some (.d (.lst (es.map entD))), some (.d (.int G)), some (.d (.int w)), some (.d (.int sg)), none, none]) (fun x => match x with
          | .tup [.int g, .int v] => some (.tup [.int (g + 1), .int v])
          | _ => none) ?_ rfl rfl (fun x hx => ?_) ?_
        · simp_arith [items_l]
        · obtain ⟨a, hm, rfl⟩ := List.mem_map.mp hx
          obtain ⟨v, hv⟩ := hfull a hm
          rw [ent_val hv]
          simp_arith [wipeE, if_pos l2]
        · rw [fm_ent (g := fun a => entD (a.1 + 1, a.2)) (fun a h => by obtain ⟨v, hv⟩ := hfull a h; rw [ent_val hv, ent_val (a := (a.1 + 1, a.2)) hv])]
          have hmm : (es.map fun a => entD (a.1 + 1, a.2)) = (es.map fun (a : Int × Option Int) => ((a.1 + 1, a.2) : Int × Option Int)).map entD := by rw [List.map_map]; rfl
          simp_arith [hmm]
          rw [if_pos (by simp only [List.length_map, List.length_replicate]; omega), ← List.map_append]
          simp_arith [wS_skip, thenW_nx]
          rw [wS_seq]
          simp_arith [wS_ifS, d12, wS_skip, thenW_nx]
          exact fin _ [] fun up hu => lane_nulls1 ha hsm h1 h2 hc2 hu
      · subst e
        rw [wS_seq]
        simp_arith [wS_ifS, d21, wS_skip, thenW_nx]
        rw [wS_seq]
        simp_arith [wS_ifS]
        rw [wS_seq]
        simp_arith [wS_asgO, ↓wO_add, if_pos l2, if_pos l1, hmul2, hbare]
        rw [if_pos (by simp only [List.length_map, List.length_replicate]; omega), ← List.map_append]
        try simp_arith [wS_skip, thenW_nx]
        exact fin _ [] fun up hu => lane_nulls2 ha (by omega) hsm h1 h2 hc2 hu
end
end Ov

set_option maxHeartbeats 4000000
namespace Ov
open PySem
theorem group_first {es : List (Int × Option Int)} (hm : Mono es) {p : Nat} {a : Int × Option Int} (hp : es[p]? = some a) {q : Nat} {r : List Nat} (h : idxs (fun c => decide (c.1 = a.1)) es = q :: r) : (q : Int) = firstOf es a.1 := by
  obtain ⟨h1, h2⟩ := head_min (f := fun i => i) (idxs_sorted _ es) h
  obtain ⟨c, hc, he⟩ := mem_idxs.mp h1
  simp only [decide_eq_true_eq] at he
  obtain ⟨f1, f2, f3⟩ := firstOf_spec hm a.1
  have g1 := (f3 q c hc).mpr (by omega)
  have g2 := (f3 p a hp).mpr (by omega)
  have hpl := lt_of_get hp
  have hlt : (firstOf es a.1).toNat < es.length := by omega
  have hg : es[(firstOf es a.1).toNat]? = some es[(firstOf es a.1).toNat] := List.getElem?_eq_getElem hlt
  have g3 := (f3 _ _ hg).mp (by omega)
  have g4 := hm _ p _ _ hg hp (by omega)
  have := h2 (firstOf es a.1).toNat (mem_idxs.mpr ⟨_, hg, by simp only [decide_eq_true_eq]; omega⟩)
  omega
theorem group_last {es : List (Int × Option Int)} (hm : Mono es) {p : Nat} {a : Int × Option Int} (hp : es[p]? = some a) {q : Nat} (h : (idxs (fun c => decide (c.1 = a.1)) es).getLast? = some q) : (q : Int) = lastOf es a.1 := by
  obtain ⟨h1, h2⟩ := last_max (f := fun i => i) (idxs_sorted _ es) h
  obtain ⟨c, hc, he⟩ := mem_idxs.mp h1
  simp only [decide_eq_true_eq] at he
  obtain ⟨f1, f2, f3⟩ := lastOf_spec hm a.1
  have g1 := (f3 q c hc).mpr (by omega)
  have g2 := (f3 p a hp).mpr (by omega)
  have hpl := lt_of_get hp
  have hlt : (lastOf es a.1).toNat < es.length := by omega
  have hg : es[(lastOf es a.1).toNat]? = some es[(lastOf es a.1).toNat] := List.getElem?_eq_getElem hlt
  have g3 := (f3 _ _ hg).mp (by omega)
  have g4 := hm p _ _ _ hp hg (by omega)
  have := h2 (lastOf es a.1).toNat (mem_idxs.mpr ⟨_, hg, by simp only [decide_eq_true_eq]; omega⟩)
  omega
structure L18 (T : Prg) : Prop where
  edges : T.fns 23 = some fn_edges
  due : T.fns 24 = some fn_due
section
variable {T : Prg} {k : Nat} {l : Ln} {p : Nat} {a : Int × Option Int} {f : Frm} {lo hi : Int}
theorem edges_eq (hE : T.fns 23 = some fn_edges) (hk : 1 ≤ k) {L : List Nat} : ev T k 23 [.d (.lst (dI L))] = some (.d (edD L), [.d (.lst (dI L))]) := by
  refine W_eq (W_call hE hk rfl fun j hj => ?_)
  show wS _ _ ir_edges [some (.d _)] _
  have l0 : (0 : Nat) ≤ sizeLine := Nat.zero_le _
  have l2 : (0 + 1 + 1 : Nat) ≤ sizeLine := by decide
  cases L with
  | nil => simp_arith only [ir_edges, if_pos l0, cmp_ne_nil, dI, List.isEmpty_nil, edD]
  | cons i r =>
    have e : atD (D.int (i : Int) :: List.map (fun (i : Nat) => D.int (i : Int)) r) (-1) = some (.int (((i :: r).getLast (by simp) : Nat) : Int)) := by
      apply atD_last
      have : D.int (i : Int) :: List.map (fun (i : Nat) => D.int (i : Int)) r = (i :: r).map (fun (i : Nat) => D.int (i : Int)) := rfl
      rw [this, List.getLast?_map, List.getLast?_eq_some_getLast (by simp)]; rfl
    simp_arith only [ir_edges, if_pos l0, cmp_ne_nil, dI, List.isEmpty_cons, edD, e, if_pos l2]
theorem comp_lt {T : Prg} {j : Nat} {ρ : Slots} {L : List Nat} {x : D} {i0 : Int} (h4 : ρ[4]? = some (some (.d x))) (h6 : ρ[6]? = some (some (.d (.lst (dI L))))) (hx : ixD x 0 = some (.int i0)) (h10 : ∃ o, ρ[10]? = some o ∧ isOwn (some o) = false) {Q : Vl → Slots → Prop}
    (q : Q (.d (.lst (dI (L.filter fun (i : Nat) => decide ((i : Int) < i0))))) ρ) : wE (Cf T j) (.comp [10] (.nm 10) .seq (.var 6) .nil (.cmp .lt (.var 10) (.idx (.var 4) (.int 0))) (.var 10)) ρ Q := by
  obtain ⟨o, h10, hno⟩ := h10
  have hl : 10 < ρ.length := (List.getElem?_eq_some_iff.mp h10).1
  refine wE_comp (xs := dI L) (fun x => match x with
    | .int i => if decide (i < i0) = true then some (.int i) else none
    | _ => none) ?_ (by simp [h10, hno]) (by simp [hl]) (fun y hy => ?_) ?_
  · simp_arith only [h6, items_l]
  · obtain ⟨i, hi, rfl⟩ := mem_dI hy
    have e4 : ((ρ.set 10 none).set 10 (some (EV.d (D.int (i : Int)))))[4]? = some (some (.d x)) := by
      rw [List.getElem?_set_ne (by decide), List.getElem?_set_ne (by decide), h4]
    have e10 : ((ρ.set 10 none).set 10 (some (EV.d (D.int (i : Int)))))[10]? = some (some (.d (.int (i : Int)))) := by
      rw [List.getElem?_set_self (by simpa using hl)]
    simp_arith only [wipeE, e4, e10, hx]
    split <;> simp [List.set_set]
  · rw [dI_fm (P := fun i => decide (i < i0)) (fun i => rfl)]; exact q
theorem comp_gt {T : Prg} {j : Nat} {ρ : Slots} {L : List Nat} {x : D} {i0 : Int} (h4 : ρ[4]? = some (some (.d x))) (h6 : ρ[6]? = some (some (.d (.lst (dI L))))) (hx : ixD x (-1) = some (.int i0)) (h10 : ∃ o, ρ[10]? = some o ∧ isOwn (some o) = false) {Q : Vl → Slots → Prop}
    (q : Q (.d (.lst (dI (L.filter fun (i : Nat) => decide (i0 < (i : Int)))))) ρ) : wE (Cf T j) (.comp [10] (.nm 10) .seq (.var 6) .nil (.cmp .gt (.var 10) (.idx (.var 4) (.neg (.int 1)))) (.var 10)) ρ Q := by
  obtain ⟨o, h10, hno⟩ := h10
  have hl : 10 < ρ.length := (List.getElem?_eq_some_iff.mp h10).1
  refine wE_comp (xs := dI L) (fun x => match x with
    | .int i => if decide (i0 < i) = true then some (.int i) else none
    | _ => none) ?_ (by simp [h10, hno]) (by simp [hl]) (fun y hy => ?_) ?_
  · simp_arith only [h6, items_l]
  · obtain ⟨i, hi, rfl⟩ := mem_dI hy
    have e4 : ((ρ.set 10 none).set 10 (some (EV.d (D.int (i : Int)))))[4]? = some (some (.d x)) := by
      rw [List.getElem?_set_ne (by decide), List.getElem?_set_ne (by decide), h4]
    have e10 : ((ρ.set 10 none).set 10 (some (EV.d (D.int (i : Int)))))[10]? = some (some (.d (.int (i : Int)))) := by
      rw [List.getElem?_set_self (by simpa using hl)]
    simp_arith only [wipeE, e4, e10, hx]
    split <;> simp [List.set_set]
  · rw [dI_fm (P := fun i => decide (i0 < i)) (fun i => rfl)]; exact q
theorem due_eq (hL : Ls T) (hE : L18 T) (hk : 3 ≤ k) (hn : l.es.length ≤ 1000) (hm : Mono l.es) (hp : l.es[p]? = some a) (h1 : LowOk l f.u f.lo p a lo) (h2 : HighOk l f.u f.hi p a hi) :
    ev T k 24 [.d (lineD l), .d (.int (p : Int)), .d (frD f)] = some (.d (piecesD l p a f.wo lo hi), [.d (lineD l), .d (.int (p : Int)), .d (frD f)]) := by
  refine W_eq (W_call hE.due (by omega) rfl fun j hj => ?_)
  show wS _ _ ir_due [some (.d _), some (.d _), some (.d _), none, none, none, none, none, none, none, none, none] _
  have e1 : ixD (lineD l) 1 = some (.tup (l.es.map entD)) := rfl
  have f3 : ixD (frD f) 3 = some (.str f.wo.nm) := rfl
  have hfu := full_eq (f := f) hL (k := j) (by omega) hn hp h1 h2
  have hed : ∀ L, ev T j 23 [.d (.lst (dI L))] = some (.d (edD L), [.d (.lst (dI L))]) := fun L => edges_eq hE.edges (by omega)
  have l3 : (0 + 1 + 1 + 1 : Nat) ≤ sizeLine := by decide
  have l2 : (0 + 1 + 1 : Nat) ≤ sizeLine := by decide
  have l1 : (0 + 1 : Nat) ≤ sizeLine := by decide
  have ep : atD (l.es.map entD) (p : Int) = some (entD a) := atD_nat (by rw [List.getElem?_map, hp]; rfl)
  have E0 := (ent_D (a := a)).1
  have hiv := ed_iv (n := l.es.length) h1.1 h2.2.1
  by_cases hno : f.wo = .nobody
  · simp_arith only [ir_due, hfu, f3, hno, Wo.nm, hed, if_pos l3, hiv, piecesD]
  have hnn : (f.wo.nm = ("nobody" : Str)) = False := by
    cases hw : f.wo <;> first | exact absurd hw hno | simp only [Wo.nm, ofString_inj, String.reduceEq]
  simp_arith only [ir_due, hfu, f3, hnn]
  refine wE_comp (xs := enumD (l.es.map entD)) (fun x => match x with
    | .tup [.int i, e] => (match ixD e 0 with
      | some (.int g') => if decide (g' = a.1) = true then some (.int i) else none
      | _ => none)
    | _ => none) ?_ rfl rfl (fun x hx => ?_) ?_
  · simp_arith only [e1]
  · obtain ⟨i, e, hi', rfl⟩ := mem_enumD hx
    rw [List.getElem?_map] at hi'
    cases hc : l.es[i]? with
    | none => rw [hc] at hi'; cases hi'
    | some c =>
      rw [hc] at hi'; cases hi'
      simp_arith only [wipeE, (ent_D (a := c)).1, e1, ep, E0]
      split <;> simp_arith only []
  have hers : (l.es.map entD).map er = l.es.map entD := by
    rw [List.map_map]; apply List.map_congr_left
    intro q _
    obtain ⟨g, v⟩ := q
    cases v <;> rfl
  rw [enum_idxs (p := fun c => decide (c.1 = a.1)) hers (fun i e c he => by simp only [ent0 he])]
  simp_arith only []
  generalize hI : idxs (fun c => decide (c.1 = a.1)) l.es = I at *
  have hmI : p ∈ I := by rw [← hI]; exact mem_idxs.mpr ⟨a, hp, by simp⟩
  obtain ⟨q, r, hq⟩ : ∃ q r, I = q :: r := by cases I with | nil => cases hmI | cons q r => exact ⟨q, r, rfl⟩
  obtain ⟨z, hz⟩ : ∃ z, I.getLast? = some z := ⟨_, by rw [hq]; exact List.getLast?_eq_some_getLast (by simp)⟩
  have hqf : (q : Int) = firstOf l.es a.1 := group_first hm hp (hI.trans hq)
  have hzl : (z : Int) = lastOf l.es a.1 := group_last hm hp (by rw [hI]; exact hz)
  have i0 : ixD (.lst (I.map fun (i : Nat) => D.int (i : Int))) 0 = some (.int (q : Int)) := by rw [ixD_lst, hq, List.map_cons, atD_0]
  have i1 : ixD (.lst (I.map fun (i : Nat) => D.int (i : Int))) (-1) = some (.int (z : Int)) := by
    rw [ixD_lst]; exact atD_last (by rw [List.getLast?_map, hz]; rfl)
  have hpl := lt_of_get hp
  obtain ⟨f1, f2, f3'⟩ := firstOf_spec hm a.1
  obtain ⟨g1, g2, g3⟩ := lastOf_spec hm a.1
  have ed1 : ∀ x : Int, edD (iv l.es.length lo (min hi (x - 1))) = pcD lo (min hi (x - 1)) := fun x => ed_iv h1.1 (by have := h2.2.1; omega)
  have ed2 : ∀ x : Int, edD (iv l.es.length (max lo (x + 1)) hi) = pcD (max lo (x + 1)) hi := fun x => ed_iv (by have := h1.1; omega) h2.2.1
  have hin : (decide (p ∈ iv l.es.length lo hi)) = decide (lo ≤ p ∧ (p : Int) ≤ hi) := by
    rw [decide_eq_decide, mem_iv]
    constructor
    · exact fun h => h.2
    · exact fun h => ⟨hpl, h⟩
  cases hw : f.wo with
  | nobody => exact absurd hw hno
  | row =>
    simp_arith only [Wo.nm, if_pos l1]
    refine comp_lt (i0 := (p : Int)) rfl rfl (by simp only [ixD_lst, atD_0]) ⟨_, rfl, rfl⟩ ?_
    simp_arith only [iv_lt]
    refine comp_gt (i0 := (p : Int)) rfl rfl (by rw [ixD_lst]; exact atD_last rfl) ⟨_, rfl, rfl⟩ ?_
    simp_arith only [iv_gt, hed, if_pos l3, ed1, ed2, piecesD]
  | group =>
    simp_arith only [Wo.nm]
    refine comp_lt (i0 := (q : Int)) rfl rfl i0 ⟨_, rfl, rfl⟩ ?_
    simp_arith only [iv_lt]
    refine comp_gt (i0 := (z : Int)) rfl rfl i1 ⟨_, rfl, rfl⟩ ?_
    simp_arith only [iv_gt, hed, if_pos l3, ed1, ed2, piecesD, hqf, hzl]
  | ties =>
    simp_arith only [Wo.nm]
    refine comp_lt (i0 := (q : Int)) rfl rfl i0 ⟨_, rfl, rfl⟩ ?_
    simp_arith only [iv_lt]
    refine comp_gt (i0 := (z : Int)) rfl rfl i1 ⟨_, rfl, rfl⟩ ?_
    simp_arith only [iv_gt, in_dI, hin, hed, if_pos l3, if_pos l2, ed1, ed2, piecesD, hqf, hzl]
    split
    · rfl
    · rfl
end
end Ov

set_option maxHeartbeats 4000000
namespace Ov
open PySem
theorem LowOk.unique {l : Ln} {u : Un} {b : Bd} {p : Nat} {a : Int × Option Int} {v w : Int} (h : LowOk l u b p a v) (g : LowOk l u b p a w) : v = w := by
  obtain ⟨h1, h2, h3⟩ := h
  obtain ⟨g1, g2, g3⟩ := g
  have key : ∀ i : Nat, i < l.es.length → (v ≤ i ↔ w ≤ i) := fun i hi => (h3 i _ (List.getElem?_eq_getElem hi)).trans (g3 i _ (List.getElem?_eq_getElem hi)).symm
  have k1 := fun h => key v.toNat h
  have k2 := fun h => key w.toNat h
  by_cases hv : v < l.es.length
  · have := k1 (by omega)
    by_cases hw : w < l.es.length
    · have := k2 (by omega); omega
    · omega
  · by_cases hw : w < l.es.length
    · have := k2 (by omega); omega
    · omega
theorem HighOk.unique {l : Ln} {u : Un} {b : Bd} {p : Nat} {a : Int × Option Int} {v w : Int} (h : HighOk l u b p a v) (g : HighOk l u b p a w) : v = w := by
  obtain ⟨h1, h2, h3⟩ := h
  obtain ⟨g1, g2, g3⟩ := g
  have key : ∀ i : Nat, i < l.es.length → ((i : Int) ≤ v ↔ (i : Int) ≤ w) := fun i hi => (h3 i _ (List.getElem?_eq_getElem hi)).trans (g3 i _ (List.getElem?_eq_getElem hi)).symm
  by_cases hv : v = -1
  · by_cases hw : w = -1
    · omega
    · have := key w.toNat (by omega); omega
  · have := key v.toNat (by omega)
    by_cases hw : w = -1
    · omega
    · have := key w.toNat (by omega); omega
theorem depth_pc {f l : Int} : (pcD f l).depth ≤ 1 := by unfold pcD; split <;> simp [D.depth, D.depths]
theorem depth_pieces {l : Ln} {p : Nat} {a : Int × Option Int} {w : Wo} {lo hi : Int} : (piecesD l p a w lo hi).depth ≤ 2 := by
  have h := @depth_pc
  unfold piecesD
  cases w with
  | nobody => have := h (f := lo) (l := hi); simp only [D.depth, D.depths]; omega
  | row => simp only [D.depth, D.depths]; have := h (f := lo) (l := min hi ((p : Int) - 1)); have := h (f := max lo ((p : Int) + 1)) (l := hi); omega
  | group => simp only [D.depth, D.depths]; have := h (f := lo) (l := min hi (firstOf l.es a.1 - 1)); have := h (f := max lo (lastOf l.es a.1 + 1)) (l := hi); omega
  | ties =>
    simp only [D.depth, D.depths]; have := h (f := lo) (l := min hi (firstOf l.es a.1 - 1)); have := h (f := max lo (lastOf l.es a.1 + 1)) (l := hi)
    split <;> simp only [D.depth, D.depths] <;> omega
theorem er_line (l : Ln) : er (lineD l) = lineD l := by
  have : (l.es.map entD).map er = l.es.map entD := by
    rw [List.map_map]; apply List.map_congr_left
    intro q _
    obtain ⟨g, v⟩ := q
    cases v <;> rfl
  simp only [lineD, er, ers, ers_map, this]
theorem er_fr (f : Frm) : er (frD f) = frD f := by
  have : ∀ b, er (bdD b) = bdD b := fun b => by cases b <;> rfl
  simp only [frD, er, ers, this]
theorem depth_line (l : Ln) : (lineD l).depth ≤ 3 := by
  have : ∀ es : List (Int × Option Int), D.depths (es.map entD) ≤ 1 := fun es => by
    induction es with
    | nil => simp [D.depths]
    | cons e es ih =>
      have : (entD e).depth ≤ 1 := by
        obtain ⟨g, v⟩ := e
        cases v <;> simp [entD, optD, D.depth, D.depths]
      simp only [List.map_cons, D.depths]; omega
  have := this l.es
  simp only [lineD, D.depth, D.depths]; omega
theorem depth_fr (f : Frm) : (frD f).depth ≤ 2 := by
  have : ∀ b, (bdD b).depth ≤ 1 := fun b => by cases b <;> simp [bdD, D.depth, D.depths]
  have h1 := this f.lo
  have h2 := this f.hi
  simp only [frD, D.depth, D.depths]; omega
theorem fits_of {l : Ln} {f : Frm} {fits : Bool} {m : Int} (hl : LaneOk l fits m) (h1 : f.lo ≠ .fin) (h2 : f.hi ≠ .start) (h3 : f.u = .range → fits = true ∨ (counts f.lo = false ∧ counts f.hi = false)) : Fits l f := by
  refine ⟨hl.mono, h1, h2, fun hu hc => ?_, fun hu hc => ?_⟩
  · rcases h3 hu with h | h
    · exact hl.val h
    · rw [h.1] at hc; cases hc
  · rcases h3 hu with h | h
    · exact hl.val h
    · rw [h.2] at hc; cases hc
section
variable {T : Prg} {k : Nat} {x y : D} {l : Ln} {p : Nat} {a : Int × Option Int} {f : Frm} {lo hi : Int}
theorem pieces_of (hF : Fr T) (hk : 5 ≤ k) (hp : l.es[p]? = some a) (hf : Fits l f) (h1 : LowOk l f.u f.lo p a lo) (h2 : HighOk l f.u f.hi p a hi) (hx : er x = lineD l) (hy : er y = frD f) :
    ev T k 10 [.d x, .d (.int (p : Int)), .d y] = some (.d (piecesD l p a f.wo lo hi), [.d x, .d (.int (p : Int)), .d y]) := by
  obtain ⟨lo', hi', hb, h3, h4⟩ := bounds_eq hF (k := k - 1) (by omega) hx hp hy hf
  rw [h1.unique h3, h2.unique h4]
  exact pieces_eq hF hk hx hp hy hf hb
end
structure K18 (T : Prg) : Prop where
  core : Core T
  fr : Fr T
  ls : Ls T
  l18 : L18 T
  right : T.fns 25 = some fn_right
  law : T.fns 26 = some fn_law
  sh : T.sh 0 = some (10, [2, 1, 0])
section
variable {T : Prg} {k n : Nat} {B : List D} {Q : EV × List EV → Prop}
theorem W_right (hK : K18 T) (hk : 12 ≤ k) (hB : Bx 0 B) (q : ∀ B', Q (.d (.bl true), [.own true B'])) : W (ev T k 25 [.own true B]) Q := by
  refine W_call hK.right (by omega) rfl fun j hj => ?_
  show wS _ _ ir_right [some (.own true _), none, none, none, none, none, none, none, none] _
  have l3 : (0 + 1 + 1 + 1 : Nat) ≤ sizeLine := by decide
  have l1 : (0 + 1 : Nat) ≤ sizeLine := by decide
  have hsz := sizeLine_ge
  unfold ir_right
  rw [wS_seq]
  simp_arith [wS_forS]
  rw [if_pos (by constructor <;> omega)]
  refine wF_inv (fun i ρ => ∃ B s1 s2 s3 s4 s5 s6 s7 s8, Bx (300 * i) B ∧ NB s1 ∧ NB s2 ∧ NB s3 ∧ NB s4 ∧ NB s5 ∧ NB s6 ∧ NB s7 ∧ NB s8 ∧ ρ = [some (.own true B), s1, s2, s3, s4, s5, s6, s7, s8]) ?_ ?_ ?_
  · exact ⟨B, none, none, none, none, none, none, none, none, by simpa using hB, ⟨rfl, rfl⟩, ⟨rfl, rfl⟩, ⟨rfl, rfl⟩, ⟨rfl, rfl⟩, ⟨rfl, rfl⟩, ⟨rfl, rfl⟩, ⟨rfl, rfl⟩, ⟨rfl, rfl⟩, rfl⟩
  · rintro i x ρ hx ⟨B, s1, s2, s3, s4, s5, s6, s7, s8, hB, n1, n2, n3, n4, n5, n6, n7, n8, rfl⟩
    obtain ⟨hi3, rfl⟩ := range_get hx
    have hi3 : i < 3 := hi3
    simp_arith [n1.1]
    rw [wS_seq]
    simp_arith [wS_asg]
    refine W_lane hK.core.toDr hK.ls.toGn (by omega) hB (by omega) (by decide) (by decide) fun l fits B1 hl hB1 => ?_
    simp_arith [n3.1, n4.1, thenW_nx]
    have hlen : l.es.length ≤ 14 := by have := hl.le; omega
    rw [wS_seq]
    simp_arith [wS_forS]
    rw [if_pos (by constructor <;> omega)]
    refine wF_inv (fun i2 ρ => ∃ B s2 s5 s6 s7 s8, Bx (300 * i + 100 + 20 * i2) B ∧ NB s2 ∧ NB s5 ∧ NB s6 ∧ NB s7 ∧ NB s8 ∧ ρ = [some (.own true B), some (.d (.int (i : Int))), s2, some (.d (lineD l)), some (.d (.bl fits)), s5, s6, s7, s8]) ?_ ?_ ?_
    · exact ⟨B1, s2, s5, s6, s7, s8, hB1.mono (by first | omega | (simp; omega)), n2, n5, n6, n7, n8, rfl⟩
    · rintro i2 x ρ hx ⟨B, s2, s5, s6, s7, s8, hB, n2, n5, n6, n7, n8, rfl⟩
      obtain ⟨hi6, rfl⟩ := range_get hx
      have hi6 : i2 < 6 := hi6
      simp_arith [n2.1]
      rw [wS_seq]
      simp_arith [wS_asg]
      refine W_shape hK.core.toDr hK.ls.toGn (by omega) hB (by omega) (by decide) (by decide) fun f B2 f1 f2 f3 hB2 => ?_
      have hf := fits_of hl f1 f2 f3
      simp_arith [n5.1, thenW_nx]
      rw [wS_seq]
      have e1 : ixD (lineD l) 1 = some (.tup (l.es.map entD)) := rfl
      simp_arith [wS_forS, e1, List.length_map]
      rw [if_pos (by constructor <;> omega)]
      refine wF_inv (fun _ ρ => ∃ s6 s7 s8, NB s6 ∧ NB s7 ∧ NB s8 ∧ ρ = [some (.own true B2), some (.d (.int (i : Int))), some (.d (.int (i2 : Int))), some (.d (lineD l)), some (.d (.bl fits)), some (.d (frD f)), s6, s7, s8]) ?_ ?_ ?_
      · exact ⟨s6, s7, s8, n6, n7, n8, rfl⟩
      · rintro p x ρ hx ⟨s6, s7, s8, n6, n7, n8, rfl⟩
        obtain ⟨hpl, rfl⟩ := range_get hx
        have hpl : p < l.es.length := by simpa using hpl
        have hp : l.es[p]? = some l.es[p] := List.getElem?_eq_getElem hpl
        generalize l.es[p] = a at hp
        obtain ⟨lo, hi, hb, h1, h2⟩ := bounds_eq hK.fr (k := 10) (by omega) (er_line l) hp (er_fr f) hf
        have hdue := due_eq (f := f) hK.ls hK.l18 (k := j) (by omega) (by omega) hl.mono hp h1 h2
        have hpc : ∀ x y, er x = lineD l → er y = frD f → ev T j 10 [.d x, .d (.int (p : Int)), .d y] = some (.d (piecesD l p a f.wo lo hi), [.d x, .d (.int (p : Int)), .d y]) := fun x y hx hy => pieces_of hK.fr (by omega) hp hf h1 h2 hx hy
        obtain ⟨y1, c1, c2⟩ := W_lists hK.core j (frD f) (by have := depth_fr f; omega)
        obtain ⟨x1, c3, c4⟩ := W_lists hK.core j (lineD l) (by have := depth_line l; omega)
        obtain ⟨x2, c5, c6⟩ := W_half hK.core j (lineD l) (p : Int) (by have := depth_line l; omega)
        obtain ⟨y2, c7, c8⟩ := W_half hK.core j (frD f) (i2 : Int) (by have := depth_fr f; omega)
        have hp0 := hpc _ _ (er_line l) (er_fr f)
        have hp1 := hpc x1 y1 (c4.trans (er_line l)) (c2.trans (er_fr f))
        have hp2 := hpc x2 y2 (c6.trans (er_line l)) (c8.trans (er_fr f))
        generalize hPd : piecesD l p a f.wo lo hi = pd at *
        have hdep : pd.depth ≤ 2 := by rw [← hPd]; exact depth_pieces
        have hsame := same_refl hK.core j (.lst [pd, pd, pd]) (by simp only [D.depth, D.depths]; omega)
        have hmul : opD .mul (.lst [pd]) (.int 3) = some (.lst [pd, pd, pd]) := by
          rw [op_mulL, if_pos ⟨by show 1 * 3 ≤ sizeLine; omega, by decide, by decide⟩]; rfl
        have hap : ∀ (L : List D), L.length ≤ 3 → (if L.length < sizeLine then some (D.non, L ++ [pd]) else none) = some (D.non, L ++ [pd]) := fun L h => if_pos (by omega)
        simp_arith [n6.1]
        simp_arith only [hdue, n7.1, hp0, n8.1, if_pos l1, hK.sh, c1, c3, hp1, mu_append, c5, c7, hp2, hap _ (show ([pd] : List D).length ≤ 3 by simp), hap _ (show ([pd, pd] : List D).length ≤ 3 by simp), List.cons_append, hmul, hsame]
        rw [if_pos (by omega), if_pos (by omega)]
        exact ⟨_, _, _, ⟨rfl, rfl⟩, ⟨rfl, rfl⟩, ⟨rfl, rfl⟩, rfl⟩
      · rintro ρ ⟨s6, s7, s8, n6, n7, n8, rfl⟩
        simp only [thenW_nx, wS_skip]
        exact ⟨B2, _, _, _, _, _, hB2.mono (by omega), ⟨rfl, rfl⟩, ⟨rfl, rfl⟩, n6, n7, n8, rfl⟩
    · rintro ρ ⟨B, s2, s5, s6, s7, s8, hB, n2, n5, n6, n7, n8, rfl⟩
      simp only [thenW_nx, wS_skip]
      exact ⟨B, _, _, _, _, _, _, _, _, hB.mono (by simp [range1]; omega), ⟨rfl, rfl⟩, n2, ⟨rfl, rfl⟩, ⟨rfl, rfl⟩, n5, n6, n7, n8, rfl⟩
  · rintro ρ ⟨B, s1, s2, s3, s4, s5, s6, s7, s8, hB, n1, n2, n3, n4, n5, n6, n7, n8, rfl⟩
    simp_arith only []
    exact q B
theorem filterMap_true {xs : List D} : xs.filterMap (fun _ => some (D.bl true)) = (xs.map fun _ => true).map D.bl := by
  rw [List.filterMap_eq_map', List.map_map]; rfl
theorem law18 (hK : K18 T) (hk : 20 ≤ k) (ns : List Int) (hl : ns.length ≤ 63) : ∃ outs, ev T k 26 [.scr ns] = some (.d (.bl true), outs) := by
  suffices h : W (ev T k 26 [.scr ns]) (fun q => q.1 = .d (.bl true)) by
    obtain ⟨⟨r, outs⟩, h1, h2⟩ := h
    dsimp only at h2; subst h2
    exact ⟨outs, h1⟩
  refine W_call hK.law (by omega) rfl fun j hj => ?_
  show wS _ _ ir_law [some (.scr ns), none] _
  simp_arith only [ir_law]
  have hsz := sizeLine_ge
  refine wE_comp (xs := range1 (1 + (if ((ns.map D.int).length : Int) < 2 then ((ns.map D.int).length : Int) else 2)).toNat) (fun _ => some (.bl true)) ?_ rfl rfl (fun x hx => ?_) ?_
  · simp_arith only []
    rw [if_pos (by rw [List.length_map]; split <;> constructor <;> omega)]
    trivial
  · obtain ⟨i, hi⟩ := List.getElem?_of_mem hx
    obtain ⟨hi, rfl⟩ := range_get hi
    have hi3 : i < 3 := by rw [List.length_map] at hi; split at hi <;> omega
    simp_arith only [wipeE]
    refine W_box hK.core.toDr (by omega) (by omega) (by omega) fun B hB => ?_
    simp_arith only []
    refine W_right hK (by omega) hB fun B' => ?_
    simp_arith only []
  · have hall : ∀ xs : List D, ((xs.map fun _ => true).all id) = true := fun xs => by simp
    simp_arith only [filterMap_true, bi_all, hall]
end
end Ov

set_option maxHeartbeats 4000000
namespace Ov
open PySem
def prD (q : Int × Int) : D := .tup [.int q.1, .int q.2]
def partO : Option (Int × Int) → D
  | none => .non
  | some q => prD q
def pc (f l : Int) : Option (Int × Int) := if f ≤ l then some (f, l) else none
theorem pcD_eq {f l : Int} : pcD f l = partO (pc f l) := by unfold pcD pc; split <;> rfl
def parts (l : Ln) (p : Nat) (a : Int × Option Int) (w : Wo) (lo hi : Int) : List (Option (Int × Int)) :=
  match w with
  | .nobody => [pc lo hi, none, none]
  | .row => [pc lo (min hi ((p : Int) - 1)), none, pc (max lo ((p : Int) + 1)) hi]
  | .group => [pc lo (min hi (firstOf l.es a.1 - 1)), none, pc (max lo (lastOf l.es a.1 + 1)) hi]
  | .ties => [pc lo (min hi (firstOf l.es a.1 - 1)), if lo ≤ p ∧ (p : Int) ≤ hi then some (p, p) else none, pc (max lo (lastOf l.es a.1 + 1)) hi]
theorem piecesD_parts {l : Ln} {p : Nat} {a : Int × Option Int} {w : Wo} {lo hi : Int} : piecesD l p a w lo hi = .tup ((parts l p a w lo hi).map partO) := by
  cases w with
  | ties =>
    by_cases h : lo ≤ p ∧ (p : Int) ≤ hi
    · simp only [piecesD, parts, List.map_cons, List.map_nil, pcD_eq, if_pos h]; rfl
    · simp only [piecesD, parts, List.map_cons, List.map_nil, pcD_eq, if_neg h]; rfl
  | _ => simp only [piecesD, parts, List.map_cons, List.map_nil, pcD_eq]; rfl
theorem parts_len {l : Ln} {p : Nat} {a : Int × Option Int} {w : Wo} {lo hi : Int} : (parts l p a w lo hi).length = 3 := by cases w <;> rfl
def stp (found : List (Int × Int)) : Option (Int × Int) → List (Int × Int)
  | none => found
  | some q => match found.getLast? with
    | some z => if z.2 + 1 = q.1 then found.dropLast ++ [(z.1, q.2)] else found ++ [q]
    | none => found ++ [q]
theorem stp_snoc {L : List (Int × Int)} {z q : Int × Int} : stp (L ++ [z]) (some q) = if z.2 + 1 = q.1 then L ++ [(z.1, q.2)] else L ++ [z] ++ [q] := by
  simp only [stp, List.getLast?_append, List.getLast?_singleton, Option.or_some, Option.some_or, List.dropLast_concat]
theorem stp_len {L : List (Int × Int)} {o : Option (Int × Int)} : (stp L o).length ≤ L.length + 1 := by
  cases o with
  | none => simp [stp]
  | some q =>
    rcases List.eq_nil_or_concat L with e | ⟨M, z, e⟩
    · subst e; simp [stp]
    · subst e
      rw [List.concat_eq_append, stp_snoc]; split <;> simp
theorem at_snoc {L : List D} {z : D} : atD (L ++ [z]) (-1) = some z := atD_last (by simp)
theorem ix_snoc {L : List D} {z : D} : ixN' (L ++ [z]).length (-1) = some L.length := by
  unfold ixN'
  rw [if_neg (by decide), if_pos (by simp; omega)]
  simp only [List.length_append, List.length_cons, List.length_nil]
  congr 1
  omega
theorem set_snoc {L : List D} {z x : D} : (L ++ [z]).set L.length x = L ++ [x] := by simp
theorem isTrue_not_isEmpty {L : List D} {z : D} : (!(L ++ [z]).isEmpty) = true := by simp
section
variable {T : Prg} {k : Nat} {x y : D} {p : Int} {ps : List (Option (Int × Int))}
theorem stretches_eq (h27 : T.fns 27 = some fn_stretches) (hk : 2 ≤ k) (hps : ps.length ≤ 3) (hp : ev T (k - 1) 10 [.d x, .d (.int p), .d y] = some (.d (.tup (ps.map partO)), [.d x, .d (.int p), .d y])) :
    ev T k 27 [.d x, .d (.int p), .d y] = some (.d (.tup ((ps.foldl stp []).map prD)), [.d x, .d (.int p), .d y]) := by
  refine W_eq (W_call h27 (by omega) rfl fun j hj => ?_)
  obtain rfl : j = k - 1 := by omega
  show wS _ _ ir_stretches [some (.d _), some (.d _), some (.d _), none, none] _
  have l0 : (0 : Nat) ≤ sizeLine := by decide
  have l2 : (0 + 1 + 1 : Nat) ≤ sizeLine := by decide
  have hsz := sizeLine_ge
  unfold ir_stretches
  rw [wS_seq]
  simp_arith [wS_asgO, if_pos l0, thenW_nx]
  rw [wS_seq]
  simp_arith [wS_forS, hp, items_t]
  refine wF_inv (fun i ρ => ∃ s4 L, NB s4 ∧ L = (ps.take i).foldl stp [] ∧ L.length ≤ i ∧ ρ = [some (.d x), some (.d (.int p)), some (.d y), some (.own false (L.map prD)), s4]) ?_ ?_ ?_
  · exact ⟨none, [], ⟨rfl, rfl⟩, by simp, by simp, rfl⟩
  · rintro i z ρ hz ⟨s4, L, n4, hL, hLi, rfl⟩
    rw [List.getElem?_map] at hz
    cases ho : ps[i]? with
    | none => rw [ho] at hz; cases hz
    | some o =>
      rw [ho] at hz; cases hz
      have hi := lt_of_get ho
      have hnext : (ps.take (i + 1)).foldl stp [] = stp L o := by
        rw [List.take_add_one, ho]; simp [hL]
      have fin : ∀ L', L' = stp L o → ∃ s4 L, NB s4 ∧ L = (ps.take (i + 1)).foldl stp [] ∧ L.length ≤ i + 1 ∧ [some (EV.d x), some (.d (.int p)), some (.d y), some (.own false (L'.map prD)), some (.d (partO o))] = [some (.d x), some (.d (.int p)), some (.d y), some (.own false (L.map prD)), s4] := fun L' h =>
        ⟨_, L', ⟨rfl, rfl⟩, by rw [hnext, h], by rw [h]; have := stp_len (L := L) (o := o); omega, rfl⟩
      simp_arith [n4.1]
      cases o with
      | none =>
        simp_arith only [partO]
        exact fin L rfl
      | some q =>
        rcases List.eq_nil_or_concat L with e | ⟨M, u, e⟩
        · subst e
          have e4 : isnD true (prD q) = true := rfl
          have h0 : ((0 : Int) < ((0 : Nat) : Int)) = False := by simp
          simp_arith only [partO, e4, h0, mu_append]
          rw [if_pos (by omega)]
          exact fin [q] rfl
        · rw [List.concat_eq_append] at e
          subst e
          have hlen : (0 : Int) < (((M.map prD ++ [prD u]).length : Nat) : Int) := by simp only [List.length_append, List.length_cons, List.length_nil]; omega
          have hpu : ∀ q : Int × Int, prD q = .tup [.int q.1, .int q.2] := fun q => rfl
          have em : (M ++ [u]).map prD = M.map prD ++ [prD u] := by simp
          have e0 : ixD (prD u) 0 = some (.int u.1) := rfl
          have e1 : ixD (prD u) 1 = some (.int u.2) := rfl
          have e2 : ixD (prD q) 0 = some (.int q.1) := rfl
          have e3 : ixD (prD q) 1 = some (.int q.2) := rfl
          have e4 : isnD true (prD q) = true := rfl
          by_cases hc : u.2 + 1 = q.1
          · simp_arith only [partO, e4, em, if_pos hlen, at_snoc, e0, e1, e2, e3, if_pos hc, if_pos l2, ix_snoc, set_snoc]
            exact fin (M ++ [(u.1, q.2)]) (by rw [stp_snoc, if_pos hc]) |> fun h => by simpa [prD, partO] using h
          · simp_arith only [partO, e4, em, if_pos hlen, at_snoc, e0, e1, e2, e3, if_neg hc, mu_append]
            rw [if_pos (by simp only [List.length_append, List.length_map, List.length_cons, List.length_nil] at hLi ⊢; omega)]
            exact fin (M ++ [u] ++ [q]) (by rw [stp_snoc, if_neg hc]) |> fun h => by simpa [prD, partO] using h
  · rintro ρ ⟨s4, L, n4, hL, hLi, rfl⟩
    simp_arith only []
    rw [hL, List.length_map, List.take_length]
end
end Ov

set_option maxHeartbeats 4000000
namespace Ov
open PySem
theorem sorted_ext : ∀ {L M : List Nat}, L.Pairwise (· < ·) → M.Pairwise (· < ·) → (∀ i, i ∈ L ↔ i ∈ M) → L = M
  | [], [], _, _, _ => rfl
  | [], b :: M, _, _, h => by have := (h b).mpr (List.mem_cons_self ..); cases this
  | a :: L, [], _, _, h => by have := (h a).mp (List.mem_cons_self ..); cases this
  | a :: L, b :: M, h1, h2, h => by
    rw [List.pairwise_cons] at h1 h2
    have e : a = b := by
      have p1 := (h a).mp (List.mem_cons_self ..)
      have p2 := (h b).mpr (List.mem_cons_self ..)
      rcases List.mem_cons.mp p1 with q | q
      · exact q
      · rcases List.mem_cons.mp p2 with r | r
        · exact r.symm
        · have := h1.1 b r; have := h2.1 a q; omega
    subst e
    rw [sorted_ext h1.2 h2.2 fun i => ?_]
    constructor
    · intro hi
      have := (h i).mp (List.mem_cons_of_mem _ hi)
      rcases List.mem_cons.mp this with q | q
      · have := h1.1 i hi; omega
      · exact q
    · intro hi
      have := (h i).mpr (List.mem_cons_of_mem _ hi)
      rcases List.mem_cons.mp this with q | q
      · have := h2.1 i hi; omega
      · exact q
/-- runs of places -/
def one (i : Nat) : Option (Int × Int) := some ((i : Int), (i : Int))
def runsOf (L : List Nat) (found : List (Int × Int)) : List (Int × Int) := L.foldl (fun f i => stp f (one i)) found
theorem stp_stp {found : List (Int × Int)} {a b c : Int} (h : b + 1 = c) : stp (stp found (some (a, b))) (some (c, c)) = stp found (some (a, c)) := by
  rcases List.eq_nil_or_concat found with e | ⟨M, u, e⟩
  · subst e
    show stp ([] ++ [(a, b)]) (some (c, c)) = _
    rw [stp_snoc, if_pos h]; rfl
  · rw [List.concat_eq_append] at e
    subst e
    rw [stp_snoc, stp_snoc]
    by_cases hc : u.2 + 1 = a
    · rw [if_pos hc, if_pos hc, stp_snoc, if_pos h]
    · rw [if_neg hc, if_neg hc, stp_snoc, if_pos h]
theorem runs_range {found : List (Int × Int)} {a : Nat} : ∀ m : Nat, runsOf (List.range' a (m + 1)) found = stp found (some ((a : Int), (a : Int) + m))
  | 0 => by
    show stp found (one a) = _
    simp [one]
  | m + 1 => by
    have e : List.range' a (m + 1 + 1) = List.range' a (m + 1) ++ [a + (m + 1)] := by
      rw [List.range'_concat]; simp
    unfold runsOf
    rw [e, List.foldl_append]
    have ih := runs_range (found := found) (a := a) m
    unfold runsOf at ih
    rw [ih]
    show stp _ (one (a + (m + 1))) = _
    unfold one
    rw [show ((a + (m + 1) : Nat) : Int) = (a : Int) + ((m + 1 : Nat) : Int) by omega]
    exact stp_stp (by omega)
theorem iv_range {n : Nat} {lo hi : Int} (h0 : 0 ≤ lo) (h1 : hi ≤ n - 1) (h : lo ≤ hi) : iv n lo hi = List.range' lo.toNat ((hi - lo).toNat + 1) := by
  refine sorted_ext (iv_sorted n lo hi) List.pairwise_lt_range' fun i => ?_
  rw [mem_iv, List.mem_range'_1]
  omega
theorem runs_iv {n : Nat} {lo hi : Int} {found : List (Int × Int)} (h0 : 0 ≤ lo) (h1 : hi ≤ n - 1) : runsOf (iv n lo hi) found = stp found (pc lo hi) := by
  unfold pc
  by_cases h : lo ≤ hi
  · rw [if_pos h, iv_range h0 h1 h, runs_range]
    congr 3
    · omega
    · omega
  · rw [if_neg h]
    have : iv n lo hi = [] := by
      cases e : iv n lo hi with
      | nil => rfl
      | cons i r =>
        have : i ∈ iv n lo hi := by rw [e]; exact List.mem_cons_self ..
        have := mem_iv.mp this
        omega
    rw [this]; rfl
theorem runs_app {L M : List Nat} {found : List (Int × Int)} : runsOf (L ++ M) found = runsOf M (runsOf L found) := List.foldl_append
theorem notin_dI {p : Nat} {L : List Nat} : cmpD .notin (.int (p : Int)) (.lst (dI L)) = some (!decide (p ∈ L)) := by
  show (inD _ _).map _ = _
  have h := in_dI (p := p) (L := L)
  have h' : inD (.int (p : Int)) (dI L) = some (decide (p ∈ L)) := h
  rw [h']; rfl
/-- what is left out -/
def outs (es : List (Int × Option Int)) (p : Nat) (a : Int × Option Int) : Wo → List Nat
  | .nobody => []
  | .row => [p]
  | .group => idxs (fun c => decide (c.1 = a.1)) es
  | .ties => (idxs (fun c => decide (c.1 = a.1)) es).filter fun i => decide (i ≠ p)
def frm (es : List (Int × Option Int)) (p : Nat) (a : Int × Option Int) (w : Wo) (lo hi : Int) : List Nat := (iv es.length lo hi).filter fun i => !decide (i ∈ outs es p a w)
theorem peers_iff {es : List (Int × Option Int)} (hm : Mono es) {p : Nat} {a : Int × Option Int} {i : Nat} (hi : i < es.length) : i ∈ idxs (fun c => decide (c.1 = a.1)) es ↔ firstOf es a.1 ≤ i ∧ (i : Int) ≤ lastOf es a.1 := by
  have hg : es[i]? = some es[i] := List.getElem?_eq_getElem hi
  have f := (firstOf_spec hm a.1).2.2 i _ hg
  have g := (lastOf_spec hm a.1).2.2 i _ hg
  rw [mem_idxs, f, g]
  constructor
  · rintro ⟨c, hc, h⟩
    rw [hg] at hc; cases hc
    simp only [decide_eq_true_eq] at h
    omega
  · intro h
    exact ⟨_, hg, by simp only [decide_eq_true_eq]; omega⟩
theorem iv_one {n : Nat} {p : Nat} {lo hi : Int} (hp : p < n) : (if lo ≤ p ∧ (p : Int) ≤ hi then [p] else []) = iv n (max lo p) (min hi p) := by
  refine sorted_ext (by split <;> simp) (iv_sorted _ _ _) fun i => ?_
  rw [mem_iv]
  split
  · simp only [List.mem_cons, List.not_mem_nil, or_false]; omega
  · simp only [List.not_mem_nil, false_iff]; omega
theorem frm_runs {l : Ln} (hm : Mono l.es) {p : Nat} {a : Int × Option Int} (hp : l.es[p]? = some a) {w : Wo} {lo hi : Int} (h0 : 0 ≤ lo) (h1 : hi ≤ l.es.length - 1) : runsOf (frm l.es p a w lo hi) [] = (parts l p a w lo hi).foldl stp [] := by
  have hpl := lt_of_get hp
  obtain ⟨f1, f2, f3⟩ := firstOf_spec hm a.1
  obtain ⟨g1, g2, g3⟩ := lastOf_spec hm a.1
  have fp := (f3 p a hp).mpr (Int.le_refl _)
  have gp := (g3 p a hp).mpr (Int.le_refl _)
  have srt : (frm l.es p a w lo hi).Pairwise (· < ·) := (iv_sorted _ _ _).filter _
  have mem : ∀ i, i ∈ frm l.es p a w lo hi ↔ (i < l.es.length ∧ lo ≤ i ∧ (i : Int) ≤ hi) ∧ ¬ i ∈ outs l.es p a w := fun i => by
    unfold frm
    rw [List.mem_filter, mem_iv]
    simp
  cases w with
  | nobody =>
    have e : frm l.es p a .nobody lo hi = iv l.es.length lo hi := sorted_ext srt (iv_sorted _ _ _) fun i => by
      rw [mem, mem_iv]; simp [outs]
    rw [e, runs_iv h0 h1]; rfl
  | row =>
    have e : frm l.es p a .row lo hi = iv l.es.length lo (min hi ((p : Int) - 1)) ++ iv l.es.length (max lo ((p : Int) + 1)) hi := by
      refine sorted_ext srt (List.pairwise_append.mpr ⟨iv_sorted _ _ _, iv_sorted _ _ _, fun x hx y hy => ?_⟩) fun i => ?_
      · rw [mem_iv] at hx hy; omega
      · rw [mem, List.mem_append, mem_iv, mem_iv]
        simp only [outs, List.mem_cons, List.not_mem_nil, or_false]
        omega
    rw [e, runs_app, runs_iv h0 (by omega), runs_iv (by omega) h1]; rfl
  | group =>
    have e : frm l.es p a .group lo hi = iv l.es.length lo (min hi (firstOf l.es a.1 - 1)) ++ iv l.es.length (max lo (lastOf l.es a.1 + 1)) hi := by
      refine sorted_ext srt (List.pairwise_append.mpr ⟨iv_sorted _ _ _, iv_sorted _ _ _, fun x hx y hy => ?_⟩) fun i => ?_
      · rw [mem_iv] at hx hy; omega
      · rw [mem, List.mem_append, mem_iv, mem_iv]
        simp only [outs]
        by_cases hi : i < l.es.length
        · rw [peers_iff hm (p := p) hi]; omega
        · omega
    rw [e, runs_app, runs_iv h0 (by omega), runs_iv (by omega) h1]; rfl
  | ties =>
    have e : frm l.es p a .ties lo hi = iv l.es.length lo (min hi (firstOf l.es a.1 - 1)) ++ (iv l.es.length (max lo p) (min hi p) ++ iv l.es.length (max lo (lastOf l.es a.1 + 1)) hi) := by
      refine sorted_ext srt (List.pairwise_append.mpr ⟨iv_sorted _ _ _, List.pairwise_append.mpr ⟨iv_sorted _ _ _, iv_sorted _ _ _, fun x hx y hy => ?_⟩, fun x hx y hy => ?_⟩) fun i => ?_
      · rw [mem_iv] at hx hy; omega
      · rw [List.mem_append] at hy
        rw [mem_iv] at hx
        rcases hy with hy | hy <;> (rw [mem_iv] at hy; omega)
      · rw [mem, List.mem_append, List.mem_append, mem_iv, mem_iv, mem_iv]
        simp only [outs, List.mem_filter, decide_eq_true_eq]
        by_cases hi : i < l.es.length
        · rw [peers_iff hm (p := p) hi]; omega
        · omega
    rw [e, runs_app, runs_app, runs_iv h0 (by omega), runs_iv (lo := max lo (lastOf l.es a.1 + 1)) (by omega) h1, runs_iv (by omega) (by omega)]
    have ep : pc (max lo (p : Int)) (min hi p) = if lo ≤ p ∧ (p : Int) ≤ hi then some ((p : Int), (p : Int)) else none := by
      unfold pc
      by_cases hh : lo ≤ p ∧ (p : Int) ≤ hi
      · rw [if_pos hh, if_pos (by omega), show max lo (p : Int) = p by omega, show min hi (p : Int) = p by omega]
      · rw [if_neg hh, if_neg (by omega)]
    rw [ep]; rfl
structure L17 (T : Prg) : Prop where
  stretches : T.fns 27 = some fn_stretches
  out : T.fns 28 = some fn_out
  frame : T.fns 29 = some fn_frame
structure L19 (T : Prg) : Prop extends L17 T where
  runs : T.fns 30 = some fn_runs
section
variable {T : Prg} {k : Nat} {l : Ln} {p : Nat} {a : Int × Option Int} {f : Frm} {lo hi : Int}
theorem er_ents (es : List (Int × Option Int)) : (es.map entD).map er = es.map entD := by
  rw [List.map_map]; apply List.map_congr_left
  intro q _
  obtain ⟨g, v⟩ := q
  cases v <;> rfl
theorem out_eq (hE : L17 T) (hk : 1 ≤ k) (hp : l.es[p]? = some a) :
    ev T k 28 [.d (lineD l), .d (.int (p : Int)), .d (frD f)] = some (.d (.lst (dI (outs l.es p a f.wo))), [.d (lineD l), .d (.int (p : Int)), .d (frD f)]) := by
  refine W_eq (W_call hE.out hk rfl fun j hj => ?_)
  show wS _ _ ir_out [some (.d _), some (.d _), some (.d _), none, none, none] _
  have e1 : ixD (lineD l) 1 = some (.tup (l.es.map entD)) := rfl
  have f3 : ixD (frD f) 3 = some (.str f.wo.nm) := rfl
  have ep : atD (l.es.map entD) (p : Int) = some (entD a) := atD_nat (by rw [List.getElem?_map, hp]; rfl)
  have E0 := (ent_D (a := a)).1
  have l2 : (0 + 1 + 1 : Nat) ≤ sizeLine := by decide
  have l1 : (0 + 1 : Nat) ≤ sizeLine := by decide
  have hsz := sizeLine_ge
  simp_arith only [ir_out]
  refine wE_comp (xs := enumD (l.es.map entD)) (fun x => match x with
    | .tup [.int i, e] => (match ixD e 0 with
      | some (.int g') => if decide (g' = a.1) = true then some (.int i) else none
      | _ => none)
    | _ => none) ?_ rfl rfl (fun x hx => ?_) ?_
  · simp_arith only [e1]
  · obtain ⟨i, e, hi', rfl⟩ := mem_enumD hx
    rw [List.getElem?_map] at hi'
    cases hc : l.es[i]? with
    | none => rw [hc] at hi'; cases hi'
    | some c =>
      rw [hc] at hi'; cases hi'
      simp_arith only [wipeE, (ent_D (a := c)).1, e1, ep, E0]
      split <;> simp_arith only []
  rw [enum_idxs (p := fun c => decide (c.1 = a.1)) (er_ents l.es) (fun i e c he => by simp only [ent0 he])]
  have hdI : (idxs (fun c => decide (c.1 = a.1)) l.es).map (fun (i : Nat) => D.int (i : Int)) = dI (idxs (fun c => decide (c.1 = a.1)) l.es) := rfl
  rw [hdI]
  cases hw : f.wo with
  | nobody =>
    rw [hw] at f3
    have hr : (List.replicate (0 : Int).toNat [D.int (p : Int)]).flatten = dI (outs l.es p a .nobody) := rfl
    simp_arith only [f3, Wo.nm, if_pos l2, if_pos l1, in_str2, hr]
    rw [if_pos ⟨by show 1 * 0 ≤ sizeLine; omega, by decide, by decide⟩]
    trivial
  | row =>
    rw [hw] at f3
    simp_arith only [f3, Wo.nm, if_pos l2, if_pos l1, in_str2]
    rw [if_pos ⟨by show 1 * 1 ≤ sizeLine; omega, by decide, by decide⟩]
    rfl
  | group =>
    rw [hw] at f3
    simp_arith only [f3, Wo.nm, if_pos l2, in_str2]
    refine wE_comp (xs := dI (idxs (fun c => decide (c.1 = a.1)) l.es)) (fun x => some x) ?_ rfl rfl (fun x hx => ?_) ?_
    · simp_arith only [items_l]
    · obtain ⟨i, hi', rfl⟩ := mem_dI hx
      simp_arith only [wipeE, f3, Wo.nm]
      by_cases h : (i : Int) = p
      · simp [h]
      · simp [h]
    · rw [show (fun x : D => some x) = some from rfl, List.filterMap_some]
      simp_arith only [outs]
  | ties =>
    rw [hw] at f3
    simp_arith only [f3, Wo.nm, if_pos l2, in_str2]
    refine wE_comp (xs := dI (idxs (fun c => decide (c.1 = a.1)) l.es)) (fun x => match x with
      | .int i => if decide (i ≠ (p : Int)) = true then some (.int i) else none
      | _ => none) ?_ rfl rfl (fun x hx => ?_) ?_
    · simp_arith only [items_l]
    · obtain ⟨i, hi', rfl⟩ := mem_dI hx
      simp_arith only [wipeE, f3, Wo.nm]
      by_cases h : (i : Int) = p
      · simp [h]
      · simp [h]
    · rw [dI_fm (P := fun i => decide (i ≠ (p : Int))) (fun i => rfl)]
      have : ((idxs (fun c => decide (c.1 = a.1)) l.es).filter fun (i : Nat) => decide ((i : Int) ≠ (p : Int))) = outs l.es p a .ties := by
        unfold outs
        apply List.filter_congr
        intro i _
        rw [decide_eq_decide]; omega
      simp_arith only [this]
theorem frame_eq (hL : Ls T) (hE : L17 T) (hk : 3 ≤ k) (hn : l.es.length ≤ 1000) (hp : l.es[p]? = some a) (h1 : LowOk l f.u f.lo p a lo) (h2 : HighOk l f.u f.hi p a hi) :
    ev T k 29 [.d (lineD l), .d (.int (p : Int)), .d (frD f)] = some (.d (.lst (dI (frm l.es p a f.wo lo hi))), [.d (lineD l), .d (.int (p : Int)), .d (frD f)]) := by
  refine W_eq (W_call hE.frame (by omega) rfl fun j hj => ?_)
  show wS _ _ ir_frame [some (.d _), some (.d _), some (.d _), none, none] _
  have hfu := full_eq (f := f) hL (k := j) (by omega) hn hp h1 h2
  have hou := out_eq (f := f) hE (k := j) (by omega) hp
  simp_arith only [ir_frame, hou]
  refine wE_comp (xs := dI (iv l.es.length lo hi)) (fun x => match x with
    | .int i => if (!decide (i.toNat ∈ outs l.es p a f.wo)) = true then some (.int i) else none
    | _ => none) ?_ rfl rfl (fun x hx => ?_) ?_
  · simp_arith only [hfu, items_l]
  · obtain ⟨i, hi', rfl⟩ := mem_dI hx
    simp_arith only [wipeE, notin_dI, Int.toNat_natCast]
    split <;> simp_arith only []
  · rw [dI_fm (P := fun i => !decide (i.toNat ∈ outs l.es p a f.wo)) (fun i => rfl)]
    simp_arith only [Int.toNat_natCast]
    rfl
theorem runs_eq (h30 : T.fns 30 = some fn_runs) (hk : 1 ≤ k) {L : List Nat} (hL : L.length ≤ 1000) : ev T k 30 [.d (.lst (dI L))] = some (.d (.tup ((runsOf L []).map prD)), [.d (.lst (dI L))]) := by
  refine W_eq (W_call h30 hk rfl fun j hj => ?_)
  show wS _ _ ir_runs [some (.d _), none, none] _
  have l0 : (0 : Nat) ≤ sizeLine := by decide
  have l2 : (0 + 1 + 1 : Nat) ≤ sizeLine := by decide
  have hsz := sizeLine_ge
  unfold ir_runs
  rw [wS_seq]
  simp_arith [wS_asgO, if_pos l0, thenW_nx]
  rw [wS_seq]
  simp_arith [wS_forS, items_l]
  refine wF_inv (fun i ρ => ∃ s4 M, NB s4 ∧ M = runsOf (L.take i) [] ∧ M.length ≤ i ∧ ρ = [some (.d (.lst (dI L))), some (.own false (M.map prD)), s4]) ?_ ?_ ?_
  · exact ⟨none, [], ⟨rfl, rfl⟩, by simp [runsOf], by simp, rfl⟩
  · rintro i z ρ hz ⟨s4, M, n4, hM, hMi, rfl⟩
    unfold dI at hz
    rw [List.getElem?_map] at hz
    cases ho : L[i]? with
    | none => rw [ho] at hz; cases hz
    | some o =>
      rw [ho] at hz; cases hz
      have hi := lt_of_get ho
      have hnext : runsOf (L.take (i + 1)) [] = stp M (one o) := by
        rw [List.take_add_one, ho]
        unfold runsOf
        rw [List.foldl_append, hM]; rfl
      have fin : ∀ M', M' = stp M (one o) → ∃ s4 M, NB s4 ∧ M = runsOf (L.take (i + 1)) [] ∧ M.length ≤ i + 1 ∧ [some (EV.d (.lst (dI L))), some (.own false (M'.map prD)), some (.d (.int (o : Int)))] = [some (.d (.lst (dI L))), some (.own false (M.map prD)), s4] := fun M' h =>
        ⟨_, M', ⟨rfl, rfl⟩, by rw [hnext, h], by rw [h]; have := stp_len (L := M) (o := one o); omega, rfl⟩
      simp_arith [n4.1]
      rcases List.eq_nil_or_concat M with e | ⟨N, u, e⟩
      · subst e
        simp_arith only [if_pos l0, cmp_ne_nil, List.isEmpty_nil, if_pos l2, mu_append]
        rw [if_pos (by omega)]
        exact fin [((o : Int), (o : Int))] rfl
      · rw [List.concat_eq_append] at e
        subst e
        have em : (N ++ [u]).map prD = N.map prD ++ [prD u] := by simp
        have e0 : ixD (prD u) 0 = some (.int u.1) := rfl
        have e1 : ixD (prD u) 1 = some (.int u.2) := rfl
        have ie : (N.map prD ++ [prD u]).isEmpty = false := by simp
        by_cases hc : u.2 + 1 = (o : Int)
        · simp_arith only [if_pos l0, cmp_ne_nil, em, ie, at_snoc, e0, e1, if_pos hc, if_pos l2, ix_snoc, set_snoc]
          exact fin (N ++ [(u.1, (o : Int))]) (by unfold one; rw [stp_snoc, if_pos hc]) |> fun h => by simpa [prD] using h
        · simp_arith only [if_pos l0, cmp_ne_nil, em, ie, at_snoc, e0, e1, if_neg hc, if_pos l2, mu_append]
          rw [if_pos (by simp only [List.length_append, List.length_map, List.length_cons, List.length_nil] at hMi ⊢; omega)]
          exact fin (N ++ [u] ++ [((o : Int), (o : Int))]) (by unfold one; rw [stp_snoc, if_neg hc]) |> fun h => by simpa [prD] using h
  · rintro ρ ⟨s4, M, n4, hM, hMi, rfl⟩
    simp_arith only []
    rw [hM]
    unfold dI
    rw [List.length_map, List.take_length]
end
end Ov

set_option maxHeartbeats 4000000
namespace Ov
open PySem
theorem foldl_stp_len : ∀ (ps : List (Option (Int × Int))) (L : List (Int × Int)), (ps.foldl stp L).length ≤ L.length + ps.length
  | [], L => by simp
  | o :: ps, L => by
    rw [List.foldl_cons]
    have h1 := foldl_stp_len ps (stp L o)
    have h2 := stp_len (L := L) (o := o)
    simp only [List.length_cons]; omega
theorem depth_prs (L : List (Int × Int)) : (D.tup (L.map prD)).depth ≤ 2 := by
  have : D.depths (L.map prD) ≤ 1 := by
    induction L with
    | nil => simp [D.depths]
    | cons q L ih => simp only [List.map_cons, D.depths, prD, D.depth]; omega
  simp only [D.depth]; omega
section
variable {T : Prg} {k : Nat} {x y : D} {l : Ln} {p : Nat} {a : Int × Option Int} {f : Frm} {lo hi : Int}
theorem stretches_of (hF : Fr T) (h27 : T.fns 27 = some fn_stretches) (hk : 6 ≤ k) (hp : l.es[p]? = some a) (hf : Fits l f) (h1 : LowOk l f.u f.lo p a lo) (h2 : HighOk l f.u f.hi p a hi) (hx : er x = lineD l) (hy : er y = frD f) :
    ev T k 27 [.d x, .d (.int (p : Int)), .d y] = some (.d (.tup (((parts l p a f.wo lo hi).foldl stp []).map prD)), [.d x, .d (.int (p : Int)), .d y]) := by
  refine stretches_eq h27 (by omega) (by rw [parts_len]; omega) ?_
  rw [← piecesD_parts]
  exact pieces_of hF (by omega) hp hf h1 h2 hx hy
end
structure K19 (T : Prg) : Prop where
  core : Core T
  fr : Fr T
  ls : Ls T
  l19 : L19 T
  right : T.fns 31 = some fn_right_2
  law : T.fns 32 = some fn_law_2
  sh : T.sh 1 = some (27, [2, 1, 0])
theorem iv_len {n : Nat} {lo hi : Int} : (iv n lo hi).length ≤ n := by
  unfold iv
  have := List.length_filter_le (fun (i : Nat) => decide (lo ≤ (i : Int)) && decide ((i : Int) ≤ hi)) (List.range n)
  simpa using this
section
variable {T : Prg} {k n : Nat} {B : List D} {Q : EV × List EV → Prop}
theorem W_right19 (hK : K19 T) (hk : 12 ≤ k) (hB : Bx 0 B) (q : ∀ B', Q (.d (.bl true), [.own true B'])) : W (ev T k 31 [.own true B]) Q := by
  refine W_call hK.right (by omega) rfl fun j hj => ?_
  show wS _ _ ir_right_2 [some (.own true _), none, none, none, none, none, none, none, none] _
  have l3 : (0 + 1 + 1 + 1 : Nat) ≤ sizeLine := by decide
  have l1 : (0 + 1 : Nat) ≤ sizeLine := by decide
  have hsz := sizeLine_ge
  unfold ir_right_2
  rw [wS_seq]
  simp_arith [wS_forS]
  rw [if_pos (by constructor <;> omega)]
  refine wF_inv (fun i ρ => ∃ B s1 s2 s3 s4 s5 s6 s7 s8, Bx (300 * i) B ∧ NB s1 ∧ NB s2 ∧ NB s3 ∧ NB s4 ∧ NB s5 ∧ NB s6 ∧ NB s7 ∧ NB s8 ∧ ρ = [some (.own true B), s1, s2, s3, s4, s5, s6, s7, s8]) ?_ ?_ ?_
  · exact ⟨B, none, none, none, none, none, none, none, none, by simpa using hB, ⟨rfl, rfl⟩, ⟨rfl, rfl⟩, ⟨rfl, rfl⟩, ⟨rfl, rfl⟩, ⟨rfl, rfl⟩, ⟨rfl, rfl⟩, ⟨rfl, rfl⟩, ⟨rfl, rfl⟩, rfl⟩
  · rintro i x ρ hx ⟨B, s1, s2, s3, s4, s5, s6, s7, s8, hB, n1, n2, n3, n4, n5, n6, n7, n8, rfl⟩
    obtain ⟨hi3, rfl⟩ := range_get hx
    have hi3 : i < 3 := hi3
    simp_arith [n1.1]
    rw [wS_seq]
    simp_arith [wS_asg]
    refine W_lane hK.core.toDr hK.ls.toGn (by omega) hB (by omega) (by decide) (by decide) fun l fits B1 hl hB1 => ?_
    simp_arith [n3.1, n4.1, thenW_nx]
    have hlen : l.es.length ≤ 14 := by have := hl.le; omega
    rw [wS_seq]
    simp_arith [wS_forS]
    rw [if_pos (by constructor <;> omega)]
    refine wF_inv (fun i2 ρ => ∃ B s2 s5 s6 s7 s8, Bx (300 * i + 100 + 20 * i2) B ∧ NB s2 ∧ NB s5 ∧ NB s6 ∧ NB s7 ∧ NB s8 ∧ ρ = [some (.own true B), some (.d (.int (i : Int))), s2, some (.d (lineD l)), some (.d (.bl fits)), s5, s6, s7, s8]) ?_ ?_ ?_
    · exact ⟨B1, s2, s5, s6, s7, s8, hB1.mono (by first | omega | (simp; omega)), n2, n5, n6, n7, n8, rfl⟩
    · rintro i2 x ρ hx ⟨B, s2, s5, s6, s7, s8, hB, n2, n5, n6, n7, n8, rfl⟩
      obtain ⟨hi6, rfl⟩ := range_get hx
      have hi6 : i2 < 6 := hi6
      simp_arith [n2.1]
      rw [wS_seq]
      simp_arith [wS_asg]
      refine W_shape hK.core.toDr hK.ls.toGn (by omega) hB (by omega) (by decide) (by decide) fun f B2 f1 f2 f3 hB2 => ?_
      have hf := fits_of hl f1 f2 f3
      simp_arith [n5.1, thenW_nx]
      rw [wS_seq]
      have e1 : ixD (lineD l) 1 = some (.tup (l.es.map entD)) := rfl
      simp_arith [wS_forS, e1, List.length_map]
      rw [if_pos (by constructor <;> omega)]
      refine wF_inv (fun _ ρ => ∃ s6 s7 s8, NB s6 ∧ NB s7 ∧ NB s8 ∧ ρ = [some (.own true B2), some (.d (.int (i : Int))), some (.d (.int (i2 : Int))), some (.d (lineD l)), some (.d (.bl fits)), some (.d (frD f)), s6, s7, s8]) ?_ ?_ ?_
      · exact ⟨s6, s7, s8, n6, n7, n8, rfl⟩
      · rintro p x ρ hx ⟨s6, s7, s8, n6, n7, n8, rfl⟩
        obtain ⟨hpl, rfl⟩ := range_get hx
        have hpl : p < l.es.length := by simpa using hpl
        have hp : l.es[p]? = some l.es[p] := List.getElem?_eq_getElem hpl
        generalize l.es[p] = a at hp
        obtain ⟨lo, hi, hb, h1, h2⟩ := bounds_eq hK.fr (k := 10) (by omega) (er_line l) hp (er_fr f) hf
        have hframe := frame_eq (f := f) hK.ls hK.l19.toL17 (k := j) (by omega) (by omega) hp h1 h2
        have hruns := runs_eq hK.l19.runs (k := j) (by omega) (L := frm l.es p a f.wo lo hi) (by
          have := List.length_filter_le (fun (i : Nat) => !decide (i ∈ outs l.es p a f.wo)) (iv l.es.length lo hi)
          have := iv_len (n := l.es.length) (lo := lo) (hi := hi)
          unfold frm; omega)
        rw [frm_runs hl.mono hp h1.1 h2.2.1] at hruns
        have hpc : ∀ x y, er x = lineD l → er y = frD f → ev T j 27 [.d x, .d (.int (p : Int)), .d y] = some (.d (.tup (((parts l p a f.wo lo hi).foldl stp []).map prD)), [.d x, .d (.int (p : Int)), .d y]) := fun x y hx hy => stretches_of hK.fr hK.l19.stretches (by omega) hp hf h1 h2 hx hy
        obtain ⟨y1, c1, c2⟩ := W_lists hK.core j (frD f) (by have := depth_fr f; omega)
        obtain ⟨x1, c3, c4⟩ := W_lists hK.core j (lineD l) (by have := depth_line l; omega)
        obtain ⟨x2, c5, c6⟩ := W_half hK.core j (lineD l) (p : Int) (by have := depth_line l; omega)
        obtain ⟨y2, c7, c8⟩ := W_half hK.core j (frD f) (i2 : Int) (by have := depth_fr f; omega)
        have hp0 := hpc _ _ (er_line l) (er_fr f)
        have hp1 := hpc x1 y1 (c4.trans (er_line l)) (c2.trans (er_fr f))
        have hp2 := hpc x2 y2 (c6.trans (er_line l)) (c8.trans (er_fr f))
        have hl3 : (((parts l p a f.wo lo hi).foldl stp []).map prD).length ≤ 3 := by
          have := foldl_stp_len (parts l p a f.wo lo hi) []
          rw [parts_len] at this
          simpa using this
        generalize hPd : ((parts l p a f.wo lo hi).foldl stp []).map prD = ps at *
        have hdep : (D.tup ps).depth ≤ 2 := by rw [← hPd]; exact depth_prs _
        have hlen3 : ¬ (3 : Int) < (ps.length : Int) := by omega
        have hlt : lenD (.tup ps) = some (.int (ps.length : Int)) := rfl
        generalize D.tup ps = pd at *
        have hsame := same_refl hK.core j (.lst [pd, pd, pd]) (by simp only [D.depth, D.depths]; omega)
        have hmul : opD .mul (.lst [pd]) (.int 3) = some (.lst [pd, pd, pd]) := by
          rw [op_mulL, if_pos ⟨by show 1 * 3 ≤ sizeLine; omega, by decide, by decide⟩]; rfl
        simp_arith [n6.1]
        simp_arith only [hframe, hruns, n7.1, hp0, n8.1, if_pos l1, hK.sh, c1, c3, hp1, mu_append, c5, c7, hp2, hmul, hsame]
        rw [if_pos (by omega), if_pos (by omega)]
        simp_arith only [hlt, if_neg hlen3]
        exact ⟨_, _, _, ⟨rfl, rfl⟩, ⟨rfl, rfl⟩, ⟨rfl, rfl⟩, rfl⟩
      · rintro ρ ⟨s6, s7, s8, n6, n7, n8, rfl⟩
        simp only [thenW_nx, wS_skip]
        exact ⟨B2, _, _, _, _, _, hB2.mono (by omega), ⟨rfl, rfl⟩, ⟨rfl, rfl⟩, n6, n7, n8, rfl⟩
    · rintro ρ ⟨B, s2, s5, s6, s7, s8, hB, n2, n5, n6, n7, n8, rfl⟩
      simp only [thenW_nx, wS_skip]
      exact ⟨B, _, _, _, _, _, _, _, _, hB.mono (by simp [range1]; omega), ⟨rfl, rfl⟩, n2, ⟨rfl, rfl⟩, ⟨rfl, rfl⟩, n5, n6, n7, n8, rfl⟩
  · rintro ρ ⟨B, s1, s2, s3, s4, s5, s6, s7, s8, hB, n1, n2, n3, n4, n5, n6, n7, n8, rfl⟩
    simp_arith only []
    exact q B
theorem law19 (hK : K19 T) (hk : 20 ≤ k) (ns : List Int) (hl : ns.length ≤ 63) : ∃ outs, ev T k 32 [.scr ns] = some (.d (.bl true), outs) := by
  suffices h : W (ev T k 32 [.scr ns]) (fun q => q.1 = .d (.bl true)) by
    obtain ⟨⟨r, outs⟩, h1, h2⟩ := h
    dsimp only at h2; subst h2
    exact ⟨outs, h1⟩
  refine W_call hK.law (by omega) rfl fun j hj => ?_
  show wS _ _ ir_law_2 [some (.scr ns), none] _
  simp_arith only [ir_law_2]
  have hsz := sizeLine_ge
  refine wE_comp (xs := range1 (1 + (if ((ns.map D.int).length : Int) < 2 then ((ns.map D.int).length : Int) else 2)).toNat) (fun _ => some (.bl true)) ?_ rfl rfl (fun x hx => ?_) ?_
  · simp_arith only []
    rw [if_pos (by rw [List.length_map]; split <;> constructor <;> omega)]
    trivial
  · obtain ⟨i, hi⟩ := List.getElem?_of_mem hx
    obtain ⟨hi, rfl⟩ := range_get hi
    have hi3 : i < 3 := by rw [List.length_map] at hi; split at hi <;> omega
    simp_arith only [wipeE]
    refine W_box hK.core.toDr (by omega) (by omega) (by omega) fun B hB => ?_
    simp_arith only []
    refine W_right19 hK (by omega) hB fun B' => ?_
    simp_arith only []
  · have hall : ∀ xs : List D, ((xs.map fun _ => true).all id) = true := fun xs => by simp
    simp_arith only [filterMap_true, bi_all, hall]
end
end Ov

set_option maxHeartbeats 4000000
namespace Ov
open PySem
/-! ### frames as sets of places -/
def OutP (w : Wo) (p : Nat) (a : Int × Option Int) (i : Nat) (c : Int × Option Int) : Prop :=
  match w with
  | .nobody => False
  | .row => i = p
  | .group => c.1 = a.1
  | .ties => c.1 = a.1 ∧ i ≠ p
def InF (l : Ln) (f : Frm) (p i : Nat) : Prop := ∃ a c, l.es[p]? = some a ∧ l.es[i]? = some c ∧ Rch (sgn l) f.u f.lo p a i c 1 ∧ Rch (sgn l) f.u f.hi p a i c (-1) ∧ ¬ OutP f.wo p a i c
open Classical in
noncomputable def FrS (l : Ln) (f : Frm) (p : Nat) : List Nat := (List.range l.es.length).filter fun i => decide (InF l f p i)
theorem mem_FrS {l : Ln} {f : Frm} {p i : Nat} : i ∈ FrS l f p ↔ InF l f p i := by
  unfold FrS
  rw [List.mem_filter, List.mem_range]
  have hd : @decide (InF l f p i) (Classical.propDecidable _) = true ↔ InF l f p i := @decide_eq_true_iff _ (Classical.propDecidable _)
  rw [hd]
  constructor
  · exact fun h => h.2
  · intro h
    obtain ⟨a, c, h1, h2, _⟩ := id h
    exact ⟨lt_of_get h2, h⟩
theorem FrS_sorted (l : Ln) (f : Frm) (p : Nat) : (FrS l f p).Pairwise (· < ·) := List.pairwise_lt_range.filter _
theorem FrS_len (l : Ln) (f : Frm) (p : Nat) : (FrS l f p).length ≤ l.es.length := by
  unfold FrS
  have := List.length_filter_le (fun i => @decide (InF l f p i) (Classical.propDecidable _)) (List.range l.es.length)
  rw [List.length_range] at this
  exact this
theorem frm_FrS {l : Ln} {f : Frm} {p : Nat} {a : Int × Option Int} {lo hi : Int} (hp : l.es[p]? = some a) (h1 : LowOk l f.u f.lo p a lo) (h2 : HighOk l f.u f.hi p a hi) : frm l.es p a f.wo lo hi = FrS l f p := by
  refine sorted_ext ((iv_sorted _ _ _).filter _) (FrS_sorted l f p) fun i => ?_
  unfold frm
  rw [List.mem_filter, mem_iv, mem_FrS]
  by_cases hi' : i < l.es.length
  · have hg : l.es[i]? = some l.es[i] := List.getElem?_eq_getElem hi'
    generalize l.es[i] = c at hg
    have q1 := h1.2.2 i c hg
    have q2 := h2.2.2 i c hg
    have q3 : (!decide (i ∈ outs l.es p a f.wo)) = true ↔ ¬ OutP f.wo p a i c := by
      simp only [Bool.not_eq_true', decide_eq_false_iff_not]
      apply not_congr
      cases f.wo with
      | nobody => simp [outs, OutP]
      | row => simp [outs, OutP]
      | group =>
        simp only [outs, OutP]
        rw [mem_idxs]
        constructor
        · rintro ⟨d, hd, h⟩; rw [hg] at hd; cases hd; simpa using h
        · intro h; exact ⟨c, hg, by simpa using h⟩
      | ties =>
        simp only [outs, OutP, List.mem_filter, decide_eq_true_eq]
        rw [mem_idxs]
        constructor
        · rintro ⟨⟨d, hd, h⟩, h'⟩; rw [hg] at hd; cases hd; exact ⟨by simpa using h, h'⟩
        · intro h; exact ⟨⟨c, hg, by simpa using h.1⟩, h.2⟩
    rw [q3, q1, q2]
    constructor
    · rintro ⟨⟨_, r1, r2⟩, r3⟩
      exact ⟨a, c, hp, hg, r1, r2, r3⟩
    · rintro ⟨a', c', e1, e2, r1, r2, r3⟩
      rw [hp] at e1; cases e1
      rw [hg] at e2; cases e2
      exact ⟨⟨hi', r1, r2⟩, r3⟩
  · constructor
    · rintro ⟨⟨h, _⟩, _⟩; exact absurd h hi'
    · rintro ⟨a', c', e1, e2, _⟩; exact absurd (lt_of_get e2) hi'
section
variable {T : Prg} {k : Nat} {x y : D} {l : Ln} {p : Nat} {f : Frm}
theorem frame_S (hF : Fr T) (hL : Ls T) (hE : L17 T) (hk : 3 ≤ k) (hn : l.es.length ≤ 1000) (hp : p < l.es.length) (hf : Fits l f) :
    ev T k 29 [.d (lineD l), .d (.int (p : Int)), .d (frD f)] = some (.d (.lst (dI (FrS l f p))), [.d (lineD l), .d (.int (p : Int)), .d (frD f)]) := by
  have hg : l.es[p]? = some l.es[p] := List.getElem?_eq_getElem hp
  obtain ⟨lo, hi, hb, h1, h2⟩ := bounds_eq hF (k := 10) (by omega) (er_line l) hg (er_fr f) hf
  rw [frame_eq (f := f) hL hE hk hn hg h1 h2, frm_FrS hg h1 h2]
theorem stretches_S (hF : Fr T) (h27 : T.fns 27 = some fn_stretches) (hk : 6 ≤ k) (hp : p < l.es.length) (hf : Fits l f) (hx : er x = lineD l) (hy : er y = frD f) :
    ev T k 27 [.d x, .d (.int (p : Int)), .d y] = some (.d (.tup ((runsOf (FrS l f p) []).map prD)), [.d x, .d (.int (p : Int)), .d y]) := by
  have hg : l.es[p]? = some l.es[p] := List.getElem?_eq_getElem hp
  obtain ⟨lo, hi, hb, h1, h2⟩ := bounds_eq hF (k := 10) (by omega) (er_line l) hg (er_fr f) hf
  rw [stretches_of hF h27 hk hg hf h1 h2 hx hy, ← frm_runs hf.mono hg h1.1 h2.2.1, frm_FrS hg h1 h2]
end
/-! ### turned round -/
def tb : Bd → Bd
  | .start => .fin
  | .fin => .start
  | .here => .here
  | .before n => .after n
  | .after n => .before n
def tf (f : Frm) : Frm := ⟨f.u, tb f.hi, tb f.lo, f.wo⟩
theorem tb_tb (b : Bd) : tb (tb b) = b := by cases b <;> rfl
theorem tf_tf (f : Frm) : tf (tf f) = f := by simp only [tf, tb_tb]
theorem counts_tb (b : Bd) : counts (tb b) = counts b := by cases b <;> rfl
theorem Fits.tf {l : Ln} {f : Frm} (h : Fits l f) : Fits l (tf f) := by
  refine ⟨h.mono, ?_, ?_, fun hu hc => ?_, fun hu hc => ?_⟩
  · have := h.hi; simp only [Ov.tf]; cases hb : f.hi <;> simp_all [tb]
  · have := h.lo; simp only [Ov.tf]; cases hb : f.lo <;> simp_all [tb]
  · exact h.vhi hu (by simpa [Ov.tf, counts_tb] using hc)
  · exact h.vlo hu (by simpa [Ov.tf, counts_tb] using hc)
theorem rch_turn {sg : Int} {u : Un} {b : Bd} {p i : Nat} {a c : Int × Option Int} {s : Int} (hs : s = 1 ∨ s = -1) (h : i = p → a = c) : Rch sg u b p a i c s ↔ Rch sg u (tb b) i c p a (-s) := by
  obtain ⟨ga, va⟩ := a
  obtain ⟨gc, vc⟩ := c
  have mix : ∀ v : Int, (va = none ∧ vc = some v) ∨ (va = some v ∧ vc = none) → i ≠ p := fun v hv e => by
    have := h e
    rcases hv with ⟨e1, e2⟩ | ⟨e1, e2⟩ <;> (subst e1; subst e2; cases this)
  rcases hs with e | e <;> subst e
  all_goals
    cases b with
    | start => simp only [Rch, tb]
    | fin => simp only [Rch, tb]
    | here => cases u <;> simp only [Rch, tb] <;> omega
    | before n =>
      cases u with
      | rows => simp only [Rch, tb, far]; omega
      | groups => simp only [Rch, tb, far]; omega
      | range =>
        cases va with
        | none =>
          cases vc with
          | none => simp only [Rch, tb]
          | some v => have := mix v (Or.inl ⟨rfl, rfl⟩); simp only [Rch, tb, iff_true]; omega
        | some v =>
          cases vc with
          | none => have := mix v (Or.inr ⟨rfl, rfl⟩); simp only [Rch, tb, iff_true]; omega
          | some v' => simp only [Rch, tb, far]; omega
    | after n =>
      cases u with
      | rows => simp only [Rch, tb, far]; omega
      | groups => simp only [Rch, tb, far]; omega
      | range =>
        cases va with
        | none =>
          cases vc with
          | none => simp only [Rch, tb]
          | some v => have := mix v (Or.inl ⟨rfl, rfl⟩); simp only [Rch, tb, iff_true]; omega
        | some v =>
          cases vc with
          | none => have := mix v (Or.inr ⟨rfl, rfl⟩); simp only [Rch, tb, iff_true]; omega
          | some v' => simp only [Rch, tb, far]; omega
theorem inF_turn {l : Ln} {f : Frm} {p i : Nat} : InF l f p i ↔ InF l (tf f) i p := by
  constructor
  · rintro ⟨a, c, h1, h2, h3, h4, h5⟩
    have hac : i = p → a = c := fun e => by subst e; rw [h1] at h2; exact Option.some.inj h2
    refine ⟨c, a, h2, h1, ?_, ?_, ?_⟩
    · exact (rch_turn (Or.inr rfl) hac).mp h4
    · exact (rch_turn (Or.inl rfl) hac).mp h3
    · show ¬ OutP f.wo i c p a
      cases hw : f.wo <;> rw [hw] at h5 <;> simp only [OutP] at h5 ⊢ <;> omega
  · rintro ⟨c, a, h2, h1, h3, h4, h5⟩
    have hac : i = p → a = c := fun e => by subst e; rw [h1] at h2; exact Option.some.inj h2
    refine ⟨a, c, h1, h2, ?_, ?_, ?_⟩
    · exact (rch_turn (Or.inl rfl) hac).mpr h4
    · exact (rch_turn (Or.inr rfl) hac).mpr h3
    · have h5 : ¬ OutP f.wo i c p a := h5
      cases hw : f.wo <;> rw [hw] at h5 <;> simp only [OutP] at h5 ⊢ <;> omega
def oppo : List (Str × D) := [((Str.ofString "start"), .str "end"), ((Str.ofString "before"), .str "after"), ((Str.ofString "here"), .str "here"), ((Str.ofString "after"), .str "before"), ((Str.ofString "end"), .str "start")]
structure Tn (T : Prg) : Prop where
  f33 : T.fns 33 = some fn_turned_bound
  f34 : T.fns 34 = some fn_turned
  f35 : T.fns 35 = some fn_holders
  dd : T.dd 0 = some oppo
theorem dicD_cons {k z : Str} {v : D} {r : List (Str × D)} : dicD ((k, v) :: r) z = if k = z then some v else dicD r z := (rfl)
theorem dgO_str {kvs : List (Str × D)} {z : Str} : dgO kvs (.str z) = dicD kvs z := (rfl)
theorem slcD_seq {x : D} {xs : List D} {l h : Option Int} (hx : x.ofSeq = some xs) : ∃ y, slcD x l h = some y ∧ y.ofSeq = some (cutD xs l h) := by
  cases x <;> cases hx
  · exact ⟨_, rfl, rfl⟩
  · exact ⟨_, rfl, rfl⟩
theorem bi_tuple_seq {x : D} {xs : List D} (hx : x.ofSeq = some xs) : biD .tuple [x] = some (.tup xs) := by
  cases x <;> cases hx <;> rfl
theorem cut1 {x : D} {xs : List D} : cutD (x :: xs) (some 1) none = xs := by
  unfold cutD sIx'
  simp
section
variable {T : Prg} {k : Nat} {x y : D} {l : Ln} {p : Nat} {b : Bd} {f : Frm}
theorem turned_bound_eq (hT : Tn T) (hk : 1 ≤ k) (hx : er x = bdD b) : ev T k 33 [.d x] = some (.d (bdD (tb b)), [.d x]) := by
  refine W_eq (W_call hT.f33 hk rfl fun j hj => ?_)
  show wS _ _ ir_turned_bound [some (.d _)] _
  have l1 : (0 + 1 : Nat) ≤ sizeLine := by decide
  have hs : ∃ r, x.ofSeq = some (.str b.nm :: r) ∧ bdD (tb b) = .tup ([.str (tb b).nm] ++ r) ∧ r.length ≤ 1 := by
    cases b with
    | before n => obtain ⟨s, h⟩ := (bd_cases hx).2 n (Or.inl rfl); obtain ⟨⟨r, h'⟩, _⟩ := bd_cases hx; rw [h] at h'; cases h'; exact ⟨_, h, rfl, by simp⟩
    | after n => obtain ⟨s, h⟩ := (bd_cases hx).2 n (Or.inr rfl); obtain ⟨⟨r, h'⟩, _⟩ := bd_cases hx; rw [h] at h'; cases h'; exact ⟨_, h, rfl, by simp⟩
    | start => obtain ⟨xs, h1, h2⟩ := er_seq hx; obtain ⟨z, rfl, h3⟩ := map_one h2; cases er_str h3; exact ⟨[], h1, rfl, by simp⟩
    | here => obtain ⟨xs, h1, h2⟩ := er_seq hx; obtain ⟨z, rfl, h3⟩ := map_one h2; cases er_str h3; exact ⟨[], h1, rfl, by simp⟩
    | fin => obtain ⟨xs, h1, h2⟩ := er_seq hx; obtain ⟨z, rfl, h3⟩ := map_one h2; cases er_str h3; exact ⟨[], h1, rfl, by simp⟩
  obtain ⟨r, h1, h2, h3⟩ := hs
  obtain ⟨z, h4, h5⟩ := slcD_seq (l := some 1) (h := none) h1
  rw [cut1] at h5
  have hd : dicD oppo b.nm = some (.str (tb b).nm) := by
    cases b <;> simp only [oppo, dicD, Bd.nm, tb, ofString_inj, String.reduceEq, if_true, if_false]
  have hsz := sizeLine_ge
  have e0 : ixD x 0 = some (.str b.nm) := ix0 hx
  have pn : ∀ {G : Cfg} {ρ : Slots} {Q : Option Int → Slots → Prop}, partW G (.int 1) ρ Q = Q (some 1) ρ := by
    intro G ρ Q
    rw [partW_some (by intro h; cases h)]
    simp_arith only []
  simp_arith only [ir_turned_bound, pn, e0, hT.dd, dgO_str, hd, if_pos l1, h4, bi_tuple_seq h5]
  rw [if_pos (by omega), h2]
  exact rfl
theorem turned_eq (hT : Tn T) (hk : 2 ≤ k) (hx : er x = frD f) : ev T k 34 [.d x] = some (.d (frD (tf f)), [.d x]) := by
  obtain ⟨b, c, q0, q1, q2, q3, q4, q5⟩ := fr_seq hx
  refine W_eq (W_call hT.f34 (by omega) rfl fun j hj => ?_)
  show wS _ _ ir_turned [some (.d _)] _
  have l4 : (0 + 1 + 1 + 1 + 1 : Nat) ≤ sizeLine := by decide
  simp_arith only [ir_turned, q0, q1, q2, q3, turned_bound_eq hT (show 1 ≤ j by omega) q4, turned_bound_eq hT (show 1 ≤ j by omega) q5, if_pos l4]
  exact rfl
theorem holders_S (hF : Fr T) (h27 : T.fns 27 = some fn_stretches) (hT : Tn T) (hk : 8 ≤ k) (hp : p < l.es.length) (hf : Fits l f) (hx : er x = lineD l) (hy : er y = frD f) :
    ev T k 35 [.d x, .d (.int (p : Int)), .d y] = some (.d (.tup ((runsOf (FrS l (tf f) p) []).map prD)), [.d x, .d (.int (p : Int)), .d y]) := by
  refine W_eq (W_call hT.f35 (by omega) rfl fun j hj => ?_)
  show wS _ _ ir_holders [some (.d _), some (.d _), some (.d _)] _
  simp_arith only [ir_holders, turned_eq hT (show 2 ≤ j by omega) hy, stretches_S hF h27 (show 6 ≤ j by omega) hp hf.tf hx (er_fr (tf f))]
end
end Ov

set_option maxHeartbeats 4000000
namespace Ov
open PySem
/-! ### the places of a frame, as the program tells them -/
def expand (rs : List (Int × Int)) : List D := (rs.map fun q => rangeD q.1 (q.2 + 1)).flatten
theorem rangeD_nat {a m : Nat} : rangeD (a : Int) ((a : Int) + (m : Int) + 1) = dI (List.range' a (m + 1)) := by
  unfold rangeD dI
  rw [show ((a : Int) + (m : Int) + 1 - (a : Int)).toNat = m + 1 by omega, List.range'_eq_map_range, List.map_map]
  apply List.map_congr_left
  intro i _
  simp
theorem rangeD_snoc {a b : Int} (h : a ≤ b + 1) : rangeD a (b + 1 + 1) = rangeD a (b + 1) ++ [.int (b + 1)] := by
  unfold rangeD
  rw [show (b + 1 + 1 - a).toNat = (b + 1 - a).toNat + 1 by omega, List.range_succ, List.map_append]
  simp only [List.map_cons, List.map_nil]
  rw [show a + (((b + 1 - a).toNat : Nat) : Int) = b + 1 by omega]
theorem expand_snoc {rs : List (Int × Int)} {q : Int × Int} : expand (rs ++ [q]) = expand rs ++ rangeD q.1 (q.2 + 1) := by
  unfold expand; simp
/-- each run ends where it should -/
def Runs (rs : List (Int × Int)) : Prop := ∀ q ∈ rs, q.1 ≤ q.2
theorem runs_step {rs : List (Int × Int)} {i : Nat} (h : Runs rs) : Runs (stp rs (one i)) ∧ expand (stp rs (one i)) = expand rs ++ [.int (i : Int)] := by
  rcases List.eq_nil_or_concat rs with e | ⟨M, u, e⟩
  · subst e
    have hs : stp [] (one i) = [((i : Int), (i : Int))] := rfl
    rw [hs]
    refine ⟨fun q hq => by simp at hq; subst hq; exact Int.le_refl _, ?_⟩
    unfold expand
    simp only [List.map_cons, List.map_nil, List.flatten_cons, List.flatten_nil, List.append_nil, List.nil_append]
    have e2 : rangeD (i : Int) ((i : Int) + 1) = [.int (i : Int)] := by
      unfold rangeD
      rw [show ((i : Int) + 1 - (i : Int)).toNat = 1 by omega]
      simp [List.range_succ]
    exact e2
  · rw [List.concat_eq_append] at e
    subst e
    unfold one
    rw [stp_snoc]
    have hu := h u (by simp)
    by_cases hc : u.2 + 1 = (i : Int)
    · rw [if_pos hc]
      refine ⟨fun q hq => ?_, ?_⟩
      · rcases List.mem_append.mp hq with r | r
        · exact h q (List.mem_append_left _ r)
        · simp at r; subst r; show u.1 ≤ (i : Int); omega
      · rw [expand_snoc, expand_snoc]
        show _ ++ rangeD u.1 ((i : Int) + 1) = _
        rw [← hc, rangeD_snoc (by omega), List.append_assoc]
    · rw [if_neg hc]
      refine ⟨fun q hq => ?_, ?_⟩
      · rcases List.mem_append.mp hq with r | r
        · exact h q r
        · simp at r; subst r; exact Int.le_refl _
      · rw [expand_snoc]
        congr 1
        unfold rangeD
        rw [show ((i : Int) + 1 - (i : Int)).toNat = 1 by omega]
        simp [List.range_succ]
theorem runs_expand : ∀ (L : List Nat) (rs : List (Int × Int)), Runs rs → Runs (runsOf L rs) ∧ expand (runsOf L rs) = expand rs ++ dI L
  | [], rs, h => ⟨h, by simp [runsOf, dI]⟩
  | i :: L, rs, h => by
    obtain ⟨h1, h2⟩ := runs_step (i := i) h
    obtain ⟨h3, h4⟩ := runs_expand L (stp rs (one i)) h1
    refine ⟨h3, ?_⟩
    show expand (runsOf L (stp rs (one i))) = _
    rw [h4, h2]
    simp [dI]
theorem runs_bound {b : Int} : ∀ (L : List Nat) (rs : List (Int × Int)), (∀ i ∈ L, (i : Int) ≤ b) → (∀ q ∈ rs, 0 ≤ q.1 ∧ q.2 ≤ b) → ∀ q ∈ runsOf L rs, 0 ≤ q.1 ∧ q.2 ≤ b
  | [], rs, _, h => h
  | i :: L, rs, hL, h => by
    show ∀ q ∈ runsOf L (stp rs (one i)), _
    refine runs_bound L _ (fun j hj => hL j (List.mem_cons_of_mem _ hj)) fun q hq => ?_
    have hi := hL i (List.mem_cons_self ..)
    unfold one at hq
    rcases List.eq_nil_or_concat rs with e | ⟨M, u, e⟩
    · subst e
      have : q = ((i : Int), (i : Int)) := by simpa [stp] using hq
      subst this
      exact ⟨by simp, hi⟩
    · rw [List.concat_eq_append] at e
      subst e
      rw [stp_snoc] at hq
      split at hq
      · rcases List.mem_append.mp hq with r | r
        · exact h q (List.mem_append_left _ r)
        · simp at r; subst r; exact ⟨(h u (by simp)).1, hi⟩
      · rcases List.mem_append.mp hq with r | r
        · exact h q r
        · simp at r; subst r; exact ⟨by simp, hi⟩
theorem depth_dI (L : List Nat) : (D.lst (dI L)).depth ≤ 1 := by
  have : D.depths (dI L) = 0 := by
    unfold dI
    induction L with
    | nil => rfl
    | cons a L ih => simp only [List.map_cons, D.depths, D.depth]; omega
  simp only [D.depth]; omega
/-! ### slides -/
theorem mu_extend {ys zs : List D} : muD .extend ys [.lst zs] = if ys.length + zs.length ≤ sizeLine then some (.non, ys ++ zs) else none := (rfl)
section
variable {T : Prg} {k : Nat} {x y : D} {l : Ln} {p : Nat} {f : Frm}
theorem places_S (h39 : T.fns 39 = some fn_frame_places) (hk : 2 ≤ k) (hn : l.es.length ≤ 1000) (hs : ev T (k - 1) 27 [.d x, .d (.int (p : Int)), .d y] = some (.d (.tup ((runsOf (FrS l f p) []).map prD)), [.d x, .d (.int (p : Int)), .d y])) :
    ev T k 39 [.d x, .d (.int (p : Int)), .d y] = some (.d (.lst (dI (FrS l f p))), [.d x, .d (.int (p : Int)), .d y]) := by
  refine W_eq (W_call h39 (by omega) rfl fun j hj => ?_)
  obtain rfl : j = k - 1 := by omega
  show wS _ _ ir_frame_places [some (.d _), some (.d _), some (.d _), none, none, none] _
  have l0 : (0 : Nat) ≤ sizeLine := by decide
  have hsz := sizeLine_ge
  obtain ⟨r1, r2⟩ := runs_expand (FrS l f p) [] (fun q hq => by cases hq)
  have r3 := runs_bound (b := 1000) (FrS l f p) [] (fun i hi => by
    obtain ⟨a, c, _, e2, _⟩ := mem_FrS.mp hi
    have := lt_of_get e2
    omega) (fun q hq => by cases hq)
  have hlen : (expand (runsOf (FrS l f p) [])).length ≤ 1000 := by
    rw [r2]
    have := FrS_len l f p
    simp [expand, dI]; omega
  generalize runsOf (FrS l f p) [] = rs at *
  unfold ir_frame_places
  rw [wS_seq]
  simp_arith [wS_asgO, if_pos l0, thenW_nx]
  rw [wS_seq]
  simp_arith [wS_forS, hs, items_t]
  refine wF_inv (fun i ρ => ∃ s4 s5, NB s4 ∧ NB s5 ∧ ρ = [some (.d x), some (.d (.int (p : Int))), some (.d y), some (.own false (expand (rs.take i))), s4, s5]) ?_ ?_ ?_
  · exact ⟨none, none, ⟨rfl, rfl⟩, ⟨rfl, rfl⟩, by simp [expand]⟩
  · rintro i z ρ hz ⟨s4, s5, n4, n5, rfl⟩
    rw [List.getElem?_map] at hz
    cases ho : rs[i]? with
    | none => rw [ho] at hz; cases hz
    | some q =>
      rw [ho] at hz; cases hz
      have hq := List.mem_of_getElem? ho
      have b1 := r1 q hq
      have b2 := r3 q hq
      have hlr : lrngD q.1 (q.2 + 1) = some (.lst (rangeD q.1 (q.2 + 1))) := by
        unfold lrngD
        rw [if_pos ⟨by omega, by omega, by omega, by omega, by omega⟩]
      have hnext : expand (rs.take (i + 1)) = expand (rs.take i) ++ rangeD q.1 (q.2 + 1) := by
        rw [List.take_add_one, ho]
        exact expand_snoc
      have hle : (expand (rs.take i)).length + (rangeD q.1 (q.2 + 1)).length ≤ sizeLine := by
        have h1 : (expand (rs.take (i + 1))).length ≤ (expand rs).length := by
          have : expand rs = expand (rs.take (i + 1)) ++ expand (rs.drop (i + 1)) := by
            unfold expand
            rw [← List.flatten_append, ← List.map_append, List.take_append_drop]
          rw [this]; simp
        rw [hnext, List.length_append] at h1
        omega
      simp_arith only [n4.1, n5.1, prD, hlr, mu_extend, if_pos hle, ← hnext]
      exact ⟨_, _, ⟨rfl, rfl⟩, ⟨rfl, rfl⟩, rfl⟩
  · rintro ρ ⟨s4, s5, n4, n5, rfl⟩
    have e : expand (rs.take (rs.map prD).length) = dI (FrS l f p) := by
      rw [List.length_map, List.take_length, r2]; simp [expand]
    simp_arith only [e]
end
end Ov

set_option maxHeartbeats 4000000
namespace Ov
open PySem
/-! ### a comprehension with effects -/
theorem compGo_idx {body : D → Slots → Option (Option D × Slots)} {I : Nat → List D → Slots → Prop} : ∀ (xs : List D) (n : Nat) (acc : List D) (ρ : Slots),
    (∀ (i : Nat) x acc ρ, xs[i]? = some x → I (n + i) acc ρ → ∃ y ρ', body x ρ = some (some y, ρ') ∧ I (n + i + 1) (acc ++ [y]) ρ') → I n acc ρ → ∃ ys ρ', compGo body xs ρ = some (ys, ρ') ∧ I (n + xs.length) (acc ++ ys) ρ'
  | [], n, acc, ρ, _, h => ⟨[], ρ, rfl, by simpa using h⟩
  | x :: xs, n, acc, ρ, hs, h => by
    obtain ⟨y, ρ1, h1, h2⟩ := hs 0 x acc ρ rfl h
    obtain ⟨ys, ρ2, h3, h4⟩ := compGo_idx xs (n + 1) (acc ++ [y]) ρ1 (fun i z a r hz hi => by
      have := hs (i + 1) z a r (by simpa using hz) (by rw [show n + (i + 1) = n + 1 + i by omega]; exact hi)
      rw [show n + (i + 1) + 1 = n + 1 + i + 1 by omega] at this
      exact this) h2
    refine ⟨y :: ys, ρ2, ?_, ?_⟩
    · simp only [compGo, h1, Option.bind_eq_bind, Option.bind_some, h3]; rfl
    · rw [show n + (x :: xs).length = n + 1 + xs.length by simp; omega]
      simpa using h4
theorem wE_compI {G : Cfg} {vs : List Nat} {p : Pat} {k : ItK} {a b e : IR} {ρ0 ρ1 : Slots} {xs : List D} {Q : Vl → Slots → Prop} (I : Nat → List D → Slots → Prop) (hit : wI G k a b ρ0 (fun ys ρ' => ys = xs ∧ ρ' = ρ1)) (ho : (vs.any fun v => isOwn ρ1[v]?) = false) (h0 : I 0 [] ρ1)
    (ht : ∀ (i : Nat) x acc ρ, xs[i]? = some x → I i acc ρ → W (Pat.bind p x (wipeE ρ vs)) (fun ρa => wE G e ρa (fun v ρc => W v.pure? (fun y => I (i + 1) (acc ++ [y]) ρc))))
    (q : ∀ ys ρ2, I xs.length ys ρ2 → Q (.d (.lst ys)) (restore ρ1 ρ2 vs)) : wE G (.comp vs p k a b .nil e) ρ0 Q := by
  obtain ⟨⟨ys0, ρ1'⟩, hi, rfl, rfl⟩ := hit
  obtain ⟨ys, ρ2, h1, h2⟩ := compGo_idx (body := fun x ρ => turnC G p .nil e x (wipeE ρ vs)) (I := I) ys0 0 [] ρ1' (fun i x acc ρ hx hI => by
    rw [Nat.zero_add] at hI ⊢
    obtain ⟨ρa, q1, ⟨v, ρc⟩, q2, y, q3, q4⟩ := ht i x acc ρ hx hI
    refine ⟨y, ρc, ?_, q4⟩
    show turnC G p .nil e x (wipeE ρ vs) = _
    unfold turnC
    rw [q1]
    show (evE G e ρa >>= _) = _
    rw [q2]
    show (v.pure? >>= _) = _
    rw [q3]; rfl) h0
  rw [Nat.zero_add, List.nil_append] at h2
  refine ⟨(.d (.lst ys), restore ρ1' ρ2 vs), ?_, q ys ρ2 h2⟩
  unfold evE
  rw [hi]
  show (if (vs.any fun v => isOwn ρ1'[v]?) = true then none else _) = _
  rw [if_neg (by rw [ho]; decide)]
  refine (congrArg (fun z => z >>= _) (?_ : compGo _ ys0 ρ1' = some (ys, ρ2))).trans ?_
  · rw [← h1]; congr 1
  · rfl
end Ov

set_option maxHeartbeats 4000000
namespace Ov
open PySem
/-! how long a repr is -/
mutual
def D.wt : D → Nat
  | .non => 5
  | .bl _ => 5
  | .int _ => 21
  | .str s => 10 * s.length + 2
  | .tup xs => D.wts xs + 4
  | .lst xs => D.wts xs + 4
def D.wts : List D → Nat
  | [] => 0
  | x :: xs => D.wt x + 2 + D.wts xs
end
mutual
def D.tame : D → Bool
  | .int i => decide (i.natAbs < 10 ^ 18)
  | .str s => s.cps.toList.all (· < 0x110000)
  | .tup xs => D.tames xs
  | .lst xs => D.tames xs
  | _ => true
def D.tames : List D → Bool
  | [] => true
  | x :: xs => D.tame x && D.tames xs
end
theorem textFrom_le : ∀ (ts : List Str) (k : Nat) (acc : Str), (textFrom k acc ts).length ≤ acc.length + piled ts
  | [], k, acc => by simp [textFrom]
  | t :: r, k, acc => by
    have h := textFrom_le r (k + 1) (acc ++ (if k > 0 then ", " else "" : String) ++ t)
    have e : (acc ++ (if k > 0 then ", " else "" : String) ++ t).length = acc.length + (if k > 0 then 2 else 0) + t.length := by
      rw [strLen_append, strLen_append]
      split <;> rfl
    have e2 : piled (t :: r) = t.length + 2 + piled r := by simp [piled]
    show (textFrom (k + 1) _ r).length ≤ _
    rw [e] at h
    rw [e2]
    have hc : (if k > 0 then 2 else 0 : Nat) ≤ 2 := by split <;> omega
    omega
theorem listText_le (ts : List Str) : (listText ts).length ≤ piled ts + 2 := by
  have h := textFrom_le ts 0 "["
  have e : (listText ts).length = (textFrom 0 "[" ts).length + 1 := by
    unfold listText
    rw [strLen_append]; rfl
  have e1 : ((("[" : String) : Str)).length = 1 := rfl
  omega
theorem tupleText_le (ts : List Str) : (tupleText ts).length ≤ piled ts + 4 := by
  have e : (tupleText ts).length ≤ 1 + (Str.join ", " ts).length + 2 := by
    unfold tupleText
    rw [strLen_append, strLen_append]
    have e1 : ((("(" : String) : Str)).length = 1 := rfl
    rw [e1]
    have : ((if ts.length == 1 then ",)" else ")" : String) : Str).length ≤ 2 := by
      split <;> decide
    omega
  cases ts with
  | nil =>
    have : (Str.join ", " ([] : List Str)).length = 0 := rfl
    omega
  | cons t r =>
    have := join_length_add (t :: r) (by simp)
    omega
theorem int_show {i : Int} (h : i.natAbs < 10 ^ 18) : (Str.ofString (toString i)).length ≤ 19 ∧ i.natAbs.log2 < 1920 := by
  have h1 := int_text_length_le10 (a := i) (k := 18) (by decide) h
  refine ⟨?_, ?_⟩
  · rw [ofString_length]; omega
  · by_cases h0 : i.natAbs = 0
    · rw [h0]; decide
    · rw [Nat.log2_lt h0]
      have : (10 : Nat) ^ 18 ≤ 2 ^ 1920 := by decide
      omega
mutual
theorem shown_le : ∀ x : D, x.tame = true → x.py.shown.length ≤ x.wt ∧ x.py.showable = true
  | .non, _ => ⟨by decide, rfl⟩
  | .bl b, _ => ⟨by cases b <;> decide, rfl⟩
  | .int i, h => by
    have h : i.natAbs < 10 ^ 18 := by simpa only [D.tame, decide_eq_true_eq] using h
    obtain ⟨h1, h2⟩ := int_show h
    refine ⟨?_, ?_⟩
    · show (Str.ofString (toString i)).length ≤ 21
      omega
    · show decide (i.natAbs.log2 < 1920) = true
      exact decide_eq_true h2
  | .str s, h => by
    have h : s.cps.toList.all (· < 0x110000) = true := h
    refine ⟨?_, rfl⟩
    show (reprText s).length ≤ 10 * s.length + 2
    refine StrLaws.reprText_len s fun c hc => ?_
    rw [List.all_eq_true] at h
    have := h c hc
    simp only [decide_eq_true_eq] at this
    omega
  | .tup xs, h => by
    obtain ⟨h1, h2⟩ := shown_les xs h
    have := tupleText_le (PyData.shownAll (D.pys xs))
    refine ⟨?_, h2⟩
    show (tupleText (PyData.shownAll (D.pys xs))).length ≤ D.wts xs + 4
    omega
  | .lst xs, h => by
    obtain ⟨h1, h2⟩ := shown_les xs h
    have := listText_le (PyData.shownAll (D.pys xs))
    refine ⟨?_, h2⟩
    show (listText (PyData.shownAll (D.pys xs))).length ≤ D.wts xs + 4
    omega
theorem shown_les : ∀ xs : List D, D.tames xs = true → piled (PyData.shownAll (D.pys xs)) ≤ D.wts xs ∧ PyData.showableAll (D.pys xs) = true
  | [], _ => ⟨by decide, rfl⟩
  | x :: xs, h => by
    have h : x.tame = true ∧ D.tames xs = true := by simpa only [D.tames, Bool.and_eq_true] using h
    obtain ⟨a1, a2⟩ := shown_le x h.1
    obtain ⟨b1, b2⟩ := shown_les xs h.2
    refine ⟨?_, ?_⟩
    · show piled (x.py.shown :: PyData.shownAll (D.pys xs)) ≤ x.wt + 2 + D.wts xs
      have e2 : piled (x.py.shown :: PyData.shownAll (D.pys xs)) = x.py.shown.length + 2 + piled (PyData.shownAll (D.pys xs)) := by simp [piled]
      omega
    · show (x.py.showable && PyData.showableAll (D.pys xs)) = true
      rw [a2, b2]; rfl
end
theorem repr_some {x : D} (h1 : x.depth ≤ 60) (h2 : x.tame = true) (h3 : x.wt ≤ sizeLine) : biD .repr [x] = some (.str x.py.shown) := by
  obtain ⟨a, b⟩ := shown_le x h2
  show reprD x = _
  unfold reprD
  rw [if_pos ⟨h1, b, by omega⟩]
/-! lists for tuples change neither -/
mutual
theorem er_wt : ∀ x : D, (er x).wt = x.wt ∧ (er x).tame = x.tame ∧ (er x).depth = x.depth
  | .non => ⟨rfl, rfl, rfl⟩
  | .bl _ => ⟨rfl, rfl, rfl⟩
  | .int _ => ⟨rfl, rfl, rfl⟩
  | .str _ => ⟨rfl, rfl, rfl⟩
  | .tup xs => by
    obtain ⟨a, b, c⟩ := er_wts xs
    exact ⟨by show D.wts (ers xs) + 4 = D.wts xs + 4; rw [a], b, by show D.depths (ers xs) + 1 = D.depths xs + 1; rw [c]⟩
  | .lst xs => by
    obtain ⟨a, b, c⟩ := er_wts xs
    exact ⟨by show D.wts (ers xs) + 4 = D.wts xs + 4; rw [a], b, by show D.depths (ers xs) + 1 = D.depths xs + 1; rw [c]⟩
theorem er_wts : ∀ xs : List D, D.wts (ers xs) = D.wts xs ∧ D.tames (ers xs) = D.tames xs ∧ D.depths (ers xs) = D.depths xs
  | [] => ⟨rfl, rfl, rfl⟩
  | x :: xs => by
    obtain ⟨a, b, c⟩ := er_wt x
    obtain ⟨a', b', c'⟩ := er_wts xs
    exact ⟨by show (er x).wt + 2 + D.wts (ers xs) = x.wt + 2 + D.wts xs; rw [a, a'], by show ((er x).tame && D.tames (ers xs)) = (x.tame && D.tames xs); rw [b, b'], by show max (er x).depth (D.depths (ers xs)) = max x.depth (D.depths xs); rw [c, c']⟩
end
/-! lines and frames -/
theorem wt_ents : ∀ {es : List (Int × Option Int)}, Sml es → D.wts (es.map entD) ≤ 60 * es.length ∧ D.tames (es.map entD) = true
  | [], _ => ⟨by decide, rfl⟩
  | (g, v) :: es, h => by
    obtain ⟨a, b⟩ := wt_ents (es := es) (fun a ha => h a (List.mem_cons_of_mem _ ha))
    obtain ⟨h1, h2, h3⟩ := h _ (List.mem_cons_self ..)
    have hg : decide (g.natAbs < 10 ^ 18) = true := decide_eq_true (by dsimp only at h1 h2; omega)
    have hw : (optD v).wt ≤ 21 ∧ (optD v).tame = true := by
      cases v with
      | none => exact ⟨by decide, rfl⟩
      | some w =>
        have := h3 w rfl
        exact ⟨Nat.le_refl _, decide_eq_true (by omega)⟩
    refine ⟨?_, ?_⟩
    · show (21 + 2 + ((optD v).wt + 2 + 0)) + 4 + 2 + D.wts (es.map entD) ≤ 60 * (es.length + 1)
      omega
    · show ((decide (g.natAbs < 10 ^ 18) && ((optD v).tame && true)) && D.tames (es.map entD)) = true
      rw [hg, hw.2, b]; rfl
theorem wt_line {l : Ln} (h : Sml l.es) (hn : l.es.length ≤ 1000) : (lineD l).wt ≤ 60100 ∧ (lineD l).tame = true := by
  obtain ⟨a, b⟩ := wt_ents h
  have hw : (D.str (wayD l.up)).wt ≤ 42 ∧ (D.str (wayD l.up)).tame = true := by cases l.up <;> exact ⟨by decide, by decide⟩
  refine ⟨?_, ?_⟩
  · show (D.str (wayD l.up)).wt + 2 + ((D.wts (l.es.map entD) + 4) + 2 + 0) + 4 ≤ _
    omega
  · show ((D.str (wayD l.up)).tame && (D.tames (l.es.map entD) && true)) = true
    rw [hw.2, b]; rfl
theorem wt_bd {b : Bd} (h : SmlB 10000000 b) : (bdD b).wt ≤ 200 ∧ (bdD b).tame = true := by
  cases b with
  | start => exact ⟨by decide, by decide⟩
  | here => exact ⟨by decide, by decide⟩
  | fin => exact ⟨by decide, by decide⟩
  | before n =>
    have := h n (Or.inl rfl)
    have hg : decide (n.natAbs < 10 ^ 18) = true := decide_eq_true (by omega)
    refine ⟨by show (D.str "before").wt + 2 + (21 + 2 + 0) + 4 ≤ 200; decide, ?_⟩
    show ((D.str "before").tame && (decide (n.natAbs < 10 ^ 18) && true)) = true
    rw [hg]; decide
  | after n =>
    have := h n (Or.inr rfl)
    have hg : decide (n.natAbs < 10 ^ 18) = true := decide_eq_true (by omega)
    refine ⟨by show (D.str "after").wt + 2 + (21 + 2 + 0) + 4 ≤ 200; decide, ?_⟩
    show ((D.str "after").tame && (decide (n.natAbs < 10 ^ 18) && true)) = true
    rw [hg]; decide
theorem wt_fr {f : Frm} (h1 : SmlB 10000000 f.lo) (h2 : SmlB 10000000 f.hi) : (frD f).wt ≤ 1000 ∧ (frD f).tame = true := by
  obtain ⟨a1, a2⟩ := wt_bd h1
  obtain ⟨b1, b2⟩ := wt_bd h2
  have hu : (D.str f.u.nm).wt ≤ 100 ∧ (D.str f.u.nm).tame = true := by cases f.u <;> exact ⟨by decide, by decide⟩
  have hw : (D.str f.wo.nm).wt ≤ 100 ∧ (D.str f.wo.nm).tame = true := by cases f.wo <;> exact ⟨by decide, by decide⟩
  refine ⟨?_, ?_⟩
  · show (D.str f.u.nm).wt + 2 + ((bdD f.lo).wt + 2 + ((bdD f.hi).wt + 2 + ((D.str f.wo.nm).wt + 2 + 0))) + 4 ≤ _
    omega
  · show ((D.str f.u.nm).tame && ((bdD f.lo).tame && ((bdD f.hi).tame && ((D.str f.wo.nm).tame && true)))) = true
    rw [hu.2, hw.2, a2, b2]; rfl
/-- both as lists -/
theorem repr_soft {l : Ln} {f : Frm} {x y : D} (h : Sml l.es) (hn : l.es.length ≤ 1000) (h1 : SmlB 10000000 f.lo) (h2 : SmlB 10000000 f.hi) (hx : er x = lineD l) (hy : er y = frD f) : ∃ s, biD .repr [.lst [x, y]] = some (.str s) := by
  obtain ⟨a1, a2⟩ := wt_line h hn
  obtain ⟨b1, b2⟩ := wt_fr h1 h2
  obtain ⟨p1, p2, p3⟩ := er_wt x
  obtain ⟨q1, q2, q3⟩ := er_wt y
  rw [hx] at p1 p2 p3
  rw [hy] at q1 q2 q3
  have dl := depth_line l
  have df := depth_fr f
  have hsz := sizeLine_ge
  refine ⟨_, repr_some ?_ ?_ ?_⟩
  · show max x.depth (max y.depth 0) + 1 ≤ 60
    omega
  · show (x.tame && (y.tame && true)) = true
    rw [← p2, ← q2, a2, b2]; rfl
  · show x.wt + 2 + (y.wt + 2 + 0) + 4 ≤ sizeLine
    have : 100000 ≤ sizeLine := by decide
    omega
end Ov

set_option maxHeartbeats 4000000
namespace Ov
open PySem
section
variable {T : Prg} {k : Nat} {x y : D} {l : Ln} {p : Nat} {f : Frm}
theorem places_O (h51 : T.fns 51 = some fn_frame_places_2) (hk : 2 ≤ k) (hn : l.es.length ≤ 1000) (hs : ev T (k - 1) 27 [.d x, .d (.int (p : Int)), .d y] = some (.d (.tup ((runsOf (FrS l f p) []).map prD)), [.d x, .d (.int (p : Int)), .d y])) :
    ev T k 51 [.d x, .d (.int (p : Int)), .d y] = some (.own false (dI (FrS l f p)), [.d x, .d (.int (p : Int)), .d y]) := by
  refine W_eq (W_call h51 (by omega) rfl fun j hj => ?_)
  obtain rfl : j = k - 1 := by omega
  show wS _ _ ir_frame_places_2 [some (.d _), some (.d _), some (.d _), none, none, none] _
  have l0 : (0 : Nat) ≤ sizeLine := by decide
  have hsz := sizeLine_ge
  obtain ⟨r1, r2⟩ := runs_expand (FrS l f p) [] (fun q hq => by cases hq)
  have r3 := runs_bound (b := 1000) (FrS l f p) [] (fun i hi => by
    obtain ⟨a, c, _, e2, _⟩ := mem_FrS.mp hi
    have := lt_of_get e2
    omega) (fun q hq => by cases hq)
  have hlen : (expand (runsOf (FrS l f p) [])).length ≤ 1000 := by
    rw [r2]
    have := FrS_len l f p
    simp [expand, dI]; omega
  generalize runsOf (FrS l f p) [] = rs at *
  unfold ir_frame_places_2
  rw [wS_seq]
  simp_arith [wS_asgO, if_pos l0, thenW_nx]
  rw [wS_seq]
  simp_arith [wS_forS, hs, items_t]
  refine wF_inv (fun i ρ => ∃ s4 s5, NB s4 ∧ NB s5 ∧ ρ = [some (.d x), some (.d (.int (p : Int))), some (.d y), some (.own false (expand (rs.take i))), s4, s5]) ?_ ?_ ?_
  · exact ⟨none, none, ⟨rfl, rfl⟩, ⟨rfl, rfl⟩, by simp [expand]⟩
  · rintro i z ρ hz ⟨s4, s5, n4, n5, rfl⟩
    rw [List.getElem?_map] at hz
    cases ho : rs[i]? with
    | none => rw [ho] at hz; cases hz
    | some q =>
      rw [ho] at hz; cases hz
      have hq := List.mem_of_getElem? ho
      have b1 := r1 q hq
      have b2 := r3 q hq
      have hlr : lrngD q.1 (q.2 + 1) = some (.lst (rangeD q.1 (q.2 + 1))) := by
        unfold lrngD
        rw [if_pos ⟨by omega, by omega, by omega, by omega, by omega⟩]
      have hnext : expand (rs.take (i + 1)) = expand (rs.take i) ++ rangeD q.1 (q.2 + 1) := by
        rw [List.take_add_one, ho]
        exact expand_snoc
      have hle : (expand (rs.take i)).length + (rangeD q.1 (q.2 + 1)).length ≤ sizeLine := by
        have h1 : (expand (rs.take (i + 1))).length ≤ (expand rs).length := by
          have : expand rs = expand (rs.take (i + 1)) ++ expand (rs.drop (i + 1)) := by
            unfold expand
            rw [← List.flatten_append, ← List.map_append, List.take_append_drop]
          rw [this]; simp
        rw [hnext, List.length_append] at h1
        omega
      simp_arith only [n4.1, n5.1, prD, hlr, mu_extend, if_pos hle, ← hnext]
      exact ⟨_, _, ⟨rfl, rfl⟩, ⟨rfl, rfl⟩, rfl⟩
  · rintro ρ ⟨s4, s5, n4, n5, rfl⟩
    have e : expand (rs.take (rs.map prD).length) = dI (FrS l f p) := by
      rw [List.length_map, List.take_length, r2]; simp [expand]
    simp_arith only [e]
end
/-- how many places reach a bound -/
theorem cnt_low : ∀ (n : Nat) (v : Int), 0 ≤ v → v ≤ n → (((List.range n).filter fun (i : Nat) => decide (v ≤ (i : Int))).length : Int) = n - v
  | 0, v, h0, h1 => by simp; omega
  | n + 1, v, h0, h1 => by
    rw [List.range_succ, List.filter_append, List.length_append]
    by_cases h : v ≤ n
    · have := cnt_low n v h0 h
      rw [List.filter_cons_of_pos (by simpa using h)]
      simp only [List.filter_nil, List.length_cons, List.length_nil]
      omega
    · rw [List.filter_cons_of_neg (by simpa using h), List.filter_eq_nil_iff.mpr (fun i hi => by have := List.mem_range.mp hi; simp; omega)]
      simp only [List.filter_nil, List.length_nil]
      omega
theorem cnt_high : ∀ (n : Nat) (v : Int), -1 ≤ v → v ≤ n - 1 → (((List.range n).filter fun (i : Nat) => decide ((i : Int) ≤ v)).length : Int) = v + 1
  | 0, v, h0, h1 => by simp; omega
  | n + 1, v, h0, h1 => by
    rw [List.range_succ, List.filter_append, List.length_append]
    by_cases h : (n : Int) ≤ v
    · have e : v = n := by omega
      subst e
      rw [List.filter_cons_of_pos (by simp), List.filter_eq_self.mpr (fun i hi => by have := List.mem_range.mp hi; simp; omega)]
      simp
    · have := cnt_high n v h0 (by omega)
      rw [List.filter_cons_of_neg (by simpa using h)]
      simp only [List.filter_nil, List.length_nil]
      omega
structure K17 (T : Prg) : Prop where
  core : Core T
  fr : Fr T
  ls : Ls T
  l17 : L17 T
  places : T.fns 51 = some fn_frame_places_2
  lane_right : T.fns 52 = some fn_lane_right_3
  right : T.fns 53 = some fn_right_6
  law : T.fns 54 = some fn_law_6
  sh4 : T.sh 4 = some (8, [2, 1, 0])
  sh5 : T.sh 5 = some (51, [2, 1, 0])
section
variable {T : Prg} {k : Nat} {l : Ln} {f : Frm} {Q : EV × List EV → Prop}
theorem W_lane_right17 (hK : K17 T) (hk : 14 ≤ k) (hf : Fits l f) (hn : l.es.length ≤ 1000) (hs : Sml l.es) (s1 : SmlB 10000000 f.lo) (s2 : SmlB 10000000 f.hi) (q : Q (.d (.bl true), [.d (lineD l), .d (frD f)])) : W (ev T k 52 [.d (lineD l), .d (frD f)]) Q := by
  refine W_call hK.lane_right (by omega) rfl fun j hj => ?_
  show wS _ _ ir_lane_right_3 [some (.d _), some (.d _), none, none, none, none, none, none, none, none, none, none] _
  have hsz := sizeLine_ge
  have l2 : (0 + 1 + 1 : Nat) ≤ sizeLine := by decide
  have l1 : (0 + 1 : Nat) ≤ sizeLine := by decide
  have e1 : ixD (lineD l) 1 = some (.tup (l.es.map entD)) := rfl
  have f0 : ixD (frD f) 0 = some (.str f.u.nm) := rfl
  have f1 : ixD (frD f) 1 = some (bdD f.lo) := rfl
  have f2 : ixD (frD f) 2 = some (bdD f.hi) := rfl
  obtain ⟨y1, c1, c2⟩ := W_lists hK.core j (frD f) (by have := depth_fr f; omega)
  obtain ⟨x1, c3, c4⟩ := W_lists hK.core j (lineD l) (by have := depth_line l; omega)
  have c2 := c2.trans (er_fr f)
  have c4 := c4.trans (er_line l)
  obtain ⟨s, hrepr⟩ := repr_soft hs hn s1 s2 c4 c2
  unfold ir_lane_right_3
  rw [wS_seq]
  simp_arith [wS_par, e1, List.length_map, c1, c3, if_pos l2]
  rw [wS_seq]
  simp_arith [wS_asg, hrepr]
  rw [wS_seq]
  simp_arith [wS_forS]
  rw [if_pos (by constructor <;> omega)]
  refine wF_inv (fun _ ρ => ∃ s3 s6 s7 s8 s9 s10, NB s3 ∧ NB s6 ∧ NB s7 ∧ NB s8 ∧ NB s9 ∧ NB s10 ∧ ρ = [some (.d (lineD l)), some (.d (frD f)), some (.d (.str s)), s3, some (.d (.int (l.es.length : Int))), some (.d (.lst [x1, y1])), s6, s7, s8, s9, s10, none]) ?_ ?_ ?_
  · exact ⟨none, none, none, none, none, none, ⟨rfl, rfl⟩, ⟨rfl, rfl⟩, ⟨rfl, rfl⟩, ⟨rfl, rfl⟩, ⟨rfl, rfl⟩, ⟨rfl, rfl⟩, rfl⟩
  · rintro p x ρ hx ⟨s3, s6, s7, s8, s9, s10, n3, n6, n7, n8, n9, n10, rfl⟩
    obtain ⟨hpl, rfl⟩ := range_get hx
    have hpl : p < l.es.length := by simpa using hpl
    have hp : l.es[p]? = some l.es[p] := List.getElem?_eq_getElem hpl
    generalize l.es[p] = a at hp
    obtain ⟨lo, hi, hb, h1, h2⟩ := bounds_eq hK.fr (k := j) (by omega) (er_line l) hp (er_fr f) hf
    have hbo : ∀ x y, er x = lineD l → er y = frD f → ev T j 8 [.d x, .d (.int (p : Int)), .d y] = some (.d (.tup [.int lo, .int hi]), [.d x, .d (.int (p : Int)), .d y]) := fun x y hx hy => by
      obtain ⟨lo', hi', hb', h1', h2'⟩ := bounds_eq hK.fr (k := j) (by omega) hx hp hy hf
      rw [hb', h1'.unique h1, h2'.unique h2]
    have hpo : ∀ x y, er x = lineD l → er y = frD f → ev T j 51 [.d x, .d (.int (p : Int)), .d y] = some (.own false (dI (FrS l f p)), [.d x, .d (.int (p : Int)), .d y]) := fun x y hx hy => places_O hK.places (by omega) hn (stretches_S hK.fr hK.l17.stretches (by omega) hpl hf hx hy)
    have hfr := frame_S hK.fr hK.ls hK.l17 (k := j) (by omega) hn hpl hf
    obtain ⟨x2, c5, c6⟩ := W_half hK.core j (lineD l) (p : Int) (by have := depth_line l; omega)
    obtain ⟨y2, c7, c8⟩ := W_half hK.core j (frD f) (p : Int) (by have := depth_fr f; omega)
    simp_arith [n3.1]
    rw [wS_seq]
    simp_arith [wS_asg]
    refine wE_comp (xs := range1 l.es.length) (fun x => match x with
      | .int i => if decide (lo ≤ i) = true then some (.int i) else none
      | _ => none) ?_ rfl rfl (fun x hx => ?_) ?_
    · simp_arith []
      rw [if_pos (by constructor <;> omega)]
      simp only [Int.toNat_natCast, and_self]
    · obtain ⟨i, hi0⟩ := List.getElem?_of_mem hx
      obtain ⟨hi', rfl⟩ := range_get hi0
      have hc : l.es[i]? = some l.es[i] := List.getElem?_eq_getElem hi'
      obtain ⟨r, hr, hr2⟩ := reaches_eq (u := f.u) (b := f.lo) hK.ls (k := j) (by omega) hp hc (s := 1) (Or.inl rfl)
      have e : r = decide (lo ≤ (i : Int)) := by
        rw [Bool.eq_iff_iff, hr2, decide_eq_true_eq]
        exact (h1.2.2 i _ hc).symm
      rw [e] at hr
      simp_arith [wipeE, f0, f1, hr]
      split <;> simp_arith []
    have hlow : (range1 l.es.length).filterMap (fun x => match x with
      | .int i => if decide (lo ≤ i) = true then some (.int i) else none
      | _ => none) = dI ((List.range l.es.length).filter fun (i : Nat) => decide (lo ≤ (i : Int))) := by
      rw [range_dI, dI_fm (P := fun i => decide (lo ≤ i)) (fun i => rfl)]
    rw [hlow]
    have cl := cnt_low l.es.length lo h1.1 h1.2.1
    generalize ((List.range l.es.length).filter fun (i : Nat) => decide (lo ≤ (i : Int))) = L1 at cl
    simp_arith [n6.1]
    rw [wS_seq]
    simp_arith [wS_asg]
    refine wE_comp (xs := range1 l.es.length) (fun x => match x with
      | .int i => if decide (i ≤ hi) = true then some (.int i) else none
      | _ => none) ?_ rfl rfl (fun x hx => ?_) ?_
    · simp_arith []
      rw [if_pos (by constructor <;> omega)]
      simp only [Int.toNat_natCast, and_self]
    · obtain ⟨i, hi0⟩ := List.getElem?_of_mem hx
      obtain ⟨hi', rfl⟩ := range_get hi0
      have hc : l.es[i]? = some l.es[i] := List.getElem?_eq_getElem hi'
      obtain ⟨r, hr, hr2⟩ := reaches_eq (u := f.u) (b := f.hi) hK.ls (k := j) (by omega) hp hc (s := -1) (Or.inr rfl)
      have e : r = decide ((i : Int) ≤ hi) := by
        rw [Bool.eq_iff_iff, hr2, decide_eq_true_eq]
        exact (h2.2.2 i _ hc).symm
      rw [e] at hr
      simp_arith [wipeE, f0, f2, hr]
      split <;> simp_arith []
    have hhigh : (range1 l.es.length).filterMap (fun x => match x with
      | .int i => if decide (i ≤ hi) = true then some (.int i) else none
      | _ => none) = dI ((List.range l.es.length).filter fun (i : Nat) => decide ((i : Int) ≤ hi)) := by
      rw [range_dI, dI_fm (P := fun i => decide (i ≤ hi)) (fun i => rfl)]
    rw [hhigh]
    have ch := cnt_high l.es.length hi h2.1 h2.2.1
    generalize ((List.range l.es.length).filter fun (i : Nat) => decide ((i : Int) ≤ hi)) = L2 at ch
    have q1 : (l.es.length : Int) - ((dI L1).length : Int) = lo := by
      unfold dI; rw [List.length_map]; omega
    have q2 : ((dI L2).length : Int) - 1 = hi := by
      unfold dI; rw [List.length_map]; omega
    have hb0 := hbo _ _ (er_line l) (er_fr f)
    have hb1 := hbo x1 y1 c4 c2
    have hb2 := hbo x2 y2 (c6.trans (er_line l)) (c8.trans (er_fr f))
    have hp0 := hpo _ _ (er_line l) (er_fr f)
    have hp1 := hpo x1 y1 c4 c2
    have hlF := FrS_len l f p
    have hdd := depth_dI (FrS l f p)
    have hFl : (dI (FrS l f p)).length < sizeLine := by unfold dI; rw [List.length_map]; omega
    generalize FrS l f p = F at *
    generalize hpd : D.tup [.int lo, .int hi] = pd at *
    have hdep : pd.depth ≤ 1 := by rw [← hpd]; simp [D.depth, D.depths]
    have hsame := same_refl hK.core j (.lst [pd, pd, pd]) (by simp only [D.depth, D.depths]; omega)
    have hsame2 := same_refl hK.core j (.lst [.lst (dI F), .lst (dI F)]) (by simp only [D.depth, D.depths] at hdd ⊢; omega)
    have hsame3 := same_refl hK.core j (.lst (dI F)) (by omega)
    have hmul : opD .mul (.lst [pd]) (.int 3) = some (.lst [pd, pd, pd]) := by
      rw [op_mulL, if_pos ⟨by show 1 * 3 ≤ sizeLine; omega, by decide, by decide⟩]; rfl
    have hap : ∀ (L : List D), L.length ≤ 3 → (if L.length < sizeLine then some (D.non, L ++ [pd]) else none) = some (D.non, L ++ [pd]) := fun L h => if_pos (by omega)
    simp_arith only [n7.1, n8.1, n9.1, n10.1, q1, q2, hpd, hfr, hb0, hb1, hb2, if_pos l1, if_pos l2, hK.sh4, hK.sh5, c5, c7, mu_append, hap _ (show ([pd, pd] : List D).length ≤ 3 by simp), List.cons_append, hmul, hsame, hp0, hp1, hsame2, hsame3]
    rw [if_pos (by omega), if_pos (by omega)]
    exact ⟨_, _, _, _, _, _, ⟨rfl, rfl⟩, ⟨rfl, rfl⟩, ⟨rfl, rfl⟩, ⟨rfl, rfl⟩, ⟨rfl, rfl⟩, ⟨rfl, rfl⟩, rfl⟩
  · rintro ρ ⟨s3, s6, s7, s8, s9, s10, n3, n6, n7, n8, n9, n10, rfl⟩
    simp_arith only [hrepr]
    exact q
end
section
variable {T : Prg} {k n : Nat} {B : List D} {Q : EV × List EV → Prop}
theorem W_right17 (hK : K17 T) (hk : 16 ≤ k) (hB : Bx 0 B) (q : ∀ B', Q (.d (.bl true), [.own true B'])) : W (ev T k 53 [.own true B]) Q := by
  refine W_call hK.right (by omega) rfl fun j hj => ?_
  show wS _ _ ir_right_6 [some (.own true _), none, none, none, none] _
  have hsz := sizeLine_ge
  unfold ir_right_6
  rw [wS_seq]
  simp_arith [wS_forS]
  rw [if_pos (by constructor <;> omega)]
  refine wF_inv (fun i ρ => ∃ B s1 s2 s3 s4, Bx (300 * i) B ∧ NB s1 ∧ NB s2 ∧ NB s3 ∧ NB s4 ∧ ρ = [some (.own true B), s1, s2, s3, s4]) ?_ ?_ ?_
  · exact ⟨B, none, none, none, none, by simpa using hB, ⟨rfl, rfl⟩, ⟨rfl, rfl⟩, ⟨rfl, rfl⟩, ⟨rfl, rfl⟩, rfl⟩
  · rintro i x ρ hx ⟨B, s1, s2, s3, s4, hB, n1, n2, n3, n4, rfl⟩
    obtain ⟨hi4, rfl⟩ := range_get hx
    have hi4 : i < 3 := hi4
    simp_arith [n1.1]
    rw [wS_seq]
    simp_arith [wS_asg]
    refine W_lane hK.core.toDr hK.ls.toGn (by omega) hB (by omega) (by decide) (by decide) fun l fits B1 hl hB1 => ?_
    simp_arith [n2.1, n3.1]
    have hlen : l.es.length ≤ 14 := by have := hl.le; omega
    rw [wS_seq]
    simp_arith [wS_ifS]
    refine wE_compI (ρ1 := [some (.own true B1), some (.d (.int (i : Int))), some (.d (lineD l)), some (.d (.bl fits)), s4]) (xs := range1 6) (fun i2 acc ρ => ∃ B s4, Bx (300 * i + 100 + 20 * i2) B ∧ acc = (List.replicate i2 true).map D.bl ∧ ρ = [some (.own true B), some (.d (.int (i : Int))), some (.d (lineD l)), some (.d (.bl fits)), s4]) ?_ (by simp [n4.2]) ?_ ?_ ?_
    · simp_arith []
      rw [if_pos (by constructor <;> omega)]
      exact rfl
    · exact ⟨B1, s4, hB1.mono (by first | omega | (simp; omega)), rfl, rfl⟩
    · rintro i2 x acc ρ hx ⟨B2, s4', hB2, rfl, rfl⟩
      obtain ⟨hi5, rfl⟩ := range_get hx
      simp_arith [wipeE]
      refine W_shape' hK.core.toDr hK.ls.toGn (by omega) hB2 (by omega) (by decide) (by decide) fun f B3 f1 f2 f3 hB3 => ?_
      have hf := fits_of hl f1.1 f2.1 f3
      have m1 : SmlB 10000000 f.lo := fun n h => by have := f1.2 n h; omega
      have m2 : SmlB 10000000 f.hi := fun n h => by have := f2.2 n h; omega
      simp_arith []
      refine W_lane_right17 hK (by omega) hf (by omega) hl.sm m1 m2 ?_
      simp_arith []
      exact ⟨B3, _, hB3.mono (by omega), by rw [List.replicate_succ', List.map_append]; rfl, rfl⟩
    · rintro ys ρ2 ⟨B2, s4', hB2, rfl, rfl⟩
      have hB2 : Bx (300 * i + 100 + 20 * 6) B2 := hB2
      have hall : ((List.replicate (range1 6).length true).all id) = true := rfl
      simp_arith only [restore, bi_all, hall]
      exact ⟨B2, _, _, _, _, hB2.mono (by omega), ⟨rfl, rfl⟩, ⟨rfl, rfl⟩, ⟨rfl, rfl⟩, n4, rfl⟩
  · rintro ρ ⟨B, s1, s2, s3, s4, hB, n1, n2, n3, n4, rfl⟩
    simp_arith only []
    exact q B
theorem law17 (hK : K17 T) (hk : 22 ≤ k) (ns : List Int) (hl : ns.length ≤ 63) : ∃ outs, ev T k 54 [.scr ns] = some (.d (.bl true), outs) := by
  suffices h : W (ev T k 54 [.scr ns]) (fun q => q.1 = .d (.bl true)) by
    obtain ⟨⟨r, outs⟩, h1, h2⟩ := h
    dsimp only at h2; subst h2
    exact ⟨outs, h1⟩
  refine W_call hK.law (by omega) rfl fun j hj => ?_
  show wS _ _ ir_law_6 [some (.scr ns), none] _
  simp_arith only [ir_law_6]
  have hsz := sizeLine_ge
  refine wE_comp (xs := range1 (1 + (if ((ns.map D.int).length : Int) < 2 then ((ns.map D.int).length : Int) else 2)).toNat) (fun _ => some (.bl true)) ?_ rfl rfl (fun x hx => ?_) ?_
  · simp_arith only []
    rw [if_pos (by rw [List.length_map]; split <;> constructor <;> omega)]
    trivial
  · obtain ⟨i, hi⟩ := List.getElem?_of_mem hx
    obtain ⟨hi, rfl⟩ := range_get hi
    have hi3 : i < 3 := by rw [List.length_map] at hi; split at hi <;> omega
    simp_arith only [wipeE]
    refine W_box hK.core.toDr (by omega) (by omega) (by omega) fun B hB => ?_
    simp_arith only []
    refine W_right17 hK (by omega) hB fun B' => ?_
    simp_arith only []
  · have hall : ∀ xs : List D, ((xs.map fun _ => true).all id) = true := fun xs => by simp
    simp_arith only [filterMap_true, bi_all, hall]
end
end Ov

set_option maxHeartbeats 4000000
namespace Ov.k17
open PySem
theorem fr : Fr P.prg := ⟨rfl, rfl, rfl, rfl, rfl, rfl, rfl, rfl, rfl, rfl, rfl, rfl, rfl, rfl, rfl, rfl, rfl, rfl, rfl, rfl, rfl, rfl⟩
theorem all : K17 P.prg := ⟨⟨⟨rfl, rfl, rfl, rfl⟩, rfl, rfl, rfl⟩, fr, ⟨⟨rfl, rfl, rfl⟩, rfl, rfl⟩, ⟨rfl, rfl, rfl⟩, rfl, rfl, rfl, rfl, rfl, rfl⟩
theorem holds (ns : List Int) (hl : ns.length ≤ 63) : ∃ outs, ev P.prg 40 54 [.scr ns] = some (.d (.bl true), outs) := law17 all (by decide) ns hl
end Ov.k17

open PySem PySem.W PySem.Calls PyProof.Rows
theorem PySem.Challenge.cw_overrows_k17_bounds_and_places_holds : PySem.Challenge.rw_overrows_k17_bounds_and_places.Holds := by
  w_on; o_law
  refine HandSHeadRun.head_any (r := OpenLaw.row PySem.Challenge.rw_overrows_k17_bounds_and_places) (q := view (OpenLaw.row PySem.Challenge.rw_overrows_k17_bounds_and_places).prog [42]) (H := Ov.k17.hk) (ob := Ov.k17.ob) (M := 4000) (loose := Ov.k17.loose) (d := HandSHeadRun.topDef (OpenLaw.row PySem.Challenge.rw_overrows_k17_bounds_and_places).prog 42) (kwd := []) Ov.k17.ob_eq
    (by kernel_rfl) (fun s => by kernel_rfl) Ov.k17.run (by kernel_rfl) (by kernel_rfl) (by kernel_rfl) (by rfl) (by first | assumption | decide +kernel) (by decide +kernel) ⟨rfl, rfl, rfl, rfl, rfl, by decide +kernel⟩ ?hw ?hc
  case hw => w_witness2
  case hc =>
    refine Ov.walk_E (l := PySem.Challenge.rw_overrows_k17_bounds_and_places) (n := 63) (k := 40) (x := "_law_script") rfl (by decide) (by kernel_rfl) ⟨rfl, by decide, by decide⟩ ?F
    intro w mg fa h Y G hmg0
    obtain ⟨K, KX, c, gd, dg⟩ := Y
    have hmg : mg ("law" : PySem.Str) = some (.ref fa) := by
      have e : (HandSHeadRun.topDef (OpenLaw.row PySem.Challenge.rw_overrows_k17_bounds_and_places).prog 42).name = ("law" : PySem.Str) := by kernel_rfl
      rw [← e]
      exact hmg0
    obtain ⟨fds, tp⟩ := Ov.top_of (P := Ov.k17.P) KX G c gd dg Ov.k17.ok Ov.k17.binds Ov.k17.shs
    have at_ := tp.ats 54 Ov.k17.d54 rfl
    have e := hmg.symm.trans at_.glob
    cases e
    have b := L2.FunD.bindsA (ps := ["_law_script"]) at_.fun_ fun _ _ _ _ _ _ us hl => match us, hl with | [_], _ => rfl
    exact ⟨K, fds 54, Ov.SpF K 1 (Ov.ev Ov.k17.P.prg 40 54), KX, fun s v => b s [v] rfl, fun H a ns hl hS => by
      obtain ⟨outs, ho⟩ := Ov.k17.holds ns hl
      exact Ov.law_sp hS (Nat.le_trans hl (by decide)) ho, fun base => Ov.fn_sound tp 40 54 Ov.k17.d54 rfl⟩

