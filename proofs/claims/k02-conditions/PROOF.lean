import PyProof.Rows.All
import Wide.All
import OpenK.AllK
import Wide.FinOn
import PySem.Str
import PySem.Sem
import PyProof.ReprReads
import PyProof.StrBlockL
import PyProof.MinMaxWalk
import HandS.ForMost
import HandS.TupMul
import HandS.TupAny
import HandS.Style
import HandS.Dict
import KE.KDictPairs
import HandS.NoneIn
import HandS.Defaults
import HandS.Walk
import HandS.Zip
import HandS.IsInst
import HandS.Evl
import HandS.Wide
import HandS.Deep
import HandS.Flow
import KE.DataEq
import HandS.Text
import KE.GoesEnum
import HandS.Sort
import HandS.More
import PyProof.Rows.SetFrom
import HandS.Strs
import HandS.HeadEnd
import HandS.Head0
import HandS.Head1
import HandS.Head2
import HandS.HeadHook1
import HandS.HeadHook2
import HandS.HeadHook3
import PyProof.FitsInt
import PyProof.StrLawsRepr
import PySem.Challenge.RW_overrows_k02_conditions_or_not
set_option Elab.async false
set_option linter.all false
set_option maxRecDepth 100000
namespace Ov
open PySem

/-- plain data -/
inductive D where
  | non | bl (b : Bool) | int (i : Int) | str (s : Str) | tup (xs : List D) | lst (xs : List D)
  deriving Inhabited

/-- what a slot holds: data, a list that nobody else holds (true: the caller's, handed in), the script -/
inductive EV where
  | d (x : D) | own (b : Bool) (xs : List D) | scr (ns : List Int)
  /-- a dict that is never changed, nor handed on -/
  | dic (kvs : List (Sum Int Str × D))
  deriving Inhabited
abbrev Slots := List (Option EV)
/-- what an expression gives: data, or the list of a slot -/
inductive Vl where
  | d (x : D) | slot (i : Nat)
  deriving Inhabited

inductive Ty where | int | bool | str | list | tuple deriving DecidableEq
def Ty.nm : Ty → String
  | .int => "int" | .bool => "bool" | .str => "str" | .list => "list" | .tuple => "tuple"
inductive BOp where | add | sub | mul | fdiv | mod | pow deriving DecidableEq
inductive COp where | eq | ne | lt | le | gt | ge | isin | notin deriving DecidableEq
inductive Bi where
  | len | abs | int | min2 | max2 | minL | maxL | sum | all | any | tuple | list | repr | str
  deriving DecidableEq
inductive Mt where | index | join deriving DecidableEq
inductive Mu where | append | extend | pop | popAt | insert deriving DecidableEq
inductive Pat where | nm (i : Nat) | nil | cons (a b : Pat) | tp (p : Pat) deriving DecidableEq, Inhabited

/-- what is walked: data, range(n), enumerate(x), zip(x, y) -/
inductive ItK where | seq | rng | enm | zip deriving DecidableEq, Inhabited
inductive IR where
  | nil | cons (a b : IR)
  | var (i : Nat) | glob (g : Nat) | int (n : Int) | str (s : Str) | bl (b : Bool) | non
  | op (o : BOp) (a b : IR) | neg (a : IR) | cmp (o : COp) (a b : IR) | chain (o o' : COp) (a b c : IR) | isn (ng : Bool) (a : IR)
  | one (a : IR) | band (a b : IR) | bor (a b : IR) | bnot (a : IR) | ife (c a b : IR)
  | tup (es : IR) | lst (es : IR) | idx (a i : IR) | slc (a lo hi : IR) | stp (a s : IR) | isb (ng : Bool) (a : IR) (b : Bool)
  | call (f : Nat) (es : IR) | callK (s : Nat) (ks : IR) | callT (f g : Nat) (es : IR)
  | lenS (a : IR) | bi (b : Bi) (es : IR) | isi (e : IR) (ts : List Ty) | mt (m : Mt) (o es : IR)
  | dget (e k : IR) | lrng (a b : IR) | gdg (g : Nat) (k : IR) | ggt (g : Nat) (k d : IR)
  | dgi (i : Nat) (k : IR) | din (ng : Bool) (i : Nat) (k : IR) | dmem (ng : Bool) (k e : IR)
  | comp (vs : List Nat) (p : Pat) (k : ItK) (a b c e : IR)
  | frz (i : Nat) | mu (m : Mu) (i : Nat) (es : IR) | dgt (i : Nat) (k d : IR) | lset (a : IR)
  -- statements
  | skip | seq (a b : IR) | asg (p : Pat) (e : IR) | asgO (i : Nat) (e : IR) | par (fs : List (Nat × Bool)) (es : IR)
  | setI (i : Nat) (k e : IR) | swp (i : Nat) (a b e : IR) | aug (o : BOp) (i : Nat) (e : IR)
  /-- x = [a, ..r]; if not f(x, [names js]): ..; x[0].append(text): the list a is new -/
  | prb (i : Nat) (a r : IR) (f : Nat) (js : List Nat)
  /-- x = {texts: values} -/
  | dicS (i : Nat) (ks : List Str) (es : IR)
  | expr (e : IR) | ret (e : IR) | retO (e : IR) | retV (i : Nat) | retN | ifS (c t u : IR) | forS (p : Pat) (k : ItK) (a b body : IR) | whS (c b : IR) | brk | cnt
  deriving Inhabited

/-! ### operations on data -/
def D.ofSeq : D → Option (List D)
  | .tup xs => some xs
  | .lst xs => some xs
  | _ => none
def D.ofLst : D → Option (List D)
  | .lst xs => some xs
  | _ => none
/-- what a for walks -/
def D.items : D → Option (List D)
  | .tup xs => some xs
  | .lst xs => some xs
  | .str s => if s.length ≤ sizeLine then some (s.cps.toList.map fun c => .str ⟨#[c]⟩) else none
  | _ => none

mutual
def D.eqv : D → D → Bool
  | .non, .non => true
  | .bl a, .bl b => a == b
  | .bl a, .int j => (if a then (1 : Int) else 0) == j
  | .int i, .bl b => i == (if b then (1 : Int) else 0)
  | .int i, .int j => i == j
  | .str a, .str b => a == b
  | .tup xs, .tup ys => D.eqvs xs ys
  | .lst xs, .lst ys => D.eqvs xs ys
  | _, _ => false
def D.eqvs : List D → List D → Bool
  | [], [] => true
  | x :: xs, y :: ys => D.eqv x y && D.eqvs xs ys
  | _, _ => false
end
mutual
def D.depth : D → Nat
  | .tup xs => D.depths xs + 1
  | .lst xs => D.depths xs + 1
  | _ => 0
def D.depths : List D → Nat
  | [] => 0
  | x :: xs => max (D.depth x) (D.depths xs)
end
def small (i : Int) : Bool := decide (-(2 ^ 64) < i ∧ i < 2 ^ 64)
def eqD (a b : D) : Option Bool := if min a.depth b.depth ≤ 64 then some (D.eqv a b) else none
/-- x in xs: the depths asked once -/
def inD (x : D) (xs : List D) : Option Bool := if min (D.depths xs) x.depth ≤ 64 then some (xs.any fun y => D.eqv y x) else none
def ixN' (n : Nat) (i : Int) : Option Nat := if 0 ≤ i then (if i < n then some i.toNat else none) else if -(n : Int) ≤ i then some (i + n).toNat else none
def atD (xs : List D) (i : Int) : Option D := (ixN' xs.length i).bind fun j => xs[j]?
def sIx' (n : Nat) (d : Nat) : Option Int → Nat
  | none => d
  | some i => if i < 0 then (i + (n : Int)).toNat else min i.toNat n
def cutD (xs : List D) (lo hi : Option Int) : List D := (xs.drop (sIx' xs.length 0 lo)).take (sIx' xs.length xs.length hi - sIx' xs.length 0 lo)

/-- a part of a text -/
def cutT (s : Str) (lo hi : Option Int) : Str := ⟨((s.cps.toList.drop (sIx' s.length 0 lo)).take (sIx' s.length s.length hi - sIx' s.length 0 lo)).toArray⟩
def stpD : D → Int → Option D
  | .lst xs, k => if k = 1 then some (.lst xs) else if k = -1 then some (.lst xs.reverse) else none
  | .tup xs, k => if k = 1 then some (.tup xs) else if k = -1 then some (.tup xs.reverse) else none
  | _, _ => none
/-- x is True, x is False -/
def isbD : D → Bool → Option Bool
  | .bl c, b => some (decide (c = b))
  | .non, _ => some false
  | _, _ => none
def repS (x : Str) (n : Nat) : Str := ⟨(List.replicate n x.cps).foldl (· ++ ·) #[]⟩
def opD : BOp → D → D → Option D
  | .add, .int i, .int j => some (.int (i + j))
  | .add, .str a, .str b => if a.length + b.length ≤ sizeLine then some (.str (a ++ b)) else none
  | .add, .lst a, .lst b => if a.length + b.length ≤ sizeLine then some (.lst (a ++ b)) else none
  | .add, .tup a, .tup b => if a.length + b.length ≤ sizeLine then some (.tup (a ++ b)) else none
  | .sub, .int i, .int j => some (.int (i - j))
  | .mul, .int i, .int j => if small i || small j then some (.int (i * j)) else none
  | .mul, .str a, .int j => if 2 ≤ j ∧ j ≤ 1000 ∧ 1 ≤ a.length ∧ a.length ≤ 1000 then some (.str (repS a j.toNat)) else none
  | .mul, .lst a, .int j => if a.length * j.toNat ≤ sizeLine ∧ -(2 ^ 63) ≤ j ∧ j < 2 ^ 63 then some (.lst (List.replicate j.toNat a).flatten) else none
  | .mul, .tup a, .int j => if a.isEmpty = false ∧ 0 ≤ j ∧ j ≤ 1000 ∧ a.length ≤ 1000 then some (.tup (List.replicate j.toNat a).flatten) else none
  | .fdiv, .int i, .int j => if 0 < j ∧ j.natAbs.log2 < 9000 then some (.int (i / j)) else none
  | .mod, .int i, .int j => if 0 < j then some (.int (i % j)) else none
  | .pow, .int i, .int j => if 0 ≤ j ∧ j ≤ 1000000 ∧ i.natAbs < 2 ^ 64 then some (.int (i ^ j.toNat)) else none
  | _, _, _ => none
def cmpD : COp → D → D → Option Bool
  | .eq, a, b => eqD a b
  | .ne, a, b => (eqD a b).map (!·)
  | .lt, .int i, .int j => some (decide (i < j))
  | .le, .int i, .int j => some (decide (i ≤ j))
  | .gt, .int i, .int j => some (decide (j < i))
  | .ge, .int i, .int j => some (decide (j ≤ i))
  | .lt, .str a, .str b => some (decide (a.cps.toList < b.cps.toList))
  | .isin, .str a, .str z => match a.cps.toList with
    | [c] => some (decide (c ∈ z.cps.toList))
    | _ => none
  | .isin, x, .lst ys => inD x ys
  | .isin, x, .tup ys => inD x ys
  | .notin, x, .lst ys => (inD x ys).map (!·)
  | .notin, x, .tup ys => (inD x ys).map (!·)
  | _, _, _ => none
def isTy : Ty → D → Bool
  | .int, .int _ => true
  | .int, .bl _ => true
  | .bool, .bl _ => true
  | .str, .str _ => true
  | .list, .lst _ => true
  | .tuple, .tup _ => true
  | _, _ => false
def isTys (ts : List Ty) (x : D) : Bool := ts.any fun t => isTy t x
def boolsD : List D → Option (List Bool)
  | [] => some []
  | .bl b :: r => (boolsD r).map (b :: ·)
  | _ => none
def intsD : List D → Option (List Int)
  | [] => some []
  | .int i :: r => (intsD r).map (i :: ·)
  | _ => none
def un1 (f : D → Option D) : List D → Option D
  | [x] => f x
  | _ => none
def un2 (f : D → D → Option D) : List D → Option D
  | [x, y] => f x y
  | _ => none
def lenD : D → Option D
  | .lst xs => some (.int xs.length)
  | .tup xs => some (.int xs.length)
  | .str s => if s.length ≤ sizeLine then some (.int s.length) else none
  | _ => none
def absD : D → Option D
  | .int i => some (.int (if i < 0 then -i else i))
  | _ => none
def intD : D → Option D
  | .int i => some (.int i)
  | .bl b => some (.int (if b then 1 else 0))
  | _ => none
def min2D : D → D → Option D
  | .int i, .int j => some (.int (if j < i then j else i))
  | _, _ => none
def max2D : D → D → Option D
  | .int i, .int j => some (.int (if j > i then j else i))
  | _, _ => none
def allD : D → Option D
  | .lst xs => (boolsD xs).map fun bs => .bl (bs.all id)
  | _ => none
def anyD : D → Option D
  | .lst xs => (boolsD xs).map fun bs => .bl (bs.any id)
  | _ => none
def sumD : D → Option D
  | .lst xs => (intsD xs).map fun ns => .int ns.sum
  | _ => none
def tupleD : D → Option D
  | .lst xs => some (.tup xs)
  | .tup xs => some (.tup xs)
  | _ => none
def listD : D → Option D
  | .lst xs => some (.lst xs)
  | .tup xs => some (.lst xs)
  | _ => none
def strsD : List D → Option (List Str)
  | [] => some []
  | .str s :: r => (strsD r).map (s :: ·)
  | _ => none
def ltS (ss : List Str) (i j : Nat) : Bool := decide ((ss.getD i default).cps.toList < (ss.getD j default).cps.toList)
def gtS (ss : List Str) (i j : Nat) : Bool := decide ((ss.getD j default).cps.toList < (ss.getD i default).cps.toList)
def bestD (pick : List Int → Option Int) (bt : List Str → Nat → Nat → Bool) (xs : List D) : Option D := match intsD xs with
  | some ns => (pick ns).map .int
  | none => match strsD xs with
    | some ss => (ss[argBest (bt ss) (ss.length - 1)]?).map .str
    | none => none
def minLD : D → Option D
  | .lst xs => bestD (·.min?) ltS xs
  | _ => none
def maxLD : D → Option D
  | .lst xs => bestD (·.max?) gtS xs
  | _ => none
mutual
def D.py : D → PyData
  | .non => .none
  | .bl b => .bool b
  | .int i => .int i
  | .str s => .str s
  | .tup xs => .tuple (D.pys xs)
  | .lst xs => .list (D.pys xs)
def D.pys : List D → List PyData
  | [] => []
  | x :: xs => D.py x :: D.pys xs
end
/-- repr -/
def reprD (x : D) : Option D := if x.depth ≤ 60 ∧ x.py.showable = true ∧ x.py.shown.length ≤ sizeLine then some (.str x.py.shown) else none
/-- str of a number -/
def strD : D → Option D
  | .int i => if i.natAbs.log2 < 1920 then some (.str (Str.ofString (toString i))) else none
  | _ => none
def joinD (a : Str) (xs : List D) : Option D := do
  let ys ← strsD xs
  if (ys.map (·.length)).sum + ys.length * a.length ≤ 16777216 then pure (.str (Txt.join a ys)) else none
def biD : Bi → List D → Option D
  | .len => un1 lenD
  | .abs => un1 absD
  | .int => un1 intD
  | .min2 => un2 min2D
  | .max2 => un2 max2D
  | .all => un1 allD
  | .any => un1 anyD
  | .sum => un1 sumD
  | .tuple => un1 tupleD
  | .list => un1 listD
  | .minL => un1 minLD
  | .maxL => un1 maxLD
  | .repr => un1 reprD
  | .str => un1 strD
def range1 (n : Nat) : List D := (List.range n).map fun (i : Nat) => .int (i : Int)
def enumD (xs : List D) : List D := xs.zipIdx.map fun p => .tup [.int (p.2 : Int), p.1]
def zipD (xs ys : List D) : List D := (xs.zip ys).map fun p => .tup [p.1, p.2]
/-- a number or a text as a key -/
def keyD : D → Option (Sum Int Str)
  | .int i => some (.inl i)
  | .str s => some (.inr s)
  | _ => none
/-- pairs with such keys: the last one counts -/
def pairI : D → Option (Sum Int Str × D)
  | .tup [k, v] => do let j ← keyD k; pure (j, v)
  | _ => none
def pairsI : List D → Option (List (Sum Int Str × D))
  | [] => some []
  | x :: r => do let p ← pairI x; let q ← pairsI r; pure (p :: q)
def lastKey (k : Sum Int Str) : List (Sum Int Str × D) → Option D
  | [] => none
  | (j, v) :: r => match lastKey k r with
    | some u => some u
    | none => if j = k then some v else none

/-- each number once -/
def nubI (ns : List Int) : List Int := ns.foldl (fun acc x => if acc.any (· == x) then acc else acc ++ [x]) []
/-- each text once -/
def nubS (ss : List Str) : List Str := ss.foldl (fun acc x => if acc.any (· == x) then acc else acc ++ [x]) []
/-- len(set(..)) of numbers or of texts -/
def lenSetD (xs : List D) : Option Int := match intsD xs with
  | some ns => if ns.length ≤ 1000 then some ((nubI ns).length : Nat) else none
  | none => match strsD xs with
    | some ss => if ss.length ≤ 1000 then some ((nubS ss).length : Nat) else none
    | none => none
def kvsD (ks : List Str) (xs : List D) : List (Sum Int Str × D) := (ks.zip xs).map fun q => (.inr q.1, q.2)
/-- list(range(i, j)) -/
def rangeD (i j : Int) : List D := (List.range (j - i).toNat).map fun (k : Nat) => .int (i + (k : Int))
def lrngD (i j : Int) : Option D := if -(2 ^ 40) ≤ i ∧ i ≤ 2 ^ 40 ∧ -(2 ^ 40) ≤ j ∧ j ≤ 2 ^ 40 ∧ j - i ≤ 2 ^ 20 then some (.lst (rangeD i j)) else none
def dicD : List (Str × D) → Str → Option D
  | [], _ => none
  | (k, v) :: r, z => if k = z then some v else dicD r z
mutual
/-- texts of codes alone -/
def D.txt : D → Bool
  | .str s => s.cps.all (· < 0x110000)
  | .tup xs => D.txts xs
  | .lst xs => D.txts xs
  | _ => true
def D.txts : List D → Bool
  | [] => true
  | x :: xs => D.txt x && D.txts xs
end
/-- methods by data -/
def idxD (x : D) : List D → Option Nat
  | [] => none
  | y :: r => if D.eqv y x then some 0 else (idxD x r).map (· + 1)
def mtD : Mt → D → List D → Option D
  | .index, .lst ys, [x] => if D.depths ys + 1 ≤ 64 ∧ x.depth ≤ 64 ∧ D.txts ys = true ∧ x.txt = true then (idxD x ys).map fun j => .int (j : Int) else none
  | .join, .str a, [.lst xs] => joinD a xs
  | .join, .str a, [.tup xs] => joinD a xs
  | _, _, _ => none
/-! ### the evaluator -/
def Vl.look (ρ : Slots) : Vl → Option D
  | .d x => some x
  | .slot i => match ρ[i]? with
    | some (some (.own _ xs)) => some (.lst xs)
    | _ => none
/-- .. the script besides -/
def Vl.lookS (ρ : Slots) : Vl → Option D
  | .d x => some x
  | .slot i => match ρ[i]? with
    | some (some (.own _ xs)) => some (.lst xs)
    | some (some (.scr ns)) => some (.lst (ns.map D.int))
    | _ => none
def looks (ρ : Slots) : List Vl → Option (List D)
  | [] => some []
  | v :: r => do let x ← v.look ρ; let xs ← looks ρ r; pure (x :: xs)
/-- data alone -/
def Vl.pure? : Vl → Option D
  | .d x => some x
  | .slot _ => none
def pures : List Vl → Option (List D)
  | [] => some []
  | v :: r => do let x ← v.pure?; let xs ← pures r; pure (x :: xs)
/-- an argument: data, or a slot's list for the callee to change -/
def Vl.arg (ρ : Slots) : Vl → Option EV
  | .d x => some (.d x)
  | .slot i => match ρ[i]? with
    | some (some (.own _ xs)) => some (.own true xs)
    | some (some (.scr ns)) => some (.scr ns)
    | _ => none
def argsOf (ρ : Slots) : List Vl → Option (List EV)
  | [] => some []
  | v :: r => do let x ← v.arg ρ; let xs ← argsOf ρ r; pure (x :: xs)
def slotsOf : List Vl → List Nat
  | [] => []
  | .slot i :: r => i :: slotsOf r
  | .d _ :: r => slotsOf r
def isOwn : Option (Option EV) → Bool
  | some (some (.own _ _)) => true
  | _ => false
def isBox : Option (Option EV) → Bool
  | some (some (.own true _)) => true
  | _ => false
/-- the slot's own list holds xs now -/
def reown (ρ : Slots) (i : Nat) (xs : List D) : Slots := match ρ[i]? with
  | some (some (.own b _)) => ρ.set i (some (.own b xs))
  | _ => ρ
/-- what the callee left in the slots' lists -/
def putBack : Slots → List Vl → List EV → Slots
  | ρ, .slot i :: vs, .own _ xs :: es => putBack (reown ρ i xs) vs es
  | ρ, _ :: vs, _ :: es => putBack ρ vs es
  | ρ, _, _ => ρ
mutual
/-- a pattern against data -/
def Pat.bind : Pat → D → Slots → Option Slots
  | .nm i, x, ρ => some (ρ.set i (some (.d x)))
  | .tp p, x, ρ => do let xs ← x.ofSeq; Pat.binds p xs ρ
  | _, _, _ => none
def Pat.binds : Pat → List D → Slots → Option Slots
  | .nil, [], ρ => some ρ
  | .cons a b, x :: xs, ρ => do let ρ1 ← Pat.bind a x ρ; Pat.binds b xs ρ1
  | _, _, _ => none
end
def wipeE (ρ : Slots) : List Nat → Slots
  | [] => ρ
  | v :: vs => (wipeE ρ vs).set v none
/-- behind a comprehension: its own slots as they were -/
def restore (old ρ : Slots) : List Nat → Slots
  | [] => ρ
  | v :: vs => (restore old ρ vs).set v (old[v]?.getD none)

/-- a list changed by a method: its value, the list behind it -/
def muD : Mu → List D → List D → Option (D × List D)
  | .append, ys, [x] => if ys.length < sizeLine then some (.non, ys ++ [x]) else none
  | .extend, ys, [.lst zs] => if ys.length + zs.length ≤ sizeLine then some (.non, ys ++ zs) else none
  | .pop, ys, [] => do let y ← ys[ys.length - 1]?; pure (y, ys.dropLast)
  | .popAt, ys, [.int i] => do let j ← ixN' ys.length i; let y ← ys[j]?; pure (y, ys.eraseIdx j)
  | .insert, ys, [.int i, x] => if ys.length < sizeLine ∧ 0 ≤ i ∧ i ≤ ys.length then some (.non, ys.insertIdx i.toNat x) else none
  | _, _, _ => none
/-- the callee: arguments to its value (data, or a new list) and what its list arguments hold now -/
abbrev CF := Nat → List EV → Option (EV × List EV)
structure Cfg where
  cf : CF
  gd : Nat → Option D
  /-- keyword shapes: the callee, how many positional ones, the order of the values -/
  sh : Nat → Option (Nat × List Nat)
  /-- dicts of the top -/
  dd : Nat → Option (List (Str × D))
def asInt : D → Option Int
  | .int i => some i
  | _ => none
def asBool : D → Option Bool
  | .bl b => some b
  | _ => none
def partD (ρ : Slots) (v : Vl) : Option (Option Int) := do let x ← v.look ρ; let i ← asInt x; pure (some i)
def pickAll {α : Type} (xs : List α) : List Nat → Option (List α)
  | [] => some []
  | i :: r => do let x ← xs[i]?; let q ← pickAll xs r; pure (x :: q)
/-- turns of a comprehension -/
def compGo (body : D → Slots → Option (Option D × Slots)) : List D → Slots → Option (List D × Slots)
  | [], ρ => some ([], ρ)
  | x :: xs, ρ => do
    let (y, ρ1) ← body x ρ
    let (ys, ρ2) ← compGo body xs ρ1
    pure (match y with | some z => z :: ys | none => ys, ρ2)
/-- the items of what is walked -/
def itGo (k : ItK) (ra : Option (Vl × Slots)) (rb : Slots → Option (Vl × Slots)) : Option (List D × Slots) := match k with
  | .seq => do
    let (v, ρ1) ← ra
    let x ← v.pure?
    let xs ← x.items
    pure (xs, ρ1)
  | .rng => do
    let (va, ρ1) ← ra
    let x ← va.look ρ1
    let n ← asInt x
    if n ≤ sizeLine ∧ -(2 ^ 62) ≤ n then pure (range1 n.toNat, ρ1) else none
  | .enm => do
    let (va, ρ1) ← ra
    let x ← va.pure?
    let xs ← x.ofSeq
    pure (enumD xs, ρ1)
  | .zip => do
    let (va, ρ1) ← ra
    let (vb, ρ2) ← rb ρ1
    let x ← va.pure?
    let y ← vb.pure?
    match x, y with
    | .lst xs, .lst ys => pure (zipD xs ys, ρ2)
    | .tup xs, .tup ys => pure (zipD xs ys, ρ2)
    | _, _ => none
variable (G : Cfg)
def callD (f : Nat) (vs : List Vl) (ρ : Slots) : Option (EV × Slots) := do
  let as ← argsOf ρ vs
  if (slotsOf vs).Nodup then
    let (r, outs) ← G.cf f as
    pure (r, putBack ρ vs outs)
  else none
def EV.toD : EV → Option D
  | .d x => some x
  | .own _ xs => some (.lst xs)
  | .scr _ => none
  | .dic _ => none
mutual
def evE : IR → Slots → Option (Vl × Slots)
  | .var i, ρ => match ρ[i]? with
    | some (some (.d x)) => some (.d x, ρ)
    | some (some (.own _ _)) => some (.slot i, ρ)
    | some (some (.scr _)) => some (.slot i, ρ)
    | _ => none
  | .glob g, ρ => do let x ← G.gd g; pure (.d x, ρ)
  | .int n, ρ => some (.d (.int n), ρ)
  | .str s, ρ => some (.d (.str s), ρ)
  | .bl b, ρ => some (.d (.bl b), ρ)
  | .non, ρ => some (.d .non, ρ)
  | .op o a b, ρ => do
    let (va, ρ1) ← evE a ρ
    let (vb, ρ2) ← evE b ρ1
    let x ← va.look ρ2
    let y ← vb.look ρ2
    let z ← opD o x y
    pure (.d z, ρ2)
  | .neg a, ρ => do
    let (va, ρ1) ← evE a ρ
    let x ← va.look ρ1
    let i ← asInt x
    pure (.d (.int (-i)), ρ1)
  | .cmp o a b, ρ => do
    let (va, ρ1) ← evE a ρ
    let (vb, ρ2) ← evE b ρ1
    let x ← va.look ρ2
    let y ← vb.look ρ2
    let z ← cmpD o x y
    pure (.d (.bl z), ρ2)
  | .chain o o' a b c, ρ => do
    let (va, ρ1) ← evE a ρ
    let (vb, ρ2) ← evE b ρ1
    let x ← va.look ρ2
    let y ← vb.look ρ2
    let z ← cmpD o x y
    if z then
      let (vc, ρ3) ← evE c ρ2
      let y' ← vb.look ρ3
      let w ← vc.look ρ3
      let z' ← cmpD o' y' w
      pure (.d (.bl z'), ρ3)
    else pure (.d (.bl false), ρ2)
  | .isn ng a, ρ => do
    let (va, ρ1) ← evE a ρ
    let x ← va.look ρ1
    pure (.d (.bl (match x with | .non => !ng | _ => ng)), ρ1)
  | .one a, ρ => evE a ρ
  | .band a b, ρ => do
    let (va, ρ1) ← evE a ρ
    let x ← va.pure?
    let p ← asBool x
    if p then evE b ρ1 else pure (.d (.bl false), ρ1)
  | .bor a b, ρ => do
    let (va, ρ1) ← evE a ρ
    let x ← va.pure?
    let p ← asBool x
    if p then pure (.d (.bl true), ρ1) else evE b ρ1
  | .bnot a, ρ => do
    let (va, ρ1) ← evE a ρ
    let x ← va.pure?
    let p ← asBool x
    pure (.d (.bl (!p)), ρ1)
  | .ife c a b, ρ => do
    let (vc, ρ1) ← evE c ρ
    let x ← vc.pure?
    let p ← asBool x
    if p then evE a ρ1 else evE b ρ1
  | .tup es, ρ => do
    let (vs, ρ1) ← evL es ρ
    let xs ← pures vs
    if xs.length ≤ sizeLine then pure (.d (.tup xs), ρ1) else none
  | .lst es, ρ => do
    let (vs, ρ1) ← evL es ρ
    let xs ← pures vs
    if xs.length ≤ sizeLine then pure (.d (.lst xs), ρ1) else none
  | .idx a i, ρ => do
    let (va, ρ1) ← evE a ρ
    let (vi, ρ2) ← evE i ρ1
    let x ← va.lookS ρ2
    let y ← vi.look ρ2
    let n ← asInt y
    match x with
    | .lst xs => do let z ← atD xs n; pure (.d z, ρ2)
    | .tup xs => do let z ← atD xs n; pure (.d z, ρ2)
    | .str s => if s.length ≤ sizeLine then (do
        let j ← ixN' s.length n
        let c ← s.cps[j]?
        pure (.d (.str ⟨#[c]⟩), ρ2)) else none
    | _ => none
  | .slc a lo hi, ρ => do
    let (va, ρ1) ← evE a ρ
    let (l, ρ2) ← (match lo with
      | .nil => some (none, ρ1)
      | e => do let (v, ρ') ← evE e ρ1; let p ← partD ρ' v; pure (p, ρ'))
    let (h, ρ3) ← (match hi with
      | .nil => some (none, ρ2)
      | e => do let (v, ρ') ← evE e ρ2; let p ← partD ρ' v; pure (p, ρ'))
    let x ← va.lookS ρ3
    match x with
    | .lst xs => pure (.d (.lst (cutD xs l h)), ρ3)
    | .tup xs => pure (.d (.tup (cutD xs l h)), ρ3)
    | .str s => if s.length ≤ sizeLine then pure (.d (.str (cutT s l h)), ρ3) else none
    | _ => none
  | .stp a s, ρ => do
    let (va, ρ1) ← evE a ρ
    let (vs, ρ2) ← evE s ρ1
    let y ← vs.look ρ2
    let k ← asInt y
    let x ← va.lookS ρ2
    let z ← stpD x k
    pure (.d z, ρ2)
  | .isb ng a b, ρ => do
    let (va, ρ1) ← evE a ρ
    let x ← va.look ρ1
    let r ← isbD x b
    pure (.d (.bl (if ng then !r else r)), ρ1)
  | .call f es, ρ => do
    let (vs, ρ1) ← evL es ρ
    let (r, ρ2) ← callD G f vs ρ1
    let z ← r.toD
    pure (.d z, ρ2)
  | .callK s ks, ρ => do
    let (f, o) ← G.sh s
    let (ws, ρ1) ← evL ks ρ
    let us ← pickAll ws o
    let (r, ρ2) ← callD G f us ρ1
    let z ← r.toD
    pure (.d z, ρ2)
  | .callT f g es, ρ => do
    let (vs, ρ1) ← evL es ρ
    match ← callD G g vs ρ1 with
    | (.own _ xs, ρ2) => do
      let (r, _) ← G.cf f [.own true xs]
      let z ← r.toD
      pure (.d z, ρ2)
    | _ => none
  | .lenS a, ρ => do
    let (va, ρ1) ← evE a ρ
    let x ← va.lookS ρ1
    let z ← lenD x
    pure (.d z, ρ1)
  | .bi b es, ρ => do
    let (vs, ρ1) ← evL es ρ
    let xs ← looks ρ1 vs
    let z ← biD b xs
    pure (.d z, ρ1)
  | .isi e ts, ρ => do
    let (v, ρ1) ← evE e ρ
    let x ← v.look ρ1
    pure (.d (.bl (isTys ts x)), ρ1)
  | .dget e k, ρ => do
    let (v, ρ1) ← evE e ρ
    let x ← v.look ρ1
    let xs ← x.ofSeq
    let ps ← pairsI xs
    let (w, ρ2) ← evE k ρ1
    let y ← w.look ρ2
    let n ← keyD y
    let z ← lastKey n ps
    pure (.d z, ρ2)
  | .lrng a b, ρ => do
    let (va, ρ1) ← evE a ρ
    let (vb, ρ2) ← evE b ρ1
    let x ← va.look ρ2
    let y ← vb.look ρ2
    let i ← asInt x
    let j ← asInt y
    let z ← lrngD i j
    pure (.d z, ρ2)
  | .gdg g k, ρ => do
    let (v, ρ1) ← evE k ρ
    let x ← v.look ρ1
    let kvs ← G.dd g
    match x with
    | .str z => do let d ← dicD kvs z; pure (.d d, ρ1)
    | _ => none
  | .ggt g k d, ρ => do
    let (v, ρ1) ← evE k ρ
    let x ← v.look ρ1
    let (vd, ρ2) ← evE d ρ1
    let y ← vd.pure?
    let kvs ← G.dd g
    match x with
    | .str z => pure (.d ((dicD kvs z).getD y), ρ2)
    | _ => none
  | .dgi i k, ρ => match ρ[i]? with
    | some (some (.dic kvs)) => do
      let (vk, ρ1) ← evE k ρ
      let x ← vk.look ρ1
      match x with
      | .str z => do let d ← lastKey (.inr z) kvs; pure (.d d, ρ1)
      | _ => none
    | _ => none
  | .din ng i k, ρ => do
    let (vk, ρ1) ← evE k ρ
    let x ← vk.look ρ1
    match ρ1[i]? with
    | some (some (.dic kvs)) => match x with
      | .str z => pure (.d (.bl (ng != (lastKey (.inr z) kvs).isSome)), ρ1)
      | _ => none
    | _ => none
  | .dmem ng k e, ρ => do
    let (vk, ρ1) ← evE k ρ
    let y ← vk.pure?
    let (v, ρ2) ← evE e ρ1
    let x ← v.look ρ2
    let xs ← x.ofSeq
    let ps ← pairsI xs
    let n ← keyD y
    pure (.d (.bl (ng != (lastKey n ps).isSome)), ρ2)
  | .mt m o es, ρ => do
    let (v, ρ1) ← evE o ρ
    let x ← v.pure?
    let (vs, ρ2) ← evL es ρ1
    let xs ← looks ρ2 vs
    let z ← mtD m x xs
    pure (.d z, ρ2)
  | .comp vs p k a b c e, ρ => do
    let (xs, ρ1) ← itGo k (evE a ρ) (evE b)
    if vs.any (fun v => isOwn ρ1[v]?) then none else
    let (ys, ρ2) ← compGo (fun x ρ => do
      let ρa ← Pat.bind p x (wipeE ρ vs)
      let (b, ρb) ← (match c with
        | .nil => some (true, ρa)
        | c => do let (vc, ρ') ← evE c ρa; let y ← vc.pure?; let q ← asBool y; pure (q, ρ'))
      if b then do
        let (vy, ρc) ← evE e ρb
        let y ← vy.pure?
        pure (some y, ρc)
      else pure (none, ρb)) xs ρ1
    pure (.d (.lst ys), restore ρ1 ρ2 vs)
  | .frz i, ρ => match ρ[i]? with
    | some (some (.own false xs)) => some (.d (.lst xs), ρ.set i (some (.d (.lst xs))))
    | _ => none
  | .dgt i k d, ρ => match ρ[i]? with
    | some (some (.dic kvs)) => do
      let (vk, ρ1) ← evE k ρ
      let x ← vk.look ρ1
      let (vd, ρ2) ← evE d ρ1
      let y ← vd.pure?
      match x with
      | .str z => pure (.d ((lastKey (.inr z) kvs).getD y), ρ2)
      | _ => none
    | _ => none
  | .lset a, ρ => do
    let (va, ρ1) ← evE a ρ
    let x ← va.look ρ1
    let xs ← x.ofLst
    let z ← lenSetD xs
    pure (.d (.int z), ρ1)
  | .mu m i es, ρ => do
    if !isOwn ρ[i]? then none else
    let (vs, ρ1) ← evL es ρ
    let xs ← pures vs
    match ρ1[i]? with
    | some (some (.own b ys)) => do
      let (r, zs) ← muD m ys xs
      pure (.d r, ρ1.set i (some (.own b zs)))
    | _ => none
  | _, _ => none
def evL : IR → Slots → Option (List Vl × Slots)
  | .nil, ρ => some ([], ρ)
  | .cons a b, ρ => do
    let (v, ρ1) ← evE a ρ
    let (vs, ρ2) ← evL b ρ1
    pure (v :: vs, ρ2)
  | _, _ => none
end
end Ov
namespace Ov
open PySem
/-! ### statements -/
inductive Out where
  | nx (ρ : Slots) | ret (v : EV) (ρ : Slots) | brk (ρ : Slots) | ct (ρ : Slots)
  deriving Inhabited
/-- a parameter that is somebody's list is never stored anew -/
def okSet (ρ : Slots) (i : Nat) : Bool := !isBox ρ[i]?
def Pat.slots : Pat → List Nat
  | .nm i => [i]
  | .nil => []
  | .cons a b => a.slots ++ b.slots
  | .tp p => p.slots
/-- expressions that make a new list -/
def fresh : IR → Bool
  | .lst _ => true
  | .comp .. => true
  | .bi .list _ => true
  | .op .add _ _ => true
  | .op .mul _ _ => true
  | .slc .. => true
  | .stp .. => true
  | .lrng .. => true
  | _ => false
variable (G : Cfg)
def evO : IR → Slots → Option (List D × Slots)
  | .call f es, ρ => do
    let (vs, ρ1) ← evL G es ρ
    match ← callD G f vs ρ1 with
    | (.own _ xs, ρ2) => pure (xs, ρ2)
    | _ => none
  | e, ρ => if fresh e then (do
      match ← evE G e ρ with
      | (.d (.lst xs), ρ1) => pure (xs, ρ1)
      | _ => none) else none
/-- values stored side by side; a flag: as the slot's own list -/
def evP : List (Nat × Bool) → IR → Slots → Option (List EV × Slots)
  | [], .nil, ρ => some ([], ρ)
  | (_, true) :: fs, .cons a b, ρ => do
    let (xs, ρ1) ← evO G a ρ
    let (vs, ρ2) ← evP fs b ρ1
    pure (.own false xs :: vs, ρ2)
  | (_, false) :: fs, .cons a b, ρ => do
    let (v, ρ1) ← evE G a ρ
    let x ← v.pure?
    let (vs, ρ2) ← evP fs b ρ1
    pure (.d x :: vs, ρ2)
  | _, _, _ => none
def setAll : Slots → List (Nat × Bool) → List EV → Slots
  | ρ, (i, _) :: fs, v :: vs => setAll (ρ.set i (some v)) fs vs
  | ρ, _, _ => ρ
def forGo (body : D → Slots → Option Out) : List D → Slots → Option Out
  | [], ρ => some (.nx ρ)
  | x :: xs, ρ => do
    match ← body x ρ with
    | .nx ρ1 => forGo body xs ρ1
    | .ct ρ1 => forGo body xs ρ1
    | .brk ρ1 => pure (.nx ρ1)
    | .ret v ρ1 => pure (.ret v ρ1)
def whGo (test : Slots → Option (Bool × Slots)) (body : Slots → Option Out) : Nat → Slots → Option Out
  | 0, _ => none
  | n + 1, ρ => do
    let (b, ρ1) ← test ρ
    if b then
      match ← body ρ1 with
      | .nx ρ2 => whGo test body n ρ2
      | .ct ρ2 => whGo test body n ρ2
      | .brk ρ2 => pure (.nx ρ2)
      | .ret v ρ2 => pure (.ret v ρ2)
    else pure (.nx ρ1)
def evT (c : IR) (ρ : Slots) : Option (Bool × Slots) := do
  let (v, ρ1) ← evE G c ρ
  let x ← v.pure?
  let b ← asBool x
  pure (b, ρ1)
/-- a tuple of two -/
def twoD : D → Option (D × D)
  | .tup [x, y] => some (x, y)
  | _ => none
/-- x[k] = v, x a list of this function's -/
def putI (k : Slots → Option (Vl × Slots)) (i : Nat) (x : D) (ρ1 : Slots) : Option Slots := do
  if !isOwn ρ1[i]? then none else
  let (w', ρ2) ← k ρ1
  let y ← w'.look ρ2
  let n ← asInt y
  match ρ2[i]? with
  | some (some (.own b xs)) => do
    let j ← ixN' xs.length n
    pure (ρ2.set i (some (.own b (xs.set j x))))
  | _ => none
/-- the data of some slots -/
def slotsD (ρ : Slots) : List Nat → Option (List D)
  | [] => some []
  | j :: js => match ρ[j]? with
    | some (some (.d x)) => (slotsD ρ js).map (x :: ·)
    | _ => none
def isTrueD : EV → Bool
  | .d (.bl true) => true
  | _ => false
def evS (w : Nat) : IR → Slots → Option Out
  | .skip, ρ => some (.nx ρ)
  | .seq a b, ρ => do
    match ← evS w a ρ with
    | .nx ρ1 => evS w b ρ1
    | o => pure o
  | .asg p e, ρ => do
    let (v, ρ1) ← evE G e ρ
    let x ← v.pure?
    if p.slots.all (okSet ρ1) then do
      let ρ2 ← Pat.bind p x ρ1
      pure (.nx ρ2)
    else none
  | .asgO i e, ρ => do
    let (xs, ρ1) ← evO G e ρ
    if okSet ρ1 i then pure (.nx (ρ1.set i (some (.own false xs)))) else none
  | .par fs es, ρ => do
    let (vs, ρ1) ← evP G fs es ρ
    if fs.all (fun p => okSet ρ1 p.1) then pure (.nx (setAll ρ1 fs vs)) else none
  | .setI i k e, ρ => do
    let (v, ρ1) ← evE G e ρ
    let x ← v.pure?
    if !isOwn ρ1[i]? then none else
    let (w', ρ2) ← evE G k ρ1
    let y ← w'.look ρ2
    let n ← asInt y
    match ρ2[i]? with
    | some (some (.own b xs)) => do
      let j ← ixN' xs.length n
      pure (.nx (ρ2.set i (some (.own b (xs.set j x)))))
    | _ => none
  | .swp i a b e, ρ => do
    let (v, ρ1) ← evE G e ρ
    let x ← v.pure?
    let (y, z) ← twoD x
    let ρ2 ← putI (evE G a) i y ρ1
    let ρ3 ← putI (evE G b) i z ρ2
    pure (.nx ρ3)
  | .aug o i e, ρ => match ρ[i]? with
    | some (some (.d (.int v))) => do
      let (w', ρ1) ← evE G e ρ
      let y ← w'.look ρ1
      let j ← asInt y
      match opD o (.int v) (.int j) with
      | some (.int z) => pure (.nx (ρ1.set i (some (.d (.int z)))))
      | _ => none
    | _ => none
  | .prb i a r f js, ρ => do
    let (xs, ρ1) ← evO G a ρ
    let (vs, ρ2) ← evL G r ρ1
    let ys ← pures vs
    if ys.length + 1 ≤ sizeLine ∧ xs.length < sizeLine ∧ js.length ≤ sizeLine ∧ okSet ρ2 i = true ∧ i < ρ2.length then do
      let zs ← slotsD (ρ2.set i (some (.d (.lst (.lst xs :: ys))))) js
      let (q, _) ← G.cf f [.d (.lst (.lst xs :: ys)), .d (.lst zs)]
      if isTrueD q then pure (.nx (ρ2.set i none)) else none
    else none
  | .dicS i ks es, ρ => do
    let (vs, ρ1) ← evL G es ρ
    let xs ← pures vs
    if xs.length = ks.length ∧ 0 < ks.length ∧ ks.length ≤ 15 ∧ okSet ρ1 i = true then pure (.nx (ρ1.set i (some (.dic (kvsD ks xs))))) else none
  | .expr e, ρ => do
    let (_, ρ1) ← evE G e ρ
    pure (.nx ρ1)
  | .ret e, ρ => do
    let (v, ρ1) ← evE G e ρ
    let x ← v.pure?
    pure (.ret (.d x) ρ1)
  | .retO e, ρ => do
    let (xs, ρ1) ← evO G e ρ
    pure (.ret (.own false xs) ρ1)
  | .retV i, ρ => match ρ[i]? with
    | some (some (.own false xs)) => some (.ret (.own false xs) ρ)
    | _ => none
  | .retN, ρ => some (.ret (.d .non) ρ)
  | .ifS c t u, ρ => do
    let (b, ρ1) ← evT G c ρ
    if b then evS w t ρ1 else evS w u ρ1
  | .forS p k a b body, ρ => do
    let (xs, ρ1) ← itGo k (evE G a ρ) (evE G b)
    forGo (fun x ρ => if p.slots.all (okSet ρ) then (do
      let ρa ← Pat.bind p x ρ
      evS w body ρa) else none) xs ρ1
  | .whS c b, ρ => whGo (evT G c) (evS w b) w ρ
  | .brk, ρ => some (.brk ρ)
  | .cnt, ρ => some (.ct ρ)
  | _, _ => none
structure Fn where
  np : Nat
  n : Nat
  body : IR
def runFn (w : Nat) (fn : Fn) (as : List EV) : Option (EV × List EV) :=
  if as.length = fn.np then do
    match ← evS G w fn.body (as.map some ++ List.replicate (fn.n - fn.np) none) with
    | .ret v ρ => pure (v, (ρ.take fn.np).map fun o => o.getD (.d .non))
    | .nx ρ => pure (.d .non, (ρ.take fn.np).map fun o => o.getD (.d .non))
    | _ => none
  else none
structure Prg where
  fns : Nat → Option Fn
  gd : Nat → Option D
  sh : Nat → Option (Nat × List Nat)
  dd : Nat → Option (List (Str × D))
  w : Nat
def ev (T : Prg) : Nat → CF
  | 0 => fun _ _ => none
  | k + 1 => fun f as => do
    let fn ← T.fns f
    runFn { cf := ev T k, gd := T.gd, sh := T.sh, dd := T.dd } T.w fn as
end Ov

set_option maxHeartbeats 2000000
namespace Ov
open PySem PySem.Spec PyProof.Rows L2
/-! ### tuples that have no dict of their own -/
/-- a new tuple, told with its object -/
def NT (H : Hp) (xs : List V) (Q : VK) : Prop := ∀ p ob, H p = none → ob.dict = none → Q (.ref p) (upd H p (.frz ob (.tup xs)))
/-- the object at a has no dict -/
def Cl (K : PySem.W.Frag) (H : Hp) (a : Addr) : Prop := (∃ o u, H a = some (.frz o u) ∧ o.dict = none) ∨ ∃ o, K.lookup a = some o ∧ o.dict = none
section
variable {X : Cx} {pins : List (Addr × Obj)} {σ : L2.St} {H : Hp} {s : Shared}
theorem cl_dict {a : Addr} (I : Inv X pins σ H s) (h : Cl X.K H a) : ∃ o, s.heap.get? a = some o ∧ o.dict = none := by
  rcases h with ⟨o, u, e, hd⟩ | ⟨o, e, hd⟩
  · exact ⟨o, (I.hok a _ e).1, hd⟩
  · exact ⟨o, I.kIn a o e, hd⟩
/-- the end of a run that made a tuple -/
theorem made_tup {hp : Heap} {its : List Value} {xs : List V} {Q : VK} {t : Tok} (J : Inv X pins σ H { s with heap := hp }) (rv : Vals xs its) (hz : xs.length ≤ sizeLine) (q : NT H xs Q) :
    ∃ (v : V) (H' : Hp), Inv X pins σ H' { s with heap := hp.push { cls := .type "tuple", data := .seq its.toArray }, toks := t } ∧ RelV v (Value.ref hp.objs.size) ∧ Q v H' := by
  have fresh : H hp.objs.size = none := J.hok.fresh (Nat.le_refl _)
  have ok : ObjOk X.prog X.w (upd H hp.objs.size (.frz { cls := .type "tuple", data := .seq its.toArray } (.tup xs))) (hp.push { cls := .type "tuple", data := .seq its.toArray }) hp.objs.size (.frz { cls := .type "tuple", data := .seq its.toArray } (.tup xs)) :=
    ⟨Heap.get?_push_size _ rfl, hz, its, rv, IsTup.new _ _⟩
  exact ⟨V.ref hp.objs.size, _, J.laid (t' := t) (fun c oc hc => Heap.get?_push_of_some _ hc) (Nat.le_refl _) ok, rfl, q _ _ fresh rfl⟩
end
end Ov

set_option maxHeartbeats 2000000
namespace Ov
open PySem PySem.Spec PyProof.Rows L2 HT
/-! ### the least, the greatest of texts -/
section
variable {prog : Program} {w : World} {A : Around} {E : Value → Shared → Prop} {s : Shared} {l : Addr} {its : List Value} {ss : List Str}
theorem cmp_ltS {P : Nat → Value → Prop} (hv : ∀ i v, P i v → ∃ t, v = Value.str (ss.getD i default) t) : CmpOf prog w A .Lt P (ltS ss) := fun i j vi vj s Q E hi hj h => by
  obtain ⟨t, rfl⟩ := hv i vi hi
  obtain ⟨u, rfl⟩ := hv j vj hj
  exact richCompare_gives (op := .Lt) (typeIs_str s _ t) (typeIs_str s _ u) F.slot_str_lt F.entry_str_lt (F.args_str_lt_2 _ _) (gives_str_lt _ _ t u) (fun x => nomatch x) h
theorem cmp_gtS {P : Nat → Value → Prop} (hv : ∀ i v, P i v → ∃ t, v = Value.str (ss.getD i default) t) : CmpOf prog w A .Gt P (gtS ss) := fun i j vi vj s Q E hi hj h => by
  obtain ⟨t, rfl⟩ := hv i vi hi
  obtain ⟨u, rfl⟩ := hv j vj hj
  exact richCompare_gives (op := .Gt) (typeIs_str s _ t) (typeIs_str s _ u) F.slot_str_gt F.entry_str_gt (F.args_str_gt_2 _ _) (gives_str_gt _ _ t u) (fun x => nomatch x) h
theorem iter_anyList {xs : Array Value} {Q : Value → Shared → Prop} (hl : s.heap.IsList l xs)
    (h : ∀ s₂ : Shared, s₂ = { s with heap := s.heap.push { cls := .type "list_iterator", data := .fields #[.ref l, .int 0 0] } } →
      (s₂.heap.IsListIter s.heap.objs.size l 0 ∧ s₂.heap.IsList l xs) → (∀ b ∈ [s.heap.objs.size, l], b < s₂.heap.objs.size) → l ≠ s.heap.objs.size → Q (.ref s.heap.objs.size) s₂) :
    wpAny (model prog w) A (pyIter (.ref l)) Q E s := by
  have hlt : l < s.heap.objs.size := by obtain ⟨_, e, _⟩ := hl; exact Heap.lt_size e
  refine wpAny_pyIter_list hl (h _ rfl ⟨⟨_, Heap.get?_push_size _ rfl, rfl, rfl⟩, hl.push _⟩ (fun b hb => ?_) (Nat.ne_of_lt hlt))
  show b < (s.heap.push _).objs.size
  rw [Heap.size_push]
  rcases List.mem_cons.mp hb with rfl | hb
  · exact Nat.lt_succ_self _
  · rcases List.mem_cons.mp hb with rfl | hb
    · exact Nat.lt_succ_of_lt hlt
    · cases hb
theorem max_strList {Q : Value → Shared → Prop} (hh : A.handled = none) (hl : s.heap.IsList l its.toArray) (hv : ∀ i v, its.toArray[i]? = some v → ∃ t, v = Value.str (ss.getD i default) t) (hne : 0 < its.length)
    (h : ∀ v h' tk, its.toArray[argBest (gtS ss) (its.length - 1)]? = some v → (∀ b o, s.heap.get? b = some o → h'.get? b = some o) → Q v { s with heap := h', toks := tk }) :
    wpAny (model prog w) A (call (.builtin "max") [.ref l]) Q E s := by
  refine call_max_walk (iter_anyList hl fun s₂ e st hfp hlI => ?_)
  subst e
  refine ⟨_, _, _, _, _, _, _, rfl, Walks.list (A := A.in1) hh _ l hlI its.toArray, st, hfp, by simpa using hne, cmp_gtS hv, fun v h' tk hP hk => ?_⟩
  exact h v h' tk (by simpa using hP) (old_kept hk)
theorem min_strList {Q : Value → Shared → Prop} (hh : A.handled = none) (hl : s.heap.IsList l its.toArray) (hv : ∀ i v, its.toArray[i]? = some v → ∃ t, v = Value.str (ss.getD i default) t) (hne : 0 < its.length)
    (h : ∀ v h' tk, its.toArray[argBest (ltS ss) (its.length - 1)]? = some v → (∀ b o, s.heap.get? b = some o → h'.get? b = some o) → Q v { s with heap := h', toks := tk }) :
    wpAny (model prog w) A (call (.builtin "min") [.ref l]) Q E s := by
  refine call_min_walk (iter_anyList hl fun s₂ e st hfp hlI => ?_)
  subst e
  refine ⟨_, _, _, _, _, _, _, rfl, Walks.list (A := A.in1) hh _ l hlI its.toArray, st, hfp, by simpa using hne, cmp_ltS hv, fun v h' tk hP hk => ?_⟩
  exact h v h' tk (by simpa using hP) (old_kept hk)
end
section
variable {X : Cx}
theorem vals_strs {ss : List Str} : ∀ {its : List Value}, Vals (ss.map V.str) its → ∀ i v, its.toArray[i]? = some v → ∃ t, v = Value.str (ss.getD i default) t := by
  induction ss with
  | nil =>
    intro its r i v h
    cases r
    simp at h
  | cons a ss ih =>
    intro its r i v h
    cases r with
    | cons r1 r2 =>
      cases i with
      | zero =>
        simp at h
        subst h
        obtain ⟨t, e⟩ := r1
        exact ⟨t, by rw [e]; rfl⟩
      | succ i =>
        obtain ⟨t, e⟩ := ih r2 i v (by simpa using h)
        exact ⟨t, by rw [e]; rfl⟩
def rMaxS (K : PySem.W.Frag) : List V → Hp → VK → Prop := fun vs H Q => ∃ (a : Addr) (ss : List Str), vs = [V.ref a] ∧ SqL K H a (ss.map V.str) ∧ 0 < ss.length ∧ ∀ m, ss[argBest (gtS ss) (ss.length - 1)]? = some m → Q (.str m) H
def rMinS (K : PySem.W.Frag) : List V → Hp → VK → Prop := fun vs H Q => ∃ (a : Addr) (ss : List Str), vs = [V.ref a] ∧ SqL K H a (ss.map V.str) ∧ 0 < ss.length ∧ ∀ m, ss[argBest (ltS ss) (ss.length - 1)]? = some m → Q (.str m) H
theorem at_strs {ss : List Str} {its : List Value} (r : Vals (ss.map V.str) its) {k : Nat} {v : Value} (h : its.toArray[k]? = some v) : ∃ m t, ss[k]? = some m ∧ v = Value.str m t := by
  obtain ⟨t, e⟩ := vals_strs r k v h
  have hk : k < its.length := by
    rcases Nat.lt_or_ge k its.length with q | q
    · exact q
    · simp [List.getElem?_eq_none q] at h
  have hl : its.length = ss.length := by rw [← r.length, List.length_map]
  refine ⟨ss[k]'(by omega), t, List.getElem?_eq_getElem _, ?_⟩
  rw [e, List.getD_eq_getElem?_getD, List.getElem?_eq_getElem (by omega)]
  rfl
theorem cr_maxS (hc : X.calm = true) : CallR X (.builtin "max") (rMaxS X.K) := by
  intro pins s σ H vs us Q I r h
  obtain ⟨a, ss, rfl, hs, hne, q⟩ := h
  obtain ⟨its, rv, hl, _⟩ := I.list hs
  rw [Vals.ref1 r]
  have hle : its.length = ss.length := by rw [← rv.length, List.length_map]
  refine max_strList (I.ok.hd hc) hl.isList (vals_strs rv) (by omega) fun v h' tk hv hk => ?_
  rw [hle] at hv
  obtain ⟨m, t, e1, rfl⟩ := at_strs rv hv
  exact ⟨.str m, H, I.kept hk, ⟨_, rfl⟩, q m e1⟩
theorem cr_minS (hc : X.calm = true) : CallR X (.builtin "min") (rMinS X.K) := by
  intro pins s σ H vs us Q I r h
  obtain ⟨a, ss, rfl, hs, hne, q⟩ := h
  obtain ⟨its, rv, hl, _⟩ := I.list hs
  rw [Vals.ref1 r]
  have hle : its.length = ss.length := by rw [← rv.length, List.length_map]
  refine min_strList (I.ok.hd hc) hl.isList (vals_strs rv) (by omega) fun v h' tk hv hk => ?_
  rw [hle] at hv
  obtain ⟨m, t, e1, rfl⟩ := at_strs rv hv
  exact ⟨.str m, H, I.kept hk, ⟨_, rfl⟩, q m e1⟩
end
/-! ### a tuple times 0, times 1 -/
theorem tuple_mul1 (l : Addr) (items : Array Value) (n : Nat) (dd : Option Addr) (sl : Array (Option Value)) (u : Tok) :
    Meets (Builtin.«tuple.__mul__» ⟨[.ref l, .int 1 u], []⟩) (fun _ R s => s.heap.get? l = some { cls := .type "tuple", dict := dd, data := .seq items n, slots := sl } ∧
      R (.ok (.ret (Value.ref l))) s) :=
  .of_wp fun prog w A R s h => by
    obtain ⟨hp, g, d, tk, os⟩ := s
    obtain ⟨hl, h⟩ := h
    have f1 := AutoSeq1.idx_int
    have c0 : (decide ((1 : Int) < -(2 ^ 63)) || decide ((1 : Int) ≥ 2 ^ 63)) = false := by decide
    have c1 : (items.isEmpty || (1 : Int) == 1) = true := by simp
    wp_walk using wpAny_loadPart' hl
    repeat (first
      | (refine wpAny_ite_false (decide_eq_false (by rw [c0]; exact Bool.false_ne_true)) ?_; wp_walk using wpAny_loadPart' hl)
      | (refine wpAny_ite_true (decide_eq_true c1) ?_; wp_walk using wpAny_loadPart' hl))
    exact ⟨_, rfl, h⟩
theorem tuple_mul0 (l : Addr) (items : Array Value) (n : Nat) (dd : Option Addr) (sl : Array (Option Value)) (u : Tok) (hne : items.isEmpty = false) :
    Meets (Builtin.«tuple.__mul__» ⟨[.ref l, .int 0 u], []⟩) (fun _ R s => s.heap.get? l = some { cls := .type "tuple", dict := dd, data := .seq items n, slots := sl } ∧
      R (.ok (.ret (Value.ref s.heap.objs.size))) { s with heap := s.heap.push { cls := Value.type "tuple", data := Data.seq #[] }, toks := s.toks }) :=
  .of_wp fun prog w A R s h => by
    obtain ⟨hp, g, d, tk, os⟩ := s
    obtain ⟨hl, h⟩ := h
    have f1 := AutoSeq1.idx_int
    have c0 : (decide ((0 : Int) < -(2 ^ 63)) || decide ((0 : Int) ≥ 2 ^ 63)) = false := by decide
    have c1 : (items.isEmpty || (0 : Int) == 1) = false := by rw [hne]; decide
    have c2 : (decide ((0 : Int) ≤ 0) || items.isEmpty) = true := by simp
    have hsz : (#[] : Array Value).size ≤ sizeLine := Nat.zero_le _
    wp_walk using wpAny_loadPart' hl
    repeat (first
      | (refine wpAny_ite_false (decide_eq_false (by rw [c0]; exact Bool.false_ne_true)) ?_; wp_walk using wpAny_loadPart' hl)
      | (refine wpAny_ite_false (decide_eq_false (by rw [c1]; exact Bool.false_ne_true)) ?_; wp_walk using wpAny_loadPart' hl)
      | (refine wpAny_ite_true (decide_eq_true c2) ?_; wp_walk using wpAny_loadPart' hl)
      | (refine wpAny_ite_false (decide_eq_false (Nat.not_lt.mpr hsz)) ?_; wp_walk using wpAny_loadPart' hl))
    exact ⟨_, rfl, h⟩
def rRep01 (K : PySem.W.Frag) : R2 := fun x y H Q => ∃ l xs, x = .ref l ∧ SqT K H l xs ∧ xs ≠ [] ∧ ((y = .int 1 ∧ Q (.ref l) H) ∨ (y = .int 0 ∧ NT H [] Q))
section
variable {X : Cx}
theorem op_rep01 : OpR X (binaryOp .Mult) (rRep01 X.K) := by
  intro pins s σ H x y v u Q I rx ry h
  obtain ⟨l, xs, rfl, hT, hne, h⟩ := h
  cases rx
  obtain ⟨its, r, ⟨⟨cls, dd, data, sl⟩, ho, hc, n, hd⟩, hs⟩ := I.tuple hT
  simp only at hc hd
  subst hc hd
  have hle : its.length = xs.length := r.length.symm
  have hi : its.toArray.isEmpty = false := by
    cases its with
    | nil => exact absurd (List.eq_nil_of_length_eq_zero hle.symm) hne
    | cons a b => rfl
  rcases h with ⟨rfl, q⟩ | ⟨rfl, q⟩
  · obtain ⟨t, rfl⟩ := ry
    refine wpAny_binaryOp_repeat_ref (T := "tuple") (U := "int") (by decide) ⟨_, ho, rfl⟩ (fun s' => typeIs_int s' 1 t) noFill_tuple_mul F.fills_int_mul F.slot_int_rmul repeat_tuple F.slot_int_index.lookup
      (call_meets F.slot_int_rmul (typeIs_int s 1 t) F.entry_int_rmul (F.args_int_rmul_2 _ _) (int_rmul_tuple 1 t l its.toArray n dd sl)
        ⟨ho, rfl, ⟨_, ho, rfl⟩, call_meets F.slot_tuple_mul ⟨_, ho, rfl⟩ F.entry_tuple_mul (F.args_tuple_mul_2 _ _) (tuple_mul1 l its.toArray n dd sl t) ⟨ho, ?_⟩⟩)
    exact ⟨.ref l, H, I, rfl, q⟩
  · obtain ⟨t, rfl⟩ := ry
    refine wpAny_binaryOp_repeat_ref (T := "tuple") (U := "int") (by decide) ⟨_, ho, rfl⟩ (fun s' => typeIs_int s' 0 t) noFill_tuple_mul F.fills_int_mul F.slot_int_rmul repeat_tuple F.slot_int_index.lookup
      (call_meets F.slot_int_rmul (typeIs_int s 0 t) F.entry_int_rmul (F.args_int_rmul_2 _ _) (int_rmul_tuple 0 t l its.toArray n dd sl)
        ⟨ho, rfl, ⟨_, ho, rfl⟩, call_meets F.slot_tuple_mul ⟨_, ho, rfl⟩ F.entry_tuple_mul (F.args_tuple_mul_2 _ _) (tuple_mul0 l its.toArray n dd sl t hi) ⟨ho, ?_⟩⟩)
    exact made_tup (t := s.toks) I (its := []) .nil (Nat.zero_le _) q
end
end Ov

set_option maxHeartbeats 2000000
namespace Ov
open PySem PySem.Spec PyProof.Rows L2 HT
section
variable {prog : Program} {w : World} {A : Around} {E : Value → Shared → Prop} {s : Shared}
theorem applied_step {sl : Addr} {vl vu vs : Value} {n : Nat} {k : Int} {Q : Int × Int × Nat → Shared → Prop} (hs : s.heap.IsSliceOf sl vl vu vs) (pl : IsPart vl none) (pu : IsPart vu none) (ps : IsPart vs (some k)) (hk : k = 1 ∨ k = -1)
    (h : Q ((if k = 1 then (0 : Int) else (n : Int) - 1), k, n) s) : wpAny (model prog w) A (Builtin.Slice.sliceApplied (.ref sl) (pure (n : Int))) Q E s := by
  obtain ⟨os, hos, hcs, hds⟩ := id hs
  unfold Builtin.Slice.sliceApplied Builtin.Slice.sliceFields
  refine wpAny_bind (wpAny_bind (wpAny_field hos hds (x := vl) rfl (wpAny_bind (wpAny_field hos hds (x := vu) rfl (wpAny_bind (wpAny_field hos hds (x := vs) rfl (wpAny_pure ?_)))))))
  refine wpAny_bind (slicePart_ ps ?_)
  show wpAny _ _ (if (k == 0) = true then _ else _) _ _ s
  rw [if_neg (by rcases hk with rfl | rfl <;> decide)]
  refine wpAny_bind (slicePart_ pl (wpAny_bind (slicePart_ pu (wpAny_bind (wpAny_pure ?_)))))
  show wpAny _ _ (match Builtin.Slice.sliceAdjust none none k (n : Int) with | (lo, hi) => pure (lo, (k : Int), Builtin.Slice.slicePlaces lo hi k)) _ _ s
  rcases hk with rfl | rfl
  · rw [adjust_gen none none n]
    show wpAny _ _ (pure (((0 : Nat) : Int), (1 : Int), Builtin.Slice.slicePlaces ((0 : Nat) : Int) ((n : Nat) : Int) 1)) _ _ s
    rw [places_gen]
    exact wpAny_pure h
  · have e : Builtin.Slice.slicePlaces ((n : Int) - 1) (-1) (-1) = n := by
      unfold Builtin.Slice.slicePlaces
      rw [if_neg (by decide)]
      split
      · rw [show (- -1 : Int) = 1 by decide, Int.ediv_one]; omega
      · omega
    show wpAny _ _ (pure ((n : Int) - 1, (-1 : Int), Builtin.Slice.slicePlaces ((n : Int) - 1) (-1) (-1))) _ _ s
    rw [e]
    exact wpAny_pure h
theorem fm_congr {α β : Type} {f g : α → Option β} : ∀ {xs : List α}, (∀ x ∈ xs, f x = g x) → xs.filterMap f = xs.filterMap g
  | [], _ => rfl
  | x :: xs, h => by rw [List.filterMap_cons, List.filterMap_cons, h x (List.mem_cons_self ..), fm_congr fun y hy => h y (List.mem_cons_of_mem _ hy)]
theorem pick_back (xs : Array Value) : ((List.range xs.size).filterMap fun (m : Nat) => xs[((xs.size : Int) - 1 + (m : Int) * (-1)).toNat]?).toArray = xs.toList.reverse.toArray := by
  have e : (List.range xs.size).filterMap (fun (m : Nat) => xs[((xs.size : Int) - 1 + (m : Int) * (-1)).toNat]?) = ((List.range xs.size).map fun k => xs.size - 1 - k).filterMap (xs[·]?) := by
    rw [List.filterMap_map]
    refine fm_congr fun m hm => ?_
    have h := List.mem_range.mp hm
    have q : ((xs.size : Int) - 1 + (m : Int) * (-1)).toNat = xs.size - 1 - m := by omega
    show _ = xs[xs.size - 1 - m]?
    rw [q]
  rw [e, PySem.W.krv_range, List.filterMap_reverse, PySem.W.krv_all]
theorem getItem_tuple_rev {t sl : Addr} {items : Array Value} {vl vu vs : Value} {Q : Value → Shared → Prop} (ht : IsTup s.heap t items) (hs : s.heap.IsSliceOf sl vl vu vs) (pl : IsPart vl none) (pu : IsPart vu none) (ps : IsPart vs (some (-1)))
    (h : Q (.ref s.heap.objs.size) { s with heap := s.heap.push { cls := .type "tuple", data := .seq items.toList.reverse.toArray } })
    (hsz : items.size ≤ sizeLine) : wpAny (model prog w) A (getItem (.ref t) (.ref sl)) Q E s := by
  have htake : sizeOk (.seq items.toList.reverse.toArray) := by
    show items.toList.reverse.toArray.size ≤ sizeLine
    simpa using hsz
  obtain ⟨os, hos, hcs, hds⟩ := id hs
  have hTs : s.TypeIs (.ref sl) "slice" := ⟨os, hos, hcs⟩
  unfold getItem
  try with_reducible refine wpAny_holding ?_
  first | refine wpAny_bind (wpAny_pure ?_) | skip
  refine wpAny_bind (wpAny_sequenceKey ht.typeIs (by decide) ?_)
  refine wpAny_bind (wpAny_callSpecial?_slot (name := Str.ofString "__getitem__") ht.typeIs PyProof.Rows.slot_tuple_getitem
    (wpAny_call_entry PyProof.Rows.slot_tuple_getitem ht.typeIs entry_tuple_getitem ?_ (args_tuple_getitem _ _)))
  show wpAny _ _ (Builtin.Tuple.tupleItemsOf (.ref t) >>= _) _ _ s
  refine wpAny_bind (tupleItemsOf_ ht ?_)
  refine wpAny_bind (wpAny_typeOf hTs ?_)
  rw [if_pos (by decide)]
  refine wpAny_bind (applied_step hs pl pu ps (.inr rfl) ?_)
  rw [if_neg (by decide)]
  show wpAny _ _ (if (((items.size : Int) - 1) == 0 && (-1 : Int) == 1 && items.size == items.size) = true then _ else _) _ _ s
  rw [if_neg (by simp), pick_back]
  first
    | exact wpAny_bind (m := Builtin.Tuple.tupleExact _) (wpAny_newObj_type (wpAny_pure ⟨_, rfl, wpAny_pure h⟩) htake)
    | exact wpAny_bind (m := Builtin.Tuple.tupleExact _) (wpAny_newObj_type (wpAny_bind (wpAny_pure (wpAny_pure ⟨_, rfl, wpAny_pure h⟩))) htake)
    | exact wpAny_bind (wpAny_bind (m := Builtin.Tuple.tupleExact _) (wpAny_newObj_type (wpAny_pure (wpAny_pure ⟨_, rfl, wpAny_pure h⟩)) htake))
    | exact wpAny_bind (wpAny_bind (m := Builtin.Tuple.tupleExact _) (wpAny_newObj_type (wpAny_pure ⟨_, rfl, wpAny_pure h⟩) htake))
theorem getItem_tuple_all {t sl : Addr} {items : Array Value} {vl vu vs : Value} {Q : Value → Shared → Prop} (ht : IsTup s.heap t items) (hs : s.heap.IsSliceOf sl vl vu vs) (pl : IsPart vl none) (pu : IsPart vu none) (ps : IsPart vs (some 1))
    (h : Q (.ref t) s) : wpAny (model prog w) A (getItem (.ref t) (.ref sl)) Q E s := by
  obtain ⟨os, hos, hcs, hds⟩ := id hs
  have hTs : s.TypeIs (.ref sl) "slice" := ⟨os, hos, hcs⟩
  unfold getItem
  try with_reducible refine wpAny_holding ?_
  first | refine wpAny_bind (wpAny_pure ?_) | skip
  refine wpAny_bind (wpAny_sequenceKey ht.typeIs (by decide) ?_)
  refine wpAny_bind (wpAny_callSpecial?_slot (name := Str.ofString "__getitem__") ht.typeIs PyProof.Rows.slot_tuple_getitem
    (wpAny_call_entry PyProof.Rows.slot_tuple_getitem ht.typeIs entry_tuple_getitem ?_ (args_tuple_getitem _ _)))
  show wpAny _ _ (Builtin.Tuple.tupleItemsOf (.ref t) >>= _) _ _ s
  refine wpAny_bind (tupleItemsOf_ ht ?_)
  refine wpAny_bind (wpAny_typeOf hTs ?_)
  rw [if_pos (by decide)]
  refine wpAny_bind (applied_step hs pl pu ps (.inl rfl) ?_)
  rw [if_pos rfl]
  show wpAny _ _ (if ((0 : Int) == 0 && (1 : Int) == 1 && items.size == items.size) = true then _ else _) _ _ s
  rw [if_pos (by simp)]
  refine wpAny_bind ?_
  show wpAny _ _ (typeOf (.ref t) >>= fun T => pure (T == .type "tuple")) _ _ s
  refine wpAny_bind (wpAny_typeOf ht.typeIs (wpAny_pure ?_))
  first
    | rw [if_pos (by decide)]
    | simp only [beq_self_eq_true, if_true]
  first
    | exact wpAny_bind (wpAny_rule (wpAny_pure ⟨_, rfl, wpAny_pure h⟩))
    | exact wpAny_bind (wpAny_rule (wpAny_bind (wpAny_pure (wpAny_pure ⟨_, rfl, wpAny_pure h⟩))))
end
theorem pick_all1 (items : Array Value) : slicePick items none none (some 1) = items.toList.toArray := by
  have : slicePick items none none (some 1) = slicePick items none none none := rfl
  rw [this]
  have e := slicePick_cut (its := items.toList) (lo := none) (hi := none)
  simp only [sIx_none, Nat.sub_zero, List.drop_zero, List.take_length] at e
  exact e
/-- x[::k], k 1 or -1 -/
def rStp (K : PySem.W.Frag) : V → Int → Hp → VK → Prop := fun x k H Q =>
  (∃ a xs, x = .ref a ∧ SqL K H a xs ∧ ((k = -1 ∧ ∀ p, H p = none → Q (.ref p) (upd H p (.lst xs.reverse))) ∨ (k = 1 ∧ ∀ p, H p = none → Q (.ref p) (upd H p (.lst xs))))) ∨
  (∃ a xs, x = .ref a ∧ SqT K H a xs ∧ ((k = -1 ∧ NT H xs.reverse Q) ∨ (k = 1 ∧ Q (.ref a) H)))
section
variable {X : Cx}
theorem pe_step {e st : Expr} {te : TE} {ts : TO} {p3 pos : Pos} (he : PE X e te) (hst : PO X (some st) ts) : PE X (.Subscript e (.Slice none none (some st) p3) pos) (fun σ H Q => te σ H fun x H1 => ts σ H1 fun o H2 => ∃ k, o = some k ∧ rStp X.K x k H2 Q) := by
  refine ⟨fun pins s σ H Q I h => ?_⟩
  refine Subscript_ (thn (he.run pins s σ H _ I h) fun v s1 ⟨x, H1, I1, r1, q1⟩ => ?_)
  refine wpAny_Slice (thn (po_none.run pins s1 σ H1 (fun o H2 => o = none ∧ H2 = H1) I1 ⟨rfl, rfl⟩) fun vl s2 ⟨l, H2, I2, pl, el, e2⟩ => ?_)
  subst el e2
  refine thn (po_none.run pins s2 σ H2 (fun o H3 => o = none ∧ H3 = H2) I2 ⟨rfl, rfl⟩) fun vu s3 ⟨u, H3, I3, pu, eu, e3⟩ => ?_
  subst eu e3
  refine thn (hst.run pins s3 σ H3 _ I3 q1) fun vs s4 ⟨o, H4, I4, ps, k, eo, q⟩ => ?_
  subst eo
  have I5 : Inv X pins σ H4 { s4 with heap := s4.heap.push { cls := .type "slice", data := .fields #[vl, vu, vs] } } := I4.kept (t' := s4.toks) fun b ob q => Heap.get?_push_of_some _ q
  show wpAny (model X.prog X.w) X.A (subscriptTail e (.Slice none none (some st) p3) v (.ref s4.heap.objs.size)) (EP X pins σ Q) X.xe { s4 with heap := s4.heap.push { cls := .type "slice", data := .fields #[vl, vu, vs] } }
  rcases q with ⟨a, xs, rfl, hx, q⟩ | ⟨a, xs, rfl, hx, q⟩
  · cases r1
    obtain ⟨its, r, ht, hz⟩ := I5.list hx
    have hlen := r.length
    refine tail_any (ops := [.ref a, .ref s4.heap.objs.size]) ht.isList.typeIs (PySem.slot_list_getitem.lookup) ?_ (by with_unfolding_all rfl)
    rcases q with ⟨rfl, q⟩ | ⟨rfl, q⟩
    · refine wpAny_getItem_list_slice ht.isList (Heap.IsSliceOf.new _ vl vu vs) pl pu ps (by decide) ?_ (by rw [List.size_toArray]; omega)
      rw [PySem.W.krv_pick]
      refine ⟨.ref _, _, I5.laid (t' := s4.toks) (o := .lst xs.reverse) (fun b ob q => Heap.get?_push_of_some _ q) (Nat.le_refl _) ?_, rfl, q _ (I5.hok.fresh (Nat.le_refl _))⟩
      exact ⟨by rw [List.length_reverse]; exact hz, _, 0, r.reverse, Heap.get?_push_size _ rfl⟩
    · refine wpAny_getItem_list_slice ht.isList (Heap.IsSliceOf.new _ vl vu vs) pl pu ps (by decide) ?_ (by rw [List.size_toArray]; omega)
      rw [pick_all1]
      refine ⟨.ref _, _, I5.laid (t' := s4.toks) (o := .lst xs) (fun b ob q => Heap.get?_push_of_some _ q) (Nat.le_refl _) ?_, rfl, q _ (I5.hok.fresh (Nat.le_refl _))⟩
      exact ⟨hz, _, 0, r, Heap.get?_push_size _ rfl⟩
  · cases r1
    obtain ⟨its, r, ht, hz⟩ := I5.tuple hx
    have hlen := r.length
    refine tail_any (ops := [.ref a, .ref s4.heap.objs.size]) ht.typeIs (PyProof.Rows.slot_tuple_getitem.lookup) ?_ (by with_unfolding_all rfl)
    rcases q with ⟨rfl, q⟩ | ⟨rfl, q⟩
    · refine getItem_tuple_rev ht (Heap.IsSliceOf.new _ vl vu vs) pl pu ps ?_ (by rw [List.size_toArray]; omega)
      exact made_tup (t := s4.toks) I5 r.reverse (by rw [List.length_reverse]; exact hz) q
    · exact getItem_tuple_all ht (Heap.IsSliceOf.new _ vl vu vs) pl pu ps ⟨.ref a, H4, I5, rfl, q⟩
end
end Ov

set_option maxHeartbeats 2000000
namespace Ov
open PySem PySem.Spec PyProof.Rows L2
section
variable {X : Cx} {pins : List (Addr × Obj)} {σ : L2.St} {H : Hp} {s : Shared}
def tTupN (t : TA) : TE := fun σ H Q => t σ H fun xs H1 => xs.length ≤ sizeLine ∧ NT H1 xs Q
theorem pe_tupN {es : List Expr} {t : TA} {pos : Pos} {x1 : Nat} (h : PA X es t) : PE X (.Tuple es x1 pos) (tTupN t) := by
  constructor
  intro pins s σ H Q I hq
  apply wpAny_Tuple_spliced
  apply thn (h.run pos pins s σ H _ I hq)
  rintro us s1 ⟨xs, H1, J, rv, hz, q⟩
  have hl := rv.length
  exact ⟨by omega, made_tup (t := s1.toks) J rv hz q⟩
def rTupN (K : PySem.W.Frag) : List V → Hp → VK → Prop := fun xs H Q => ∃ p ys, xs = [.ref p] ∧ ((SqL K H p ys ∧ NT H ys Q) ∨ (SqT K H p ys ∧ Q (.ref p) H))
theorem call_tupN : CallR X (.type "tuple") (rTupN X.K) := by
  intro pins s σ H xs us Q I rv hq
  rcases hq with ⟨p, ys, ex, hq⟩
  subst ex
  obtain ⟨u, eu, ru⟩ := vals1 rv
  subst eu
  cases ru
  rcases hq with ⟨hL, q⟩ | ⟨hT, q⟩
  · obtain ⟨its, rl, pl, hz⟩ := I.list hL
    have hl := rl.length
    apply call_tuple_list pl.isList
    · intro hp kp
      exact made_tup (t := s.toks) (I.kept (t' := s.toks) kp) rl hz q
  · obtain ⟨its, rl, pl, _⟩ := I.tuple hT
    exact call_tuple_same pl ⟨V.ref p, _, I, rfl, q⟩
def rCatN (K : PySem.W.Frag) : R2 := fun x y H Q => ∃ a b xs ys, x = .ref a ∧ y = .ref b ∧ SqT K H a xs ∧ SqT K H b ys ∧ xs.length + ys.length ≤ sizeLine ∧
  (xs = [] → Q (.ref b) H) ∧ (xs ≠ [] → ys = [] → Q (.ref a) H) ∧ (xs ≠ [] → ys ≠ [] → NT H (xs ++ ys) Q)
theorem op_catN : OpR X (binaryOp .Add) (rCatN X.K) := by
  intro pins s σ H x y v u Q I rx ry hq
  rcases hq with ⟨a, b, xs, ys, ex, ey, hA, hB, hz, q0, q1, q2⟩
  subst ex ey
  cases rx
  cases ry
  obtain ⟨ia, va, pa, _⟩ := I.tuple hA
  obtain ⟨ib, vb, pb, _⟩ := I.tuple hB
  have la := va.length
  have lb := vb.length
  by_cases e : xs = []
  · subst e
    cases va
    exact cat_tup0 pa pb ⟨V.ref b, _, I, rfl, q0 rfl⟩
  · apply HT.cat_tup pa pb
    · intro z; exact e (va.nil_iff.mp z)
    · intro z; exact ⟨V.ref a, _, I, rfl, q1 e (vb.nil_iff.mp z)⟩
    · intro z
      exact made_tup (t := s.toks) I (va.append vb) (by rw [List.length_append]; exact hz) (q2 e fun w => z (vb.nil_iff.mpr w))
    · omega
def rSlN (K : PySem.W.Frag) : V → Option Int → Option Int → Hp → VK → Prop := fun x lo hi H Q => ∃ a xs, x = .ref a ∧ SqT K H a xs ∧
  (HT.sIx xs.length 0 lo = 0 ∧ HT.sIx xs.length xs.length hi = xs.length → Q (.ref a) H) ∧ (¬ (HT.sIx xs.length 0 lo = 0 ∧ HT.sIx xs.length xs.length hi = xs.length) → NT H (cutV xs lo hi) Q)
theorem sl_tupN : SlR X (rSlN X.K) := by
  intro pins s σ H x v vl vu lo hi sl Q I rx hs pl pu hq
  rcases hq with ⟨a, xs, ex, hT, q1, q2⟩
  subst ex
  cases rx
  obtain ⟨its, rv, pt, hz⟩ := I.tuple hT
  have hl : its.toArray.size = xs.length := by rw [List.size_toArray]; exact rv.length.symm
  refine ⟨"tuple", _, PyProof.Rows.slot_tuple_getitem.lookup, pt.typeIs, ?_⟩
  by_cases hw : HT.sIx xs.length 0 lo = 0 ∧ HT.sIx xs.length xs.length hi = xs.length
  · apply getItem_tuple_whole pt hs pl pu
    · rw [hl]; exact hw
    · exact ⟨V.ref a, _, I, rfl, q1 hw⟩
  · apply HT.getItem_tuple_cut pt hs pl pu
    · rw [hl]; exact hw
    · rw [hl]
      exact made_tup (t := s.toks) I ((rv.drop (HT.sIx xs.length 0 lo)).take (HT.sIx xs.length xs.length hi - HT.sIx xs.length 0 lo)) (Nat.le_trans (cutV_length xs lo hi) hz) (q2 hw)
    · rw [hl]; exact hz
/-- a tuple times 2 and more -/
def rRepN (K : PySem.W.Frag) : R2 := fun x y H Q => ∃ l k xs, x = .ref l ∧ y = .int k ∧ SqT K H l xs ∧ xs ≠ [] ∧ 2 ≤ k ∧ k ≤ 1000 ∧ xs.length ≤ 1000 ∧ NT H (List.replicate k.toNat xs).flatten Q
theorem rep_len {α : Type} {k : Int} {xs : List α} (h1 : k ≤ 1000) (hz : xs.length ≤ 1000) : (List.replicate k.toNat xs).flatten.length ≤ 1000000 := by
  have : k.toNat * xs.length ≤ 1000 * 1000 := Nat.mul_le_mul (by omega) hz
  simp [List.length_flatten]
  omega
theorem op_repN : OpR X (binaryOp .Mult) (rRepN X.K) := by
  intro pins s σ H x y v u Q I rx ry hq
  rcases hq with ⟨l, k, xs, ex, ey, hT, hne, h1, h2, hz, q⟩
  subst ex ey
  cases rx
  obtain ⟨t, eu⟩ := ry
  subst eu
  obtain ⟨its, rv, ⟨ob, ho, hc, n, hd⟩, hs⟩ := I.tuple hT
  obtain ⟨cls, dd, data, sl⟩ := ob
  dsimp only at hc hd
  subst hc hd
  have hl := rv.length
  have hie : its.toArray.isEmpty = false := by
    cases its with
    | nil => exact absurd (List.eq_nil_of_length_eq_zero hl) hne
    | cons _ _ => rfl
  have sz : its.toArray.size = xs.length := by rw [List.size_toArray, ← hl]
  have hm : ((its.toArray.size : Nat) : Int) * k ≤ 1000 * 1000 := by
    rw [sz]
    exact Int.mul_le_mul (by omega) h2 (by omega) (by omega)
  have hfl := rep_len (k := k) (xs := its) h2 (by omega)
  have hsl : 1000000 ≤ sizeLine := by decide
  have b0 : (decide (k < -(2 ^ 63)) || decide (k ≥ 2 ^ 63)) = false := by
    rw [Bool.or_eq_false_iff]
    exact ⟨decide_eq_false (by omega), decide_eq_false (by omega)⟩
  have b1 : (its.toArray.isEmpty || k == 1) = false := by
    rw [Bool.or_eq_false_iff]
    exact ⟨hie, beq_eq_false_iff_ne.mpr (by omega)⟩
  have b2 : (decide (k ≤ 0) || its.toArray.isEmpty) = false := by
    rw [Bool.or_eq_false_iff]
    exact ⟨decide_eq_false (by omega), hie⟩
  have b4 : Builtin.Tuple.tupleTooMany (((its.toArray.size : Nat) : Int) * k) = false := by
    show decide _ = false
    exact decide_eq_false (by omega)
  have main := tuple_mulW l its.toArray n dd sl k t b0 b1 b2 (by omega) b4 (by rw [size_rep, List.size_toArray]; omega)
  refine wpAny_binaryOp_repeat_ref (T := "tuple") (U := "int") (by decide) ⟨_, ho, rfl⟩ (fun s2 => typeIs_int s2 k t) noFill_tuple_mul F.fills_int_mul F.slot_int_rmul repeat_tuple F.slot_int_index.lookup ?_
  refine call_meets F.slot_int_rmul (typeIs_int s k t) F.entry_int_rmul (F.args_int_rmul_2 _ _) (int_rmul_tuple k t l its.toArray n dd sl) ⟨ho, rfl, ⟨_, ho, rfl⟩, ?_⟩
  refine call_meets F.slot_tuple_mul ⟨_, ho, rfl⟩ F.entry_tuple_mul (F.args_tuple_mul_2 _ _) main ⟨ho, ?_⟩
  rw [size_rep]
  have hfx := rep_len (k := k) (xs := xs) h2 hz
  exact made_tup (t := s.toks) I (rv.rep k.toNat) (by omega) q
/-- a text times 2 and more -/
theorem fold_rep {α : Type} (a : Array α) : ∀ (n : Nat) (acc : Array α), ((List.replicate n a).foldl (· ++ ·) acc).toList = acc.toList ++ (List.replicate n a.toList).flatten
  | 0, acc => by simp
  | n + 1, acc => by
    rw [List.replicate_succ, List.foldl_cons, fold_rep a n, List.replicate_succ, List.flatten_cons, Array.toList_append, List.append_assoc]
theorem repS_list (x : Str) (n : Nat) : (repS x n).cps.toList = (List.replicate n x.cps.toList).flatten := by
  have := fold_rep x.cps n #[]
  rw [List.nil_append] at this
  exact this
theorem repS_len (x : Str) (n : Nat) : (repS x n).length = n * x.length := by
  show (repS x n).cps.size = n * x.cps.size
  rw [← Array.length_toList, repS_list, List.length_flatten, List.map_replicate, List.sum_replicate_nat, Array.length_toList]
def rRepS : R2 := fun x y H Q => ∃ z k, x = .str z ∧ y = .int k ∧ 2 ≤ k ∧ k ≤ 1000 ∧ 1 ≤ z.length ∧ z.length ≤ 1000 ∧ Q (.str (repS z k.toNat)) H
theorem op_repS : OpR X (binaryOp .Mult) rRepS := by
  intro pins s σ H x y v u Q I rx ry hq
  rcases hq with ⟨z, k, ex, ey, h1, h2, h3, h4, q⟩
  subst ex ey
  obtain ⟨t, ev⟩ := rx
  subst ev
  obtain ⟨t', eu⟩ := ry
  subst eu
  have b0 : (decide (k < -(2 ^ 63)) || decide (k ≥ 2 ^ 63)) = false := by
    rw [Bool.or_eq_false_iff]
    exact ⟨decide_eq_false (by omega), decide_eq_false (by omega)⟩
  have b1 : (k == 1 || z.length == 0) = false := by
    rw [Bool.or_eq_false_iff]
    exact ⟨beq_eq_false_iff_ne.mpr (by omega), beq_eq_false_iff_ne.mpr (by omega)⟩
  have hm : z.length * k.toNat ≤ 1000 * 1000 := Nat.mul_le_mul h4 (by omega)
  have hd : (1000 : Int) < (2 ^ 63 - 1) / k := by
    have e : (1001 : Int) ≤ (2 ^ 63 - 1) / k := (Int.le_ediv_iff_mul_le (by omega)).mpr (by omega)
    omega
  have hlong : PySem.Builtin.Str.tooLong (z.length * k.toNat) = false := by
    show decide _ = false
    rw [decide_eq_false_iff_not, sizeLine_eq]; omega
  refine PySem.P.mul_str b0 (fun _ _ => by omega) (fun _ _ => hlong) ?_
  rw [if_neg (by omega), if_neg (by rw [b1]; decide)]
  refine ⟨?_, ?_⟩
  · show (repS z k.toNat).length ≤ sizeLine
    rw [repS_len, Nat.mul_comm, sizeLine_eq]; omega
  · exact ⟨V.str (repS z k.toNat), H, I.tok _, ⟨_, rfl⟩, q⟩
end
end Ov

set_option maxHeartbeats 2000000
namespace Ov
open PySem PySem.Spec PyProof.Rows L2 Evl

/-! ### data at a value -/
mutual
inductive Rp (K : PySem.W.Frag) (F : Hp) : V → D → Prop
  | non : Rp K F .non .non
  | bl (b : Bool) : Rp K F (.bl b) (.bl b)
  | int (i : Int) : Rp K F (.int i) (.int i)
  | str (x : Str) : Rp K F (.str x) (.str x)
  | lst {a : Addr} {xs : List V} {ds : List D} : F a = some (.lst xs) → ds.length ≤ sizeLine → Rps K F xs ds → Rp K F (.ref a) (.lst ds)
  | tup {a : Addr} {xs : List V} {ds : List D} : SqT K F a xs → Cl K F a → ds.length ≤ sizeLine → Rps K F xs ds → Rp K F (.ref a) (.tup ds)
inductive Rps (K : PySem.W.Frag) (F : Hp) : List V → List D → Prop
  | nil : Rps K F [] []
  | cons {v : V} {vs : List V} {d : D} {ds : List D} : Rp K F v d → Rps K F vs ds → Rps K F (v :: vs) (d :: ds)
end
section
variable {K : PySem.W.Frag} {F F' H H' : Hp}
theorem Cl.mono {a : Addr} (e : Ex F F') (h : Cl K F a) : Cl K F' a := by
  rcases h with ⟨o, u, h, hd⟩ | h
  · exact Or.inl ⟨o, u, e _ _ h, hd⟩
  · exact Or.inr h
mutual
theorem Rp.mono (e : Ex F F') : ∀ {d : D} {v : V}, Rp K F v d → Rp K F' v d
  | .non, _, h => by cases h; exact .non
  | .bl b, _, h => by cases h; exact .bl b
  | .int b, _, h => by cases h; exact .int b
  | .str b, _, h => by cases h; exact .str b
  | .lst ds, _, h => by
    cases h with
    | lst hs hz ha => exact .lst (e _ _ hs) hz (Rps.mono e ha)
  | .tup ds, _, h => by
    cases h with
    | tup hs hc hz ha => exact .tup (ex_t e hs) (hc.mono e) hz (Rps.mono e ha)
theorem Rps.mono (e : Ex F F') : ∀ {ds : List D} {vs : List V}, Rps K F vs ds → Rps K F' vs ds
  | [], _, h => by cases h; exact .nil
  | d :: ds, _, h => by
    cases h with
    | cons h1 h2 => exact .cons (Rp.mono e h1) (Rps.mono e h2)
end
theorem Rps.length : ∀ {ds : List D} {vs : List V}, Rps K F vs ds → vs.length = ds.length
  | [], _, h => by cases h; rfl
  | d :: ds, _, h => by
    cases h with
    | cons h1 h2 => simp [Rps.length h2]
theorem Rps.get : ∀ {ds : List D} {vs : List V} {i : Nat} {x : D}, Rps K F vs ds → ds[i]? = some x → ∃ v, vs[i]? = some v ∧ Rp K F v x
  | [], _, _, _, _, h => by simp at h
  | d :: ds, _, 0, _, h, e => by
    cases h with
    | cons h1 h2 => simp at e; subst e; exact ⟨_, rfl, h1⟩
  | d :: ds, _, i + 1, _, h, e => by
    cases h with
    | cons h1 h2 =>
      obtain ⟨v, q, r⟩ := Rps.get h2 (i := i) (by simpa using e)
      exact ⟨v, by simpa using q, r⟩
theorem Rps.getV : ∀ {ds : List D} {vs : List V} {i : Nat} {v : V}, Rps K F vs ds → vs[i]? = some v → ∃ x, ds[i]? = some x ∧ Rp K F v x
  | [], _, _, _, h, e => by cases h; simp at e
  | d :: ds, _, 0, _, h, e => by
    cases h with
    | cons h1 h2 => simp at e; subst e; exact ⟨_, rfl, h1⟩
  | d :: ds, _, i + 1, _, h, e => by
    cases h with
    | cons h1 h2 =>
      obtain ⟨v, q, r⟩ := Rps.getV h2 (i := i) (by simpa using e)
      exact ⟨v, by simpa using q, r⟩
theorem Rps.append : ∀ {ds es : List D} {vs ws : List V}, Rps K F vs ds → Rps K F ws es → Rps K F (vs ++ ws) (ds ++ es)
  | [], _, _, _, h, h' => by cases h; exact h'
  | d :: ds, _, _, _, h, h' => by
    cases h with
    | cons h1 h2 => exact .cons h1 (Rps.append h2 h')
theorem Rps.take : ∀ {ds : List D} {vs : List V} (n : Nat), Rps K F vs ds → Rps K F (vs.take n) (ds.take n)
  | _, _, 0, _ => by simp; exact .nil
  | [], _, n + 1, h => by cases h; exact .nil
  | d :: ds, _, n + 1, h => by
    cases h with
    | cons h1 h2 => exact .cons h1 (Rps.take n h2)
theorem Rps.drop : ∀ {ds : List D} {vs : List V} (n : Nat), Rps K F vs ds → Rps K F (vs.drop n) (ds.drop n)
  | _, _, 0, h => h
  | [], _, n + 1, h => by cases h; exact .nil
  | d :: ds, _, n + 1, h => by
    cases h with
    | cons h1 h2 => exact Rps.drop n h2
theorem Rps.set {x : D} {v : V} (r : Rp K F v x) : ∀ {ds : List D} {vs : List V} (n : Nat), Rps K F vs ds → Rps K F (vs.set n v) (ds.set n x)
  | [], _, _, h => by cases h; exact .nil
  | d :: ds, _, 0, h => by
    cases h with
    | cons h1 h2 => exact .cons r h2
  | d :: ds, _, n + 1, h => by
    cases h with
    | cons h1 h2 => exact .cons h1 (Rps.set r n h2)
theorem Rps.eraseIdx : ∀ {ds : List D} {vs : List V} (n : Nat), Rps K F vs ds → Rps K F (vs.eraseIdx n) (ds.eraseIdx n)
  | [], _, _, h => by cases h; exact .nil
  | d :: ds, _, 0, h => by
    cases h with
    | cons h1 h2 => exact h2
  | d :: ds, _, n + 1, h => by
    cases h with
    | cons h1 h2 => exact .cons h1 (Rps.eraseIdx n h2)
theorem Rps.dropLast : ∀ {ds : List D} {vs : List V}, Rps K F vs ds → Rps K F vs.dropLast ds.dropLast
  | [], _, h => by cases h; exact .nil
  | [d], _, h => by
    cases h with
    | cons h1 h2 => cases h2; exact .nil
  | d :: e :: ds, _, h => by
    cases h with
    | cons h1 h2 =>
      have q := Rps.dropLast h2
      cases h2 with
      | cons h3 h4 => exact .cons h1 q
theorem Rps.reverse : ∀ {ds : List D} {vs : List V}, Rps K F vs ds → Rps K F vs.reverse ds.reverse
  | [], _, h => by cases h; exact .nil
  | d :: ds, _, h => by
    cases h with
    | cons h1 h2 =>
      rw [List.reverse_cons, List.reverse_cons]
      exact (Rps.reverse h2).append (.cons h1 .nil)
theorem Rps.flat : ∀ (n : Nat) {ds : List D} {vs : List V}, Rps K F vs ds → Rps K F (List.replicate n vs).flatten (List.replicate n ds).flatten
  | 0, _, _, _ => .nil
  | n + 1, _, _, h => by
    rw [List.replicate_succ, List.replicate_succ, List.flatten_cons, List.flatten_cons]
    exact h.append (Rps.flat n h)

/-- what may be looked at: a list stands in H, its items in F -/
def Lk (K : PySem.W.Frag) (F H : Hp) (w : V) : D → Prop
  | .lst ds => ∃ p vs, w = .ref p ∧ H p = some (.lst vs) ∧ ds.length ≤ sizeLine ∧ Rps K F vs ds
  | x => Rp K F w x
/-- .. or read as the script is -/
def LkS (K : PySem.W.Frag) (F H : Hp) (w : V) : D → Prop
  | .lst ds => ∃ p vs, w = .ref p ∧ SqL K H p vs ∧ ds.length ≤ sizeLine ∧ Rps K F vs ds
  | x => Rp K F w x
theorem Lk.s {w : V} {x : D} (h : Lk K F H w x) : LkS K F H w x := by
  cases x with
  | lst ds =>
    obtain ⟨p, vs, e, hs, hz, ha⟩ := h
    exact ⟨p, vs, e, Or.inl (Or.inl hs), hz, ha⟩
  | _ => exact h
theorem Lk.of (e : Ex F H) {w : V} {x : D} (h : Rp K F w x) : Lk K F H w x := by
  cases x with
  | lst ds =>
    cases h with
    | lst hs hz ha => exact ⟨_, _, rfl, e _ _ hs, hz, ha⟩
  | _ => exact h
theorem Lk.rp (e : Ex F H) {w : V} {x : D} (h : Lk K F H w x) : Rp K H w x := by
  cases x with
  | lst ds =>
    obtain ⟨p, vs, rfl, hs, hz, ha⟩ := h
    exact .lst hs hz (ha.mono e)
  | non => exact Rp.mono e (show Rp K F w _ from h)
  | bl => exact Rp.mono e (show Rp K F w _ from h)
  | int => exact Rp.mono e (show Rp K F w _ from h)
  | str => exact Rp.mono e (show Rp K F w _ from h)
  | tup => exact Rp.mono e (show Rp K F w _ from h)
theorem Lk.int {w : V} {i : Int} (h : Lk K F H w (.int i)) : w = .int i := by
  have h : Rp K F w (.int i) := h
  cases h; rfl
theorem Lk.bl {w : V} {i : Bool} (h : Lk K F H w (.bl i)) : w = .bl i := by
  have h : Rp K F w (.bl i) := h
  cases h; rfl
theorem Lk.str {w : V} {i : Str} (h : Lk K F H w (.str i)) : w = .str i := by
  have h : Rp K F w (.str i) := h
  cases h; rfl
theorem Lk.non {w : V} (h : Lk K F H w .non) : w = .non := by
  have h : Rp K F w .non := h
  cases h; rfl
theorem Lk.tup (e : Ex F H) {w : V} {ds : List D} (h : Lk K F H w (.tup ds)) : ∃ p vs, w = .ref p ∧ SqT K H p vs ∧ SqT K F p vs ∧ Cl K F p ∧ ds.length ≤ sizeLine ∧ Rps K F vs ds := by
  have h : Rp K F w (.tup ds) := h
  cases h with
  | tup hs hc hz ha => exact ⟨_, _, rfl, ex_t e hs, hs, hc, hz, ha⟩
theorem Rp.intv {w : V} {i : Int} (h : Rp K F w (.int i)) : w = .int i := by cases h; rfl
theorem Rp.blv {w : V} {i : Bool} (h : Rp K F w (.bl i)) : w = .bl i := by cases h; rfl
theorem Rp.strv {w : V} {i : Str} (h : Rp K F w (.str i)) : w = .str i := by cases h; rfl
theorem Rp.nonv {w : V} (h : Rp K F w .non) : w = .non := by cases h; rfl

/-- new things alone: F and H grow, nothing that stood outside F comes into it -/
structure Al (F H F' H' : Hp) : Prop where
  ex : Ex F F'
  hx : Ex H H'
  sub : Ex F' H'
  new : ∀ b, H b ≠ none → F b = none → F' b = none
theorem Al.refl (e : Ex F H) : Al F H F H := ⟨Ex.refl _, Ex.refl _, e, fun _ _ h => h⟩
theorem Ex.none {p : Addr} (e : Ex F H) (h : H p = none) : F p = none := by
  cases q : F p with
  | none => rfl
  | some o => rw [e p o q] at h; cases h
theorem Al.one (e : Ex F H) {p : Addr} {o : HO} (h : H p = none) : Al F H (upd F p o) (upd H p o) := by
  refine ⟨Ex.new (Ov.Ex.none e h), Ex.new h, fun a u q => ?_, fun b hb hf => ?_⟩
  · by_cases hp : a = p
    · subst hp; rw [upd_same] at q ⊢; exact q
    · rw [upd_ne hp] at q ⊢; exact e a u q
  · rw [upd_ne (fun z => hb (by rw [z]; exact h))]; exact hf
theorem Al.trans {F1 F2 H1 H2 : Hp} (a : Al F H F1 H1) (b : Al F1 H1 F2 H2) : Al F H F2 H2 :=
  ⟨a.ex.trans b.ex, a.hx.trans b.hx, b.sub, fun c hc hf => b.new c (fun z => hc (by
    cases q : H c with
    | none => rfl
    | some o => rw [a.hx c o q] at z; cases z)) (a.new c hc hf)⟩
theorem rp_new_lst {p : Addr} {vs : List V} {ds : List D} (hp : F p = none) (hz : ds.length ≤ sizeLine) (h : Rps K F vs ds) : Rp K (upd F p (.lst vs)) (.ref p) (.lst ds) :=
  .lst upd_same hz (h.mono (Ex.new hp))
theorem rp_new_tup {p : Addr} {ob : Obj} {vs : List V} {ds : List D} (hd : ob.dict = none) (hp : F p = none) (hz : ds.length ≤ sizeLine) (h : Rps K F vs ds) : Rp K (upd F p (.frz ob (.tup vs))) (.ref p) (.tup ds) :=
  .tup (Or.inl (Or.inr ⟨ob, upd_same⟩)) (Or.inl ⟨ob, _, upd_same, hd⟩) hz (h.mono (Ex.new hp))
end

/-- a value just made: a list of its own, outside F -/
def Nw (K : PySem.W.Frag) (H F' H' : Hp) (z : V) : D → Prop
  | .lst ds => ∃ p vs, z = .ref p ∧ H p = none ∧ F' p = none ∧ H' p = some (.lst vs) ∧ ds.length ≤ sizeLine ∧ Rps K F' vs ds
  | x => Rp K F' z x
section
variable {K : PySem.W.Frag} {F F' H H' : Hp}
theorem Al.own (e : Ex F H) {p : Addr} {o : HO} (h : H p = none) : Al F H F (upd H p o) :=
  ⟨Ex.refl _, Ex.new h, e.trans (Ex.new h), fun _ _ hf => hf⟩
/-- the new list is shut -/
theorem Nw.shut {z : V} {c : D} (a : Al F H F' H') (h : Nw K H F' H' z c) : ∃ F2, Al F H F2 H' ∧ Rp K F2 z c := by
  cases c with
  | lst ds =>
    obtain ⟨p, vs, rfl, hp, hf, hh, hz, hr⟩ := h
    refine ⟨upd F' p (.lst vs), ⟨a.ex.trans (Ex.new hf), a.hx, fun b o q => ?_, fun b hb hn => ?_⟩, rp_new_lst hf hz hr⟩
    · by_cases e : b = p
      · subst e; rw [upd_same] at q; cases q; exact hh
      · rw [upd_ne e] at q; exact a.sub b o q
    · rw [upd_ne (fun e => hb (by rw [e]; exact hp))]; exact a.new b hb hn
  | _ => exact ⟨F', a, h⟩
theorem nw_lst (e : Ex F H) {p : Addr} {vs : List V} {ds : List D} (hp : H p = none) (hz : ds.length ≤ sizeLine) (h : Rps K F vs ds) : Nw K H F (upd H p (.lst vs)) (.ref p) (.lst ds) :=
  ⟨p, vs, rfl, hp, Ov.Ex.none e hp, upd_same, hz, h⟩
end

/-! ### operations by data -/
theorem OpR.or {X : Cx} {f : Value → Value → Sem Value} {r r' : R2} (h : OpR X f r) (h' : OpR X f r') : OpR X f (fun x y H Q => r x y H Q ∨ r' x y H Q) :=
  fun pins s σ H x y v u Q I rx ry q => q.elim (fun q => h pins s σ H x y v u Q I rx ry q) (fun q => h' pins s σ H x y v u Q I rx ry q)
/-- a two-place operation -/
def OpD (X : Cx) (f : Value → Value → Sem Value) (g : D → D → Option D) : Prop := ∃ r, OpR X f r ∧
  ∀ (F H : Hp) (x y : V) (a b c : D) (Q : VK), Ex F H → Lk X.K F H x a → Lk X.K F H y b → g a b = some c → (∀ F' H' z, Al F H F' H' → Nw X.K H F' H' z c → Q z H') → r x y H Q
def CallD (X : Cx) (f : Value) (g : List D → Option D) : Prop := ∃ r, CallR X f r ∧
  ∀ (F H : Hp) (xs : List V) (as : List D) (c : D) (Q : VK), Ex F H → Paired (Lk X.K F H) xs as → g as = some c → (∀ F' H' z, Al F H F' H' → Nw X.K H F' H' z c → Q z H') → r xs H Q
theorem CallR.or {X : Cx} {f : Value} {r r' : List V → Hp → VK → Prop} (h : CallR X f r) (h' : CallR X f r') : CallR X f (fun x H Q => r x H Q ∨ r' x H Q) :=
  fun pins s σ H xs us Q I rx q => q.elim (fun q => h pins s σ H xs us Q I rx q) (fun q => h' pins s σ H xs us Q I rx q)
section
variable {X : Cx}
theorem Ex.refl' {F H : Hp} (e : Ex F H) : Al F H F H := Al.refl e
theorem opd_add : OpD X (binaryOp .Add) (opD .add) := by
  refine ⟨_, Ov.OpR.or op_add (Ov.OpR.or op_add_str (Ov.OpR.or op_cat op_catN)), fun F H x y a b c Q e hx hy g q => ?_⟩
  cases a <;> cases b <;> try (cases g; done)
  · rename_i i j
    cases hx.int; cases hy.int
    simp only [opD, Option.some.injEq] at g; subst g
    exact Or.inl ⟨i, j, rfl, rfl, q F H _ (Al.refl e) (.int _)⟩
  · rename_i i j
    cases hx.str; cases hy.str
    simp only [opD] at g
    split at g
    · cases g
      exact Or.inr (Or.inl ⟨i, j, rfl, rfl, by assumption, q F H _ (Al.refl e) (.str _)⟩)
    · cases g
  · rename_i as bs
    obtain ⟨p, vs, rfl, h1, h2, hc, hz, hr⟩ := hx.tup e
    obtain ⟨p', vs', rfl, h1', h2', hc', hz', hr'⟩ := hy.tup e
    simp only [opD] at g
    split at g
    · rename_i hl
      cases g
      refine Or.inr (Or.inr (Or.inr ⟨p, p', vs, vs', rfl, rfl, h1, h1', by rw [hr.length, hr'.length]; exact hl, fun h => ?_, fun h h' => ?_, fun h h' p2 ob hp2 hob => ?_⟩))
      · subst h
        cases hr
        exact q F H _ (Al.refl e) (.tup h2' hc' hz' hr')
      · subst h'
        cases hr'
        rw [List.append_nil] at q
        exact q F H _ (Al.refl e) (.tup h2 hc hz hr)
      · exact q _ _ _ (Al.one e hp2) (rp_new_tup hob (Ov.Ex.none e hp2) (by rw [List.length_append]; exact hl) (hr.append hr'))
    · cases g
  · rename_i as bs
    obtain ⟨p, vs, rfl, h1, hz, hr⟩ := hx
    obtain ⟨p', vs', rfl, h1', hz', hr'⟩ := hy
    simp only [opD] at g
    split at g
    · rename_i hl
      cases g
      refine Or.inr (Or.inr (Or.inl ⟨p, p', vs, vs', rfl, rfl, h1, h1', by rw [hr.length, hr'.length]; exact hl, fun p2 hp2 => ?_⟩))
      exact q _ _ _ (Al.own e hp2) (nw_lst e hp2 (by rw [List.length_append]; exact hl) (hr.append hr'))
    · cases g
theorem opd_sub : OpD X (binaryOp .Sub) (opD .sub) := by
  refine ⟨_, op_sub, fun F H x y a b c Q e hx hy g q => ?_⟩
  cases a <;> cases b <;> try (cases g; done)
  rename_i i j
  cases hx.int; cases hy.int
  simp only [opD, Option.some.injEq] at g; subst g
  exact ⟨i, j, rfl, rfl, q F H _ (Al.refl e) (.int _)⟩
theorem opd_mul : OpD X (binaryOp .Mult) (opD .mul) := by
  refine ⟨_, Ov.OpR.or (Ov.OpR.or op_mul op_rep) (Ov.OpR.or (Ov.OpR.or op_repN op_rep01) op_repS), fun F H x y a b c Q e hx hy g q => ?_⟩
  cases a <;> cases b <;> try (cases g; done)
  · rename_i i j
    cases hx.int; cases hy.int
    simp only [opD] at g
    split at g
    · rename_i hs
      cases g
      refine Or.inl (Or.inl ⟨i, j, rfl, rfl, ?_, q F H _ (Al.refl e) (.int _)⟩)
      simp only [small, Bool.or_eq_true, decide_eq_true_eq] at hs
      exact hs
    · cases g
  · rename_i z j
    cases hx.str; cases hy.int
    simp only [opD] at g
    split at g
    · rename_i hl
      cases g
      exact Or.inr (Or.inr ⟨z, j, rfl, rfl, hl.1, hl.2.1, hl.2.2.1, hl.2.2.2, q F H _ (Al.refl e) (.str _)⟩)
    · cases g
  · rename_i as j
    have hx : Rp X.K F x (.tup as) := hx
    cases hy.int
    cases hx with
    | tup h1 hc hz hr =>
      rename_i p vs
      simp only [opD] at g
      split at g
      · rename_i hl
        obtain ⟨hl0, hl1, hl2, hl3⟩ := hl
        cases g
        have hne : vs ≠ [] := fun z => by
          have := hr.length
          rw [z] at this
          rw [List.eq_nil_of_length_eq_zero this.symm] at hl0
          cases hl0
        by_cases h0 : j = 0
        · subst h0
          exact Or.inr (Or.inl (Or.inr ⟨p, vs, rfl, ex_t e h1, hne, Or.inr ⟨rfl, fun p2 ob hp2 hob => q _ _ _ (Al.one e hp2) (rp_new_tup hob (Ov.Ex.none e hp2) (Nat.zero_le _) .nil)⟩⟩))
        by_cases h01 : j = 1
        · subst h01
          refine Or.inr (Or.inl (Or.inr ⟨p, vs, rfl, ex_t e h1, hne, Or.inl ⟨rfl, q _ _ _ (Al.refl e) ?_⟩⟩))
          have : (List.replicate (1 : Int).toNat as).flatten = as := by simp
          show Rp X.K F _ (.tup (List.replicate (1 : Int).toNat as).flatten)
          rw [this]; exact .tup h1 hc hz hr
        · refine Or.inr (Or.inl (Or.inl ⟨p, j, vs, rfl, rfl, ex_t e h1, hne, by omega, hl2, by rw [hr.length]; exact hl3, fun p2 ob hp2 hob => ?_⟩))
          refine q _ _ _ (Al.one e hp2) (rp_new_tup hob (Ov.Ex.none e hp2) ?_ (hr.flat _))
          have a1 : j.toNat * as.length ≤ 1000 * 1000 := Nat.mul_le_mul (by omega) hl3
          rw [sizeLine_eq]
          simp [List.length_flatten]
          omega
      · cases g
  · rename_i as j
    obtain ⟨p, vs, rfl, h1, hz, hr⟩ := hx
    cases hy.int
    simp only [opD] at g
    split at g
    · rename_i hl
      cases g
      refine Or.inl (Or.inr ⟨p, j, vs, rfl, rfl, h1, hl.2.1, hl.2.2, by rw [hr.length]; exact hl.1, fun p2 hp2 => ?_⟩)
      exact q _ _ _ (Al.own e hp2) (nw_lst e hp2 (by simp [List.length_flatten]; rw [Nat.mul_comm]; exact hl.1) (hr.flat _))
    · cases g
theorem opd_fdiv : OpD X (binaryOp .FloorDiv) (opD .fdiv) := by
  refine ⟨_, op_fdivW, fun F H x y a b c Q e hx hy g q => ?_⟩
  cases a <;> cases b <;> try (cases g; done)
  rename_i i j
  cases hx.int; cases hy.int
  simp only [opD] at g
  split at g
  · cases g
    exact ⟨i, j, rfl, rfl, by assumption, q F H _ (Al.refl e) (.int _)⟩
  · cases g
theorem opd_mod : OpD X (binaryOp .Mod) (opD .mod) := by
  refine ⟨_, op_mod, fun F H x y a b c Q e hx hy g q => ?_⟩
  cases a <;> cases b <;> try (cases g; done)
  rename_i i j
  cases hx.int; cases hy.int
  simp only [opD] at g
  split at g
  · cases g
    exact ⟨i, j, rfl, rfl, by assumption, q F H _ (Al.refl e) (.int _)⟩
  · cases g
theorem opd_pow : OpD X (binaryOp .Pow) (opD .pow) := by
  refine ⟨_, op_pow, fun F H x y a b c Q e hx hy g q => ?_⟩
  cases a <;> cases b <;> try (cases g; done)
  rename_i i j
  cases hx.int; cases hy.int
  simp only [opD] at g
  split at g
  · cases g
    exact ⟨i, j, rfl, rfl, by assumption, q F H _ (Al.refl e) (.int _)⟩
  · cases g
end
end Ov

set_option maxHeartbeats 2000000
namespace Ov
open PySem PySem.Spec PyProof.Rows L2 Evl
mutual
theorem D.plain : ∀ d : D, d.py.plain = true
  | .non => rfl
  | .bl _ => rfl
  | .int _ => rfl
  | .str _ => rfl
  | .tup xs => D.plains xs
  | .lst xs => D.plains xs
theorem D.plains : ∀ ds : List D, PyData.plainAll (D.pys ds) = true
  | [] => rfl
  | x :: xs => by
    show (x.py.plain && PyData.plainAll (D.pys xs)) = true
    rw [D.plain x, D.plains xs]; rfl
end
mutual
theorem D.depth_py : ∀ d : D, d.py.depth = d.depth
  | .non => rfl
  | .bl _ => rfl
  | .int _ => rfl
  | .str _ => rfl
  | .tup xs => by
    show PyData.depthAll (D.pys xs) + 1 = D.depths xs + 1
    rw [D.depths_py xs]
  | .lst xs => by
    show PyData.depthAll (D.pys xs) + 1 = D.depths xs + 1
    rw [D.depths_py xs]
theorem D.depths_py : ∀ ds : List D, PyData.depthAll (D.pys ds) = D.depths ds
  | [] => rfl
  | x :: xs => by
    show max x.py.depth (PyData.depthAll (D.pys xs)) = max x.depth (D.depths xs)
    rw [D.depth_py x, D.depths_py xs]
end
mutual
theorem D.eqv_py : ∀ a b : D, PyData.eqv a.py b.py = D.eqv a b
  | .tup xs, .tup ys => by
    show PyData.eqvAll (D.pys xs) (D.pys ys) = D.eqvs xs ys
    exact D.eqvs_py xs ys
  | .lst xs, .lst ys => by
    show PyData.eqvAll (D.pys xs) (D.pys ys) = D.eqvs xs ys
    exact D.eqvs_py xs ys
  | .non, b => by cases b <;> simp [D.py, PyData.eqv, D.eqv]
  | .bl _, b => by cases b <;> simp [D.py, PyData.eqv, D.eqv]
  | .int _, b => by cases b <;> simp [D.py, PyData.eqv, D.eqv]
  | .str _, b => by cases b <;> simp [D.py, PyData.eqv, D.eqv]
  | .tup _, .non => by simp [D.py, PyData.eqv, D.eqv]
  | .tup _, .bl _ => by simp [D.py, PyData.eqv, D.eqv]
  | .tup _, .int _ => by simp [D.py, PyData.eqv, D.eqv]
  | .tup _, .str _ => by simp [D.py, PyData.eqv, D.eqv]
  | .tup _, .lst _ => by simp [D.py, PyData.eqv, D.eqv]
  | .lst _, .non => by simp [D.py, PyData.eqv, D.eqv]
  | .lst _, .bl _ => by simp [D.py, PyData.eqv, D.eqv]
  | .lst _, .int _ => by simp [D.py, PyData.eqv, D.eqv]
  | .lst _, .str _ => by simp [D.py, PyData.eqv, D.eqv]
  | .lst _, .tup _ => by simp [D.py, PyData.eqv, D.eqv]
theorem D.eqvs_py : ∀ xs ys : List D, PyData.eqvAll (D.pys xs) (D.pys ys) = D.eqvs xs ys
  | [], [] => by simp [D.pys, PyData.eqvAll, D.eqvs]
  | [], _ :: _ => by simp [D.pys, PyData.eqvAll, D.eqvs]
  | _ :: _, [] => by simp [D.pys, PyData.eqvAll, D.eqvs]
  | x :: xs, y :: ys => by
    simp only [D.pys, PyData.eqvAll, D.eqvs]
    rw [D.eqv_py x y, D.eqvs_py xs ys]
end
theorem pys_any (x : D) : ∀ xs : List D, ((D.pys xs).any fun y => PyData.eqv y x.py) = xs.any fun y => D.eqv y x
  | [] => rfl
  | y :: ys => by
    simp only [D.pys, List.any_cons]
    rw [D.eqv_py y x, pys_any x ys]
mutual
theorem Rp.dp {K : PySem.W.Frag} {H : Hp} : ∀ {d : D} {v : V}, Rp K H v d → Dp K H v d.py
  | .non, _, h => by cases h; exact .non
  | .bl b, _, h => by cases h; exact .bl b
  | .int b, _, h => by cases h; exact .int b
  | .str b, _, h => by cases h; exact .str b
  | .lst ds, _, h => by
    cases h with
    | lst hs hz ha => exact .lst (Or.inl (Or.inl hs)) (Rps.dp ha)
  | .tup ds, _, h => by
    cases h with
    | tup hs hc hz ha => exact .tup hs (Rps.dp ha)
theorem Rps.dp {K : PySem.W.Frag} {H : Hp} : ∀ {ds : List D} {vs : List V}, Rps K H vs ds → DpAll K H vs (D.pys ds)
  | [], _, h => by cases h; exact .nil
  | d :: ds, _, h => by
    cases h with
    | cons h1 h2 => exact .cons (Rp.dp h1) (Rps.dp h2)
end
section
variable {X : Cx}
def rEqP (K : PySem.W.Frag) (ng : Bool) : R2 := fun x y H Q => ∃ a b : D, Rp K H x a ∧ Rp K H y b ∧ min a.depth b.depth ≤ 64 ∧ Q (.bl (if ng then !D.eqv a b else D.eqv a b)) H
theorem op_eqP (hu : X.A.units + 65 < cLine) : OpR X (compareOp .Eq) (rEqP X.K false) := by
  intro pins s σ H x y v u Q I rx ry h
  obtain ⟨a, b, ha, hb, hd, q⟩ := h
  obtain ⟨as, h1⟩ := Dp.reads I _ _ _ ha.dp rx
  obtain ⟨bs, h2⟩ := Dp.reads I _ _ _ hb.dp ry
  refine PySem.SeqAt.eq_plain h1 h2 (D.plain a) (D.plain b) (by rw [D.depth_py, D.depth_py]; omega) ⟨.bl _, H, I, rfl, ?_⟩
  rw [D.eqv_py]; exact q
theorem op_neP (hu : X.A.units + 65 < cLine) : OpR X (compareOp .NotEq) (rEqP X.K true) := by
  intro pins s σ H x y v u Q I rx ry h
  obtain ⟨a, b, ha, hb, hd, q⟩ := h
  obtain ⟨as, h1⟩ := Dp.reads I _ _ _ ha.dp rx
  obtain ⟨bs, h2⟩ := Dp.reads I _ _ _ hb.dp ry
  refine PySem.SeqAt.ne_plain h1 h2 (D.plain a) (D.plain b) (by rw [D.depth_py, D.depth_py]; omega) ⟨.bl _, H, I, rfl, ?_⟩
  rw [D.eqv_py]; exact q
def rInP (K : PySem.W.Frag) (ng : Bool) : R2 := fun x y H Q => ∃ (a : D) (bs : List D), Rp K H x a ∧ (Rp K H y (.lst bs) ∨ Rp K H y (.tup bs)) ∧ min (D.depths bs) a.depth ≤ 64 ∧ Q (.bl (if ng then !(bs.any fun z => D.eqv z a) else (bs.any fun z => D.eqv z a))) H
theorem op_inP (hu : X.A.units + 65 < cLine) : OpR X (compareOp .In) (rInP X.K false) := by
  intro pins s σ H x y v u Q I rx ry h
  obtain ⟨a, bs, ha, hb, hd, q⟩ := h
  obtain ⟨as, h1⟩ := Dp.reads I _ _ _ ha.dp rx
  rcases hb with hb | hb
  · obtain ⟨cs, h2⟩ := Dp.reads I _ _ _ hb.dp ry
    refine PySem.SeqAt.in_list_data h2 h1 (D.plains bs) (D.plain a) (by rw [D.depth_py, D.depths_py]; omega) ⟨.bl _, H, I, rfl, ?_⟩
    rw [pys_any]; exact q
  · obtain ⟨cs, h2⟩ := Dp.reads I _ _ _ hb.dp ry
    refine PySem.SeqAt.in_tuple_data h2 h1 (D.plains bs) (D.plain a) (by rw [D.depth_py, D.depths_py]; omega) ⟨.bl _, H, I, rfl, ?_⟩
    rw [pys_any]; exact q
theorem op_ninP (hu : X.A.units + 65 < cLine) : OpR X (compareOp .NotIn) (rInP X.K true) := by
  intro pins s σ H x y v u Q I rx ry h
  obtain ⟨a, bs, ha, hb, hd, q⟩ := h
  obtain ⟨as, h1⟩ := Dp.reads I _ _ _ ha.dp rx
  rcases hb with hb | hb
  · obtain ⟨cs, h2⟩ := Dp.reads I _ _ _ hb.dp ry
    refine PySem.SeqAt.notIn_list_data h2 h1 (D.plains bs) (D.plain a) (by rw [D.depth_py, D.depths_py]; omega) ⟨.bl _, H, I, rfl, ?_⟩
    rw [pys_any]; exact q
  · obtain ⟨cs, h2⟩ := Dp.reads I _ _ _ hb.dp ry
    refine PySem.SeqAt.notIn_tuple_data h2 h1 (D.plains bs) (D.plain a) (by rw [D.depth_py, D.depths_py]; omega) ⟨.bl _, H, I, rfl, ?_⟩
    rw [pys_any]; exact q
def COp.py : COp → CmpOp
  | .eq => .Eq | .ne => .NotEq | .lt => .Lt | .le => .LtE | .gt => .Gt | .ge => .GtE | .isin => .In | .notin => .NotIn
theorem opd_cmp (hu : X.A.units + 65 < cLine) : ∀ o : COp, OpD X (compareOp o.py) (fun a b => (cmpD o a b).map D.bl)
  | .eq => by
    refine ⟨_, op_eqP hu, fun F H x y a b c Q e hx hy g q => ?_⟩
    simp only [cmpD, eqD] at g
    split at g
    · simp only [Option.map_some, Option.some.injEq] at g; subst g
      exact ⟨a, b, hx.rp e, hy.rp e, by assumption, q F H _ (Al.refl e) (.bl _)⟩
    · simp at g
  | .ne => by
    refine ⟨_, op_neP hu, fun F H x y a b c Q e hx hy g q => ?_⟩
    simp only [cmpD, eqD] at g
    split at g
    · simp only [Option.map_some, Option.some.injEq] at g; subst g
      exact ⟨a, b, hx.rp e, hy.rp e, by assumption, q F H _ (Al.refl e) (.bl _)⟩
    · simp at g
  | .lt => by
    refine ⟨_, Ov.OpR.or op_lt op_lt_str, fun F H x y a b c Q e hx hy g q => ?_⟩
    cases a <;> cases b <;> try (cases g; done)
    · cases hx.int; cases hy.int; cases g
      exact Or.inl ⟨_, _, rfl, rfl, q F H _ (Al.refl e) (.bl _)⟩
    · cases hx.str; cases hy.str; cases g
      exact Or.inr ⟨_, _, rfl, rfl, q F H _ (Al.refl e) (.bl _)⟩
  | .le => by
    refine ⟨_, op_le, fun F H x y a b c Q e hx hy g q => ?_⟩
    cases a <;> cases b <;> try (cases g; done)
    cases hx.int; cases hy.int; cases g
    exact ⟨_, _, rfl, rfl, q F H _ (Al.refl e) (.bl _)⟩
  | .gt => by
    refine ⟨_, op_gt, fun F H x y a b c Q e hx hy g q => ?_⟩
    cases a <;> cases b <;> try (cases g; done)
    cases hx.int; cases hy.int; cases g
    exact ⟨_, _, rfl, rfl, q F H _ (Al.refl e) (.bl _)⟩
  | .ge => by
    refine ⟨_, op_ge, fun F H x y a b c Q e hx hy g q => ?_⟩
    cases a <;> cases b <;> try (cases g; done)
    cases hx.int; cases hy.int; cases g
    exact ⟨_, _, rfl, rfl, q F H _ (Al.refl e) (.bl _)⟩
  | .isin => by
    refine ⟨_, Ov.OpR.or (op_inP hu) op_in_sign, fun F H x y a b c Q e hx hy g q => ?_⟩
    have fin : ∀ bs : List D, (Rp X.K H y (.lst bs) ∨ Rp X.K H y (.tup bs)) → ((inD a bs).map D.bl) = some c → rInP X.K false x y H Q := fun bs hb g => by
      unfold inD at g
      split at g
      · simp only [Option.map_some, Option.some.injEq] at g; subst g
        exact ⟨a, bs, hx.rp e, hb, by assumption, q F H _ (Al.refl e) (.bl _)⟩
      · simp at g
    cases b with
    | lst bs =>
      refine Or.inl (fin bs (Or.inl (hy.rp e)) ?_)
      cases a <;> exact g
    | tup bs =>
      refine Or.inl (fin bs (Or.inr (hy.rp e)) ?_)
      cases a <;> exact g
    | str z =>
      cases a <;> try (cases g; done)
      rename_i a
      cases hx.str; cases hy.str
      have g : (match a.cps.toList with | [c] => some (decide (c ∈ z.cps.toList)) | _ => none).map D.bl = some c := g
      split at g
      · rename_i ch he
        cases g
        refine Or.inr ⟨ch, z, ?_, rfl, q F H _ (Al.refl e) (.bl _)⟩
        have : a = ⟨#[ch]⟩ := by
          cases a with
          | mk cps =>
            congr 1
            exact Array.ext' (by simpa using he)
        rw [this]
      · cases g
    | _ => cases a <;> cases g
  | .notin => by
    refine ⟨_, op_ninP hu, fun F H x y a b c Q e hx hy g q => ?_⟩
    have fin : ∀ bs : List D, (Rp X.K H y (.lst bs) ∨ Rp X.K H y (.tup bs)) → (((inD a bs).map (!·)).map D.bl) = some c → rInP X.K true x y H Q := fun bs hb g => by
      unfold inD at g
      split at g
      · simp only [Option.map_some, Option.some.injEq] at g; subst g
        exact ⟨a, bs, hx.rp e, hb, by assumption, q F H _ (Al.refl e) (.bl _)⟩
      · simp at g
    cases b with
    | lst bs =>
      refine (fin bs (Or.inl (hy.rp e)) ?_)
      cases a <;> exact g
    | tup bs =>
      refine (fin bs (Or.inr (hy.rp e)) ?_)
      cases a <;> exact g
    | _ => cases a <;> cases g
end
end Ov

set_option maxHeartbeats 2000000
namespace Ov
open PySem PySem.Spec PyProof.Rows L2 Evl
section
variable {X : Cx} {K : PySem.W.Frag} {F H : Hp}
theorem boolsD_vs : ∀ {ds : List D} {vs : List V} {bs : List Bool}, Rps K F vs ds → boolsD ds = some bs → vs = bs.map V.bl
  | [], _, _, h, e => by cases h; cases e; rfl
  | d :: ds, _, _, h, e => by
    cases h with
    | cons h1 h2 =>
      cases d <;> try (cases e; done)
      simp only [boolsD] at e
      cases q : boolsD ds with
      | none => rw [q] at e; cases e
      | some r =>
        rw [q] at e; cases e
        cases h1
        rw [boolsD_vs h2 q]; rfl
theorem intsD_vs : ∀ {ds : List D} {vs : List V} {bs : List Int}, Rps K F vs ds → intsD ds = some bs → vs = bs.map V.int
  | [], _, _, h, e => by cases h; cases e; rfl
  | d :: ds, _, _, h, e => by
    cases h with
    | cons h1 h2 =>
      cases d <;> try (cases e; done)
      simp only [intsD] at e
      cases q : intsD ds with
      | none => rw [q] at e; cases e
      | some r =>
        rw [q] at e; cases e
        cases h1
        rw [intsD_vs h2 q]; rfl
theorem strsD_vs {K : PySem.W.Frag} {F : Hp} : ∀ {ds : List D} {vs : List V} {ss : List Str}, Rps K F vs ds → strsD ds = some ss → vs = ss.map V.str
  | [], _, _, h, e => by cases h; cases e; rfl
  | d :: ds, _, _, h, e => by
    cases h with
    | cons h1 h2 =>
      cases d <;> try (cases e; done)
      simp only [strsD] at e
      cases q : strsD ds with
      | none => rw [q] at e; cases e
      | some r =>
        rw [q] at e; cases e
        cases h1
        rw [strsD_vs h2 q]; rfl
def Bi.name : Bi → String
  | .len => "len" | .abs => "abs" | .int => "int" | .min2 => "min" | .max2 => "max" | .minL => "min" | .maxL => "max" | .sum => "sum" | .all => "all" | .any => "any" | .tuple => "tuple" | .list => "list" | .repr => "repr" | .str => "str"
def Bi.isTy : Bi → Bool
  | .int => true | .tuple => true | .list => true | .str => true | _ => false
def Bi.val (b : Bi) : Value := if b.isTy then .type b.name else .builtin b.name
theorem pr1 {R : V → D → Prop} {xs : List V} {as : List D} {f : D → Option D} {c : D} (h : Paired R xs as) (g : un1 f as = some c) : ∃ x a, xs = [x] ∧ R x a ∧ f a = some c := by
  cases h with
  | nil => cases g
  | cons h r =>
    cases r with
    | nil => exact ⟨_, _, rfl, h, g⟩
    | cons _ _ => cases g
theorem pr2 {R : V → D → Prop} {xs : List V} {as : List D} {f : D → D → Option D} {c : D} (h : Paired R xs as) (g : un2 f as = some c) : ∃ x y a b, xs = [x, y] ∧ R x a ∧ R y b ∧ f a b = some c := by
  cases h with
  | nil => cases g
  | cons h r =>
    cases r with
    | nil => cases g
    | cons h2 r2 =>
      cases r2 with
      | nil => exact ⟨_, _, _, _, rfl, h, h2, g⟩
      | cons _ _ => cases g
/-- len, of the script too -/
theorem cd_lenS : ∃ r, CallR X (.builtin "len") r ∧ ∀ (F H : Hp) (x : V) (a c : D) (Q : VK), Ex F H → LkS X.K F H x a → lenD a = some c → (∀ z, Rp X.K F z c → Q z H) → r [x] H Q := by
  refine ⟨_, Ov.CallR.or call_len_seq call_len_str, fun F H x a c Q e h g q => ?_⟩
  cases a <;> try (cases g; done)
  · have h : Rp X.K F x (.str _) := h
    cases h
    simp only [lenD] at g
    split at g
    · cases g; exact Or.inr ⟨_, rfl, by assumption, q _ (.int _)⟩
    · cases g
  · have h : Rp X.K F x (.tup _) := h
    cases h with
    | tup hs hc hz hr =>
      cases g
      refine Or.inl ⟨_, _, rfl, Or.inr (ex_t e hs), ?_⟩
      rw [hr.length]; exact q _ (.int _)
  · obtain ⟨p, vs, rfl, h1, hz, hr⟩ := h
    cases g
    refine Or.inl ⟨p, vs, rfl, Or.inl h1, ?_⟩
    rw [hr.length]; exact q _ (.int _)
/-! repr of data -/
mutual
theorem noDict : ∀ d : D, d.py.hasDict = false
  | .non => rfl
  | .bl _ => rfl
  | .int _ => rfl
  | .str _ => rfl
  | .tup xs => by simp only [D.py, PyData.hasDict]; exact noDicts xs
  | .lst xs => by simp only [D.py, PyData.hasDict]; exact noDicts xs
theorem noDicts : ∀ ds : List D, PyData.hasDictAll (D.pys ds) = false
  | [] => rfl
  | x :: xs => by simp only [D.pys, PyData.hasDictAll, noDict x, noDicts xs, Bool.or_self]
end
theorem call_repr (hgd : X.A.guards = some []) (hu : X.A.units + 65 < cLine) : CallR X (.builtin "repr") (fun xs H Q => ∃ x d, xs = [x] ∧ Dp X.K H x (D.py d) ∧ d.depth ≤ 60 ∧ d.py.showable = true ∧ d.py.shown.length ≤ sizeLine ∧ Q (.str d.py.shown) H) := by
  intro pins s σ H xs us Q I r h
  obtain ⟨x, d, rfl, hd, h1, h2, h3, q⟩ := h
  obtain ⟨u, rfl, rx⟩ := vals1 r
  have fin : ∀ (h' : Heap) (t : Tok) (tk : Nat), (∀ b o, s.heap.get? b = some o → h'.get? b = some o) → EP X pins σ Q (.str d.py.shown t) { s with heap := h', toks := tk } := fun h' t tk k => ⟨.str _, H, I.kept k, ⟨t, rfl⟩, q⟩
  have seq : ∀ a, u = .ref a → wpAny (model X.prog X.w) X.A (call (.builtin "repr") [.ref a]) (EP X pins σ Q) X.xe s := fun a e => by
    obtain ⟨as, rd⟩ := Dp.reads I _ _ _ hd rx
    subst e
    exact repr_of_reads' rd h2 (fun z => by rw [noDict] at z; cases z) hgd (by rw [D.depth_py]; omega) (fun _ _ z => z) (fun h' t tk k => fin h' t tk k) h3
  cases d with
  | non => cases hd; cases rx; exact PySem.P.repr_of_none (fin s.heap _ _ fun _ _ z => z)
  | bl b => cases hd; cases rx; exact PySem.P.repr_of_bool (fin s.heap _ _ fun _ _ z => z)
  | int i => cases hd; obtain ⟨t, rfl⟩ := rx; exact PySem.P.repr_of_int (of_decide_eq_true h2) (fin s.heap _ _ fun _ _ z => z)
  | str i => cases hd; obtain ⟨t, rfl⟩ := rx; exact PySem.P.repr_of_str (fin s.heap _ _ fun _ _ z => z) h3
  | tup ds => cases hd with | tup _ _ => cases rx; exact seq _ rfl
  | lst ds => cases hd with | lst _ _ => cases rx; exact seq _ rfl
theorem cd_of_bi (hc : X.calm = true) (hgd : X.A.guards = some []) (hu : X.A.units + 65 < cLine) : ∀ b : Bi, CallD X b.val (biD b)
  | .len => by
    obtain ⟨r, h1, h2⟩ := cd_lenS (X := X)
    refine ⟨r, h1, fun F H xs as c Q e hp g q => ?_⟩
    obtain ⟨x, a, rfl, hx, g⟩ := pr1 hp g
    refine h2 F H x a c Q e hx.s g fun z hz => q F H z (Al.refl e) ?_
    cases c <;> try exact hz
    cases a <;> simp [lenD] at g
  | .abs => by
    refine ⟨_, call_abs, fun F H xs as c Q e hp g q => ?_⟩
    obtain ⟨x, a, rfl, hx, g⟩ := pr1 hp g
    cases a <;> try (cases g; done)
    cases hx.int; cases g
    exact ⟨_, rfl, q F H _ (Al.refl e) (.int _)⟩
  | .int => by
    refine ⟨_, call_int1, fun F H xs as c Q e hp g q => ?_⟩
    obtain ⟨x, a, rfl, hx, g⟩ := pr1 hp g
    cases a <;> try (cases g; done)
    · cases hx.bl; cases g
      exact Or.inr ⟨_, rfl, q F H _ (Al.refl e) (.int _)⟩
    · cases hx.int; cases g
      exact Or.inl ⟨_, rfl, q F H _ (Al.refl e) (.int _)⟩
  | .min2 => by
    refine ⟨_, call_min2 hc, fun F H xs as c Q e hp g q => ?_⟩
    obtain ⟨x, y, a, b, rfl, hx, hy, g⟩ := pr2 hp g
    cases a <;> cases b <;> try (cases g; done)
    cases hx.int; cases hy.int; cases g
    exact ⟨_, _, rfl, q F H _ (Al.refl e) (.int _)⟩
  | .max2 => by
    refine ⟨_, call_max2 hc, fun F H xs as c Q e hp g q => ?_⟩
    obtain ⟨x, y, a, b, rfl, hx, hy, g⟩ := pr2 hp g
    cases a <;> cases b <;> try (cases g; done)
    cases hx.int; cases hy.int; cases g
    exact ⟨_, _, rfl, q F H _ (Al.refl e) (.int _)⟩
  | .minL => by
    refine ⟨_, Ov.CallR.or (cr_min hc) (cr_minS hc), fun F H xs as c Q e hp g q => ?_⟩
    obtain ⟨x, a, rfl, hx, g⟩ := pr1 hp g
    cases a <;> try (cases g; done)
    obtain ⟨p, vs, rfl, h1, hz, hr⟩ := hx
    rename_i ds
    simp only [minLD, bestD] at g
    cases hb : intsD ds with
    | some ns =>
      rw [hb] at g
      obtain ⟨m, hm, g⟩ := Option.map_eq_some_iff.mp g
      cases g
      have ev := intsD_vs hr hb
      subst ev
      obtain ⟨m1, m2⟩ := List.min?_eq_some_iff.mp hm
      refine Or.inl ⟨p, ns, rfl, Or.inl (Or.inl h1), List.length_pos_of_mem m1, fun m' k1 k2 => ?_⟩
      have : m' = m := Int.le_antisymm (k2 m m1) (m2 m' k1)
      rw [this]
      exact q F H _ (Al.refl e) (.int _)
    | none =>
      rw [hb] at g
      cases hs : strsD ds with
      | none => rw [hs] at g; cases g
      | some ss =>
        rw [hs] at g
        obtain ⟨m, hm, g⟩ := Option.map_eq_some_iff.mp g
        cases g
        have ev := strsD_vs hr hs
        subst ev
        have hl : 0 < ss.length := by
          rcases Nat.lt_or_ge 0 ss.length with z | z
          · exact z
          · rw [List.getElem?_eq_none (by omega)] at hm; cases hm
        refine Or.inr ⟨p, ss, rfl, Or.inl (Or.inl h1), hl, fun m' k1 => ?_⟩
        rw [hm] at k1; cases k1
        exact q F H _ (Al.refl e) (.str _)
  | .maxL => by
    refine ⟨_, Ov.CallR.or (cr_max hc) (cr_maxS hc), fun F H xs as c Q e hp g q => ?_⟩
    obtain ⟨x, a, rfl, hx, g⟩ := pr1 hp g
    cases a <;> try (cases g; done)
    obtain ⟨p, vs, rfl, h1, hz, hr⟩ := hx
    rename_i ds
    simp only [maxLD, bestD] at g
    cases hb : intsD ds with
    | some ns =>
      rw [hb] at g
      obtain ⟨m, hm, g⟩ := Option.map_eq_some_iff.mp g
      cases g
      have ev := intsD_vs hr hb
      subst ev
      obtain ⟨m1, m2⟩ := List.max?_eq_some_iff.mp hm
      refine Or.inl ⟨p, ns, rfl, Or.inl (Or.inl h1), List.length_pos_of_mem m1, fun m' k1 k2 => ?_⟩
      have : m' = m := Int.le_antisymm (m2 m' k1) (k2 m m1)
      rw [this]
      exact q F H _ (Al.refl e) (.int _)
    | none =>
      rw [hb] at g
      cases hs : strsD ds with
      | none => rw [hs] at g; cases g
      | some ss =>
        rw [hs] at g
        obtain ⟨m, hm, g⟩ := Option.map_eq_some_iff.mp g
        cases g
        have ev := strsD_vs hr hs
        subst ev
        have hl : 0 < ss.length := by
          rcases Nat.lt_or_ge 0 ss.length with z | z
          · exact z
          · rw [List.getElem?_eq_none (by omega)] at hm; cases hm
        refine Or.inr ⟨p, ss, rfl, Or.inl (Or.inl h1), hl, fun m' k1 => ?_⟩
        rw [hm] at k1; cases k1
        exact q F H _ (Al.refl e) (.str _)
  | .str => by
    refine ⟨_, call_str_int, fun F H xs as c Q e hp g q => ?_⟩
    obtain ⟨x, a, rfl, hx, g⟩ := pr1 hp g
    cases a with
    | int i =>
      have g : (if i.natAbs.log2 < 1920 then some (D.str (Str.ofString (toString i))) else none) = some c := g
      by_cases hc : i.natAbs.log2 < 1920
      · rw [if_pos hc] at g
        cases g
        cases hx.int
        exact ⟨_, rfl, hc, q F H _ (Al.refl e) (.str _)⟩
      · rw [if_neg hc] at g; cases g
    | _ => cases g
  | .repr => by
    refine ⟨_, call_repr hgd hu, fun F H xs as c Q e hp g q => ?_⟩
    obtain ⟨x, a, rfl, hx, g⟩ := pr1 hp g
    unfold reprD at g
    split at g
    · rename_i hc
      cases g
      refine ⟨x, a, rfl, ?_, hc.1, hc.2.1, hc.2.2, q F H _ (Al.refl e) (.str _)⟩
      cases a with
      | lst ds =>
        obtain ⟨p', vs', rfl, h1', hz', hr'⟩ := hx
        exact (Rp.lst h1' hz' (hr'.mono e)).dp
      | non => exact (Rp.mono e hx).dp
      | bl _ => exact (Rp.mono e hx).dp
      | int _ => exact (Rp.mono e hx).dp
      | str _ => exact (Rp.mono e hx).dp
      | tup _ => exact (Rp.mono e hx).dp
    · cases g
  | .sum => by
    refine ⟨_, cr_sum hc, fun F H xs as c Q e hp g q => ?_⟩
    obtain ⟨x, a, rfl, hx, g⟩ := pr1 hp g
    cases a <;> try (cases g; done)
    obtain ⟨p, vs, rfl, h1, hz, hr⟩ := hx
    rename_i ds
    simp only [sumD] at g
    cases hb : intsD ds with
    | none => rw [hb] at g; cases g
    | some ns =>
      rw [hb] at g; cases g
      have ev := intsD_vs hr hb
      subst ev
      exact ⟨p, ns, rfl, Or.inl (Or.inl h1), q F H _ (Al.refl e) (.int _)⟩
  | .all => by
    refine ⟨_, cr_all hc, fun F H xs as c Q e hp g q => ?_⟩
    obtain ⟨x, a, rfl, hx, g⟩ := pr1 hp g
    cases a <;> try (cases g; done)
    obtain ⟨p, vs, rfl, h1, hz, hr⟩ := hx
    rename_i ds
    simp only [allD] at g
    cases hb : boolsD ds with
    | none => rw [hb] at g; cases g
    | some ns =>
      rw [hb] at g; cases g
      have ev := boolsD_vs hr hb
      subst ev
      exact ⟨p, ns, rfl, Or.inl (Or.inl h1), q F H _ (Al.refl e) (.bl _)⟩
  | .any => by
    refine ⟨_, cr_any hc, fun F H xs as c Q e hp g q => ?_⟩
    obtain ⟨x, a, rfl, hx, g⟩ := pr1 hp g
    cases a <;> try (cases g; done)
    obtain ⟨p, vs, rfl, h1, hz, hr⟩ := hx
    rename_i ds
    simp only [anyD] at g
    cases hb : boolsD ds with
    | none => rw [hb] at g; cases g
    | some ns =>
      rw [hb] at g; cases g
      have ev := boolsD_vs hr hb
      subst ev
      exact ⟨p, ns, rfl, Or.inl (Or.inl h1), q F H _ (Al.refl e) (.bl _)⟩
  | .tuple => by
    refine ⟨_, call_tupN, fun F H xs as c Q e hp g q => ?_⟩
    obtain ⟨x, a, rfl, hx, g⟩ := pr1 hp g
    cases a <;> try (cases g; done)
    · obtain ⟨p, vs, rfl, h1, h2, hc, hz, hr⟩ := hx.tup e
      cases g
      exact ⟨p, vs, rfl, Or.inr ⟨h1, q F H _ (Al.refl e) (.tup h2 hc hz hr)⟩⟩
    · obtain ⟨p, vs, rfl, h1, hz, hr⟩ := hx
      cases g
      exact ⟨p, vs, rfl, Or.inl ⟨Or.inl (Or.inl h1), fun l ob hl hob => q _ _ _ (Al.one e hl) (rp_new_tup hob (Ov.Ex.none e hl) hz hr)⟩⟩
  | .list => by
    refine ⟨_, call_list_of, fun F H xs as c Q e hp g q => ?_⟩
    obtain ⟨x, a, rfl, hx, g⟩ := pr1 hp g
    cases a <;> try (cases g; done)
    · obtain ⟨p, vs, rfl, h1, h2, hc, hz, hr⟩ := hx.tup e
      cases g
      exact ⟨p, vs, rfl, Or.inr h1, fun l hl => q _ _ _ (Al.own e hl) (nw_lst e hl hz hr)⟩
    · obtain ⟨p, vs, rfl, h1, hz, hr⟩ := hx
      cases g
      exact ⟨p, vs, rfl, Or.inl (Or.inl (Or.inl h1)), fun l hl => q _ _ _ (Al.own e hl) (nw_lst e hl hz hr)⟩
/-! ### isinstance -/
def D.ty : D → String
  | .non => "NoneType" | .bl _ => "bool" | .int _ => "int" | .str _ => "str" | .tup _ => "tuple" | .lst _ => "list"
theorem kit_non_int : kitB "NoneType" "int" = some false := by decide +kernel
theorem kit_non_bool : kitB "NoneType" "bool" = some false := by decide +kernel
theorem kit_non_str : kitB "NoneType" "str" = some false := by decide +kernel
theorem kit_non_list : kitB "NoneType" "list" = some false := by decide +kernel
theorem kit_non_tuple : kitB "NoneType" "tuple" = some false := by decide +kernel
theorem kit_bl_int : kitB "bool" "int" = some true := by decide +kernel
theorem kit_bl_bool : kitB "bool" "bool" = some true := by decide +kernel
theorem kit_bl_str : kitB "bool" "str" = some false := by decide +kernel
theorem kit_bl_list : kitB "bool" "list" = some false := by decide +kernel
theorem kit_bl_tuple : kitB "bool" "tuple" = some false := by decide +kernel
theorem kit_int_int : kitB "int" "int" = some true := by decide +kernel
theorem kit_int_bool : kitB "int" "bool" = some false := by decide +kernel
theorem kit_int_str : kitB "int" "str" = some false := by decide +kernel
theorem kit_int_list : kitB "int" "list" = some false := by decide +kernel
theorem kit_int_tuple : kitB "int" "tuple" = some false := by decide +kernel
theorem kit_str_int : kitB "str" "int" = some false := by decide +kernel
theorem kit_str_bool : kitB "str" "bool" = some false := by decide +kernel
theorem kit_str_str : kitB "str" "str" = some true := by decide +kernel
theorem kit_str_list : kitB "str" "list" = some false := by decide +kernel
theorem kit_str_tuple : kitB "str" "tuple" = some false := by decide +kernel
theorem kit_tup_int : kitB "tuple" "int" = some false := by decide +kernel
theorem kit_tup_bool : kitB "tuple" "bool" = some false := by decide +kernel
theorem kit_tup_str : kitB "tuple" "str" = some false := by decide +kernel
theorem kit_tup_list : kitB "tuple" "list" = some false := by decide +kernel
theorem kit_tup_tuple : kitB "tuple" "tuple" = some true := by decide +kernel
theorem kit_lst_int : kitB "list" "int" = some false := by decide +kernel
theorem kit_lst_bool : kitB "list" "bool" = some false := by decide +kernel
theorem kit_lst_str : kitB "list" "str" = some false := by decide +kernel
theorem kit_lst_list : kitB "list" "list" = some true := by decide +kernel
theorem kit_lst_tuple : kitB "list" "tuple" = some false := by decide +kernel
theorem kit_d : ∀ (x : D) (t : Ty), kitB x.ty t.nm = some (isTy t x)
  | .non, .int => kit_non_int
  | .non, .bool => kit_non_bool
  | .non, .str => kit_non_str
  | .non, .list => kit_non_list
  | .non, .tuple => kit_non_tuple
  | .bl _, .int => kit_bl_int
  | .bl _, .bool => kit_bl_bool
  | .bl _, .str => kit_bl_str
  | .bl _, .list => kit_bl_list
  | .bl _, .tuple => kit_bl_tuple
  | .int _, .int => kit_int_int
  | .int _, .bool => kit_int_bool
  | .int _, .str => kit_int_str
  | .int _, .list => kit_int_list
  | .int _, .tuple => kit_int_tuple
  | .str _, .int => kit_str_int
  | .str _, .bool => kit_str_bool
  | .str _, .str => kit_str_str
  | .str _, .list => kit_str_list
  | .str _, .tuple => kit_str_tuple
  | .tup _, .int => kit_tup_int
  | .tup _, .bool => kit_tup_bool
  | .tup _, .str => kit_tup_str
  | .tup _, .list => kit_tup_list
  | .tup _, .tuple => kit_tup_tuple
  | .lst _, .int => kit_lst_int
  | .lst _, .bool => kit_lst_bool
  | .lst _, .str => kit_lst_str
  | .lst _, .list => kit_lst_list
  | .lst _, .tuple => kit_lst_tuple
theorem kit_ds {K : PySem.W.Frag} (x : D) : ∀ ts : List Ty, PySem.W.kitAny K (.type x.ty) (ts.map fun t => Value.type t.nm) = some (isTys ts x)
  | [] => rfl
  | t :: ts => by
    rw [List.map_cons]
    refine kitAny_cons (kit_ty (kit_d x t)) (fun h => ?_) fun h => ?_
    · rw [kit_ds x ts]; simp [isTys, h]
    · simp [isTys, h]
theorem ty_of {w : V} {x : D} (e : Ex F H) (h : Lk K F H w x) : TyX K H w (.type x.ty) := by
  cases x with
  | non => cases h.non; exact .base .non
  | bl => cases h.bl; exact .base (.bl _)
  | int => cases h.int; exact .base (.int _)
  | str => cases h.str; exact .base (.str _)
  | tup ds =>
    obtain ⟨p, vs, rfl, h1, h2, hz, hr⟩ := h.tup e
    rcases h1 with (h1 | ⟨o, h1⟩) | ⟨o, its, n, h1, h2, _⟩
    · exact .base (.tup h1)
    · exact .fTuple h1
    · exact .kTuple h1 h2
  | lst ds =>
    obtain ⟨p, vs, rfl, h1, hz, hr⟩ := h
    exact .base (.lst h1)
end
end Ov

set_option maxHeartbeats 2000000
namespace Ov
open PySem PySem.Spec PyProof.Rows L2 Evl
/-- the entry of a def: what stood, the lists that were handed in to be changed -/
structure Ent where
  F0 : Hp
  H0 : Hp
  ps : List (Option Addr)
/-- a dict that stands for good -/
def DicAt (K : PySem.W.Frag) (F : Hp) (p : Addr) (kvs : List (Sum Int Str × D)) : Prop := ∃ us : List (Key × V), F p = some (.dK (mergeK [] us)) ∧ Paired (fun kv q => kv.1 = q.1 ∧ Rp K F kv.2 q.2) us kvs
theorem DicAt.mono {K : PySem.W.Frag} {F F1 : Hp} {p : Addr} {kvs : List (Sum Int Str × D)} (e : Ex F F1) (h : DicAt K F p kvs) : DicAt K F1 p kvs := by
  obtain ⟨us, h1, h2⟩ := h
  exact ⟨us, e _ _ h1, L2.Paired.mapP h2 fun _ _ q => ⟨q.1, q.2.mono e⟩⟩
structure Rel (K : PySem.W.Frag) (n : Ent) (ρ : Slots) (σ : L2.St) (F H : Hp) : Prop where
  sub : Ex F H
  len : ρ.length = σ.length
  dat : ∀ (i : Nat) x, ρ[i]? = some (some (.d x)) → ∃ w, σ[i]? = some (some w) ∧ Rp K F w x
  own : ∀ (i : Nat) b xs, ρ[i]? = some (some (.own b xs)) → ∃ p vs, σ[i]? = some (some (.ref p)) ∧ H p = some (.lst vs) ∧ F p = none ∧ xs.length ≤ sizeLine ∧ Rps K F vs xs ∧ (if b = true then n.ps[i]? = some (some p) else n.H0 p = none)
  dic : ∀ (i : Nat) kvs, ρ[i]? = some (some (.dic kvs)) → ∃ p, σ[i]? = some (some (.ref p)) ∧ DicAt K F p kvs
  scr : ∀ (i : Nat) ns, ρ[i]? = some (some (.scr ns)) → ∃ p, σ[i]? = some (some (.ref p)) ∧ SqL K F p (ns.map V.int) ∧ ns.length ≤ sizeLine
  inj : ∀ (i j : Nat) p, isOwn ρ[i]? = true → isOwn ρ[j]? = true → σ[i]? = some (some (.ref p)) → σ[j]? = some (some (.ref p)) → i = j
  ex0 : Ex n.F0 F
  keep : ∀ b o, n.H0 b = some o → some b ∉ n.ps → H b = some o
  newF : ∀ b, n.H0 b ≠ none → n.F0 b = none → F b = none
  par : ∀ (i : Nat) p, n.ps[i]? = some (some p) → σ[i]? = some (some (.ref p)) ∧ ∃ xs, ρ[i]? = some (some (.own true xs))
def VR (K : PySem.W.Frag) (σ : L2.St) (F : Hp) (w : V) : Vl → Prop
  | .d x => Rp K F w x
  | .slot i => σ[i]? = some (some w)
/-- b is no slot's own list -/
def NoOwn (ρ : Slots) (σ : L2.St) (b : Addr) : Prop := ∀ i : Nat, isOwn ρ[i]? = true → σ[i]? ≠ some (some (.ref b))
structure Step (K : PySem.W.Frag) (n : Ent) (σ : L2.St) (ρ : Slots) (F H : Hp) (ρ' : Slots) (F' H' : Hp) : Prop where
  ex : Ex F F'
  rel : Rel K n ρ' σ F' H'
  fr : ∀ b o, H b = some o → NoOwn ρ σ b → H' b = some o ∧ (F b = none → F' b = none)
  ow : ∀ i : Nat, isOwn ρ'[i]? = true → isOwn ρ[i]? = true
  dom : ∀ b, H' b = none → H b = none
section
variable {K : PySem.W.Frag} {n : Ent} {σ : L2.St} {ρ ρ1 ρ2 : Slots} {F H F1 H1 F2 H2 : Hp}
theorem isOwn_iff {o : Option (Option EV)} : isOwn o = true ↔ ∃ b xs, o = some (some (.own b xs)) := by
  constructor
  · intro h
    match o, h with
    | some (some (.own b xs)), _ => exact ⟨b, xs, rfl⟩
  · rintro ⟨b, xs, rfl⟩; rfl
theorem NoOwn.step (s : Step K n σ ρ F H ρ1 F1 H1) {b : Addr} (h : NoOwn ρ σ b) : NoOwn ρ1 σ b := fun i hi => h i (s.ow i hi)
theorem Step.refl (r : Rel K n ρ σ F H) : Step K n σ ρ F H ρ F H := ⟨Ex.refl _, r, fun _ _ h _ => ⟨h, fun q => q⟩, fun _ h => h, fun _ h => h⟩
theorem Step.trans (a : Step K n σ ρ F H ρ1 F1 H1) (b : Step K n σ ρ1 F1 H1 ρ2 F2 H2) : Step K n σ ρ F H ρ2 F2 H2 :=
  ⟨a.ex.trans b.ex, b.rel, fun c o h q => ⟨(b.fr c o (a.fr c o h q).1 (q.step a)).1, fun hf => (b.fr c o (a.fr c o h q).1 (q.step a)).2 ((a.fr c o h q).2 hf)⟩, fun i h => a.ow i (b.ow i h), fun c h => a.dom c (b.dom c h)⟩
theorem Rel.al (r : Rel K n ρ σ F H) (a : Al F H F1 H1) : Rel K n ρ σ F1 H1 where
  sub := a.sub
  len := r.len
  dat := fun i x h => by obtain ⟨w, h1, h2⟩ := r.dat i x h; exact ⟨w, h1, h2.mono a.ex⟩
  own := fun i b xs h => by
    obtain ⟨p, vs, h1, h2, h3, h4, h5, h6⟩ := r.own i b xs h
    exact ⟨p, vs, h1, a.hx _ _ h2, a.new p (by rw [h2]; simp) h3, h4, h5.mono a.ex, h6⟩
  dic := fun i kvs h => by obtain ⟨p, h1, h2⟩ := r.dic i kvs h; exact ⟨p, h1, h2.mono a.ex⟩
  scr := fun i ns h => by obtain ⟨p, h1, h2, h3⟩ := r.scr i ns h; exact ⟨p, h1, ex_l a.ex h2, h3⟩
  inj := r.inj
  ex0 := r.ex0.trans a.ex
  keep := fun b o h q => a.hx _ _ (r.keep b o h q)
  newF := fun b h q => by
    by_cases hb : some b ∈ n.ps
    · obtain ⟨i, hi, e⟩ := List.getElem_of_mem hb
      have e' : n.ps[i]? = some (some b) := by rw [List.getElem?_eq_getElem hi, e]
      obtain ⟨h1, xs, hx⟩ := r.par i b e'
      obtain ⟨p, vs, g1, g2, g3, _⟩ := r.own i true xs hx
      rw [h1] at g1; cases g1
      exact a.new b (by rw [g2]; simp) g3
    · cases hh : n.H0 b with
      | none => exact absurd hh h
      | some o => exact a.new b (by rw [r.keep b o hh hb]; simp) (r.newF b h q)
  par := r.par
theorem Step.al (r : Rel K n ρ σ F H) (a : Al F H F1 H1) : Step K n σ ρ F H ρ F1 H1 :=
  ⟨a.ex, r.al a, fun b o h _ => ⟨a.hx _ _ h, fun hf => a.new b (by rw [h]; simp) hf⟩, fun _ h => h, fun b h => Ov.Ex.none a.hx h⟩
theorem VR.mono (e : Ex F F1) {w : V} {v : Vl} (h : VR K σ F w v) : VR K σ F1 w v := by
  cases v with
  | d x => exact Rp.mono e h
  | slot i => exact h
theorem VR.look (r : Rel K n ρ σ F H) {w : V} {v : Vl} {x : D} (h : VR K σ F w v) (e : v.look ρ = some x) : Lk K F H w x := by
  cases v with
  | d y => cases e; exact Lk.of r.sub h
  | slot i =>
    have e : (match ρ[i]? with | some (some (.own _ xs)) => some (D.lst xs) | _ => none) = some x := e
    split at e
    · rename_i b xs hi
      cases e
      obtain ⟨p, vs, h1, h2, h3, h4, h5, _⟩ := r.own i b xs hi
      have h : σ[i]? = some (some w) := h
      rw [h1] at h; cases h
      exact ⟨p, vs, rfl, h2, h4, h5⟩
    · cases e
theorem rps_ints (ns : List Int) : Rps K F (ns.map V.int) (ns.map D.int) := by
  induction ns with
  | nil => exact .nil
  | cons a l ih => exact .cons (.int a) ih
theorem VR.lookS (r : Rel K n ρ σ F H) {w : V} {v : Vl} {x : D} (h : VR K σ F w v) (e : v.lookS ρ = some x) : LkS K F H w x := by
  cases v with
  | d y => cases e; exact (Lk.of r.sub h).s
  | slot i =>
    have e : (match ρ[i]? with | some (some (.own _ xs)) => some (D.lst xs) | some (some (.scr ns)) => some (D.lst (ns.map D.int)) | _ => none) = some x := e
    have h : σ[i]? = some (some w) := h
    split at e
    · rename_i b xs hi
      cases e
      obtain ⟨p, vs, h1, h2, h3, h4, h5, _⟩ := r.own i b xs hi
      rw [h1] at h; cases h
      exact ⟨p, vs, rfl, Or.inl (Or.inl h2), h4, h5⟩
    · rename_i ns hi
      cases e
      obtain ⟨p, h1, h2, h3⟩ := r.scr i ns hi
      rw [h1] at h; cases h
      exact ⟨p, _, rfl, ex_l r.sub h2, by rw [List.length_map]; exact h3, rps_ints ns⟩
    · cases e
theorem VR.pure {w : V} {v : Vl} {x : D} (h : VR K σ F w v) (e : v.pure? = some x) : Rp K F w x := by
  cases v with
  | d y => cases e; exact h
  | slot i => cases e
theorem vr_looks (r : Rel K n ρ σ F H) : ∀ {ws : List V} {vs : List Vl} {xs : List D}, Paired (VR K σ F) ws vs → looks ρ vs = some xs → Paired (Lk K F H) ws xs
  | _, _, _, .nil, e => by cases e; exact .nil
  | _, _, _, .cons h t, e => by
    simp only [looks] at e
    rename_i _ v _ vs
    cases e1 : v.look ρ with
    | none => rw [e1] at e; cases e
    | some x =>
      rw [e1] at e
      cases e2 : looks ρ vs with
      | none => rw [e2] at e; cases e
      | some xs => rw [e2] at e; cases e; exact .cons (h.look r e1) (vr_looks r t e2)
theorem vr_pures : ∀ {ws : List V} {vs : List Vl} {xs : List D}, Paired (VR K σ F) ws vs → pures vs = some xs → Rps K F ws xs
  | _, _, _, .nil, e => by cases e; exact .nil
  | _, _, _, .cons h t, e => by
    simp only [pures] at e
    rename_i _ v _ vs
    cases e1 : v.pure? with
    | none => rw [e1] at e; cases e
    | some x =>
      rw [e1] at e
      cases e2 : pures vs with
      | none => rw [e2] at e; cases e
      | some xs => rw [e2] at e; cases e; exact .cons (h.pure e1) (vr_pures t e2)
theorem paired_vr (e : Ex F F1) {ws : List V} {vs : List Vl} (h : Paired (VR K σ F) ws vs) : Paired (VR K σ F1) ws vs := Paired.mapP h fun _ _ q => VR.mono e q
end

/-! ### the judgements -/
abbrev EF := Slots → Option (Vl × Slots)
def DE (X : Cx) (e : Expr) (f : EF) : Prop := ∃ t, PE X e t ∧ ∀ (n : Ent) (ρ : Slots) (σ : L2.St) (F H : Hp) (v : Vl) (ρ' : Slots) (Q : VK), Rel X.K n ρ σ F H → f ρ = some (v, ρ') →
  (∀ F' H' w, Step X.K n σ ρ F H ρ' F' H' → VR X.K σ F' w v → Q w H') → t σ H Q
/-- data; a list is new and stands outside F -/
def DN (X : Cx) (e : Expr) (f : EF) : Prop := ∃ t, PE X e t ∧ ∀ (n : Ent) (ρ : Slots) (σ : L2.St) (F H : Hp) (v : Vl) (ρ' : Slots) (Q : VK), Rel X.K n ρ σ F H → f ρ = some (v, ρ') →
  (∀ F' H' w c, Step X.K n σ ρ F H ρ' F' H' → v = .d c → Nw X.K H F' H' w c → Q w H') → t σ H Q
def DT (X : Cx) (e : Expr) (f : Slots → Option (Bool × Slots)) : Prop := ∃ t, PT X e t ∧ ∀ (n : Ent) (ρ : Slots) (σ : L2.St) (F H : Hp) (b : Bool) (ρ' : Slots) (Q : Bool → Hp → Prop), Rel X.K n ρ σ F H → f ρ = some (b, ρ') →
  (∀ F' H', Step X.K n σ ρ F H ρ' F' H' → Q b H') → t σ H Q
def DA (X : Cx) (es : List Expr) (f : Slots → Option (List Vl × Slots)) : Prop := ∃ t, PA X es t ∧ ∀ (n : Ent) (ρ : Slots) (σ : L2.St) (F H : Hp) (vs : List Vl) (ρ' : Slots) (Q : List V → Hp → Prop), Rel X.K n ρ σ F H → f ρ = some (vs, ρ') →
  (∀ F' H' ws, Step X.K n σ ρ F H ρ' F' H' → Paired (VR X.K σ F') ws vs → Q ws H') → t σ H Q
section
variable {X : Cx} {e a b c : Expr} {f fa fb fc : EF} {pos : Pos}
theorem Rel.dom {K : PySem.W.Frag} {n : Ent} {σ : L2.St} {ρ : Slots} {F H : Hp} (r : Rel K n ρ σ F H) {b : Addr} (h : H b = none) : n.H0 b = none := by
  cases q : n.H0 b with
  | none => rfl
  | some o =>
    by_cases hb : some b ∈ n.ps
    · obtain ⟨i, hi, e⟩ := List.getElem_of_mem hb
      have e' : n.ps[i]? = some (some b) := by rw [List.getElem?_eq_getElem hi, e]
      obtain ⟨h1, xs, hx⟩ := r.par i b e'
      obtain ⟨p, vs, g1, g2, _⟩ := r.own i true xs hx
      rw [h1] at g1; cases g1
      rw [h] at g2; cases g2
    · rw [r.keep b o q hb] at h; cases h
theorem Rel.shut {K : PySem.W.Frag} {n : Ent} {σ : L2.St} {ρ : Slots} {F H : Hp} {p : Addr} {vs : List V} (r : Rel K n ρ σ F H) (hp : H p = some (.lst vs)) (hf : F p = none) (no : NoOwn ρ σ p) (h0 : n.H0 p = none) : Rel K n ρ σ (upd F p (.lst vs)) H where
  sub := fun b o q => by
    by_cases e : b = p
    · subst e; rw [upd_same] at q; cases q; exact hp
    · rw [upd_ne e] at q; exact r.sub b o q
  len := r.len
  dat := fun i x h => by obtain ⟨w, h1, h2⟩ := r.dat i x h; exact ⟨w, h1, h2.mono (Ex.new hf)⟩
  own := fun i b xs h => by
    obtain ⟨q, us, h1, h2, h3, h4, h5, h6⟩ := r.own i b xs h
    have ne : q ≠ p := fun e => no i (isOwn_iff.mpr ⟨b, xs, h⟩) (by rw [h1, e])
    exact ⟨q, us, h1, h2, by rw [upd_ne ne]; exact h3, h4, h5.mono (Ex.new hf), h6⟩
  dic := fun i kvs h => by obtain ⟨q, h1, h2⟩ := r.dic i kvs h; exact ⟨q, h1, h2.mono (Ex.new hf)⟩
  scr := fun i ns h => by obtain ⟨q, h1, h2, h3⟩ := r.scr i ns h; exact ⟨q, h1, ex_l (Ex.new hf) h2, h3⟩
  inj := r.inj
  ex0 := r.ex0.trans (Ex.new hf)
  keep := r.keep
  newF := fun b h q => by
    have ne : b ≠ p := fun e => h (by rw [e]; exact h0)
    rw [upd_ne ne]; exact r.newF b h q
  par := r.par
theorem own_ne {K : PySem.W.Frag} {n : Ent} {σ : L2.St} {ρ : Slots} {F H : Hp} (r : Rel K n ρ σ F H) {p : Addr} (h : H p = none) : NoOwn ρ σ p := fun i hi e => by
  obtain ⟨b, xs, hx⟩ := isOwn_iff.mp hi
  obtain ⟨q, us, h1, h2, _⟩ := r.own i b xs hx
  rw [h1] at e; cases e
  rw [h] at h2; cases h2
theorem shut_own {K : PySem.W.Frag} {n : Ent} {σ : L2.St} {ρ ρ' : Slots} {F H F' H' : Hp} {w : V} {c : D} (r : Rel K n ρ σ F H) (s : Step K n σ ρ F H ρ' F' H') (h : Nw K H F' H' w c) : ∃ F2, Step K n σ ρ F H ρ' F2 H' ∧ Rp K F2 w c := by
  cases c with
  | lst ds =>
    obtain ⟨p, vs, rfl, hp, hf, hh, hz, hr⟩ := h
    refine ⟨upd F' p (.lst vs), ⟨s.ex.trans (Ex.new hf), s.rel.shut hh hf ((own_ne r hp).step s) (r.dom hp), fun b o q no => ⟨(s.fr b o q no).1, fun hn => ?_⟩, s.ow, s.dom⟩, rp_new_lst hf hz hr⟩
    have ne : b ≠ p := fun e => by rw [e, hp] at q; cases q
    rw [upd_ne ne]; exact (s.fr b o q no).2 hn
  | _ => exact ⟨F', s, h⟩
theorem DN.de (h : DN X e f) : DE X e f := by
  obtain ⟨t, pe, q⟩ := h
  refine ⟨t, pe, fun n ρ σ F H v ρ' Q r g k => q n ρ σ F H v ρ' Q r g fun F' H' w c s ev hw => ?_⟩
  subst ev
  obtain ⟨F2, s2, rp⟩ := shut_own r s hw
  exact k F2 H' w s2 rp
theorem Step.nw {K : PySem.W.Frag} {n : Ent} {σ : L2.St} {ρ ρ' : Slots} {F H F1 H1 F' H' : Hp} {w : V} {c : D} (s : Step K n σ ρ F H ρ' F1 H1) (h : Nw K H1 F' H' w c) : Nw K H F' H' w c := by
  cases c with
  | lst ds =>
    obtain ⟨p, vs, e, hp, r⟩ := h
    exact ⟨p, vs, e, s.dom p hp, r⟩
  | _ => exact h
theorem bind_some {α β : Type} {x : Option α} {k : α → Option β} {y : β} (h : (x >>= k) = some y) : ∃ a, x = some a ∧ k a = some y := by
  cases x with
  | none => cases h
  | some a => exact ⟨a, rfl, h⟩
theorem pure_some {α β : Type} {a c : α} {b d : β} (h : (pure (a, b) : Option (α × β)) = some (c, d)) : c = a ∧ d = b := by
  cases h; exact ⟨rfl, rfl⟩
/-! ### names, constants -/
theorem de_var {i : Nat} {x : Str} (hN : X.N[i]? = some x) (hv : Vis X.env.scope x) (hd : (x == ("__debug__" : Str)) = false) (hcd : (x == ("__classdict__" : Str)) = false) {G : Cfg} : DE X (.Name x pos) (evE G (.var i)) := by
  refine ⟨_, pe_var hN hv hd hcd, fun n ρ σ F H v ρ' Q r g k => ?_⟩
  simp only [evE] at g
  split at g
  · rename_i x hi; cases g
    obtain ⟨w, h1, h2⟩ := r.dat i x hi
    exact ⟨w, h1, k F H w (Step.refl r) h2⟩
  · rename_i b x hi; cases g
    obtain ⟨p, vs, h1, _⟩ := r.own i b x hi
    exact ⟨_, h1, k F H _ (Step.refl r) h1⟩
  · rename_i x hi; cases g
    obtain ⟨p, h1, _⟩ := r.scr i x hi
    exact ⟨_, h1, k F H _ (Step.refl r) h1⟩
  · cases g
theorem de_const {t : TE} {w : V} {x : D} (h : PE X e t) (ht : ∀ σ H Q, Q w H → t σ H Q) (hx : ∀ F, Rp X.K F w x) : DE X e (fun ρ => some (.d x, ρ)) :=
  ⟨t, h, fun n ρ σ F H v ρ' Q r g k => by cases g; exact ht σ H Q (k F H w (Step.refl r) (hx F))⟩
/-! ### operators -/
theorem dn_op {o : Operator} {g : D → D → Option D} (ho : OpD X (binaryOp o) g) (ha : DE X a fa) (hb : DE X b fb) : DN X (.BinOp a o b pos) (fun ρ => do
    let (va, ρ1) ← fa ρ
    let (vb, ρ2) ← fb ρ1
    let x ← va.look ρ2
    let y ← vb.look ρ2
    let z ← g x y
    pure (.d z, ρ2)) := by
  obtain ⟨ta, pa, qa⟩ := ha
  obtain ⟨tb, pb, qb⟩ := hb
  obtain ⟨r, hr, qr⟩ := ho
  refine ⟨_, pe_op hr pa pb, fun n ρ σ F H v ρ' Q rl g k => ?_⟩
  obtain ⟨⟨va, ρ1⟩, ga, g⟩ := bind_some g
  obtain ⟨⟨vb, ρ2⟩, gb, g⟩ := bind_some g
  obtain ⟨x, gx, g⟩ := bind_some g
  obtain ⟨y, gy, g⟩ := bind_some g
  obtain ⟨z, gz, g⟩ := bind_some g
  obtain ⟨rfl, rfl⟩ := pure_some g
  refine qa n ρ σ F H va ρ1 _ rl ga fun F1 H1 w1 s1 v1 => qb n ρ1 σ F1 H1 vb _ _ s1.rel gb fun F2 H2 w2 s2 v2 => ?_
  refine qr F2 H2 w1 w2 x y z Q s2.rel.sub ((v1.mono s2.ex).look s2.rel gx) (v2.look s2.rel gy) gz fun F' H' w al nw => ?_
  exact k F' H' w z ((s1.trans s2).trans (Step.al s2.rel al)) rfl ((s1.trans s2).nw nw)
theorem de_cmp {o : COp} (hu : X.A.units + 65 < cLine) (ha : DE X a fa) (hb : DE X b fb) (hm : behindInMarks o.py b = false) : DE X (.Compare a [o.py] [b] pos) (fun ρ => do
    let (va, ρ1) ← fa ρ
    let (vb, ρ2) ← fb ρ1
    let x ← va.look ρ2
    let y ← vb.look ρ2
    let z ← cmpD o x y
    pure (.d (.bl z), ρ2)) ∧ DT X (.Compare a [o.py] [b] pos) (fun ρ => do
    let (va, ρ1) ← fa ρ
    let (vb, ρ2) ← fb ρ1
    let x ← va.look ρ2
    let y ← vb.look ρ2
    let z ← cmpD o x y
    pure (z, ρ2)) := by
  obtain ⟨ta, pa, qa⟩ := ha
  obtain ⟨tb, pb, qb⟩ := hb
  obtain ⟨r, hr, qr⟩ := opd_cmp hu o
  constructor
  · refine ⟨_, pe_cmpR hr pa pb hm, fun n ρ σ F H v ρ' Q rl g k => ?_⟩
    obtain ⟨⟨va, ρ1⟩, ga, g⟩ := bind_some g
    obtain ⟨⟨vb, ρ2⟩, gb, g⟩ := bind_some g
    obtain ⟨x, gx, g⟩ := bind_some g
    obtain ⟨y, gy, g⟩ := bind_some g
    obtain ⟨z, gz, g⟩ := bind_some g
    obtain ⟨rfl, rfl⟩ := pure_some g
    refine qa n ρ σ F H va ρ1 _ rl ga fun F1 H1 w1 s1 v1 => qb n ρ1 σ F1 H1 vb _ _ s1.rel gb fun F2 H2 w2 s2 v2 => ?_
    refine qr F2 H2 w1 w2 x y (.bl z) Q s2.rel.sub ((v1.mono s2.ex).look s2.rel gx) (v2.look s2.rel gy) (by simp [gz]) fun F' H' w al nw => ?_
    exact k F' H' w ((s1.trans s2).trans (Step.al s2.rel al)) nw
  · refine ⟨_, pt_cmpR hr pa pb hm, fun n ρ σ F H v ρ' Q rl g k => ?_⟩
    obtain ⟨⟨va, ρ1⟩, ga, g⟩ := bind_some g
    obtain ⟨⟨vb, ρ2⟩, gb, g⟩ := bind_some g
    obtain ⟨x, gx, g⟩ := bind_some g
    obtain ⟨y, gy, g⟩ := bind_some g
    obtain ⟨z, gz, g⟩ := bind_some g
    obtain ⟨rfl, rfl⟩ := pure_some g
    refine qa n ρ σ F H va ρ1 _ rl ga fun F1 H1 w1 s1 v1 => qb n ρ1 σ F1 H1 vb _ _ s1.rel gb fun F2 H2 w2 s2 v2 => ?_
    refine qr F2 H2 w1 w2 x y (.bl v) _ s2.rel.sub ((v1.mono s2.ex).look s2.rel gx) (v2.look s2.rel gy) (by simp [gz]) fun F' H' w al nw => ?_
    have nw : Rp X.K F' w (.bl v) := nw
    cases nw
    exact ⟨v, rfl, k F' H' ((s1.trans s2).trans (Step.al s2.rel al))⟩
end
end Ov

set_option maxHeartbeats 2000000
namespace Ov
open PySem PySem.Spec PyProof.Rows L2 Evl
def DW (X : Cx) (e : Expr) (f : Slots → Option (Bool × Slots)) : Prop := ∃ t, PW X e t ∧ ∀ (n : Ent) (ρ : Slots) (σ : L2.St) (F H : Hp) (b : Bool) (ρ' : Slots) (Q : Bool → Hp → Prop), Rel X.K n ρ σ F H → f ρ = some (b, ρ') →
  (∀ F' H', Step X.K n σ ρ F H ρ' F' H' → Q b H') → t σ H Q
section
variable {X : Cx} {e a b c : Expr} {f fa fb fc : EF} {ft fu : Slots → Option (Bool × Slots)} {pos : Pos} {G : Cfg} {ia ib ic : IR} {rest es : List Expr}
theorem DW.dt (h : DW X e ft) : DT X e ft := by
  obtain ⟨t, p, q⟩ := h
  exact ⟨t, p.pt, q⟩
theorem tst {v : Vl} {x : D} {b : Bool} {w : V} {K : PySem.W.Frag} {σ : L2.St} {F : Hp} (h : VR K σ F w v) (e : v.pure? = some x) (eb : asBool x = some b) : w = .bl b := by
  have r := h.pure e
  cases x <;> cases eb
  cases r; rfl
theorem evT_some {G : Cfg} {ir : IR} {ρ ρ' : Slots} {b : Bool} (h : evT G ir ρ = some (b, ρ')) : evE G ir ρ = some (.d (.bl b), ρ') := by
  unfold evT at h
  obtain ⟨⟨v, ρ1⟩, g, h⟩ := bind_some h
  obtain ⟨x, gx, h⟩ := bind_some h
  obtain ⟨q, gq, h⟩ := bind_some h
  obtain ⟨rfl, rfl⟩ := pure_some h
  cases v <;> cases gx
  cases x <;> cases gq
  exact g
theorem DE.dt (h : DE X e (evE G ia)) (he : ∀ whole, isTrue e X.env whole = (do let v ← whole; standAt e.pos; holding [v] (truthy v))) : DT X e (evT G ia) := by
  obtain ⟨t, p, q⟩ := h
  refine ⟨_, pt_val p he, fun n ρ σ F H b ρ' Q r g k => ?_⟩
  refine q n ρ σ F H _ ρ' _ r (evT_some g) fun F' H' w s v => ?_
  cases (show Rp X.K F' w (.bl b) from v)
  exact ⟨b, rfl, k F' H' s⟩
/-! ### is None, not, and, or, if -/
theorem de_neg (ha : DE X a (evE G ia)) : DE X (.UnaryOp .USub a pos) (evE G (.neg ia)) := by
  obtain ⟨ta, pa, qa⟩ := ha
  refine ⟨_, pe_un un_neg pa, fun n ρ σ F H v ρ' Q rl g k => ?_⟩
  unfold evE at g
  obtain ⟨⟨va, ρ1⟩, ga, g⟩ := bind_some g
  obtain ⟨x, gx, g⟩ := bind_some g
  obtain ⟨i, gi, g⟩ := bind_some g
  obtain ⟨rfl, rfl⟩ := pure_some g
  refine qa n ρ σ F H va _ _ rl ga fun F1 H1 w1 s1 v1 => ?_
  cases x <;> cases gi
  cases (v1.look s1.rel gx).int
  exact ⟨_, rfl, k F1 H1 _ s1 (.int _)⟩
theorem nonB {K : PySem.W.Frag} {F H : Hp} {w : V} {x : D} (h : Lk K F H w x) : decide (w = .non) = (match x with | .non => true | _ => false) := by
  cases x with
  | non => cases h.non; rfl
  | bl => cases h.bl; rfl
  | int => cases h.int; rfl
  | str => cases h.str; rfl
  | tup => have h : Rp K F w (.tup _) := h; cases h; rfl
  | lst => obtain ⟨p, vs, rfl, _⟩ := h; rfl
theorem de_isn (ng : Bool) {j : Nat} {p : Pos} (ha : DE X a (evE G ia)) : DE X (.Compare a [if ng then .IsNot else .Is] [.Constant .none j p] pos) (evE G (.isn ng ia)) ∧ DT X (.Compare a [if ng then .IsNot else .Is] [.Constant .none j p] pos) (evT G (.isn ng ia)) := by
  obtain ⟨ta, pa, qa⟩ := ha
  have val : ∀ {w : V} {x : D} {F H : Hp}, Lk X.K F H w x → (if ng then !decide (w = .non) else decide (w = .non)) = (match x with | .non => !ng | _ => ng) := fun {w x F H} h => by
    rw [nonB h]; cases ng <;> cases x <;> rfl
  constructor
  · cases ng with
    | false =>
      refine ⟨_, pe_cmpR op_isN pa pe_non (nomark _), fun n ρ σ F H v ρ' Q rl g k => ?_⟩
      unfold evE at g
      obtain ⟨⟨va, ρ1⟩, ga, g⟩ := bind_some g
      obtain ⟨x, gx, g⟩ := bind_some g
      obtain ⟨rfl, rfl⟩ := pure_some g
      refine qa n ρ σ F H va _ _ rl ga fun F1 H1 w1 s1 v1 => ⟨rfl, ?_⟩
      have q := val (v1.look s1.rel gx)
      simp only [Bool.false_eq_true, if_false] at q
      rw [q]
      exact k F1 H1 _ s1 (.bl _)
    | true =>
      refine ⟨_, pe_cmpR op_notN pa pe_non (nomark _), fun n ρ σ F H v ρ' Q rl g k => ?_⟩
      unfold evE at g
      obtain ⟨⟨va, ρ1⟩, ga, g⟩ := bind_some g
      obtain ⟨x, gx, g⟩ := bind_some g
      obtain ⟨rfl, rfl⟩ := pure_some g
      refine qa n ρ σ F H va _ _ rl ga fun F1 H1 w1 s1 v1 => ⟨rfl, ?_⟩
      have q := val (v1.look s1.rel gx)
      simp only [if_true] at q
      rw [q]
      exact k F1 H1 _ s1 (.bl _)
  · cases ng with
    | false =>
      refine ⟨_, pt_cmpR op_isN pa pe_non (nomark _), fun n ρ σ F H v ρ' Q rl g k => ?_⟩
      have g := evT_some g
      unfold evE at g
      obtain ⟨⟨va, ρ1⟩, ga, g⟩ := bind_some g
      obtain ⟨x, gx, g⟩ := bind_some g
      obtain ⟨e1, rfl⟩ := pure_some g
      refine qa n ρ σ F H va _ _ rl ga fun F1 H1 w1 s1 v1 => ⟨rfl, _, rfl, ?_⟩
      have q := val (v1.look s1.rel gx)
      simp only [Bool.false_eq_true, if_false] at q
      rw [q]
      cases e1
      exact k F1 H1 s1
    | true =>
      refine ⟨_, pt_cmpR op_notN pa pe_non (nomark _), fun n ρ σ F H v ρ' Q rl g k => ?_⟩
      have g := evT_some g
      unfold evE at g
      obtain ⟨⟨va, ρ1⟩, ga, g⟩ := bind_some g
      obtain ⟨x, gx, g⟩ := bind_some g
      obtain ⟨e1, rfl⟩ := pure_some g
      refine qa n ρ σ F H va _ _ rl ga fun F1 H1 w1 s1 v1 => ⟨rfl, _, rfl, ?_⟩
      have q := val (v1.look s1.rel gx)
      simp only [if_true] at q
      rw [q]
      cases e1
      exact k F1 H1 s1
/-! ### is True, is False -/
theorem op_nonBl : OpR X (compareOp .Is) (fun x y H Q => ∃ b : Bool, x = .non ∧ y = .bl b ∧ Q (.bl false) H) := by
  intro pins s σ H x y v u Q I rx ry h
  obtain ⟨b, rfl, rfl, q⟩ := h
  cases (show v = Value.none from rx)
  cases (show u = Value.bool b from ry)
  exact wpAny_is_other rfl (fun z => nomatch z) ⟨.bl false, H, I, rfl, q⟩
theorem op_nonNBl : OpR X (compareOp .IsNot) (fun x y H Q => ∃ b : Bool, x = .non ∧ y = .bl b ∧ Q (.bl true) H) := by
  intro pins s σ H x y v u Q I rx ry h
  obtain ⟨b, rfl, rfl, q⟩ := h
  cases (show v = Value.none from rx)
  cases (show u = Value.bool b from ry)
  exact wpAny_isNot_other rfl (fun z => nomatch z) ⟨.bl true, H, I, rfl, q⟩
theorem isb_rule (ng b : Bool) : ∃ r, OpR X (compareOp (if ng then .IsNot else .Is)) r ∧ ∀ (F H : Hp) (w : V) (x : D) (z : Bool) (Q : VK), Lk X.K F H w x → isbD x b = some z → Q (.bl (if ng then !z else z)) H → r w (.bl b) H Q := by
  cases ng with
  | false =>
    refine ⟨_, Ov.OpR.or op_isBl op_nonBl, fun F H w x z Q h g q => ?_⟩
    cases x <;> try (cases g; done)
    · cases h.non; cases g
      exact Or.inr ⟨b, rfl, rfl, q⟩
    · cases h.bl; cases g
      exact Or.inl ⟨_, b, rfl, rfl, q⟩
  | true =>
    refine ⟨_, Ov.OpR.or op_notBl op_nonNBl, fun F H w x z Q h g q => ?_⟩
    cases x <;> try (cases g; done)
    · cases h.non; cases g
      exact Or.inr ⟨b, rfl, rfl, q⟩
    · cases h.bl; cases g
      exact Or.inl ⟨_, b, rfl, rfl, q⟩
theorem de_isb (ng b : Bool) {j : Nat} {p : Pos} (ha : DE X a (evE G ia)) : DE X (.Compare a [if ng then .IsNot else .Is] [.Constant (.bool b) j p] pos) (evE G (.isb ng ia b)) ∧ DT X (.Compare a [if ng then .IsNot else .Is] [.Constant (.bool b) j p] pos) (evT G (.isb ng ia b)) := by
  obtain ⟨ta, pa, qa⟩ := ha
  obtain ⟨r, hr, hq⟩ := isb_rule (X := X) ng b
  have hm : behindInMarks (if ng then CmpOp.IsNot else CmpOp.Is) (.Constant (.bool b) j p) = false := by cases ng <;> rfl
  constructor
  · refine ⟨_, pe_cmpR hr pa pe_bl hm, fun n ρ σ F H v ρ' Q rl g k => ?_⟩
    unfold evE at g
    obtain ⟨⟨va, ρ1⟩, ga, g⟩ := bind_some g
    obtain ⟨x, gx, g⟩ := bind_some g
    obtain ⟨z, gz, g⟩ := bind_some g
    obtain ⟨rfl, rfl⟩ := pure_some g
    exact qa n ρ σ F H va _ _ rl ga fun F1 H1 w1 s1 v1 => hq F1 H1 w1 x z _ (v1.look s1.rel gx) gz (k F1 H1 _ s1 (.bl _))
  · refine ⟨_, pt_cmpR hr pa pe_bl hm, fun n ρ σ F H v ρ' Q rl g k => ?_⟩
    have g := evT_some g
    unfold evE at g
    obtain ⟨⟨va, ρ1⟩, ga, g⟩ := bind_some g
    obtain ⟨x, gx, g⟩ := bind_some g
    obtain ⟨z, gz, g⟩ := bind_some g
    obtain ⟨e1, rfl⟩ := pure_some g
    cases e1
    exact qa n ρ σ F H va _ _ rl ga fun F1 H1 w1 s1 v1 => hq F1 H1 w1 x z _ (v1.look s1.rel gx) gz ⟨_, rfl, k F1 H1 s1⟩
theorem de_not (ha : DE X a (evE G ia)) (ht : DT X a (evT G ia)) : DE X (.UnaryOp .Not a pos) (evE G (.bnot ia)) ∧ DT X (.UnaryOp .Not a pos) (evT G (.bnot ia)) := by
  constructor
  · obtain ⟨ta, pa, qa⟩ := ha
    refine ⟨_, pe_not pa, fun n ρ σ F H v ρ' Q rl g k => ?_⟩
    unfold evE at g
    obtain ⟨⟨va, ρ1⟩, ga, g⟩ := bind_some g
    obtain ⟨x, gx, g⟩ := bind_some g
    obtain ⟨p, gp, g⟩ := bind_some g
    obtain ⟨rfl, rfl⟩ := pure_some g
    refine qa n ρ σ F H va _ _ rl ga fun F1 H1 w1 s1 v1 => ?_
    cases tst v1 gx gp
    exact ⟨p, rfl, k F1 H1 _ s1 (.bl _)⟩
  · obtain ⟨ta, pa, qa⟩ := ht
    refine ⟨_, pt_not pa, fun n ρ σ F H v ρ' Q rl g k => ?_⟩
    have g := evT_some g
    unfold evE at g
    obtain ⟨⟨va, ρ1⟩, ga, g⟩ := bind_some g
    obtain ⟨x, gx, g⟩ := bind_some g
    obtain ⟨p, gp, g⟩ := bind_some g
    obtain ⟨e1, rfl⟩ := pure_some g
    cases e1
    refine qa n ρ σ F H p _ _ rl (by unfold evT; rw [ga]; simp [gx, gp]) fun F1 H1 s1 => k F1 H1 s1
theorem de_one {op : BoolOp} (ha : DE X a (evE G ia)) (ht : DT X a (evT G ia)) : DE X (.BoolOp op [a] pos) (evE G (.one ia)) ∧ DW X (.BoolOp op [a] pos) (evT G (.one ia)) := by
  obtain ⟨ta, pa, qa⟩ := ha
  obtain ⟨tt, pt, qt⟩ := ht
  refine ⟨⟨ta, pe_one pa, fun n ρ σ F H v ρ' Q rl g k => qa n ρ σ F H v ρ' Q rl (by simpa [evE] using g) k⟩, ?_⟩
  have q : ∀ ρ, evT G (.one ia) ρ = evT G ia ρ := fun ρ => by unfold evT; simp [evE]
  cases op with
  | And => exact ⟨tt, pw_and1 pt, fun n ρ σ F H v ρ' Q rl g k => qt n ρ σ F H v ρ' Q rl (by rw [← q]; exact g) k⟩
  | Or => exact ⟨tt, pw_or1 pt, fun n ρ σ F H v ρ' Q rl g k => qt n ρ σ F H v ρ' Q rl (by rw [← q]; exact g) k⟩
theorem de_and (ha : DE X a (evE G ia)) (ht : DT X a (evT G ia)) (hb : DE X (.BoolOp .And (b :: rest) pos) (evE G ib)) (hw : DW X (.BoolOp .And (b :: rest) pos) (evT G ib)) :
    DE X (.BoolOp .And (a :: b :: rest) pos) (evE G (.band ia ib)) ∧ DW X (.BoolOp .And (a :: b :: rest) pos) (evT G (.band ia ib)) := by
  constructor
  · obtain ⟨ta, pa, qa⟩ := ha
    obtain ⟨tb, pb, qb⟩ := hb
    refine ⟨_, pe_and pa pb, fun n ρ σ F H v ρ' Q rl g k => ?_⟩
    unfold evE at g
    obtain ⟨⟨va, ρ1⟩, ga, g⟩ := bind_some g
    obtain ⟨x, gx, g⟩ := bind_some g
    obtain ⟨p, gp, g⟩ := bind_some g
    refine qa n ρ σ F H va _ _ rl ga fun F1 H1 w1 s1 v1 => ?_
    cases tst v1 gx gp
    refine ⟨p, rfl, ?_⟩
    cases p with
    | true =>
      simp only [if_true] at g ⊢
      exact qb n _ σ F1 H1 v ρ' Q s1.rel g fun F2 H2 w2 s2 v2 => k F2 H2 w2 (s1.trans s2) v2
    | false =>
      simp only [Bool.false_eq_true, if_false] at g ⊢
      obtain ⟨rfl, rfl⟩ := pure_some g
      exact k F1 H1 _ s1 (.bl _)
  · obtain ⟨ta, pa, qa⟩ := ht
    obtain ⟨tb, pb, qb⟩ := hw
    refine ⟨_, pw_and pa pb, fun n ρ σ F H v ρ' Q rl g k => ?_⟩
    have g := evT_some g
    unfold evE at g
    obtain ⟨⟨va, ρ1⟩, ga, g⟩ := bind_some g
    obtain ⟨x, gx, g⟩ := bind_some g
    obtain ⟨p, gp, g⟩ := bind_some g
    refine qa n ρ σ F H p ρ1 _ rl (by unfold evT; rw [ga]; simp [gx, gp]) fun F1 H1 s1 => ?_
    cases p with
    | true =>
      simp only [if_true] at g ⊢
      exact qb n _ σ F1 H1 v ρ' Q s1.rel (by unfold evT; rw [g]; rfl) fun F2 H2 s2 => k F2 H2 (s1.trans s2)
    | false =>
      simp only [Bool.false_eq_true, if_false] at g ⊢
      obtain ⟨e1, rfl⟩ := pure_some g
      cases e1
      exact k F1 H1 s1
theorem de_or (ha : DE X a (evE G ia)) (ht : DT X a (evT G ia)) (hb : DE X (.BoolOp .Or (b :: rest) pos) (evE G ib)) (hw : DW X (.BoolOp .Or (b :: rest) pos) (evT G ib)) :
    DE X (.BoolOp .Or (a :: b :: rest) pos) (evE G (.bor ia ib)) ∧ DW X (.BoolOp .Or (a :: b :: rest) pos) (evT G (.bor ia ib)) := by
  constructor
  · obtain ⟨ta, pa, qa⟩ := ha
    obtain ⟨tb, pb, qb⟩ := hb
    refine ⟨_, pe_or pa pb, fun n ρ σ F H v ρ' Q rl g k => ?_⟩
    unfold evE at g
    obtain ⟨⟨va, ρ1⟩, ga, g⟩ := bind_some g
    obtain ⟨x, gx, g⟩ := bind_some g
    obtain ⟨p, gp, g⟩ := bind_some g
    refine qa n ρ σ F H va _ _ rl ga fun F1 H1 w1 s1 v1 => ?_
    cases tst v1 gx gp
    refine ⟨p, rfl, ?_⟩
    cases p with
    | false =>
      simp only [Bool.false_eq_true, if_false] at g ⊢
      exact qb n _ σ F1 H1 v ρ' Q s1.rel g fun F2 H2 w2 s2 v2 => k F2 H2 w2 (s1.trans s2) v2
    | true =>
      simp only [if_true] at g ⊢
      obtain ⟨rfl, rfl⟩ := pure_some g
      exact k F1 H1 _ s1 (.bl _)
  · obtain ⟨ta, pa, qa⟩ := ht
    obtain ⟨tb, pb, qb⟩ := hw
    refine ⟨_, pw_or pa pb, fun n ρ σ F H v ρ' Q rl g k => ?_⟩
    have g := evT_some g
    unfold evE at g
    obtain ⟨⟨va, ρ1⟩, ga, g⟩ := bind_some g
    obtain ⟨x, gx, g⟩ := bind_some g
    obtain ⟨p, gp, g⟩ := bind_some g
    refine qa n ρ σ F H p ρ1 _ rl (by unfold evT; rw [ga]; simp [gx, gp]) fun F1 H1 s1 => ?_
    cases p with
    | false =>
      simp only [Bool.false_eq_true, if_false] at g ⊢
      exact qb n _ σ F1 H1 v ρ' Q s1.rel (by unfold evT; rw [g]; rfl) fun F2 H2 s2 => k F2 H2 (s1.trans s2)
    | true =>
      simp only [if_true] at g ⊢
      obtain ⟨e1, rfl⟩ := pure_some g
      cases e1
      exact k F1 H1 s1
theorem de_ife (hc : DT X c (evT G ic)) (ha : DE X a (evE G ia)) (hb : DE X b (evE G ib)) : DE X (.IfExp c a b pos) (evE G (.ife ic ia ib)) := by
  obtain ⟨tc, pc, qc⟩ := hc
  obtain ⟨ta, pa, qa⟩ := ha
  obtain ⟨tb, pb, qb⟩ := hb
  refine ⟨_, pe_ifExp pc pa pb, fun n ρ σ F H v ρ' Q rl g k => ?_⟩
  unfold evE at g
  obtain ⟨⟨va, ρ1⟩, ga, g⟩ := bind_some g
  obtain ⟨x, gx, g⟩ := bind_some g
  obtain ⟨p, gp, g⟩ := bind_some g
  refine qc n ρ σ F H p ρ1 _ rl (by unfold evT; rw [ga]; simp [gx, gp]) fun F1 H1 s1 => ?_
  cases p with
  | false =>
    simp only [Bool.false_eq_true, if_false] at g ⊢
    exact qb n _ σ F1 H1 v ρ' Q s1.rel g fun F2 H2 w2 s2 v2 => k F2 H2 w2 (s1.trans s2) v2
  | true =>
    simp only [if_true] at g ⊢
    exact qa n _ σ F1 H1 v ρ' Q s1.rel g fun F2 H2 w2 s2 v2 => k F2 H2 w2 (s1.trans s2) v2
/-! ### arguments, displays -/
theorem da_nil : DA X [] (evL G .nil) := ⟨_, pa_nil, fun n ρ σ F H vs ρ' Q rl g k => by
  simp only [evL] at g
  cases g
  exact k F H [] (Step.refl rl) .nil⟩
theorem da_cons (ha : DE X a (evE G ia)) (hb : DA X es (evL G ib)) (hs : starEach (a :: es) X.env = (false, eval a X.env) :: starEach es X.env) : DA X (a :: es) (evL G (.cons ia ib)) := by
  obtain ⟨ta, pa, qa⟩ := ha
  obtain ⟨tb, pb, qb⟩ := hb
  refine ⟨_, pa_cons pa pb hs, fun n ρ σ F H vs ρ' Q rl g k => ?_⟩
  unfold evL at g
  obtain ⟨⟨va, ρ1⟩, ga, g⟩ := bind_some g
  obtain ⟨⟨vb, ρ2⟩, gb, g⟩ := bind_some g
  obtain ⟨rfl, rfl⟩ := pure_some g
  refine qa n ρ σ F H va ρ1 _ rl ga fun F1 H1 w1 s1 v1 => qb n ρ1 σ F1 H1 vb _ _ s1.rel gb fun F2 H2 ws s2 v2 => ?_
  exact k F2 H2 (w1 :: ws) (s1.trans s2) (.cons (v1.mono s2.ex) v2)
theorem de_tup {x1 : Nat} (h : DA X es (evL G ia)) : DE X (.Tuple es x1 pos) (evE G (.tup ia)) := by
  obtain ⟨t, p, q⟩ := h
  refine ⟨_, pe_tupN p, fun n ρ σ F H v ρ' Q rl g k => ?_⟩
  unfold evE at g
  obtain ⟨⟨vs, ρ1⟩, ga, g⟩ := bind_some g
  obtain ⟨xs, gx, g⟩ := bind_some g
  split at g
  · rename_i hz
    obtain ⟨rfl, rfl⟩ := pure_some g
    refine q n ρ σ F H vs _ _ rl ga fun F1 H1 ws s1 hv => ?_
    have rs := vr_pures hv gx
    refine ⟨by rw [rs.length]; exact hz, fun p ob hp hob => ?_⟩
    exact k _ _ _ (s1.trans (Step.al s1.rel (Al.one s1.rel.sub hp))) (rp_new_tup hob (Ov.Ex.none s1.rel.sub hp) hz rs)
  · cases g
theorem dn_lst (h : DA X es (evL G ia)) : DN X (.List es pos) (evE G (.lst ia)) := by
  obtain ⟨t, p, q⟩ := h
  refine ⟨_, pe_lst p, fun n ρ σ F H v ρ' Q rl g k => ?_⟩
  unfold evE at g
  obtain ⟨⟨vs, ρ1⟩, ga, g⟩ := bind_some g
  obtain ⟨xs, gx, g⟩ := bind_some g
  split at g
  · rename_i hz
    obtain ⟨rfl, rfl⟩ := pure_some g
    refine q n ρ σ F H vs _ _ rl ga fun F1 H1 ws s1 hv => ?_
    have rs := vr_pures hv gx
    refine ⟨by rw [rs.length]; exact hz, fun p hp => ?_⟩
    exact k _ _ _ _ (s1.trans (Step.al s1.rel (Al.own s1.rel.sub hp))) rfl (s1.nw (nw_lst s1.rel.sub hp hz rs))
  · cases g
end
end Ov

set_option maxHeartbeats 2000000
namespace Ov
open PySem PySem.Spec PyProof.Rows L2 Evl
theorem ixN_eq (n : Nat) (i : Int) : ixN' n i = ixN n i := rfl
theorem sIx_eq (n d : Nat) (o : Option Int) : sIx' n d o = HT.sIx n d o := by cases o <;> rfl
section
variable {X : Cx} {e a b c : Expr} {f fa fb fc : EF} {pos : Pos} {G : Cfg} {ia ib ic : IR} {rest es : List Expr}
theorem at_rps {K : PySem.W.Frag} {F : Hp} {vs : List V} {ds : List D} {i : Int} {x : D} (h : Rps K F vs ds) (e : atD ds i = some x) : ∃ v, atI vs i = some v ∧ Rp K F v x := by
  unfold atD at e
  obtain ⟨j, e1, e2⟩ := Option.bind_eq_some_iff.mp e
  obtain ⟨v, h1, h2⟩ := h.get e2
  refine ⟨v, ?_, h2⟩
  unfold atI
  rw [h.length, ← ixN_eq, e1]
  exact h1
theorem de_idx (hs : PlainIx b) (ha : DE X a (evE G ia)) (hb : DE X b (evE G ib)) : DE X (.Subscript a b pos) (evE G (.idx ia ib)) := by
  obtain ⟨ta, pa, qa⟩ := ha
  obtain ⟨tb, pb, qb⟩ := hb
  refine ⟨_, pe_ix ix_seq pa pb hs, fun n ρ σ F H v ρ' Q rl g k => ?_⟩
  unfold evE at g
  obtain ⟨⟨va, ρ1⟩, ga, g⟩ := bind_some g
  obtain ⟨⟨vb, ρ2⟩, gb, g⟩ := bind_some g
  obtain ⟨x, gx, g⟩ := bind_some g
  obtain ⟨y, gy, g⟩ := bind_some g
  obtain ⟨i, gi, gg⟩ := bind_some g
  clear g
  refine qa n ρ σ F H va ρ1 _ rl ga fun F1 H1 w1 s1 v1 => qb n ρ1 σ F1 H1 vb ρ2 _ s1.rel gb fun F2 H2 w2 s2 v2 => ?_
  have l1 := (v1.mono s2.ex).lookS s2.rel gx
  have l2 := v2.look s2.rel gy
  cases y <;> cases gi
  cases l2.int
  cases x with
  | lst xs =>
    dsimp only at gg
    obtain ⟨z, gz, gg⟩ := bind_some gg
    obtain ⟨rfl, rfl⟩ := pure_some gg
    obtain ⟨p, vs, rfl, h1, hz, hr⟩ := l1
    obtain ⟨u, hu, ru⟩ := at_rps hr gz
    exact Or.inl ⟨p, vs, _, u, rfl, rfl, h1, hu, k F2 H2 u (s1.trans s2) ru⟩
  | tup xs =>
    dsimp only at gg
    obtain ⟨z, gz, gg⟩ := bind_some gg
    obtain ⟨rfl, rfl⟩ := pure_some gg
    have l1 : Rp X.K F2 w1 (.tup xs) := l1
    cases l1 with
    | tup h1 hc hz hr =>
      obtain ⟨u, hu, ru⟩ := at_rps hr gz
      exact Or.inr (Or.inl ⟨_, _, _, u, rfl, rfl, ex_t s2.rel.sub h1, hu, k F2 H2 u (s1.trans s2) ru⟩)
  | str z =>
    have l1 : Rp X.K F2 w1 (.str z) := l1
    cases l1
    dsimp only at gg
    split at gg
    · rename_i hz
      obtain ⟨j, gj, gg⟩ := bind_some gg
      obtain ⟨c, gc, gg⟩ := bind_some gg
      obtain ⟨rfl, rfl⟩ := pure_some gg
      refine Or.inr (Or.inr ⟨z, _, c, rfl, rfl, hz, ?_, k F2 H2 _ (s1.trans s2) (.str _)⟩)
      unfold atI
      have hl : z.cps.toList.length = z.length := by simp [Str.length]
      rw [hl, ← ixN_eq, gj]
      simpa using gc
    · cases gg
  | non => cases gg
  | bl => cases gg
  | int => cases gg
theorem cut_rps {K : PySem.W.Frag} {F : Hp} {vs : List V} {ds : List D} (lo hi : Option Int) (h : Rps K F vs ds) : Rps K F (cutV vs lo hi) (cutD ds lo hi) := by
  unfold cutV cutD
  rw [h.length, sIx_eq, sIx_eq]
  exact (h.drop _).take _
theorem cutD_len (ds : List D) (lo hi : Option Int) : (cutD ds lo hi).length ≤ ds.length := by
  unfold cutD
  rw [List.length_take, List.length_drop]; omega
/-- a slice's part -/
def DP (X : Cx) (e : Option Expr) (f : Slots → Option (Option Int × Slots)) : Prop := ∃ t, PO X e t ∧ ∀ (n : Ent) (ρ : Slots) (σ : L2.St) (F H : Hp) (o : Option Int) (ρ' : Slots) (Q : Option Int → Hp → Prop), Rel X.K n ρ σ F H → f ρ = some (o, ρ') →
  (∀ F' H', Step X.K n σ ρ F H ρ' F' H' → Q o H') → t σ H Q
def evPt (G : Cfg) (e : IR) (ρ : Slots) : Option (Option Int × Slots) := match e with
  | .nil => some (none, ρ)
  | e => do let (v, ρ') ← evE G e ρ; let p ← partD ρ' v; pure (p, ρ')
theorem dp_none : DP X none (evPt G .nil) := ⟨_, po_none, fun n ρ σ F H o ρ' Q rl g k => by
  cases g; exact k F H (Step.refl rl)⟩
theorem dp_some (hn : ia ≠ .nil) (ha : DE X a (evE G ia)) : DP X (some a) (evPt G ia) := by
  obtain ⟨ta, pa, qa⟩ := ha
  refine ⟨_, po_some pa, fun n ρ σ F H o ρ' Q rl g k => ?_⟩
  have g : (do let (v, ρ') ← evE G ia ρ; let p ← partD ρ' v; pure (p, ρ')) = some (o, ρ') := by
    unfold evPt at g
    split at g
    · exact absurd rfl hn
    · exact g
  obtain ⟨⟨va, ρ1⟩, ga, g⟩ := bind_some g
  obtain ⟨p, gp, g⟩ := bind_some g
  obtain ⟨rfl, rfl⟩ := pure_some g
  refine qa n ρ σ F H va _ _ rl ga fun F1 H1 w1 s1 v1 => ?_
  unfold partD at gp
  obtain ⟨x, gx, gp⟩ := bind_some gp
  obtain ⟨i, gi, gp⟩ := bind_some gp
  cases gp
  cases x <;> cases gi
  cases (v1.look s1.rel gx).int
  exact ⟨_, rfl, k F1 H1 s1⟩
theorem dn_stp {st : Expr} {p2 : Pos} (hn : ib ≠ .nil) (ha : DE X a (evE G ia)) (hs : DE X st (evE G ib)) : DN X (.Subscript a (.Slice none none (some st) p2) pos) (evE G (.stp ia ib)) := by
  obtain ⟨tl, pl, ql⟩ := dp_some hn hs
  obtain ⟨ta, pa, qa⟩ := ha
  refine ⟨_, pe_step pa pl, fun n ρ σ F H v ρ' Q rl g k => ?_⟩
  unfold evE at g
  obtain ⟨⟨va, ρ1⟩, ga, g⟩ := bind_some g
  obtain ⟨⟨vb, ρ2⟩, gb, g⟩ := bind_some g
  obtain ⟨y, gy, g⟩ := bind_some g
  obtain ⟨i, gi, g⟩ := bind_some g
  obtain ⟨x, gx, g⟩ := bind_some g
  obtain ⟨z, gz, g⟩ := bind_some g
  obtain ⟨rfl, rfl⟩ := pure_some g
  have e0 : evPt G ib ρ1 = (do let (v, ρ') ← evE G ib ρ1; let p ← partD ρ' v; pure (p, ρ')) := by
    unfold evPt
    split
    · exact absurd rfl hn
    · rfl
  have gl : evPt G ib ρ1 = some (some i, ρ') := by
    rw [e0, gb]
    show (partD ρ' vb >>= fun p => pure (p, ρ')) = _
    unfold partD
    rw [gy]
    show ((asInt y >>= fun i => pure (some i)) >>= fun p => pure (p, ρ')) = _
    rw [gi]; rfl
  refine qa n ρ σ F H va ρ1 _ rl ga fun F1 H1 w1 s1 v1 => ql n ρ1 σ F1 H1 _ ρ' _ s1.rel gl fun F3 H3 s3 => ⟨i, rfl, ?_⟩
  have l1 := (v1.mono s3.ex).lookS s3.rel gx
  have st := s1.trans s3
  cases x with
  | lst xs =>
    obtain ⟨p, vs, rfl, h1, hz, hr⟩ := l1
    refine Or.inl ⟨p, vs, rfl, h1, ?_⟩
    simp only [stpD] at gz
    split at gz
    · rename_i hi
      cases gz
      exact Or.inr ⟨hi, fun p2 hp2 => k _ _ _ _ (st.trans (Step.al s3.rel (Al.own s3.rel.sub hp2))) rfl (st.nw (nw_lst s3.rel.sub hp2 hz hr))⟩
    · split at gz
      · rename_i hi
        cases gz
        exact Or.inl ⟨hi, fun p2 hp2 => k _ _ _ _ (st.trans (Step.al s3.rel (Al.own s3.rel.sub hp2))) rfl (st.nw (nw_lst s3.rel.sub hp2 (by rw [List.length_reverse]; exact hz) hr.reverse))⟩
      · cases gz
  | tup xs =>
    have l1 : Rp X.K F3 w1 (.tup xs) := l1
    cases l1 with
    | tup h1 hc hz hr =>
      rename_i pa' vs
      refine Or.inr ⟨_, vs, rfl, ex_t s3.rel.sub h1, ?_⟩
      simp only [stpD] at gz
      split at gz
      · rename_i hi
        cases gz
        exact Or.inr ⟨hi, k F3 H3 _ _ st rfl (.tup h1 hc hz hr)⟩
      · split at gz
        · rename_i hi
          cases gz
          exact Or.inl ⟨hi, fun p2 ob hp2 hob => k _ _ _ _ (st.trans (Step.al s3.rel (Al.one s3.rel.sub hp2))) rfl (rp_new_tup hob (Ov.Ex.none s3.rel.sub hp2) (by rw [List.length_reverse]; exact hz) hr.reverse)⟩
        · cases gz
  | non => cases gz
  | bl => cases gz
  | int => cases gz
  | str => cases gz
theorem dn_slc {lo hi : Option Expr} {p2 : Pos} (ha : DE X a (evE G ia)) (hl : DP X lo (evPt G ib)) (hh : DP X hi (evPt G ic)) : DN X (.Subscript a (.Slice lo hi none p2) pos) (evE G (.slc ia ib ic)) := by
  obtain ⟨ta, pa, qa⟩ := ha
  obtain ⟨tl, pl, ql⟩ := hl
  obtain ⟨th, ph, qh⟩ := hh
  refine ⟨_, pe_slice (sl_list.or (sl_tupN.or sl_str)) pa pl ph, fun n ρ σ F H v ρ' Q rl g k => ?_⟩
  have g : (do
    let (va, ρ1) ← evE G ia ρ
    let (l, ρ2) ← evPt G ib ρ1
    let (h, ρ3) ← evPt G ic ρ2
    let x ← va.lookS ρ3
    match x with
    | .lst xs => pure (.d (.lst (cutD xs l h)), ρ3)
    | .tup xs => pure (.d (.tup (cutD xs l h)), ρ3)
    | .str s => if s.length ≤ sizeLine then pure (.d (.str (cutT s l h)), ρ3) else none
    | _ => none) = some (v, ρ') := by
    unfold evE at g
    exact g
  obtain ⟨⟨va, ρ1⟩, ga, g⟩ := bind_some g
  obtain ⟨⟨l, ρ2⟩, gl, g⟩ := bind_some g
  obtain ⟨⟨h, ρ3⟩, gh, g⟩ := bind_some g
  obtain ⟨x, gx, g⟩ := bind_some g
  refine qa n ρ σ F H va ρ1 _ rl ga fun F1 H1 w1 s1 v1 => ql n ρ1 σ F1 H1 l ρ2 _ s1.rel gl fun F2 H2 s2 => qh n ρ2 σ F2 H2 h ρ3 _ s2.rel gh fun F3 H3 s3 => ?_
  have l1 := (v1.mono (s2.ex.trans s3.ex)).lookS s3.rel gx
  have st := (s1.trans s2).trans s3
  cases x with
  | lst xs =>
    obtain ⟨rfl, rfl⟩ := pure_some g
    obtain ⟨p, vs, rfl, h1, hz, hr⟩ := l1
    refine Or.inl ⟨p, vs, rfl, h1, fun p2 hp2 => ?_⟩
    exact k _ _ _ _ (st.trans (Step.al s3.rel (Al.own s3.rel.sub hp2))) rfl (st.nw (nw_lst s3.rel.sub hp2 (Nat.le_trans (cutD_len _ _ _) hz) (cut_rps l h hr)))
  | tup xs =>
    obtain ⟨rfl, rfl⟩ := pure_some g
    have l1 : Rp X.K F3 w1 (.tup xs) := l1
    cases l1 with
    | tup h1 hc hz hr =>
      rename_i pa' vs
      refine Or.inr (Or.inl ⟨_, vs, rfl, ex_t s3.rel.sub h1, fun hw => ?_, fun hw p2 ob hp2 hob => ?_⟩)
      · have e1 : cutD xs l h = xs := by
          unfold cutD
          rw [sIx_eq, sIx_eq, ← hr.length, hw.1, hw.2]
          simp [hr.length]
        rw [e1] at k
        exact k F3 H3 _ _ st rfl (.tup h1 hc hz hr)
      · exact k _ _ _ _ (st.trans (Step.al s3.rel (Al.one s3.rel.sub hp2))) rfl (rp_new_tup hob (Ov.Ex.none s3.rel.sub hp2) (Nat.le_trans (cutD_len _ _ _) hz) (cut_rps l h hr))
  | non => cases g
  | bl => cases g
  | int => cases g
  | str z =>
    dsimp only at g
    split at g
    · rename_i hz
      obtain ⟨rfl, rfl⟩ := pure_some g
      have l1 : Rp X.K F3 w1 (.str z) := l1
      cases Rp.strv l1
      refine Or.inr (Or.inr ⟨z, rfl, hz, ?_⟩)
      have e1 : cutS z l h = cutT z l h := by unfold cutS cutT; rw [sIx_eq, sIx_eq]
      rw [e1]
      exact k F3 H3 _ _ st rfl (.str _)
    · cases g
/-! ### calls of built-ins -/
theorem de_lenS {x p : Pos} {a : Expr} (hg : Gl X "len") (hm : X.mg "len" = none) (h1 : starEach [a] X.env = [(false, eval a X.env)]) (ha : DE X a (evE G ia)) : DE X (.Call (.Name "len" p) [a] [] pos) (evE G (.lenS ia)) := by
  obtain ⟨ta, pa, qa⟩ := ha
  obtain ⟨r, hr, qr⟩ := cd_lenS (X := X)
  refine ⟨_, pe_callB hr hg hm boot_len (pa_cons pa pa_nil h1) (by decide) (by decide) h1 rfl, fun n ρ σ F H v ρ' Q rl g k => ?_⟩
  unfold evE at g
  obtain ⟨⟨va, ρ1⟩, ga, g⟩ := bind_some g
  obtain ⟨y, gx, g⟩ := bind_some g
  obtain ⟨z, gz, g⟩ := bind_some g
  obtain ⟨rfl, rfl⟩ := pure_some g
  refine qa n ρ σ F H va _ _ rl ga fun F1 H1 w1 s1 v1 => ?_
  exact qr F1 H1 w1 y z Q s1.rel.sub (v1.lookS s1.rel gx) gz fun w hw => k F1 H1 w s1 hw
theorem boot_bi : ∀ b : Bi, bootBuiltins (Str.ofString b.name) = some b.val := by
  intro b; cases b <;> decide +kernel
theorem dn_bi {bi : Bi} {x : Str} {p : Pos} (hx : x = Str.ofString bi.name) (hc : X.calm = true) (hgd : X.A.guards = some []) (hu : X.A.units + 65 < cLine) (hg : Gl X x) (hm : X.mg x = none) (h1 : starEach (a :: es) X.env = (false, eval a X.env) :: starEach es X.env)
    (h2 : (backTo pos (starEach es X.env)).any (·.1) = false) (ha : DA X (a :: es) (evL G ia)) : DN X (.Call (.Name x p) (a :: es) [] pos) (evE G (.bi bi ia)) := by
  obtain ⟨ta, pa, qa⟩ := ha
  obtain ⟨r, hr, qr⟩ := cd_of_bi hc hgd hu bi
  have hv : bootBuiltins x = some bi.val := by rw [hx]; exact boot_bi bi
  have hn : x ≠ "__name__" := by rw [hx]; cases bi <;> decide
  have hdb : (x == ("__debug__" : Str)) = false := by rw [hx]; cases bi <;> decide
  have pe : PE X (.Call (.Name x p) (a :: es) [] pos) (tCB r ta) := by
    cases hb : bi.isTy with
    | true =>
      have ev : bi.val = .type bi.name := by unfold Bi.val; rw [hb]; rfl
      rw [ev] at hr hv
      exact pe_callTy hr hg hm hv pa hn hdb h1 h2
    | false =>
      have ev : bi.val = .builtin bi.name := by unfold Bi.val; rw [hb]; rfl
      rw [ev] at hr hv
      exact pe_callB hr hg hm hv pa hn hdb h1 h2
  refine ⟨_, pe, fun n ρ σ F H v ρ' Q rl g k => ?_⟩
  unfold evE at g
  obtain ⟨⟨va, ρ1⟩, ga, g⟩ := bind_some g
  obtain ⟨xs, gx, g⟩ := bind_some g
  obtain ⟨z, gz, g⟩ := bind_some g
  obtain ⟨rfl, rfl⟩ := pure_some g
  refine qa n ρ σ F H va _ _ rl ga fun F1 H1 ws s1 v1 => ?_
  exact qr F1 H1 ws xs z Q s1.rel.sub (vr_looks s1.rel v1 gx) gz fun F' H' w al nw => k F' H' w z (s1.trans (Step.al s1.rel al)) rfl (s1.nw nw)
end
end Ov

set_option maxHeartbeats 2000000
namespace Ov
open PySem PySem.Spec PyProof.Rows L2 Evl
section
variable {X : Cx} {e a b c : Expr} {pos p q : Pos} {G : Cfg} {ia ib ic : IR} {rest es : List Expr}
/-! ### isinstance -/
theorem boot_ty : ∀ t : Ty, bootBuiltins (Str.ofString t.nm) = some (.type t.nm) := by
  intro t; cases t <;> decide +kernel
theorem boot_isi : bootBuiltins "isinstance" = some (.builtin "isinstance") := by decide +kernel
theorem pe_ty {t : Ty} (hg : Gl X (Str.ofString t.nm)) (hm : X.mg (Str.ofString t.nm) = none) : PE X (.Name (Str.ofString t.nm) pos) (tC (.ty t.nm)) :=
  pe_bltn hg hm (boot_ty t) rfl (by cases t <;> decide) (by cases t <;> decide)
theorem de_isi1 {t : Ty} (hgi : Gl X "isinstance") (hmi : X.mg "isinstance" = none) (hg : Gl X (Str.ofString t.nm)) (hm : X.mg (Str.ofString t.nm) = none)
    (hs : starEach (a :: [.Name (Str.ofString t.nm) q]) X.env = (false, eval a X.env) :: starEach [.Name (Str.ofString t.nm) q] X.env) (ha : DE X a (evE G ia)) :
    DE X (.Call (.Name "isinstance" p) [a, .Name (Str.ofString t.nm) q] [] pos) (evE G (.isi ia [t])) := by
  obtain ⟨ta, pa, qa⟩ := ha
  refine ⟨_, pe_callB call_isi hgi hmi boot_isi (pa_cons pa (pa_cons (pe_ty hg hm) pa_nil) hs) (by decide) (by decide) hs rfl, fun n ρ σ F H v ρ' Q rl g k => ?_⟩
  unfold evE at g
  obtain ⟨⟨va, ρ1⟩, ga, g⟩ := bind_some g
  obtain ⟨x, gx, g⟩ := bind_some g
  obtain ⟨rfl, rfl⟩ := pure_some g
  refine qa n ρ σ F H va _ _ rl ga fun F1 H1 w1 s1 v1 => ?_
  refine ⟨w1, .ty t.nm, .type x.ty, .type t.nm, isTys [t] x, rfl, .ty _, ty_of s1.rel.sub (v1.look s1.rel gx), ?_, k F1 H1 _ s1 (.bl _)⟩
  rw [kit_ty (kit_d x t)]
  simp [isTys]
/-- names of types -/
def tyNames : List Ty → List (Pos × Ty) → List Expr
  | _, l => l.map fun p => .Name (Str.ofString p.2.nm) p.1
theorem pa_tys : ∀ (l : List (Pos × Ty)), (∀ t ∈ l.map (·.2), Gl X (Str.ofString t.nm) ∧ X.mg (Str.ofString t.nm) = none) →
    ∃ t, PA X (l.map fun p => .Name (Str.ofString p.2.nm) p.1) t ∧ ∀ σ H Q, Q (l.map fun p => V.ty p.2.nm) H → t σ H Q
  | [], _ => ⟨_, pa_nil, fun σ H Q q => q⟩
  | (ps, t) :: l, h => by
    obtain ⟨u, hu, qu⟩ := pa_tys l fun t ht => h t (List.mem_cons_of_mem _ ht)
    obtain ⟨h1, h2⟩ := h t (List.mem_cons_self ..)
    exact ⟨_, pa_cons (pe_ty h1 h2) hu rfl, fun σ H Q q => qu σ H _ q⟩
theorem de_isiT {l : List (Pos × Ty)} {x1 : Nat} (hgi : Gl X "isinstance") (hmi : X.mg "isinstance" = none) (hl : ∀ t ∈ l.map (·.2), Gl X (Str.ofString t.nm) ∧ X.mg (Str.ofString t.nm) = none) (hz : l.length ≤ sizeLine)
    (hs : starEach (a :: [.Tuple (l.map fun p => .Name (Str.ofString p.2.nm) p.1) x1 q]) X.env = (false, eval a X.env) :: starEach [.Tuple (l.map fun p => .Name (Str.ofString p.2.nm) p.1) x1 q] X.env) (ha : DE X a (evE G ia)) :
    DE X (.Call (.Name "isinstance" p) [a, .Tuple (l.map fun p => .Name (Str.ofString p.2.nm) p.1) x1 q] [] pos) (evE G (.isi ia (l.map (·.2)))) := by
  obtain ⟨ta, pa, qa⟩ := ha
  obtain ⟨tt, pt, qt⟩ := pa_tys l hl
  refine ⟨_, pe_callB call_isiT hgi hmi boot_isi (pa_cons pa (pa_cons (pe_tup pt) pa_nil) hs) (by decide) (by decide) hs rfl, fun n ρ σ F H v ρ' Q rl g k => ?_⟩
  unfold evE at g
  obtain ⟨⟨va, ρ1⟩, ga, g⟩ := bind_some g
  obtain ⟨x, gx, g⟩ := bind_some g
  obtain ⟨rfl, rfl⟩ := pure_some g
  refine qa n ρ σ F H va _ _ rl ga fun F1 H1 w1 s1 v1 => ?_
  refine qt σ H1 _ ⟨by rw [List.length_map]; exact hz, fun tp htp => ?_⟩
  have al := Al.own (o := .tup (l.map fun p => V.ty p.2.nm)) s1.rel.sub htp
  have s2 := s1.trans (Step.al s1.rel al)
  refine ⟨w1, tp, _, .type x.ty, _, _, rfl, upd_same, ?_, ty_of s2.rel.sub (v1.look s2.rel gx), kit_ds x (l.map fun (y : Pos × Ty) => y.2), k F1 _ _ s2 (.bl _)⟩
  have : ∀ l : List (Pos × Ty), Paired ClsV (l.map fun p => V.ty p.2.nm) ((l.map (·.2)).map fun t => Value.type t.nm) := fun l => by
    induction l with
    | nil => exact .nil
    | cons a l ih => exact .cons (.ty _) ih
  exact this l
/-! ### what is walked -/
/-- an item: for a pattern of places a pair does, too, whose tuple is not shown elsewhere -/
def Rg (K : PySem.W.Frag) (F : Hp) : Pat → V → D → Prop
  | .tp _, v, d => Rp K F v d ∨ ∃ T x y a b, v = .ref T ∧ d = .tup [a, b] ∧ SqT K F T [x, y] ∧ Rp K F x a ∧ Rp K F y b
  | _, v, d => Rp K F v d
theorem Rg.of {K : PySem.W.Frag} {F : Hp} {p : Pat} {v : V} {d : D} (h : Rp K F v d) : Rg K F p v d := by
  cases p <;> first | exact h | exact Or.inl h
/-- the i-th item comes at turn i -/
def YD (p : Pat) (K : PySem.W.Frag) (F : Hp) (xs : List D) (Y : Nat → Hp → V → Hp → Prop) : Prop :=
  ∀ i Hc x H2, i < xs.length → Ex F Hc → Y i Hc x H2 → ∃ d, xs[i]? = some d ∧ ∀ Fc, Ex F Fc → Ex Fc Hc → ∃ F2, Al Fc Hc F2 H2 ∧ Rg K F2 p x d
def DI (X : Cx) (pt : Pat) (tg iter : Expr) (f : Slots → Option (List D × Slots)) : Prop := ∃ wi, PI X tg iter wi ∧ ∀ (n : Ent) (ρ : Slots) (σ : L2.St) (F H : Hp) (xs : List D) (ρ' : Slots) (R : It → Hp → Prop), Rel X.K n ρ σ F H → f ρ = some (xs, ρ') →
  (∀ F' H' J Gd Y, Step X.K n σ ρ F H ρ' F' H' → xs.length ≤ sizeLine → Walk J xs.length Gd Y → (∀ H2, Ex F' H2 → Gd H2) → YD pt X.K F' xs Y → R J H') → wi σ H R
def evI (G : Cfg) (k : ItK) (a b : IR) (ρ : Slots) : Option (List D × Slots) := itGo k (evE G a ρ) (evE G b)
def iSeq (K : PySem.W.Frag) (tl : TE) : TI := fun σ H R => tl σ H fun x H1 => (∃ a, x = .ref a ∧ (∃ xs, SqL K H1 a xs) ∧ R (Itl K a) H1) ∨ (∃ a, x = .ref a ∧ (∃ xs, SqT K H1 a xs) ∧ R (Itt K a) H1) ∨ ∃ z, x = .str z ∧ R (Its z) H1
theorem pi_seq {tg l : Expr} {tl : TE} (hl : PE X l tl) : PI X tg l (iSeq X.K tl) := by
  refine ⟨fun pins s σ H R I h => ?_⟩
  refine thn (hl.run pins s σ H _ I h) fun v s1 ⟨x, H1, I1, r1, q1⟩ => ?_
  rcases q1 with ⟨a, e, ⟨xs, hq⟩, q⟩ | ⟨a, e, ⟨xs, hq⟩, q⟩ | ⟨z, e, q⟩
  · subst e
    cases r1
    obtain ⟨its, rv, p, hz⟩ := I1.list hq
    refine wpAny_pyIter_list p.isList ?_
    refine ⟨s1.heap.objs.size, [s1.heap.objs.size], _, _, H1, rfl, I1.kept (t' := s1.toks) fun b o e => Heap.get?_push_of_some _ e, turn_list a _, ⟨_, Heap.get?_push_size _ rfl, rfl, rfl⟩, fun b hb => ?_, q⟩
    have e : b = s1.heap.objs.size := by simpa using hb
    subst e
    exact I1.fpOk (Nat.le_refl _) (I1.hok.fresh (Nat.le_refl _))
  · subst e
    cases r1
    obtain ⟨its, rv, p, hz⟩ := I1.tuple hq
    refine wpAny_pyIter_tuple (show s1.heap.IsTuple a its.toArray from p) ?_
    refine ⟨s1.heap.objs.size, [s1.heap.objs.size], _, _, H1, rfl, I1.kept (t' := s1.toks) fun b o e => Heap.get?_push_of_some _ e, turn_tuple a _, ⟨_, Heap.get?_push_size _ rfl, rfl, rfl⟩, fun b hb => ?_, q⟩
    have e : b = s1.heap.objs.size := by simpa using hb
    subst e
    exact I1.fpOk (Nat.le_refl _) (I1.hok.fresh (Nat.le_refl _))
  · subst e
    obtain ⟨t, rfl⟩ := r1
    cases ha : z.cps.all (· < 128)
    · exact wpAny_pyIter_wide ha (pi_one (tk := s1.toks) I1 _ (turn_str _ z t "str_iterator" (.inr rfl)) ⟨_, Heap.get?_push_size _ rfl, rfl, rfl⟩ q)
    · exact wpAny_pyIter_ascii ha (pi_one (tk := s1.toks) I1 _ (turn_str _ z t "str_ascii_iterator" (.inl rfl)) ⟨_, Heap.get?_push_size _ rfl, rfl, rfl⟩ q)
theorem yd_at {pt : Pat} {K : PySem.W.Frag} {F : Hp} {vs : List V} {xs : List D} (h : Rps K F vs xs) : YD pt K F xs (YAt vs) := by
  intro i Hc x H2 hi e y
  obtain ⟨rfl, hy⟩ := y
  obtain ⟨d, h1, h2⟩ := h.getV hy
  exact ⟨d, h1, fun Fc e1 e2 => ⟨Fc, Al.refl e2, Rg.of (h2.mono e1)⟩⟩
theorem di_seq {pt : Pat} {tg : Expr} (ha : DE X a (evE G ia)) : DI X pt tg a (evI G .seq ia ib) := by
  obtain ⟨ta, pa, qa⟩ := ha
  refine ⟨_, pi_seq pa, fun n ρ σ F H xs ρ' R rl g k => ?_⟩
  unfold evI itGo at g
  obtain ⟨⟨va, ρ1⟩, ga, g⟩ := bind_some g
  obtain ⟨x, gx, g⟩ := bind_some g
  obtain ⟨ys, gy, g⟩ := bind_some g
  obtain ⟨rfl, rfl⟩ := pure_some g
  refine qa n ρ σ F H va _ _ rl ga fun F1 H1 w1 s1 v1 => ?_
  have r := v1.pure gx
  cases x with
  | lst ds =>
    cases gy
    cases r with
    | lst h1 hz hr =>
      refine Or.inl ⟨_, rfl, ⟨_, Or.inl (Or.inl (s1.rel.sub _ _ h1))⟩, ?_⟩
      refine k F1 H1 _ _ _ s1 hz (by rw [← hr.length]; exact walk_list) (fun H2 e => Or.inl (Or.inl (e _ _ h1))) (yd_at hr)
  | tup ds =>
    cases gy
    cases r with
    | tup h1 hc hz hr =>
      refine Or.inr (Or.inl ⟨_, rfl, ⟨_, ex_t s1.rel.sub h1⟩, ?_⟩)
      refine k F1 H1 _ _ _ s1 hz (by rw [← hr.length]; exact walk_tup) (fun H2 e => ex_t e h1) (yd_at hr)
  | str z =>
    simp only [D.items] at gy
    split at gy
    · rename_i hz
      cases gy
      cases r
      refine Or.inr (Or.inr ⟨z, rfl, ?_⟩)
      have hl : (z.cps.toList.map fun c => D.str ⟨#[c]⟩).length = z.cps.size := by simp
      refine k F1 H1 _ _ _ s1 (by rw [hl]; exact hz) (by rw [hl]; exact walk_str) (fun H2 e => trivial) ?_
      intro i Hc x H2 hi e y
      obtain ⟨rfl, c, hc, rfl⟩ := y
      refine ⟨.str ⟨#[c]⟩, ?_, fun Fc e1 e2 => ⟨Fc, Al.refl e2, Rg.of (.str _)⟩⟩
      rw [List.getElem?_map]
      simp [hc]
    · cases gy
  | non => cases gy
  | bl => cases gy
  | int => cases gy
theorem di_range1 {pt : Pat} {tg : Expr} (hg : Gl X "range") (hm : X.mg "range" = none) (hs : starEach [a] X.env = [(false, eval a X.env)]) (ha : DE X a (evE G ia)) : DI X pt tg (.Call (.Name "range" p) [a] [] pos) (evI G .rng ia ib) := by
  obtain ⟨ta, pa, qa⟩ := ha
  refine ⟨_, pi_range1 hg hm (pa_cons pa pa_nil hs) hs, fun n ρ σ F H xs ρ' R rl g k => ?_⟩
  unfold evI itGo at g
  obtain ⟨⟨va, ρ1⟩, ga, g⟩ := bind_some g
  obtain ⟨x, gx, g⟩ := bind_some g
  obtain ⟨m, gm, gi⟩ := bind_some g
  clear g
  split at gi
  · rename_i hb
    obtain ⟨rfl, rfl⟩ := pure_some gi
    refine qa n ρ σ F H va _ _ rl ga fun F1 H1 w1 s1 v1 => ?_
    cases x <;> cases gm
    cases (v1.look s1.rel gx).int
    have hs62 : (sizeLine : Int) < 2 ^ 62 := by decide
    refine ⟨m, rfl, hb.2, by omega, ?_⟩
    have hl : (range1 m.toNat).length = m.toNat := by simp [range1]
    refine k F1 H1 _ _ _ s1 (by rw [hl]; omega) (by rw [hl]; exact walk_range) (fun H2 e => trivial) ?_
    intro i Hc x H2 hi e y
    obtain ⟨rfl, rfl⟩ := y
    rw [hl] at hi
    refine ⟨.int (0 + (i : Int)), ?_, fun Fc e1 e2 => ⟨Fc, Al.refl e2, Rg.of (.int _)⟩⟩
    simp [range1, hi]
  · cases gi
end
end Ov

set_option maxHeartbeats 4000000
namespace PySem
open Sem (wp)
open AutoSeq1 (wpAny_loadPart')
theorem ov_enumerate_newB {v : Value} {o : Obj} {H : Heap → Prop} (B : Begins v o H) :
    Meets (Builtin.«enumerate.__new__» ⟨[.type "enumerate", v], []⟩) (fun _ R s => H s.heap ∧
      R (.ok (.ret (.ref (s.heap.push o).objs.size))) { s with heap := (s.heap.push o).push { cls := .type "enumerate", data := .fields #[.none, .bool false, .ref s.heap.objs.size, rawInt 0, .none, .none] } }) :=
  .of_wp fun prog w A R s h => by
    obtain ⟨hp, g, d, tk, os⟩ := s; obtain ⟨h1, h⟩ := h
    have hsub := sub_enumerate
    have q1 : ∀ {A' : Around} {E : Value → Shared → Prop} {Q : Value → Shared → Prop}, Q (.ref hp.objs.size) ⟨hp.push o, g, d, tk, os⟩ → wpAny (model prog w) A' (pyIter v) Q E ⟨hp, g, d, tk, os⟩ :=
      fun q => B.iter prog w _ _ ⟨hp, g, d, tk, os⟩ _ h1 q
    wp_walk using q1
    refine wpAny_stack_any fun st => wpAny_pure ?_
    split
    · rename_i c _ _ _ _ _
      cases (c == Value.type "enumerate")
      · wp_walk using q1
        exact ⟨_, rfl, h⟩
      · wp_walk using q1
        exact ⟨_, rfl, h⟩
    · wp_walk using q1
      exact ⟨_, rfl, h⟩
end PySem
namespace Ov
open PySem PySem.Spec PyProof.Rows L2 Evl
theorem call_enumerate_tuple {prog : Program} {w : World} {A : Around} {E : Value → Shared → Prop} {s : Shared} {l : Addr} {items : Array Value} {Q : Value → Shared → Prop} (hL : s.heap.IsTuple l items)
    (h : ∀ h', IsEnum h' (s.heap.objs.size + 1) s.heap.objs.size 0 .none → h'.IsTupleIter s.heap.objs.size l 0 → h'.objs.size = s.heap.objs.size + 2 →
      (∀ b o, s.heap.get? b = some o → h'.get? b = some o) → Q (.ref (s.heap.objs.size + 1)) { s with heap := h' }) :
    wpAny (model prog w) A (call (.type "enumerate") [.ref l]) Q E s := by
  refine callType_new F.called_enumerate (by decide) (F.typeCall_enumerate_1 _) (F.newCall_enumerate_1 _) (fun obj => F.args_object_init_2 obj _) F.entry_enumerate_new
    (ov_enumerate_newB (begins_tuple l items)) ⟨hL, ?_⟩
  have hz : (s.heap.push { cls := .type "tuple_iterator", data := .fields #[.ref l, .int 0 0] }).objs.size = s.heap.objs.size + 1 := Heap.size_push ..
  show _ ∧ _
  rw [hz]
  have he : IsEnum ((s.heap.push { cls := .type "tuple_iterator", data := .fields #[.ref l, .int 0 0] }).push
      { cls := .type "enumerate", data := .fields #[.none, .bool false, .ref s.heap.objs.size, rawInt 0, .none, .none] }) (s.heap.objs.size + 1) s.heap.objs.size 0 .none := by
    have := Heap.get?_push_size (s.heap.push { cls := .type "tuple_iterator", data := .fields #[.ref l, .int 0 0] })
      (o := { cls := .type "enumerate", data := .fields #[.none, .bool false, .ref s.heap.objs.size, rawInt 0, .none, .none] }) rfl
    rw [hz] at this; exact this
  refine ⟨⟨_, he, rfl⟩, h _ he ⟨_, Heap.get?_push_of_some _ (Heap.get?_push_size _ rfl), rfl, rfl⟩ (by rw [Heap.size_push, hz]) fun b o x => Heap.get?_push_of_some _ (Heap.get?_push_of_some _ x)⟩
/-- the tuple at a, each item in a new pair -/
def IteT (K : PySem.W.Frag) (a : Addr) : It :=
  ⟨fun i H => ∃ (xs : List V) (x : V), SqT K H a xs ∧ xs[i]? = some x, fun i H v H' => ∃ T x, v = .ref T ∧ H T = none ∧ H' = upd H T (.tup [.int (i : Nat), x]) ∧ ∀ xs, SqT K H a xs → xs[i]? = some x, fun i H => ∃ xs : List V, SqT K H a xs ∧ xs.length = i⟩
theorem turn_enumT {P : Program} {w : World} {K : PySem.W.Frag} {elts : List Expr} {kk : Nat} {tpos : Pos} (a e it : Addr) (hai : a ≠ it) (hae : e ≠ a) :
    Turn P w K (.Tuple elts kk tpos) (IteT K a) [e, it] e (fun i h => (∃ old, IsEnum h e it ((i : Nat) : Int) old) ∧ h.IsTupleIter it a i ∧ e ≠ it) where
  mem := by simp
  obj := fun i h st b hb => by
    obtain ⟨⟨old, he⟩, ⟨o, ho, hc, hd⟩, _⟩ := st
    have e' : b = e ∨ b = it := by simpa using hb
    rcases e' with z | z
    · rw [z]; exact ⟨_, he, fun v q => nomatch q⟩
    · rw [z]; exact ⟨o, ho, fun v q => by rw [hd] at q; cases q⟩
  keep := fun i h h' st k => let ⟨⟨old, he⟩, hi, hne⟩ := st; ⟨⟨old, k e (by simp) _ he⟩, hi.at fun o q => k it (by simp) o q, hne⟩
  item := by
    intro X hP hw hK hc i pins s σ H E I hf st hg
    subst hP hw hK
    obtain ⟨⟨old, he⟩, hit, hne⟩ := st
    obtain ⟨xs, x, hq, hx⟩ := hg
    obtain ⟨its, rv, p, hz⟩ := I.tuple hq
    obtain ⟨u, hu, ru⟩ := rv.get hx
    have hel : e < s.heap.objs.size := Heap.lt_size he
    have hil : it < s.heap.objs.size := by obtain ⟨_, q, _⟩ := hit; exact Heap.lt_size q
    have hlt : i < its.toArray.size := by
      have := (List.getElem?_eq_some_iff.mp hu).1
      simpa using this
    refine wpAny_pyNext_enum_itemD (Draws.tuple (show X.A.in1.handled = none from I.ok.hd hc) it a hai its.toArray) he ⟨hit, p⟩ hlt hne (by simp [hne, hae]) fun y h' tk hy ho hst' hT hsz hk => ?_
    obtain rfl : y = u := by
      have h1 : its[i]? = some y := by simpa using hy
      rw [hu] at h1; cases h1; rfl
    obtain ⟨hit', _⟩ := hst'
    refine ⟨_, rfl, wpAny_letOwnedTupleGo_enum (s := { s with heap := h', toks := tk + 1 }) ho fun h'' he' sb => ?_⟩
    have hT2 : h''.get? s.heap.objs.size = some { cls := .type "tuple", data := .seq #[.int i tk, y] } := (sb.2 _ (Nat.ne_of_gt hel)).trans hT
    have new : ObjOk X.prog X.w (upd H s.heap.objs.size (.tup [.int (i : Nat), x])) h'' s.heap.objs.size (.tup [.int (i : Nat), x]) :=
      ⟨by show 2 ≤ sizeLine; decide, [.int i tk, y], .cons ⟨_, rfl⟩ (.cons ru .nil), ⟨_, hT2, rfl, _, rfl⟩⟩
    have I1 : Inv X pins σ (upd H s.heap.objs.size (.tup [.int (i : Nat), x])) { s with heap := h'', toks := tk + 1 } :=
      I.turnedNew (ch := [e, it]) (fun b ob hb q => (sb.2 b (fun z => hb (by simp [z]))).trans (hk b ob (fun z => hb (by simp [z])) (fun z => hb (by simp [z])) q)) hf (Nat.le_refl _) new
    refine ⟨.ref s.heap.objs.size, _, I1, rfl, ⟨_, x, rfl, I.hok.fresh (Nat.le_refl _), rfl, fun ys hy => by rw [I.tuple_inj hy hq]; exact hx⟩, ⟨⟨y, ?_⟩, hit'.at fun o q => (sb.2 it (Ne.symm hne)).trans q, hne⟩, fun b hb => ?_⟩
    · have e1 : ((i + 1 : Nat) : Int) = (i : Int) + 1 := by omega
      rw [e1]; exact he'
    · have hb' : b < s.heap.objs.size := by
        have e' : b = e ∨ b = it := by simpa using hb
        rcases e' with z | z
        · rw [z]; exact hel
        · rw [z]; exact hil
      rw [upd_ne (Nat.ne_of_lt hb')]
      exact (hf b hb).1
  done := by
    intro X hP hw hK hc i pins s σ H E I hf st hg
    subst hP hw hK
    obtain ⟨⟨old, he⟩, hit, hne⟩ := st
    obtain ⟨xs, hq, hx⟩ := hg
    obtain ⟨its, rv, p, hz⟩ := I.tuple hq
    obtain ⟨f0, f1, f2, f3, f4, f5⟩ := hf it (by simp)
    have hl := rv.length
    have hi : i = its.toArray.size := by simp; omega
    subst hi
    exact wpAny_pyNext_enum_endD (Draws.tuple (show X.A.in1.handled = none from I.ok.hd hc) it a hai its.toArray) he ⟨hit, p⟩ fun h' eb => ⟨rfl, I.turned (t' := s.toks) (fun b o hb q => eb b o hb q) f0 f1 f3 f4 f5⟩
  self := fun A i s Q E st h => let ⟨⟨_, he⟩, _⟩ := st; wpAny_pyIter_enum he h
end Ov

set_option maxHeartbeats 4000000
namespace Ov
open PySem PySem.Spec PyProof.Rows L2 Evl
def iEnumA (K : PySem.W.Frag) (ta : TA) : TI := fun σ H R => ta σ H fun vs H1 => ∃ a xs, vs = [.ref a] ∧ ((SqL K H1 a xs ∧ R (Ite K a) H1) ∨ (SqT K H1 a xs ∧ R (IteT K a) H1))
theorem pi_enumA {X : Cx} {e : Expr} {ta : TA} {p pos tpos : Pos} {elts : List Expr} {kk : Nat} (hg : Gl X "enumerate") (hm : X.mg "enumerate" = none) (ha : PA X [e] ta) (hs : starEach [e] X.env = [(false, eval e X.env)]) :
    PI X (.Tuple elts kk tpos) (.Call (.Name "enumerate" p) [e] [] pos) (iEnumA X.K ta) := by
  refine ⟨fun pins s σ H R I h => ?_⟩
  refine Call_ (ld_blt I hg hm boot_enumerate (PyProof.Rows.callWith_type1 (thn (ha.run pos pins s σ H _ I h) fun us s1 ⟨vs, H1, I1, r1, q1⟩ => ?_) hs rfl))
  obtain ⟨a, xs, ex, q⟩ := q1
  subst ex
  cases r1 with
  | cons r rr =>
    cases rr
    cases r
    have fr : ∀ b, b ∈ [s1.heap.objs.size + 1, s1.heap.objs.size] → FpOk X pins H1 b := fun b hb => by
      have e' : b = s1.heap.objs.size + 1 ∨ b = s1.heap.objs.size := by simpa using hb
      have hle : s1.heap.objs.size ≤ b := by
        rcases e' with z | z
        · rw [z]; exact Nat.le_add_right _ _
        · rw [z]; exact Nat.le_refl _
      exact I1.fpOk hle (I1.hok.fresh hle)
    rcases q with ⟨hq, q⟩ | ⟨hq, q⟩
    · obtain ⟨its, rv, p', hz⟩ := I1.list hq
      refine call_enumerate_list p'.isList fun h' he hit hsz hk => wpAny_pyIter_enum he ?_
      have I2 : Inv X pins σ H1 { s1 with heap := h' } := I1.kept (t' := s1.toks) hk
      exact ⟨s1.heap.objs.size + 1, [s1.heap.objs.size + 1, s1.heap.objs.size], _, _, H1, rfl, I2, turn_enum a (s1.heap.objs.size + 1) s1.heap.objs.size, ⟨⟨.none, he⟩, hit, Nat.succ_ne_self _⟩, fr, q⟩
    · obtain ⟨its, rv, p', hz⟩ := I1.tuple hq
      have hlt : a < s1.heap.objs.size := by obtain ⟨o1, ho1, _⟩ := id p'; exact Heap.lt_size ho1
      refine call_enumerate_tuple (show s1.heap.IsTuple a its.toArray from p') fun h' he hit hsz hk => wpAny_pyIter_enum he ?_
      have I2 : Inv X pins σ H1 { s1 with heap := h' } := I1.kept (t' := s1.toks) hk
      exact ⟨s1.heap.objs.size + 1, [s1.heap.objs.size + 1, s1.heap.objs.size], _, _, H1, rfl, I2, turn_enumT a (s1.heap.objs.size + 1) s1.heap.objs.size (Nat.ne_of_lt hlt) (Nat.ne_of_gt (Nat.lt_succ_of_lt hlt)), ⟨⟨.none, he⟩, hit, Nat.succ_ne_self _⟩, fr, q⟩
theorem walk_enumT {K : PySem.W.Frag} {a : Addr} {xs : List V} : Walk (IteT K a) xs.length (fun H => SqT K H a xs) (YPair (fun i => some (.int (i : Nat))) (fun i => xs[i]?)) := by
  refine ⟨fun i _ hi q => ⟨xs, xs[i], q, by simp [hi]⟩, fun _ q => ⟨xs, q, rfl⟩, fun i H v H' _ q y => ?_⟩
  obtain ⟨T, x, h1, h2, h3, h4⟩ := y
  exact ⟨T, .int (i : Nat), x, h1, h2, h3, rfl, h4 xs q⟩
theorem walk_zipT {K : PySem.W.Frag} {a b : Addr} {xs ys : List V} {n : Nat} (hn : n = min xs.length ys.length) : Walk (RZ.ItzT K a b) n (fun H => SqT K H a xs ∧ SqT K H b ys) (YPair (fun i => xs[i]?) (fun i => ys[i]?)) := by
  subst hn
  refine ⟨fun i _ hi q => ?_, fun _ q => ⟨xs, ys, q.1, q.2, by omega⟩, fun i H v H' _ q y => ?_⟩
  · have h1 : i < xs.length := by omega
    have h2 : i < ys.length := by omega
    exact ⟨xs, ys, xs[i], ys[i], q.1, q.2, by simp [h1], by simp [h2]⟩
  · obtain ⟨T, x, z, h1, h2, h3, h4, h5⟩ := y
    exact ⟨T, x, z, h1, h2, h3, h4 xs q.1, h5 ys q.2⟩
/-- pairs of data -/
theorem yd_pair {q : Pat} {K : PySem.W.Frag} {F : Hp} {fa fb : Nat → Option V} {xs : List D} (h : ∀ (i : Nat) x y, i < xs.length → fa i = some x → fb i = some y → ∃ a b, xs[i]? = some (.tup [a, b]) ∧ Rp K F x a ∧ Rp K F y b) : YD (.tp q) K F xs (YPair fa fb) := by
  intro i Hc x H2 hi e y
  obtain ⟨T, u, v, rfl, hT, rfl, hu, hv⟩ := y
  obtain ⟨a, b, h1, h2, h3⟩ := h i u v hi hu hv
  exact ⟨_, h1, fun Fc e1 e2 => ⟨_, Al.one e2 hT, Or.inr ⟨T, u, v, a, b, rfl, rfl, Or.inl (Or.inl upd_same), (h2.mono e1).mono (Ex.new (Ov.Ex.none e2 hT)), (h3.mono e1).mono (Ex.new (Ov.Ex.none e2 hT))⟩⟩⟩
section
variable {X : Cx} {G : Cfg} {a b : Expr} {ia ib : IR} {p pos tpos : Pos} {elts : List Expr} {kk : Nat}
theorem di_enum {q : Pat} (hg : Gl X "enumerate") (hm : X.mg "enumerate" = none) (hs : starEach [a] X.env = [(false, eval a X.env)]) (ha : DE X a (evE G ia)) : DI X (.tp q) (.Tuple elts kk tpos) (.Call (.Name "enumerate" p) [a] [] pos) (evI G .enm ia ib) := by
  obtain ⟨ta, pa, qa⟩ := ha
  refine ⟨_, pi_enumA hg hm (pa_cons pa pa_nil hs) hs, fun n ρ σ F H xs ρ' R rl g k => ?_⟩
  unfold evI itGo at g
  obtain ⟨⟨va, ρ1⟩, ga, g⟩ := bind_some g
  obtain ⟨x, gx, g⟩ := bind_some g
  obtain ⟨ys, gy, g⟩ := bind_some g
  obtain ⟨rfl, rfl⟩ := pure_some g
  refine qa n ρ σ F H va _ _ rl ga fun F1 H1 w1 s1 v1 => ?_
  have r := v1.pure gx
  have hl : (enumD ys).length = ys.length := by simp [enumD]
  have yd : ∀ {vs : List V}, Rps X.K F1 vs ys → YD (.tp q) X.K F1 (enumD ys) (YPair (fun i => some (.int (i : Nat))) (fun i => vs[i]?)) := fun {vs} hr => by
    refine yd_pair fun i u v hi hu hv => ?_
    cases hu
    obtain ⟨d, h1, h2⟩ := hr.getV hv
    refine ⟨.int (i : Nat), d, ?_, .int _, h2⟩
    simp [enumD, h1]
  cases x with
  | lst ds =>
    cases gy
    cases r with
    | lst h1 hz hr =>
      refine ⟨_, _, rfl, Or.inl ⟨Or.inl (Or.inl (s1.rel.sub _ _ h1)), ?_⟩⟩
      exact k F1 H1 _ _ _ s1 (by rw [hl]; exact hz) (by rw [hl, ← hr.length]; exact walk_enum) (fun H2 e => Or.inl (Or.inl (e _ _ h1))) (yd hr)
  | tup ds =>
    cases gy
    cases r with
    | tup h1 hc hz hr =>
      refine ⟨_, _, rfl, Or.inr ⟨ex_t s1.rel.sub h1, ?_⟩⟩
      exact k F1 H1 _ _ _ s1 (by rw [hl]; exact hz) (by rw [hl, ← hr.length]; exact walk_enumT) (fun H2 e => ex_t e h1) (yd hr)
  | str z => cases gy
  | non => cases gy
  | bl => cases gy
  | int => cases gy
theorem di_zip {q : Pat} (hg : Gl X "zip") (hm : X.mg "zip" = none) (hs : starEach [a, b] X.env = (false, eval a X.env) :: starEach [b] X.env) (hs2 : starEach [b] X.env = [(false, eval b X.env)])
    (ha : DE X a (evE G ia)) (hb : DE X b (evE G ib)) : DI X (.tp q) (.Tuple elts kk tpos) (.Call (.Name "zip" p) [a, b] [] pos) (evI G .zip ia ib) := by
  obtain ⟨ta, pa, qa⟩ := ha
  obtain ⟨tb, pb, qb⟩ := hb
  refine ⟨_, RZ.pi_zipA hg hm (pa_cons pa (pa_cons pb pa_nil hs2) hs) hs (by rw [hs2]; rfl), fun n ρ σ F H xs ρ' R rl g k => ?_⟩
  unfold evI itGo at g
  obtain ⟨⟨va, ρ1⟩, ga, g⟩ := bind_some g
  obtain ⟨⟨vb, ρ2⟩, gb, g⟩ := bind_some g
  obtain ⟨x, gx, g⟩ := bind_some g
  obtain ⟨y, gy, g⟩ := bind_some g
  refine qa n ρ σ F H va _ _ rl ga fun F1 H1 w1 s1 v1 => ?_
  refine qb n ρ1 σ F1 H1 vb _ _ s1.rel gb fun F2 H2 w2 s2 v2 => ?_
  have r1 := (v1.mono s2.ex).pure gx
  have r2 := v2.pure gy
  have s := s1.trans s2
  have yd : ∀ {us vs : List V} {ds es : List D}, Rps X.K F2 us ds → Rps X.K F2 vs es → YD (.tp q) X.K F2 (zipD ds es) (YPair (fun i => us[i]?) (fun i => vs[i]?)) := fun {us vs ds es} hr hr' => by
    refine yd_pair fun i u v hi hu hv => ?_
    obtain ⟨d, h1, h2⟩ := hr.getV hu
    obtain ⟨d', h1', h2'⟩ := hr'.getV hv
    refine ⟨d, d', ?_, h2, h2'⟩
    have hz := (List.getElem?_zip_eq_some (l₁ := ds) (l₂ := es) (z := (d, d')) (i := i)).mpr ⟨h1, h1'⟩
    simp only [zipD, List.getElem?_map, hz]; rfl
  have hl : ∀ ds es : List D, (zipD ds es).length = min ds.length es.length := fun ds es => by simp [zipD]
  cases x with
  | lst ds =>
    cases y with
    | lst es =>
      obtain ⟨rfl, rfl⟩ := pure_some g
      cases r1 with
      | lst h1 hz hr =>
        cases r2 with
        | lst h1' hz' hr' =>
          refine ⟨_, _, _, _, rfl, Or.inl ⟨Or.inl (Or.inl (s2.rel.sub _ _ h1)), Or.inl (Or.inl (s2.rel.sub _ _ h1')), ?_⟩⟩
          exact k F2 H2 _ _ _ s (by rw [hl]; omega) (walk_zip (by rw [hl, hr.length, hr'.length])) (fun H2 e => ⟨Or.inl (Or.inl (e _ _ h1)), Or.inl (Or.inl (e _ _ h1'))⟩) (yd hr hr')
    | _ => cases g
  | tup ds =>
    cases y with
    | tup es =>
      obtain ⟨rfl, rfl⟩ := pure_some g
      cases r1 with
      | tup h1 hc hz hr =>
        cases r2 with
        | tup h1' hc' hz' hr' =>
          refine ⟨_, _, _, _, rfl, Or.inr ⟨ex_t s2.rel.sub h1, ex_t s2.rel.sub h1', ?_⟩⟩
          exact k F2 H2 _ _ _ s (by rw [hl]; omega) (walk_zipT (by rw [hl, hr.length, hr'.length])) (fun H2 e => ⟨ex_t e h1, ex_t e h1'⟩) (yd hr hr')
    | _ => cases g
  | str z => cases g
  | non => cases g
  | bl => cases g
  | int => cases g
end
end Ov

set_option maxHeartbeats 4000000
namespace Ov
open PySem PySem.Spec PyProof.Rows L2 Evl
section
variable {X : Cx} {pins : List (Addr × Obj)} {σ : L2.St} {H : Hp} {s : Shared}
/-- the pairs of a tuple, by their values -/
theorem pairs_val (I : Inv X pins σ H s) : ∀ {ps : List Addr} {kvs : List (Key × V)}, Paired (fun p kv => SqT X.K H p [kV kv.1, kv.2]) ps kvs →
    ∃ (ws : List (Value × Value)) (prs : List (Key × Value)), KV kvs prs ∧ ws.length = ps.length ∧ prs.length = ps.length ∧ ∀ (j : Nat) (k v : Value), ws[j]? = some (k, v) →
      (∃ b, ps[j]? = some b ∧ s.heap.IsTuple b #[k, v]) ∧ ∃ z, prs[j]? = some (z, v) ∧ (mixKind X.prog X.w).is z k = true
  | _, _, .nil => ⟨[], [], .nil, rfl, rfl, fun j k v e => by cases e⟩
  | _, _, .cons (a := p) (b := kv) h t => by
    obtain ⟨ws, prs, g1, g2, g3, g4⟩ := pairs_val I t
    obtain ⟨its, rv, ht, _⟩ := I.tuple h
    obtain ⟨u, y, e, ru, ry⟩ := vals2 rv
    subst e
    refine ⟨(u, y) :: ws, (kv.1, y) :: prs, .cons ⟨rfl, ry⟩ g1, by simp [g2], by simp [g3], fun j k v e => ?_⟩
    cases j with
    | zero =>
      cases e
      exact ⟨⟨p, rfl, ht⟩, kv.1, rfl, kV_is (P := X.prog) (w := X.w) ru⟩
    | succ j => exact g4 j k v e
def rDictT (K : PySem.W.Frag) : List V → Hp → VK → Prop := fun xs H Q => ∃ (a : Addr) (ps : List Addr) (kvs : List (Key × V)), xs = [.ref a] ∧ SqT K H a (ps.map V.ref) ∧ Cl K H a ∧ Paired (fun p kv => SqT K H p [kV kv.1, kv.2]) ps kvs ∧
  ∀ p, H p = none → Q (.ref p) (upd H p (.dK (mergeK [] kvs)))
/-- dict of a tuple of pairs -/
theorem call_dictT (hcalm : X.calm = true) : CallR X (.type "dict") (rDictT X.K) := by
  intro pins s σ H xs us Q I rv hq
  rcases hq with ⟨a, ps, kvs, ex, hT, hc, hp, q⟩
  subst ex
  obtain ⟨u, eu, ru⟩ := vals1 rv
  subst eu
  cases ru
  obtain ⟨its, ri, ⟨ob, ho, hcl, n, hdat⟩, hz⟩ := I.tuple hT
  obtain ⟨ob', ho', hdict⟩ := cl_dict I hc
  rw [ho] at ho'
  cases ho'
  have ei := refs_at ri
  subst ei
  rw [List.length_map] at hz
  obtain ⟨ws, prs, kv, lw, lp, hw⟩ := pairs_val I hp
  have P := PairArg.tuple (prog := X.prog) (w := X.w) a (ps.map Value.ref).toArray (fun j => ps.getD j 0) ws
  refine PySem.call_dict_pairs (knd := mixKind X.prog X.w) (kvs := prs) P (I.ok.hd hcalm) ⟨⟨ob, n, ho, hcl, hdict, hdat⟩, by simp [lw], fun j k v e => ?_⟩ ⟨by omega, fun i k v e => (hw i k v e).2⟩ (by omega) fun hp2 tk hd' hk => ?_
  · obtain ⟨⟨b, e1, e2⟩, _⟩ := hw j k v e
    refine ⟨?_, ?_⟩
    · simp [List.getD, e1]
    · have : ps.getD j 0 = b := by simp [List.getD, e1]
      show PairAt s.heap (ps.getD j 0) k v
      rw [this]
      exact Or.inl e2
  · have hm : (s.heap.objs.size == sysModules) = false := beq_eq_false_iff_ne.mpr (Nat.ne_of_gt I.big)
    have hlen : (mergeK [] kvs).length ≤ sizeLine := by
      have h1 := length_mergeK kvs []
      have h2 := kv.length
      rw [List.length_nil] at h1
      omega
    have ok : ObjOk X.prog X.w (upd H s.heap.objs.size (.dK (mergeK [] kvs))) hp2 s.heap.objs.size (.dK (mergeK [] kvs)) := ⟨hlen, hm, merged [] prs, KV.merge kv .nil, hd'⟩
    exact ⟨V.ref s.heap.objs.size, _, I.laid (t' := tk) (fun b o e => hk b o (by simp) e) (Nat.le_refl _) ok, rfl, q _ (I.hok.fresh (Nat.le_refl _))⟩
end
section
variable {K : PySem.W.Frag} {F H : Hp}
theorem key_v {v : V} {x : D} {j : Key} (r : Rp K F v x) (e : keyD x = some j) : v = kV j := by
  cases x <;> cases e <;> cases r <;> rfl
/-- pairs with keys, as they stand -/
theorem pairs_at : ∀ {ds : List D} {vs : List V} {ps : List (Key × D)}, Rps K F vs ds → pairsI ds = some ps →
    ∃ (as : List Addr) (kvs : List (Key × V)), vs = as.map V.ref ∧ Paired (fun p kv => SqT K F p [kV kv.1, kv.2]) as kvs ∧ Paired (fun kv q => kv.1 = q.1 ∧ Rp K F kv.2 q.2) kvs ps
  | [], _, ps, h, e => by
    cases h
    simp only [pairsI] at e
    cases e
    exact ⟨[], [], rfl, .nil, .nil⟩
  | d :: ds, _, ps, h, e => by
    cases h with
    | cons h1 h2 =>
      simp only [pairsI] at e
      obtain ⟨q, e1, e⟩ := bind_some e
      obtain ⟨qs, e2, e⟩ := bind_some e
      cases e
      obtain ⟨as, kvs, rfl, g1, g2⟩ := pairs_at h2 e2
      unfold pairI at e1
      split at e1
      · rename_i k v
        obtain ⟨j, ek, e1⟩ := bind_some e1
        cases e1
        cases h1 with
        | tup hs hc hz ha =>
          cases ha with
          | cons r1 ra =>
            cases ra with
            | cons r2 rb =>
              cases rb
              have hkv := key_v r1 ek
              subst hkv
              exact ⟨_ :: as, (j, _) :: kvs, rfl, .cons hs g1, .cons ⟨rfl, r2⟩ g2⟩
      · cases e1
theorem val_merge : ∀ {ps : List (Key × D)} {kvs : List (Key × V)} {acc : List (Key × V)} {n : Key}, Paired (fun kv q => kv.1 = q.1 ∧ Rp K F kv.2 q.2) kvs ps →
    (match lastKey n ps with
      | some z => ∃ v, valV (mergeK acc kvs) n = some v ∧ Rp K F v z
      | none => valV (mergeK acc kvs) n = valV acc n)
  | [], _, acc, n, h => by cases h; rfl
  | q :: ps, _, acc, n, h => by
    cases h with
    | cons h1 h2 =>
      rename_i kv kvs
      have ih := val_merge (acc := putK acc kv.1 kv.2) (n := n) h2
      have e : mergeK acc (kv :: kvs) = mergeK (putK acc kv.1 kv.2) kvs := rfl
      rw [e]
      obtain ⟨j, v⟩ := q
      simp only [lastKey]
      cases hl : lastKey n ps with
      | some u => rw [hl] at ih; exact ih
      | none =>
        rw [hl] at ih
        dsimp only at ih ⊢
        rw [valV_put] at ih
        obtain ⟨e1, e2⟩ := h1
        by_cases hj : j = n
        · subst hj
          rw [if_pos rfl]
          rw [e1, if_pos rfl] at ih
          rw [e1]
          exact ⟨_, ih, e2⟩
        · rw [if_neg hj]
          rw [e1, if_neg (fun z => hj z.symm)] at ih
          rw [e1]; exact ih
end
section
variable {X : Cx} {G : Cfg} {a b : Expr} {ia ib : IR} {p pos pos' : Pos}
theorem boot_dict : bootBuiltins "dict" = some (.type "dict") := by decide +kernel
theorem de_dget (hc : X.calm = true) (hu : X.A.units + 65 < cLine) (hg : Gl X "dict") (hm : X.mg "dict" = none) (hs : starEach [a] X.env = [(false, eval a X.env)]) (hk : PlainIx b) (ha : DE X a (evE G ia)) (hb : DE X b (evE G ib)) :
    DE X (.Subscript (.Call (.Name "dict" p) [a] [] pos') b pos) (evE G (.dget ia ib)) := by
  obtain ⟨ta, pa, qa⟩ := ha
  obtain ⟨tb, pb, qb⟩ := hb
  refine ⟨_, pe_dget (by omega) (pe_callTy (Ov.CallR.or (call_dictP hc) (call_dictT hc)) hg hm boot_dict (pa_cons pa pa_nil hs) (by decide) (by decide) hs rfl) pb hk, fun n ρ σ F H v ρ' Q rl g k => ?_⟩
  unfold evE at g
  obtain ⟨⟨va, ρ1⟩, ga, g⟩ := bind_some g
  obtain ⟨x, gx, g⟩ := bind_some g
  obtain ⟨xs, gl, g⟩ := bind_some g
  obtain ⟨ps, gp, g⟩ := bind_some g
  obtain ⟨⟨vb, ρ2⟩, gb, g⟩ := bind_some g
  obtain ⟨y, gy, g⟩ := bind_some g
  obtain ⟨m, gm, g⟩ := bind_some g
  obtain ⟨z, gz, g⟩ := bind_some g
  obtain ⟨rfl, rfl⟩ := pure_some g
  refine qa n ρ σ F H va ρ1 _ rl ga fun F1 H1 w1 s1 v1 => ?_
  have hlk := v1.look s1.rel gx
  obtain ⟨q, vs, rfl, h1, hr⟩ : ∃ q vs, w1 = .ref q ∧ ((SqL X.K H1 q vs ∧ True) ∨ (SqT X.K H1 q vs ∧ Cl X.K H1 q)) ∧ Rps X.K F1 vs xs := by
    cases x <;> cases gl
    · obtain ⟨q, vs, rfl, h1, h2, hc, hz, hr⟩ := hlk.tup s1.rel.sub
      exact ⟨q, vs, rfl, Or.inr ⟨h1, hc.mono s1.rel.sub⟩, hr⟩
    · obtain ⟨q, vs, rfl, h1, hz, hr⟩ := hlk
      exact ⟨q, vs, rfl, Or.inl ⟨Or.inl (Or.inl h1), trivial⟩, hr⟩
  obtain ⟨as, kvs, rfl, g1, g2⟩ := pairs_at hr gp
  have gg : Paired (fun p kv => SqT X.K H1 p [kV kv.1, kv.2]) as kvs := Paired.mapP g1 fun _ _ w => ex_t s1.rel.sub w
  suffices main : ∀ pd, H1 pd = none → tb σ (upd H1 pd (.dK (mergeK [] kvs))) (fun y H2 => ∃ a v, V.ref pd = V.ref a ∧ DGet H2 a y (some v) ∧ Q v H2) by
    rcases h1 with ⟨h1, _⟩ | ⟨h1, hc1⟩
    · exact Or.inl ⟨q, as, kvs, rfl, h1, gg, main⟩
    · exact Or.inr ⟨q, as, kvs, rfl, h1, hc1, gg, main⟩
  intro pd np
  have al : Al F1 H1 F1 (upd H1 pd (.dK (mergeK [] kvs))) := Al.own s1.rel.sub np
  have s2 := Step.al s1.rel al
  refine qb n ρ1 σ F1 _ vb _ _ s2.rel gb fun F3 H3 w3 s3 v3 => ?_
  have hkv : w3 = kV m := by
    have l3 := v3.look s3.rel gy
    cases y <;> cases gm
    · cases l3.int; rfl
    · cases l3.str; rfl
  subst hkv
  have hd : H3 pd = some (.dK (mergeK [] kvs)) := (s3.fr pd _ upd_same (by
    intro i hi e
    exact own_ne s1.rel np i hi e)).1
  have vm := val_merge (acc := []) (n := m) g2
  rw [gz] at vm
  obtain ⟨u, hu1, hu2⟩ := vm
  refine ⟨pd, u, rfl, ?_, ?_⟩
  · have := DGet.k (k := m) hd
    rw [hu1] at this
    exact this
  · exact k F3 H3 u (s1.trans (s2.trans s3)) (hu2.mono s3.ex)
end
end Ov

set_option maxHeartbeats 4000000
namespace Ov
open PySem PySem.Spec PyProof.Rows L2 Evl
/-! ### list(range(i, j)) -/
theorem vals_of_get : ∀ {xs : List V} {us : List Value}, xs.length = us.length → (∀ (i : Nat) x u, xs[i]? = some x → us[i]? = some u → RelV x u) → Vals xs us
  | [], [], _, _ => .nil
  | [], _ :: _, h, _ => by cases h
  | _ :: _, [], h, _ => by cases h
  | x :: xs, u :: us, h, g => .cons (g 0 x u rfl rfl) (vals_of_get (by simpa using h) fun i y v h1 h2 => g (i + 1) y v (by simpa using h1) (by simpa using h2))
def rngV (i j : Int) : List V := (List.range (j - i).toNat).map fun (k : Nat) => V.int (i + (k : Int))
section
variable {X : Cx}
theorem call_list_rng (hc : X.calm = true) : CallR X (.type "list") (fun xs H Q => ∃ (p : Addr) (i j : Int), xs = [.ref p] ∧ H p = some (.rng i j) ∧ Builtin.Range.small i j 1 = true ∧ (j - i).toNat ≤ 2 ^ 24 ∧ ∀ l, H l = none → Q (.ref l) (upd H l (.lst (rngV i j)))) := by
  intro pins s σ H xs us Q I r h
  obtain ⟨p, i, j, rfl, hp, hs, hl, q⟩ := h
  obtain ⟨u, rfl, rx⟩ := vals1 r
  cases rx
  obtain ⟨t, u, v, ho⟩ := I.hok p _ hp
  have hn : Builtin.Range.rangeSize i j 1 = (((j - i).toNat : Nat) : Int) := by
    unfold Builtin.Range.rangeSize
    rw [if_pos (by decide)]
    split <;> omega
  have hsz : 2 ^ 24 ≤ sizeLine := by decide
  refine call_list_range (I.ok.hd hc) ho hs hn hl fun h' tk acc' c' k e items => ?_
  have hv : Vals (rngV i j) acc'.toList := by
    refine vals_of_get (by simp [rngV, items.1]) fun m x w h1 h2 => ?_
    obtain ⟨t', rfl⟩ := items.2 m w (by simpa using h2)
    unfold rngV at h1
    rw [List.getElem?_map] at h1
    have hm : m < (j - i).toNat := by
      have := (List.getElem?_eq_some_iff.mp h2).1
      rw [Array.length_toList, items.1] at this
      exact this
    rw [List.getElem?_range hm] at h1
    cases h1
    exact ⟨t', by rw [Int.mul_one]⟩
  exact ⟨.ref s.heap.objs.size, upd H s.heap.objs.size (.lst (rngV i j)), I.laid (t' := tk) k (Nat.le_refl _) (show ObjOk X.prog X.w _ h' _ (.lst (rngV i j)) from ⟨by simp [rngV]; omega, acc'.toList, c', hv, by rw [Array.toArray_toList]; exact e⟩), rfl, q _ (I.hok.fresh (Nat.le_refl _))⟩
theorem boot_list' : bootBuiltins "list" = some (.type "list") := by decide +kernel
theorem boot_range' : bootBuiltins "range" = some (.type "range") := by decide +kernel
theorem rps_rng {K : PySem.W.Frag} {F : Hp} (i j : Int) : Rps K F (rngV i j) (rangeD i j) := by
  unfold rngV rangeD
  generalize List.range (j - i).toNat = L
  induction L with
  | nil => exact .nil
  | cons a L ih => exact .cons (.int _) ih
variable {G : Cfg} {a b : Expr} {ia ib : IR} {p p' pos pos' : Pos}
theorem dn_lrng (hc : X.calm = true) (hg : Gl X "list") (hm : X.mg "list" = none) (hg' : Gl X "range") (hm' : X.mg "range" = none) (hs : starEach [a, b] X.env = (false, eval a X.env) :: starEach [b] X.env) (hs2 : starEach [b] X.env = [(false, eval b X.env)])
    (hst : ∀ e : Expr, starEach [.Call (.Name "range" p') [a, b] [] pos'] X.env = [(false, eval (.Call (.Name "range" p') [a, b] [] pos') X.env)])
    (ha : DE X a (evE G ia)) (hb : DE X b (evE G ib)) : DN X (.Call (.Name "list" p) [.Call (.Name "range" p') [a, b] [] pos'] [] pos) (evE G (.lrng ia ib)) := by
  obtain ⟨ta, pa, qa⟩ := ha
  obtain ⟨tb, pb, qb⟩ := hb
  have pr : PE X (.Call (.Name "range" p') [a, b] [] pos') _ := pe_callTy cr_range2 hg' hm' boot_range' (pa_cons pa (pa_cons pb pa_nil hs2) hs) (by decide) (by decide) hs (by rw [hs2]; rfl)
  refine ⟨_, pe_callTy (call_list_rng hc) hg hm boot_list' (pa_cons pr pa_nil (hst a)) (by decide) (by decide) (hst a) rfl, fun n ρ σ F H v ρ' Q rl g k => ?_⟩
  unfold evE at g
  obtain ⟨⟨va, ρ1⟩, ga, g⟩ := bind_some g
  obtain ⟨⟨vb, ρ2⟩, gb, g⟩ := bind_some g
  obtain ⟨x, gx, g⟩ := bind_some g
  obtain ⟨y, gy, g⟩ := bind_some g
  obtain ⟨i, gi, g⟩ := bind_some g
  obtain ⟨j, gj, g⟩ := bind_some g
  obtain ⟨z, gz, g⟩ := bind_some g
  obtain ⟨rfl, rfl⟩ := pure_some g
  refine qa n ρ σ F H va ρ1 _ rl ga fun F1 H1 w1 s1 v1 => qb n ρ1 σ F1 H1 vb _ _ s1.rel gb fun F2 H2 w2 s2 v2 => ?_
  have l1 := (v1.mono s2.ex).look s2.rel gx
  have l2 := v2.look s2.rel gy
  cases x <;> cases gi
  cases y <;> cases gj
  cases l1.int
  cases l2.int
  unfold lrngD at gz
  split at gz
  · rename_i hb
    cases gz
    obtain ⟨b1, b2, b3, b4, b5⟩ := hb
    refine ⟨i, j, rfl, fun pr npr => ?_⟩
    refine ⟨pr, i, j, rfl, upd_same, ?_, by omega, fun l nl => ?_⟩
    · have hn : Builtin.Range.rangeSize i j 1 = (((j - i).toNat : Nat) : Int) := by
        unfold Builtin.Range.rangeSize
        rw [if_pos (by decide)]
        split <;> omega
      have f : ∀ z : Int, -(2 ^ 41) ≤ z → z ≤ 2 ^ 41 → Builtin.Range.rangeFitsLong z = true := fun z h1 h2 => by
        unfold Builtin.Range.rangeFitsLong
        simp
        omega
      unfold Builtin.Range.small
      rw [hn, f i (by omega) (by omega), f j (by omega) (by omega), f 1 (by decide) (by decide), f _ (by omega) (by omega), if_pos (by decide), f _ (by omega) (by omega)]
      simp
    · have al1 : Al F2 H2 F2 (upd H2 pr (.rng i j)) := Al.own s2.rel.sub npr
      have s3 := Step.al s2.rel al1
      have al2 : Al F2 (upd H2 pr (.rng i j)) F2 (upd (upd H2 pr (.rng i j)) l (.lst (rngV i j))) := Al.own s3.rel.sub nl
      have s4 := Step.al s3.rel al2
      have sz : (rangeD i j).length ≤ sizeLine := by
        have : 2 ^ 24 ≤ sizeLine := by decide
        simp [rangeD]; omega
      exact k _ _ _ _ ((s1.trans s2).trans (s3.trans s4)) rfl (((s1.trans s2).trans s3).nw (nw_lst s3.rel.sub nl sz (rps_rng i j)))
  · cases gz
end
end Ov

set_option maxHeartbeats 4000000
namespace Ov
open PySem PySem.Spec PyProof.Rows L2 Evl
section
variable {X : Cx} {G : Cfg} {b o e : Expr} {ib ia : IR} {p pos apos : Pos} {x : Str}
def tKGet (K : PySem.W.Frag) (d : Addr) (td ty : TE) : TE := fun σ H Q => td σ H fun x H1 => ty σ H1 fun y H2 => ∃ (z : Str) (u0 : Value) (v0 : V), x = .ref d ∧ y = .str z ∧ PySem.W.nsIn K d z = some (some u0) ∧ RelV v0 u0 ∧ Q v0 H2
theorem pe_kdget {d : Addr} {es : Array DictEntry} {m : Nat} {td ty : TE} (D : KDict X.K X.w d es m) (ho : PE X o td) (hi : PE X b ty) (hs : NoSl b) : PE X (.Subscript o b pos) (tKGet X.K d td ty) := by
  refine ⟨fun pins s σ H Q I h => ?_⟩
  refine subD_of PySem.F.slot_dict_getitem.lookup hs (thn (ho.run pins s σ H _ I h) fun u s1 ⟨x, H1, I1, rx, q1⟩ => thn (hi.run pins s1 σ H1 _ I1 q1) fun iv s2 ⟨y, H2, I2, ry, q2⟩ => ?_)
  obtain ⟨z, u0, v0, rfl, rfl, h1, h2, h3⟩ := q2
  have hu : u = Value.ref d := rx
  subst hu
  exact ⟨kd_type D I2, op_item_kd D pins s2 σ H2 _ _ _ _ Q I2 rx ry ⟨z, u0, v0, rfl, rfl, h1, h2, h3⟩⟩
theorem de_gdg {g : Nat} {kvs : List (Str × D)} {d : Addr} {es : Array DictEntry} {m : Nat} (D : KDict X.K X.w d es m) (hgl : Gl X x) (hmg : X.mg x = some (.ref d)) (hdb : (x == ("__debug__" : Str)) = false) (hdd : G.dd g = some kvs)
    (hv : ∀ z q, dicD kvs z = some q → ∃ u v, PySem.W.nsIn X.K d z = some (some u) ∧ RelV v u ∧ ∀ F, Rp X.K F v q) (hk : PlainIx b) (hb : DE X b (evE G ib)) : DE X (.Subscript (.Name x p) b pos) (evE G (.gdg g ib)) := by
  obtain ⟨tb, pb, qb⟩ := hb
  refine ⟨_, pe_kdget D (pe_glob (v := .ref d) hgl hmg rfl hdb) pb hk, fun n ρ σ F H v ρ' Q rl g' k => ?_⟩
  unfold evE at g'
  obtain ⟨⟨vb, ρ1⟩, gb, g'⟩ := bind_some g'
  obtain ⟨y, gy, g'⟩ := bind_some g'
  obtain ⟨kv, gk, gg⟩ := bind_some g'
  clear g'
  rw [hdd] at gk
  cases gk
  refine qb n ρ σ F H vb ρ1 _ rl gb fun F1 H1 w1 s1 v1 => ?_
  have l1 := v1.look s1.rel gy
  cases y with
  | str z =>
    dsimp only at gg
    obtain ⟨q, gq, gg⟩ := bind_some gg
    obtain ⟨rfl, rfl⟩ := pure_some gg
    have hw : w1 = .str z := Rp.strv l1
    subst hw
    obtain ⟨u, v0, h1, h2, h3⟩ := hv z q gq
    exact ⟨z, u, v0, rfl, rfl, h1, h2, k F1 H1 v0 s1 (h3 F1)⟩
  | _ => cases gg
/-! ### list.index -/
end
mutual
theorem D.lay : ∀ d : D, d.txt = true → d.py.canLay0 = true
  | .non, _ => rfl
  | .bl _, _ => rfl
  | .int _, _ => rfl
  | .str s, h => by simp only [D.txt] at h; simp only [D.py, PyData.canLay0, PyData.strOk]; exact h
  | .tup xs, h => by simp only [D.txt] at h; simp only [D.py, PyData.canLay0]; exact D.lays xs h
  | .lst xs, h => by simp only [D.txt] at h; simp only [D.py, PyData.canLay0]; exact D.lays xs h
theorem D.lays : ∀ ds : List D, D.txts ds = true → PyData.canLayAll0 (D.pys ds) = true
  | [], _ => rfl
  | x :: xs, h => by
    simp only [D.txts, Bool.and_eq_true] at h
    simp only [D.pys, PyData.canLayAll0, D.lay x h.1, D.lays xs h.2, Bool.and_self]
end
theorem pys_get : ∀ {xs : List D} {i : Nat}, (D.pys xs)[i]? = xs[i]?.map D.py
  | [], i => by simp [D.pys]
  | x :: xs, 0 => by simp [D.pys]
  | x :: xs, i + 1 => by simp [D.pys, pys_get]
theorem idxD_spec {x : D} : ∀ {ys : List D} {j : Nat}, idxD x ys = some j → (∃ z, ys[j]? = some z ∧ D.eqv z x = true) ∧ ∀ m z, m < j → ys[m]? = some z → D.eqv z x = false
  | [], j, h => by cases h
  | y :: ys, j, h => by
    simp only [idxD] at h
    by_cases e : D.eqv y x = true
    · rw [if_pos e] at h; cases h
      exact ⟨⟨y, rfl, e⟩, fun m z hm => absurd hm (Nat.not_lt_zero _)⟩
    · rw [if_neg e] at h
      cases h2 : idxD x ys with
      | none => rw [h2] at h; cases h
      | some k =>
        rw [h2] at h; cases h
        obtain ⟨⟨z, q1, q2⟩, q3⟩ := idxD_spec h2
        refine ⟨⟨z, by simpa using q1, q2⟩, fun m w hm hw => ?_⟩
        cases m with
        | zero => simp at hw; subst hw; simpa using e
        | succ m => exact q3 m w (by have : m + 1 < k + 1 := hm; omega) (by simpa using hw)
section
variable {X : Cx} {G : Cfg} {e : Expr} {io ia : IR} {p pos apos : Pos} {x : Str}
theorem de_index {o : Expr} (hbase : attributeBase o "index" X.env (eval o X.env) = eval o X.env) (hu : X.A.units + 65 < cLine) (ho : DE X o (evE G io)) (ha : DA X [e] (evL G ia))
    (hfew : ((backTo pos (starEach [e] X.env)).all (fun x => !x.1) && (backToKw pos (keywordEach [] X.env)).all (fun x => x.1.isSome)
      && decide ([e].length + ([] : List Keyword).length + (if ([] : List Keyword).isEmpty then 0 else 1) < 30)) = true)
    (hline : (apos.endLine == pos.line) = true) (hs : starEach [e] X.env = (false, eval e X.env) :: starEach [] X.env) :
    DE X (.Call (.Attribute o "index" apos) [e] [] pos) (evE G (.mt .index io ia)) := by
  obtain ⟨to, po, qo⟩ := ho
  obtain ⟨ta, pa, qa⟩ := ha
  refine ⟨_, pe_bm PySem.F.plainAttrs_list PySem.F.slot_list_index PySem.F.type_list_index (mt_indexD hu) po pa hbase hfew hline hs rfl, fun n ρ σ F H v ρ' Q rl g k => ?_⟩
  unfold evE at g
  obtain ⟨⟨vo, ρ1⟩, go, g⟩ := bind_some g
  obtain ⟨y, gy, g⟩ := bind_some g
  obtain ⟨⟨vs, ρ2⟩, gs, g⟩ := bind_some g
  obtain ⟨xs, gx, g⟩ := bind_some g
  obtain ⟨z, gz, g⟩ := bind_some g
  obtain ⟨rfl, rfl⟩ := pure_some g
  refine qo n ρ σ F H vo ρ1 _ rl go fun F1 H1 w1 s1 v1 => ?_
  have r1 := v1.pure gy
  cases y with
  | lst ys =>
    match xs, gz with
    | [q], gz =>
      simp only [mtD] at gz
      split at gz
      · rename_i hc
        obtain ⟨c1, c2, c3, c4⟩ := hc
        cases hi : idxD q ys with
        | none => rw [hi] at gz; cases gz
        | some j =>
          rw [hi] at gz; cases gz
          obtain ⟨⟨zz, z1, z2⟩, z3⟩ := idxD_spec hi
          cases id r1 with
          | @lst a0 us0 _ h1 hz hr =>
            refine ⟨Or.inl ⟨rfl, us0, Or.inl (Or.inl (s1.rel.sub _ _ h1))⟩, qa n ρ1 σ F1 H1 vs _ _ s1.rel gs fun F2 H2 ws s2 v2 => ?_⟩
            have lk := vr_looks s2.rel v2 gx
            cases lk with
            | @cons w0 _ _ _ l1 l2 =>
              cases l2
              have dpl := ((r1.mono s2.ex).mono s2.rel.sub).dp
              have dpq : Dp X.K H2 w0 q.py := by
                cases q with
                | lst ds =>
                  obtain ⟨p', vs', rfl, h1', hz', hr'⟩ := l1
                  exact (Rp.lst h1' hz' (hr'.mono s2.rel.sub)).dp
                | non => exact (Rp.mono s2.rel.sub l1).dp
                | bl _ => exact (Rp.mono s2.rel.sub l1).dp
                | int _ => exact (Rp.mono s2.rel.sub l1).dp
                | str _ => exact (Rp.mono s2.rel.sub l1).dp
                | tup _ => exact (Rp.mono s2.rel.sub l1).dp
              refine ⟨a0, w0, q.py, D.pys ys, j, zz.py, rfl, rfl, dpl, dpq, ?_, ?_, ?_, ?_, fun m z' hm hz' => ?_, ?_⟩
              · show (PyData.canLay0 (D.lst ys).py && decide ((D.lst ys).py.depth ≤ 64)) = true
                rw [D.lay (.lst ys) (by simp only [D.txt]; exact c3), D.depth_py, Bool.true_and]
                exact decide_eq_true (by simp only [D.depth]; exact c1)
              · show (PyData.canLay0 q.py && decide (q.py.depth ≤ 64)) = true
                rw [D.lay q c4, D.depth_py, Bool.true_and]
                exact decide_eq_true c2
              · rw [pys_get, z1]; rfl
              · rw [D.eqv_py]; exact z2
              · rw [pys_get] at hz'
                cases hm' : ys[m]? with
                | none => rw [hm'] at hz'; cases hz'
                | some w => rw [hm'] at hz'; cases hz'; rw [D.eqv_py]; exact z3 m w hm hm'
              · exact k F2 H2 _ (s1.trans s2) (.int _)
      · cases gz
    | [], gz => cases gz
    | _ :: _ :: _, gz => cases gz
  | _ => cases gz
theorem de_join {o : Expr} (hbase : attributeBase o "join" X.env (eval o X.env) = eval o X.env) (ho : DE X o (evE G io)) (he : DE X e (evE G ia)) (hline : (apos.endLine == pos.line) = true) (hs : starEach [e] X.env = [(false, eval e X.env)]) :
    DE X (.Call (.Attribute o "join" apos) [e] [] pos) (evE G (.mt .join io (.cons ia .nil))) := by
  obtain ⟨to, po, qo⟩ := ho
  obtain ⟨ta, pa, qa⟩ := he
  refine ⟨_, pe_join po pa hs hbase hline, fun n ρ σ F H v ρ' Q rl g k => ?_⟩
  unfold evE at g
  obtain ⟨⟨vo, ρ1⟩, go, g⟩ := bind_some g
  obtain ⟨y, gy, g⟩ := bind_some g
  obtain ⟨⟨vs, ρ2⟩, gs, g⟩ := bind_some g
  obtain ⟨xs, gx, g⟩ := bind_some g
  obtain ⟨z, gz, g⟩ := bind_some g
  obtain ⟨rfl, rfl⟩ := pure_some g
  unfold evL at gs
  obtain ⟨⟨va, ρ3⟩, ga, gs⟩ := bind_some gs
  unfold evL at gs
  obtain ⟨⟨vn, ρ4⟩, gn, gs⟩ := bind_some gs
  cases gn
  cases gs
  refine qo n ρ σ F H vo ρ1 _ rl go fun F1 H1 w1 s1 v1 => ?_
  have r1 := v1.pure gy
  simp only [looks] at gx
  obtain ⟨q, gq, gx⟩ := bind_some gx
  cases gx
  cases y with
  | str a =>
    have hw : w1 = .str a := Rp.strv r1
    subst hw
    refine ⟨⟨a, rfl⟩, qa n ρ1 σ F1 H1 va _ _ s1.rel ga fun F2 H2 w2 s2 v2 => ?_⟩
    have lk := v2.look s2.rel gq
    have key : ∀ {ds : List D} {us : List V}, Rps X.K F2 us ds → joinD a ds = some z → ∃ ys, us = ys.map V.str ∧ (ys.map (·.length)).sum + ys.length * a.length ≤ 16777216 ∧ z = .str (Txt.join a ys) := fun hr gj => by
      unfold joinD at gj
      obtain ⟨ys, h1, gj⟩ := bind_some gj
      split at gj
      · cases gj; exact ⟨ys, strsD_vs hr h1, by assumption, rfl⟩
      · cases gj
    cases q with
    | lst ds =>
      obtain ⟨p', us, rfl, h1', hz', hr'⟩ := lk
      obtain ⟨ys, rfl, hl, rfl⟩ := key hr' gz
      exact ⟨a, p', ys, rfl, rfl, Or.inl (Or.inl (Or.inl h1')), hl, k F2 H2 _ (s1.trans s2) (.str _)⟩
    | tup ds =>
      obtain ⟨p', us, rfl, h1', h2', hc', hz', hr'⟩ := Lk.tup s2.rel.sub lk
      obtain ⟨ys, rfl, hl, rfl⟩ := key hr' gz
      exact ⟨a, p', ys, rfl, rfl, Or.inr h1', hl, k F2 H2 _ (s1.trans s2) (.str _)⟩
    | _ => cases gz
  | _ => cases gz
end
end Ov

set_option maxHeartbeats 4000000
namespace Ov
open PySem PySem.Spec PyProof.Rows L2 Evl
/-! ### D.get(k, x), D a dict of the top with text keys -/
section
variable {X : Cx} {o e f : Expr} {apos cpos : Pos} {td ty tx : TE} {d : Addr} {es : Array DictEntry} {m : Nat}
def tKGet2 (K : PySem.W.Frag) (d : Addr) (td ty tx : TE) : TE := fun σ H Q => td σ H fun x H1 => x = .ref d ∧ ty σ H1 fun y H2 => tx σ H2 fun z H3 => ∃ (k : Str) (r : Option Value), y = .str k ∧ PySem.W.nsIn K d k = some r ∧
  (∀ u0, r = some u0 → ∃ v0, RelV v0 u0 ∧ Q v0 H3) ∧ (r = none → Q z H3)
theorem pe_kget2 (D : KDict X.K X.w d es m) (ho : PE X o td) (he : PE X e ty) (hf : PE X f tx) (mm : M2 X o "get" apos e f cpos) : PE X (.Call (.Attribute o "get" apos) [e, f] [] cpos) (tKGet2 X.K d td ty tx) := by
  refine ⟨fun pins s σ H Q I h => ?_⟩
  refine wpAny_Call_method mm.base mm.few mm.line PySem.F.plainAttrs_dict PySem.F.slot_dict_get PySem.F.type_dict_get (thn (ho.run pins s σ H _ I h) fun u s1 ⟨x, H1, I1, rx, ex, q1⟩ => ?_)
  subst ex
  obtain rfl : u = Value.ref d := rx
  have hat := I1.kIn _ _ D.at_
  refine ⟨kd_type D I1, fun b q => by cases q; exact ⟨_, hat, rfl⟩, ?_⟩
  rw [mm.trees]
  refine Calls.callWith_builtin rfl (Calls.evalArgs_plain (Calls.spliced_cons (thn (he.run pins s1 σ H1 _ I1 q1) fun iv s2 ⟨y, H2, I2, ry, q2⟩ =>
    Calls.spliced_cons (thn (hf.run pins s2 σ H2 _ I2 q2) fun fv s3 ⟨z, H3, I3, rz, k, r, ey, hn, h1, h2⟩ => Calls.spliced_nil ?_))))
  subst ey
  obtain ⟨t, rfl⟩ := ry
  refine call_meetsIn PySem.F.slot_dict_get (kd_type D I3) PySem.F.entry_dict_get (PySem.F.args_dict_get_3 _ _ _) (meets_dict_get_default (strKind X.prog X.w) d (PySem.strKind_is X.prog X.w k t) D.low fv) ⟨_, PySem.W.mapOf_K (prog := X.prog) I3.kIn D.at_ D.lit, ?_⟩
  rw [PySem.W.find_K D.at_ hn]
  cases r with
  | none => exact ⟨z, H3, I3.tok _, rz, h2 rfl⟩
  | some u0 =>
    obtain ⟨v0, rv, q⟩ := h1 u0 rfl
    exact ⟨v0, H3, I3.tok _, rv, q⟩
end
/-- what a dict of the top holds: these keys and no other -/
def DgOk (K : PySem.W.Frag) (a : Addr) (kvs : List (Str × D)) : Prop := (∀ z q, dicD kvs z = some q → ∃ u v, PySem.W.nsIn K a z = some (some u) ∧ RelV v u ∧ ∀ F, Rp K F v q) ∧ ∀ z, dicD kvs z = none → PySem.W.nsIn K a z = some none
section
variable {X : Cx} {G : Cfg} {ke fe : Expr} {ik id : IR} {p apos cpos : Pos} {x : Str}
theorem de_ggt {g : Nat} {kvs : List (Str × D)} {d : Addr} {es : Array DictEntry} {m : Nat} (D : KDict X.K X.w d es m) (hgl : Gl X x) (hmg : X.mg x = some (.ref d)) (hdb : (x == ("__debug__" : Str)) = false) (hdd : G.dd g = some kvs)
    (hv : DgOk X.K d kvs) (hk : DE X ke (evE G ik)) (hf : DE X fe (evE G id)) (mm : M2 X (.Name x p) "get" apos ke fe cpos) : DE X (.Call (.Attribute (.Name x p) "get" apos) [ke, fe] [] cpos) (evE G (.ggt g ik id)) := by
  obtain ⟨tk, pk, qk⟩ := hk
  obtain ⟨tf, pf, qf⟩ := hf
  refine ⟨_, pe_kget2 D (pe_glob (v := .ref d) hgl hmg rfl hdb) pk pf mm, fun n ρ σ F H v ρ' Q rl g' k => ?_⟩
  unfold evE at g'
  obtain ⟨⟨vk, ρ1⟩, gk, g'⟩ := bind_some g'
  obtain ⟨y, gy, g'⟩ := bind_some g'
  obtain ⟨⟨vd, ρ2⟩, gd, g'⟩ := bind_some g'
  obtain ⟨w0, gw, g'⟩ := bind_some g'
  obtain ⟨kv, gkv, gg⟩ := bind_some g'
  clear g'
  rw [hdd] at gkv
  cases gkv
  refine ⟨rfl, qk n ρ σ F H vk ρ1 _ rl gk fun F1 H1 w1 s1 v1 => qf n ρ1 σ F1 H1 vd ρ2 _ s1.rel gd fun F2 H2 w2 s2 v2 => ?_⟩
  have l1 := v1.look s1.rel gy
  cases y with
  | str z =>
    obtain ⟨rfl, rfl⟩ := pure_some gg
    have hw : w1 = .str z := Rp.strv l1
    subst hw
    cases hz : dicD kvs z with
    | some q =>
      obtain ⟨u, v0, h1, h2, h3⟩ := hv.1 z q hz
      refine ⟨z, some u, rfl, h1, fun u0 e => ⟨v0, by cases e; exact h2, ?_⟩, fun e => by cases e⟩
      refine k F2 H2 v0 (s1.trans s2) ?_
      show Rp X.K F2 v0 ((dicD kvs z).getD w0)
      rw [hz]; exact h3 F2
    | none =>
      refine ⟨z, none, rfl, hv.2 z hz, fun u0 e => (by cases e), fun _ => ?_⟩
      refine k F2 H2 w2 (s1.trans s2) ?_
      show Rp X.K F2 w2 ((dicD kvs z).getD w0)
      rw [hz]; exact v2.pure gw
  | _ => cases gg
end
end Ov

set_option maxHeartbeats 2000000
namespace Ov
open PySem PySem.Spec PyProof.Rows L2 Evl
/-! ### slots -/
section
variable {α : Type}
theorem set_get (l : List (Option α)) (i j : Nat) (x : Option α) : (l.set i x)[j]? = if i = j then (if j < l.length then some x else none) else l[j]? := by
  rw [List.getElem?_set]
  by_cases e : i = j
  · subst e; rfl
  · rw [if_neg e, if_neg e]
theorem wipeE_len (ρ : Slots) : ∀ vs, (wipeE ρ vs).length = ρ.length
  | [] => rfl
  | v :: vs => by unfold wipeE; rw [List.length_set, wipeE_len ρ vs]
theorem wipeE_out {ρ : Slots} {i : Nat} : ∀ {vs : List Nat}, i ∉ vs → (wipeE ρ vs)[i]? = ρ[i]?
  | [], _ => rfl
  | v :: vs, h => by
    unfold wipeE
    rw [set_get, if_neg (fun e => h (by simp [e])), wipeE_out (fun q => h (List.mem_cons_of_mem _ q))]
theorem wipeE_in {ρ : Slots} {i : Nat} {x : EV} : ∀ {vs : List Nat}, i ∈ vs → (wipeE ρ vs)[i]? ≠ some (some x)
  | [], h => by cases h
  | v :: vs, h => by
    unfold wipeE
    rw [set_get]
    by_cases e : v = i
    · rw [if_pos e]; split <;> simp
    · rw [if_neg e]
      rcases List.mem_cons.mp h with q | q
      · exact absurd q.symm e
      · exact wipeE_in q
theorem wipe_out {σ : L2.St} {i : Nat} : ∀ {vs : List Nat}, i ∉ vs → (wipe σ vs)[i]? = σ[i]?
  | [], _ => rfl
  | v :: vs, h => by
    unfold wipe
    rw [set_get, if_neg (fun e => h (by simp [e])), wipe_out (fun q => h (List.mem_cons_of_mem _ q))]
theorem restore_len (old ρ : Slots) : ∀ vs, (restore old ρ vs).length = ρ.length
  | [] => rfl
  | v :: vs => by unfold restore; rw [List.length_set, restore_len old ρ vs]
theorem restore_out {old ρ : Slots} {i : Nat} : ∀ {vs : List Nat}, i ∉ vs → (restore old ρ vs)[i]? = ρ[i]?
  | [], _ => rfl
  | v :: vs, h => by
    unfold restore
    rw [set_get, if_neg (fun e => h (by simp [e])), restore_out (fun q => h (List.mem_cons_of_mem _ q))]
theorem restore_in {old ρ : Slots} {i : Nat} {x : EV} : ∀ {vs : List Nat}, i ∈ vs → (restore old ρ vs)[i]? = some (some x) → old[i]? = some (some x)
  | [], h, _ => by cases h
  | v :: vs, h, e => by
    unfold restore at e
    rw [set_get] at e
    by_cases q : v = i
    · subst q
      rw [if_pos rfl] at e
      split at e
      · cases ho : old[v]? with
        | none => rw [ho] at e; cases e
        | some o =>
          rw [ho] at e
          simp only [Option.getD_some, Option.some.injEq] at e
          rw [e]
      · cases e
    · rw [if_neg q] at e
      rcases List.mem_cons.mp h with z | z
      · exact absurd z.symm q
      · exact restore_in z e
theorem isOwn_false {o : Option (Option EV)} (h : isOwn o = false) : ∀ b xs, o ≠ some (some (.own b xs)) := fun b xs e => by rw [e] at h; cases h
end
section
variable {K : PySem.W.Frag} {n : Ent} {σ : L2.St} {ρ : Slots} {F H : Hp}
/-- a slot takes data -/
theorem Rel.setD (r : Rel K n ρ σ F H) {i : Nat} {w : V} {x : D} (hx : Rp K F w x) (hp : ∀ q, n.ps[i]? ≠ some (some q)) : Rel K n (ρ.set i (some (.d x))) (σ.set i (some w)) F H where
  sub := r.sub
  len := by rw [List.length_set, List.length_set]; exact r.len
  dat := fun j y h => by
    rw [set_get] at h ⊢
    by_cases e : i = j
    · rw [if_pos e] at h ⊢
      rw [← r.len]
      split at h
      · rename_i hl; cases h; rw [if_pos hl]; exact ⟨w, rfl, hx⟩
      · cases h
    · rw [if_neg e] at h ⊢; exact r.dat j y h
  own := fun j b y h => by
    rw [set_get] at h ⊢
    by_cases e : i = j
    · rw [if_pos e] at h; split at h <;> cases h
    · rw [if_neg e] at h ⊢; exact r.own j b y h
  dic := fun j y h => by
    rw [set_get] at h ⊢
    by_cases e : i = j
    · rw [if_pos e] at h; split at h <;> cases h
    · rw [if_neg e] at h ⊢; exact r.dic j y h
  scr := fun j y h => by
    rw [set_get] at h ⊢
    by_cases e : i = j
    · rw [if_pos e] at h; split at h <;> cases h
    · rw [if_neg e] at h ⊢; exact r.scr j y h
  inj := fun j l p h1 h2 h3 h4 => by
    rw [set_get] at h1 h2 h3 h4
    by_cases e : i = j
    · rw [if_pos e] at h1; split at h1 <;> cases h1
    · by_cases e' : i = l
      · rw [if_pos e'] at h2; split at h2 <;> cases h2
      · rw [if_neg e] at h1 h3; rw [if_neg e'] at h2 h4
        exact r.inj j l p h1 h2 h3 h4
  ex0 := r.ex0
  keep := r.keep
  newF := r.newF
  par := fun j p h => by
    have e : i ≠ j := fun e => hp p (by rw [e]; exact h)
    rw [set_get, set_get, if_neg e, if_neg e]
    exact r.par j p h
theorem Rel.wipe (r : Rel K n ρ σ F H) {vs : List Nat} (h : ∀ v ∈ vs, isOwn ρ[v]? = false) : Rel K n (wipeE ρ vs) (L2.wipe σ vs) F H where
  sub := r.sub
  len := by rw [wipeE_len, wipe_length]; exact r.len
  dat := fun j y q => by
    by_cases e : j ∈ vs
    · exact absurd q (wipeE_in e)
    · rw [wipeE_out e] at q; rw [wipe_out e]; exact r.dat j y q
  own := fun j b y q => by
    by_cases e : j ∈ vs
    · exact absurd q (wipeE_in e)
    · rw [wipeE_out e] at q; rw [wipe_out e]; exact r.own j b y q
  dic := fun j y q => by
    by_cases e : j ∈ vs
    · exact absurd q (wipeE_in e)
    · rw [wipeE_out e] at q; rw [wipe_out e]; exact r.dic j y q
  scr := fun j y q => by
    by_cases e : j ∈ vs
    · exact absurd q (wipeE_in e)
    · rw [wipeE_out e] at q; rw [wipe_out e]; exact r.scr j y q
  inj := fun j l p h1 h2 h3 h4 => by
    obtain ⟨b1, x1, q1⟩ := isOwn_iff.mp h1
    obtain ⟨b2, x2, q2⟩ := isOwn_iff.mp h2
    by_cases e : j ∈ vs
    · exact absurd q1 (wipeE_in e)
    · by_cases e' : l ∈ vs
      · exact absurd q2 (wipeE_in e')
      · rw [wipeE_out e] at h1; rw [wipe_out e] at h3; rw [wipeE_out e'] at h2; rw [wipe_out e'] at h4
        exact r.inj j l p h1 h2 h3 h4
  ex0 := r.ex0
  keep := r.keep
  newF := r.newF
  par := fun j p q => by
    obtain ⟨h1, xs, h2⟩ := r.par j p q
    have e : j ∉ vs := fun e => isOwn_false (h j e) _ _ h2
    rw [wipeE_out e, wipe_out e]; exact ⟨h1, xs, h2⟩
/-- behind a comprehension -/
theorem Rel.back {ρ1 : Slots} {F1 H1 : Hp} {vs : List Nat} (r : Rel K n (wipeE ρ vs) (L2.wipe σ vs) F H) (r1 : Rel K n ρ1 σ F1 H1) (ex : Ex F1 F) (h : ∀ v ∈ vs, isOwn ρ1[v]? = false) : Rel K n (restore ρ1 ρ vs) σ F H where
  sub := r.sub
  len := by
    have := r.len
    rw [wipeE_len, wipe_length] at this
    rw [restore_len]; exact this
  dat := fun j y q => by
    by_cases e : j ∈ vs
    · obtain ⟨w, h1, h2⟩ := r1.dat j y (restore_in e q)
      exact ⟨w, h1, h2.mono ex⟩
    · rw [restore_out e] at q
      obtain ⟨w, h1, h2⟩ := r.dat j y (by rw [wipeE_out e]; exact q)
      rw [wipe_out e] at h1
      exact ⟨w, h1, h2⟩
  own := fun j b y q => by
    by_cases e : j ∈ vs
    · exact absurd (restore_in e q) (isOwn_false (h j e) b y)
    · rw [restore_out e] at q
      have := r.own j b y (by rw [wipeE_out e]; exact q)
      rw [wipe_out e] at this
      exact this
  dic := fun j y q => by
    by_cases e : j ∈ vs
    · obtain ⟨p, h1, h2⟩ := r1.dic j y (restore_in e q)
      exact ⟨p, h1, h2.mono ex⟩
    · rw [restore_out e] at q
      have := r.dic j y (by rw [wipeE_out e]; exact q)
      rw [wipe_out e] at this
      exact this
  scr := fun j y q => by
    by_cases e : j ∈ vs
    · obtain ⟨p, h1, h2, h3⟩ := r1.scr j y (restore_in e q)
      exact ⟨p, h1, ex_l ex h2, h3⟩
    · rw [restore_out e] at q
      have := r.scr j y (by rw [wipeE_out e]; exact q)
      rw [wipe_out e] at this
      exact this
  inj := fun j l p h1 h2 h3 h4 => by
    obtain ⟨b1, x1, q1⟩ := isOwn_iff.mp h1
    obtain ⟨b2, x2, q2⟩ := isOwn_iff.mp h2
    by_cases e : j ∈ vs
    · exact absurd (restore_in e q1) (isOwn_false (h j e) b1 x1)
    · by_cases e' : l ∈ vs
      · exact absurd (restore_in e' q2) (isOwn_false (h l e') b2 x2)
      · rw [restore_out e] at h1; rw [restore_out e'] at h2
        exact r.inj j l p (by rw [wipeE_out e]; exact h1) (by rw [wipeE_out e']; exact h2) (by rw [wipe_out e]; exact h3) (by rw [wipe_out e']; exact h4)
  ex0 := r.ex0
  keep := r.keep
  newF := r.newF
  par := fun j p q => by
    obtain ⟨h1, xs, h2⟩ := r.par j p q
    have e : j ∉ vs := fun e => wipeE_in e h2
    rw [restore_out e]
    rw [wipe_out e] at h1; rw [wipeE_out e] at h2
    exact ⟨h1, xs, h2⟩
end
/-! ### patterns -/
mutual
theorem bind_own : ∀ {p : Pat} {x : D} {ρ ρ' : Slots} (i : Nat), Pat.bind p x ρ = some ρ' → isOwn ρ'[i]? = true → isOwn ρ[i]? = true
  | .nm j, x, ρ, ρ', i, h, q => by
    simp only [Pat.bind, Option.some.injEq] at h; subst h
    rw [set_get] at q
    by_cases e : j = i
    · rw [if_pos e] at q; split at q <;> cases q
    · rw [if_neg e] at q; exact q
  | .tp p, x, ρ, ρ', i, h, q => by
    simp only [Pat.bind] at h
    obtain ⟨xs, _, h⟩ := bind_some h
    exact binds_own i h q
  | .nil, x, ρ, ρ', i, h, q => by cases h
  | .cons a b, x, ρ, ρ', i, h, q => by cases h
theorem binds_own : ∀ {p : Pat} {xs : List D} {ρ ρ' : Slots} (i : Nat), Pat.binds p xs ρ = some ρ' → isOwn ρ'[i]? = true → isOwn ρ[i]? = true
  | .nil, [], ρ, ρ', i, h, q => by simp only [Pat.binds, Option.some.injEq] at h; subst h; exact q
  | .cons a b, x :: xs, ρ, ρ', i, h, q => by
    simp only [Pat.binds] at h
    obtain ⟨ρ1, h1, h⟩ := bind_some h
    exact bind_own i h1 (binds_own i h q)
  | .nil, _ :: _, ρ, ρ', i, h, q => by cases h
  | .cons a b, [], ρ, ρ', i, h, q => by cases h
  | .nm j, [], ρ, ρ', i, h, q => by cases h
  | .nm j, _ :: _, ρ, ρ', i, h, q => by cases h
  | .tp j, [], ρ, ρ', i, h, q => by cases h
  | .tp j, _ :: _, ρ, ρ', i, h, q => by cases h
end
/-- the slots outside l stand as they were -/
def But (l : List Nat) (σ σ' : L2.St) : Prop := σ'.length = σ.length ∧ ∀ i, i ∉ l → σ'[i]? = σ[i]?
theorem But.refl (l : List Nat) (σ : L2.St) : But l σ σ := ⟨rfl, fun _ _ => rfl⟩
theorem But.trans {l l' : List Nat} {σ σ1 σ2 : L2.St} (a : But l σ σ1) (b : But l' σ1 σ2) : But (l ++ l') σ σ2 :=
  ⟨b.1.trans a.1, fun i h => (b.2 i fun q => h (List.mem_append_right _ q)).trans (a.2 i fun q => h (List.mem_append_left _ q))⟩
theorem wipe_in {σ : L2.St} {i : Nat} (hl : i < σ.length) : ∀ {vs : List Nat}, i ∈ vs → (L2.wipe σ vs)[i]? = some none
  | [], h => by cases h
  | v :: vs, h => by
    unfold L2.wipe
    rw [set_get, wipe_length]
    by_cases e : v = i
    · rw [if_pos e, if_pos hl]
    · rw [if_neg e]
      rcases List.mem_cons.mp h with q | q
      · exact absurd q.symm e
      · exact wipe_in hl q
theorem But.wipe {l vs : List Nat} {σ σ' : L2.St} (h : But l σ σ') (hl : ∀ i ∈ l, i ∈ vs) : L2.wipe σ' vs = L2.wipe σ vs := by
  apply List.ext_getElem?
  intro i
  by_cases e : i ∈ vs
  · by_cases hi : i < σ.length
    · rw [wipe_in hi e, wipe_in (by rw [h.1]; exact hi) e]
    · rw [List.getElem?_eq_none (by rw [wipe_length, h.1]; omega), List.getElem?_eq_none (by rw [wipe_length]; omega)]
  · rw [wipe_out e, wipe_out e]
    exact h.2 i fun q => e (hl i q)
def FreeP (n : Ent) (l : List Nat) : Prop := ∀ i ∈ l, ∀ q, n.ps[i]? ≠ some (some q)
def tOfG (K : PySem.W.Frag) (p : Pat) : TG := fun w σ H Q => ∃ n ρ F x ρ', Rel K n ρ σ F H ∧ Rg K F p w x ∧ Pat.bind p x ρ = some ρ' ∧ FreeP n p.slots ∧ ∀ σ', Rel K n ρ' σ' F H → But p.slots σ σ' → Q σ' H
def tOfGs (K : PySem.W.Frag) (p : Pat) : TGs := fun ws σ H Q => ∃ n ρ F xs ρ', Rel K n ρ σ F H ∧ Rps K F ws xs ∧ Pat.binds p xs ρ = some ρ' ∧ FreeP n p.slots ∧ ∀ σ', Rel K n ρ' σ' F H → But p.slots σ σ' → Q σ' H
section
variable {X : Cx} {e a b c : Expr} {pos p q : Pos} {G : Cfg} {ia ib ic : IR} {rest es : List Expr}
theorem PG.imp {t u : TG} (h : PG X e t) (i : ∀ w σ H Q, u w σ H Q → t w σ H Q) : PG X e u := ⟨fun pins s σ H v x Q I r q => h.run pins s σ H v x Q I r (i _ _ _ _ q)⟩
theorem PGs.imp {t u : TGs} (h : PGs X es t) (i : ∀ w σ H Q, u w σ H Q → t w σ H Q) : PGs X es u := ⟨fun pins s σ H v x Q I r q => h.run pins s σ H v x Q I r (i _ _ _ _ q)⟩
theorem PG.or {t u : TG} (h : PG X e t) (h' : PG X e u) : PG X e (fun w σ H Q => t w σ H Q ∨ u w σ H Q) :=
  ⟨fun pins s σ H v x Q I r q => q.elim (fun q => h.run pins s σ H v x Q I r q) (fun q => h'.run pins s σ H v x Q I r q)⟩
theorem dg_nm {i : Nat} {x : Str} (hN : X.N.Nodup) (hi : X.N[i]? = some x) (hx : Loc X.env.scope x) (hf : X.fn x = true ∨ X.env.scope.names.lookup x = some .local) : PG X (.Name x pos) (tOfG X.K (.nm i)) := by
  refine PG.imp (pg_name hN hi hx hf) fun w σ H Q h => ?_
  obtain ⟨n, ρ, F, x, ρ', r, rp, hb, hf, k⟩ := h
  simp only [Pat.bind, Option.some.injEq] at hb; subst hb
  refine k _ (r.setD rp (hf i (by simp [Pat.slots]))) ⟨by rw [List.length_set], fun j hj => ?_⟩
  rw [set_get, if_neg (fun e => hj (by simp [Pat.slots, e]))]
theorem dgs_nil : PGs X [] (tOfGs X.K .nil) := by
  refine PGs.imp pgs_nil fun w σ H Q h => ?_
  obtain ⟨n, ρ, F, xs, ρ', r, rp, hb, hf, k⟩ := h
  cases rp with
  | nil =>
    simp only [Pat.binds, Option.some.injEq] at hb; subst hb
    exact ⟨rfl, k σ r (But.refl _ _)⟩
  | cons _ _ => cases hb
theorem dgs_cons {pa pb : Pat} (ha : PG X e (tOfG X.K pa)) (hb : PGs X es (tOfGs X.K pb)) (hs : (assignEach (e :: es) X.env).map (·.2) = assign e X.env :: (assignEach es X.env).map (·.2)) : PGs X (e :: es) (tOfGs X.K (.cons pa pb)) := by
  refine PGs.imp (pgs_cons ha hb hs) fun ws σ H Q h => ?_
  obtain ⟨n, ρ, F, xs, ρ', r, rp, hb, hf, k⟩ := h
  cases rp with
  | nil => cases hb
  | cons h1 h2 =>
    simp only [Pat.binds] at hb
    obtain ⟨ρ1, g1, g2⟩ := bind_some hb
    refine ⟨_, _, rfl, n, ρ, F, _, ρ1, r, Rg.of h1, g1, fun i hi => hf i (by simp [Pat.slots, hi]), fun σ1 r1 b1 => ?_⟩
    refine ⟨n, ρ1, F, _, ρ', r1, h2, g2, fun i hi => hf i (by simp [Pat.slots, hi]), fun σ2 r2 b2 => k σ2 r2 (b1.trans b2)⟩
theorem dg_tp {pa : Pat} {k : Nat} (hc : X.calm = true) (h : PGs X es (tOfGs X.K pa)) (hn : (assignEach es X.env).length = es.length) (hst : (assignEach es X.env).findIdx? (·.1) = none)
    (hl : ∀ (xs : List D) (ρ ρ' : Slots), Pat.binds pa xs ρ = some ρ' → xs.length = es.length) : PG X (.Tuple es k pos) (tOfG X.K (.tp pa)) := by
  refine PG.imp (PG.or (pg_tup hc h hn hst) (pg_unl hc h hn hst)) fun w σ H Q hh => ?_
  obtain ⟨n, ρ, F, x, ρ', r, rp, hb, hf, k⟩ := hh
  simp only [Pat.bind] at hb
  obtain ⟨xs, gx, hb⟩ := bind_some hb
  have hlen := hl xs ρ ρ' hb
  rcases rp with rp | ⟨T, u, v, a, b, rfl, rfl, h1, ha, hb'⟩
  rotate_left 1
  · cases gx
    exact Or.inl ⟨_, _, rfl, ex_t r.sub h1, hlen, n, ρ, F, _, ρ', r, .cons ha (.cons hb' .nil), hb, hf, k⟩
  cases x <;> cases gx
  · cases rp with
    | tup h1 hc hz hr => exact Or.inl ⟨_, _, rfl, ex_t r.sub h1, by rw [hr.length]; exact hlen, n, ρ, F, _, ρ', r, hr, hb, hf, k⟩
  · cases rp with
    | lst h1 hz hr => exact Or.inr ⟨_, _, rfl, Or.inl (Or.inl (r.sub _ _ h1)), by rw [hr.length]; exact hlen, n, ρ, F, _, ρ', r, hr, hb, hf, k⟩
end
end Ov

set_option maxHeartbeats 2000000
namespace Ov
open PySem PySem.Spec PyProof.Rows L2 Evl
/-! ### readings told by the evaluator alone -/
def tOfE (K : PySem.W.Frag) (f : EF) : TE := fun σ H Q => ∃ n ρ F v ρ', Rel K n ρ σ F H ∧ f ρ = some (v, ρ') ∧ ∀ F' H' w, Step K n σ ρ F H ρ' F' H' → VR K σ F' w v → Q w H'
def tOfT (K : PySem.W.Frag) (f : Slots → Option (Bool × Slots)) : TT := fun σ H Q => ∃ n ρ F b ρ', Rel K n ρ σ F H ∧ f ρ = some (b, ρ') ∧ ∀ F' H', Step K n σ ρ F H ρ' F' H' → Q b H'
section
variable {X : Cx} {e a b c : Expr} {pos p q : Pos} {G : Cfg} {ia ib ic : IR} {rest es : List Expr}
theorem DE.can {f : EF} (h : DE X e f) : PE X e (tOfE X.K f) := by
  obtain ⟨t, pe, k⟩ := h
  refine ⟨fun pins s σ H Q I hq => pe.run pins s σ H Q I ?_⟩
  obtain ⟨n, ρ, F, v, ρ', r, g, q⟩ := hq
  exact k n ρ σ F H v ρ' Q r g q
theorem DT.can {f : Slots → Option (Bool × Slots)} (h : DT X e f) : PT X e (tOfT X.K f) := by
  obtain ⟨t, pe, k⟩ := h
  refine ⟨fun pins s σ H Q I hq => pe.run pins s σ H Q I ?_⟩
  obtain ⟨n, ρ, F, v, ρ', r, g, q⟩ := hq
  exact k n ρ σ F H v ρ' Q r g q
def evC (G : Cfg) (c : IR) (ρ : Slots) : Option (Bool × Slots) := match c with
  | .nil => some (true, ρ)
  | c => evT G c ρ
theorem PTs.imp {ts : List Expr} {t u : TT} (h : PTs X ts t) (i : ∀ σ H Q, u σ H Q → t σ H Q) : PTs X ts u := by
  constructor
  intros
  apply h.run <;> try assumption
  apply i; assumption
theorem dc_nil : PTs X [] (tOfT X.K (evC G .nil)) := PTs.imp pts_nil fun σ H Q h => by
  obtain ⟨n, ρ, F, v, ρ', r, g, q⟩ := h
  cases g
  exact q F H (Step.refl r)
theorem dc_one (hn : ia ≠ .nil) (h : DT X e (evT G ia)) : PTs X [e] (tOfT X.K (evC G ia)) := PTs.imp (pts_one h.can) fun σ H Q h => by
  obtain ⟨n, ρ, F, v, ρ', r, g, q⟩ := h
  refine ⟨n, ρ, F, v, ρ', r, ?_, q⟩
  unfold evC at g
  split at g
  · exact absurd rfl hn
  · exact g
end
section
variable {K : PySem.W.Frag} {n : Ent} {σ : L2.St} {ρ : Slots} {F H : Hp}
/-- a thing of nobody's is changed -/
theorem Rel.mutD (r : Rel K n ρ σ F H) {d : Addr} {o : HO} (hf : F d = none) (no : NoOwn ρ σ d) (h0 : n.H0 d = none) : Rel K n ρ σ F (upd H d o) where
  sub := fun b u q => by
    rw [upd_ne (fun e => by rw [e, hf] at q; cases q)]; exact r.sub b u q
  len := r.len
  dat := r.dat
  own := fun i b xs h => by
    obtain ⟨p, vs, h1, h2, h3, h4, h5, h6⟩ := r.own i b xs h
    have ne : p ≠ d := fun e => no i (isOwn_iff.mpr ⟨b, xs, h⟩) (by rw [h1, e])
    exact ⟨p, vs, h1, by rw [upd_ne ne]; exact h2, h3, h4, h5, h6⟩
  dic := r.dic
  scr := r.scr
  inj := r.inj
  ex0 := r.ex0
  keep := fun b u q z => by
    have ne : b ≠ d := fun e => by rw [e, h0] at q; cases q
    rw [upd_ne ne]; exact r.keep b u q z
  newF := r.newF
  par := r.par
end
theorem wipe_wipe (σ : L2.St) (vs : List Nat) : L2.wipe (L2.wipe σ vs) vs = L2.wipe σ vs := by
  apply List.ext_getElem?
  intro j
  by_cases e : j ∈ vs
  · by_cases hl : j < σ.length
    · rw [wipe_in (by rw [wipe_length]; exact hl) e, wipe_in hl e]
    · rw [List.getElem?_eq_none (by rw [wipe_length, wipe_length]; omega), List.getElem?_eq_none (by rw [wipe_length]; omega)]
  · rw [wipe_out e]
section
variable {X : Cx} {tg iter elt : Expr} {ifs : List Expr} {scope : Scope} {own : List (Str × Nat)} {pos : Pos} {G : Cfg} {ik : ItK} {ita itb ci ei : IR} {p : Pat}
def compBody (G : Cfg) (vs : List Nat) (p : Pat) (c e : IR) (x : D) (ρ : Slots) : Option (Option D × Slots) := do
  let ρa ← Pat.bind p x (wipeE ρ vs)
  let (b, ρb) ← evC G c ρa
  if b then do
    let (vy, ρc) ← evE G e ρb
    let y ← vy.pure?
    pure (some y, ρc)
  else pure (none, ρb)
theorem evE_comp (vs : List Nat) (p : Pat) (k : ItK) (a b c e : IR) (ρ : Slots) : evE G (.comp vs p k a b c e) ρ = (do
    let (xs, ρ1) ← evI G k a b ρ
    if vs.any (fun v => isOwn ρ1[v]?) then none else
    let (ys, ρ2) ← compGo (compBody G vs p c e) xs ρ1
    pure (.d (.lst ys), restore ρ1 ρ2 vs)) := by
  conv => lhs; unfold evE
  congr 1
theorem dn_comp (hc : X.calm = true) (hN : X.N.Nodup) (hi : DI X p tg iter (evI G ik ita itb)) (ok : BlkOk X.N X.env.scope scope own) (hp : ∀ i ∈ p.slots, i ∈ own.map (·.2))
    (hg : ∀ (s : Shared) (H : Hp) (C : Addr) (cl : List (Str × Addr)) (fp : List Addr), PG (X.blk s H scope (compEnvC scope cl C X.env) fp) tg (tOfG X.K p))
    (ht : ∀ (s : Shared) (H : Hp) (C : Addr) (cl : List (Str × Addr)) (fp : List Addr), PTs (X.blk s H scope (compEnvC scope cl C X.env) fp) ifs (tOfT X.K (evC G ci)))
    (he : ∀ (s : Shared) (H : Hp) (C : Addr) (cl : List (Str × Addr)) (fp : List Addr), PE (X.blk s H scope (compEnvC scope cl C X.env) fp) elt (tOfE X.K (evE G ei))) (hs : ∀ x, foldedSetIterable iter X.env x = pure x) :
    ∃ wi, PI X tg iter wi ∧ ∀ (n : Ent) (ρ : Slots) (σ : L2.St) (F H : Hp) (v : Vl) (ρ' : Slots) (Q : VK), Rel X.K n ρ σ F H → evE G (.comp (own.map (·.2)) p ik ita itb ci ei) ρ = some (v, ρ') →
      (∀ F' H' w c, Step X.K n σ ρ F H ρ' F' H' → v = .d c → Nw X.K H F' H' w c → Q w H') → tLc wi (tOfG X.K p) (tOfT X.K (evC G ci)) (tOfE X.K (evE G ei)) (own.map (·.2)) σ H Q := by
  obtain ⟨wi, pi, qi⟩ := hi
  generalize hvs : own.map (·.2) = vs at hp
  refine ⟨wi, pi, fun n ρ σ F H v ρ' Q rl g k => ?_⟩
  rw [evE_comp] at g
  obtain ⟨⟨xs, ρ1⟩, gi, g⟩ := bind_some g
  dsimp only at g
  split at g
  · cases g
  rename_i hany
  have noV : ∀ v ∈ vs, isOwn ρ1[v]? = false := fun v hv => by
    cases q : isOwn ρ1[v]? with
    | false => rfl
    | true => exact absurd (List.any_eq_true.mpr ⟨v, hv, q⟩) hany
  obtain ⟨⟨ys, ρ2⟩, gc, g⟩ := bind_some g
  obtain ⟨rfl, rfl⟩ := pure_some g
  refine qi n ρ σ F H xs ρ1 _ rl gi fun F1 H1 J Gd Y s1 hz wk hG yd => fun Dd hD => ?_
  have r1 := s1.rel
  have h0D : n.H0 Dd = none := r1.dom hD
  refine lc_it wk (fun i Hc => ∃ ρi Fi acc ds rest, Hc Dd = some (.lst acc) ∧ Fi Dd = none ∧ Ex F1 Fi ∧ Rel X.K n (wipeE ρi vs) (L2.wipe σ vs) Fi Hc ∧ NoOwn (wipeE ρi vs) (L2.wipe σ vs) Dd ∧ Rps X.K Fi acc ds ∧ ds.length ≤ i ∧
    compGo (compBody G vs p ci ei) (xs.drop i) ρi = some (rest, ρ2) ∧ ys = ds ++ rest ∧ (∀ b o, H1 b = some o → NoOwn ρ1 σ b → Hc b = some o ∧ (F1 b = none → Fi b = none)) ∧ (∀ i : Nat, isOwn (wipeE ρi vs)[i]? = true → isOwn ρ1[i]? = true) ∧ ∀ b, Hc b = none → H1 b = none) ?_ ?_ ?_ ?_
  · -- start
    refine ⟨ρ1, F1, [], [], ys, upd_same, Ov.Ex.none r1.sub hD, Ex.refl _, (r1.wipe noV).al (Al.own r1.sub hD), own_ne (r1.wipe noV) hD, .nil, Nat.zero_le _, by simpa using gc, rfl, fun b o hb no => ⟨?_, fun q => q⟩, fun i hi => ?_, fun b hb => ?_⟩
    · rw [upd_ne (fun e => by rw [e, hD] at hb; cases hb)]; exact hb
    · by_cases e : i ∈ vs
      · obtain ⟨by', y, hy⟩ := isOwn_iff.mp hi; exact absurd hy (wipeE_in e)
      · rw [wipeE_out e] at hi; exact hi
    · by_cases e : b = Dd
      · rw [e]; exact hD
      · rw [upd_ne e] at hb; exact hb
  · -- what is walked stands
    rintro i Hc hi ⟨ρi, Fi, acc, ds, rest, h1, h2, h3, h4, _⟩
    exact hG Hc (h3.trans h4.sub)
  · -- a turn
    rintro i x Hc H2 hi ⟨ρi, Fi, acc, ds, rest, hD1, hD2, ex, r, no, rs, hdl, gg, hys, fr, ow, dom⟩ hy
    obtain ⟨d, hxd, q⟩ := yd i Hc x H2 hi (ex.trans r.sub) hy
    obtain ⟨F2, al, rp⟩ := q Fi ex r.sub
    have hdrop : xs.drop i = d :: xs.drop (i + 1) := by
      obtain ⟨hi', e⟩ := List.getElem?_eq_some_iff.mp hxd
      rw [← e]; exact List.drop_eq_getElem_cons hi'
    rw [hdrop] at gg
    simp only [compGo] at gg
    obtain ⟨⟨y, ρn⟩, gb, gg⟩ := bind_some gg
    obtain ⟨⟨ys', ρe⟩, gr, gg⟩ := bind_some gg
    obtain ⟨e1, rfl⟩ := pure_some gg
    simp only [compBody] at gb
    obtain ⟨ρa, ga, gb⟩ := bind_some gb
    obtain ⟨⟨b, ρb⟩, gcd, gb⟩ := bind_some gb
    have wn : ∀ {ρx : Slots}, (∀ j : Nat, isOwn ρx[j]? = true → isOwn ρa[j]? = true) → ∀ v ∈ vs, isOwn ρx[v]? = false := fun {ρx} h v hv => by
      cases qq : isOwn ρx[v]? with
      | false => rfl
      | true =>
        obtain ⟨bz, z, hz⟩ := isOwn_iff.mp (bind_own v ga (h v qq))
        exact absurd hz (wipeE_in hv)
    refine ⟨n, wipeE ρi vs, F2, d, ρa, r.al al, rp, ga, fun j hj qa hqa => ?_, fun σ2 r2 but => ⟨(but.wipe hp).trans (wipe_wipe σ vs), ?_⟩⟩
    · obtain ⟨z, hz⟩ := (r.par j qa hqa).2
      exact absurd hz (wipeE_in (hp j hj))
    have hw2 : L2.wipe σ2 vs = L2.wipe σ vs := (but.wipe hp).trans (wipe_wipe σ vs)
    have noA : ∀ {b : Addr}, NoOwn (wipeE ρi vs) (L2.wipe σ vs) b → NoOwn ρa σ2 b := fun {b} hn j hj => by
      have o1 := bind_own j ga hj
      obtain ⟨bz, z, hz⟩ := isOwn_iff.mp o1
      have e : j ∉ vs := fun e => wipeE_in e hz
      rw [but.2 j fun q => e (hp j q)]
      exact hn j o1
    have hD2' : H2 Dd = some (.lst acc) := al.hx _ _ hD1
    have hF2 : F2 Dd = none := al.new Dd (by rw [hD1]; simp) hD2
    refine ⟨n, ρa, F2, b, ρb, r2, gcd, fun F3 H3 s3 => ?_⟩
    have f3 := s3.fr Dd _ hD2' (noA no)
    have own3 : ∀ {b : Addr}, NoOwn ρ1 σ b → NoOwn (wipeE ρi vs) (L2.wipe σ vs) b := fun {b} hn j hj => by
      have := ow j hj
      obtain ⟨bz, z, hz⟩ := isOwn_iff.mp hj
      have e : j ∉ vs := fun e => wipeE_in e hz
      rw [wipe_out e]; exact hn j this
    have backOwn : ∀ {ρx : Slots}, (∀ j : Nat, isOwn ρx[j]? = true → isOwn ρa[j]? = true) → ∀ j : Nat, isOwn (wipeE ρx vs)[j]? = true → isOwn (wipeE ρi vs)[j]? = true := fun {ρx} h j hj => by
      obtain ⟨bz, z, hz⟩ := isOwn_iff.mp hj
      have e : j ∉ vs := fun e => wipeE_in e hz
      rw [wipeE_out e] at hj
      exact bind_own j ga (h j hj)
    cases b with
    | false =>
      simp only [Bool.false_eq_true, if_false] at gb ⊢
      obtain ⟨e2, rfl⟩ := pure_some gb
      subst e2
      have rw3 := s3.rel.wipe (vs := vs) (wn s3.ow)
      rw [hw2] at rw3
      refine ⟨_, F3, acc, ds, ys', f3.1, f3.2 hF2, ex.trans (al.ex.trans s3.ex), rw3, fun j hj => no j (backOwn s3.ow j hj), rs.mono (al.ex.trans s3.ex), by omega, gr, by rw [hys, e1], fun b o hb hn => ?_, fun j hj => ow j (backOwn s3.ow j hj), fun b hb => dom b (Ov.Ex.none al.hx (s3.dom b hb))⟩
      obtain ⟨g1, g2⟩ := fr b o hb hn
      obtain ⟨g3, g4⟩ := s3.fr b o (al.hx _ _ g1) (noA (own3 hn))
      exact ⟨g3, fun hf => g4 (al.new b (by rw [g1]; simp) (g2 hf))⟩
    | true =>
      simp only [if_true] at gb ⊢
      obtain ⟨⟨vy, ρc⟩, ge, gb⟩ := bind_some gb
      obtain ⟨yy, gy, gb⟩ := bind_some gb
      obtain ⟨e2, rfl⟩ := pure_some gb
      subst e2
      refine ⟨n, ρb, F3, vy, _, s3.rel, ge, fun F4 H4 w s4 v4 => ?_⟩
      have s34 := s3.trans s4
      have f4 := s34.fr Dd _ hD2' (noA no)
      have rw4 := s4.rel.wipe (vs := vs) (wn s34.ow)
      rw [hw2] at rw4
      have no4 : NoOwn (wipeE ρn vs) (L2.wipe σ vs) Dd := fun j hj => no j (backOwn s34.ow j hj)
      refine ⟨acc, f4.1, by rw [rs.length]; omega, ρn, F4, acc ++ [w], ds ++ [yy], ys', upd_same, f4.2 hF2, ex.trans (al.ex.trans s34.ex), rw4.mutD (f4.2 hF2) no4 h0D, no4, (rs.mono (al.ex.trans s34.ex)).append (.cons (v4.pure gy) .nil), by simp; omega, gr, by rw [hys, e1]; simp, fun b o hb hn => ?_, fun j hj => ow j (backOwn s34.ow j hj), fun b hb => ?_⟩
      · obtain ⟨g1, g2⟩ := fr b o hb hn
        obtain ⟨g3, g4⟩ := s34.fr b o (al.hx _ _ g1) (noA (own3 hn))
        refine ⟨?_, fun hf => g4 (al.new b (by rw [g1]; simp) (g2 hf))⟩
        rw [upd_ne (fun e => by rw [e, hD] at hb; cases hb)]; exact g3
      · by_cases e : b = Dd
        · rw [e]; exact hD
        · rw [upd_ne e] at hb
          exact dom b (Ov.Ex.none al.hx (s34.dom b hb))
  · -- the end
    rintro Hc ⟨ρi, Fi, acc, ds, rest, hD1, hD2, ex, r, no, rs, hdl, gg, hys, fr, ow, dom⟩
    rw [List.drop_length] at gg
    simp only [compGo, Option.some.injEq, Prod.mk.injEq] at gg
    obtain ⟨e1, e2⟩ := gg
    subst e1 e2
    rw [List.append_nil] at hys
    subst hys
    refine k Fi Hc (.ref Dd) _ (s1.trans ⟨ex, r.back r1 ex noV, fr, fun i hi => ?_, dom⟩) rfl ⟨Dd, acc, rfl, s1.dom Dd hD, hD2, hD1, Nat.le_trans hdl hz, rs⟩
    by_cases e : i ∈ vs
    · obtain ⟨by', y, hy⟩ := isOwn_iff.mp hi
      rw [restore_in e hy]; rfl
    · rw [restore_out e] at hi
      exact ow i (by rw [wipeE_out e]; exact hi)
end
end Ov

set_option maxHeartbeats 2000000
namespace Ov
open PySem PySem.Spec PyProof.Rows L2 Evl
/-! ### the promise of a def where no repr is under way -/
structure FnO (P : Program) (w : World) (K : PySem.W.Frag) (mg : Str → Option Value) (base : Heap) (k : Nat) (f : Addr) (fd : FuncData) (ps : List Str) (sp : Sp) : Prop where
  many : ∀ vs H Q E, sp vs H Q E → vs.length = ps.length
  go : ∀ (A : Around) (outer : List Env) (s : Shared) (H : Hp) (args : Args) (us : List Value) (vs : List V) (Q : VK) (E : XK), A.guards = some [] → Room k A → Env0 P w K mg base A outer s H → BindsTo s fd args (ps.zip us) → Vals vs us → sp vs H Q E →
    codeAny (model P w) A (.call (.ref f) args) (CR CX0 outer P w H s Q E) s
section
variable {X : Cx} {k n : Nat} {f : Addr} {fd : FuncData} {ps ks : List Str} {sp : Sp} {E : XK} {x : Str} {p pos : Pos} {e : Expr} {es : List Expr} {kws : List Keyword} {t tk : TA} {g : List Value → List Value → List Value} {gV : List V → List V → List V} {ds : List Value} {dvs : List V}
theorem back_fn {pins : List (Addr × Obj)} {σ : L2.St} {H : Hp} {s s' : Shared} {Q : VK} (I : Inv X pins σ H s) : ∀ {r : Result}, CR CX0 X.stack X.prog X.w H s Q E r s' → ∃ u, r = .ok (.ret u) ∧ EP X pins σ Q u s'
  | .ok (.ret u), h => ⟨u, rfl, I.after h⟩
  | .ok .next, h => h.elim
  | .ok .brk, h => h.elim
  | .ok .cont, h => h.elim
  | .error _, h => h.elim
theorem go_fn {pins : List (Addr × Obj)} {σ : L2.St} {H : Hp} {s : Shared} {Q : VK} {us zs : List Value} {vs : List V} {kw : List (Str × Value)} (Fn : FnO X.prog X.w X.K X.mg X.base k f fd ps sp) (hgd : X.A.guards = some []) (hr : Room k X.A)
    (I : Inv X pins σ H s) (hb : BindsTo s fd ⟨us, kw⟩ (ps.zip zs)) (r : Vals vs zs) (h : sp vs H Q E) : wpAny (model X.prog X.w) X.A (call (.ref f) us kw) (EP X pins σ Q) X.xe s := by
  refine wpAny_call (codeAny_mono (Fn.go X.A X.stack s H _ zs vs Q E hgd hr I.env0 hb r h) fun r s' hq => ?_)
  obtain ⟨u, rfl, q⟩ := back_fn I hq
  exact q
theorem po_call (Fn : FnO X.prog X.w X.K X.mg X.base k f fd ps sp) (hgd : X.A.guards = some []) (hr : Room k X.A) (hg : Gl X x) (hm : X.mg x = some (.ref f)) (hk : PySem.W.keepIn X.K (.ref f) = true) (hb : Binds X.K fd ps [])
    (ha : PA X (e :: es) t) (hdb : (x == ("__debug__" : Str)) = false) (he : starEach (e :: es) X.env = (false, eval e X.env) :: starEach es X.env) (hpl : (backTo pos (starEach es X.env)).any (·.1) = false) :
    PE X (.Call (.Name x p) (e :: es) [] pos) (tCall sp [] E t) := by
  constructor
  intro pins s σ H Q I h
  refine wpAny_Call_Name_kw (ld_glob I hg hm (PySem.W.callWith_K (h₀ := X.base) I.ok.mod.kin hk (thn (ha.run pos pins s σ H _ I h) ?_) he hpl) hdb)
  rintro us s1 ⟨vs, H1, I1, r, q⟩
  have q' : sp vs H1 Q E := by have := q; rw [List.append_nil] at this; exact this
  have hl : us.length = ps.length := by rw [← r.length]; exact Fn.many _ _ _ _ q'
  have hbb := hb s1 us I1.kIn (by rw [List.append_nil]; exact hl)
  rw [List.append_nil] at hbb
  exact ⟨I1.kIn, go_fn Fn hgd hr I1 hbb r q'⟩
theorem po_callK (Fn : FnO X.prog X.w X.K X.mg X.base k f fd ps sp) (hgd : X.A.guards = some []) (hr : Room k X.A) (hg : Gl X x) (hm : X.mg x = some (.ref f)) (hk : PySem.W.keepIn X.K (.ref f) = true) (hb : KBn X.K fd ps 0 ks g gV)
    (hkw : PK X kws tk) (hall : (backToKw pos (keywordEach kws X.env)).all (·.1.isSome) = true) (hks : (backToKw pos (keywordEach kws X.env)).filterMap (·.1) = ks)
    (hdb : (x == ("__debug__" : Str)) = false) (hpl : ((backTo pos (starEach [] X.env)).any (·.1) || (backToKw pos (keywordEach kws X.env)).any (·.1.isNone)) = false) :
    PE X (.Call (.Name x p) [] kws pos) (fun σ H Q => tk σ H fun zs H2 => zs.length = ks.length ∧ sp (gV [] zs) H2 Q E) := by
  constructor
  intro pins s σ H Q I h
  refine wpAny_Call_Name_kw (ld_glob I hg hm (PySem.W.callWith_KW0 (h₀ := X.base) I.ok.mod.kin hk hall (thn (hkw.run pos pins s σ H _ I h) ?_) hpl) hdb)
  rintro ws s2 ⟨zs, H2, I2, rz, l2, q2⟩
  refine ⟨I2.kIn, ?_⟩
  rw [hks]
  exact go_fn (us := []) Fn hgd hr I2 (hb.to s2 [] ws I2.kIn rfl (rz.length.symm.trans l2)) (hb.rel .nil rz) q2
end
/-! ### a def's promise, of its body -/
theorem fno_of {P : Program} {w : World} {K : PySem.W.Frag} {mg : Str → Option Value} {base : Heap} {k : Nat} {f : Addr} {x qual : Str} {params : Arguments} {body : List Stmt} {scope : Scope} {fd : FuncData} {N ps : List Str} {sp : Sp}
    (Fd : FunD K x qual params body scope [] [] f fd) (S : FnScope N ps scope) (len : ∀ vs H Q E, sp vs H Q E → vs.length = ps.length)
    (hbody : ∀ (cdv : Value) (A : Around) (outer : List Env) (s : Shared) (H : Hp) (vs : List V) (Q : VK) (E : XK), A.guards = some [] → Room k (A.deeper (envOfC qual scope s.heap.objs.size f cdv)) → sp vs H Q E →
      ∃ t, PSs (cxOf CX0 P w K mg base N qual scope f cdv A outer s H E) body t ∧ t { nx := fun _ H' => Q .non H', rt := Q } (start N vs) H) : FnO P w K mg base (k + 1) f fd ps sp := by
  obtain ⟨oc, od, dV, kV, doc, pm, an, cdv, ct, osl, rfl, lk, hcd, _, _⟩ := Fd.ex
  constructor
  · exact len
  intro A outer s H args us vs Q E hgd hr e0 hb r hsp
  have old : ∀ b o, base.get? b = some o → s.heap.get? b = some o := fun b o e => (e0.bs b o e).1
  have hin : K.In s.heap := e0.mod.kin.keeps old
  have kinds : ∀ y ∈ ps.zip us, scope.names.lookup y.1 = some .local ∨ (scope.names.lookup y.1 = some .cell ∧ ((cellsFrom (s.heap.objs.size + 1) scope.names []).lookup y.1).isSome = true) := by
    rintro ⟨m, v⟩ hy
    cases S.par m (List.of_mem_zip hy).1 with
    | inl q => exact Or.inl q
    | inr q => exact Or.inr ⟨q, PySem.W.cellsFrom_some _ _ _ (Or.inl q)⟩
  refine codeAny_call_function hr.depth (hin _ _ lk) rfl S.co S.gen rfl (PySem.W.codeRec_of hin hcd) (hb _ _ _ _ (wpAny_newFunctionEnv_cells S.kind kinds ?_))
  intro env he s1 ic
  subst he
  obtain ⟨t, ht, hq⟩ := hbody cdv A outer s H vs Q E hgd (hr.deeper _) hsp
  have I := inv_start (CX := CX0) (cd := cdv) (qual := qual) (f := f) (E := E) S hr.hd e0 (len _ _ _ _ hsp) r ic
  refine ⟨(e0.mod.nolimit.keeps old).keeps ic.toInCall.keep, codeAny_func (wpAny_mono (ht.run [] s1 (start N vs) H _ I hq) ?_ fun _ _ h => h)⟩
  intro fl s' hs
  cases fl with
  | next =>
    obtain ⟨_, H', J, q⟩ := hs
    exact ⟨V.non, H', J.os, J.bare, J.base, J.hok, (rfl : (Value.none) = Value.none), q⟩
  | ret u =>
    obtain ⟨v, _, H', J, rv, q⟩ := hs
    exact ⟨v, H', J.os, J.bare, J.base, J.hok, rv, q⟩
  | brk => obtain ⟨_, _, _, q⟩ := hs; exact q.elim
  | cont => obtain ⟨_, _, _, q⟩ := hs; exact q.elim
end Ov

set_option maxHeartbeats 2000000
namespace Ov
open PySem PySem.Spec PyProof.Rows L2 Evl
/-! ### what a def promises -/
structure Post (K : PySem.W.Frag) (n : Ent) (r : EV) (outs : List EV) (w : V) (F' H' : Hp) : Prop where
  ex : Ex n.F0 F'
  sub : Ex F' H'
  keep : ∀ b o, n.H0 b = some o → some b ∉ n.ps → H' b = some o
  newF : ∀ b, n.H0 b ≠ none → n.F0 b = none → F' b = none
  dom : ∀ b, H' b = none → n.H0 b = none
  outs : ∀ (i : Nat) p, n.ps[i]? = some (some p) → ∃ b xs us, outs[i]? = some (.own b xs) ∧ H' p = some (.lst us) ∧ xs.length ≤ sizeLine ∧ Rps K F' us xs
  res : match r with
    | .d x => Rp K F' w x
    | .own _ xs => ∃ p us, w = .ref p ∧ n.H0 p = none ∧ F' p = none ∧ H' p = some (.lst us) ∧ xs.length ≤ sizeLine ∧ Rps K F' us xs
    | .scr _ => False
    | .dic _ => False
def SpF (K : PySem.W.Frag) (np : Nat) (cf : List EV → Option (EV × List EV)) : Sp := fun vs H Q _ => vs.length = np ∧ ∃ F ps as r outs, cf as = some (r, outs) ∧ ps.length ≤ np ∧ Rel K ⟨F, H, ps⟩ (as.map some) (vs.map some) F H ∧
  ∀ w F' H', Post K ⟨F, H, ps⟩ r outs w F' H' → Q w H'
section
theorem reown_len (ρ : Slots) (i : Nat) (xs : List D) : (reown ρ i xs).length = ρ.length := by
  unfold reown; split
  · exact List.length_set ..
  · rfl
theorem reown_ne {ρ : Slots} {i j : Nat} {xs : List D} (h : i ≠ j) : (reown ρ i xs)[j]? = ρ[j]? := by
  unfold reown; split
  · rw [set_get, if_neg h]
  · rfl
theorem reown_at {ρ : Slots} {i : Nat} {b : Bool} {ys xs : List D} (h : ρ[i]? = some (some (.own b ys))) : (reown ρ i xs)[i]? = some (some (.own b xs)) := by
  unfold reown
  rw [h]
  show (ρ.set i (some (.own b xs)))[i]? = _
  rw [set_get, if_pos rfl, if_pos (List.getElem?_eq_some_iff.mp h).1]
theorem reown_no {ρ : Slots} {i : Nat} {xs : List D} (h : isOwn ρ[i]? = false) : reown ρ i xs = ρ := by
  unfold reown; split
  · rename_i q; rw [q] at h; cases h
  · rfl
theorem putBack_len : ∀ (ρ : Slots) (vs : List Vl) (es : List EV), (putBack ρ vs es).length = ρ.length
  | ρ, [], _ => by unfold putBack; rfl
  | ρ, .slot i :: vs, [] => by simp [putBack]
  | ρ, .d _ :: vs, [] => by simp [putBack]
  | ρ, .slot i :: vs, .own b xs :: es => by
    rw [show putBack ρ (.slot i :: vs) (.own b xs :: es) = putBack (reown ρ i xs) vs es from rfl, putBack_len, reown_len]
  | ρ, .slot i :: vs, .d x :: es => by
    rw [show putBack ρ (.slot i :: vs) (.d x :: es) = putBack ρ vs es from rfl, putBack_len]
  | ρ, .slot i :: vs, .scr x :: es => by
    rw [show putBack ρ (.slot i :: vs) (.scr x :: es) = putBack ρ vs es from rfl, putBack_len]
  | ρ, .slot i :: vs, .dic x :: es => by
    rw [show putBack ρ (.slot i :: vs) (.dic x :: es) = putBack ρ vs es from rfl, putBack_len]
  | ρ, .d y :: vs, e :: es => by
    rw [show putBack ρ (.d y :: vs) (e :: es) = putBack ρ vs es by cases e <;> rfl, putBack_len]
theorem putBack_out : ∀ (ρ : Slots) (vs : List Vl) (es : List EV) (j : Nat), (isOwn ρ[j]? = true → ∀ i : Nat, vs[i]? ≠ some (Vl.slot j)) → (putBack ρ vs es)[j]? = ρ[j]?
  | ρ, [], _, _, _ => by unfold putBack; rfl
  | ρ, .slot i :: vs, [], _, _ => by simp [putBack]
  | ρ, .d _ :: vs, [], _, _ => by simp [putBack]
  | ρ, .slot i :: vs, .own b xs :: es, j, h => by
    have e1 : (reown ρ i xs)[j]? = ρ[j]? := by
      by_cases e : i = j
      · subst e
        cases ho : isOwn ρ[i]? with
        | true => exact absurd rfl (h ho 0)
        | false => rw [reown_no ho]
      · exact reown_ne e
    rw [show putBack ρ (.slot i :: vs) (.own b xs :: es) = putBack (reown ρ i xs) vs es from rfl, putBack_out _ vs es j fun ho m h1 => h (by rw [e1] at ho; exact ho) (m + 1) (by simpa using h1)]
    exact e1
  | ρ, .slot i :: vs, .d x :: es, j, h => by
    rw [show putBack ρ (.slot i :: vs) (.d x :: es) = putBack ρ vs es from rfl, putBack_out _ vs es j fun ho m h1 => h ho (m + 1) (by simpa using h1)]
  | ρ, .slot i :: vs, .scr x :: es, j, h => by
    rw [show putBack ρ (.slot i :: vs) (.scr x :: es) = putBack ρ vs es from rfl, putBack_out _ vs es j fun ho m h1 => h ho (m + 1) (by simpa using h1)]
  | ρ, .slot i :: vs, .dic x :: es, j, h => by
    rw [show putBack ρ (.slot i :: vs) (.dic x :: es) = putBack ρ vs es from rfl, putBack_out _ vs es j fun ho m h1 => h ho (m + 1) (by simpa using h1)]
  | ρ, .d y :: vs, e :: es, j, h => by
    rw [show putBack ρ (.d y :: vs) (e :: es) = putBack ρ vs es by cases e <;> rfl, putBack_out _ vs es j fun ho m h1 => h ho (m + 1) (by simpa using h1)]
theorem mem_slots : ∀ {vs : List Vl} {i j : Nat}, vs[i]? = some (.slot j) → j ∈ slotsOf vs
  | [], _, _, h => by simp at h
  | .slot k :: vs, 0, j, h => by simp at h; subst h; simp [slotsOf]
  | .d _ :: vs, 0, j, h => by simp at h
  | .slot k :: vs, i + 1, j, h => by
    have := mem_slots (vs := vs) (i := i) (j := j) (by simpa using h)
    simp [slotsOf, this]
  | .d k :: vs, i + 1, j, h => by
    have := mem_slots (vs := vs) (i := i) (j := j) (by simpa using h)
    simp [slotsOf, this]
theorem slots_inj : ∀ {vs : List Vl} {i i' j : Nat}, (slotsOf vs).Nodup → vs[i]? = some (.slot j) → vs[i']? = some (.slot j) → i = i'
  | [], _, _, _, _, h, _ => by simp at h
  | .d k :: vs, 0, _, j, _, h, _ => by simp at h
  | .d k :: vs, i + 1, 0, j, _, _, h => by simp at h
  | .d k :: vs, i + 1, i' + 1, j, nd, h, h' => by
    have := slots_inj (vs := vs) (i := i) (i' := i') (j := j) (by simpa [slotsOf] using nd) (by simpa using h) (by simpa using h')
    omega
  | .slot k :: vs, 0, 0, j, _, _, _ => rfl
  | .slot k :: vs, 0, i' + 1, j, nd, h, h' => by
    simp at h; subst h
    have := mem_slots (vs := vs) (i := i') (j := k) (by simpa using h')
    simp [slotsOf] at nd
    exact absurd this nd.1
  | .slot k :: vs, i + 1, 0, j, nd, h, h' => by
    simp at h'; subst h'
    have := mem_slots (vs := vs) (i := i) (j := k) (by simpa using h)
    simp [slotsOf] at nd
    exact absurd this nd.1
  | .slot k :: vs, i + 1, i' + 1, j, nd, h, h' => by
    simp [slotsOf] at nd
    have := slots_inj (vs := vs) (i := i) (i' := i') (j := j) nd.2 (by simpa using h) (by simpa using h')
    omega
theorem putBack_in : ∀ (ρ : Slots) (vs : List Vl) (es : List EV) (i j : Nat) (b b' : Bool) (xs ys : List D), (slotsOf vs).Nodup → vs[i]? = some (Vl.slot j) → es[i]? = some (.own b' xs) → ρ[j]? = some (some (.own b ys)) → (putBack ρ vs es)[j]? = some (some (.own b xs))
  | ρ, [], _, i, _, _, _, _, _, _, h, _, _ => by simp at h
  | ρ, v :: vs, [], i, j, _, _, _, _, _, h, h2, _ => by simp at h2
  | ρ, v :: vs, e :: es, 0, j, b, b', xs, ys, nd, h, h2, hl => by
    simp at h h2; subst h h2
    rw [show putBack ρ (.slot j :: vs) (.own b' xs :: es) = putBack (reown ρ j xs) vs es from rfl]
    rw [putBack_out _ vs es j fun _ m h1 => by
      have := mem_slots h1
      simp [slotsOf] at nd
      exact absurd this nd.1]
    exact reown_at hl
  | ρ, v :: vs, e :: es, i + 1, j, b, b', xs, ys, nd, h, h2, hl => by
    have nd' : (slotsOf vs).Nodup := by
      cases v with
      | d x => simpa [slotsOf] using nd
      | slot k => simp [slotsOf] at nd; exact nd.2
    have key : ∀ ρ1 : Slots, ρ1[j]? = some (some (.own b ys)) → (putBack ρ1 vs es)[j]? = some (some (.own b xs)) := fun ρ1 hρ => putBack_in ρ1 vs es i j b b' xs ys nd' (by simpa using h) (by simpa using h2) hρ
    cases v with
    | d x => rw [show putBack ρ (.d x :: vs) (e :: es) = putBack ρ vs es by cases e <;> rfl]; exact key ρ hl
    | slot k =>
      have ne : k ≠ j := fun q => by
        have := mem_slots (vs := vs) (i := i) (j := j) (by simpa using h)
        simp [slotsOf, q] at nd
        exact absurd this nd.1
      cases e with
      | own b2 zs =>
        rw [show putBack ρ (.slot k :: vs) (.own b2 zs :: es) = putBack (reown ρ k zs) vs es from rfl]
        exact key _ (by rw [reown_ne ne]; exact hl)
      | d x => rw [show putBack ρ (.slot k :: vs) (.d x :: es) = putBack ρ vs es from rfl]; exact key ρ hl
      | scr x => rw [show putBack ρ (.slot k :: vs) (.scr x :: es) = putBack ρ vs es from rfl]; exact key ρ hl
      | dic x => rw [show putBack ρ (.slot k :: vs) (.dic x :: es) = putBack ρ vs es from rfl]; exact key ρ hl
theorem argsOf_len {ρ : Slots} : ∀ {vs : List Vl} {as : List EV}, argsOf ρ vs = some as → as.length = vs.length
  | [], _, h => by cases h; rfl
  | v :: vs, as, h => by
    simp only [argsOf] at h
    obtain ⟨x, hx, h⟩ := bind_some h
    obtain ⟨xs, hxs, h⟩ := bind_some h
    cases h
    simp [argsOf_len hxs]
theorem argsOf_get {ρ : Slots} : ∀ {vs : List Vl} {as : List EV} {i : Nat} {a : EV}, argsOf ρ vs = some as → as[i]? = some a → ∃ v, vs[i]? = some v ∧ v.arg ρ = some a
  | [], _, i, a, h, e => by cases h; simp at e
  | v :: vs, as, i, a, h, e => by
    simp only [argsOf] at h
    obtain ⟨x, hx, h⟩ := bind_some h
    obtain ⟨xs, hxs, h⟩ := bind_some h
    cases h
    cases i with
    | zero => simp at e; subst e; exact ⟨v, rfl, hx⟩
    | succ i =>
      obtain ⟨v', h1, h2⟩ := argsOf_get hxs (i := i) (a := a) (by simpa using e)
      exact ⟨v', by simpa using h1, h2⟩
theorem paired_get {R : V → Vl → Prop} : ∀ {ws : List V} {vs : List Vl} {i : Nat} {v : Vl}, Paired R ws vs → vs[i]? = some v → ∃ w, ws[i]? = some w ∧ R w v
  | _, _, _, _, .nil, h => by simp at h
  | _, _, 0, _, .cons r t, h => by simp at h; subst h; exact ⟨_, rfl, r⟩
  | _, _, i + 1, v, .cons r t, h => by
    obtain ⟨w, h1, h2⟩ := paired_get t (i := i) (v := v) (by simpa using h)
    exact ⟨w, by simpa using h1, h2⟩
end
section
variable {K : PySem.W.Frag} {n : Ent} {σ : L2.St} {ρ : Slots} {F H : Hp}
/-- the addresses of the lists that are handed on -/
def psOf (ρ : Slots) (σ : L2.St) : List Vl → List (Option Addr)
  | [] => []
  | .slot i :: r => (match isOwn ρ[i]?, σ[i]? with | true, some (some (.ref p)) => some p | _, _ => none) :: psOf ρ σ r
  | .d _ :: r => none :: psOf ρ σ r
theorem psOf_len : ∀ vs, (psOf ρ σ vs).length = vs.length
  | [] => rfl
  | .slot i :: r => by simp [psOf, psOf_len r]
  | .d i :: r => by simp [psOf, psOf_len r]
theorem psOf_get : ∀ {vs : List Vl} {i : Nat} {p : Addr}, (psOf ρ σ vs)[i]? = some (some p) ↔ ∃ j, vs[i]? = some (.slot j) ∧ isOwn ρ[j]? = true ∧ σ[j]? = some (some (.ref p))
  | [], i, p => by simp [psOf]
  | .d x :: r, 0, p => by simp [psOf]
  | .d x :: r, i + 1, p => by simpa [psOf] using psOf_get (vs := r) (i := i) (p := p)
  | .slot j :: r, i + 1, p => by simpa [psOf] using psOf_get (vs := r) (i := i) (p := p)
  | .slot j :: r, 0, p => by
    simp only [psOf, List.getElem?_cons_zero, Option.some.injEq, Vl.slot.injEq]
    constructor
    · intro h
      refine ⟨j, rfl, ?_⟩
      split at h
      · rename_i q h1 h2; cases h; exact ⟨h1, h2⟩
      · cases h
    · rintro ⟨j', rfl, h1, h2⟩
      rw [h1, h2]
theorem map_get {α β : Type} {f : α → β} {l : List α} {i : Nat} {y : β} (h : (l.map f)[i]? = some y) : ∃ x, l[i]? = some x ∧ f x = y := by
  rw [List.getElem?_map] at h
  cases q : l[i]? with
  | none => rw [q] at h; cases h
  | some x => rw [q] at h; cases h; exact ⟨x, rfl, rfl⟩
theorem Rel.call (r : Rel K n ρ σ F H) {ws : List V} {vs : List Vl} {as : List EV} (hw : Paired (VR K σ F) ws vs) (ha : argsOf ρ vs = some as) (nd : (slotsOf vs).Nodup) :
    Rel K ⟨F, H, psOf ρ σ vs⟩ (as.map some) (ws.map some) F H where
  sub := r.sub
  len := by rw [List.length_map, List.length_map, argsOf_len ha, hw.length]
  dat := fun i x h => by
    obtain ⟨a, h1, h2⟩ := map_get h
    cases h2
    obtain ⟨v, h3, h4⟩ := argsOf_get ha h1
    obtain ⟨w, h5, h6⟩ := paired_get hw h3
    refine ⟨w, by rw [List.getElem?_map, h5]; rfl, ?_⟩
    cases v with
    | d y => cases h4; exact h6
    | slot j =>
      simp only [Vl.arg] at h4
      split at h4 <;> cases h4
  own := fun i b xs h => by
    obtain ⟨a, h1, h2⟩ := map_get h
    cases h2
    obtain ⟨v, h3, h4⟩ := argsOf_get ha h1
    obtain ⟨w, h5, h6⟩ := paired_get hw h3
    cases v with
    | d y => cases h4
    | slot j =>
      simp only [Vl.arg] at h4
      split at h4
      · rename_i b2 ys hj
        cases h4
        obtain ⟨p, us, g1, g2, g3, g4, g5, _⟩ := r.own j b2 xs hj
        have h6 : σ[j]? = some (some w) := h6
        rw [g1] at h6; cases h6
        exact ⟨p, us, by rw [List.getElem?_map, h5]; rfl, g2, g3, g4, g5, psOf_get.mpr ⟨j, h3, by rw [hj]; rfl, g1⟩⟩
      · cases h4
      · cases h4
  dic := fun i xs h => by
    obtain ⟨a, h1, h2⟩ := map_get h
    cases h2
    obtain ⟨v, h3, h4⟩ := argsOf_get ha h1
    cases v with
    | d y => cases h4
    | slot j =>
      simp only [Vl.arg] at h4
      split at h4 <;> cases h4
  scr := fun i xs h => by
    obtain ⟨a, h1, h2⟩ := map_get h
    cases h2
    obtain ⟨v, h3, h4⟩ := argsOf_get ha h1
    obtain ⟨w, h5, h6⟩ := paired_get hw h3
    cases v with
    | d y => cases h4
    | slot j =>
      simp only [Vl.arg] at h4
      split at h4
      · cases h4
      · rename_i ys hj
        cases h4
        obtain ⟨p, g1, g2, g3⟩ := r.scr j xs hj
        have h6 : σ[j]? = some (some w) := h6
        rw [g1] at h6; cases h6
        exact ⟨p, by rw [List.getElem?_map, h5]; rfl, g2, g3⟩
      · cases h4
  inj := fun i i' p h1 h2 h3 h4 => by
    have key : ∀ {i : Nat}, isOwn (as.map some)[i]? = true → (ws.map some)[i]? = some (some (.ref p)) → ∃ j, vs[i]? = some (.slot j) ∧ isOwn ρ[j]? = true ∧ σ[j]? = some (some (.ref p)) := fun {i} h1 h3 => by
      obtain ⟨b, xs, hx⟩ := isOwn_iff.mp h1
      obtain ⟨a, g1, g2⟩ := map_get hx
      cases g2
      obtain ⟨v, g3, g4⟩ := argsOf_get ha g1
      obtain ⟨w, g5, g6⟩ := paired_get hw g3
      rw [List.getElem?_map, g5] at h3
      cases h3
      cases v with
      | d y => cases g4
      | slot j =>
        simp only [Vl.arg] at g4
        split at g4
        · rename_i b2 ys hj; cases g4; exact ⟨j, g3, by rw [hj]; rfl, g6⟩
        · cases g4
        · cases g4
    obtain ⟨j, a1, a2, a3⟩ := key h1 h3
    obtain ⟨j', b1, b2, b3⟩ := key h2 h4
    have := r.inj j j' p a2 b2 a3 b3
    subst this
    exact slots_inj nd a1 b1
  ex0 := Ex.refl _
  keep := fun b o h _ => h
  newF := fun b _ h => h
  par := fun i p h => by
    obtain ⟨j, h1, h2, h3⟩ := psOf_get.mp h
    obtain ⟨w, h5, h6⟩ := paired_get hw h1
    have h6 : σ[j]? = some (some w) := h6
    rw [h3] at h6; cases h6
    refine ⟨by rw [List.getElem?_map, h5]; rfl, ?_⟩
    have hi : i < as.length := by rw [argsOf_len ha]; exact (List.getElem?_eq_some_iff.mp h1).1
    obtain ⟨v, g3, g4⟩ := argsOf_get ha (List.getElem?_eq_getElem hi)
    rw [h1] at g3; cases g3
    obtain ⟨b, xs, hx⟩ := isOwn_iff.mp h2
    simp only [Vl.arg, hx, Option.some.injEq] at g4
    exact ⟨xs, by rw [List.getElem?_map, List.getElem?_eq_getElem hi, ← g4]; rfl⟩
/-- behind a call -/
theorem Step.call (r : Rel K n ρ σ F H) {ws : List V} {vs : List Vl} {as outs : List EV} {rv : EV} {w : V} {F' H' : Hp} (hw : Paired (VR K σ F) ws vs) (ha : argsOf ρ vs = some as) (nd : (slotsOf vs).Nodup)
    (P : Post K ⟨F, H, psOf ρ σ vs⟩ rv outs w F' H') : Step K n σ ρ F H (putBack ρ vs outs) F' H' := by
  have notin : ∀ b, NoOwn ρ σ b → some b ∉ psOf ρ σ vs := fun b h hm => by
    obtain ⟨i, hi, e⟩ := List.getElem_of_mem hm
    obtain ⟨j, h1, h2, h3⟩ := psOf_get.mp (show (psOf ρ σ vs)[i]? = some (some b) by rw [List.getElem?_eq_getElem hi, e])
    exact h j h2 h3
  -- what a slot holds behind it
  have slot : ∀ j : Nat, ((putBack ρ vs outs)[j]? = ρ[j]? ∧ ∀ p, isOwn ρ[j]? = true → σ[j]? = some (some (.ref p)) → some p ∉ psOf ρ σ vs) ∨
      ∃ (i : Nat) (p : Addr) (b : Bool) (ys xs : List D) (us : List V), vs[i]? = some (Vl.slot j) ∧ ρ[j]? = some (some (.own b ys)) ∧ σ[j]? = some (some (.ref p)) ∧ (putBack ρ vs outs)[j]? = some (some (.own b xs)) ∧ H' p = some (.lst us) ∧ xs.length ≤ sizeLine ∧ Rps K F' us xs := fun j => by
    by_cases hj : isOwn ρ[j]? = true ∧ ∃ i : Nat, vs[i]? = some (Vl.slot j)
    · obtain ⟨ho, i, hi⟩ := hj
      obtain ⟨b, ys, hy⟩ := isOwn_iff.mp ho
      obtain ⟨p, us, g1, _⟩ := r.own j b ys hy
      obtain ⟨b', xs, us, o1, o2, o3, o4⟩ := P.outs i p (psOf_get.mpr ⟨j, hi, ho, g1⟩)
      exact Or.inr ⟨i, p, b, ys, xs, us, hi, hy, g1, putBack_in ρ vs outs i j b b' xs ys nd hi o1 hy, o2, o3, o4⟩
    · refine Or.inl ⟨putBack_out ρ vs outs j fun ho i hi => hj ⟨ho, i, hi⟩, fun p ho hs hm => ?_⟩
      obtain ⟨i, hi, e⟩ := List.getElem_of_mem hm
      obtain ⟨j', h1, h2, h3⟩ := psOf_get.mp (show (psOf ρ σ vs)[i]? = some (some p) by rw [List.getElem?_eq_getElem hi, e])
      have := r.inj j j' p ho h2 hs h3
      subst this
      exact hj ⟨ho, i, h1⟩
  have ow : ∀ j : Nat, isOwn (putBack ρ vs outs)[j]? = true → isOwn ρ[j]? = true := fun j h => by
    rcases slot j with ⟨e, _⟩ | ⟨_, _, _, _, _, _, _, ho, _⟩
    · rw [e] at h; exact h
    · rw [ho]; rfl
  refine ⟨P.ex, ⟨P.sub, by rw [putBack_len]; exact r.len, fun i x h => ?_, fun i b xs h => ?_, fun i kvs h => ?_, fun i ns h => ?_, fun i j p h1 h2 h3 h4 => r.inj i j p (ow i h1) (ow j h2) h3 h4, r.ex0.trans P.ex, fun b o h q => ?_, fun b h q => ?_, fun i p h => ?_⟩, fun b o h no => ⟨P.keep b o h (notin b no), fun hf => P.newF b (show H b ≠ none by rw [h]; simp) hf⟩, ow, P.dom⟩
  · rcases slot i with ⟨e, _⟩ | ⟨_, _, _, _, _, _, _, _, _, e, _⟩
    · rw [e] at h
      obtain ⟨u, h1, h2⟩ := r.dat i x h
      exact ⟨u, h1, h2.mono P.ex⟩
    · rw [e] at h; cases h
  · rcases slot i with ⟨e, hn⟩ | ⟨_, p, b2, zs, ys, us, _, hz, hs, e, h1, h2, h3⟩
    · rw [e] at h
      obtain ⟨p, us, h1, h2, h3, h4, h5, h6⟩ := r.own i b xs h
      have np := hn p (isOwn_iff.mpr ⟨b, xs, h⟩) h1
      exact ⟨p, us, h1, P.keep p _ h2 np, P.newF p (show H p ≠ none by rw [h2]; simp) h3, h4, h5.mono P.ex, h6⟩
    · rw [e] at h; cases h
      obtain ⟨p', us', g1, g2, g3, g4, g5, g6⟩ := r.own i b zs hz
      rw [hs] at g1; cases g1
      exact ⟨p, us, hs, h1, P.newF p (show H p ≠ none by rw [g2]; simp) g3, h2, h3, g6⟩
  · rcases slot i with ⟨e, _⟩ | ⟨_, _, _, _, _, _, _, _, _, e, _⟩
    · rw [e] at h
      obtain ⟨p, h1, h2⟩ := r.dic i kvs h
      exact ⟨p, h1, h2.mono P.ex⟩
    · rw [e] at h; cases h
  · rcases slot i with ⟨e, _⟩ | ⟨_, _, _, _, _, _, _, _, _, e, _⟩
    · rw [e] at h
      obtain ⟨p, h1, h2, h3⟩ := r.scr i ns h
      exact ⟨p, h1, ex_l P.ex h2, h3⟩
    · rw [e] at h; cases h
  · by_cases hb : some b ∈ psOf ρ σ vs
    · obtain ⟨m, hm, e⟩ := List.getElem_of_mem hb
      obtain ⟨j, h1, h2, h3⟩ := psOf_get.mp (show (psOf ρ σ vs)[m]? = some (some b) by rw [List.getElem?_eq_getElem hm, e])
      obtain ⟨b3, zs, hz⟩ := isOwn_iff.mp h2
      obtain ⟨p', us', g1, g2, g3, g4, g5, g6⟩ := r.own j b3 zs hz
      rw [h3] at g1; cases g1
      cases b3 with
      | true => exact absurd (List.mem_of_getElem? g6) q
      | false =>
        have g6 : n.H0 b = none := g6
        rw [g6] at h; cases h
    · exact P.keep b o (r.keep b o h q) hb
  · by_cases hb : H b = none
    · exact absurd (r.dom hb) h
    · exact P.newF b hb (r.newF b h q)
  · obtain ⟨h1, xs, h2⟩ := r.par i p h
    refine ⟨h1, ?_⟩
    rcases slot i with ⟨e, _⟩ | ⟨_, _, b2, _, ys, _, _, hz, _, e, _⟩
    · rw [e]; exact ⟨xs, h2⟩
    · rw [h2] at hz; cases hz
      exact ⟨ys, e⟩
/-! ### a call of a def -/
def DO (X : Cx) (e : Expr) (f : Slots → Option (List D × Slots)) : Prop := ∃ t, PE X e t ∧ ∀ (n : Ent) (ρ : Slots) (σ : L2.St) (F H : Hp) (xs : List D) (ρ' : Slots) (Q : VK), Rel X.K n ρ σ F H → f ρ = some (xs, ρ') →
  (∀ F' H' p vs, Step X.K n σ ρ F H ρ' F' H' → H p = none → F' p = none → H' p = some (.lst vs) → xs.length ≤ sizeLine → Rps X.K F' vs xs → Q (.ref p) H') → t σ H Q
end
section
variable {X : Cx} {e a b c : Expr} {pos p q : Pos} {G : Cfg} {ia ib ic : IR} {rest es : List Expr} {k : Nat} {f : Addr} {fd : FuncData} {ps : List Str} {x : Str} {fi : Nat}
/-- what a call asks, whatever its value is -/
theorem call_core {n : Ent} {ρ ρ' : Slots} {σ : L2.St} {F H : Hp} {vs : List Vl} {ws : List V} {r : EV} {Q : VK} (rl : Rel X.K n ρ σ F H) (hw : Paired (VR X.K σ F) ws vs) (g : callD G fi vs ρ = some (r, ρ')) (hl : ps.length = ws.length)
    (k : ∀ F' H' w, Step X.K n σ ρ F H ρ' F' H' → (match r with
      | .d x => Rp X.K F' w x
      | .own _ xs => ∃ p us, w = .ref p ∧ H p = none ∧ F' p = none ∧ H' p = some (.lst us) ∧ xs.length ≤ sizeLine ∧ Rps X.K F' us xs
      | .scr _ => False
      | .dic _ => False) → Q w H') (E : XK) : SpF X.K ps.length (G.cf fi) ws H Q E := by
  unfold callD at g
  obtain ⟨as, ha, g⟩ := bind_some g
  split at g
  · rename_i nd
    obtain ⟨⟨r', outs⟩, gc, g⟩ := bind_some g
    obtain ⟨rfl, rfl⟩ := pure_some g
    refine ⟨hl.symm, F, psOf ρ σ vs, as, _, outs, gc, by rw [psOf_len, ← hw.length]; exact Nat.le_of_eq hl.symm, rl.call hw ha nd, fun w F' H' P => k F' H' w (Step.call rl hw ha nd P) P.res⟩
  · cases g
theorem de_call (Fn : FnO X.prog X.w X.K X.mg X.base k f fd ps (SpF X.K ps.length (G.cf fi))) (hgd : X.A.guards = some []) (hr : Room k X.A) (hg : Gl X x) (hm : X.mg x = some (.ref f)) (hk : PySem.W.keepIn X.K (.ref f) = true) (hb : Binds X.K fd ps [])
    (hl : ps.length = (a :: es).length) (hdb : (x == ("__debug__" : Str)) = false) (h1 : starEach (a :: es) X.env = (false, eval a X.env) :: starEach es X.env) (h2 : (backTo pos (starEach es X.env)).any (·.1) = false)
    (ha : DA X (a :: es) (evL G ia)) (hlen : ∀ (ρ ρ' : Slots) (vs : List Vl), evL G ia ρ = some (vs, ρ') → vs.length = (a :: es).length) :
    DE X (.Call (.Name x p) (a :: es) [] pos) (evE G (.call fi ia)) ∧ DO X (.Call (.Name x p) (a :: es) [] pos) (evO G (.call fi ia)) := by
  obtain ⟨ta, pa, qa⟩ := ha
  have pe := po_call (E := E0) (p := p) Fn hgd hr hg hm hk hb pa hdb h1 h2
  constructor
  · refine ⟨_, pe, fun n ρ σ F H v ρ' Q rl g k => ?_⟩
    unfold evE at g
    obtain ⟨⟨vs, ρ1⟩, ga, g⟩ := bind_some g
    obtain ⟨⟨r, ρ2⟩, gc, g⟩ := bind_some g
    obtain ⟨z, gz, g⟩ := bind_some g
    obtain ⟨rfl, rfl⟩ := pure_some g
    refine qa n ρ σ F H vs ρ1 _ rl ga fun F1 H1 ws s1 hv => ?_
    show SpF X.K ps.length (G.cf fi) (ws ++ []) H1 Q E0
    rw [List.append_nil]
    refine call_core s1.rel hv gc (by rw [hl, ← hlen _ _ _ ga]; exact hv.length.symm) (fun F' H' w s2 hres => ?_) E0
    cases r with
    | d y => cases gz; exact k F' H' w (s1.trans s2) hres
    | own b xs =>
      cases gz
      obtain ⟨F2, s3, rp⟩ := shut_own (c := .lst xs) s1.rel s2 hres
      exact k F2 H' w (s1.trans s3) rp
    | scr _ => exact hres.elim
    | dic _ => exact hres.elim
  · refine ⟨_, pe, fun n ρ σ F H xs ρ' Q rl g k => ?_⟩
    unfold evO at g
    obtain ⟨⟨vs, ρ1⟩, ga, g⟩ := bind_some g
    obtain ⟨⟨r, ρ2⟩, gc, g⟩ := bind_some g
    refine qa n ρ σ F H vs ρ1 _ rl ga fun F1 H1 ws s1 hv => ?_
    show SpF X.K ps.length (G.cf fi) (ws ++ []) H1 Q E0
    rw [List.append_nil]
    cases r with
    | d y => cases g
    | scr _ => cases g
    | dic _ => cases g
    | own b ys =>
      obtain ⟨rfl, rfl⟩ := pure_some g
      refine call_core s1.rel hv gc (by rw [hl, ← hlen _ _ _ ga]; exact hv.length.symm) (fun F' H' w s2 hres => ?_) E0
      obtain ⟨p, us, rfl, h1, h2, h3, h4, h5⟩ := hres
      exact k F' H' p us (s1.trans s2) (s1.dom p h1) h2 h3 h4 h5
end
end Ov

set_option maxHeartbeats 2000000
namespace Ov
open PySem PySem.Spec PyProof.Rows L2 Evl
section
variable {X : Cx} {e a b c : Expr} {pos p q : Pos} {G : Cfg} {ia ib ic : IR} {rest es : List Expr} {k k' : Nat} {f f' : Addr} {fd fd' : FuncData} {ps ps' : List Str} {x x' : Str} {fi gi : Nat}
/-- f(g(..)): the new list of g is handed to f to be changed, then forgotten -/
theorem de_callT (Fn : FnO X.prog X.w X.K X.mg X.base k f fd ps (SpF X.K ps.length (G.cf fi))) (hgd : X.A.guards = some []) (hr : Room k X.A) (hg : Gl X x) (hm : X.mg x = some (.ref f)) (hk : PySem.W.keepIn X.K (.ref f) = true) (hb : Binds X.K fd ps []) (hl : ps.length = 1) (hdb : (x == ("__debug__" : Str)) = false)
    (hi : DO X e (evO G (.call gi ia))) (h1 : starEach [e] X.env = [(false, eval e X.env)]) : DE X (.Call (.Name x p) [e] [] pos) (evE G (.callT fi gi ia)) := by
  obtain ⟨t, pe, q⟩ := hi
  refine ⟨_, po_call (E := E0) (p := p) Fn hgd hr hg hm hk hb (pa_cons pe pa_nil h1) hdb h1 rfl, fun n ρ σ F H v ρ' Q rl g k => ?_⟩
  unfold evE at g
  obtain ⟨⟨vs, ρ1⟩, ga, g⟩ := bind_some g
  obtain ⟨⟨r, ρ2⟩, gc, g⟩ := bind_some g
  cases r with
  | d y => cases g
  | scr _ => cases g
  | dic _ => cases g
  | own b ys =>
    obtain ⟨⟨r2, outs⟩, gf, g⟩ := bind_some g
    obtain ⟨z, gz, g⟩ := bind_some g
    obtain ⟨rfl, rfl⟩ := pure_some g
    have go : evO G (.call gi ia) ρ = some (ys, ρ') := by
      simp only [evO, ga, gc, bind, Option.bind, pure]
    refine q n ρ σ F H ys _ _ rl go fun F1 H1 p us s1 h1 h2 h3 h4 h5 => ?_
    show SpF X.K ps.length (G.cf fi) ([.ref p] ++ []) H1 Q E0
    rw [List.append_nil]
    have no := (own_ne rl h1).step s1
    have rel : Rel X.K ⟨F1, H1, [some p]⟩ ([EV.own true ys].map some) ([V.ref p].map some) F1 H1 := by
      refine ⟨s1.rel.sub, rfl, fun i x h => ?_, fun i b x h => ?_, fun i x h => ?_, fun i x h => ?_, fun i j p h1 h2 h3 h4 => ?_, Ex.refl _, fun b o h _ => h, fun b _ h => h, fun i p' h => ?_⟩
      · match i, h with
        | 0, h => cases h
      · match i, h with
        | 0, h =>
          cases h
          exact ⟨p, us, rfl, h3, h2, h4, h5, rfl⟩
      · match i, h with
        | 0, h => cases h
      · match i, h with
        | 0, h => cases h
      · match i, j, h1, h2 with
        | 0, 0, _, _ => rfl
        | 0, j + 1, _, h2 => simp [isOwn] at h2
        | i + 1, _, h1, _ => simp [isOwn] at h1
      · match i, h with
        | 0, h => cases h; exact ⟨rfl, ys, rfl⟩
    refine ⟨by rw [hl]; rfl, F1, [some p], [.own true ys], r2, outs, gf, by rw [hl]; exact Nat.le_refl _, rel, fun w F' H' P => ?_⟩
    have keepN : ∀ b o, H1 b = some o → b ≠ p → H' b = some o := fun b o h ne => P.keep b o h (by simpa using ne)
    have st : Step X.K n σ ρ F H ρ' F' H' := by
      refine ⟨s1.ex.trans P.ex, ⟨P.sub, s1.rel.len, fun i x h => ?_, fun i b x h => ?_, fun i kvs h => ?_, fun i x h => ?_, s1.rel.inj, s1.rel.ex0.trans P.ex, fun b o h q => ?_, fun b h q => ?_, s1.rel.par⟩, fun b o h nb => ?_, s1.ow, fun b h => s1.dom b (P.dom b h)⟩
      · obtain ⟨u, g1, g2⟩ := s1.rel.dat i x h
        exact ⟨u, g1, g2.mono P.ex⟩
      · obtain ⟨p', us', g1, g2, g3, g4, g5, g6⟩ := s1.rel.own i b x h
        have ne : p' ≠ p := fun e => no i (isOwn_iff.mpr ⟨b, x, h⟩) (by rw [g1, e])
        exact ⟨p', us', g1, keepN p' _ g2 ne, P.newF p' (show H1 p' ≠ none by rw [g2]; simp) g3, g4, g5.mono P.ex, g6⟩
      · obtain ⟨p', g1, g2⟩ := s1.rel.dic i kvs h
        exact ⟨p', g1, g2.mono P.ex⟩
      · obtain ⟨p', g1, g2, g3⟩ := s1.rel.scr i x h
        exact ⟨p', g1, ex_l P.ex g2, g3⟩
      · have ne : b ≠ p := fun e => by rw [e, rl.dom h1] at h; cases h
        exact keepN b o (s1.rel.keep b o h q) ne
      · by_cases hb : H1 b = none
        · exact absurd (s1.rel.dom hb) h
        · exact P.newF b hb (s1.rel.newF b h q)
      · have ne : b ≠ p := fun e => by rw [e, h1] at h; cases h
        obtain ⟨f1, f2⟩ := s1.fr b o h nb
        exact ⟨keepN b o f1 ne, fun hf => P.newF b (show H1 b ≠ none by rw [f1]; simp) (f2 hf)⟩
    have res := P.res
    cases r2 with
    | d y => cases gz; exact k F' H' w st res
    | own b xs =>
      cases gz
      obtain ⟨p', us', rfl, r1, r2, r3, r4, r5⟩ := res
      obtain ⟨F2, s3, rp⟩ := shut_own (w := .ref p') (c := .lst xs) rl st ⟨p', us', rfl, s1.dom p' r1, r2, r3, r4, r5⟩
      exact k F2 H' _ s3 rp
    | scr _ => exact res.elim
    | dic _ => exact res.elim
end
end Ov

set_option maxHeartbeats 2000000
namespace Ov
open PySem PySem.Spec PyProof.Rows L2 Evl
/-- the values of keywords -/
def DK (X : Cx) (kws : List Keyword) (f : Slots → Option (List Vl × Slots)) : Prop := ∃ t, PK X kws t ∧ ∀ (n : Ent) (ρ : Slots) (σ : L2.St) (F H : Hp) (vs : List Vl) (ρ' : Slots) (Q : List V → Hp → Prop), Rel X.K n ρ σ F H → f ρ = some (vs, ρ') →
  (∀ F' H' ws, Step X.K n σ ρ F H ρ' F' H' → Paired (VR X.K σ F') ws vs → Q ws H') → t σ H Q
def pickD {α : Type} (o : List Nat) (ws : List α) : List α := (pickAll ws o).getD []
section
variable {X : Cx} {CX : CXT} {k : Nat} {f : Addr} {fd : FuncData} {ps ks : List Str} {sp : Sp} {E : XK} {x : Str} {p pos : Pos} {kws : List Keyword} {tk : TA} {g : List Value → List Value → List Value} {gV : List V → List V → List V} {G : Cfg} {ia ib : IR} {e : Expr} {nm : Option Str} {kpos : Pos}
theorem dk_nil : DK X [] (evL G .nil) :=
  ⟨_, pk_nil, fun n ρ σ F H vs ρ' Q rl g k => by
    simp only [evL] at g
    cases g
    exact k F H [] (Step.refl rl) .nil⟩
theorem dk_cons (ha : DE X e (evE G ia)) (hb : DK X kws (evL G ib)) : DK X (⟨nm, e, kpos⟩ :: kws) (evL G (.cons ia ib)) := by
  obtain ⟨ta, pa, qa⟩ := ha
  obtain ⟨tb, pb, qb⟩ := hb
  refine ⟨_, pk_cons pa pb, fun n ρ σ F H vs ρ' Q rl g k => ?_⟩
  unfold evL at g
  obtain ⟨⟨va, ρ1⟩, ga, g⟩ := bind_some g
  obtain ⟨⟨vb, ρ2⟩, gb, g⟩ := bind_some g
  obtain ⟨rfl, rfl⟩ := pure_some g
  refine qa n ρ σ F H va ρ1 _ rl ga fun F1 H1 w1 s1 v1 => qb n ρ1 σ F1 H1 vb _ _ s1.rel gb fun F2 H2 ws s2 v2 => ?_
  exact k F2 H2 (w1 :: ws) (s1.trans s2) (.cons (v1.mono s2.ex) v2)
end
section
variable {α β : Type} {R : α → β → Prop}
theorem pair_ix : ∀ {xs : List V} {ys : List Vl} {R : V → Vl → Prop} {i : Nat} {x : V}, Paired R xs ys → xs[i]? = some x → ∃ y, ys[i]? = some y ∧ R x y
  | _, _, _, _, _, .nil, h => by simp at h
  | _, _, _, 0, _, .cons r _, h => by simp at h; subst h; exact ⟨_, rfl, r⟩
  | _, _, _, i + 1, x, .cons _ t, h => by
    obtain ⟨y, h1, h2⟩ := pair_ix t (i := i) (x := x) (by simpa using h)
    exact ⟨y, by simpa using h1, h2⟩
theorem pick_pair {R : V → Vl → Prop} {ws : List V} {vs : List Vl} (h : Paired R ws vs) : ∀ {o : List Nat} {us : List Vl}, pickAll vs o = some us → ∃ zs, pickAll ws o = some zs ∧ Paired R zs us
  | [], us, e => by cases e; exact ⟨[], rfl, .nil⟩
  | i :: o, us, e => by
    simp only [pickAll] at e
    obtain ⟨v, hv, e⟩ := bind_some e
    obtain ⟨q, hq, e⟩ := bind_some e
    cases e
    obtain ⟨w, h1, h2⟩ := paired_get h hv
    obtain ⟨zs, h3, h4⟩ := pick_pair h hq
    exact ⟨w :: zs, by simp [pickAll, h1, h3], .cons h2 h4⟩
theorem pick_len {α : Type} {xs : List α} : ∀ {o : List Nat} {ys : List α}, pickAll xs o = some ys → ys.length = o.length
  | [], ys, e => by cases e; rfl
  | i :: o, ys, e => by
    simp only [pickAll] at e
    obtain ⟨v, hv, e⟩ := bind_some e
    obtain ⟨q, hq, e⟩ := bind_some e
    cases e
    simp [pick_len hq]
end
section
variable {X : Cx} {k : Nat} {f : Addr} {fd : FuncData} {ps ks : List Str} {x : Str} {p pos : Pos} {kws : List Keyword} {G : Cfg} {ia : IR} {si fi : Nat} {o : List Nat}
theorem kw_all {env : Env} {pos : Pos} : ∀ {kws : List Keyword}, (kws.all fun q => q.arg.isSome) = true → (backToKw pos (keywordEach kws env)).all (·.1.isSome) = true ∧ (backToKw pos (keywordEach kws env)).any (·.1.isNone) = false ∧
    (backToKw pos (keywordEach kws env)).filterMap (·.1) = kws.filterMap (·.arg)
  | [], _ => ⟨rfl, rfl, rfl⟩
  | ⟨nm, v, q⟩ :: kws, h => by
    simp only [List.all_cons, Bool.and_eq_true] at h
    obtain ⟨h1, h2, h3⟩ := kw_all (env := env) (pos := pos) h.2
    cases nm with
    | none => cases h.1
    | some nm =>
      refine ⟨?_, ?_, ?_⟩
      · show (true && (backToKw pos (keywordEach kws env)).all (·.1.isSome)) = true
        rw [h1]; rfl
      · show (false || (backToKw pos (keywordEach kws env)).any (·.1.isNone)) = false
        rw [h2]; rfl
      · show nm :: (backToKw pos (keywordEach kws env)).filterMap (·.1) = nm :: kws.filterMap (·.arg)
        rw [h3]
theorem de_callK (Fn : FnO X.prog X.w X.K X.mg X.base k f fd ps (SpF X.K ps.length (G.cf fi))) (hgd : X.A.guards = some []) (hr : Room k X.A) (hg : Gl X x) (hm : X.mg x = some (.ref f)) (hk : PySem.W.keepIn X.K (.ref f) = true)
    (hb : KBn X.K fd ps 0 ks (fun _ ws => pickD o ws) (fun _ zs => pickD o zs)) (hl : ps.length = o.length) (hs : G.sh si = some (fi, o)) (hdb : (x == ("__debug__" : Str)) = false)
    (hall : (kws.all fun q => q.arg.isSome) = true) (hks : kws.filterMap (·.arg) = ks)
    (ha : DK X kws (evL G ia)) (hlen : ∀ (ρ ρ' : Slots) (vs : List Vl), evL G ia ρ = some (vs, ρ') → vs.length = ks.length) :
    DE X (.Call (.Name x p) [] kws pos) (evE G (.callK si ia)) := by
  obtain ⟨ta, pa, qa⟩ := ha
  obtain ⟨a1, a2, a3⟩ := kw_all (env := X.env) (pos := pos) hall
  refine ⟨_, po_callK (E := E0) (p := p) Fn hgd hr hg hm hk hb pa a1 (a3.trans hks) hdb (by rw [a2]; rfl), fun n ρ σ F H v ρ' Q rl g k => ?_⟩
  unfold evE at g
  rw [hs] at g
  obtain ⟨⟨f', o'⟩, e, g⟩ := bind_some g
  cases e
  obtain ⟨⟨vs, ρ1⟩, ga, g⟩ := bind_some g
  obtain ⟨us, gu, g⟩ := bind_some g
  obtain ⟨⟨r, ρ2⟩, gc, g⟩ := bind_some g
  obtain ⟨z, gz, g⟩ := bind_some g
  obtain ⟨rfl, rfl⟩ := pure_some g
  refine qa n ρ σ F H vs ρ1 _ rl ga fun F1 H1 ws s1 hv => ⟨by rw [hv.length]; exact hlen _ _ _ ga, ?_⟩
  obtain ⟨zs, hz, hp⟩ := pick_pair hv gu
  show SpF X.K ps.length (G.cf fi) (pickD o ws) H1 Q E0
  have e2 : pickD o ws = zs := by unfold pickD; rw [hz]; rfl
  rw [e2]
  refine call_core s1.rel hp gc (by rw [hl, pick_len hz]) (fun F' H' w s2 hres => ?_) E0
  cases r with
  | d y => cases gz; exact k F' H' w (s1.trans s2) hres
  | own b xs =>
    cases gz
    obtain ⟨F2, s3, rp⟩ := shut_own (c := .lst xs) s1.rel s2 hres
    exact k F2 H' w (s1.trans s3) rp
  | scr _ => exact hres.elim
  | dic _ => exact hres.elim
end
end Ov

set_option maxHeartbeats 2000000
namespace Ov
open PySem PySem.Spec PyProof.Rows L2 Evl
section
variable {K : PySem.W.Frag} {n : Ent} {σ : L2.St} {ρ : Slots} {F H : Hp}
/-- a slot's own list is shut: data from now on -/
theorem Rel.frz (r : Rel K n ρ σ F H) {i : Nat} {xs : List D} {p : Addr} {vs : List V} (hi : ρ[i]? = some (some (.own false xs))) (hs : σ[i]? = some (some (.ref p))) (hp : H p = some (.lst vs)) (hf : F p = none) (hz : xs.length ≤ sizeLine) (hr : Rps K F vs xs) (h0 : n.H0 p = none) :
    Rel K n (ρ.set i (some (.d (.lst xs)))) σ (upd F p (.lst vs)) H where
  sub := fun b o q => by
    by_cases e : b = p
    · subst e; rw [upd_same] at q; cases q; exact hp
    · rw [upd_ne e] at q; exact r.sub b o q
  len := by rw [List.length_set]; exact r.len
  dat := fun j y h => by
    rw [set_get] at h
    by_cases e : i = j
    · subst e
      rw [if_pos rfl] at h
      split at h
      · cases h; exact ⟨_, hs, rp_new_lst hf hz hr⟩
      · cases h
    · rw [if_neg e] at h
      obtain ⟨w, h1, h2⟩ := r.dat j y h
      exact ⟨w, h1, h2.mono (Ex.new hf)⟩
  own := fun j b y h => by
    rw [set_get] at h
    by_cases e : i = j
    · rw [if_pos e] at h; split at h <;> cases h
    · rw [if_neg e] at h
      obtain ⟨q, us, h1, h2, h3, h4, h5, h6⟩ := r.own j b y h
      have ne : q ≠ p := fun z => e (r.inj i j p (isOwn_iff.mpr ⟨_, _, hi⟩) (isOwn_iff.mpr ⟨_, _, h⟩) hs (by rw [h1, z]))
      exact ⟨q, us, h1, h2, by rw [upd_ne ne]; exact h3, h4, h5.mono (Ex.new hf), h6⟩
  dic := fun j y h => by
    rw [set_get] at h
    by_cases e : i = j
    · rw [if_pos e] at h; split at h <;> cases h
    · rw [if_neg e] at h
      obtain ⟨q, h1, h2⟩ := r.dic j y h
      exact ⟨q, h1, h2.mono (Ex.new hf)⟩
  scr := fun j y h => by
    rw [set_get] at h
    by_cases e : i = j
    · rw [if_pos e] at h; split at h <;> cases h
    · rw [if_neg e] at h
      obtain ⟨q, h1, h2, h3⟩ := r.scr j y h
      exact ⟨q, h1, ex_l (Ex.new hf) h2, h3⟩
  inj := fun j l q h1 h2 h3 h4 => by
    rw [set_get] at h1 h2
    by_cases e : i = j
    · rw [if_pos e] at h1; split at h1 <;> cases h1
    · by_cases e' : i = l
      · rw [if_pos e'] at h2; split at h2 <;> cases h2
      · rw [if_neg e] at h1; rw [if_neg e'] at h2
        exact r.inj j l q h1 h2 h3 h4
  ex0 := r.ex0.trans (Ex.new hf)
  keep := r.keep
  newF := fun b h q => by
    have ne : b ≠ p := fun e => h (by rw [e]; exact h0)
    rw [upd_ne ne]; exact r.newF b h q
  par := fun j q h => by
    obtain ⟨h1, ys, h2⟩ := r.par j q h
    have e : i ≠ j := fun e => by rw [← e, hi] at h2; cases h2
    exact ⟨h1, ys, by rw [set_get, if_neg e]; exact h2⟩
/-- a slot's own list is changed -/
theorem Rel.mutO (r : Rel K n ρ σ F H) {i : Nat} {b : Bool} {xs zs : List D} {p : Addr} {us : List V} (hi : ρ[i]? = some (some (.own b xs))) (hs : σ[i]? = some (some (.ref p))) (hz : zs.length ≤ sizeLine) (hr : Rps K F us zs) :
    Rel K n (ρ.set i (some (.own b zs))) σ F (upd H p (.lst us)) := by
  obtain ⟨p', vs, g1, g2, g3, g4, g5, g6⟩ := r.own i b xs hi
  rw [hs] at g1; cases g1
  have li : i < ρ.length := (List.getElem?_eq_some_iff.mp hi).1
  have io : ∀ {j : Nat}, isOwn (ρ.set i (some (.own b zs)))[j]? = true → isOwn ρ[j]? = true := fun {j} h => by
    rw [set_get] at h
    by_cases e : i = j
    · rw [← e, hi]; rfl
    · rw [if_neg e] at h; exact h
  refine ⟨fun c o q => ?_, by rw [List.length_set]; exact r.len, fun j y h => ?_, fun j b2 y h => ?_, fun j y h => ?_, fun j y h => ?_, fun j l q h1 h2 h3 h4 => r.inj j l q (io h1) (io h2) h3 h4, r.ex0, fun c o h q => ?_, r.newF, fun j q h => ?_⟩
  · rw [upd_ne (fun e => by rw [e, g3] at q; cases q)]; exact r.sub c o q
  · rw [set_get] at h
    by_cases e : i = j
    · rw [if_pos e] at h; split at h <;> cases h
    · rw [if_neg e] at h; exact r.dat j y h
  · rw [set_get] at h
    by_cases e : i = j
    · subst e
      rw [if_pos rfl, if_pos li] at h
      cases h
      exact ⟨p, us, hs, upd_same, g3, hz, hr, g6⟩
    · rw [if_neg e] at h
      obtain ⟨q, us', h1, h2, h3, h4, h5, h6⟩ := r.own j b2 y h
      have ne : q ≠ p := fun z => e (r.inj i j p (isOwn_iff.mpr ⟨_, _, hi⟩) (isOwn_iff.mpr ⟨_, _, h⟩) hs (by rw [h1, z]))
      exact ⟨q, us', h1, by rw [upd_ne ne]; exact h2, h3, h4, h5, h6⟩
  · rw [set_get] at h
    by_cases e : i = j
    · rw [if_pos e] at h; split at h <;> cases h
    · rw [if_neg e] at h; exact r.dic j y h
  · rw [set_get] at h
    by_cases e : i = j
    · rw [if_pos e] at h; split at h <;> cases h
    · rw [if_neg e] at h; exact r.scr j y h
  · by_cases e : c = p
    · subst e
      cases b with
      | true => exact absurd (List.mem_of_getElem? g6) q
      | false =>
        have g6 : n.H0 c = none := g6
        rw [g6] at h; cases h
    · rw [upd_ne e]; exact r.keep c o h q
  · obtain ⟨h1, ys, h2⟩ := r.par j q h
    refine ⟨h1, ?_⟩
    rw [set_get]
    by_cases e : i = j
    · subst e
      rw [hi] at h2; cases h2
      exact ⟨zs, by rw [if_pos rfl, if_pos li]⟩
    · exact ⟨ys, by rw [if_neg e]; exact h2⟩
theorem Step.mutO (r : Rel K n ρ σ F H) {i : Nat} {b : Bool} {xs zs : List D} {p : Addr} {us : List V} (hi : ρ[i]? = some (some (.own b xs))) (hs : σ[i]? = some (some (.ref p))) (hz : zs.length ≤ sizeLine) (hr : Rps K F us zs) :
    Step K n σ ρ F H (ρ.set i (some (.own b zs))) F (upd H p (.lst us)) := by
  refine ⟨Ex.refl _, r.mutO hi hs hz hr, fun c o h no => ⟨?_, fun q => q⟩, fun j h => ?_, fun c h => ?_⟩
  · rw [upd_ne (fun e => no i (isOwn_iff.mpr ⟨_, _, hi⟩) (by rw [e]; exact hs))]; exact h
  · rw [set_get] at h
    by_cases e : i = j
    · rw [← e, hi]; rfl
    · rw [if_neg e] at h; exact h
  · by_cases e : c = p
    · rw [e, upd_same] at h; cases h
    · rw [upd_ne e] at h; exact h
end
section
variable {X : Cx} {e a b c : Expr} {pos p q apos : Pos} {G : Cfg} {ia ib ic : IR} {rest es : List Expr} {x : Str}
theorem de_frz {i : Nat} (hN : X.N[i]? = some x) (hv : Vis X.env.scope x) (hd : (x == ("__debug__" : Str)) = false) (hcd : (x == ("__classdict__" : Str)) = false) : DE X (.Name x pos) (evE G (.frz i)) := by
  refine ⟨_, pe_var hN hv hd hcd, fun n ρ σ F H v ρ' Q r g k => ?_⟩
  simp only [evE] at g
  split at g
  · rename_i xs hi
    cases g
    obtain ⟨p, vs, h1, h2, h3, h4, h5, h6⟩ := r.own i false xs hi
    refine ⟨_, h1, k (upd F p (.lst vs)) H _ ⟨Ex.new h3, r.frz hi h1 h2 h3 h4 h5 h6, fun b o hb no => ⟨hb, fun hf => ?_⟩, fun j h => ?_, fun _ h => h⟩ (rp_new_lst h3 h4 h5)⟩
    · have ne : b ≠ p := fun e => no i (isOwn_iff.mpr ⟨_, _, hi⟩) (by rw [e]; exact h1)
      rw [upd_ne ne]; exact hf
    · rw [set_get] at h
      by_cases e : i = j
      · rw [if_pos e] at h; split at h <;> cases h
      · rw [if_neg e] at h; exact h
  · cases g
theorem DN.own (h : DN X e (evE G ia)) (hf : fresh ia = true) : DO X e (evO G ia) := by
  obtain ⟨t, pe, k⟩ := h
  refine ⟨t, pe, fun n ρ σ F H xs ρ' Q r g q => ?_⟩
  have g : (if fresh ia then (do
      match ← evE G ia ρ with
      | (.d (.lst xs), ρ1) => pure (xs, ρ1)
      | _ => none) else none) = some (xs, ρ') := by
    cases ia <;> first | exact g | cases hf
  rw [if_pos hf] at g
  obtain ⟨⟨v, ρ1⟩, ge, g⟩ := bind_some g
  cases v with
  | slot i => cases g
  | d c =>
    cases c with
    | lst ys =>
      obtain ⟨rfl, rfl⟩ := pure_some g
      refine k n ρ σ F H _ _ Q r ge fun F' H' w c s ev nw => ?_
      cases ev
      obtain ⟨p, vs, rfl, h1, h2, h3, h4, h5⟩ := nw
      exact q F' H' p vs s h1 h2 h3 h4 h5
    | _ => cases g
/-! ### methods that change a list -/
def Mu.name : Mu → String
  | .append => "append" | .extend => "extend" | .pop => "pop" | .popAt => "pop" | .insert => "insert"
def MuR (X : Cx) (id : String) (m : Mu) : Prop := ∃ r, MtR X id r ∧ ∀ (F H : Hp) (p : Addr) (vs ws : List V) (ys xs zs : List D) (c : D) (Q : VK), Ex F H → H p = some (.lst vs) → ys.length ≤ sizeLine → Rps X.K F vs ys → Rps X.K F ws xs → muD m ys xs = some (c, zs) →
  (∀ us w, Rps X.K F us zs → zs.length ≤ sizeLine → Rp X.K F w c → Q w (upd H p (.lst us))) → r (.ref p) ws H Q
theorem mur_append : MuR X "list.append" .append := by
  refine ⟨_, mt_append, fun F H p vs ws ys xs zs c Q e hp hz hr hw g k => ?_⟩
  match xs, hw, g with
  | [x], hw, g =>
    cases hw with
    | cons h1 h2 =>
      cases h2
      simp only [muD] at g
      split at g
      · rename_i hl
        cases g
        refine ⟨p, vs, _, rfl, rfl, hp, by rw [hr.length]; exact hl, k _ _ (hr.append (.cons h1 .nil)) (by simp; omega) .non⟩
      · cases g
theorem mur_extend : MuR X "list.extend" .extend := by
  refine ⟨_, mt_extend, fun F H p vs ws ys xs zs c Q e hp hz hr hw g k => ?_⟩
  match xs, hw, g with
  | [.lst us], hw, g =>
    cases hw with
    | cons h1 h2 =>
      cases h2
      simp only [muD] at g
      split at g
      · rename_i hl
        cases g
        cases h1 with
        | lst h3 h4 h5 =>
          refine ⟨p, _, vs, _, rfl, rfl, hp, e _ _ h3, by rw [hr.length, h5.length]; exact hl, k _ _ (hr.append h5) (by rw [List.length_append]; exact hl) .non⟩
      · cases g
theorem mur_popAt : MuR X "list.pop" .popAt := by
  refine ⟨_, mt_popAt, fun F H p vs ws ys xs zs c Q e hp hz hr hw g k => ?_⟩
  match xs, hw, g with
  | [.int i], hw, g =>
    cases hw with
    | cons h1 h2 =>
      cases h2
      cases h1
      simp only [muD] at g
      obtain ⟨j, gj, g⟩ := bind_some g
      obtain ⟨y, gy, g⟩ := bind_some g
      cases g
      rw [ixN_eq] at gj
      obtain ⟨q1, q2, q3, q4⟩ := ixN_seq gj
      obtain ⟨v, hv, rv⟩ := hr.get gy
      have hs : (sizeLine : Int) < 2 ^ 63 := by decide
      refine ⟨p, vs, i, j, v, rfl, rfl, hp, by omega, by omega, by rw [hr.length]; exact q1, hv, k _ _ (hr.eraseIdx j) (by rw [List.length_eraseIdx]; split <;> omega) rv⟩
theorem insert_cut {α : Type} {x : α} : ∀ (xs : List α) (i : Nat), i ≤ xs.length → xs.insertIdx i x = xs.take i ++ [x] ++ xs.drop i
  | [], 0, _ => rfl
  | [], i + 1, h => by simp at h
  | y :: xs, 0, _ => rfl
  | y :: xs, i + 1, h => by
    have := insert_cut (x := x) xs i (by simpa using h)
    show y :: xs.insertIdx i x = _
    rw [this]; rfl
theorem mur_insert : MuR X "list.insert" .insert := by
  refine ⟨_, mt_insert, fun F H p vs ws ys xs zs c Q e hp hz hr hw g k => ?_⟩
  match xs, hw, g with
  | [.int i, x], hw, g =>
    cases hw with
    | cons h1 h2 =>
      cases h2 with
      | cons h3 h4 =>
        cases h4
        cases h1
        simp only [muD] at g
        split at g
        · rename_i hl
          obtain ⟨hl1, hl2, hl3⟩ := hl
          cases g
          have hs : (sizeLine : Int) < 2 ^ 63 := by decide
          have e1 := insert_cut (x := x) ys i.toNat (by omega)
          refine ⟨p, vs, i, _, rfl, rfl, hp, by rw [hr.length]; exact hl1, hl2, by omega, k _ _ ?_ ?_ .non⟩
          · rw [e1]
            exact ((hr.take i.toNat).append (.cons h3 .nil)).append (hr.drop i.toNat)
          · rw [e1, List.length_append, List.length_append, List.length_take, List.length_drop, List.length_singleton]; omega
        · cases g
theorem de_mu {m : Mu} {i : Nat} {id : String} (hm : MuR X id m) (slot : Slot "list" (Str.ofString m.name) id) (hty : typeOf (.builtin id) = pure (.type "method_descriptor"))
    (hN : X.N[i]? = some x) (hv : Vis X.env.scope x) (hd : (x == ("__debug__" : Str)) = false) (hcd : (x == ("__classdict__" : Str)) = false) (ha : DA X (a :: es) (evL G ia))
    (hfew : ((backTo pos (starEach (a :: es) X.env)).all (fun x => !x.1) && (backToKw pos (keywordEach [] X.env)).all (fun x => x.1.isSome)
      && decide ((a :: es).length + ([] : List Keyword).length + (if ([] : List Keyword).isEmpty then 0 else 1) < 30)) = true)
    (hline : (apos.endLine == pos.line) = true) (hs : starEach (a :: es) X.env = (false, eval a X.env) :: starEach es X.env) (hplain : (backTo pos (starEach es X.env)).any (·.1) = false) :
    DE X (.Call (.Attribute (.Name x p) (Str.ofString m.name) apos) (a :: es) [] pos) (evE G (.mu m i ia)) := by
  obtain ⟨ta, pa, qa⟩ := ha
  obtain ⟨r, hr, qr⟩ := hm
  refine ⟨_, pe_bm PySem.F.plainAttrs_list slot hty hr (pe_var hN hv hd hcd) pa rfl hfew hline hs hplain, fun n ρ σ F H v ρ' Q rl g k => ?_⟩
  unfold evE at g
  split at g
  · cases g
  rename_i ho
  have ho : isOwn ρ[i]? = true := by simpa using ho
  obtain ⟨b0, y0, hy0⟩ := isOwn_iff.mp ho
  obtain ⟨p0, us0, g1, g2, _⟩ := rl.own i b0 y0 hy0
  obtain ⟨⟨vs, ρ1⟩, ga, g⟩ := bind_some g
  obtain ⟨xs, gx, g⟩ := bind_some g
  dsimp only at g
  split at g
  · rename_i b ys hi
    obtain ⟨⟨c, zs⟩, gm, g⟩ := bind_some g
    obtain ⟨rfl, rfl⟩ := pure_some g
    refine ⟨_, g1, Or.inl ⟨rfl, _, Or.inl (Or.inl g2)⟩, qa n ρ σ F H vs ρ1 _ rl ga fun F1 H1 ws s1 hv => ?_⟩
    obtain ⟨p1, us1, k1, k2, k3, k4, k5, k6⟩ := s1.rel.own i b ys hi
    rw [g1] at k1; cases k1
    refine qr F1 H1 p0 us1 ws ys xs zs c Q s1.rel.sub k2 k4 k5 (vr_pures hv gx) gm fun us w h1 h2 h3 => ?_
    exact k F1 _ w (s1.trans (Step.mutO s1.rel hi g1 h2 h1)) h3
  · cases g
end
end Ov

set_option maxHeartbeats 2000000
namespace Ov
open PySem PySem.Spec PyProof.Rows L2 Evl
section
variable {K : PySem.W.Frag} {n : Ent} {σ : L2.St} {ρ : Slots} {F H : Hp}
theorem notBox_free (r : Rel K n ρ σ F H) {i : Nat} (h : okSet ρ i = true) : ∀ q, n.ps[i]? ≠ some (some q) := fun q e => by
  obtain ⟨_, xs, hx⟩ := r.par i q e
  simp [okSet, hx, isBox] at h
/-- a slot takes a list of its own -/
theorem Rel.setO (r : Rel K n ρ σ F H) {i : Nat} {p : Addr} {vs : List V} {xs : List D} (hp : H p = some (.lst vs)) (hf : F p = none) (no : NoOwn ρ σ p) (h0 : n.H0 p = none) (hz : xs.length ≤ sizeLine) (hr : Rps K F vs xs) (hq : ∀ q, n.ps[i]? ≠ some (some q)) :
    Rel K n (ρ.set i (some (.own false xs))) (σ.set i (some (.ref p))) F H where
  sub := r.sub
  len := by rw [List.length_set, List.length_set]; exact r.len
  dat := fun j y h => by
    rw [set_get] at h ⊢
    by_cases e : i = j
    · rw [if_pos e] at h; split at h <;> cases h
    · rw [if_neg e] at h ⊢; exact r.dat j y h
  own := fun j b y h => by
    rw [set_get] at h ⊢
    by_cases e : i = j
    · rw [if_pos e] at h ⊢
      rw [← r.len]
      split at h
      · rename_i hl; cases h; rw [if_pos hl]; exact ⟨p, vs, rfl, hp, hf, hz, hr, h0⟩
      · cases h
    · rw [if_neg e] at h ⊢; exact r.own j b y h
  dic := fun j y h => by
    rw [set_get] at h ⊢
    by_cases e : i = j
    · rw [if_pos e] at h; split at h <;> cases h
    · rw [if_neg e] at h ⊢; exact r.dic j y h
  scr := fun j y h => by
    rw [set_get] at h ⊢
    by_cases e : i = j
    · rw [if_pos e] at h; split at h <;> cases h
    · rw [if_neg e] at h ⊢; exact r.scr j y h
  inj := fun j l q h1 h2 h3 h4 => by
    rw [set_get] at h1 h2 h3 h4
    by_cases e : i = j
    · by_cases e' : i = l
      · rw [← e, ← e']
      · rw [if_neg e'] at h2 h4
        rw [if_pos e] at h3
        split at h3
        · cases h3; exact absurd h4 (no l h2)
        · cases h3
    · rw [if_neg e] at h1 h3
      by_cases e' : i = l
      · rw [if_pos e'] at h4
        split at h4
        · cases h4; exact absurd h3 (no j h1)
        · cases h4
      · rw [if_neg e'] at h2 h4
        exact r.inj j l q h1 h2 h3 h4
  ex0 := r.ex0
  keep := r.keep
  newF := r.newF
  par := fun j q h => by
    have e : i ≠ j := fun e => hq q (by rw [e]; exact h)
    rw [set_get, set_get, if_neg e, if_neg e]
    exact r.par j q h
/-- values ready to be stored -/
inductive EVs (K : PySem.W.Frag) (n : Ent) (ρ : Slots) (σ : L2.St) (F H : Hp) : List V → List EV → List Addr → Prop
  | nil : EVs K n ρ σ F H [] [] []
  | d {w : V} {x : D} {ws : List V} {vs : List EV} {ps : List Addr} : Rp K F w x → EVs K n ρ σ F H ws vs ps → EVs K n ρ σ F H (w :: ws) (.d x :: vs) ps
  | o {p : Addr} {us : List V} {xs : List D} {ws : List V} {vs : List EV} {ps : List Addr} : H p = some (.lst us) → F p = none → NoOwn ρ σ p → n.H0 p = none → xs.length ≤ sizeLine → Rps K F us xs → p ∉ ps → EVs K n ρ σ F H ws vs ps →
      EVs K n ρ σ F H (.ref p :: ws) (.own false xs :: vs) (p :: ps)
theorem EVs.len {ws : List V} {vs : List EV} {ps : List Addr} (h : EVs K n ρ σ F H ws vs ps) : ws.length = vs.length := by
  induction h with
  | nil => rfl
  | d _ _ ih => simp [ih]
  | o _ _ _ _ _ _ _ _ ih => simp [ih]
def setSt : L2.St → List (Nat × Bool) → List V → L2.St
  | σ, (i, _) :: fs, w :: ws => setSt (σ.set i (some w)) fs ws
  | σ, _, _ => σ
theorem EVs.mono {F1 H1 : Hp} {σ1 : L2.St} {ρ1 : Slots} {ws : List V} {vs : List EV} {ps : List Addr} (h : EVs K n ρ σ F H ws vs ps) (ex : Ex F F1) (hk : ∀ p ∈ ps, H p ≠ none → H1 p = H p ∧ (F p = none → F1 p = none) ∧ (NoOwn ρ σ p → NoOwn ρ1 σ1 p)) : EVs K n ρ1 σ1 F1 H1 ws vs ps := by
  induction h with
  | nil => exact .nil
  | d h1 _ ih => exact .d (h1.mono ex) (ih hk)
  | o h1 h2 h3 h4 h5 h6 h7 _ ih =>
    obtain ⟨g1, g2, g3⟩ := hk _ (List.mem_cons_self ..) (by rw [h1]; simp)
    exact .o (g1.trans h1) (g2 h2) (g3 h3) h4 h5 (h6.mono ex) h7 (ih fun p hp => hk p (List.mem_cons_of_mem _ hp))
theorem Rel.setAll : ∀ {fs : List (Nat × Bool)} {ws : List V} {vs : List EV} {ps : List Addr} {ρ : Slots} {σ : L2.St}, Rel K n ρ σ F H → EVs K n ρ σ F H ws vs ps → (∀ f ∈ fs, ∀ q, n.ps[f.1]? ≠ some (some q)) → Rel K n (setAll ρ fs vs) (setSt σ fs ws) F H
  | [], ws, vs, ps, ρ, σ, r, _, _ => by
    cases ws <;> cases vs <;> exact r
  | (i, b) :: fs, _, _, _, ρ, σ, r, .nil, _ => r
  | (i, b) :: fs, _, _, _, ρ, σ, r, .d h1 h2, hq => by
    refine Rel.setAll (fs := fs) (ρ := ρ.set i _) (σ := σ.set i _) (r.setD h1 (hq (i, b) (List.mem_cons_self ..))) (h2.mono (Ex.refl _) fun p hp _ => ⟨rfl, fun q => q, fun no j hj => ?_⟩) fun f hf => hq f (List.mem_cons_of_mem _ hf)
    rw [set_get] at hj ⊢
    by_cases e : i = j
    · rw [if_pos e] at hj; split at hj <;> cases hj
    · rw [if_neg e] at hj ⊢; exact no j hj
  | (i, b) :: fs, _, _, _, ρ, σ, r, .o g1 g2 g3 g4 g5 g6 g7 h2, hq => by
    refine Rel.setAll (fs := fs) (ρ := ρ.set i _) (σ := σ.set i _) (r.setO g1 g2 g3 g4 g5 g6 (hq (i, b) (List.mem_cons_self ..))) (h2.mono (Ex.refl _) fun p hp _ => ⟨rfl, fun q => q, fun no j hj => ?_⟩) fun f hf => hq f (List.mem_cons_of_mem _ hf)
    rw [set_get] at hj ⊢
    by_cases e : i = j
    · rw [if_pos e]
      split
      · intro q; cases q; exact g7 hp
      · simp
    · rw [if_neg e] at hj ⊢; exact no j hj
end
/-! ### statements -/
/-- the value that a def hands back -/
def RetR (K : PySem.W.Frag) (n : Ent) (F H : Hp) (w : V) : EV → Prop
  | .d x => Rp K F w x
  | .own _ xs => ∃ p us, w = .ref p ∧ n.H0 p = none ∧ F p = none ∧ H p = some (.lst us) ∧ xs.length ≤ sizeLine ∧ Rps K F us xs
  | .scr _ => False
  | .dic _ => False
def EndOk (K : PySem.W.Frag) (n : Ent) (F : Hp) (D : Ends) : Out → Prop
  | .nx ρ => ∀ σ F' H', Ex F F' → Rel K n ρ σ F' H' → D.nx σ H'
  | .ret v ρ => ∀ σ F' H' w, Ex F F' → Rel K n ρ σ F' H' → RetR K n F' H' w v → D.rt w H'
  | .brk ρ => ∀ σ F' H', Ex F F' → Rel K n ρ σ F' H' → D.bk σ H'
  | .ct ρ => ∀ σ F' H', Ex F F' → Rel K n ρ σ F' H' → D.ct σ H'
theorem EndOk.mono {K : PySem.W.Frag} {n : Ent} {F F1 : Hp} {D : Ends} {o : Out} (e : Ex F F1) (h : EndOk K n F D o) : EndOk K n F1 D o := by
  cases o with
  | nx ρ => exact fun σ F' H' ex => h σ F' H' (e.trans ex)
  | ret v ρ => exact fun σ F' H' w ex => h σ F' H' w (e.trans ex)
  | brk ρ => exact fun σ F' H' ex => h σ F' H' (e.trans ex)
  | ct ρ => exact fun σ F' H' ex => h σ F' H' (e.trans ex)
abbrev SF := Slots → Option Out
def DS (X : Cx) (st : Stmt) (f : SF) : Prop := ∃ t, PS X st t ∧ ∀ (n : Ent) (ρ : Slots) (σ : L2.St) (F H : Hp) (o : Out) (D : Ends), Rel X.K n ρ σ F H → f ρ = some o → EndOk X.K n F D o → t D σ H
def DSs (X : Cx) (sts : List Stmt) (f : SF) : Prop := ∃ t, PSs X sts t ∧ ∀ (n : Ent) (ρ : Slots) (σ : L2.St) (F H : Hp) (o : Out) (D : Ends), Rel X.K n ρ σ F H → f ρ = some o → EndOk X.K n F D o → t D σ H
section
variable {X : Cx} {st : Stmt} {sts rest : List Stmt} {e c : Expr} {pos p q : Pos} {G : Cfg} {ia ib ic : IR} {w i : Nat} {x : Str}
theorem dss_nil : DSs X [] (evS G w .skip) := ⟨_, pss_nil, fun n ρ σ F H o D r g k => by
  simp only [evS] at g; cases g
  exact k σ F H (Ex.refl _) r⟩
theorem dss_cons (h1 : DS X st (evS G w ia)) (h2 : DSs X rest (evS G w ib)) : DSs X (st :: rest) (evS G w (.seq ia ib)) := by
  obtain ⟨t, p1, q1⟩ := h1
  obtain ⟨u, p2, q2⟩ := h2
  refine ⟨_, pss_cons p1 p2, fun n ρ σ F H o D r g k => ?_⟩
  unfold evS at g
  obtain ⟨o1, g1, g⟩ := bind_some g
  refine q1 n ρ σ F H o1 { D with nx := u D } r g1 ?_
  cases o1 with
  | nx ρ1 => exact fun σ1 F1 H1 ex r1 => q2 n ρ1 σ1 F1 H1 o D r1 g (k.mono ex)
  | ret v ρ1 => cases g; exact k
  | brk ρ1 => cases g; exact k
  | ct ρ1 => cases g; exact k
theorem ds_pass : DS X (.Pass pos) (evS G w .skip) := ⟨_, ps_pass, fun n ρ σ F H o D r g k => by
  simp only [evS] at g; cases g
  exact k σ F H (Ex.refl _) r⟩
theorem ds_brk : DS X (.Break pos) (evS G w .brk) := ⟨_, ps_break, fun n ρ σ F H o D r g k => by
  simp only [evS] at g; cases g
  exact k σ F H (Ex.refl _) r⟩
theorem ds_cnt : DS X (.Continue pos) (evS G w .cnt) := ⟨_, ps_continue, fun n ρ σ F H o D r g k => by
  simp only [evS] at g; cases g
  exact k σ F H (Ex.refl _) r⟩
theorem ds_expr (h : DE X e (evE G ia)) (hs : swapsWith e none pos.line X.env = pure false) : DS X (.Expr e pos) (evS G w (.expr ia)) := by
  obtain ⟨t, p1, q1⟩ := h
  refine ⟨_, ps_expr p1 hs, fun n ρ σ F H o D r g k => ?_⟩
  unfold evS at g
  obtain ⟨⟨v, ρ1⟩, g1, g⟩ := bind_some g
  cases g
  exact q1 n ρ σ F H v ρ1 _ r g1 fun F1 H1 w1 s1 v1 => k σ F1 H1 s1.ex s1.rel
theorem ds_ret (h : DE X e (evE G ia)) : DS X (.Return (some e) pos) (evS G w (.ret ia)) := by
  obtain ⟨t, p1, q1⟩ := h
  refine ⟨_, ps_ret p1, fun n ρ σ F H o D r g k => ?_⟩
  unfold evS at g
  obtain ⟨⟨v, ρ1⟩, g1, g⟩ := bind_some g
  obtain ⟨x, gx, g⟩ := bind_some g
  cases g
  exact q1 n ρ σ F H v ρ1 _ r g1 fun F1 H1 w1 s1 v1 => k σ F1 H1 w1 s1.ex s1.rel (v1.pure gx)
theorem ds_retO (h : DO X e (evO G ia)) : DS X (.Return (some e) pos) (evS G w (.retO ia)) := by
  obtain ⟨t, p1, q1⟩ := h
  refine ⟨_, ps_ret p1, fun n ρ σ F H o D r g k => ?_⟩
  unfold evS at g
  obtain ⟨⟨v, ρ1⟩, g1, g⟩ := bind_some g
  cases g
  exact q1 n ρ σ F H v ρ1 _ r g1 fun F1 H1 p vs s1 h1 h2 h3 h4 h5 => k σ F1 H1 _ s1.ex s1.rel ⟨p, vs, rfl, r.dom h1, h2, h3, h4, h5⟩
theorem ds_retV (hN : X.N[i]? = some x) (hv : Vis X.env.scope x) (hd : (x == ("__debug__" : Str)) = false) (hcd : (x == ("__classdict__" : Str)) = false) : DS X (.Return (some (.Name x p)) pos) (evS G w (.retV i)) := by
  refine ⟨_, ps_ret (pe_var hN hv hd hcd), fun n ρ σ F H o D r g k => ?_⟩
  unfold evS at g
  split at g
  · rename_i xs hi
    cases g
    obtain ⟨p, vs, h1, h2, h3, h4, h5, h6⟩ := r.own i false xs hi
    exact ⟨_, h1, k σ F H _ (Ex.refl _) r ⟨p, vs, rfl, h6, h3, h2, h4, h5⟩⟩
  · cases g
theorem ds_retN : DS X (.Return none pos) (evS G w .retN) := ⟨_, ps_retN, fun n ρ σ F H o D r g k => by
  simp only [evS] at g; cases g
  exact k σ F H _ (Ex.refl _) r .non⟩
theorem ds_if {a b : List Stmt} (hc : DT X c (evT G ic)) (ha : DSs X a (evS G w ia)) (hb : DSs X b (evS G w ib)) : DS X (.If c a b pos) (evS G w (.ifS ic ia ib)) := by
  obtain ⟨tc, pc, qc⟩ := hc
  obtain ⟨t, p1, q1⟩ := ha
  obtain ⟨u, p2, q2⟩ := hb
  refine ⟨_, ps_if pc p1 p2, fun n ρ σ F H o D r g k => ?_⟩
  unfold evS at g
  obtain ⟨⟨bv, ρ1⟩, gc, g⟩ := bind_some g
  refine qc n ρ σ F H bv ρ1 _ r gc fun F1 H1 s1 => ?_
  cases bv with
  | true => simp only [if_true] at g ⊢; exact q1 n ρ1 σ F1 H1 o D s1.rel g (k.mono s1.ex)
  | false => simp only [Bool.false_eq_true, if_false] at g ⊢; exact q2 n ρ1 σ F1 H1 o D s1.rel g (k.mono s1.ex)
/-! ### stores -/
theorem all_ok {ρ : Slots} {l : List Nat} (h : l.all (okSet ρ) = true) : ∀ i ∈ l, okSet ρ i = true := fun i hi => List.all_eq_true.mp h i hi
theorem ds_asg {tg : Expr} {pt : Pat} (h : DE X e (evE G ia)) (hg : PG X tg (tOfG X.K pt)) (hps : ∀ {te : TE} {g : TG}, PE X e te → PG X tg g → PS X (.Assign [tg] e pos) (tAsg te g)) : DS X (.Assign [tg] e pos) (evS G w (.asg pt ia)) := by
  obtain ⟨t, p1, q1⟩ := h
  refine ⟨_, hps p1 hg, fun n ρ σ F H o D r g k => ?_⟩
  unfold evS at g
  obtain ⟨⟨v, ρ1⟩, g1, g⟩ := bind_some g
  obtain ⟨x, gx, g⟩ := bind_some g
  split at g
  · rename_i hok
    obtain ⟨ρ2, gb, g⟩ := bind_some g
    cases g
    refine q1 n ρ σ F H v ρ1 _ r g1 fun F1 H1 w1 s1 v1 => ?_
    exact ⟨n, ρ1, F1, x, ρ2, s1.rel, Rg.of (v1.pure gx), gb, fun i hi => notBox_free s1.rel (all_ok hok i hi), fun σ' r' _ => k σ' F1 H1 s1.ex r'⟩
  · cases g
theorem pip_of {o : BOp} : ∀ {op : Operator}, (match o with | .add => op = .Add | .sub => op = .Sub | .mul => op = .Mult | _ => False) → ∃ ti, PIp X op ti ∧ ∀ (i j z : Int) (H : Hp) (Q : VK), opD o (.int i) (.int j) = some (.int z) → Q (.int z) H → ti (.int i) (.int j) H Q := by
  intro op h
  cases o <;> try (cases h; done)
  · cases h
    exact ⟨_, ip_add, fun i j z H Q g q => by cases g; exact ⟨i, j, rfl, rfl, q⟩⟩
  · cases h
    exact ⟨_, ip_sub, fun i j z H Q g q => by cases g; exact ⟨i, j, rfl, rfl, q⟩⟩
  · cases h
    refine ⟨_, (iop_mul : OpR X (inplaceOp .Mult) _), fun i j z H Q g q => ?_⟩
    simp only [opD] at g
    split at g
    · rename_i hs
      cases g
      refine ⟨i, j, rfl, rfl, ?_, q⟩
      simp only [small, Bool.or_eq_true, decide_eq_true_eq] at hs
      exact hs
    · cases g
theorem ds_aug {o : BOp} {op : Operator} {pos' : Pos} (ho : (match o with | .add => op = .Add | .sub => op = .Sub | .mul => op = .Mult | _ => False)) (hN : X.N.Nodup) (hi : X.N[i]? = some x) (hx : Loc X.env.scope x) (hf : X.fn x = true ∨ X.env.scope.names.lookup x = some .local) (h : DE X e (evE G ia)) :
    DS X (.AugAssign (.Name x pos') op e pos) (evS G w (.aug o i ia)) := by
  obtain ⟨ti, hti, hq⟩ := pip_of (X := X) ho
  obtain ⟨t, p1, q1⟩ := h
  refine ⟨_, ps_aug hN hi hx p1 hti hf, fun n ρ σ F H out D r g k => ?_⟩
  unfold evS at g
  split at g
  · rename_i v0 hv
    obtain ⟨⟨v, ρ1⟩, g1, g⟩ := bind_some g
    obtain ⟨y, gy, g⟩ := bind_some g
    obtain ⟨j, gj, g⟩ := bind_some g
    split at g
    · rename_i z hz
      cases g
      obtain ⟨w0, hw, rw0⟩ := r.dat i _ hv
      cases rw0
      refine ⟨_, hw, q1 n ρ σ F H v ρ1 _ r g1 fun F1 H1 w1 s1 v1 => ?_⟩
      cases y <;> cases gj
      cases (v1.look s1.rel gy).int
      exact hq _ _ _ _ _ hz (k _ F1 H1 s1.ex (s1.rel.setD (.int z) (notBox_free r (by simp [okSet, hv, isBox]))))
    · cases g
  · cases g
theorem ds_asgO {y : Expr} (h : DO X e (evO G ia)) (hps : ∀ {te : TE}, PE X e te → PS X (.Assign [y] e pos) (tAsg te (gName i))) : DS X (.Assign [y] e pos) (evS G w (.asgO i ia)) := by
  obtain ⟨t, p1, q1⟩ := h
  refine ⟨_, hps p1, fun n ρ σ F H o D r g k => ?_⟩
  unfold evS at g
  obtain ⟨⟨xs, ρ1⟩, g1, g⟩ := bind_some g
  dsimp only at g
  split at g
  · rename_i hok
    cases g
    refine q1 n ρ σ F H xs ρ1 _ r g1 fun F1 H1 p vs s1 h1 h2 h3 h4 h5 => ?_
    exact k _ F1 H1 s1.ex (s1.rel.setO h3 h2 ((own_ne r h1).step s1) (r.dom h1) h4 h5 (notBox_free s1.rel hok))
  · cases g
theorem ds_setI {k2 : Expr} (ha : ∀ v, assign (.Subscript (.Name x p) k2 q) X.env v = (do
      let ov ← holding [v] (eval (.Name x p) X.env)
      let iv ← holding [v, ov] (eval k2 X.env)
      standAt q
      holding [v, ov, iv] (setItem ov iv v)
      release [v, ov, iv] [])) (he : DE X e (evE G ia)) (hk : DE X k2 (evE G ib)) (hN : X.N[i]? = some x) (hv : Vis X.env.scope x) (hd : (x == ("__debug__" : Str)) = false) (hcd : (x == ("__classdict__" : Str)) = false)
    (hsw : swapsWithSole [.Subscript (.Name x p) k2 q] e pos.line X.env = pure false) (hst : swappedStores [.Subscript (.Name x p) k2 q] e X.env = pure none) : DS X (.Assign [.Subscript (.Name x p) k2 q] e pos) (evS G w (.setI i ib ia)) := by
  obtain ⟨t, p1, q1⟩ := he
  obtain ⟨tk, p2, q2⟩ := hk
  refine ⟨_, ps_asg p1 (pg_sub (pe_var hN hv hd hcd) p2 set_list ha) hsw hst rfl, fun n ρ σ F H o D r g kk => ?_⟩
  unfold evS at g
  obtain ⟨⟨v, ρ1⟩, g1, g⟩ := bind_some g
  obtain ⟨y, gy, g⟩ := bind_some g
  split at g
  · cases g
  rename_i ho
  have ho : isOwn ρ1[i]? = true := by simpa using ho
  obtain ⟨⟨v2, ρ2⟩, g2, g⟩ := bind_some g
  obtain ⟨z, gz, g⟩ := bind_some g
  obtain ⟨m, gm, gg⟩ := bind_some g
  clear g
  split at gg
  · rename_i b xs hi
    obtain ⟨j, gj, gg⟩ := bind_some gg
    cases gg
    refine q1 n ρ σ F H v ρ1 _ r g1 fun F1 H1 w1 s1 v1 => ?_
    obtain ⟨b0, y0, hy0⟩ := isOwn_iff.mp ho
    obtain ⟨p0, us0, h1, h2, _⟩ := s1.rel.own i b0 y0 hy0
    refine ⟨_, h1, q2 n ρ1 σ F1 H1 v2 ρ2 _ s1.rel g2 fun F2 H2 w2 s2 vv2 => ?_⟩
    obtain ⟨p3, us3, k1, k3, k4, k5, k6, _⟩ := s2.rel.own i b xs hi
    rw [h1] at k1; cases k1
    cases z <;> cases gm
    cases (vv2.look s2.rel gz).int
    refine ⟨p0, us3, m, j, rfl, rfl, k3, by rw [k6.length, ← ixN_eq]; exact gj, ?_⟩
    exact kk σ F2 _ (s1.ex.trans s2.ex) (s2.rel.mutO hi h1 (by rw [List.length_set]; exact k5) (k6.set ((v1.pure gy).mono s2.ex) j))
  · cases gg
end
end Ov

set_option maxHeartbeats 2000000
namespace Ov
open PySem PySem.Spec PyProof.Rows L2 Evl
/-! ### x[i], x[j] = (u, v), x a list of this function's -/
section
variable {X : Cx} {G : Cfg} {e k2 k3 : Expr} {ia ib ic : IR} {pos p p' q q' pt : Pos} {x x' : Str} {i w kt : Nat}
def tPut (K : PySem.W.Frag) (f : Slots → Option (Vl × Slots)) (i : Nat) : TG := fun w σ H Q => ∃ n ρ F u ρ', Rel K n ρ σ F H ∧ Rp K F w u ∧ putI f i u ρ = some ρ' ∧ ∀ F' H', Ex F F' → Rel K n ρ' σ F' H' → Q σ H'
theorem dg_put (ha : ∀ v, assign (.Subscript (.Name x p) k2 q) X.env v = (do
      let ov ← holding [v] (eval (.Name x p) X.env)
      let iv ← holding [v, ov] (eval k2 X.env)
      standAt q
      holding [v, ov, iv] (setItem ov iv v)
      release [v, ov, iv] [])) (hk : DE X k2 (evE G ib)) (hN : X.N[i]? = some x) (hv : Vis X.env.scope x) (hd : (x == ("__debug__" : Str)) = false) (hcd : (x == ("__classdict__" : Str)) = false) :
    PG X (.Subscript (.Name x p) k2 q) (tPut X.K (evE G ib) i) := by
  obtain ⟨tk, p2, q2⟩ := hk
  refine PG.imp (pg_sub (pe_var hN hv hd hcd) p2 set_list ha) fun w1 σ H Q h => ?_
  obtain ⟨n, ρ1, F1, u, ρ', r1, hu, g, kk⟩ := h
  unfold putI at g
  split at g
  · cases g
  rename_i ho
  have ho : isOwn ρ1[i]? = true := by simpa using ho
  obtain ⟨⟨v2, ρ2⟩, g2, g⟩ := bind_some g
  obtain ⟨z, gz, g⟩ := bind_some g
  obtain ⟨m, gm, gg⟩ := bind_some g
  clear g
  split at gg
  · rename_i b xs hi
    obtain ⟨j, gj, gg⟩ := bind_some gg
    cases gg
    obtain ⟨b0, y0, hy0⟩ := isOwn_iff.mp ho
    obtain ⟨p0, us0, h1, h2, _⟩ := r1.own i b0 y0 hy0
    refine ⟨_, h1, q2 n ρ1 σ F1 H v2 ρ2 _ r1 g2 fun F2 H2 w2 s2 vv2 => ?_⟩
    obtain ⟨p3, us3, k1, k3, k4, k5, k6, _⟩ := s2.rel.own i b xs hi
    rw [h1] at k1; cases k1
    cases z <;> cases gm
    cases (vv2.look s2.rel gz).int
    refine ⟨p0, us3, m, j, rfl, rfl, k3, by rw [k6.length, ← ixN_eq]; exact gj, ?_⟩
    exact kk F2 _ s2.ex (s2.rel.mutO hi h1 (by rw [List.length_set]; exact k5) (k6.set (hu.mono s2.ex) j))
  · cases gg
theorem ds_swp (hc : X.calm = true) (h1 : PG X (.Subscript (.Name x p) k2 q) (tPut X.K (evE G ib) i)) (h2 : PG X (.Subscript (.Name x' p') k3 q') (tPut X.K (evE G ic) i)) (he : DE X e (evE G ia))
    (hsw : swapsWithSole [.Tuple [.Subscript (.Name x p) k2 q, .Subscript (.Name x' p') k3 q'] kt pt] e pos.line X.env = pure false) (hst : swappedStores [.Tuple [.Subscript (.Name x p) k2 q, .Subscript (.Name x' p') k3 q'] kt pt] e X.env = pure none) :
    DS X (.Assign [.Tuple [.Subscript (.Name x p) k2 q, .Subscript (.Name x' p') k3 q'] kt pt] e pos) (evS G w (.swp i ib ic ia)) := by
  obtain ⟨t, p1, q1⟩ := he
  refine ⟨_, ps_asg p1 (pg_tup hc (pgs_cons h1 (pgs_cons h2 pgs_nil rfl) rfl) rfl rfl) hsw hst rfl, fun n ρ σ F H o D r g kk => ?_⟩
  unfold evS at g
  obtain ⟨⟨v, ρ1⟩, g1, g⟩ := bind_some g
  obtain ⟨y, gy, g⟩ := bind_some g
  obtain ⟨⟨u1, u2⟩, gt, g⟩ := bind_some g
  obtain ⟨ρ2, ga, g⟩ := bind_some g
  obtain ⟨ρ3, gb, g⟩ := bind_some g
  cases g
  refine q1 n ρ σ F H v ρ1 _ r g1 fun F1 H1 w1 s1 v1 => ?_
  have hy := v1.pure gy
  unfold twoD at gt
  split at gt
  · cases gt
    cases hy with
    | tup h1 hcl hz hr =>
      cases hr with
      | cons r1 hr =>
        cases hr with
        | cons r2 hr =>
          cases hr
          refine ⟨_, _, rfl, ex_t s1.rel.sub h1, rfl, _, _, rfl, n, ρ1, F1, _, ρ2, s1.rel, r1, ga, fun F2 H2 e2 q2 => ?_⟩
          refine ⟨_, _, rfl, n, ρ2, F2, _, ρ3, q2, r2.mono e2, gb, fun F3 H3 e3 q3 => ⟨rfl, ?_⟩⟩
          exact kk σ F3 _ (s1.ex.trans (e2.trans e3)) q3
  · cases gt
end
end Ov

set_option maxHeartbeats 2000000
namespace Ov
open PySem PySem.Spec PyProof.Rows L2 Evl
section
variable {X : Cx} {st : Stmt} {sts rest : List Stmt} {e c : Expr} {pos p q : Pos} {G : Cfg} {ia ib ic : IR} {w i : Nat} {x : Str}
theorem forGo_cons {body : D → Slots → Option Out} {d : D} {xs : List D} {ρ : Slots} : forGo body (d :: xs) ρ = (do
    match ← body d ρ with
    | .nx ρ1 => forGo body xs ρ1
    | .ct ρ1 => forGo body xs ρ1
    | .brk ρ1 => pure (.nx ρ1)
    | .ret v ρ1 => pure (.ret v ρ1)) := rfl
theorem ds_for {tg iter : Expr} {pt : Pat} {body : List Stmt} (hpo : PassesOwn (model X.prog X.w) X.A X.env X.xe) (hc : X.calm = true) {ik : ItK} {ita itb : IR} (hi : DI X pt tg iter (evI G ik ita itb)) (hg : PG X tg (tOfG X.K pt)) (hb : DSs X body (evS G w ib))
    (hs : ∀ x, foldedSetIterable iter X.env x = pure x) : DS X (.For tg iter body [] pos) (evS G w (.forS pt ik ita itb ib)) := by
  obtain ⟨wi, pi, qi⟩ := hi
  obtain ⟨tb, pb, qb⟩ := hb
  refine ⟨_, ps_for hpo hc pi hg pb hs, fun n ρ σ F H o D r g k => ?_⟩
  unfold evS at g
  obtain ⟨⟨xs, ρ1⟩, gi, g⟩ := bind_some g
  refine qi n ρ σ F H xs ρ1 _ r gi fun F1 H1 J Gd Y s1 hz wk hG yd => ?_
  have k := k.mono s1.ex
  refine for_it wk (fun i σi Hi => ∃ ρi Fi, Ex F1 Fi ∧ Rel X.K n ρi σi Fi Hi ∧ forGo (fun x ρ => if pt.slots.all (okSet ρ) then (do let ρa ← Pat.bind pt x ρ; evS G w ib ρa) else none) (xs.drop i) ρi = some o) ?_ ?_ ?_ ?_
  · exact ⟨ρ1, F1, Ex.refl _, s1.rel, by simpa using g⟩
  · rintro i σi Hi hi ⟨ρi, Fi, ex, ri, _⟩
    exact hG Hi (ex.trans ri.sub)
  · rintro i x σi Hi H2 hi ⟨ρi, Fi, ex, ri, gg⟩ hy
    obtain ⟨d, hxd, q⟩ := yd i Hi x H2 hi (ex.trans ri.sub) hy
    obtain ⟨F2, al, rp⟩ := q Fi ex ri.sub
    have hdrop : xs.drop i = d :: xs.drop (i + 1) := by
      obtain ⟨hi', e⟩ := List.getElem?_eq_some_iff.mp hxd
      rw [← e]; exact List.drop_eq_getElem_cons hi'
    rw [hdrop, forGo_cons] at gg
    obtain ⟨o1, g1, g2⟩ := bind_some gg
    split at g1
    · rename_i hok
      obtain ⟨ρa, ga, gb⟩ := bind_some g1
      have r2 := ri.al al
      refine ⟨n, ρi, F2, d, ρa, r2, rp, ga, fun j hj => notBox_free ri (all_ok hok j hj), fun σ2 r3 _ => ?_⟩
      refine qb n ρa σ2 F2 H2 o1 _ r3 gb ?_
      have ex2 := ex.trans al.ex
      cases o1 with
      | nx ρ3 => exact fun σ3 F3 H3 e3 r3 => ⟨ρ3, F3, ex2.trans e3, r3, g2⟩
      | ct ρ3 => exact fun σ3 F3 H3 e3 r3 => ⟨ρ3, F3, ex2.trans e3, r3, g2⟩
      | brk ρ3 => cases g2; exact fun σ3 F3 H3 e3 r3 => k σ3 F3 H3 (ex2.trans e3) r3
      | ret v ρ3 => cases g2; exact fun σ3 F3 H3 w3 e3 r3 rr => k σ3 F3 H3 w3 (ex2.trans e3) r3 rr
    · cases g1
  · rintro σi Hi ⟨ρi, Fi, ex, ri, gg⟩
    rw [List.drop_length] at gg
    simp only [forGo, Option.some.injEq] at gg
    subst gg
    exact k σi Fi Hi ex ri
theorem ds_while {body : List Stmt} (hpo : PassesOwn (model X.prog X.w) X.A X.env X.xe) (hc : DT X c (evT G ic)) (hb : DSs X body (evS G w ib)) : DS X (.While c body [] pos) (evS G w (.whS ic ib)) := by
  obtain ⟨tb, pb, qb⟩ := hb
  refine ⟨_, ps_while hpo hc.can pb, fun n ρ σ F H o D r g k => ?_⟩
  unfold evS at g
  refine ⟨fun m σi Hi => ∃ ρi Fi, Ex F Fi ∧ Rel X.K n ρi σi Fi Hi ∧ whGo (evT G ic) (evS G w ib) m ρi = some o, ⟨w, ρ, F, Ex.refl _, r, g⟩, ?_⟩
  rintro m σi Hi ⟨ρi, Fi, ex, ri, gg⟩
  cases m with
  | zero => cases gg
  | succ m =>
    simp only [whGo] at gg
    obtain ⟨⟨b, ρ1⟩, gt, gg⟩ := bind_some gg
    refine ⟨n, ρi, Fi, b, ρ1, ri, gt, fun F1 H1 s1 => ?_⟩
    cases b with
    | false =>
      simp only [Bool.false_eq_true, if_false] at gg ⊢
      cases gg
      exact k σi F1 H1 (ex.trans s1.ex) s1.rel
    | true =>
      simp only [if_true] at gg ⊢
      obtain ⟨o1, g1, g2⟩ := bind_some gg
      refine ⟨fun σ' H' => ∃ ρ' F', Ex F F' ∧ Rel X.K n ρ' σ' F' H' ∧ whGo (evT G ic) (evS G w ib) m ρ' = some o, fun σ' H' h => ⟨m, Nat.lt_succ_self m, h⟩, ?_⟩
      refine qb n ρ1 σi F1 H1 o1 _ s1.rel g1 ?_
      have ex2 := ex.trans s1.ex
      cases o1 with
      | nx ρ3 => exact fun σ3 F3 H3 e3 r3 => ⟨ρ3, F3, ex2.trans e3, r3, g2⟩
      | ct ρ3 => exact fun σ3 F3 H3 e3 r3 => ⟨ρ3, F3, ex2.trans e3, r3, g2⟩
      | brk ρ3 => cases g2; exact fun σ3 F3 H3 e3 r3 => k σ3 F3 H3 (ex2.trans e3) r3
      | ret v ρ3 => cases g2; exact fun σ3 F3 H3 w3 e3 r3 rr => k σ3 F3 H3 w3 (ex2.trans e3) r3 rr
/-! ### a, b = e1, e2 -/
def DPs (X : Cx) (es : List Expr) (f : Slots → Option (List EV × Slots)) : Prop := ∃ t, PA X es t ∧ ∀ (n : Ent) (ρ : Slots) (σ : L2.St) (F H : Hp) (vs : List EV) (ρ' : Slots) (Q : List V → Hp → Prop), Rel X.K n ρ σ F H → f ρ = some (vs, ρ') →
  (∀ F' H' ws ps, Step X.K n σ ρ F H ρ' F' H' → EVs X.K n ρ' σ F' H' ws vs ps → (∀ p ∈ ps, H p = none) → Q ws H') → t σ H Q
theorem dps_nil : DPs X [] (evP G [] .nil) := ⟨_, pa_nil, fun n ρ σ F H vs ρ' Q rl g k => by
  simp only [evP] at g
  cases g
  exact k F H [] [] (Step.refl rl) .nil (fun _ h => by cases h)⟩
theorem dps_d {a : Expr} {es : List Expr} {fs : List (Nat × Bool)} (ha : DE X a (evE G ia)) (hb : DPs X es (evP G fs ib)) (hs : starEach (a :: es) X.env = (false, eval a X.env) :: starEach es X.env) : DPs X (a :: es) (evP G ((i, false) :: fs) (.cons ia ib)) := by
  obtain ⟨ta, pa, qa⟩ := ha
  obtain ⟨tb, pb, qb⟩ := hb
  refine ⟨_, pa_cons pa pb hs, fun n ρ σ F H vs ρ' Q rl g k => ?_⟩
  unfold evP at g
  obtain ⟨⟨va, ρ1⟩, ga, g⟩ := bind_some g
  obtain ⟨x, gx, g⟩ := bind_some g
  obtain ⟨⟨vb, ρ2⟩, gb, g⟩ := bind_some g
  obtain ⟨rfl, rfl⟩ := pure_some g
  refine qa n ρ σ F H va ρ1 _ rl ga fun F1 H1 w1 s1 v1 => qb n ρ1 σ F1 H1 vb _ _ s1.rel gb fun F2 H2 ws ps s2 hv hp => ?_
  exact k F2 H2 (w1 :: ws) ps (s1.trans s2) (.d ((v1.pure gx).mono s2.ex) hv) fun p h => s1.dom p (hp p h)
theorem dps_o {a : Expr} {es : List Expr} {fs : List (Nat × Bool)} (ha : DO X a (evO G ia)) (hb : DPs X es (evP G fs ib)) (hs : starEach (a :: es) X.env = (false, eval a X.env) :: starEach es X.env) : DPs X (a :: es) (evP G ((i, true) :: fs) (.cons ia ib)) := by
  obtain ⟨ta, pa, qa⟩ := ha
  obtain ⟨tb, pb, qb⟩ := hb
  refine ⟨_, pa_cons pa pb hs, fun n ρ σ F H vs ρ' Q rl g k => ?_⟩
  unfold evP at g
  obtain ⟨⟨xs, ρ1⟩, ga, g⟩ := bind_some g
  obtain ⟨⟨vb, ρ2⟩, gb, g⟩ := bind_some g
  obtain ⟨rfl, rfl⟩ := pure_some g
  refine qa n ρ σ F H xs ρ1 _ rl ga fun F1 H1 p us s1 h1 h2 h3 h4 h5 => qb n ρ1 σ F1 H1 vb _ _ s1.rel gb fun F2 H2 ws ps s2 hv hp => ?_
  have no := (own_ne rl h1).step s1
  have f2 := s2.fr p _ h3 no
  refine k F2 H2 (.ref p :: ws) (p :: ps) (s1.trans s2) (.o f2.1 (f2.2 h2) (no.step s2) (rl.dom h1) h4 (h5.mono s2.ex) (fun hm => ?_) hv) fun q h => ?_
  · have := hp p hm
    rw [this] at h3; cases h3
  · rcases List.mem_cons.mp h with e | h
    · rw [e]; exact h1
    · exact s1.dom q (hp q h)
/-- the names' own targets -/
def gNames : List (Nat × Bool) → TGs
  | [] => gNil
  | (i, _) :: fs => gCons (gName i) (gNames fs)
theorem gNames_set : ∀ {fs : List (Nat × Bool)} {ws : List V} {σ : L2.St} {H : Hp} {Q : L2.St → Hp → Prop}, ws.length = fs.length → Q (setSt σ fs ws) H → gNames fs ws σ H Q
  | [], [], σ, H, Q, _, q => ⟨rfl, q⟩
  | (i, b) :: fs, w :: ws, σ, H, Q, hl, q => ⟨w, ws, rfl, gNames_set (by simpa using hl) q⟩
  | [], _ :: _, _, _, _, hl, _ => by cases hl
  | _ :: _, [], _, _, _, hl, _ => by cases hl
theorem evP_len : ∀ (fs : List (Nat × Bool)) {ir : IR} {ρ ρ' : Slots} {vs : List EV}, evP G fs ir ρ = some (vs, ρ') → vs.length = fs.length
  | [], ir, ρ, ρ', vs, h => by
    cases ir <;> first
      | (simp [evP] at h; done)
      | (simp only [evP] at h; cases h; rfl)
  | (i, b) :: fs, ir, ρ, ρ', vs, h => by
    cases ir with
    | cons a c =>
      cases b with
      | true =>
        unfold evP at h
        obtain ⟨⟨xs, ρ1⟩, ga, g⟩ := bind_some h
        obtain ⟨⟨vb, ρ2⟩, gb, g⟩ := bind_some g
        obtain ⟨rfl, rfl⟩ := pure_some g
        simp [evP_len fs gb]
      | false =>
        unfold evP at h
        obtain ⟨⟨va, ρ1⟩, ga, g⟩ := bind_some h
        obtain ⟨x, gx, g⟩ := bind_some g
        obtain ⟨⟨vb, ρ2⟩, gb, g⟩ := bind_some g
        obtain ⟨rfl, rfl⟩ := pure_some g
        simp [evP_len fs gb]
    | _ => cases b <;> (simp [evP] at h)
theorem ds_par {tgs es : List Expr} {fs : List (Nat × Bool)} {k1 k2 : Nat} (h : DPs X es (evP G fs ia)) (hl : es.length = fs.length)
    (hps : ∀ {ta : TA}, PA X es ta → ∃ t, PS X (.Assign [.Tuple tgs k1 p] (.Tuple es k2 q) pos) t ∧ ∀ D σ H, (ta σ H fun ws H1 => ws.length ≤ sizeLine ∧ ws.length = fs.length ∧ ∀ H2, (H2 = H1 ∨ ∃ p, H1 p = none ∧ H2 = upd H1 p (.tup ws)) → D.nx (setSt σ fs ws) H2) → t D σ H) (hz : fs.length ≤ sizeLine) :
    DS X (.Assign [.Tuple tgs k1 p] (.Tuple es k2 q) pos) (evS G w (.par fs ia)) := by
  obtain ⟨ta, pa, qa⟩ := h
  obtain ⟨t, ps, qs⟩ := hps pa
  refine ⟨t, ps, fun n ρ σ F H o D r g k => ?_⟩
  unfold evS at g
  obtain ⟨⟨vs, ρ1⟩, ga, g⟩ := bind_some g
  dsimp only at g
  split at g
  · rename_i hok
    cases g
    refine qs D σ H (qa n ρ σ F H vs ρ1 _ r ga fun F1 H1 ws ps s1 hv hp => ?_)
    have hlen : ws.length = fs.length := by rw [hv.len]; exact evP_len fs ga
    refine ⟨by omega, hlen, fun H2 h2 => ?_⟩
    have hq : ∀ f ∈ fs, ∀ q, n.ps[f.1]? ≠ some (some q) := fun f hf => notBox_free s1.rel (List.all_eq_true.mp hok f hf)
    rcases h2 with rfl | ⟨p2, hp2, rfl⟩
    · exact k _ F1 _ s1.ex (Rel.setAll s1.rel hv hq)
    · have al := Al.own (o := .tup ws) s1.rel.sub hp2
      refine k _ F1 _ s1.ex (Rel.setAll (s1.rel.al al) (hv.mono (Ex.refl _) fun p hp hn => ⟨?_, fun q => q, fun no => no⟩) hq)
      rw [upd_ne (fun e => hn (by rw [e]; exact hp2))]
  · cases g
end
end Ov

set_option maxHeartbeats 2000000
namespace Ov
open PySem PySem.Spec PyProof.Rows L2 Evl
/-- how the stores of a, b = x, y go: none: not served; some none: plainly; some names: from the right -/
def swapN (sc : Scope) (ts vs : List Expr) : Option (Option (List Str)) :=
  if !(ts.length == 2 || ts.length == 3) || vs.length != ts.length then some none else
  if vs.any fun | .Starred .. => true | _ => false then some none else
  let line := (ts.head?.map (·.pos.line)).getD 0
  let names := ts.filterMap fun
    | .Name id pos => if (sc.names.lookup id == some .local && pos.line == line) then some id else none
    | _ => none
  if names.length != ts.length || names.eraseDups.length != names.length then some none else
  if vs.all (foldedForSure 8) then some none else
  if vs.all (constantsAlone 8) then none else some (some names)
theorem swapN_eq {env : Env} {ts vs : List Expr} {k k2 : Nat} {p q : Pos} {r : Option (List Str)} (hk : env.scope.kind = .function) (h : swapN env.scope ts vs = some r) : swappedStores [.Tuple ts k p] (.Tuple vs k2 q) env = pure r := by
  have hb : env.blockKind = .function := by unfold Env.blockKind; rw [hk]; rfl
  have hb2 : (env.blockKind != .function) = false := by rw [hb]; rfl
  unfold swapN at h
  unfold swappedStores
  dsimp only
  unfold Env.kindOf
  rw [hb2, Bool.or_false]
  split at h
  · rename_i c; cases h; exact if_pos c
  · rename_i c
    refine (if_neg c).trans ?_
    split at h
    · rename_i c2; cases h; exact if_pos c2
    · rename_i c2
      refine (if_neg c2).trans ?_
      dsimp only at h
      split at h
      · rename_i c3; cases h; exact if_pos c3
      · rename_i c3
        refine (if_neg c3).trans ?_
        split at h
        · rename_i c4; cases h; exact if_pos c4
        · rename_i c4
          refine (if_neg c4).trans ?_
          split at h
          · cases h
          · rename_i c5; cases h; exact if_neg c5
section
variable {X : Cx} {st : Stmt} {sts rest : List Stmt} {e c : Expr} {pos p q : Pos} {G : Cfg} {ia ib ic : IR} {w i : Nat} {x : Str}
theorem ds_parP {tgs es : List Expr} {fs : List (Nat × Bool)} {k1 k2 : Nat} (h : DPs X es (evP G fs ia)) (hc : X.calm = true) (hg : PGs X tgs (gNames fs)) (hn : (assignEach tgs X.env).length = fs.length) (hst : (assignEach tgs X.env).findIdx? (·.1) = none)
    (hw : swappedStores [.Tuple tgs k1 p] (.Tuple es k2 q) X.env = pure none) (hz : fs.length ≤ sizeLine) : DS X (.Assign [.Tuple tgs k1 p] (.Tuple es k2 q) pos) (evS G w (.par fs ia)) := by
  obtain ⟨ta, pa, qa⟩ := h
  refine ⟨_, ps_asg (pe_tup pa) (pg_tup hc hg hn hst) rfl hw rfl, fun n ρ σ F H o D r g k => ?_⟩
  unfold evS at g
  obtain ⟨⟨vs, ρ1⟩, ga, g⟩ := bind_some g
  dsimp only at g
  split at g
  · rename_i hok
    cases g
    refine qa n ρ σ F H vs ρ1 _ r ga fun F1 H1 ws ps s1 hv hp => ?_
    have hlen : ws.length = fs.length := by rw [hv.len]; exact evP_len fs ga
    have hq : ∀ f ∈ fs, ∀ q, n.ps[f.1]? ≠ some (some q) := fun f hf => notBox_free s1.rel (List.all_eq_true.mp hok f hf)
    refine ⟨by omega, fun p2 hp2 => ⟨p2, ws, rfl, Or.inl (Or.inl upd_same), hlen, gNames_set hlen ?_⟩⟩
    have al := Al.own (o := .tup ws) s1.rel.sub hp2
    refine k _ F1 _ s1.ex (Rel.setAll (s1.rel.al al) (hv.mono (Ex.refl _) fun p hp hn => ⟨?_, fun q => q, fun no => no⟩) hq)
    rw [upd_ne (fun e => hn (by rw [e]; exact hp2))]
  · cases g
/-- by a statement's own rule, the tuple not tracked -/
theorem ds_parS {tgs es : List Expr} {fs : List (Nat × Bool)} {k1 k2 : Nat} (h : DPs X es (evP G fs ia)) (hps : ∀ {ta : TA}, PA X es ta → PS X (.Assign [.Tuple tgs k1 p] (.Tuple es k2 q) pos) (fun D σ H => ta σ H fun ws H1 => ws.length = fs.length ∧ D.nx (setSt σ fs ws) H1)) :
    DS X (.Assign [.Tuple tgs k1 p] (.Tuple es k2 q) pos) (evS G w (.par fs ia)) := by
  obtain ⟨ta, pa, qa⟩ := h
  refine ⟨_, hps pa, fun n ρ σ F H o D r g k => ?_⟩
  unfold evS at g
  obtain ⟨⟨vs, ρ1⟩, ga, g⟩ := bind_some g
  dsimp only at g
  split at g
  · rename_i hok
    cases g
    refine qa n ρ σ F H vs ρ1 _ r ga fun F1 H1 ws ps s1 hv hp => ?_
    have hlen : ws.length = fs.length := by rw [hv.len]; exact evP_len fs ga
    have hq : ∀ f ∈ fs, ∀ q, n.ps[f.1]? ≠ some (some q) := fun f hf => notBox_free s1.rel (List.all_eq_true.mp hok f hf)
    exact ⟨hlen, k _ F1 _ s1.ex (Rel.setAll s1.rel hv hq)⟩
  · cases g
theorem PS.imp {t u : TS} (h : PS X st t) (i : ∀ D σ H, u D σ H → t D σ H) : PS X st u := ⟨fun pins s σ H D I q => h.run pins s σ H D I (i D σ H q)⟩
end
end Ov

set_option maxHeartbeats 2000000
namespace Ov
open PySem PySem.Spec PyProof.Rows L2 Evl
section
variable {X : Cx} {G : Cfg}
/-- some names, read one behind another -/
inductive VarsOk (X : Cx) : List Nat → List Expr → Prop
  | nil : VarsOk X [] []
  | cons {j : Nat} {js : List Nat} {x : Str} {p : Pos} {es : List Expr} : X.N[j]? = some x → Vis X.env.scope x → (x == ("__debug__" : Str)) = false → (x == ("__classdict__" : Str)) = false → VarsOk X js es → VarsOk X (j :: js) (.Name x p :: es)
theorem pa_vars : ∀ {js : List Nat} {es : List Expr}, VarsOk X js es → ∃ t, PA X es t ∧ ∀ (σ : L2.St) (H : Hp) (Q : List V → Hp → Prop) (ws : List V), Paired (fun w j => σ[j]? = some (some w)) ws js → Q ws H → t σ H Q
  | _, _, .nil => ⟨_, pa_nil, fun σ H Q ws h q => by cases h; exact q⟩
  | _, _, .cons h1 h2 h3 h4 r => by
    obtain ⟨t, p, k⟩ := pa_vars r
    refine ⟨_, pa_cons (pe_var h1 h2 h3 h4) p rfl, fun σ H Q ws h q => ?_⟩
    cases h with
    | cons a b => exact ⟨_, a, k σ H _ _ b q⟩
theorem slots_rel {K : PySem.W.Frag} {n : Ent} {ρ : Slots} {σ : L2.St} {F H : Hp} (r : Rel K n ρ σ F H) : ∀ {js : List Nat} {zs : List D}, slotsD ρ js = some zs → ∃ ws, Paired (fun w j => σ[j]? = some (some w)) ws js ∧ Rps K F ws zs
  | [], zs, e => by cases e; exact ⟨[], .nil, .nil⟩
  | j :: js, zs, e => by
    simp only [slotsD] at e
    split at e
    · rename_i x hx
      cases q : slotsD ρ js with
      | none => rw [q] at e; cases e
      | some r' =>
        rw [q] at e; cases e
        obtain ⟨ws, h1, h2⟩ := slots_rel r q
        obtain ⟨w, h3, h4⟩ := r.dat j x hx
        exact ⟨w :: ws, .cons h3 h1, .cons h4 h2⟩
    · cases e
theorem upd_none {H : Hp} {p : Addr} {o : HO} {b : Addr} (h : upd H p o b = none) : b ≠ p ∧ H b = none := by
  by_cases e : b = p
  · rw [e, upd_same] at h; cases h
  · rw [upd_ne e] at h; exact ⟨e, h⟩
/-- back behind the test: what was shut for it stands open again -/
theorem Rel.open_ {K : PySem.W.Frag} {n : Ent} {ρ : Slots} {σ : L2.St} {F H H' : Hp} {i : Nat} {w : V} {p0 : Addr} (r : Rel K n ρ σ F H) (hk : ∀ b o, H b = some o → b ≠ p0 → H' b = some o) (hf : F p0 = none) (hn : n.H0 p0 = none) (no : NoOwn ρ σ p0) (hi : ∀ q, n.ps[i]? ≠ some (some q)) :
    Rel K n (ρ.set i none) (σ.set i (some w)) F H' := by
  have ne : ∀ {j : Nat} {e : EV}, (ρ.set i none)[j]? = some (some e) → i ≠ j ∧ ρ[j]? = some (some e) := fun {j e} h => by
    rw [List.getElem?_set] at h
    split at h
    · split at h <;> cases h
    · exact ⟨by assumption, h⟩
  have st : ∀ {j : Nat}, i ≠ j → (σ.set i (some w))[j]? = σ[j]? := fun h => by rw [List.getElem?_set_ne h]
  have ow : ∀ {j : Nat}, isOwn (ρ.set i none)[j]? = true → i ≠ j ∧ isOwn ρ[j]? = true := fun {j} h => by
    obtain ⟨b, xs, hx⟩ := isOwn_iff.mp h
    obtain ⟨h1, h2⟩ := ne hx
    exact ⟨h1, isOwn_iff.mpr ⟨b, xs, h2⟩⟩
  refine ⟨fun b o h => hk b o (r.sub b o h) (fun e => by rw [e, hf] at h; cases h), by rw [List.length_set, List.length_set]; exact r.len, fun j x h => ?_, fun j b xs h => ?_, fun j kvs h => ?_, fun j ns h => ?_, fun j l p h1 h2 h3 h4 => ?_, r.ex0, fun b o h q => ?_, r.newF, fun j p h => ?_⟩
  · obtain ⟨h1, h2⟩ := ne h
    rw [st h1]; exact r.dat j x h2
  · obtain ⟨h1, h2⟩ := ne h
    rw [st h1]
    obtain ⟨p, vs, g1, g2, g3, g4, g5, g6⟩ := r.own j b xs h2
    refine ⟨p, vs, g1, hk p _ g2 (fun e => ?_), g3, g4, g5, g6⟩
    exact no j (isOwn_iff.mpr ⟨b, xs, h2⟩) (by rw [g1, e])
  · obtain ⟨h1, h2⟩ := ne h
    rw [st h1]; exact r.dic j kvs h2
  · obtain ⟨h1, h2⟩ := ne h
    rw [st h1]; exact r.scr j ns h2
  · obtain ⟨a1, a2⟩ := ow h1
    obtain ⟨b1, b2⟩ := ow h2
    rw [st a1] at h3
    rw [st b1] at h4
    exact r.inj j l p a2 b2 h3 h4
  · exact hk b o (r.keep b o h q) (fun e => by rw [e, hn] at h; cases h)
  · have hj : i ≠ j := fun e => hi p (by rw [e]; exact h)
    obtain ⟨h1, xs, h2⟩ := r.par j p h
    refine ⟨by rw [st hj]; exact h1, xs, ?_⟩
    rw [List.getElem?_set_ne hj]; exact h2
end
section
variable {X : Cx} {G : Cfg} {w k i fi : Nat} {f : Addr} {fd : FuncData} {ps : List Str} {x g : Str} {e0 y : Expr} {es vs : List Expr} {ia ir ib : IR} {js : List Nat} {lp lp2 pos p2 gp cp np ip px3 q0 sp ap q1 cp3 ep : Pos} {body rest : List Stmt} {m : Str} {j0 j1 : Nat}
theorem dss_prb (hps : ∀ {te : TE}, PE X (.List (e0 :: es) lp) te → PS X (.Assign [y] (.List (e0 :: es) lp) pos) (tAsg te (gName i))) (ha : DO X e0 (evO G ia)) (hr : DA X es (evL G ir)) (hs0 : starEach (e0 :: es) X.env = (false, eval e0 X.env) :: starEach es X.env)
    (Fn : FnO X.prog X.w X.K X.mg X.base k f fd ps (SpF X.K ps.length (G.cf fi))) (hgd : X.A.guards = some []) (hrm : Room k X.A) (hg : Gl X g) (hm : X.mg g = some (.ref f)) (hk : PySem.W.keepIn X.K (.ref f) = true) (hb : Binds X.K fd ps []) (hl : ps.length = 2) (hdb : (g == ("__debug__" : Str)) = false)
    (hN : X.N[i]? = some x) (hv : Vis X.env.scope x) (hd : (x == ("__debug__" : Str)) = false) (hcd : (x == ("__classdict__" : Str)) = false) (hjs : VarsOk X js vs) (hap : (ap.endLine == cp3.line) = true) (hrest : DSs X rest (evS G w ib)) :
    DSs X (.Assign [y] (.List (e0 :: es) lp) pos :: .If (.UnaryOp .Not (.Call (.Name g gp) [.Name x p2, .List vs lp2] [] cp) np) body [] ip :: .Expr (.Call (.Attribute (.Subscript (.Name x px3) (.Constant (.int 0) j0 q0) sp) "append" ap) [.Constant (.str m) j1 q1] [] cp3) ep :: rest)
      (evS G w (.seq (.prb i ia ir fi js) ib)) := by
  obtain ⟨ta, pa, qa⟩ := ha
  obtain ⟨tr, pr, qr⟩ := hr
  obtain ⟨tv, pv, qv⟩ := pa_vars hjs
  obtain ⟨tu, pu, qu⟩ := hrest
  have P1 := hps (pe_lst (pos := lp) (pa_cons pa pr hs0))
  have P2 : PS X (.If (.UnaryOp .Not (.Call (.Name g gp) [.Name x p2, .List vs lp2] [] cp) np) body [] ip) _ :=
    ps_if (t := fun _ _ _ => False) (pt_not (pt_val (po_call (E := E0) Fn hgd hrm hg hm hk hb (pa_cons (pe_var hN hv hd hcd) (pa_cons (pe_lst pv) pa_nil rfl) rfl) hdb rfl rfl))) ⟨fun _ _ _ _ _ _ z => z.elim⟩ pss_nil
  have P3 : PS X (.Expr (.Call (.Attribute (.Subscript (.Name x px3) (.Constant (.int 0) j0 q0) sp) "append" ap) [.Constant (.str m) j1 q1] [] cp3) ep) _ :=
    ps_expr (pe_bm PySem.F.plainAttrs_list PySem.F.slot_list_append PySem.F.type_list_append mt_append (pe_ix ix_seq (pe_var hN hv hd hcd) pe_int (fun _ _ => rfl)) (pa_cons pe_str pa_nil rfl) rfl rfl hap rfl rfl)
  refine ⟨_, pss_cons P1 (pss_cons P2 (pss_cons P3 pu)), fun n ρ σ F H o D rl g kk => ?_⟩
  unfold evS at g
  obtain ⟨o1, g1, g⟩ := bind_some g
  unfold evS at g1
  obtain ⟨⟨xs, ρ1⟩, gx, g1⟩ := bind_some g1
  obtain ⟨⟨vv, ρ2⟩, gv, g1⟩ := bind_some g1
  obtain ⟨ys, gy, g1⟩ := bind_some g1
  split at g1
  · rename_i hc
    obtain ⟨c1, c2, c3, c4, c5⟩ := hc
    obtain ⟨zs, gz, g1⟩ := bind_some g1
    obtain ⟨⟨q, outs⟩, gq, g1⟩ := bind_some g1
    dsimp only at g1
    split at g1
    · rename_i hq
      cases g1
      have hq : q = .d (.bl true) := by
        cases q with
        | d z =>
          cases z with
          | bl b => cases b <;> first | rfl | (simp [isTrueD] at hq)
          | _ => simp [isTrueD] at hq
        | own b z => simp [isTrueD] at hq
        | scr z => simp [isTrueD] at hq
        | dic z => simp [isTrueD] at hq
      subst hq
      refine qa n ρ σ F H xs ρ1 _ rl gx fun F1 H1 p0 us s1 h1 h2 h3 h4 h5 => ?_
      refine qr n ρ1 σ F1 H1 vv ρ2 _ s1.rel gv fun F2 H2 ws s2 hw => ?_
      have no0 : NoOwn ρ1 σ p0 := (own_ne rl h1).step s1
      have no2 : NoOwn ρ2 σ p0 := no0.step s2
      obtain ⟨k3, k2⟩ := s2.fr p0 _ h3 no0
      have k2 := k2 h2
      have rs := vr_pures hw gy
      refine ⟨by show ws.length + 1 ≤ sizeLine; rw [rs.length]; exact c1, fun p hp => ?_⟩
      have hn0 : n.H0 p0 = none := rl.dom h1
      have hnp : n.H0 p = none := s2.rel.dom hp
      have hpp : p ≠ p0 := fun e => by rw [e, k3] at hp; cases hp
      have hi : ∀ q, n.ps[i]? ≠ some (some q) := notBox_free s2.rel c4
      -- shut for the test
      have r1 : Rel X.K n ρ2 σ F2 (upd H2 p (.lst (.ref p0 :: ws))) := s2.rel.al (Al.own s2.rel.sub hp)
      have r2 := r1.shut (p := p0) (by rw [upd_ne (Ne.symm hpp)]; exact k3) k2 no2 hn0
      have e2 : Rp X.K (upd F2 p0 (.lst us)) (.ref p0) (.lst xs) := rp_new_lst k2 (Nat.le_of_lt c2) (h5.mono s2.ex)
      have fp : upd F2 p0 (.lst us) p = none := by rw [upd_ne hpp]; exact Ov.Ex.none s2.rel.sub hp
      have r3 := r2.shut (p := p) upd_same fp (own_ne s2.rel hp) hnp
      have hcx : Rp X.K (upd (upd F2 p0 (.lst us)) p (.lst (.ref p0 :: ws))) (.ref p) (.lst (.lst xs :: ys)) := rp_new_lst fp c1 (.cons e2 (rs.mono (Ex.new k2)))
      have r4 := r3.setD hcx hi
      obtain ⟨wz, hz1, hz2⟩ := slots_rel r4 gz
      have hlen : i < σ.length := by rw [← s2.rel.len]; exact c5
      have hsi : (σ.set i (some (.ref p)))[i]? = some (some (.ref p)) := List.getElem?_set_self hlen
      refine ⟨_, hsi, qv _ _ _ wz hz1 ⟨by rw [hz1.length]; exact c3, fun p3 hp3 => ?_⟩⟩
      have hzl : zs.length ≤ sizeLine := by rw [← hz2.length, hz1.length]; exact c3
      have r5 := r4.al (Al.one (o := .lst wz) r4.sub hp3)
      have f3 := Ov.Ex.none r4.sub hp3
      have hcall : Paired (VR X.K (σ.set i (some (.ref p))) (upd (upd (upd F2 p0 (.lst us)) p (.lst (.ref p0 :: ws))) p3 (.lst wz))) [V.ref p, V.ref p3] [Vl.d (.lst (.lst xs :: ys)), Vl.d (.lst zs)] :=
        .cons (show Rp _ _ _ _ from hcx.mono (Ex.new f3)) (.cons (show Rp _ _ _ _ from rp_new_lst f3 hzl hz2) .nil)
      show SpF X.K ps.length (G.cf fi) ([V.ref p, V.ref p3] ++ []) _ _ E0
      rw [List.append_nil]
      refine ⟨hl.symm, _, _, [.d (.lst (.lst xs :: ys)), .d (.lst zs)], _, outs, gq, ?_, r5.call hcall rfl List.nodup_nil, fun w4 F4 H4 P => ?_⟩
      · rw [psOf_len, hl]; exact Nat.le_refl _
      have hw4 : w4 = .bl true := by
        have := P.res
        cases this
        rfl
      have kp : ∀ b o, upd (upd H2 p (.lst (.ref p0 :: ws))) p3 (.lst wz) b = some o → H4 b = some o := fun b o h => P.keep b o h (by simp [psOf])
      have np3 := upd_none hp3
      have kb : ∀ b o, H2 b = some o → H4 b = some o := fun b o h => kp b o (by
        rw [upd_ne (fun e => by rw [e, np3.2] at h; cases h), upd_ne (fun e => by rw [e, hp] at h; cases h)]
        exact h)
      have e4 : H4 p0 = some (.lst us) := kb p0 _ k3
      have e5 : H4 p = some (.lst (.ref p0 :: ws)) := kp p _ (by rw [upd_ne (Ne.symm np3.1), upd_same])
      refine ⟨true, hw4, ?_⟩
      simp only [Bool.not_true, Bool.false_eq_true, if_false]
      show tBM X.K "list" rAppend (tOp (rIx X.K) (tVar i) (tC (V.int 0))) (tCons (tC (V.str m)) tNil) _ H4 _
      refine ⟨_, hsi, Or.inl ⟨p, _, 0, .ref p0, rfl, rfl, Or.inl (Or.inl e5), (by simp [atI, ixN]), Or.inl ⟨rfl, us, Or.inl (Or.inl e4)⟩, ?_⟩⟩
      refine ⟨p0, us, .str m, rfl, rfl, e4, by rw [h5.length]; exact c2, ?_⟩
      refine qu n _ _ F2 _ o D (Rel.open_ s2.rel (p0 := p0) (fun b o h e => ?_) k2 hn0 no2 hi) g (kk.mono (s1.ex.trans s2.ex))
      rw [upd_ne e]
      exact kb b o h
    · cases g1
  · cases g1
end
end Ov

set_option maxHeartbeats 2000000
namespace Ov
open PySem PySem.Spec PyProof.Rows L2 Evl
/-! ### dicts that are never changed; how many different numbers there are -/
section
variable {K : PySem.W.Frag} {n : Ent} {σ : L2.St} {ρ : Slots} {F H : Hp}
theorem Rel.setDic (r : Rel K n ρ σ F H) {i : Nat} {p : Addr} {kvs : List (Sum Int Str × D)} (hd : DicAt K F p kvs) (hp : ∀ q, n.ps[i]? ≠ some (some q)) : Rel K n (ρ.set i (some (.dic kvs))) (σ.set i (some (.ref p))) F H := by
  have ne : ∀ {j : Nat} {e : EV}, (ρ.set i (some (.dic kvs)))[j]? = some (some e) → (i = j ∧ i < ρ.length ∧ e = .dic kvs) ∨ (i ≠ j ∧ ρ[j]? = some (some e)) := fun {j e} h => by
    rw [set_get] at h
    by_cases q : i = j
    · rw [if_pos q] at h
      split at h
      · rename_i hl; cases h; exact Or.inl ⟨q, by rw [q]; exact hl, rfl⟩
      · cases h
    · rw [if_neg q] at h; exact Or.inr ⟨q, h⟩
  have st : ∀ {j : Nat} {w : V}, i ≠ j → (σ.set i (some w))[j]? = σ[j]? := fun h => by rw [List.getElem?_set_ne h]
  have ow : ∀ {j : Nat}, isOwn (ρ.set i (some (.dic kvs)))[j]? = true → i ≠ j ∧ isOwn ρ[j]? = true := fun {j} h => by
    obtain ⟨b, xs, hx⟩ := isOwn_iff.mp h
    rcases ne hx with ⟨_, _, e⟩ | ⟨h1, h2⟩
    · cases e
    · exact ⟨h1, isOwn_iff.mpr ⟨b, xs, h2⟩⟩
  refine ⟨r.sub, by rw [List.length_set, List.length_set]; exact r.len, fun j x h => ?_, fun j b xs h => ?_, fun j ks h => ?_, fun j ns h => ?_, fun j l q h1 h2 h3 h4 => ?_, r.ex0, r.keep, r.newF, fun j q h => ?_⟩
  · rcases ne h with ⟨_, _, e⟩ | ⟨h1, h2⟩
    · cases e
    · rw [st h1]; exact r.dat j x h2
  · rcases ne h with ⟨_, _, e⟩ | ⟨h1, h2⟩
    · cases e
    · rw [st h1]; exact r.own j b xs h2
  · rcases ne h with ⟨h0, hl, e⟩ | ⟨h1, h2⟩
    · cases e
      subst h0
      exact ⟨p, List.getElem?_set_self (by rw [← r.len]; exact hl), hd⟩
    · rw [st h1]; exact r.dic j ks h2
  · rcases ne h with ⟨_, _, e⟩ | ⟨h1, h2⟩
    · cases e
    · rw [st h1]; exact r.scr j ns h2
  · obtain ⟨a1, a2⟩ := ow h1
    obtain ⟨b1, b2⟩ := ow h2
    rw [st a1] at h3
    rw [st b1] at h4
    exact r.inj j l q a2 b2 h3 h4
  · have hj : i ≠ j := fun e => hp q (by rw [e]; exact h)
    obtain ⟨h1, xs, h2⟩ := r.par j q h
    exact ⟨by rw [st hj]; exact h1, xs, by rw [set_get, if_neg hj]; exact h2⟩
/-- a thing of nobody's is shut -/
theorem Rel.shutG {p : Addr} {o : HO} (r : Rel K n ρ σ F H) (hp : H p = some o) (hf : F p = none) (no : NoOwn ρ σ p) (h0 : n.H0 p = none) : Rel K n ρ σ (upd F p o) H := by
  refine ⟨fun b u q => ?_, r.len, fun i x h => ?_, fun i b xs h => ?_, fun i kvs h => ?_, fun i ns h => ?_, r.inj, r.ex0.trans (Ex.new hf), r.keep, fun b h q => ?_, r.par⟩
  · by_cases e : b = p
    · subst e; rw [upd_same] at q; cases q; exact hp
    · rw [upd_ne e] at q; exact r.sub b u q
  · obtain ⟨w, h1, h2⟩ := r.dat i x h
    exact ⟨w, h1, h2.mono (Ex.new hf)⟩
  · obtain ⟨q, us, h1, h2, h3, h4, h5, h6⟩ := r.own i b xs h
    have ne : q ≠ p := fun e => no i (isOwn_iff.mpr ⟨b, xs, h⟩) (by rw [h1, e])
    exact ⟨q, us, h1, h2, by rw [upd_ne ne]; exact h3, h4, h5.mono (Ex.new hf), h6⟩
  · obtain ⟨q, h1, h2⟩ := r.dic i kvs h
    exact ⟨q, h1, h2.mono (Ex.new hf)⟩
  · obtain ⟨q, h1, h2, h3⟩ := r.scr i ns h
    exact ⟨q, h1, ex_l (Ex.new hf) h2, h3⟩
  · have ne : b ≠ p := fun e => h (by rw [e]; exact h0)
    rw [upd_ne ne]; exact r.newF b h q
end
section
variable {X : Cx} {G : Cfg} {e a b v : Expr} {ia ib : IR} {pos dp p : Pos} {keys : List (Option Expr)} {vals : List Expr} {ks : List Str} {w i : Nat} {x k : Str}
def DKs (X : Cx) (pos : Pos) (keys : List (Option Expr)) (vals : List Expr) (ks : List Str) (f : Slots → Option (List Vl × Slots)) : Prop := ∃ trs, PPs X pos keys vals trs ∧
  ∀ (n : Ent) (ρ : Slots) (σ : L2.St) (F H : Hp) (vs : List Vl) (ρ' : Slots) (Q : List (V × V) → Hp → Prop), Rel X.K n ρ σ F H → f ρ = some (vs, ρ') →
    (∀ F' H' ws, Step X.K n σ ρ F H ρ' F' H' → Paired (VR X.K σ F') ws vs → Q ((ks.zip ws).map fun q => (V.str q.1, q.2)) H') → tPairs trs σ H Q
theorem dks_nil : DKs X pos [] [] [] (evL G .nil) := ⟨[], pps_nil, fun n ρ σ F H vs ρ' Q rl g kk => by
  simp only [evL] at g
  cases g
  exact kk F H [] (Step.refl rl) .nil⟩
theorem dks_cons {j0 : Nat} {q0 : Pos} (hv : DE X v (evE G ia)) (hr : DKs X pos keys vals ks (evL G ib)) : DKs X pos (some (.Constant (.str k) j0 q0) :: keys) (v :: vals) (k :: ks) (evL G (.cons ia ib)) := by
  obtain ⟨tv, pv, qv⟩ := hv
  obtain ⟨trs, pr, qr⟩ := hr
  refine ⟨_, pps_cons pe_str pv pr, fun n ρ σ F H vs ρ' Q rl g kk => ?_⟩
  unfold evL at g
  obtain ⟨⟨va, ρ1⟩, ga, g⟩ := bind_some g
  obtain ⟨⟨vb, ρ2⟩, gb, g⟩ := bind_some g
  obtain ⟨rfl, rfl⟩ := pure_some g
  show tv σ H _
  refine qv n ρ σ F H va ρ1 _ rl ga fun F1 H1 w1 s1 v1 => qr n ρ1 σ F1 H1 vb _ _ s1.rel gb fun F2 H2 ws s2 v2 => ?_
  exact kk F2 H2 (w1 :: ws) (s1.trans s2) (.cons (v1.mono s2.ex) v2)
theorem kvs_pair {K : PySem.W.Frag} {F : Hp} : ∀ {ks : List Str} {ws : List V} {xs : List D}, Rps K F ws xs → Paired (fun (kv : Key × V) (q : Sum Int Str × D) => kv.1 = q.1 ∧ Rp K F kv.2 q.2) ((ks.zip ws).map fun q => (Sum.inr q.1, q.2)) (kvsD ks xs)
  | [], _, _, _ => .nil
  | _ :: _, _, _, .nil => .nil
  | k :: ks, _, _, .cons h1 h2 => .cons ⟨rfl, h1⟩ (kvs_pair h2)
theorem ds_dic {y : Expr} (h : DKs X dp keys vals ks (evL G ia)) (hall : keys.all (·.isSome) = true) (hl : keys.length = vals.length) (h0 : keys ≠ []) (h15 : keys.length ≤ 15)
    (hps : ∀ {te : TE}, PE X (.Dict keys vals dp) te → PS X (.Assign [y] (.Dict keys vals dp) pos) (tAsg te (gName i))) : DS X (.Assign [y] (.Dict keys vals dp) pos) (evS G w (.dicS i ks ia)) := by
  obtain ⟨trs, p1, q1⟩ := h
  refine ⟨_, hps (pe_disp p1 hall hl h0 h15), fun n ρ σ F H o D r g kk => ?_⟩
  unfold evS at g
  obtain ⟨⟨vs, ρ1⟩, g1, g⟩ := bind_some g
  obtain ⟨xs, gx, g⟩ := bind_some g
  split at g
  · rename_i hc
    cases g
    obtain ⟨c1, c2, c3, c4⟩ := hc
    intro pd hp
    have no0 : NoOwn ρ σ pd := own_ne r hp
    have fp : F pd = none := Ov.Ex.none r.sub hp
    refine q1 n ρ σ F _ vs ρ1 _ (r.al (Al.own r.sub hp)) g1 fun F1 H1 ws s1 hv => ?_
    obtain ⟨e1, e2⟩ := s1.fr pd _ upd_same no0
    have rs := vr_pures hv gx
    have f1 := e2 fp
    refine ⟨e1, (ks.zip ws).map fun q => (Sum.inr q.1, q.2), by rw [List.map_map]; rfl, ?_, ?_⟩
    · rw [List.length_map, List.length_zip]; omega
    · have r1 := (s1.rel.mutD (o := .dK (mergeK [] ((ks.zip ws).map fun q => (Sum.inr q.1, q.2)))) f1 (no0.step s1) (r.dom hp)).shutG upd_same f1 (no0.step s1) (r.dom hp)
      have da : DicAt X.K (upd F1 pd (.dK (mergeK [] ((ks.zip ws).map fun q => (Sum.inr q.1, q.2))))) pd (kvsD ks xs) := ⟨_, upd_same, kvs_pair (rs.mono (Ex.new f1))⟩
      exact kk _ _ _ (s1.ex.trans (Ex.new f1)) (r1.setDic da (notBox_free s1.rel c4))
  · cases g
theorem de_dgt {ke de : Expr} {ik id : IR} {apos cpos : Pos} (hu : X.A.units + 1 < cLine) (hN : X.N[i]? = some x) (hv : Vis X.env.scope x) (hd : (x == ("__debug__" : Str)) = false) (hcd : (x == ("__classdict__" : Str)) = false) (hk : DE X ke (evE G ik)) (hde : DE X de (evE G id))
    (m : M2 X (.Name x p) "get" apos ke de cpos) : DE X (.Call (.Attribute (.Name x p) "get" apos) [ke, de] [] cpos) (evE G (.dgt i ik id)) := by
  obtain ⟨tk, pk, qk⟩ := hk
  obtain ⟨td, pd, qd⟩ := hde
  refine ⟨_, pe_dget2 hu (pe_var hN hv hd hcd) pk pd m, fun n ρ σ F H v ρ' Q rl g k => ?_⟩
  unfold evE at g
  split at g
  · rename_i kvs hi
    obtain ⟨⟨vk, ρ1⟩, gk, g⟩ := bind_some g
    obtain ⟨z, gz, g⟩ := bind_some g
    obtain ⟨⟨vd, ρ2⟩, gd, g⟩ := bind_some g
    obtain ⟨y, gy, g⟩ := bind_some g
    obtain ⟨pa, h1, us, hf, hpair⟩ := rl.dic i kvs hi
    refine ⟨_, h1, pa, rfl, Or.inl ⟨_, Or.inl (rl.sub _ _ hf)⟩, ?_⟩
    refine qk n ρ σ F H vk ρ1 _ rl gk fun F1 H1 w1 s1 v1 => qd n ρ1 σ F1 H1 vd ρ2 _ s1.rel gd fun F2 H2 w2 s2 v2 => ?_
    have lz := v1.look s1.rel gz
    cases z with
    | str z =>
      obtain ⟨rfl, rfl⟩ := pure_some g
      cases lz.str
      have ex := s1.ex.trans s2.ex
      have h2 : H2 pa = some (.dK (mergeK [] us)) := s2.rel.sub _ _ (ex _ _ hf)
      have hp2 : Paired (fun (kv : Key × V) (q : Sum Int Str × D) => kv.1 = q.1 ∧ Rp X.K F2 kv.2 q.2) us kvs := L2.Paired.mapP hpair fun _ _ q => ⟨q.1, q.2.mono ex⟩
      have vm := val_merge (acc := []) (n := Sum.inr z) hp2
      have gt := DGet.k (k := Sum.inr z) h2
      cases hlk : lastKey (Sum.inr z) kvs with
      | some q =>
        rw [hlk] at vm
        obtain ⟨u, e1, e2⟩ := vm
        rw [e1] at gt
        refine ⟨_, gt, k F2 H2 _ (s1.trans s2) ?_⟩
        show Rp X.K F2 u ((lastKey (Sum.inr z) kvs).getD y)
        rw [hlk]; exact e2
      | none =>
        rw [hlk] at vm
        have vm : valV (mergeK [] us) (Sum.inr z) = none := vm
        rw [vm] at gt
        refine ⟨_, gt, k F2 H2 _ (s1.trans s2) ?_⟩
        show Rp X.K F2 w2 ((lastKey (Sum.inr z) kvs).getD y)
        rw [hlk]; exact v2.pure gy
    | _ => cases g
  · cases g
/-! len(set(..)) of numbers -/
theorem nub_first (ns : List Int) : firstMet (fun i => ns.getD i 0) ns.length = nubI ns := by
  have e : (List.range ns.length).map (fun i => ns.getD i 0) = ns := by
    apply List.ext_getElem?
    intro j
    rw [List.getElem?_map]
    by_cases h : j < ns.length
    · rw [List.getElem?_range h, List.getElem?_eq_getElem h]; simp [List.getD, h]
    · rw [List.getElem?_eq_none (by simpa using h), List.getElem?_eq_none (by omega)]; rfl
  unfold firstMet
  rw [e]; rfl
def rSetI (K : PySem.W.Frag) : List V → Hp → VK → Prop := fun xs H Q => ∃ (a : Addr) (ns : List Int), xs = [.ref a] ∧ SqL K H a (ns.map V.int) ∧ ns.length ≤ 1000 ∧ ∀ (p : Addr) (S : Int → Bool), H p = none → Q (.ref p) (upd H p (.set S (nubI ns).length))
theorem call_setI (hcalm : X.calm = true) : CallR X (.type "set") (rSetI X.K) := by
  intro pins s σ H xs us Q I rv hq
  rcases hq with ⟨a, ns, ex, hL, hz, q⟩
  subst ex
  obtain ⟨u, eu, ru⟩ := vals1 rv
  subst eu
  cases ru
  obtain ⟨its, ri, pl, _⟩ := I.list hL
  have hl := ri.length
  rw [List.length_map] at hl
  have hsz : its.toArray.size = ns.length := by rw [List.size_toArray, ← hl]
  refine PySem.call_set_list (ns := ns) (I.ok.hd hcalm) pl.isList (by simpa using ri.ints) (by rw [hsz]; exact Nat.lt_of_le_of_lt (Nat.succ_le_succ hz) (by decide)) fun hp tk hs hk => ?_
  rw [hsz, nub_first] at hs
  exact ⟨V.ref s.heap.objs.size, _, I.laid (t' := tk) (o := .set _ (nubI ns).length) (fun b o e => hk b o (Heap.lt_size e) e) (Nat.le_refl _) hs, rfl, q _ _ (I.hok.fresh (Nat.le_refl _))⟩
def rLenI : List V → Hp → VK → Prop := fun xs H Q => ∃ (a : Addr) (S : Int → Bool) (n : Nat), xs = [.ref a] ∧ H a = some (.set S n) ∧ n ≤ 1000000 ∧ Q (.int n) H
theorem call_lenI : CallR X (.builtin "len") rLenI := by
  intro pins s σ H xs us Q I rv hq
  rcases hq with ⟨a, S, n, ex, hs, hz, q⟩
  subst ex
  obtain ⟨u, eu, ru⟩ := vals1 rv
  subst eu
  cases ru
  obtain ⟨o, es, ep, t, ho, hx, hd, _, _, _, hf, hn⟩ := (I.hok a _ hs : s.heap.SetOf (intKind X.prog X.w) a S n)
  refine PySem.call_len_set ho hx hd hf (by omega) ?_
  rw [hn]
  exact ⟨V.int n, H, I.tok _, ⟨_, rfl⟩, q⟩
theorem nub_len (ns : List Int) : (nubI ns).length ≤ ns.length := by
  rw [← nub_first]; exact firstMet_length_le _ _
theorem boot_set : bootBuiltins "set" = some (.type "set") := by decide +kernel
end
end Ov

set_option maxHeartbeats 4000000
namespace Ov
open PySem PySem.Spec PyProof.Rows L2 Evl
/-! ### how many different texts there are: len(set(texts)) -/
theorem nubS_snoc (xs : List Str) (v : Str) : nubS (xs ++ [v]) = if (nubS xs).any (· == v) then nubS xs else nubS xs ++ [v] := by
  unfold nubS; rw [List.foldl_append]; rfl
theorem nubS_any (v : Str) (xs : List Str) (k : Str) : (nubS (xs ++ [v])).any (· == k) = ((nubS xs).any (· == k) || decide (k = v)) := by
  rw [nubS_snoc]
  by_cases h : (nubS xs).any (· == v) = true
  · rw [if_pos h]
    by_cases e : k = v
    · subst e; rw [h]; rfl
    · rw [decide_eq_false e, Bool.or_false]
  · rw [if_neg h, List.any_append]
    congr 1
    by_cases e : k = v
    · subst e; simp
    · rw [decide_eq_false e]; simp; exact fun q => e q.symm
theorem nubS_len (v : Str) (xs : List Str) : (nubS (xs ++ [v])).length = if (nubS xs).any (· == v) then (nubS xs).length else (nubS xs).length + 1 := by
  rw [nubS_snoc]; split <;> simp
theorem nubS_le : ∀ (n : Nat) (xs : List Str), xs.length = n → (nubS xs).length ≤ n
  | 0, xs, h => by cases xs with
    | nil => exact Nat.le_refl _
    | cons _ _ => cases h
  | n + 1, xs, h => by
    have hx : xs ≠ [] := fun e => by subst e; cases h
    rw [← List.dropLast_concat_getLast hx, nubS_len]
    have := nubS_le n xs.dropLast (by rw [List.length_dropLast]; omega)
    split <;> omega
theorem txt_at : ∀ {vs : List Value} {ss : List Str}, StrsAre vs ss → ∀ (i : Nat) (v : Value), vs[i]? = some v → ∃ x t, ss[i]? = some x ∧ v = .str x t
  | _, _, .nil, i, v, h => by cases h
  | _, _, .cons x t r, 0, v, h => by cases h; exact ⟨x, t, rfl, rfl⟩
  | _, _, .cons x t r, i + 1, v, h => txt_at r i v h
section
variable {prog : Program} {w : World} {A : Around} {R : Result → Shared → Prop} {I : Addr} {fp wr : List Addr} {G : Array GenState → Array GenState → Prop} {n : Nat} {P : Nat → Value → Prop} {St : Nat → Shared → Prop} {ss : List Str}
/-- the walk that puts the texts into the set -/
theorem fill_txt (W : WalksS prog w A.in1 I fp wr G ss.length P St) (S : Addr) (hSf : S ∉ fp) (hval : ∀ i v, P i v → ∃ x t, ss[i]? = some x ∧ v = .str x t) (hb : ss.length + 1 < scanBound) :
    ∀ (k : Nat) (s : Shared), k ≤ ss.length → St (ss.length - k) s → s.heap.SetOf (strKind prog w) S (fun k' => (nubS (ss.take (ss.length - k))).any (· == k')) (nubS (ss.take (ss.length - k))).length →
      (∀ s', Moved (S :: wr) G s s' → s'.heap.SetOf (strKind prog w) S (fun k' => (nubS ss).any (· == k')) (nubS ss).length → R (.ok (.ret .none)) s') →
      codeAny (model prog w) A (.builtin "set.update.loop" ⟨[.ref S, .ref I], []⟩) R s := by
  have hSw : S ∉ wr := fun h => hSf (W.sub _ h)
  have hin : ∀ b ∈ wr, b ∈ S :: wr := fun b hb => List.mem_cons_of_mem _ hb
  have hold : ∀ {s s' : Shared} {f : Str → Bool} {m : Nat}, Moved wr G s s' → s.heap.SetOf (strKind prog w) S f m → s'.heap.SetOf (strKind prog w) S f m := fun hm ⟨o, es, ep, t, ho, rest⟩ => ⟨o, es, ep, t, hm.heap S _ hSw ho, rest⟩
  intro k
  induction k with
  | zero =>
    intro s _ hst hS hR
    rw [Nat.sub_zero, List.take_length] at hS
    rw [Nat.sub_zero] at hst
    refine codeAny_builtin F.entry_set_update_loop ?_
    rw [Around.under_plainId F.plain_set_update_loop _]
    show wpAny _ A.in1 (pyNext (.ref I) >>= _) _ _ s
    refine wpAny_bind (W.done s _ _ hst fun s' hm => ?_)
    show wpAny _ A.in1 (ret Value.none) _ _ s'
    exact wpAny_pure (hR s' (hm.mono hin) (hold hm hS))
  | succ k ih =>
    intro s hk hst hS hR
    have e : ss.length - k = ss.length - (k + 1) + 1 := by omega
    generalize hi : ss.length - (k + 1) = i at *
    refine codeAny_builtin F.entry_set_update_loop ?_
    rw [Around.under_plainId F.plain_set_update_loop _]
    show wpAny _ A.in1 (pyNext (.ref I) >>= _) _ _ s
    refine wpAny_bind (W.item i s _ _ (by omega) hst fun v s' hP hst' hm => ?_)
    obtain ⟨x, t, hx, rfl⟩ := hval i v hP
    have ht : ss.take (i + 1) = ss.take i ++ [x] := by rw [List.take_add_one, hx]; rfl
    have hS' := hold hm hS
    show wpAny _ A.in1 (holding [Value.str x t] (setAdd S (.str x t)) >>= _) _ _ s'
    refine wpAny_bind (wpAny_holding ?_)
    unfold setAdd
    refine wpAny_holding ?_
    have his : (strKind prog w).is x (.str x t) = true := strKind_is prog w x t
    refine wpAny_bind ((strKind prog w).pyHash (k := x) his ?_)
    have hroom : (nubS (ss.take i)).length + 1 < scanBound := by
      have := nubS_le _ (ss.take i) rfl
      rw [List.length_take] at this
      omega
    refine wpAny_setAddHashed_of (knd := strKind prog w) (s := { s' with toks := s'.toks + 1 }) his rfl hS' hroom fun h' hsb hS2 => ?_
    have hS3 : h'.SetOf (strKind prog w) S (fun k' => (nubS (ss.take (ss.length - k))).any (· == k')) (nubS (ss.take (ss.length - k))).length := by
      rw [e, ht]
      exact SetOf_congr hS2 (fun k' => (nubS_any x _ k').symm) (nubS_len x _).symm
    refine wpAny_pure ⟨plainId_quiet F.plain_set_update_loop _, ih _ (by omega) ?_ hS3 fun s'' hm'' hS'' => ?_⟩
    · rw [e]
      refine W.frame _ s' _ _ hst' (Nat.le_succ _) fun b hb o q => ?_
      rw [hsb.2 b (fun h : b = S => hSf (by rw [← h]; exact hb))]; exact q
    · refine hR s'' (Moved.trans W.gtrans ((hm.mono hin).then_heap (Nat.le_succ _) fun b o hb q => ?_) hm'') hS''
      rw [hsb.2 b (fun h : b = S => hb (by rw [h]; exact List.mem_cons_self))]; exact q
end
section
variable {prog : Program} {w : World} {A : Around} {E : Value → Shared → Prop} {s : Shared}
/-- set(a list of texts) -/
theorem call_set_txt {l : Addr} {items : Array Value} {ss : List Str} {Q : Value → Shared → Prop} (hh : A.handled = none) (hl : s.heap.IsList l items) (hi : StrsAre items.toList ss) (hn : items.size = ss.length) (hb : ss.length + 1 < scanBound)
    (h : ∀ (h' : Heap) (tk : Nat), h'.SetOf (strKind prog w) s.heap.objs.size (fun k' => (nubS ss).any (· == k')) (nubS ss).length → (∀ b o, b < s.heap.objs.size → s.heap.get? b = some o → h'.get? b = some o) → Q (.ref s.heap.objs.size) { s with heap := h', toks := tk }) :
    wpAny (model prog w) A (call (.type "set") [.ref l]) Q E s := by
  obtain ⟨c, tl, hmro⟩ := PySem.F.called_set.mro
  have hmade := PySem.F.called_set.made
  have hsub := PySem.F.called_set.sub
  refine wpAny_call (codeAny_of_tree ?_)
  show wpAny _ _ (callAny (.type "set") _) _ _ _
  refine wpAny_pure ⟨Code.quiet_builtin _ (by decide +kernel), codeAny_builtin PySem.F.entry_type_call ?_⟩
  rw [Around.under_plain (weight_type_call_type "set" [.ref l] []) rfl]
  have h1 := PySem.F.called_set.notType
  have h2 := PySem.F.called_set.canCreate
  have hct := PySem.F.typeCall_set_1 (.ref l)
  repeat (any_goals (first | assumption | wp_step))
  -- the empty set
  let E0 (led : Bool) : Obj := { cls := .type "set", dict := none, data := .set #[] 0 (.fresh 0 0 led) }
  refine codeAny_mono (code_set_new_1 (.ref l) (E := E) (Q₁ := fun obj s₁ => ∃ led : Bool, obj = .ref s.heap.objs.size ∧ s₁ = { s with heap := s.heap.push (E0 led) }) fun led => ⟨led, rfl, rfl⟩) fun r s₁ hr => ?_
  cases r with
  | error e => exact hr
  | ok fl =>
    cases fl with
    | ret obj =>
      obtain ⟨led, rfl, rfl⟩ := hr
      have hS : (s.heap.push (E0 led)).get? s.heap.objs.size = some (E0 led) := Heap.get?_push_size _ rfl
      have hT : Shared.TypeIs { s with heap := s.heap.push (E0 led) } (.ref s.heap.objs.size) "set" := ⟨_, hS, rfl⟩
      have hli := PySem.F.called_set.init.lookup
      have hbi := PySem.F.called_set.init.bind (.ref s.heap.objs.size)
      repeat (any_goals (first | assumption | wp_step))
      -- it is filled
      refine codeAny_mono (codeAny_call_builtin (R := wants (fun r s₂ => r = .none ∧ ∃ h' tk, s₂ = { s with heap := h', toks := tk } ∧ h'.SetOf (strKind prog w) s.heap.objs.size (fun k' => (nubS ss).any (· == k')) (nubS ss).length ∧
          (∀ b o, b < s.heap.objs.size → s.heap.get? b = some o → h'.get? b = some o)) E) PySem.F.called_set.init.plain PySem.F.entry_set_init (check_set_init_1 hT ?_)) fun r₂ s₂ hr₂ => ?_
      · obtain ⟨⟨ocls, odict, odata, oslots⟩, hol, hcl, nl, hdl⟩ := hl
        simp only at hcl hdl
        subst hcl; subst hdl
        have hol' := Heap.get?_push_of_some (E0 led) hol
        have hsls := PySem.F.sub_list_set
        have hslf := PySem.F.sub_list_frozenset
        have hne : (Value.type "list" == Value.type "dict") = false := by decide
        have hl1 : (s.heap.push (E0 led)).IsList l items := ⟨_, hol', rfl, nl, rfl⟩
        unfold Builtin.«set.__init__» noKeywords Builtin.Frozenset.updateFrom
        generalize hPI : pyIter = PI
        wp_walk
        subst hPI
        refine wpAny_pyIter_list hl1 ?_
        refine wpAny_bind (wpAny_runValue ?_)
        have hlS : l < s.heap.objs.size := Heap.lt_size hol
        have hh3 : A.in1.in1.in1.handled = none := by simp [hh]
        have sz : (s.heap.push (E0 led)).objs.size = s.heap.objs.size + 1 := Heap.size_push ..
        have hneI : l ≠ (s.heap.push (E0 led)).objs.size := by rw [sz]; exact Nat.ne_of_lt (Nat.lt_succ_of_lt hlS)
        have hSf : s.heap.objs.size ∉ [(s.heap.push (E0 led)).objs.size, l] := by
          rw [sz]
          simp only [List.mem_cons, List.not_mem_nil, or_false, not_or]
          exact ⟨Nat.ne_of_lt (Nat.lt_succ_self _), Nat.ne_of_gt hlS⟩
        have hval : ∀ (i : Nat) (v : Value), items[i]? = some v → ∃ x t, ss[i]? = some x ∧ v = .str x t := fun i v hv => txt_at hi i v (by rw [Array.getElem?_toList]; exact hv)
        have W := (Walks.list (prog := prog) (w := w) hh3 (s.heap.push (E0 led)).objs.size l hneI items).toS
        rw [hn] at W
        refine fill_txt W s.heap.objs.size hSf hval hb ss.length _ (Nat.le_refl _) ?_ ?_ ?_
        · rw [Nat.sub_self]
          exact ⟨⟨_, Heap.get?_push_size _ rfl, rfl, rfl⟩, hl1.push _⟩
        · rw [Nat.sub_self, List.take_zero]
          have hget := Heap.get?_push_of_some ({ cls := .type "list_iterator", data := .fields #[.ref l, .int 0 0] } : Obj) hS
          exact SetOf_congr ((setObjOf_fresh (knd := strKind prog w) led).setOf hget (by unfold scanBound; omega)) (fun _ => rfl) rfl
        · intro s' hm hS'
          obtain ⟨h', g', d', tk', os'⟩ := s'
          have eg : g' = s.gens := hm.gens
          have ed : d' = s.drawn := hm.drawn
          have eo : os' = s.os := hm.os
          subst eg; subst ed; subst eo
          show wpAny _ _ _ _ _ _
          refine wpAny_pure ?_
          show wpAny _ _ (ret Value.none) _ _ _
          refine wpAny_pure ⟨rfl, h', tk', rfl, hS', fun b o hb e => ?_⟩
          refine hm.heap b o ?_ (Heap.get?_push_of_some _ (Heap.get?_push_of_some _ e))
          rw [sz]
          simp only [List.mem_cons, List.not_mem_nil, or_false, not_or]
          exact ⟨Nat.ne_of_lt hb, Nat.ne_of_lt (Nat.lt_succ_of_lt hb)⟩
      · cases r₂ with
        | error e => exact hr₂
        | ok fl₂ =>
          cases fl₂ with
          | ret r =>
            obtain ⟨rfl, h', tk, rfl, hS', hk'⟩ := hr₂
            repeat (any_goals (first | assumption | wp_step))
            exact h _ _ hS' hk'
          | _ => exact hr₂.elim
    | _ => exact hr.elim
end
section
variable {X : Cx} {G : Cfg} {a : Expr} {ia : IR} {pos : Pos}
def SetT (X : Cx) (a : Addr) (S : Str → Bool) (n : Nat) : HO := .ext fun h => h.SetOf (strKind X.prog X.w) a S n
theorem setT_new {H : Hp} {h : Heap} {a : Addr} {S : Str → Bool} {n : Nat} (R : h.SetOf (strKind X.prog X.w) a S n) : ObjOk X.prog X.w H h a (SetT X a S n) := by
  obtain ⟨o, es, ep, t, ho, r⟩ := id R
  exact ⟨R, ⟨o, ho⟩, fun h1 h2 ⟨o, es, ep, t, ho, r⟩ k => ⟨o, es, ep, t, k o ho, r⟩⟩
def rSetT (X : Cx) : List V → Hp → VK → Prop := fun xs H Q => ∃ (a : Addr) (ss : List Str), xs = [.ref a] ∧ SqL X.K H a (ss.map V.str) ∧ ss.length ≤ 1000 ∧ ∀ (p : Addr) (S : Str → Bool), H p = none → Q (.ref p) (upd H p (SetT X p S (nubS ss).length))
theorem call_setT (hcalm : X.calm = true) : CallR X (.type "set") (rSetT X) := by
  intro pins s σ H xs us Q I rv hq
  obtain ⟨a, ss, rfl, hL, hz, q⟩ := hq
  obtain ⟨u, rfl, ru⟩ := vals1 rv
  cases ru
  obtain ⟨its, ri, pl, _⟩ := I.list hL
  have hsz : its.toArray.size = ss.length := by
    have := ri.length
    rw [List.length_map] at this
    rw [List.size_toArray]; exact this.symm
  refine call_set_txt (ss := ss) (I.ok.hd hcalm) pl.isList (by simpa using L2.strsAre_of ri) hsz (Nat.lt_of_le_of_lt (Nat.succ_le_succ hz) (by decide)) fun hp tk hs hk => ?_
  exact ⟨V.ref s.heap.objs.size, _, I.laid (t' := tk) (o := SetT X _ _ _) (fun b o e => hk b o (Heap.lt_size e) e) (Nat.le_refl _) (setT_new hs), rfl, q _ _ (I.hok.fresh (Nat.le_refl _))⟩
def rLenT (X : Cx) : List V → Hp → VK → Prop := fun xs H Q => ∃ (a : Addr) (S : Str → Bool) (n : Nat), xs = [.ref a] ∧ H a = some (SetT X a S n) ∧ n ≤ 1000000 ∧ Q (.int n) H
theorem call_lenT : CallR X (.builtin "len") (rLenT X) := by
  intro pins s σ H xs us Q I rv hq
  obtain ⟨a, S, n, rfl, hs, hz, q⟩ := hq
  obtain ⟨u, rfl, ru⟩ := vals1 rv
  cases ru
  obtain ⟨o, es, ep, t, ho, hx, hd, _, _, _, hf, hn⟩ := (I.hok a _ hs : ObjOk X.prog X.w H s.heap a (SetT X a S n)).1
  refine PySem.call_len_set ho hx hd hf (by omega) ?_
  rw [hn]
  exact ⟨V.int n, H, I.tok _, ⟨_, rfl⟩, q⟩
theorem callR_or {f : Value} {r r' : List V → Hp → VK → Prop} (h : CallR X f r) (h' : CallR X f r') : CallR X f (fun xs H Q => r xs H Q ∨ r' xs H Q) :=
  fun pins s σ H xs us Q I rv hq => hq.elim (fun q => h pins s σ H xs us Q I rv q) (fun q => h' pins s σ H xs us Q I rv q)
theorem de_lset {p1 p2 pos1 : Pos} (hc : X.calm = true) (hg : Gl X "len") (hm : X.mg "len" = none) (hg2 : Gl X "set") (hm2 : X.mg "set" = none) (h1 : starEach [a] X.env = [(false, eval a X.env)]) (h2 : starEach [.Call (.Name "set" p2) [a] [] pos1] X.env = [(false, eval (.Call (.Name "set" p2) [a] [] pos1) X.env)]) (ha : DE X a (evE G ia)) :
    DE X (.Call (.Name "len" p1) [.Call (.Name "set" p2) [a] [] pos1] [] pos) (evE G (.lset ia)) := by
  obtain ⟨ta, pa, qa⟩ := ha
  refine ⟨_, pe_callB (callR_or call_lenI call_lenT) hg hm boot_len (pa_cons (pe_callTy (callR_or (call_setI hc) (call_setT hc)) hg2 hm2 boot_set (pa_cons pa pa_nil h1) (by decide) (by decide) h1 rfl) pa_nil h2) (by decide) (by decide) h2 rfl, fun n ρ σ F H v ρ' Q rl g k => ?_⟩
  unfold evE at g
  obtain ⟨⟨va, ρ1⟩, ga, g⟩ := bind_some g
  obtain ⟨y, gx, g⟩ := bind_some g
  obtain ⟨xs, gl, g⟩ := bind_some g
  obtain ⟨z, gn, g⟩ := bind_some g
  obtain ⟨rfl, rfl⟩ := pure_some g
  refine qa n ρ σ F H va _ _ rl ga fun F1 H1 w1 s1 v1 => ?_
  have hlk := v1.look s1.rel gx
  cases y <;> cases gl
  obtain ⟨q, vs, rfl, h3, _, hr⟩ := hlk
  unfold lenSetD at gn
  cases hi : intsD xs with
  | some ns =>
    rw [hi] at gn
    dsimp only at gn
    split at gn
    · rename_i hz
      cases gn
      have ev := intsD_vs hr hi
      subst ev
      refine Or.inl ⟨q, ns, rfl, Or.inl (Or.inl h3), hz, fun pn S hp => ?_⟩
      have al := Al.own (o := HO.set S (nubI ns).length) s1.rel.sub hp
      have hnl := nub_len ns
      refine Or.inl ⟨pn, S, _, rfl, upd_same, by omega, ?_⟩
      exact k F1 _ _ (s1.trans (Step.al s1.rel al)) (.int _)
    · cases gn
  | none =>
    rw [hi] at gn
    dsimp only at gn
    cases ht : strsD xs with
    | none => rw [ht] at gn; cases gn
    | some ss =>
      rw [ht] at gn
      dsimp only at gn
      split at gn
      · rename_i hz
        cases gn
        have ev := strsD_vs hr ht
        subst ev
        refine Or.inr ⟨q, ss, rfl, Or.inl (Or.inl h3), hz, fun pn S hp => ?_⟩
        have al := Al.own (o := SetT X pn S (nubS ss).length) s1.rel.sub hp
        have hnl := nubS_le _ ss rfl
        refine Or.inr ⟨pn, S, _, rfl, upd_same, by omega, ?_⟩
        exact k F1 _ _ (s1.trans (Step.al s1.rel al)) (.int _)
      · cases gn
end
end Ov

set_option maxHeartbeats 4000000
namespace Ov
open PySem PySem.Spec PyProof.Rows L2 Evl
/-! ### d[k], k in d: d a written dict in a slot -/
section
variable {X : Cx} {G : Cfg} {ke : Expr} {ik : IR} {p pos : Pos} {x : Str} {i : Nat}
theorem de_dgi (hu : X.A.units + 1 < cLine) (hN : X.N[i]? = some x) (hv : Vis X.env.scope x) (hd : (x == ("__debug__" : Str)) = false) (hcd : (x == ("__classdict__" : Str)) = false) (hs : PlainIx ke) (hk : DE X ke (evE G ik)) :
    DE X (.Subscript (.Name x p) ke pos) (evE G (.dgi i ik)) := by
  obtain ⟨tk, pk, qk⟩ := hk
  refine ⟨_, pe_dget hu (pe_var hN hv hd hcd) pk hs, fun n ρ σ F H v ρ' Q rl g k => ?_⟩
  unfold evE at g
  split at g
  · rename_i kvs hi
    obtain ⟨⟨vk, ρ1⟩, gk, g⟩ := bind_some g
    obtain ⟨z, gz, gg⟩ := bind_some g
    clear g
    obtain ⟨pa, h1, us, hf, hpair⟩ := rl.dic i kvs hi
    refine ⟨_, h1, qk n ρ σ F H vk ρ1 _ rl gk fun F1 H1 w1 s1 v1 => ?_⟩
    have lz := v1.look s1.rel gz
    cases z with
    | str z =>
      dsimp only at gg
      obtain ⟨q, gq, gg⟩ := bind_some gg
      obtain ⟨rfl, rfl⟩ := pure_some gg
      cases lz.str
      have h2 : H1 pa = some (.dK (mergeK [] us)) := s1.rel.sub _ _ (s1.ex _ _ hf)
      have hp2 : Paired (fun (kv : Key × V) (q : Sum Int Str × D) => kv.1 = q.1 ∧ Rp X.K F1 kv.2 q.2) us kvs := L2.Paired.mapP hpair fun _ _ q => ⟨q.1, q.2.mono s1.ex⟩
      have vm := val_merge (acc := []) (n := Sum.inr z) hp2
      rw [gq] at vm
      obtain ⟨u, e1, e2⟩ := vm
      have gt := DGet.k (k := Sum.inr z) h2
      rw [e1] at gt
      exact ⟨pa, u, rfl, gt, k F1 H1 _ s1 e2⟩
    | _ => cases gg
  · cases g
def tDI (ng : Bool) (tk : TE) (i : Nat) : TE := fun σ H Q => tk σ H fun y H1 => tVar i σ H1 fun x H2 => ∃ a o, x = .ref a ∧ DGet H2 a y o ∧ Q (.bl (ng != o.isSome)) H2
theorem pc_di {tk : TE} (ng : Bool) (hu : X.A.units + 1 < cLine) (pk : PE X ke tk) (pv : PE X (.Name x p) (tVar i)) : PC X (if ng then .NotIn else .In) ke (.Name x p) (tDI ng tk i) := by
  cases ng with
  | false =>
    have e : tDI false tk i = tDIn tk (tVar i) := by
      funext σ H Q
      unfold tDI tDIn
      simp
    rw [e]; exact pc_din hu pk pv
  | true =>
    have e : tDI true tk i = tDNotIn tk (tVar i) := by
      funext σ H Q
      unfold tDI tDNotIn
      simp
    rw [e]; exact pc_dnotin hu pk pv
theorem de_din (ng : Bool) (hu : X.A.units + 1 < cLine) (hN : X.N[i]? = some x) (hv : Vis X.env.scope x) (hd : (x == ("__debug__" : Str)) = false) (hcd : (x == ("__classdict__" : Str)) = false) (hk : DE X ke (evE G ik)) :
    DE X (.Compare ke [if ng then .NotIn else .In] [.Name x p] pos) (evE G (.din ng i ik)) ∧ DT X (.Compare ke [if ng then .NotIn else .In] [.Name x p] pos) (evT G (.din ng i ik)) := by
  obtain ⟨tk, pk, qk⟩ := hk
  have core : ∀ (n : Ent) (ρ : Slots) (σ : L2.St) (F H : Hp) (v : Vl) (ρ' : Slots) (Q : VK), Rel X.K n ρ σ F H → evE G (.din ng i ik) ρ = some (v, ρ') →
      (∀ F' H' z, Step X.K n σ ρ F H ρ' F' H' → v = .d (.bl z) → Q (.bl z) H') → tDI ng tk i σ H Q := fun n ρ σ F H v ρ' Q rl g k => by
    unfold evE at g
    obtain ⟨⟨vk, ρ1⟩, gk, g⟩ := bind_some g
    obtain ⟨z, gz, gg⟩ := bind_some g
    clear g
    refine qk n ρ σ F H vk ρ1 _ rl gk fun F1 H1 w1 s1 v1 => ?_
    have lz := v1.look s1.rel gz
    split at gg
    · rename_i kvs hi
      obtain ⟨pa, h1, us, hf, hpair⟩ := s1.rel.dic i kvs hi
      cases z with
      | str z =>
        obtain ⟨rfl, rfl⟩ := pure_some gg
        cases lz.str
        have h2 : H1 pa = some (.dK (mergeK [] us)) := s1.rel.sub _ _ hf
        have vm := val_merge (acc := []) (n := Sum.inr z) hpair
        have gt := DGet.k (k := Sum.inr z) h2
        cases hl : lastKey (Sum.inr z) kvs with
        | some q =>
          rw [hl] at vm
          obtain ⟨u, e1, e2⟩ := vm
          rw [e1] at gt
          exact ⟨_, h1, pa, _, rfl, gt, k F1 H1 _ s1 (by rw [hl]; rfl)⟩
        | none =>
          rw [hl] at vm
          have vm : valV (mergeK [] us) (Sum.inr z) = none := vm
          rw [vm] at gt
          exact ⟨_, h1, pa, _, rfl, gt, k F1 H1 _ s1 (by rw [hl]; rfl)⟩
      | _ => cases gg
    · cases gg
  have hb : behindInMarks (if ng then .NotIn else .In) (.Name x p) = false := by cases ng <;> rfl
  have hpc := pc_di ng hu pk (pe_var (X := X) (pos := p) hN hv hd hcd)
  refine ⟨⟨_, pe_cmp hpc hb, fun n ρ σ F H v ρ' Q rl g k => core n ρ σ F H v ρ' Q rl g fun F' H' z s ev => ?_⟩, ⟨_, pt_cmp hpc hb, fun n ρ σ F H v ρ' Q rl g k => core n ρ σ F H _ ρ' _ rl (evT_some g) fun F' H' z s ev => ?_⟩⟩
  · subst ev
    exact k F' H' _ s (.bl z)
  · cases ev
    exact ⟨_, rfl, k F' H' s⟩
end
end Ov

set_option maxHeartbeats 4000000
namespace Ov
open PySem PySem.Spec PyProof.Rows L2 Evl
/-! ### the checker -/
structure CI where
  N : List Str
  sc : Scope
  fn : Str → Bool
structure Tab where
  /-- name and number of parameters of a def -/
  fn : Nat → Option (Str × Nat)
  gl : Nat → Option Str
  /-- keyword shapes: the def's name, the keywords -/
  sh : Nat → Option (Str × List Str)
  free : List Str
  /-- dicts of the top -/
  dg : Nat → Option Str
def isStar : Expr → Bool
  | .Starred .. => true
  | _ => false
def isSlice : Expr → Bool
  | .Slice .. => true
  | _ => false
def isIfE : Expr → Bool
  | .IfExp .. => true
  | _ => false
def oneB : Expr → Bool
  | .IfExp _ a b _ => !isIfE a && !isIfE b
  | _ => true
def isSetE : Expr → Bool
  | .Set .. => true
  | _ => false
def BOp.py : BOp → Operator
  | .add => .Add | .sub => .Sub | .mul => .Mult | .fdiv => .FloorDiv | .mod => .Mod | .pow => .Pow
def visB (C : CI) (x : Str) : Bool := match C.sc.names.lookup x with
  | some .local => true
  | some .cell => true
  | some .free => true
  | _ => false
def nameB (C : CI) (i : Nat) (x : Str) : Bool := C.N[i]? == some x && visB C x && !(x == ("__debug__" : Str)) && !(x == ("__classdict__" : Str))
def glB (C : CI) (x : Str) : Bool := decide (C.sc.names.lookup x = some .globalImplicit)
def chkP (C : CI) : Pat → Expr → Bool
  | .nm i, e => match e with
    | .Name x _ => C.N[i]? == some x && (decide (C.sc.names.lookup x = some .local) || (decide (C.sc.names.lookup x = some .cell) && C.fn x))
    | _ => false
  | .tp p, e => match e with
    | .Tuple es _ _ => chkPs C p es
    | _ => false
  | _, _ => false
where chkPs (C : CI) : Pat → List Expr → Bool
  | .nil, [] => true
  | .cons a b, e :: es => !isStar e && chkP C a e && chkPs C b es
  | _, _ => false
def ownOf (C : CI) (vs : List Nat) : List (Str × Nat) := vs.map fun i => (C.N.getD i "", i)
def inBlk (C : CI) (scope : Scope) : CI := ⟨C.N, relS scope C.sc, fun x => scope.names.lookup x == some .cell⟩
def tyArgs : List Ty → Expr → Bool
  | [t], .Name x _ => x == Str.ofString t.nm
  | _, _ => false
def tyTup : List Ty → List Expr → Bool
  | [], [] => true
  | t :: ts, .Name x _ :: es => x == Str.ofString t.nm && tyTup ts es
  | _, _ => false
/-- a method may be asked of these by name -/
def recvB : Expr → Bool
  | .Name .. => true
  | .Constant .. => true
  | .ListComp .. => true
  | _ => false
def Mt.name : Mt → String
  | .index => "index"
  | .join => "join"
mutual
def chkE (T : Tab) : CI → IR → Expr → Bool
  | C, .var i, e => match e with
    | .Name x _ => nameB C i x
    | _ => false
  | C, .frz i, e => match e with
    | .Name x _ => nameB C i x
    | _ => false
  | C, .glob g, e => match e with
    | .Name x _ => T.gl g == some x && glB C x && !(x == ("__debug__" : Str))
    | _ => false
  | _, .int n, e => match e with
    | .Constant (.int m) _ _ => n == m
    | _ => false
  | _, .str n, e => match e with
    | .Constant (.str m) _ _ => n == m
    | _ => false
  | _, .bl n, e => match e with
    | .Constant (.bool m) _ _ => n == m
    | _ => false
  | _, .non, e => match e with
    | .Constant .none _ _ => true
    | _ => false
  | C, .op o a b, e => match e with
    | .BinOp l o' r _ => decide (o.py = o') && chkE T C a l && chkE T C b r
    | _ => false
  | C, .neg a, e => match e with
    | .UnaryOp .USub l _ => chkE T C a l
    | _ => false
  | C, .cmp o a b, e => match e with
    | .Compare l [o'] [r] _ => decide (o.py = o') && chkE T C a l && chkE T C b r && !behindInMarks o.py r
    | _ => false
  | C, .chain o o' a b c, e => match e with
    | .Compare l [p, q] [m, r] _ => decide (o.py = p) && decide (o'.py = q) && chkE T C a l && chkE T C b m && chkE T C c r && !lastMarks [o.py, o'.py] [m, r]
    | _ => false
  | C, .isn ng a, e => match e with
    | .Compare l [o'] [.Constant .none _ _] _ => decide ((if ng then CmpOp.IsNot else CmpOp.Is) = o') && chkE T C a l
    | _ => false
  | C, .one a, e => match e with
    | .BoolOp _ [l] _ => chkE T C a l && oneB l
    | _ => false
  | C, .band a b, e => match e with
    | .BoolOp .And (l :: m :: rest) pos => chkE T C a l && !isIfE l && chkE T C b (.BoolOp .And (m :: rest) pos)
    | _ => false
  | C, .bor a b, e => match e with
    | .BoolOp .Or (l :: m :: rest) pos => chkE T C a l && !isIfE l && chkE T C b (.BoolOp .Or (m :: rest) pos)
    | _ => false
  | C, .bnot a, e => match e with
    | .UnaryOp .Not l _ => chkE T C a l && !isIfE l
    | _ => false
  | C, .ife c a b, e => match e with
    | .IfExp ce ae be _ => chkE T C c ce && !isIfE ce && chkE T C a ae && chkE T C b be
    | _ => false
  | C, .tup es, e => match e with
    | .Tuple l _ _ => chkL T C es l
    | _ => false
  | C, .lst es, e => match e with
    | .List l _ => chkL T C es l
    | _ => false
  | C, .idx a i, e => match e with
    | .Subscript l k _ => chkE T C a l && chkE T C i k && !isSlice k
    | _ => false
  | C, .dget a k, e => match e with
    | .Subscript (.Call (.Name x _) [l] [] _) i _ => x == ("dict" : Str) && glB C x && T.free.contains x && !isStar l && chkE T C a l && chkE T C k i && !isSlice i
    | _ => false
  | C, .lrng a b, e => match e with
    | .Call (.Name x _) [.Call (.Name y _) [l, m] [] _] [] _ => x == ("list" : Str) && glB C x && T.free.contains x && y == ("range" : Str) && glB C y && T.free.contains y && !isStar l && !isStar m && chkE T C a l && chkE T C b m
    | _ => false
  | C, .gdg g k, e => match e with
    | .Subscript (.Name x _) i _ => T.dg g == some x && glB C x && !(x == ("__debug__" : Str)) && chkE T C k i && !isSlice i
    | _ => false
  | C, .mt m o es, e => match e with
    | .Call (.Attribute oe nm ap) [a] [] pos => recvB oe && nm == Str.ofString m.name && chkE T C o oe && chkL T C es [a] && (ap.endLine == pos.line)
    | _ => false
  | C, .stp a s, e => match e with
    | .Subscript l (.Slice none none (some st) _) _ => chkE T C a l && chkE T C s st
    | _ => false
  | C, .isb ng a b, e => match e with
    | .Compare l [o'] [.Constant (.bool b') _ _] _ => decide ((if ng then CmpOp.IsNot else CmpOp.Is) = o') && (b == b') && chkE T C a l
    | _ => false
  | C, .slc a lo hi, e => match e with
    | .Subscript l (.Slice x y none _) _ => chkE T C a l && (match x with
        | none => (match lo with | .nil => true | _ => false)
        | some x => chkE T C lo x) && (match y with
        | none => (match hi with | .nil => true | _ => false)
        | some y => chkE T C hi y)
    | _ => false
  | C, .call f es, e => match e with
    | .Call (.Name x _) (a :: as) [] _ => decide (T.fn f = some (x, (a :: as).length)) && glB C x && !(x == ("__debug__" : Str)) && chkL T C es (a :: as)
    | _ => false
  | C, .callK s ks, e => match e with
    | .Call (.Name x _) [] kws _ => decide (T.sh s = some (x, kws.filterMap (·.arg))) && (kws.all fun q => q.arg.isSome) && glB C x && !(x == ("__debug__" : Str)) && chkL T C ks (kws.map (·.value))
    | _ => false
  | C, .callT f g es, e => match e with
    | .Call (.Name x _) [.Call (.Name y _) (a :: as) [] _] [] _ => decide (T.fn f = some (x, 1)) && glB C x && !(x == ("__debug__" : Str)) && decide (T.fn g = some (y, (a :: as).length)) && glB C y && !(y == ("__debug__" : Str)) && chkL T C es (a :: as)
    | _ => false
  | C, .bi b es, e => match e with
    | .Call (.Name x _) (a :: as) [] _ => x == Str.ofString b.name && glB C x && T.free.contains x && chkL T C es (a :: as)
    | _ => false
  | C, .lenS a, e => match e with
    | .Call (.Name x _) [l] [] _ => x == ("len" : Str) && glB C x && T.free.contains x && !isStar l && chkE T C a l
    | _ => false
  | C, .isi a ts, e => match e with
    | .Call (.Name x _) [l, t] [] _ => x == ("isinstance" : Str) && glB C x && T.free.contains x && !isStar l && chkE T C a l && (ts.all fun t => glB C (Str.ofString t.nm) && T.free.contains (Str.ofString t.nm)) && (tyArgs ts t || (match t with
        | .Tuple es _ _ => tyTup ts es && decide (ts.length ≤ 1000)
        | _ => false))
    | _ => false
  | C, .ggt g k d, e => match e with
    | .Call (.Attribute (.Name x _) nm ap) [ke, de] [] pos => T.dg g == some x && glB C x && !(x == ("__debug__" : Str)) && nm == ("get" : Str) && !isStar ke && !isStar de && chkE T C k ke && chkE T C d de && (ap.endLine == pos.line)
    | _ => false
  | C, .dgi i k, e => match e with
    | .Subscript (.Name x _) ke _ => nameB C i x && chkE T C k ke && !isSlice ke
    | _ => false
  | C, .din ng i k, e => match e with
    | .Compare l [o'] [.Name x _] _ => decide ((if ng then CmpOp.NotIn else CmpOp.In) = o') && nameB C i x && chkE T C k l
    | _ => false
  | C, .dgt i k d, e => match e with
    | .Call (.Attribute (.Name x _) nm ap) [ke, de] [] pos => nameB C i x && nm == ("get" : Str) && !isStar ke && !isStar de && chkE T C k ke && chkE T C d de && (ap.endLine == pos.line)
    | _ => false
  | C, .lset a, e => match e with
    | .Call (.Name x _) [.Call (.Name y _) [l] [] _] [] _ => x == ("len" : Str) && glB C x && T.free.contains x && y == ("set" : Str) && glB C y && T.free.contains y && !isStar l && chkE T C a l
    | _ => false
  | C, .mu m i es, e => match e with
    | .Call (.Attribute (.Name x _) nm ap) (a :: as) [] pos => nameB C i x && nm == Str.ofString m.name && chkL T C es (a :: as) && decide (as.length < 20) && (ap.endLine == pos.line) && (match m with | .append => true | .extend => true | .popAt => true | .insert => true | _ => false)
    | _ => false
  | C, .comp vs p k a b c e, ex => match ex with
    | .ListComp elt [⟨tg, iter, ifs, 0⟩] scope _ => blkC C.N C.sc scope (ownOf C vs) && (p.slots.all fun i => vs.contains i) && (match k with
      | .seq => chkE T C a iter
      | .rng => (match iter with
        | .Call (.Name x _) [l] [] _ => x == ("range" : Str) && glB C x && T.free.contains x && !isStar l && chkE T C a l
        | _ => false)
      | .enm => (match iter, tg with
        | .Call (.Name x _) [l] [] _, .Tuple _ _ _ => x == ("enumerate" : Str) && glB C x && T.free.contains x && !isStar l && chkE T C a l
        | _, _ => false)
      | .zip => (match iter, tg with
        | .Call (.Name x _) [l, m] [] _, .Tuple _ _ _ => x == ("zip" : Str) && glB C x && T.free.contains x && !isStar l && !isStar m && chkE T C a l && chkE T C b m
        | _, _ => false)) && !isSetE iter && chkP (inBlk C scope) p tg && (match ifs with
        | [] => (match c with | .nil => true | _ => false)
        | [t] => (match c with | .nil => false | _ => true) && !isIfE t && chkE T (inBlk C scope) c t
        | _ => false) && chkE T (inBlk C scope) e elt
    | _ => false
  | _, .skip, _ => true
  | _, _, _ => false
def chkL (T : Tab) : CI → IR → List Expr → Bool
  | _, .nil, l => match l with
    | [] => true
    | _ => false
  | C, .cons a b, l => match l with
    | e :: es => !isStar e && chkE T C a e && chkL T C b es
    | _ => false
  | _, _, _ => false
end
def chkI (T : Tab) (C : CI) (k : ItK) (a b : IR) (tg iter : Expr) : Bool := match k with
  | .seq => chkE T C a iter
  | .rng => (match iter with
    | .Call (.Name x _) [l] [] _ => x == ("range" : Str) && glB C x && T.free.contains x && !isStar l && chkE T C a l
    | _ => false)
  | .enm => (match iter, tg with
    | .Call (.Name x _) [l] [] _, .Tuple _ _ _ => x == ("enumerate" : Str) && glB C x && T.free.contains x && !isStar l && chkE T C a l
    | _, _ => false)
  | .zip => (match iter, tg with
    | .Call (.Name x _) [l, m] [] _, .Tuple _ _ _ => x == ("zip" : Str) && glB C x && T.free.contains x && !isStar l && !isStar m && chkE T C a l && chkE T C b m
    | _, _ => false)
end Ov

set_option maxHeartbeats 4000000
namespace Ov
open PySem PySem.Spec PyProof.Rows L2 Evl
/-- .. by keywords -/
def FnKw (G : Cfg) (X : Cx) (s : Nat) (x : Str) (ks : List Str) : Prop := ∃ (k : Nat) (a : Addr) (fd : FuncData) (ps : List Str) (f : Nat) (o : List Nat), FnO X.prog X.w X.K X.mg X.base k a fd ps (SpF X.K ps.length (G.cf f)) ∧ Room k X.A ∧ X.mg x = some (.ref a) ∧
  PySem.W.keepIn X.K (.ref a) = true ∧ KBn X.K fd ps 0 ks (fun _ ws => pickD o ws) (fun _ zs => pickD o zs) ∧ ps.length = o.length ∧ G.sh s = some (f, o)
/-- a def that may be called -/
def FnG (G : Cfg) (X : Cx) (f : Nat) (x : Str) (np : Nat) : Prop := ∃ (k : Nat) (a : Addr) (fd : FuncData) (ps : List Str), FnO X.prog X.w X.K X.mg X.base k a fd ps (SpF X.K ps.length (G.cf f)) ∧ Room k X.A ∧ X.mg x = some (.ref a) ∧
  PySem.W.keepIn X.K (.ref a) = true ∧ Binds X.K fd ps [] ∧ ps.length = np
structure Good (T : Tab) (G : Cfg) (X : Cx) (C : CI) : Prop where
  N : X.N = C.N
  sc : X.env.scope = C.sc
  fn : ∀ x, C.fn x = true → X.fn x = true
  nd : C.N.Nodup
  calm : X.calm = true
  units : X.A.units + 65 < cLine
  gds : X.A.guards = some []
  xe : X.xe = fun _ _ => False
  free : ∀ x ∈ T.free, X.mg x = none
  fns : ∀ f x np, T.fn f = some (x, np) → FnG G X f x np
  shs : ∀ s x ks, T.sh s = some (x, ks) → FnKw G X s x ks
  gls : ∀ g x, T.gl g = some x → ∃ u v d, X.mg x = some u ∧ RelV v u ∧ G.gd g = some d ∧ ∀ F, Rp X.K F v d
  dds : ∀ g x, T.dg g = some x → ∃ a es n kvs, X.mg x = some (.ref a) ∧ KDict X.K X.w a es n ∧ G.dd g = some kvs ∧ DgOk X.K a kvs
theorem star1 {e : Expr} {es : List Expr} {env : Env} (h : isStar e = false) : starEach (e :: es) env = (false, eval e env) :: starEach es env := by
  cases e <;> first | rfl | cases h
theorem starAny {env : Env} {pos : Pos} : ∀ {es : List Expr}, (∀ e ∈ es, isStar e = false) → (backTo pos (starEach es env)).any (·.1) = false
  | [], _ => rfl
  | e :: es, h => by
    rw [star1 (h e (List.mem_cons_self ..))]
    show (false || (backTo pos (starEach es env)).any (·.1)) = false
    rw [starAny fun e he => h e (List.mem_cons_of_mem _ he)]; rfl
theorem starAll {env : Env} {pos : Pos} : ∀ {es : List Expr}, (∀ e ∈ es, isStar e = false) → (backTo pos (starEach es env)).all (fun x => !x.1) = true
  | [], _ => rfl
  | e :: es, h => by
    rw [star1 (h e (List.mem_cons_self ..))]
    show (true && (backTo pos (starEach es env)).all (fun x => !x.1)) = true
    rw [starAll fun e he => h e (List.mem_cons_of_mem _ he)]; rfl
section
variable {T : Tab} {G : Cfg} {X : Cx} {C : CI}
theorem Good.vis (g : Good T G X C) {x : Str} (h : visB C x = true) : Vis X.env.scope x := by
  rw [g.sc]
  unfold visB at h
  split at h <;> first | (rename_i q; exact Or.inl q) | (rename_i q; exact Or.inr (Or.inl q)) | (rename_i q; exact Or.inr (Or.inr q)) | cases h
theorem Good.gl (g : Good T G X C) {x : Str} (h : glB C x = true) : Gl X x := by
  show X.env.scope.names.lookup x = _
  rw [g.sc]; exact of_decide_eq_true h
theorem Good.name (g : Good T G X C) {i : Nat} {x : Str} (h : nameB C i x = true) : X.N[i]? = some x ∧ Vis X.env.scope x ∧ (x == ("__debug__" : Str)) = false ∧ (x == ("__classdict__" : Str)) = false := by
  simp only [nameB, Bool.and_eq_true, beq_iff_eq, Bool.not_eq_true'] at h
  obtain ⟨⟨⟨h1, h2⟩, h3⟩, h4⟩ := h
  exact ⟨by rw [g.N]; exact h1, g.vis h2, h3, h4⟩
theorem Good.free' (g : Good T G X C) {x : Str} (h : T.free.contains x = true) : X.mg x = none := g.free x (by simpa using h)
theorem Good.blk (g : Good T G X C) (scope : Scope) (s : Shared) (H : Hp) (c : Addr) (cl : List (Str × Addr)) (fp : List Addr) : Good T G (X.blk s H scope (compEnvC scope cl c X.env) fp) (inBlk C scope) := by
  refine ⟨g.N, ?_, fun x h => h, g.nd, g.calm, g.units, g.gds, rfl, g.free, fun f x np h => ?_, fun s x ks h => g.shs s x ks h, g.gls, g.dds⟩
  · show relabel scope X.env = relS scope C.sc
    rw [← g.sc]; rfl
  · exact g.fns f x np h
end
/-! ### patterns -/
section
variable {T : Tab} {G : Cfg} {X : Cx} {C : CI}
theorem binds_len : ∀ {p : Pat} {xs : List D} {ρ ρ' : Slots} {es : List Expr}, chkP.chkPs C p es = true → Pat.binds p xs ρ = some ρ' → xs.length = es.length
  | .nil, [], ρ, ρ', [], _, _ => rfl
  | .nil, [], ρ, ρ', _ :: _, h, _ => by simp [chkP.chkPs] at h
  | .nil, _ :: _, ρ, ρ', _, _, h => by cases h
  | .cons a b, [], ρ, ρ', _, _, h => by cases h
  | .cons a b, _ :: _, ρ, ρ', [], h, _ => by simp [chkP.chkPs] at h
  | .cons a b, x :: xs, ρ, ρ', e :: es, h, g => by
    simp only [chkP.chkPs, Bool.and_eq_true] at h
    simp only [Pat.binds] at g
    obtain ⟨ρ1, _, g⟩ := bind_some g
    simp [binds_len h.2 g]
  | .nm _, [], _, _, _, _, h => by cases h
  | .nm _, _ :: _, _, _, _, _, h => by cases h
  | .tp _, [], _, _, _, _, h => by cases h
  | .tp _, _ :: _, _, _, _, _, h => by cases h
theorem assign_star {env : Env} : ∀ {es : List Expr}, (∀ e ∈ es, isStar e = false) → (assignEach es env).length = es.length ∧ (assignEach es env).findIdx? (·.1) = none
  | [], _ => ⟨rfl, rfl⟩
  | e :: es, h => by
    have he := h e (List.mem_cons_self ..)
    obtain ⟨h1, h2⟩ := assign_star (env := env) fun e he => h e (List.mem_cons_of_mem _ he)
    have q : assignEach (e :: es) env = (false, assign e env) :: assignEach es env := by cases e <;> first | rfl | cases he
    rw [q]
    refine ⟨by simp [h1], ?_⟩
    rw [List.findIdx?_cons]
    simp [h2]
theorem assign_cons {e : Expr} {es : List Expr} {env : Env} (h : isStar e = false) : (assignEach (e :: es) env).map (·.2) = assign e env :: (assignEach es env).map (·.2) := by
  cases e <;> first | rfl | cases h
mutual
theorem pg_of (g : Good T G X C) : ∀ {p : Pat} {e : Expr}, chkP C p e = true → PG X e (tOfG X.K p)
  | .nm i, e, h => by
    cases e <;> try (simp [chkP] at h; done)
    rename_i x pos
    simp only [chkP, Bool.and_eq_true, Bool.or_eq_true, beq_iff_eq, decide_eq_true_eq] at h
    refine dg_nm (by rw [g.N]; exact g.nd) (by rw [g.N]; exact h.1) ?_ ?_
    · rw [g.sc]
      rcases h.2 with q | q
      · exact Or.inl q
      · exact Or.inr q.1
    · rcases h.2 with q | q
      · exact Or.inr (by rw [g.sc]; exact q)
      · exact Or.inl (g.fn x q.2)
  | .tp p, e, h => by
    cases e <;> try (simp [chkP] at h; done)
    rename_i es k pos
    simp only [chkP] at h
    obtain ⟨h1, h2⟩ := pgs_of g h
    exact dg_tp g.calm h1 (assign_star h2).1 (assign_star h2).2 fun xs ρ ρ' q => binds_len h q
  | .nil, e, h => by simp [chkP] at h
  | .cons _ _, e, h => by simp [chkP] at h
theorem pgs_of (g : Good T G X C) : ∀ {p : Pat} {es : List Expr}, chkP.chkPs C p es = true → PGs X es (tOfGs X.K p) ∧ ∀ e ∈ es, isStar e = false
  | .nil, [], _ => ⟨dgs_nil, fun _ h => by cases h⟩
  | .cons a b, e :: es, h => by
    simp only [chkP.chkPs, Bool.and_eq_true, Bool.not_eq_true'] at h
    obtain ⟨h1, h2⟩ := pgs_of g h.2
    refine ⟨dgs_cons (pg_of g h.1.2) h1 (assign_cons h.1.1), fun e' he => ?_⟩
    rcases List.mem_cons.mp he with q | q
    · rw [q]; exact h.1.1
    · exact h2 e' q
  | .nil, _ :: _, h => by simp [chkP.chkPs] at h
  | .cons _ _, [], h => by simp [chkP.chkPs] at h
  | .nm _, [], h => by simp [chkP.chkPs] at h
  | .nm _, _ :: _, h => by simp [chkP.chkPs] at h
  | .tp _, [], h => by simp [chkP.chkPs] at h
  | .tp _, _ :: _, h => by simp [chkP.chkPs] at h
end
end
end Ov

set_option maxHeartbeats 4000000
namespace Ov
open PySem PySem.Spec PyProof.Rows L2 Evl
def isBoolE : Expr → Bool
  | .BoolOp .. => true
  | _ => false
def isCompE : Expr → Bool
  | .ListComp .. => true
  | _ => false
def ownable : IR → Bool
  | .call .. => true
  | e => fresh e
structure Snd (G : Cfg) (X : Cx) (e : Expr) (ir : IR) : Prop where
  de : DE X e (evE G ir)
  dt : isIfE e = false → DT X e (evT G ir)
  dw : isBoolE e = true → DW X e (evT G ir)
  own : ownable ir = true → DO X e (evO G ir)
  lc : isCompE e = true → ∃ te : TE, (∀ {i : Nat} {y : Str} {py spos : Pos}, X.N[i]? = some y → X.env.scope.names.lookup y = some .local → swapsWith e (some (.Name y py)) spos.line X.env = pure true → PS X (.Assign [.Name y py] e spos) (tAsg te (gName i))) ∧
    ∀ (n : Ent) (ρ : Slots) (σ : L2.St) (F H : Hp) (v : Vl) (ρ' : Slots) (Q : VK), Rel X.K n ρ σ F H → evE G ir ρ = some (v, ρ') → (∀ F' H' w c, Step X.K n σ ρ F H ρ' F' H' → v = .d c → Nw X.K H F' H' w c → Q w H') → te σ H Q
section
variable {X : Cx} {e a b c : Expr} {pos : Pos} {G : Cfg} {ia ib ic ir : IR}
theorem DN.congr {f f' : EF} (h : DN X e f) (hf : ∀ ρ, f' ρ = f ρ) : DN X e f' := by
  have : f' = f := funext hf
  rw [this]; exact h
theorem DE.congr {f f' : EF} (h : DE X e f) (hf : ∀ ρ, f' ρ = f ρ) : DE X e f' := by
  have : f' = f := funext hf
  rw [this]; exact h
/-- what is never reached -/
theorem Snd.junk (h : ∀ ρ, evE G ir ρ = none) (ho : ownable ir = false := by rfl) : Snd G X e ir := by
  have ht : ∀ ρ, evT G ir ρ = none := fun ρ => by unfold evT; rw [h]; rfl
  refine ⟨⟨fun _ _ _ => False, ⟨fun _ _ _ _ _ _ z => z.elim⟩, fun n ρ σ F H v ρ' Q rl g k => by rw [h] at g; cases g⟩,
    fun _ => ⟨fun _ _ _ => False, ⟨fun _ _ _ _ _ _ z => z.elim⟩, fun n ρ σ F H v ρ' Q rl g k => by rw [ht] at g; cases g⟩,
    fun _ => ⟨fun _ _ _ => False, ⟨fun _ _ _ _ _ _ _ z => z.elim⟩, fun n ρ σ F H v ρ' Q rl g k => by rw [ht] at g; cases g⟩,
    fun q => (by rw [ho] at q; cases q), fun _ => ⟨fun _ _ _ => False, fun {i y py spos} _ _ _ => ⟨fun _ _ _ _ _ _ z => (z : False).elim⟩, fun n ρ σ F H v ρ' Q rl g k => by rw [h] at g; cases g⟩⟩
theorem Snd.plain (h : DE X e (evE G ir)) (ho : ownable ir = false) (he : ∀ whole, isTrue e X.env whole = (do let v ← whole; standAt e.pos; holding [v] (truthy v))) (hb : isBoolE e = false) (hc : isCompE e = false := by rfl) : Snd G X e ir :=
  ⟨h, fun _ => h.dt he, fun q => (by rw [hb] at q; cases q), fun q => (by rw [ho] at q; cases q), fun q => (by rw [hc] at q; cases q)⟩
theorem Snd.new (h : DN X e (evE G ir)) (hf : fresh ir = true) (he : ∀ whole, isTrue e X.env whole = (do let v ← whole; standAt e.pos; holding [v] (truthy v))) (hb : isBoolE e = false) (hc : isCompE e = false := by rfl) : Snd G X e ir :=
  ⟨h.de, fun _ => h.de.dt he, fun q => (by rw [hb] at q; cases q), fun _ => h.own hf, fun q => (by rw [hc] at q; cases q)⟩
theorem dt_ife (hc : DT X c (evT G ic)) (ha : DT X a (evT G ia)) (hb : DT X b (evT G ib)) : DT X (.IfExp c a b pos) (evT G (.ife ic ia ib)) := by
  obtain ⟨tc, pc, qc⟩ := hc
  obtain ⟨ta, pa, qa⟩ := ha
  obtain ⟨tb, pb, qb⟩ := hb
  refine ⟨fun σ H Q => tc σ H fun p H1 => if p = true then ta σ H1 Q else tb σ H1 Q, ⟨fun pins s σ H Q I h => ?_⟩, fun n ρ σ F H b ρ' Q rl g k => ?_⟩
  · show wpAny _ _ (isTrue _ X.env (eval _ X.env) >>= _) _ _ s
    refine wpAny_bind (thn (pc.run pins s σ H _ I h) fun p s1 ⟨H1, I1, q1⟩ => ?_)
    cases p with
    | true => exact pa.run pins s1 σ H1 Q I1 q1
    | false => exact pb.run pins s1 σ H1 Q I1 q1
  · have g := evT_some g
    unfold evE at g
    obtain ⟨⟨va, ρ1⟩, ga, g⟩ := bind_some g
    obtain ⟨x, gx, g⟩ := bind_some g
    obtain ⟨p, gp, g⟩ := bind_some g
    refine qc n ρ σ F H p ρ1 _ rl (by unfold evT; rw [ga]; simp [gx, gp]) fun F1 H1 s1 => ?_
    cases p with
    | false =>
      simp only [Bool.false_eq_true, if_false] at g ⊢
      exact qb n _ σ F1 H1 b ρ' Q s1.rel (by unfold evT; rw [g]; rfl) fun F2 H2 s2 => k F2 H2 (s1.trans s2)
    | true =>
      simp only [if_true] at g ⊢
      exact qa n _ σ F1 H1 b ρ' Q s1.rel (by unfold evT; rw [g]; rfl) fun F2 H2 s2 => k F2 H2 (s1.trans s2)
theorem de_chain {o o' : COp} (hu : X.A.units + 65 < cLine) (ha : DE X a (evE G ia)) (hb : DE X b (evE G ib)) (hc : DE X c (evE G ic)) (hm : lastMarks [o.py, o'.py] [b, c] = false) :
    DE X (.Compare a [o.py, o'.py] [b, c] pos) (evE G (.chain o o' ia ib ic)) ∧ DT X (.Compare a [o.py, o'.py] [b, c] pos) (evT G (.chain o o' ia ib ic)) := by
  obtain ⟨ta, pa, qa⟩ := ha
  obtain ⟨tb, pb, qb⟩ := hb
  obtain ⟨tc, pc, qc⟩ := hc
  obtain ⟨r, hr, qr⟩ := opd_cmp hu o
  obtain ⟨r', hr', qr'⟩ := opd_cmp hu o'
  have core : ∀ (n : Ent) (ρ : Slots) (σ : L2.St) (F H : Hp) (v : Vl) (ρ' : Slots) (Q : VK), Rel X.K n ρ σ F H → evE G (.chain o o' ia ib ic) ρ = some (v, ρ') →
      (∀ F' H' z, Step X.K n σ ρ F H ρ' F' H' → v = .d (.bl z) → Q (.bl z) H') → tChain r r' ta tb tc σ H Q := fun n ρ σ F H v ρ' Q rl g k => by
    unfold evE at g
    obtain ⟨⟨va, ρ1⟩, ga, g⟩ := bind_some g
    obtain ⟨⟨vb, ρ2⟩, gb, g⟩ := bind_some g
    obtain ⟨x, gx, g⟩ := bind_some g
    obtain ⟨y, gy, g⟩ := bind_some g
    obtain ⟨z, gz, g⟩ := bind_some g
    refine qa n ρ σ F H va ρ1 _ rl ga fun F1 H1 w1 s1 v1 => qb n ρ1 σ F1 H1 vb ρ2 _ s1.rel gb fun F2 H2 w2 s2 v2 => ?_
    refine qr F2 H2 w1 w2 x y (.bl z) _ s2.rel.sub ((v1.mono s2.ex).look s2.rel gx) (v2.look s2.rel gy) (by simp [gz]) fun F3 H3 w3 al nw => ?_
    have nw : Rp X.K F3 w3 (.bl z) := nw
    cases nw
    have s3 := s2.trans (Step.al s2.rel al)
    refine ⟨z, rfl, ?_⟩
    cases z with
    | false =>
      simp only [Bool.false_eq_true, if_false] at g ⊢
      obtain ⟨rfl, rfl⟩ := pure_some g
      exact k F3 H3 false (s1.trans s3) rfl
    | true =>
      simp only [if_true] at g ⊢
      obtain ⟨⟨vc, ρ3⟩, gc, g⟩ := bind_some g
      obtain ⟨y', gy', g⟩ := bind_some g
      obtain ⟨w, gw, g⟩ := bind_some g
      obtain ⟨z', gz', g⟩ := bind_some g
      obtain ⟨rfl, rfl⟩ := pure_some g
      refine qc n ρ2 σ F3 H3 vc _ _ s3.rel gc fun F4 H4 w4 s4 v4 => ?_
      refine qr' F4 H4 w2 w4 y' w (.bl z') _ s4.rel.sub ((v2.mono (al.ex.trans s4.ex)).look s4.rel gy') (v4.look s4.rel gw) (by simp [gz']) fun F5 H5 w5 al5 nw5 => ?_
      have nw5 : Rp X.K F5 w5 (.bl z') := nw5
      cases nw5
      exact k F5 H5 z' ((s1.trans s3).trans (s4.trans (Step.al s4.rel al5))) rfl
  constructor
  · refine ⟨_, pe_chain hr hr' pa pb pc hm, fun n ρ σ F H v ρ' Q rl g k => core n ρ σ F H v ρ' Q rl g fun F' H' z s ev => ?_⟩
    subst ev
    exact k F' H' _ s (.bl z)
  · refine ⟨_, pt_chain hr hr' pa pb pc hm, fun n ρ σ F H v ρ' Q rl g k => core n ρ σ F H _ ρ' _ rl (evT_some g) fun F' H' z s ev => ?_⟩
    cases ev
    exact ⟨_, rfl, k F' H' s⟩
end
section
variable {T : Tab} {G : Cfg}
theorem tyTup_map {C : CI} : ∀ {ts : List Ty} {es : List Expr}, tyTup ts es = true → ∃ l : List (Pos × Ty), l.map (fun (y : Pos × Ty) => y.2) = ts ∧ es = l.map fun p => .Name (Str.ofString p.2.nm) p.1
  | [], [], _ => ⟨[], rfl, rfl⟩
  | t :: ts, e :: es, h => by
    cases e <;> try (simp [tyTup] at h; done)
    rename_i x p
    simp only [tyTup, Bool.and_eq_true, beq_iff_eq] at h
    obtain ⟨l, h1, h2⟩ := tyTup_map (C := C) h.2
    exact ⟨(p, t) :: l, by simp [h1], by simp [h2, h.1]⟩
  | [], _ :: _, h => by simp [tyTup] at h
  | _ :: _, [], h => by simp [tyTup] at h
theorem kw_len : ∀ {kws : List Keyword}, (kws.all fun q => q.arg.isSome) = true → (kws.filterMap (·.arg)).length = kws.length
  | [], _ => rfl
  | ⟨nm, v, q⟩ :: kws, h => by
    simp only [List.all_cons, Bool.and_eq_true] at h
    cases nm with
    | none => cases h.1
    | some nm => simp [kw_len h.2]
theorem sole {X : Cx} {e : Expr} (h : isStar e = false) : starEach [e] X.env = [(false, eval e X.env)] := star1 h
theorem plainIx {k : Expr} (h : isSlice k = false) : PlainIx k := fun o i => by
  cases k <;> first | rfl | cases h
theorem noSet {X : Cx} {iter : Expr} (h : isSetE iter = false) : ∀ x, foldedSetIterable iter X.env x = pure x := fun x => by
  cases iter <;> first | rfl | cases h
theorem name_plain {X : Cx} {x : Str} {pos : Pos} : ∀ whole, isTrue (.Name x pos) X.env whole = (do let v ← whole; standAt (Expr.Name x pos).pos; holding [v] (truthy v)) := fun _ => rfl
theorem ownOf_snd (C : CI) (vs : List Nat) : (ownOf C vs).map (fun (q : Str × Nat) => q.2) = vs := by
  induction vs with
  | nil => rfl
  | cons a l ih => unfold ownOf at ih ⊢; rw [List.map_cons, List.map_cons, ih]
theorem chkP_tup {C : CI} {p : Pat} {es : List Expr} {kk : Nat} {tpos : Pos} (h : chkP C p (.Tuple es kk tpos) = true) : ∃ q, p = .tp q := by
  cases p <;> first | exact ⟨_, rfl⟩ | (simp [chkP] at h)
theorem di_of {C : CI} {X : Cx} {pt : Pat} {tg iter : Expr} {k : ItK} {ia ib : IR} (hp : ∀ es kk tpos, tg = .Tuple es kk tpos → ∃ q, pt = .tp q) (g : Good T G X C) (sa : ∀ {e : Expr}, chkE T C ia e = true → DE X e (evE G ia)) (sb : ∀ {e : Expr}, chkE T C ib e = true → DE X e (evE G ib)) (h : chkI T C k ia ib tg iter = true) : DI X pt tg iter (evI G k ia ib) := by
  cases k with
  | seq => exact di_seq (sa h)
  | rng =>
    cases iter <;> try (simp [chkI] at h; done)
    rename_i fe as ks pos
    match fe, as, ks, h with
    | .Name x p, [l], [], h =>
      simp only [chkI, Bool.and_eq_true, beq_iff_eq, Bool.not_eq_true'] at h
      obtain ⟨⟨⟨⟨h1, h2⟩, h3⟩, h4⟩, h5⟩ := h
      subst h1
      exact di_range1 (g.gl h2) (g.free' h3) (sole h4) (sa h5)
  | enm =>
    cases iter <;> try (simp [chkI] at h; done)
    rename_i fe as ks pos
    cases tg <;> try (simp [chkI] at h; done)
    match fe, as, ks, h with
    | .Name x p, [l], [], h =>
      simp only [chkI, Bool.and_eq_true, beq_iff_eq, Bool.not_eq_true'] at h
      obtain ⟨⟨⟨⟨h1, h2⟩, h3⟩, h4⟩, h5⟩ := h
      subst h1
      obtain ⟨q, rfl⟩ := hp _ _ _ rfl
      exact di_enum (g.gl h2) (g.free' h3) (sole h4) (sa h5)
  | zip =>
    cases iter <;> try (simp [chkI] at h; done)
    rename_i fe as ks pos
    cases tg <;> try (simp [chkI] at h; done)
    match fe, as, ks, h with
    | .Name x p, [l, m], [], h =>
      simp only [chkI, Bool.and_eq_true, beq_iff_eq, Bool.not_eq_true'] at h
      obtain ⟨⟨⟨⟨⟨⟨h1, h2⟩, h3⟩, h4⟩, h5⟩, h6⟩, h7⟩ := h
      subst h1
      obtain ⟨q, rfl⟩ := hp _ _ _ rfl
      exact di_zip (g.gl h2) (g.free' h3) (star1 h4) (sole h5) (sa h6) (sb h7)
mutual
theorem snd : ∀ (ir : IR) {C : CI} {X : Cx} {e : Expr}, Good T G X C → chkE T C ir e = true → Snd G X e ir
  | .var i, C, X, e, g, h => by
    cases e <;> try (simp [chkE] at h; done)
    simp only [chkE] at h
    obtain ⟨h1, h2, h3, h4⟩ := g.name h
    exact .plain (de_var h1 h2 h3 h4) rfl (fun _ => rfl) rfl
  | .frz i, C, X, e, g, h => by
    cases e <;> try (simp [chkE] at h; done)
    simp only [chkE] at h
    obtain ⟨h1, h2, h3, h4⟩ := g.name h
    exact .plain (de_frz h1 h2 h3 h4) rfl (fun _ => rfl) rfl
  | .glob gi, C, X, e, g, h => by
    cases e <;> try (simp [chkE] at h; done)
    rename_i x pos
    simp only [chkE, Bool.and_eq_true, beq_iff_eq, Bool.not_eq_true'] at h
    obtain ⟨u, v, d, h1, h2, h3, h4⟩ := g.gls _ _ h.1.1
    have q := de_const (pe_glob (pos := pos) (g.gl h.1.2) h1 h2 h.2) (fun σ H Q q => q) h4
    refine .plain ?_ rfl (fun _ => rfl) rfl
    have e2 : evE G (.glob gi) = fun ρ => some (.d d, ρ) := by funext ρ; simp [evE, h3]
    rw [e2]; exact q
  | .int n, C, X, e, g, h => by
    cases e <;> try (simp [chkE] at h; done)
    rename_i c k pos
    cases c <;> try (simp [chkE] at h; done)
    simp only [chkE, beq_iff_eq] at h; subst h
    refine .plain ?_ rfl (fun _ => rfl) rfl
    have e2 : evE G (.int n) = fun ρ => some (.d (.int n), ρ) := by funext ρ; simp [evE]
    rw [e2]; exact de_const pe_int (fun σ H Q q => q) fun F => .int n
  | .str n, C, X, e, g, h => by
    cases e <;> try (simp [chkE] at h; done)
    rename_i c k pos
    cases c <;> try (simp [chkE] at h; done)
    simp only [chkE, beq_iff_eq] at h; subst h
    refine .plain ?_ rfl (fun _ => rfl) rfl
    have e2 : evE G (.str n) = fun ρ => some (.d (.str n), ρ) := by funext ρ; simp [evE]
    rw [e2]; exact de_const pe_str (fun σ H Q q => q) fun F => .str n
  | .bl n, C, X, e, g, h => by
    cases e <;> try (simp [chkE] at h; done)
    rename_i c k pos
    cases c <;> try (simp [chkE] at h; done)
    simp only [chkE, beq_iff_eq] at h; subst h
    refine .plain ?_ rfl (fun _ => rfl) rfl
    have e2 : evE G (.bl n) = fun ρ => some (.d (.bl n), ρ) := by funext ρ; simp [evE]
    rw [e2]; exact de_const pe_bl (fun σ H Q q => q) fun F => .bl n
  | .non, C, X, e, g, h => by
    cases e <;> try (simp [chkE] at h; done)
    rename_i c k pos
    cases c <;> try (simp [chkE] at h; done)
    refine .plain ?_ rfl (fun _ => rfl) rfl
    have e2 : evE G .non = fun ρ => some (.d .non, ρ) := by funext ρ; simp [evE]
    rw [e2]; exact de_const pe_non (fun σ H Q q => q) fun F => .non
  | .op o a b, C, X, e, g, h => by
    cases e <;> try (simp [chkE] at h; done)
    rename_i l o' r pos
    simp only [chkE, Bool.and_eq_true, decide_eq_true_eq] at h
    obtain ⟨⟨ho, h1⟩, h2⟩ := h
    subst ho
    have sa := snd a g h1
    have sb := snd b g h2
    have key : ∀ {o : BOp}, OpD X (binaryOp o.py) (opD o) → DN X (.BinOp l o.py r pos) (evE G (.op o a b)) := fun {o} hd => by
      exact (dn_op (pos := pos) hd sa.de sb.de).congr fun ρ => by rw [evE]
    cases o with
    | add => exact .new (key (o := .add) opd_add) rfl (fun _ => rfl) rfl
    | mul => exact .new (key (o := .mul) opd_mul) rfl (fun _ => rfl) rfl
    | sub => exact .plain (key (o := .sub) opd_sub).de rfl (fun _ => rfl) rfl
    | fdiv => exact .plain (key (o := .fdiv) opd_fdiv).de rfl (fun _ => rfl) rfl
    | mod => exact .plain (key (o := .mod) opd_mod).de rfl (fun _ => rfl) rfl
    | pow => exact .plain (key (o := .pow) opd_pow).de rfl (fun _ => rfl) rfl
  | .neg a, C, X, e, g, h => by
    cases e <;> try (simp [chkE] at h; done)
    rename_i o l pos
    cases o <;> try (simp [chkE] at h; done)
    simp only [chkE] at h
    exact .plain (de_neg (snd a g h).de) rfl (fun _ => rfl) rfl
  | .cmp o a b, C, X, e, g, h => by
    cases e <;> try (simp [chkE] at h; done)
    rename_i l os rs pos
    match os, rs, h with
    | [o'], [r], h =>
      simp only [chkE, Bool.and_eq_true, decide_eq_true_eq, Bool.not_eq_true'] at h
      obtain ⟨⟨⟨ho, h1⟩, h2⟩, h3⟩ := h
      subst ho
      obtain ⟨q1, q2⟩ := de_cmp (pos := pos) (o := o) g.units (snd a g h1).de (snd b g h2).de h3
      refine ⟨?_, fun _ => ?_, fun q => (by cases q), fun q => (by cases q), fun q => (by cases q)⟩
      · exact q1.congr fun ρ => by rw [evE]
      · obtain ⟨t, pt, qt⟩ := q2
        refine ⟨t, pt, fun n ρ σ F H bv ρ' Q rl g k => qt n ρ σ F H bv ρ' Q rl ?_ k⟩
        have g := evT_some g
        unfold evE at g
        obtain ⟨⟨va, ρ1⟩, ga, g⟩ := bind_some g
        obtain ⟨⟨vb, ρ2⟩, gb, g⟩ := bind_some g
        obtain ⟨x, gx, g⟩ := bind_some g
        obtain ⟨y, gy, g⟩ := bind_some g
        obtain ⟨z, gz, g⟩ := bind_some g
        obtain ⟨e1, rfl⟩ := pure_some g
        cases e1
        simp [ga, gb, gx, gy, gz]
  | .chain o o' a b c, C, X, e, g, h => by
    cases e <;> try (simp [chkE] at h; done)
    rename_i l os rs pos
    match os, rs, h with
    | [p, q], [m, r], h =>
      simp only [chkE, Bool.and_eq_true, decide_eq_true_eq, Bool.not_eq_true'] at h
      obtain ⟨⟨⟨⟨⟨ho, ho'⟩, h1⟩, h2⟩, h3⟩, h4⟩ := h
      subst ho ho'
      obtain ⟨q1, q2⟩ := de_chain (pos := pos) g.units (snd a g h1).de (snd b g h2).de (snd c g h3).de h4
      exact ⟨q1, fun _ => q2, fun q => (by cases q), fun q => (by cases q), fun q => (by cases q)⟩
  | .isn ng a, C, X, e, g, h => by
    cases e <;> try (simp [chkE] at h; done)
    rename_i l os rs pos
    match os, rs, h with
    | [o'], [.Constant .none j p], h =>
      simp only [chkE, Bool.and_eq_true, decide_eq_true_eq] at h
      obtain ⟨ho, h1⟩ := h
      subst ho
      obtain ⟨q1, q2⟩ := de_isn (pos := pos) (j := j) (p := p) ng (snd a g h1).de
      exact ⟨q1, fun _ => q2, fun q => (by cases q), fun q => (by cases q), fun q => (by cases q)⟩
  | .one a, C, X, e, g, h => by
    cases e <;> try (simp [chkE] at h; done)
    rename_i op vs pos
    match vs, h with
    | [l], h =>
      simp only [chkE, Bool.and_eq_true] at h
      have sa := snd a g h.1
      have dt : DT X l (evT G a) := by
        by_cases hi : isIfE l = false
        · exact sa.dt hi
        · cases l <;> first | exact absurd rfl hi | skip
          rename_i ce ae be p2
          cases a <;> try (have h1 := h.1; simp [chkE] at h1; done)
          all_goals first
            | exact ⟨fun _ _ _ => False, ⟨fun _ _ _ _ _ _ z => z.elim⟩, fun n ρ σ F H v ρ' Q rl g k => by
                have e : evE G .skip ρ = none := by unfold evE; rfl
                rw [evT, e] at g; cases g⟩
            | (rename_i c x y h0
               have h1 := h.1
               have h2 := h.2
               simp only [chkE, oneB, Bool.and_eq_true, Bool.not_eq_true'] at h1 h2
               exact dt_ife ((snd c g h1.1.1.1).dt h1.1.1.2) ((snd x g h1.1.2).dt h2.1) ((snd y g h1.2).dt h2.2))
            | (rename_i c x y
               have h1 := h.1
               have h2 := h.2
               simp only [chkE, oneB, Bool.and_eq_true, Bool.not_eq_true'] at h1 h2
               exact dt_ife ((snd c g h1.1.1.1).dt h1.1.1.2) ((snd x g h1.1.2).dt h2.1) ((snd y g h1.2).dt h2.2))
      obtain ⟨q1, q2⟩ := de_one (pos := pos) (op := op) sa.de dt
      exact ⟨q1, fun _ => q2.dt, fun _ => q2, fun q => (by cases q), fun q => (by cases q)⟩
  | .band a b, C, X, e, g, h => by
    cases e <;> try (simp [chkE] at h; done)
    rename_i op vs pos
    match op, vs, h with
    | .And, l :: m :: rest, h =>
      simp only [chkE, Bool.and_eq_true, Bool.not_eq_true'] at h
      have sa := snd a g h.1.1
      have sb := snd b g h.2
      obtain ⟨q1, q2⟩ := de_and sa.de (sa.dt h.1.2) sb.de (sb.dw rfl)
      exact ⟨q1, fun _ => q2.dt, fun _ => q2, fun q => (by cases q), fun q => (by cases q)⟩
  | .bor a b, C, X, e, g, h => by
    cases e <;> try (simp [chkE] at h; done)
    rename_i op vs pos
    match op, vs, h with
    | .Or, l :: m :: rest, h =>
      simp only [chkE, Bool.and_eq_true, Bool.not_eq_true'] at h
      have sa := snd a g h.1.1
      have sb := snd b g h.2
      obtain ⟨q1, q2⟩ := de_or sa.de (sa.dt h.1.2) sb.de (sb.dw rfl)
      exact ⟨q1, fun _ => q2.dt, fun _ => q2, fun q => (by cases q), fun q => (by cases q)⟩
  | .bnot a, C, X, e, g, h => by
    cases e <;> try (simp [chkE] at h; done)
    rename_i o l pos
    cases o <;> try (simp [chkE] at h; done)
    simp only [chkE, Bool.and_eq_true, Bool.not_eq_true'] at h
    have sa := snd a g h.1
    obtain ⟨q1, q2⟩ := de_not (pos := pos) sa.de (sa.dt h.2)
    exact ⟨q1, fun _ => q2, fun q => (by cases q), fun q => (by cases q), fun q => (by cases q)⟩
  | .ife c a b, C, X, e, g, h => by
    cases e <;> try (simp [chkE] at h; done)
    simp only [chkE, Bool.and_eq_true, Bool.not_eq_true'] at h
    exact ⟨de_ife ((snd c g h.1.1.1).dt h.1.1.2) (snd a g h.1.2).de (snd b g h.2).de, fun q => (by cases q), fun q => (by cases q), fun q => (by cases q), fun q => (by cases q)⟩
  | .tup es, C, X, e, g, h => by
    cases e <;> try (simp [chkE] at h; done)
    simp only [chkE] at h
    exact .plain (de_tup (sndL es g h).1) rfl (fun _ => rfl) rfl
  | .lst es, C, X, e, g, h => by
    cases e <;> try (simp [chkE] at h; done)
    simp only [chkE] at h
    exact .new (dn_lst (sndL es g h).1) rfl (fun _ => rfl) rfl
  | .idx a i, C, X, e, g, h => by
    cases e <;> try (simp [chkE] at h; done)
    simp only [chkE, Bool.and_eq_true, Bool.not_eq_true'] at h
    exact .plain (de_idx (plainIx h.2) (snd a g h.1.1).de (snd i g h.1.2).de) rfl (fun _ => rfl) rfl
  | .dget a i, C, X, e, g, h => by
    cases e <;> try (simp [chkE] at h; done)
    rename_i l k pos
    cases l <;> try (simp [chkE] at h; done)
    rename_i fe as ks pos'
    match fe, as, ks, h with
    | .Name x p, [l], [], h =>
      simp only [chkE, Bool.and_eq_true, beq_iff_eq, Bool.not_eq_true'] at h
      obtain ⟨⟨⟨⟨⟨⟨h1, h2⟩, h3⟩, h4⟩, h5⟩, h6⟩, h7⟩ := h
      subst h1
      exact .plain (de_dget g.calm g.units (g.gl h2) (g.free' h3) (sole h4) (plainIx h7) (snd a g h5).de (snd i g h6).de) rfl (fun _ => rfl) rfl
  | .lrng a b, C, X, e, g, h => by
    cases e <;> try (simp [chkE] at h; done)
    rename_i fe as ks pos
    match fe, as, ks, h with
    | .Name x p, [.Call (.Name y p') [l, m] [] pos'], [], h =>
      simp only [chkE, Bool.and_eq_true, beq_iff_eq, Bool.not_eq_true'] at h
      obtain ⟨⟨⟨⟨⟨⟨⟨⟨⟨h1, h2⟩, h3⟩, h4⟩, h5⟩, h6⟩, h7⟩, h8⟩, h9⟩, h10⟩ := h
      subst h1
      subst h4
      exact .new (dn_lrng g.calm (g.gl h2) (g.free' h3) (g.gl h5) (g.free' h6) (star1 h7) (sole h8) (fun _ => rfl) (snd a g h9).de (snd b g h10).de) rfl (fun _ => rfl) rfl
  | .gdg gi k, C, X, e, g, h => by
    cases e <;> try (simp [chkE] at h; done)
    rename_i l i pos
    cases l <;> try (simp [chkE] at h; done)
    rename_i x p
    simp only [chkE, Bool.and_eq_true, beq_iff_eq, Bool.not_eq_true'] at h
    obtain ⟨⟨⟨⟨h1, h2⟩, h3⟩, h4⟩, h5⟩ := h
    obtain ⟨a, es, n, kvs, q1, q2, q3, q4⟩ := g.dds gi x h1
    exact .plain (de_gdg q2 (g.gl h2) q1 h3 q3 q4.1 (plainIx h5) (snd k g h4).de) rfl (fun _ => rfl) rfl
  | .mt m o es, C, X, e, g, h => by
    cases e <;> try (simp [chkE] at h; done)
    rename_i fe as ks pos
    match fe, as, ks, h with
    | .Attribute oe nm ap, [a], [], h =>
      simp only [chkE, Bool.and_eq_true, beq_iff_eq] at h
      obtain ⟨⟨⟨⟨h1, h2⟩, h3⟩, h4⟩, h5⟩ := h
      subst h2
      have so := snd o g h3
      have hbase : ∀ s : Str, attributeBase oe s X.env (eval oe X.env) = eval oe X.env := by
        intro s
        cases oe <;> first | rfl | (simp [recvB] at h1)
      cases m with
      | join =>
        match es, h4 with
        | .cons ia ib, h4 =>
          simp only [chkL, Bool.and_eq_true, Bool.not_eq_true'] at h4
          match ib, h4 with
          | .nil, h4 => exact .plain (de_join (hbase _) so.de (snd ia g h4.1.2).de (by simpa using h5) (star1 h4.1.1)) rfl (fun _ => rfl) rfl
      | index =>
        obtain ⟨l1, l2, l3, _⟩ := sndL es g h4
        have hfew : ((backTo pos (starEach [a] X.env)).all (fun x => !x.1) && (backToKw pos (keywordEach [] X.env)).all (fun x => x.1.isSome)
            && decide ([a].length + ([] : List Keyword).length + (if ([] : List Keyword).isEmpty then 0 else 1) < 30)) = true := by
          rw [starAll l2]
          simp [keywordEach, backToKw]
        exact .plain (de_index (hbase _) g.units so.de l1 hfew (by simpa using h5) (star1 (l2 a (List.mem_cons_self ..)))) rfl (fun _ => rfl) rfl
  | .stp a s, C, X, e, g, h => by
    cases e <;> try (simp [chkE] at h; done)
    rename_i l k pos
    cases k <;> try (simp [chkE] at h; done)
    rename_i x y st p2
    match x, y, st, h with
    | none, none, some st, h =>
      simp only [chkE, Bool.and_eq_true] at h
      refine .new (dn_stp (fun q => ?_) (snd a g h.1).de (snd s g h.2).de) rfl (fun _ => rfl) rfl
      have z := h.2
      rw [q] at z; simp [chkE] at z
  | .isb ng a b, C, X, e, g, h => by
    cases e <;> try (simp [chkE] at h; done)
    rename_i l os rs pos
    match os, rs, h with
    | [o'], [.Constant (.bool b') j p], h =>
      simp only [chkE, Bool.and_eq_true, decide_eq_true_eq, beq_iff_eq] at h
      obtain ⟨⟨ho, hb⟩, h1⟩ := h
      subst ho hb
      obtain ⟨q1, q2⟩ := de_isb (pos := pos) (j := j) (p := p) ng b (snd a g h1).de
      exact ⟨q1, fun _ => q2, fun q => (by cases q), fun q => (by cases q), fun q => (by cases q)⟩
  | .slc a lo hi, C, X, e, g, h => by
    cases e <;> try (simp [chkE] at h; done)
    rename_i l k pos
    cases k <;> try (simp [chkE] at h; done)
    rename_i x y st p2
    cases st <;> try (simp [chkE] at h; done)
    simp only [chkE, Bool.and_eq_true] at h
    obtain ⟨⟨h1, h2⟩, h3⟩ := h
    have sl : DP X x (evPt G lo) := by
      cases x with
      | none =>
        cases lo <;> first | exact dp_none | (simp at h2)
      | some x =>
        refine dp_some (fun q => ?_) (snd lo g h2).de
        rw [q] at h2; simp [chkE] at h2
    have sh : DP X y (evPt G hi) := by
      cases y with
      | none =>
        cases hi <;> first | exact dp_none | (simp at h3)
      | some y =>
        refine dp_some (fun q => ?_) (snd hi g h3).de
        rw [q] at h3; simp [chkE] at h3
    exact .new (dn_slc (snd a g h1).de sl sh) rfl (fun _ => rfl) rfl
  | .call f es, C, X, e, g, h => by
    cases e <;> try (simp [chkE] at h; done)
    rename_i fe as ks pos
    match fe, as, ks, h with
    | .Name x p, a :: as, [], h =>
      simp only [chkE, Bool.and_eq_true, decide_eq_true_eq, Bool.not_eq_true'] at h
      obtain ⟨⟨⟨h1, h2⟩, h3⟩, h4⟩ := h
      obtain ⟨k, ad, fd, ps, f1, f2, f3, f4, f5, f6⟩ := g.fns _ _ _ h1
      obtain ⟨l1, l2, l3, _⟩ := sndL es g h4
      obtain ⟨q1, q2⟩ := de_call (p := p) (pos := pos) f1 g.gds f2 (g.gl h2) f3 f4 f5 f6 h3 (star1 (l2 a (List.mem_cons_self ..))) (starAny fun e he => l2 e (List.mem_cons_of_mem _ he)) l1 l3
      exact ⟨q1, fun _ => q1.dt fun _ => rfl, fun q => (by cases q), fun _ => q2, fun q => (by cases q)⟩
  | .callK s ks, C, X, e, g, h => by
    cases e <;> try (simp [chkE] at h; done)
    rename_i fe as kws pos
    match fe, as, h with
    | .Name x p, [], h =>
      simp only [chkE, Bool.and_eq_true, decide_eq_true_eq, Bool.not_eq_true'] at h
      obtain ⟨⟨⟨⟨h1, h2⟩, h3⟩, h4⟩, h5⟩ := h
      obtain ⟨k, ad, fd, ps, fi, o, f1, f2, f3, f4, f5, f6, f7⟩ := g.shs _ _ _ h1
      obtain ⟨l1, l2, l3, l4⟩ := sndL ks g h5
      have hl : (kws.filterMap (·.arg)).length = (kws.map (·.value)).length := by rw [List.length_map]; exact kw_len h2
      exact .plain (de_callK (p := p) (pos := pos) f1 g.gds f2 (g.gl h3) f3 f4 f5 f6 f7 h4 h2 rfl (l4 kws rfl) fun ρ ρ' vs q => (l3 ρ ρ' vs q).trans hl.symm) rfl (fun _ => rfl) rfl
  | .callT f gf es, C, X, e, g, h => by
    cases e <;> try (simp [chkE] at h; done)
    rename_i fe as ks pos
    match fe, as, ks, h with
    | .Name x p, [.Call (.Name y p2) (a :: as) [] pos2], [], h =>
      simp only [chkE, Bool.and_eq_true, decide_eq_true_eq, Bool.not_eq_true'] at h
      obtain ⟨⟨⟨⟨⟨⟨h1, h2⟩, h3⟩, h1'⟩, h2'⟩, h3'⟩, h4⟩ := h
      obtain ⟨k, ad, fd, ps, f1, f2, f3, f4, f5, f6⟩ := g.fns _ _ _ h1
      obtain ⟨k', ad', fd', ps', f1', f2', f3', f4', f5', f6'⟩ := g.fns _ _ _ h1'
      obtain ⟨l1, l2, l3, _⟩ := sndL es g h4
      obtain ⟨q1, q2⟩ := de_call (p := p2) (pos := pos2) f1' g.gds f2' (g.gl h2') f3' f4' f5' f6' h3' (star1 (l2 a (List.mem_cons_self ..))) (starAny fun e he => l2 e (List.mem_cons_of_mem _ he)) l1 l3
      exact .plain (de_callT (p := p) (pos := pos) f1 g.gds f2 (g.gl h2) f3 f4 f5 f6 h3 q2 rfl) rfl (fun _ => rfl) rfl
  | .bi b es, C, X, e, g, h => by
    cases e <;> try (simp [chkE] at h; done)
    rename_i fe as ks pos
    match fe, as, ks, h with
    | .Name x p, a :: as, [], h =>
      simp only [chkE, Bool.and_eq_true, beq_iff_eq] at h
      obtain ⟨⟨⟨h1, h2⟩, h3⟩, h4⟩ := h
      obtain ⟨l1, l2, l3, _⟩ := sndL es g h4
      have q := dn_bi (p := p) (pos := pos) h1 g.calm g.gds g.units (g.gl h2) (g.free' h3) (star1 (l2 a (List.mem_cons_self ..))) (starAny fun e he => l2 e (List.mem_cons_of_mem _ he)) l1
      by_cases hb : b = .list
      · subst hb; exact .new q rfl (fun _ => rfl) rfl
      · refine .plain q.de ?_ (fun _ => rfl) rfl
        cases b <;> first | rfl | exact absurd rfl hb
  | .lenS a, C, X, e, g, h => by
    cases e <;> try (simp [chkE] at h; done)
    rename_i fe as ks pos
    match fe, as, ks, h with
    | .Name x p, [l], [], h =>
      simp only [chkE, Bool.and_eq_true, beq_iff_eq, Bool.not_eq_true'] at h
      obtain ⟨⟨⟨⟨h1, h2⟩, h3⟩, h4⟩, h5⟩ := h
      subst h1
      exact .plain (de_lenS (x := p) (g.gl h2) (g.free' h3) (sole h4) (snd a g h5).de) rfl (fun _ => rfl) rfl
  | .isi a ts, C, X, e, g, h => by
    cases e <;> try (simp [chkE] at h; done)
    rename_i fe as ks pos
    match fe, as, ks, h with
    | .Name x p, [l, t], [], h =>
      simp only [chkE, Bool.and_eq_true, beq_iff_eq, Bool.not_eq_true', Bool.or_eq_true] at h
      obtain ⟨⟨⟨⟨⟨⟨h1, h2⟩, h3⟩, h4⟩, h5⟩, h6⟩, h7⟩ := h
      subst h1
      have hts : ∀ t ∈ ts, Gl X (Str.ofString t.nm) ∧ X.mg (Str.ofString t.nm) = none := fun t ht => by
        have := List.all_eq_true.mp h6 t ht
        simp only [Bool.and_eq_true] at this
        exact ⟨g.gl this.1, g.free' this.2⟩
      rcases h7 with h7 | h7
      · match ts, t, h7 with
        | [ty], .Name y q, h7 =>
          simp only [tyArgs, beq_iff_eq] at h7
          subst h7
          obtain ⟨k1, k2⟩ := hts ty (List.mem_cons_self ..)
          exact .plain (de_isi1 (g.gl h2) (g.free' h3) k1 k2 (star1 h4) (snd a g h5).de) rfl (fun _ => rfl) rfl
      · cases t <;> try (simp at h7; done)
        rename_i es k q
        simp only [Bool.and_eq_true, decide_eq_true_eq] at h7
        obtain ⟨ll, m1, m2⟩ := tyTup_map (C := C) h7.1
        subst m1 m2
        refine .plain (de_isiT (g.gl h2) (g.free' h3) hts ?_ (star1 h4) (snd a g h5).de) rfl (fun _ => rfl) rfl
        have := h7.2
        rw [List.length_map] at this
        exact Nat.le_trans this (by decide)
  | .ggt gi k d, C, X, e, g, h => by
    cases e <;> try (simp [chkE] at h; done)
    rename_i fe as ks pos
    match fe, as, ks, h with
    | .Attribute (.Name x p) nm ap, [ke, de], [], h =>
      simp only [chkE, Bool.and_eq_true, beq_iff_eq, Bool.not_eq_true'] at h
      obtain ⟨⟨⟨⟨⟨⟨⟨⟨h1, h2⟩, h3⟩, h4⟩, h5⟩, h6⟩, h7⟩, h8⟩, h9⟩ := h
      subst h4
      obtain ⟨a, es, n, kvs, q1, q2, q3, q4⟩ := g.dds gi x h1
      have hst : ∀ e ∈ [ke, de], isStar e = false := fun e he => by
        simp only [List.mem_cons, List.not_mem_nil, or_false] at he
        rcases he with rfl | rfl <;> assumption
      have m2 : M2 X (.Name x p) "get" ap ke de pos := ⟨rfl, by rw [starAll hst]; simp [keywordEach, backToKw], by simpa using h9, by rw [star1 h5, star1 h6]; rfl⟩
      exact .plain (de_ggt q2 (g.gl h2) q1 h3 q3 q4 (snd k g h7).de (snd d g h8).de m2) rfl (fun _ => rfl) rfl
  | .dgi i k, C, X, e, g, h => by
    cases e <;> try (simp [chkE] at h; done)
    rename_i l ke pos
    cases l <;> try (simp [chkE] at h; done)
    rename_i x p
    simp only [chkE, Bool.and_eq_true, Bool.not_eq_true'] at h
    obtain ⟨⟨h1, h2⟩, h3⟩ := h
    obtain ⟨k1, k2, k3, k4⟩ := g.name h1
    exact .plain (de_dgi (by have := g.units; omega) k1 k2 k3 k4 (plainIx h3) (snd k g h2).de) rfl (fun _ => rfl) rfl
  | .din ng i k, C, X, e, g, h => by
    cases e <;> try (simp [chkE] at h; done)
    rename_i l os rs pos
    match os, rs, h with
    | [o'], [.Name x p], h =>
      simp only [chkE, Bool.and_eq_true, decide_eq_true_eq] at h
      obtain ⟨⟨h1, h2⟩, h3⟩ := h
      subst h1
      obtain ⟨k1, k2, k3, k4⟩ := g.name h2
      obtain ⟨q1, q2⟩ := de_din (pos := pos) (p := p) ng (by have := g.units; omega) k1 k2 k3 k4 (snd k g h3).de
      exact ⟨q1, fun _ => q2, fun q => (by cases q), fun q => (by cases q), fun q => (by cases q)⟩
  | .dmem _ _ _, C, X, e, g, h => by simp [chkE] at h
  | .dgt i k d, C, X, e, g, h => by
    cases e <;> try (simp [chkE] at h; done)
    rename_i fe as ks pos
    match fe, as, ks, h with
    | .Attribute (.Name x p) nm ap, [ke, de], [], h =>
      simp only [chkE, Bool.and_eq_true, beq_iff_eq, Bool.not_eq_true'] at h
      obtain ⟨⟨⟨⟨⟨⟨h1, h2⟩, h3⟩, h4⟩, h5⟩, h6⟩, h7⟩ := h
      subst h2
      obtain ⟨k1, k2, k3, k4⟩ := g.name h1
      have hst : ∀ e ∈ [ke, de], isStar e = false := fun e he => by
        simp only [List.mem_cons, List.not_mem_nil, or_false] at he
        rcases he with rfl | rfl <;> assumption
      have m2 : M2 X (.Name x p) "get" ap ke de pos := ⟨rfl, by rw [starAll hst]; simp [keywordEach, backToKw], by simpa using h7, by rw [star1 h3, star1 h4]; rfl⟩
      exact .plain (de_dgt (by have := g.units; omega) k1 k2 k3 k4 (snd k g h5).de (snd d g h6).de m2) rfl (fun _ => rfl) rfl
  | .lset a, C, X, e, g, h => by
    cases e <;> try (simp [chkE] at h; done)
    rename_i fe as ks pos
    match fe, as, ks, h with
    | .Name x p, [.Call (.Name y p2) [l] [] pos1], [], h =>
      simp only [chkE, Bool.and_eq_true, beq_iff_eq, Bool.not_eq_true'] at h
      obtain ⟨⟨⟨⟨⟨⟨⟨h1, h2⟩, h3⟩, h4⟩, h5⟩, h6⟩, h7⟩, h8⟩ := h
      subst h1
      subst h4
      exact .plain (de_lset g.calm (g.gl h2) (g.free' h3) (g.gl h5) (g.free' h6) (sole h7) (sole rfl) (snd a g h8).de) rfl (fun _ => rfl) rfl
  | .mu m i es, C, X, e, g, h => by
    cases e <;> try (simp [chkE] at h; done)
    rename_i fe as ks pos
    match fe, as, ks, h with
    | .Attribute (.Name x p) nm ap, a :: as, [], h =>
      simp only [chkE, Bool.and_eq_true, beq_iff_eq, decide_eq_true_eq] at h
      obtain ⟨⟨⟨⟨⟨h1, h2⟩, h3⟩, h4⟩, h5⟩, h6⟩ := h
      subst h2
      obtain ⟨k1, k2, k3, k4⟩ := g.name h1
      obtain ⟨l1, l2, l3, _⟩ := sndL es g h3
      have hfew : ((backTo pos (starEach (a :: as) X.env)).all (fun x => !x.1) && (backToKw pos (keywordEach [] X.env)).all (fun x => x.1.isSome)
          && decide ((a :: as).length + ([] : List Keyword).length + (if ([] : List Keyword).isEmpty then 0 else 1) < 30)) = true := by
        rw [starAll l2]
        have : (a :: as).length < 30 := by simp; omega
        simp [keywordEach, backToKw]; omega
      have hpl := starAny (env := X.env) (pos := pos) fun e he => l2 e (List.mem_cons_of_mem a he)
      have key : ∀ {id : String}, MuR X id m → Slot "list" (Str.ofString m.name) id → typeOf (.builtin id) = pure (.type "method_descriptor") → Snd G X (.Call (.Attribute (.Name x p) (Str.ofString m.name) ap) (a :: as) [] pos) (.mu m i es) := fun {id} q1 q2 q3 =>
        .plain (de_mu q1 q2 q3 k1 k2 k3 k4 l1 hfew (by simpa using h5) (star1 (l2 a (List.mem_cons_self ..))) hpl) rfl (fun _ => rfl) rfl
      cases m with
      | append => exact key mur_append PySem.F.slot_list_append PySem.F.type_list_append
      | extend => exact key mur_extend PySem.F.slot_list_extend PySem.F.type_list_extend
      | popAt => exact key mur_popAt PySem.F.slot_list_pop PySem.F.type_list_pop
      | pop => cases h6
      | insert => exact key mur_insert PySem.F.slot_list_insert PySem.F.type_list_insert
  | .comp vs p k ia ib c e, C, X, ex, g, h => by
    cases ex <;> try (simp [chkE] at h; done)
    rename_i elt gens scope pos
    match gens, h with
    | [⟨tg, iter, ifs, 0⟩], h =>
      simp only [chkE, Bool.and_eq_true, Bool.not_eq_true'] at h
      obtain ⟨⟨⟨⟨⟨⟨h1, h2⟩, h3⟩, h4⟩, h5⟩, h6⟩, h7⟩ := h
      have hvs : (ownOf C vs).map (·.2) = vs := ownOf_snd C vs
      have sa : ∀ {e : Expr}, chkE T C ia e = true → DE X e (evE G ia) := fun h => (snd ia g h).de
      have sb : ∀ {e : Expr}, chkE T C ib e = true → DE X e (evE G ib) := fun h => (snd ib g h).de
      have hi : DI X p tg iter (evI G k ia ib) := di_of (fun es kk tpos e => by subst e; exact chkP_tup h5) g sa sb h3
      have ok : BlkOk X.N X.env.scope scope (ownOf C vs) := by rw [g.N, g.sc]; exact blkOk_by h1
      have sc : ∀ (s : Shared) (H : Hp) (C' : Addr) (cl : List (Str × Addr)) (fp : List Addr), PTs (X.blk s H scope (compEnvC scope cl C' X.env) fp) ifs (tOfT X.K (evC G c)) := fun s H C' cl fp => by
        match ifs, h6 with
        | [], h6 =>
          have hc : c = .nil := by cases c <;> first | rfl | (simp at h6)
          subst hc
          exact dc_nil
        | [t], h6 =>
          simp only [Bool.and_eq_true, Bool.not_eq_true'] at h6
          have hn : c ≠ .nil := fun q => by rw [q] at h6; simp at h6
          exact dc_one hn ((snd c (g.blk scope s H C' cl fp) h6.2).dt h6.1.2)
      obtain ⟨wi, pi, q⟩ := dn_comp (own := ownOf C vs) (p := p) (ci := c) (ei := e) g.calm (by rw [g.N]; exact g.nd) hi ok (fun i hi => by rw [hvs]; simpa using List.all_eq_true.mp h2 i hi)
        (fun s H C' cl fp => pg_of (g.blk scope s H C' cl fp) h5) sc (fun s H C' cl fp => (snd e (g.blk scope s H C' cl fp) h7).de.can) (noSet h4)
      rw [hvs] at q
      have hN : X.N.Nodup := by rw [g.N]; exact g.nd
      have hg : ∀ (s : Shared) (H : Hp) (C' : Addr) (cl : List (Str × Addr)) (fp : List Addr), PG (X.blk s H scope (compEnvC scope cl C' X.env) fp) tg (tOfG X.K p) := fun s H C' cl fp => pg_of (g.blk scope s H C' cl fp) h5
      have he : ∀ (s : Shared) (H : Hp) (C' : Addr) (cl : List (Str × Addr)) (fp : List Addr), PE (X.blk s H scope (compEnvC scope cl C' X.env) fp) elt (tOfE X.K (evE G e)) := fun s H C' cl fp => (snd e (g.blk scope s H C' cl fp) h7).de.can
      have pe : PE X (.ListComp elt [⟨tg, iter, ifs, 0⟩] scope pos) (tLc wi (tOfG X.K p) (tOfT X.K (evC G c)) (tOfE X.K (evE G e)) vs) := by
        have := pe_lc (own := ownOf C vs) (pos := pos) g.calm hN pi ok hg sc he (noSet h4)
        rw [hvs] at this
        exact this
      have dn : DN X (.ListComp elt [⟨tg, iter, ifs, 0⟩] scope pos) (evE G (.comp vs p k ia ib c e)) := ⟨_, pe, q⟩
      refine ⟨dn.de, fun _ => dn.de.dt fun _ => rfl, fun q => (by cases q), fun _ => dn.own rfl, fun _ => ⟨_, fun {i y py spos} h1 h2 h3 => ?_, q⟩⟩
      have := ps_setLc (own := ownOf C vs) (pos := pos) g.calm hN h1 h2 h3 pi ok hg sc he (noSet h4)
      rw [hvs] at this
      exact this
  | .nil, C, X, e, g, h => by simp [chkE] at h
  | .cons _ _, C, X, e, g, h => by simp [chkE] at h
  | .skip, C, X, e, g, h => Snd.junk fun ρ => by simp [evE]
  | .seq _ _, C, X, e, g, h => by simp [chkE] at h
  | .asg _ _, C, X, e, g, h => by simp [chkE] at h
  | .aug _ _ _, C, X, e, g, h => by simp [chkE] at h
  | .asgO _ _, C, X, e, g, h => by simp [chkE] at h
  | .par _ _, C, X, e, g, h => by simp [chkE] at h
  | .setI _ _ _, C, X, e, g, h => by simp [chkE] at h
  | .swp _ _ _ _, C, X, e, g, h => by simp [chkE] at h
  | .prb _ _ _ _ _, C, X, e, g, h => by simp [chkE] at h
  | .dicS _ _ _, C, X, e, g, h => by simp [chkE] at h
  | .expr _, C, X, e, g, h => by simp [chkE] at h
  | .ret _, C, X, e, g, h => by simp [chkE] at h
  | .retO _, C, X, e, g, h => by simp [chkE] at h
  | .retV _, C, X, e, g, h => by simp [chkE] at h
  | .retN, C, X, e, g, h => by simp [chkE] at h
  | .ifS _ _ _, C, X, e, g, h => by simp [chkE] at h
  | .forS _ _ _ _ _, C, X, e, g, h => by simp [chkE] at h
  | .whS _ _, C, X, e, g, h => by simp [chkE] at h
  | .brk, C, X, e, g, h => by simp [chkE] at h
  | .cnt, C, X, e, g, h => by simp [chkE] at h
theorem sndL : ∀ (ir : IR) {C : CI} {X : Cx} {es : List Expr}, Good T G X C → chkL T C ir es = true → DA X es (evL G ir) ∧ (∀ e ∈ es, isStar e = false) ∧ (∀ (ρ ρ' : Slots) (vs : List Vl), evL G ir ρ = some (vs, ρ') → vs.length = es.length) ∧ ∀ kws : List Keyword, kws.map (·.value) = es → DK X kws (evL G ir)
  | .nil, C, X, es, g, h => by
    cases es <;> try (simp [chkL] at h; done)
    refine ⟨da_nil, fun _ h => by (cases h), fun ρ ρ' vs q => (by simp only [evL] at q; cases q; rfl), fun kws hk => ?_⟩
    cases kws with
    | nil => exact dk_nil
    | cons _ _ => cases hk
  | .cons a b, C, X, es, g, h => by
    cases es <;> try (simp [chkL] at h; done)
    rename_i e es
    simp only [chkL, Bool.and_eq_true, Bool.not_eq_true'] at h
    obtain ⟨l1, l2, l3, l4⟩ := sndL b g h.2
    refine ⟨da_cons (snd a g h.1.2).de l1 (star1 h.1.1), fun e' he => ?_, fun ρ ρ' vs q => ?_, fun kws hk => ?_⟩
    · rcases List.mem_cons.mp he with q | q
      · rw [q]; exact h.1.1
      · exact l2 e' q
    · unfold evL at q
      obtain ⟨⟨va, ρ1⟩, ga, q⟩ := bind_some q
      obtain ⟨⟨vb, ρ2⟩, gb, q⟩ := bind_some q
      obtain ⟨rfl, rfl⟩ := pure_some q
      simp [l3 _ _ _ gb]
    · match kws, hk with
      | ⟨nm, v, kp⟩ :: kws, hk =>
        have hk1 : v = e := (List.cons.inj hk).1
        have hk2 : kws.map (fun q => q.value) = es := (List.cons.inj hk).2
        subst hk1
        exact dk_cons (snd a g h.1.2).de (l4 kws hk2)
  | .var _, C, X, es, g, h => by simp [chkL] at h
  | .glob _, C, X, es, g, h => by simp [chkL] at h
  | .int _, C, X, es, g, h => by simp [chkL] at h
  | .str _, C, X, es, g, h => by simp [chkL] at h
  | .bl _, C, X, es, g, h => by simp [chkL] at h
  | .non, C, X, es, g, h => by simp [chkL] at h
  | .op _ _ _, C, X, es, g, h => by simp [chkL] at h
  | .neg _, C, X, es, g, h => by simp [chkL] at h
  | .cmp _ _ _, C, X, es, g, h => by simp [chkL] at h
  | .chain _ _ _ _ _, C, X, es, g, h => by simp [chkL] at h
  | .isn _ _, C, X, es, g, h => by simp [chkL] at h
  | .one _, C, X, es, g, h => by simp [chkL] at h
  | .band _ _, C, X, es, g, h => by simp [chkL] at h
  | .bor _ _, C, X, es, g, h => by simp [chkL] at h
  | .bnot _, C, X, es, g, h => by simp [chkL] at h
  | .ife _ _ _, C, X, es, g, h => by simp [chkL] at h
  | .tup _, C, X, es, g, h => by simp [chkL] at h
  | .lst _, C, X, es, g, h => by simp [chkL] at h
  | .idx _ _, C, X, es, g, h => by simp [chkL] at h
  | .slc _ _ _, C, X, es, g, h => by simp [chkL] at h
  | .stp _ _, C, X, es, g, h => by simp [chkL] at h
  | .isb _ _ _, C, X, es, g, h => by simp [chkL] at h
  | .aug _ _ _, C, X, es, g, h => by simp [chkL] at h
  | .call _ _, C, X, es, g, h => by simp [chkL] at h
  | .callK _ _, C, X, es, g, h => by simp [chkL] at h
  | .callT _ _ _, C, X, es, g, h => by simp [chkL] at h
  | .lenS _, C, X, es, g, h => by simp [chkL] at h
  | .bi _ _, C, X, es, g, h => by simp [chkL] at h
  | .isi _ _, C, X, es, g, h => by simp [chkL] at h
  | .mt _ _ _, C, X, es, g, h => by simp [chkL] at h
  | .dget _ _, C, X, es, g, h => by simp [chkL] at h
  | .lrng _ _, C, X, es, g, h => by simp [chkL] at h
  | .gdg _ _, C, X, es, g, h => by simp [chkL] at h
  | .comp _ _ _ _ _ _ _, C, X, es, g, h => by simp [chkL] at h
  | .frz _, C, X, es, g, h => by simp [chkL] at h
  | .mu _ _ _, C, X, es, g, h => by simp [chkL] at h
  | .dgt _ _ _, C, X, es, g, h => by simp [chkL] at h
  | .lset _, C, X, es, g, h => by simp [chkL] at h
  | .skip, C, X, es, g, h => by simp [chkL] at h
  | .seq _ _, C, X, es, g, h => by simp [chkL] at h
  | .asg _ _, C, X, es, g, h => by simp [chkL] at h
  | .asgO _ _, C, X, es, g, h => by simp [chkL] at h
  | .par _ _, C, X, es, g, h => by simp [chkL] at h
  | .setI _ _ _, C, X, es, g, h => by simp [chkL] at h
  | .swp _ _ _ _, C, X, es, g, h => by simp [chkL] at h
  | .ggt _ _ _, C, X, es, g, h => by simp [chkL] at h
  | .dgi _ _, C, X, es, g, h => by simp [chkL] at h
  | .din _ _ _, C, X, es, g, h => by simp [chkL] at h
  | .dmem _ _ _, C, X, es, g, h => by simp [chkL] at h
  | .prb _ _ _ _ _, C, X, es, g, h => by simp [chkL] at h
  | .dicS _ _ _, C, X, es, g, h => by simp [chkL] at h
  | .expr _, C, X, es, g, h => by simp [chkL] at h
  | .ret _, C, X, es, g, h => by simp [chkL] at h
  | .retO _, C, X, es, g, h => by simp [chkL] at h
  | .retV _, C, X, es, g, h => by simp [chkL] at h
  | .retN, C, X, es, g, h => by simp [chkL] at h
  | .ifS _ _ _, C, X, es, g, h => by simp [chkL] at h
  | .forS _ _ _ _ _, C, X, es, g, h => by simp [chkL] at h
  | .whS _ _, C, X, es, g, h => by simp [chkL] at h
  | .brk, C, X, es, g, h => by simp [chkL] at h
  | .cnt, C, X, es, g, h => by simp [chkL] at h
end
end
end Ov

set_option maxHeartbeats 4000000
namespace Ov
open PySem PySem.Spec PyProof.Rows L2 Evl
def isOtherComp : Expr → Bool
  | .SetComp .. => true
  | .DictComp .. => true
  | _ => false
def isTupE : Expr → Bool
  | .Tuple .. => true
  | _ => false
/-- a name = [..] whose target is stored within the comprehension -/
def swapB (sc : Scope) (v : Expr) (y : Str) (py : Pos) : Bool := match v with
  | .ListComp _ _ s pos => decide (sc.names.lookup y = some .local) && py.line == pos.line && !(s.names.any fun (n, k) => n == y && (k == .local || k == .cell))
  | _ => false
theorem swap_eq {env : Env} {v : Expr} {y : Str} {py : Pos} {l : Nat} (hk : env.scope.kind = .function) (ho : isOtherComp v = false) : swapsWith v (some (.Name y py)) l env = pure (swapB env.scope v y py) := by
  have hb : env.blockKind = .function := by unfold Env.blockKind; rw [hk]; rfl
  cases v <;> first
    | rfl
    | (simp [isOtherComp] at ho; done)
    | (unfold swapsWith swapB
       simp only [hb, Expr.pos]
       show (pure _ : Sem Bool) = pure _
       congr 1
       have : (env.kindOf y == some NameKind.local) = decide (env.scope.names.lookup y = some .local) := by
         unfold Env.kindOf
         cases env.scope.names.lookup y with
         | none => rfl
         | some k => cases k <;> rfl
       simp [this])
theorem swap_none {env : Env} {v : Expr} {l : Nat} (ho : isOtherComp v = false) (hc : isCompE v = false) : swapsWith v none l env = pure false := by
  cases v <;> first | rfl | (simp [isOtherComp] at ho; done) | (simp [isCompE] at hc; done)
theorem swap_tup {env : Env} {v : Expr} {es : List Expr} {k : Nat} {p : Pos} {l : Nat} (ho : isOtherComp v = false) : swapsWith v (some (.Tuple es k p)) l env = pure false := by
  cases v <;> first | rfl | (simp [isOtherComp] at ho; done)
theorem swap_sub {env : Env} {v o i : Expr} {p : Pos} {l : Nat} (ho : isOtherComp v = false) : swapsWith v (some (.Subscript o i p)) l env = pure false := by
  cases v <;> first | rfl | (simp [isOtherComp] at ho; done)
theorem sst_none {env : Env} {tg v : Expr} (h : isTupE v = false) : swappedStores [tg] v env = pure none := by
  cases tg <;> cases v <;> first | rfl | (simp [isTupE] at h; done)
theorem sst_sub {env : Env} {o i : Expr} {p : Pos} {v : Expr} : swappedStores [.Subscript o i p] v env = pure none := by
  cases v <;> rfl
theorem sst_two {env : Env} {o1 i1 o2 i2 : Expr} {p1 p2 pt : Pos} {kt : Nat} {v : Expr} : swappedStores [.Tuple [.Subscript o1 i1 p1, .Subscript o2 i2 p2] kt pt] v env = pure none := by
  cases v <;> try rfl
  rename_i vs _ _
  unfold swappedStores
  dsimp only
  split
  · rfl
  · split
    · rfl
    · rfl
theorem sst_name {env : Env} {x : Str} {p : Pos} {v : Expr} : swappedStores [.Name x p] v env = pure none := by
  cases v <;> rfl
theorem swapB_true {sc : Scope} {v : Expr} {y : Str} {py : Pos} (h : swapB sc v y py = true) : isCompE v = true ∧ sc.names.lookup y = some .local := by
  cases v <;> try (simp [swapB] at h; done)
  simp only [swapB, Bool.and_eq_true, decide_eq_true_eq] at h
  exact ⟨rfl, h.1.1⟩
theorem asg_sub {env : Env} {o k : Expr} {q : Pos} (h : isSlice k = false) : ∀ v, assign (.Subscript o k q) env v = (do
      let ov ← holding [v] (eval o env)
      let iv ← holding [v, ov] (eval k env)
      standAt q
      holding [v, ov, iv] (setItem ov iv v)
      release [v, ov, iv] []) := fun v => by
  cases k <;> first | rfl | (simp [isSlice] at h; done)
theorem snd_comp {T : Tab} {C : CI} {ir : IR} {e : Expr} (hc : isCompE e = true) (h : chkE T C ir e = true) (hj : ir ≠ .skip) : ∃ vs p k a b c x, ir = .comp vs p k a b c x := by
  cases e <;> try (simp [isCompE] at hc; done)
  by_cases hj' : ir = .skip
  · exact absurd hj' hj
  cases ir <;> first | exact ⟨_, _, _, _, _, _, _, rfl⟩ | exact absurd rfl hj | (simp [chkE] at h; done)
theorem evO_comp {G : Cfg} {ir : IR} {ρ ρ1 : Slots} {xs : List D} (h : ∃ vs p k a b c x, ir = .comp vs p k a b c x) (g : evO G ir ρ = some (xs, ρ1)) : evE G ir ρ = some (.d (.lst xs), ρ1) := by
  obtain ⟨vs, p, k, a, b, c, x, rfl⟩ := h
  simp only [evO, fresh, if_true] at g
  obtain ⟨⟨v, ρ2⟩, ge, g⟩ := bind_some g
  cases v with
  | slot i => cases g
  | d y =>
    cases y <;> try (cases g; done)
    obtain ⟨rfl, rfl⟩ := pure_some g
    exact ge
def locB (C : CI) (i : Nat) (x : Str) : Bool := chkP C (.nm i) (.Name x ⟨0, 0, 0, 0⟩)
def namesB (C : CI) : List (Nat × Bool) → List Expr → Bool
  | [], [] => true
  | (i, _) :: fs, .Name x _ :: es => locB C i x && namesB C fs es
  | _, _ => false
def chkPar (T : Tab) (C : CI) : List (Nat × Bool) → IR → List Expr → Bool
  | [], .nil, [] => true
  | (_, b) :: fs, .cons a r, e :: es => !isStar e && chkE T C a e && (!b || ownable a) && chkPar T C fs r es
  | _, _, _ => false
def allLoc (sc : Scope) : List Expr → Bool
  | [] => true
  | .Name x _ :: es => decide (sc.names.lookup x = some .local) && allLoc sc es
  | _ => false
def namesOf : List Expr → List Str
  | [] => []
  | .Name x _ :: es => x :: namesOf es
  | _ :: es => namesOf es
def parB (T : Tab) (C : CI) (fs : List (Nat × Bool)) (ir : IR) (tgs es : List Expr) : Bool :=
  namesB C fs tgs && chkPar T C fs ir es && decide (fs.length ≤ 1000) && decide ((fs.map (·.1)).Nodup) && (match swapN C.sc tgs es with
    | some none => true
    | some (some ns) => decide (ns = namesOf tgs) && allLoc C.sc tgs && (fs.length == 2 || fs.length == 3)
    | none => false)
def varsB (C : CI) : List Nat → List Expr → Bool
  | [], [] => true
  | j :: js, .Name x _ :: es => nameB C j x && varsB C js es
  | _, _ => false
/-- x = [a, ..]; if not f(x, [..]): ..; x[0].append('..') -/
def prbB (T : Tab) (C : CI) (i : Nat) (a r : IR) (f : Nat) (js : List Nat) : List Stmt → Bool
  | .Assign [.Name x px] (.List (e0 :: es) _) _ :: .If (.UnaryOp .Not (.Call (.Name g _) [.Name x2 _, .List vs _] [] _) _) _ [] _ :: .Expr (.Call (.Attribute (.Subscript (.Name x3 _) (.Constant (.int z) _ _) _) ma ap) [.Constant (.str _) _ _] [] cp) _ :: _ =>
    locB C i x && x2 == x && x3 == x && nameB C i x && !isStar e0 && chkE T C a e0 && ownable a && chkL T C r es && decide (T.fn f = some (g, 2)) && glB C g && !(g == ("__debug__" : Str)) && varsB C js vs && decide (z = 0) && ma == ("append" : Str) && ap.endLine == cp.line
  | _ => false
/-- a display's keys and values -/
def dkB (T : Tab) (C : CI) : IR → List (Option Expr) → List Expr → List Str → Bool
  | .nil, [], [], [] => true
  | .cons a b, some (.Constant (.str k) _ _) :: keys, v :: vals, z :: ks => k == z && chkE T C a v && dkB T C b keys vals ks
  | _, _, _, _ => false
def isPrb (T : Tab) (C : CI) (a : IR) (l : List Stmt) : Bool := match a with
  | .prb i a' r f js => prbB T C i a' r f js l
  | _ => false
def augB : BOp → Operator → Bool
  | .add, .Add => true
  | .sub, .Sub => true
  | .mul, .Mult => true
  | _, _ => false
mutual
def chkS (T : Tab) (C : CI) : IR → Stmt → Bool
  | .nil, _ => true
  | .skip, s => match s with
    | .Pass _ => true
    | _ => false
  | .brk, s => match s with
    | .Break _ => true
    | _ => false
  | .cnt, s => match s with
    | .Continue _ => true
    | _ => false
  | .expr e, s => match s with
    | .Expr v _ => chkE T C e v && !isCompE v && !isOtherComp v
    | _ => false
  | .ret e, s => match s with
    | .Return (some v) _ => chkE T C e v
    | _ => false
  | .retO e, s => match s with
    | .Return (some v) _ => chkE T C e v && ownable e
    | _ => false
  | .retV i, s => match s with
    | .Return (some (.Name x _)) _ => nameB C i x
    | _ => false
  | .retN, s => match s with
    | .Return none _ => true
    | _ => false
  | .ifS c t u, s => match s with
    | .If ce a b _ => chkE T C c ce && !isIfE ce && chkSs T C t a && chkSs T C u b
    | _ => false
  | .forS p k a b body, s => match s with
    | .For tg iter bd [] _ => chkI T C k a b tg iter && !isSetE iter && chkP C p tg && chkSs T C body bd
    | _ => false
  | .whS c b, s => match s with
    | .While ce bd [] _ => chkE T C c ce && !isIfE ce && chkSs T C b bd
    | _ => false
  | .asg (.nm i) e, s => match s with
    | .Assign [.Name x px] v _ => locB C i x && chkE T C e v && !isOtherComp v
    | _ => false
  | .asg (.tp p) e, s => match s with
    | .Assign [.Tuple es k pt] v _ => chkP C (.tp p) (.Tuple es k pt) && chkE T C e v && !isOtherComp v && !isTupE v
    | _ => false
  | .asgO i e, s => match s with
    | .Assign [.Name x px] v _ => locB C i x && chkE T C e v && ownable e && !isOtherComp v
    | _ => false
  | .dicS i ks es, s => match s with
    | .Assign [.Name x px] (.Dict keys vals _) _ => locB C i x && dkB T C es keys vals ks && decide (keys.length ≤ 15) && !keys.isEmpty
    | _ => false
  | .par fs es, s => match s with
    | .Assign [.Tuple tgs _ _] (.Tuple el _ _) _ => parB T C fs es tgs el
    | _ => false
  | .aug o i e, s => match s with
    | .AugAssign (.Name x _) op v _ => locB C i x && chkE T C e v && augB o op
    | _ => false
  | .setI i k e, s => match s with
    | .Assign [.Subscript (.Name x _) kx _] v _ => nameB C i x && chkE T C k kx && chkE T C e v && !isOtherComp v && !isSlice kx
    | _ => false
  | .swp i a b e, s => match s with
    | .Assign [.Tuple [.Subscript (.Name x _) ka _, .Subscript (.Name y _) kb _] _ _] v _ => nameB C i x && nameB C i y && chkE T C a ka && chkE T C b kb && chkE T C e v && !isOtherComp v && !isSlice ka && !isSlice kb
    | _ => false
  | _, _ => false
def chkSs (T : Tab) (C : CI) : IR → List Stmt → Bool
  | .skip, l => match l with
    | [] => true
    | _ => false
  | .seq a b, l => (match l with
    | s :: ss => chkS T C a s && chkSs T C b ss
    | _ => false) || (isPrb T C a l && (match l with
      | _ :: _ :: _ :: ss => chkSs T C b ss
      | _ => false))
  | _, _ => false
end
section
variable {T : Tab} {G : Cfg} {w : Nat}
theorem loc_pg {X : Cx} {C : CI} (g : Good T G X C) {i : Nat} {x : Str} (h : locB C i x = true) : C.N[i]? = some x ∧ (Loc X.env.scope x) ∧ (X.fn x = true ∨ X.env.scope.names.lookup x = some .local) := by
  simp only [locB, chkP, Bool.and_eq_true, Bool.or_eq_true, beq_iff_eq, decide_eq_true_eq] at h
  refine ⟨h.1, ?_, ?_⟩
  · rw [g.sc]
    rcases h.2 with q | q
    · exact Or.inl q
    · exact Or.inr q.1
  · rcases h.2 with q | q
    · exact Or.inr (by rw [g.sc]; exact q)
    · exact Or.inl (g.fn x q.2)
theorem names_pgs {X : Cx} {C : CI} (g : Good T G X C) : ∀ {fs : List (Nat × Bool)} {tgs : List Expr}, namesB C fs tgs = true → PGs X tgs (gNames fs) ∧ (∀ e ∈ tgs, isStar e = false) ∧ tgs.length = fs.length
  | [], [], _ => ⟨pgs_nil, fun _ h => (by cases h), rfl⟩
  | (i, b) :: fs, e :: es, h => by
    cases e <;> try (simp [namesB] at h; done)
    rename_i x px
    simp only [namesB, Bool.and_eq_true] at h
    obtain ⟨h1, h2, h3⟩ := names_pgs g h.2
    obtain ⟨l1, l2, l3⟩ := loc_pg g h.1
    refine ⟨pgs_cons (pg_name (by rw [g.N]; exact g.nd) (by rw [g.N]; exact l1) l2 l3) h1 rfl, fun e he => ?_, by simp [h3]⟩
    rcases List.mem_cons.mp he with q | q
    · rw [q]; rfl
    · exact h2 e q
  | [], _ :: _, h => by simp [namesB] at h
  | _ :: _, [], h => by simp [namesB] at h
theorem dps_of {X : Cx} {C : CI} (g : Good T G X C) : ∀ {fs : List (Nat × Bool)} {ir : IR} {es : List Expr}, chkPar T C fs ir es = true → DPs X es (evP G fs ir)
  | [], ir, es, h => by
    cases ir <;> try (simp [chkPar] at h; done)
    cases es <;> try (simp [chkPar] at h; done)
    exact dps_nil
  | (i, b) :: fs, ir, es, h => by
    cases ir <;> try (simp [chkPar] at h; done)
    cases es <;> try (simp [chkPar] at h; done)
    simp only [chkPar, Bool.and_eq_true, Bool.not_eq_true', Bool.or_eq_true] at h
    obtain ⟨⟨⟨h1, h2⟩, h3⟩, h4⟩ := h
    have sa := snd _ g h2
    cases b with
    | false => exact dps_d sa.de (dps_of g h4) (star1 h1)
    | true =>
      rcases h3 with h3 | h3
      · cases h3
      · exact dps_o (sa.own h3) (dps_of g h4) (star1 h1)
theorem chkPar_len {T : Tab} {C : CI} : ∀ {fs : List (Nat × Bool)} {ir : IR} {es : List Expr}, chkPar T C fs ir es = true → es.length = fs.length
  | [], ir, es, h => by
    cases ir <;> try (simp [chkPar] at h; done)
    cases es <;> try (simp [chkPar] at h; done)
    rfl
  | (i, b) :: fs, ir, es, h => by
    cases ir <;> try (simp [chkPar] at h; done)
    cases es <;> try (simp [chkPar] at h; done)
    simp only [chkPar, Bool.and_eq_true] at h
    simp [chkPar_len h.2]
theorem snd_par {X : Cx} {C : CI} {fs : List (Nat × Bool)} {ir : IR} {tgs es : List Expr} {k1 k2 : Nat} {p q pos : Pos} (g : Good T G X C) (hk : X.env.scope.kind = .function) (h : parB T C fs ir tgs es = true) :
    DS X (.Assign [.Tuple tgs k1 p] (.Tuple es k2 q) pos) (evS G w (.par fs ir)) := by
  simp only [parB, Bool.and_eq_true, decide_eq_true_eq] at h
  obtain ⟨⟨⟨⟨h1, h2⟩, h3⟩, h4⟩, h5⟩ := h
  obtain ⟨n1, n2, n3⟩ := names_pgs g h1
  have hN : X.N.Nodup := by rw [g.N]; exact g.nd
  have dp := dps_of g h2
  cases hs : swapN C.sc tgs es with
  | none => rw [hs] at h5; cases h5
  | some r =>
    rw [hs] at h5
    rw [← g.sc] at hs
    have hsw := swapN_eq (k := k1) (k2 := k2) (p := p) (q := q) hk hs
    cases r with
    | none => exact ds_parP dp g.calm n1 (by rw [(assign_star n2).1, n3]) (assign_star n2).2 hsw (Nat.le_trans h3 (by decide))
    | some ns =>
      simp only [Bool.and_eq_true, decide_eq_true_eq, Bool.or_eq_true, beq_iff_eq] at h5
      obtain ⟨⟨m1, m2⟩, m3⟩ := h5
      subst m1
      rcases m3 with m3 | m3
      · match fs, tgs, m3, n3 with
        | [(i, b1), (j, b2)], [t1, t2], _, _ =>
          cases t1 <;> try (simp [allLoc] at m2; done)
          cases t2 <;> try (simp [allLoc] at m2; done)
          rename_i x px y py
          simp only [allLoc, Bool.and_eq_true, decide_eq_true_eq, Bool.and_true] at m2
          simp only [namesB, Bool.and_eq_true] at h1
          have hi := (loc_pg g h1.1).1
          have hj := (loc_pg g h1.2.1).1
          have hij : i ≠ j := by simpa using h4
          have he : ∃ a b, es = [a, b] := by
            have hl := chkPar_len h2
            match es, hl with
            | [a, b], _ => exact ⟨a, b, rfl⟩
          obtain ⟨a, b, rfl⟩ := he
          refine ds_parS dp fun {ta} pa => ?_
          have := ps_par (pos := pos) g.calm hN (by rw [g.N]; exact hi) (by rw [g.N]; exact hj) hij (by rw [g.sc]; exact m2.1) (by rw [g.sc]; exact m2.2) pa hsw rfl
          refine PS.imp this fun D σ H hh => ?_
          have e : (fun (vs : List V) (H1 : Hp) => ∃ v w, vs = [v, w] ∧ D.nx ((σ.set i (some v)).set j (some w)) H1) = fun ws H1 => ws.length = [(i, b1), (j, b2)].length ∧ D.nx (setSt σ [(i, b1), (j, b2)] ws) H1 := by
            funext vs H1
            refine propext ⟨?_, ?_⟩
            · rintro ⟨v, w, rfl, q⟩; exact ⟨rfl, q⟩
            · rintro ⟨hl, q⟩
              match vs, hl with
              | [v, w], _ => exact ⟨v, w, rfl, q⟩
          show ta σ H (fun (vs : List V) (H1 : Hp) => ∃ v w, vs = [v, w] ∧ D.nx ((σ.set i (some v)).set j (some w)) H1)
          rw [e]; exact hh
      · match fs, tgs, m3, n3 with
        | [(i, b1), (j, b2), (l, b3)], [t1, t2, t3], _, _ =>
          cases t1 <;> try (simp [allLoc] at m2; done)
          cases t2 <;> try (simp [allLoc] at m2; done)
          cases t3 <;> try (simp [allLoc] at m2; done)
          rename_i x px y py z pz
          simp only [allLoc, Bool.and_eq_true, decide_eq_true_eq, Bool.and_true] at m2
          simp only [namesB, Bool.and_eq_true] at h1
          have hi := (loc_pg g h1.1).1
          have hj := (loc_pg g h1.2.1).1
          have hl := (loc_pg g h1.2.2.1).1
          have hnd : (i ≠ j ∧ i ≠ l) ∧ j ≠ l := by simpa using h4
          have he : ∃ a b c, es = [a, b, c] := by
            have hl := chkPar_len h2
            match es, hl with
            | [a, b, c], _ => exact ⟨a, b, c, rfl⟩
          obtain ⟨a, b, c, rfl⟩ := he
          refine ds_parS dp fun {ta} pa => ?_
          have := ps_par3 (pos := pos) g.calm hN (by rw [g.N]; exact hi) (by rw [g.N]; exact hj) (by rw [g.N]; exact hl) hnd.1.1 hnd.1.2 hnd.2 (by rw [g.sc]; exact m2.1) (by rw [g.sc]; exact m2.2.1) (by rw [g.sc]; exact m2.2.2) pa hsw rfl
          refine PS.imp this fun D σ H hh => ?_
          have e : (fun (vs : List V) (H1 : Hp) => ∃ u v w, vs = [u, v, w] ∧ D.nx (((σ.set i (some u)).set j (some v)).set l (some w)) H1) = fun ws H1 => ws.length = [(i, b1), (j, b2), (l, b3)].length ∧ D.nx (setSt σ [(i, b1), (j, b2), (l, b3)] ws) H1 := by
            funext vs H1
            refine propext ⟨?_, ?_⟩
            · rintro ⟨u, v, w, rfl, q⟩; exact ⟨rfl, q⟩
            · rintro ⟨hl, q⟩
              match vs, hl with
              | [u, v, w], _ => exact ⟨u, v, w, rfl, q⟩
          show ta σ H (fun (vs : List V) (H1 : Hp) => ∃ u v w, vs = [u, v, w] ∧ D.nx (((σ.set i (some u)).set j (some v)).set l (some w)) H1)
          rw [e]; exact hh
theorem vars_ok {X : Cx} {C : CI} (g : Good T G X C) : ∀ {js : List Nat} {es : List Expr}, varsB C js es = true → VarsOk X js es
  | [], [], _ => .nil
  | j :: js, e :: es, h => by
    cases e <;> try (simp [varsB] at h; done)
    simp only [varsB, Bool.and_eq_true] at h
    obtain ⟨h1, h2, h3, h4⟩ := g.name h.1
    exact .cons h1 h2 h3 h4 (vars_ok g h.2)
  | [], _ :: _, h => by simp [varsB] at h
  | _ :: _, [], h => by simp [varsB] at h
theorem snd_prb {X : Cx} {C : CI} {i f : Nat} {a r b : IR} {js : List Nat} {s1 s2 s3 : Stmt} {ss : List Stmt} (g : Good T G X C) (hk : X.env.scope.kind = .function) (h : prbB T C i a r f js (s1 :: s2 :: s3 :: ss) = true) (hr : DSs X ss (evS G w b)) : DSs X (s1 :: s2 :: s3 :: ss) (evS G w (.seq (.prb i a r f js) b)) := by
  unfold prbB at h
  split at h
  · rename_i x px e0 es lp pos fn gp x2 p2 vs lp2 cp' np body ip x3 px3 z j0 q0 sp ma ap m j1 q1 cp ep rest heq
    cases heq
    simp only [Bool.and_eq_true, beq_iff_eq, decide_eq_true_eq, Bool.not_eq_true'] at h
    obtain ⟨⟨⟨⟨⟨⟨⟨⟨⟨⟨⟨⟨⟨⟨h1, h2⟩, h3⟩, h4⟩, h5⟩, h6⟩, h7⟩, h8⟩, h9⟩, h10⟩, h11⟩, h12⟩, h13⟩, h14⟩, h15⟩ := h
    subst h2
    subst h3
    subst h13
    subst h14
    obtain ⟨l1, l2, l3⟩ := loc_pg g h1
    obtain ⟨n1, n2, n3, n4⟩ := g.name h4
    obtain ⟨k, ad, fd, ps, f1, f2, f3, f4, f5, f6⟩ := g.fns _ _ _ h9
    have hN : X.N.Nodup := by rw [g.N]; exact g.nd
    refine dss_prb (fun {te} hpe => ps_set hN (by rw [g.N]; exact l1) l2 hpe rfl l3) ((snd a g h6).own h7) (sndL r g h8).1 (star1 h5) f1 g.gds f2 (g.gl h10) f3 f4 f5 f6 h11 n1 n2 n3 n4 (vars_ok g h12) (by simpa using h15) hr
  · cases h
theorem dks_of {X : Cx} {C : CI} {pos : Pos} (g : Good T G X C) : ∀ {ir : IR} {keys : List (Option Expr)} {vals : List Expr} {ks : List Str}, dkB T C ir keys vals ks = true → DKs X pos keys vals ks (evL G ir) ∧ keys.all (·.isSome) = true ∧ keys.length = vals.length := by
  intro ir
  induction ir with
  | nil =>
    intro keys vals ks h
    match keys, vals, ks, h with
    | [], [], [], _ => exact ⟨dks_nil, rfl, rfl⟩
  | cons a b iha ihb =>
    intro keys vals ks h
    unfold dkB at h
    split at h
    · rename_i heq; cases heq
    · rename_i heq
      cases heq
      simp only [Bool.and_eq_true, beq_iff_eq] at h
      obtain ⟨⟨h1, h2⟩, h3⟩ := h
      subst h1
      obtain ⟨q1, q2, q3⟩ := ihb h3
      exact ⟨dks_cons (snd _ g h2).de q1, by simp [q2], by simp [q3]⟩
    · cases h
  | _ => intro keys vals ks h; simp [dkB] at h
mutual
theorem sndS : ∀ (ir : IR) {C : CI} {X : Cx} {s : Stmt}, Good T G X C → X.env.scope.kind = .function → chkS T C ir s = true → DS X s (evS G w ir)
  | .skip, C, X, s, g, hk, h => by
    cases s <;> try (simp [chkS] at h; done)
    exact ds_pass
  | .brk, C, X, s, g, hk, h => by
    cases s <;> try (simp [chkS] at h; done)
    exact ds_brk
  | .cnt, C, X, s, g, hk, h => by
    cases s <;> try (simp [chkS] at h; done)
    exact ds_cnt
  | .expr e, C, X, s, g, hk, h => by
    cases s <;> try (simp [chkS] at h; done)
    simp only [chkS, Bool.and_eq_true, Bool.not_eq_true'] at h
    exact ds_expr (snd e g h.1.1).de (swap_none h.2 h.1.2)
  | .ret e, C, X, s, g, hk, h => by
    cases s <;> try (simp [chkS] at h; done)
    rename_i v pos
    cases v <;> try (simp [chkS] at h; done)
    simp only [chkS] at h
    exact ds_ret (snd e g h).de
  | .retO e, C, X, s, g, hk, h => by
    cases s <;> try (simp [chkS] at h; done)
    rename_i v pos
    cases v <;> try (simp [chkS] at h; done)
    simp only [chkS, Bool.and_eq_true] at h
    exact ds_retO ((snd e g h.1).own h.2)
  | .retV i, C, X, s, g, hk, h => by
    cases s <;> try (simp [chkS] at h; done)
    rename_i v pos
    cases v <;> try (simp [chkS] at h; done)
    rename_i v
    cases v <;> try (simp [chkS] at h; done)
    simp only [chkS] at h
    obtain ⟨h1, h2, h3, h4⟩ := g.name h
    exact ds_retV h1 h2 h3 h4
  | .retN, C, X, s, g, hk, h => by
    cases s <;> try (simp [chkS] at h; done)
    rename_i v pos
    cases v <;> try (simp [chkS] at h; done)
    exact ds_retN
  | .ifS c t u, C, X, s, g, hk, h => by
    cases s <;> try (simp [chkS] at h; done)
    simp only [chkS, Bool.and_eq_true, Bool.not_eq_true'] at h
    exact ds_if ((snd c g h.1.1.1).dt h.1.1.2) (sndSs t g hk h.1.2) (sndSs u g hk h.2)
  | .forS p k a b body, C, X, s, g, hk, h => by
    cases s <;> try (simp [chkS] at h; done)
    rename_i tg iter bd oe pos
    cases oe <;> try (simp [chkS] at h; done)
    simp only [chkS, Bool.and_eq_true, Bool.not_eq_true'] at h
    refine ds_for (by rw [g.xe]; exact PassesOwn.never) g.calm (di_of (fun es kk tpos e => by subst e; exact chkP_tup h.1.2) g (fun h => (snd a g h).de) (fun h => (snd b g h).de) h.1.1.1) (pg_of g h.1.2) (sndSs body g hk h.2) (noSet h.1.1.2)
  | .whS c b, C, X, s, g, hk, h => by
    cases s <;> try (simp [chkS] at h; done)
    rename_i ce bd oe pos
    cases oe <;> try (simp [chkS] at h; done)
    simp only [chkS, Bool.and_eq_true, Bool.not_eq_true'] at h
    exact ds_while (by rw [g.xe]; exact PassesOwn.never) ((snd c g h.1.1).dt h.1.2) (sndSs b g hk h.2)
  | .aug o i e, C, X, s, g, hk, h => by
    cases s <;> try (simp [chkS] at h; done)
    rename_i tg op v pos
    cases tg <;> try (simp [chkS] at h; done)
    rename_i x px
    simp only [chkS, Bool.and_eq_true] at h
    obtain ⟨l1, l2, l3⟩ := loc_pg g h.1.1
    refine ds_aug ?_ (by rw [g.N]; exact g.nd) (by rw [g.N]; exact l1) l2 l3 (snd e g h.1.2).de
    have z := h.2
    cases o <;> cases op <;> first | rfl | (cases z; done)
  | .asg pt e, C, X, s, g, hk, h => by
    cases s <;> try (cases pt <;> simp [chkS] at h; done)
    rename_i tgs v pos
    cases pt with
    | nil => simp [chkS] at h
    | cons _ _ => simp [chkS] at h
    | nm i =>
      match tgs, h with
      | [.Name x px], h =>
        simp only [chkS, Bool.and_eq_true, Bool.not_eq_true'] at h
        obtain ⟨l1, l2, l3⟩ := loc_pg g h.1.1
        have se := snd e g h.1.2
        have hN : X.N[i]? = some x := by rw [g.N]; exact l1
        have hnd : X.N.Nodup := by rw [g.N]; exact g.nd
        have hsw := swap_eq (y := x) (py := px) (l := pos.line) hk h.2
        cases hq : swapB X.env.scope v x px with
        | false =>
          rw [hq] at hsw
          exact ds_asg (pt := .nm i) se.de (dg_nm hnd hN l2 l3) fun {te gg} hpe hpg => ps_asg hpe hpg hsw sst_name rfl
        | true =>
          rw [hq] at hsw
          obtain ⟨c1, c2⟩ := swapB_true hq
          obtain ⟨te, ps, q⟩ := se.lc c1
          refine ⟨_, ps hN c2 hsw, fun n ρ σ F H o D r gg k => ?_⟩
          unfold evS at gg
          obtain ⟨⟨v1, ρ1⟩, g1, gg⟩ := bind_some gg
          obtain ⟨y, gy, gg⟩ := bind_some gg
          split at gg
          · rename_i hok
            obtain ⟨ρ2, gb, gg⟩ := bind_some gg
            cases gg
            simp only [Pat.bind, Option.some.injEq] at gb
            subst gb
            refine q n ρ σ F H v1 ρ1 _ r g1 fun F' H' w1 c s1 ev nw => ?_
            subst ev
            cases gy
            obtain ⟨F2, s2, rp⟩ := shut_own r s1 nw
            exact k _ F2 H' s2.ex (s2.rel.setD rp (notBox_free s2.rel (all_ok hok i (by simp [Pat.slots]))))
          · cases gg
    | tp p =>
      match tgs, h with
      | [.Tuple es k pt], h =>
        simp only [chkS, Bool.and_eq_true, Bool.not_eq_true'] at h
        exact ds_asg (snd e g h.1.1.2).de (pg_of g h.1.1.1) fun {te gg} hpe hpg => ps_asg hpe hpg (show swapsWith v (some (.Tuple es k pt)) pos.line X.env = pure false from swap_tup h.1.2) (sst_none h.2) rfl
  | .asgO i e, C, X, s, g, hk, h => by
    cases s <;> try (simp [chkS] at h; done)
    rename_i tgs v pos
    match tgs, h with
    | [.Name x px], h =>
      simp only [chkS, Bool.and_eq_true, Bool.not_eq_true'] at h
      obtain ⟨l1, l2, l3⟩ := loc_pg g h.1.1.1
      have se := snd e g h.1.1.2
      have hN : X.N[i]? = some x := by rw [g.N]; exact l1
      have hnd : X.N.Nodup := by rw [g.N]; exact g.nd
      have hsw := swap_eq (y := x) (py := px) (l := pos.line) hk h.2
      cases hq : swapB X.env.scope v x px with
      | false =>
        rw [hq] at hsw
        exact ds_asgO (se.own h.1.2) fun {te} hpe => ps_set hnd hN l2 hpe hsw l3
      | true =>
        rw [hq] at hsw
        obtain ⟨c1, c2⟩ := swapB_true hq
        obtain ⟨te, ps, q⟩ := se.lc c1
        refine ⟨_, ps hN c2 hsw, fun n ρ σ F H o D r gg k => ?_⟩
        unfold evS at gg
        obtain ⟨⟨xs, ρ1⟩, g1, gg⟩ := bind_some gg
        dsimp only at gg
        split at gg
        · rename_i hok
          cases gg
          have ge := evO_comp (snd_comp c1 h.1.1.2 (fun q => by rw [q] at g1; simp [evO, fresh] at g1)) g1
          refine q n ρ σ F H _ ρ1 _ r ge fun F' H' w1 c s1 ev nw => ?_
          cases ev
          obtain ⟨p, vs, rfl, h1, h2, h3, h4, h5⟩ := nw
          exact k _ F' H' s1.ex (s1.rel.setO h3 h2 ((own_ne r h1).step s1) (r.dom h1) h4 h5 (notBox_free s1.rel hok))
        · cases gg
  | .dicS i ks es, C, X, s, g, hk, h => by
    cases s <;> try (simp [chkS] at h; done)
    rename_i tgs v pos
    match tgs, v, h with
    | [.Name x px], .Dict keys vals dp, h =>
      simp only [chkS, Bool.and_eq_true, decide_eq_true_eq, Bool.not_eq_true'] at h
      obtain ⟨⟨⟨h1, h2⟩, h3⟩, h4⟩ := h
      obtain ⟨l1, l2, l3⟩ := loc_pg g h1
      have hN : X.N[i]? = some x := by rw [g.N]; exact l1
      have hnd : X.N.Nodup := by rw [g.N]; exact g.nd
      obtain ⟨d1, d2, d3⟩ := dks_of (pos := dp) g h2
      exact ds_dic d1 d2 d3 (fun q => by rw [q] at h4; cases h4) h3 fun {te} hpe => ps_set hnd hN l2 hpe rfl l3
  | .dgt _ _ _, C, X, s, g, hk, h => by simp [chkS] at h
  | .lset _, C, X, s, g, hk, h => by simp [chkS] at h
  | .ggt _ _ _, C, X, s, g, hk, h => by simp [chkS] at h
  | .dgi _ _, C, X, s, g, hk, h => by simp [chkS] at h
  | .din _ _ _, C, X, s, g, hk, h => by simp [chkS] at h
  | .dmem _ _ _, C, X, s, g, hk, h => by simp [chkS] at h
  | .prb _ _ _ _ _, C, X, s, g, hk, h => by simp [chkS] at h
  | .setI i k e, C, X, s, g, hk, h => by
    cases s <;> try (simp [chkS] at h; done)
    rename_i tgs v pos
    match tgs, h with
    | [.Subscript (.Name x p) kx q], h =>
      simp only [chkS, Bool.and_eq_true, Bool.not_eq_true'] at h
      obtain ⟨⟨⟨⟨h1, h2⟩, h3⟩, h4⟩, h6⟩ := h
      obtain ⟨k1, k2, k3, k4⟩ := g.name h1
      exact ds_setI (asg_sub h6) (snd e g h3).de (snd k g h2).de k1 k2 k3 k4 (show swapsWith v (some (.Subscript (.Name x p) kx q)) pos.line X.env = pure false from swap_sub h4) sst_sub
  | .swp i a b e, C, X, s, g, hk, h => by
    cases s <;> try (simp [chkS] at h; done)
    rename_i tgs v pos
    match tgs, h with
    | [.Tuple [.Subscript (.Name x p) ka q, .Subscript (.Name y p') kb q'] kt pt], h =>
      simp only [chkS, Bool.and_eq_true, Bool.not_eq_true'] at h
      obtain ⟨⟨⟨⟨⟨⟨⟨h1, h2⟩, h3⟩, h4⟩, h5⟩, h6⟩, h7⟩, h8⟩ := h
      obtain ⟨k1, k2, k3, k4⟩ := g.name h1
      obtain ⟨l1, l2, l3, l4⟩ := g.name h2
      exact ds_swp g.calm (dg_put (asg_sub h7) (snd a g h3).de k1 k2 k3 k4) (dg_put (asg_sub h8) (snd b g h4).de l1 l2 l3 l4) (snd e g h5).de
        (show swapsWith v (some (.Tuple [.Subscript (.Name x p) ka q, .Subscript (.Name y p') kb q'] kt pt)) pos.line X.env = pure false from swap_tup h6) sst_two
  | .par fs es, C, X, s, g, hk, h => by
    cases s <;> try (simp [chkS] at h; done)
    rename_i tgs v pos
    match tgs, v, h with
    | [.Tuple ts k1 p], .Tuple el k2 q, h =>
      simp only [chkS] at h
      exact snd_par g hk h
  | .nil, C, X, s, g, hk, h => ⟨fun _ _ _ => False, ⟨fun _ _ _ _ _ _ z => z.elim⟩, fun n ρ σ F H o D rl g k => by simp [evS] at g⟩
  | .cons _ _, C, X, s, g, hk, h => by simp [chkS] at h
  | .var _, C, X, s, g, hk, h => by simp [chkS] at h
  | .glob _, C, X, s, g, hk, h => by simp [chkS] at h
  | .int _, C, X, s, g, hk, h => by simp [chkS] at h
  | .str _, C, X, s, g, hk, h => by simp [chkS] at h
  | .bl _, C, X, s, g, hk, h => by simp [chkS] at h
  | .non, C, X, s, g, hk, h => by simp [chkS] at h
  | .op _ _ _, C, X, s, g, hk, h => by simp [chkS] at h
  | .neg _, C, X, s, g, hk, h => by simp [chkS] at h
  | .cmp _ _ _, C, X, s, g, hk, h => by simp [chkS] at h
  | .chain _ _ _ _ _, C, X, s, g, hk, h => by simp [chkS] at h
  | .isn _ _, C, X, s, g, hk, h => by simp [chkS] at h
  | .one _, C, X, s, g, hk, h => by simp [chkS] at h
  | .band _ _, C, X, s, g, hk, h => by simp [chkS] at h
  | .bor _ _, C, X, s, g, hk, h => by simp [chkS] at h
  | .bnot _, C, X, s, g, hk, h => by simp [chkS] at h
  | .ife _ _ _, C, X, s, g, hk, h => by simp [chkS] at h
  | .tup _, C, X, s, g, hk, h => by simp [chkS] at h
  | .lst _, C, X, s, g, hk, h => by simp [chkS] at h
  | .idx _ _, C, X, s, g, hk, h => by simp [chkS] at h
  | .slc _ _ _, C, X, s, g, hk, h => by simp [chkS] at h
  | .stp _ _, C, X, s, g, hk, h => by simp [chkS] at h
  | .isb _ _ _, C, X, s, g, hk, h => by simp [chkS] at h
  | .call _ _, C, X, s, g, hk, h => by simp [chkS] at h
  | .callK _ _, C, X, s, g, hk, h => by simp [chkS] at h
  | .callT _ _ _, C, X, s, g, hk, h => by simp [chkS] at h
  | .lenS _, C, X, s, g, hk, h => by simp [chkS] at h
  | .bi _ _, C, X, s, g, hk, h => by simp [chkS] at h
  | .isi _ _, C, X, s, g, hk, h => by simp [chkS] at h
  | .mt _ _ _, C, X, s, g, hk, h => by simp [chkS] at h
  | .dget _ _, C, X, s, g, hk, h => by simp [chkS] at h
  | .lrng _ _, C, X, s, g, hk, h => by simp [chkS] at h
  | .gdg _ _, C, X, s, g, hk, h => by simp [chkS] at h
  | .comp _ _ _ _ _ _ _, C, X, s, g, hk, h => by simp [chkS] at h
  | .frz _, C, X, s, g, hk, h => by simp [chkS] at h
  | .mu _ _ _, C, X, s, g, hk, h => by simp [chkS] at h
  | .seq _ _, C, X, s, g, hk, h => by simp [chkS] at h
theorem sndSs : ∀ (ir : IR) {C : CI} {X : Cx} {ss : List Stmt}, Good T G X C → X.env.scope.kind = .function → chkSs T C ir ss = true → DSs X ss (evS G w ir)
  | .skip, C, X, ss, g, hk, h => by
    cases ss <;> try (simp [chkSs] at h; done)
    exact dss_nil
  | .seq a b, C, X, ss, g, hk, h => by
    match ss, h with
    | [], h => simp [chkSs] at h
    | [s], h =>
      simp only [chkSs, Bool.and_false, Bool.or_false, Bool.and_eq_true] at h
      exact dss_cons (sndS a g hk h.1) (sndSs b g hk h.2)
    | [s, s2], h =>
      simp only [chkSs, Bool.and_false, Bool.or_false, Bool.and_eq_true] at h
      exact dss_cons (sndS a g hk h.1) (sndSs b g hk h.2)
    | s1 :: s2 :: s3 :: ss, h =>
      simp only [chkSs, Bool.or_eq_true, Bool.and_eq_true] at h
      rcases h with h | h
      · exact dss_cons (sndS a g hk h.1) (sndSs b g hk h.2)
      · have hr := sndSs b g hk h.2
        have h1 := h.1
        cases a <;> first | exact snd_prb g hk h1 hr | (simp [isPrb] at h1)
  | .nil, C, X, ss, g, hk, h => by simp [chkSs] at h
  | .cons _ _, C, X, ss, g, hk, h => by simp [chkSs] at h
  | .var _, C, X, ss, g, hk, h => by simp [chkSs] at h
  | .glob _, C, X, ss, g, hk, h => by simp [chkSs] at h
  | .int _, C, X, ss, g, hk, h => by simp [chkSs] at h
  | .str _, C, X, ss, g, hk, h => by simp [chkSs] at h
  | .bl _, C, X, ss, g, hk, h => by simp [chkSs] at h
  | .non, C, X, ss, g, hk, h => by simp [chkSs] at h
  | .op _ _ _, C, X, ss, g, hk, h => by simp [chkSs] at h
  | .neg _, C, X, ss, g, hk, h => by simp [chkSs] at h
  | .cmp _ _ _, C, X, ss, g, hk, h => by simp [chkSs] at h
  | .chain _ _ _ _ _, C, X, ss, g, hk, h => by simp [chkSs] at h
  | .isn _ _, C, X, ss, g, hk, h => by simp [chkSs] at h
  | .one _, C, X, ss, g, hk, h => by simp [chkSs] at h
  | .band _ _, C, X, ss, g, hk, h => by simp [chkSs] at h
  | .bor _ _, C, X, ss, g, hk, h => by simp [chkSs] at h
  | .bnot _, C, X, ss, g, hk, h => by simp [chkSs] at h
  | .ife _ _ _, C, X, ss, g, hk, h => by simp [chkSs] at h
  | .tup _, C, X, ss, g, hk, h => by simp [chkSs] at h
  | .lst _, C, X, ss, g, hk, h => by simp [chkSs] at h
  | .idx _ _, C, X, ss, g, hk, h => by simp [chkSs] at h
  | .slc _ _ _, C, X, ss, g, hk, h => by simp [chkSs] at h
  | .stp _ _, C, X, ss, g, hk, h => by simp [chkSs] at h
  | .isb _ _ _, C, X, ss, g, hk, h => by simp [chkSs] at h
  | .aug _ _ _, C, X, ss, g, hk, h => by simp [chkSs] at h
  | .call _ _, C, X, ss, g, hk, h => by simp [chkSs] at h
  | .callK _ _, C, X, ss, g, hk, h => by simp [chkSs] at h
  | .callT _ _ _, C, X, ss, g, hk, h => by simp [chkSs] at h
  | .lenS _, C, X, ss, g, hk, h => by simp [chkSs] at h
  | .bi _ _, C, X, ss, g, hk, h => by simp [chkSs] at h
  | .isi _ _, C, X, ss, g, hk, h => by simp [chkSs] at h
  | .mt _ _ _, C, X, ss, g, hk, h => by simp [chkSs] at h
  | .dget _ _, C, X, ss, g, hk, h => by simp [chkSs] at h
  | .lrng _ _, C, X, ss, g, hk, h => by simp [chkSs] at h
  | .gdg _ _, C, X, ss, g, hk, h => by simp [chkSs] at h
  | .comp _ _ _ _ _ _ _, C, X, ss, g, hk, h => by simp [chkSs] at h
  | .frz _, C, X, ss, g, hk, h => by simp [chkSs] at h
  | .mu _ _ _, C, X, ss, g, hk, h => by simp [chkSs] at h
  | .asg _ _, C, X, ss, g, hk, h => by simp [chkSs] at h
  | .asgO _ _, C, X, ss, g, hk, h => by simp [chkSs] at h
  | .par _ _, C, X, ss, g, hk, h => by simp [chkSs] at h
  | .setI _ _ _, C, X, ss, g, hk, h => by simp [chkSs] at h
  | .swp _ _ _ _, C, X, ss, g, hk, h => by simp [chkSs] at h
  | .ggt _ _ _, C, X, ss, g, hk, h => by simp [chkSs] at h
  | .dgi _ _, C, X, ss, g, hk, h => by simp [chkSs] at h
  | .din _ _ _, C, X, ss, g, hk, h => by simp [chkSs] at h
  | .dmem _ _ _, C, X, ss, g, hk, h => by simp [chkSs] at h
  | .prb _ _ _ _ _, C, X, ss, g, hk, h => by simp [chkSs] at h
  | .dicS _ _ _, C, X, ss, g, hk, h => by simp [chkSs] at h
  | .dgt _ _ _, C, X, ss, g, hk, h => by simp [chkSs] at h
  | .lset _, C, X, ss, g, hk, h => by simp [chkSs] at h
  | .expr _, C, X, ss, g, hk, h => by simp [chkSs] at h
  | .ret _, C, X, ss, g, hk, h => by simp [chkSs] at h
  | .retO _, C, X, ss, g, hk, h => by simp [chkSs] at h
  | .retV _, C, X, ss, g, hk, h => by simp [chkSs] at h
  | .retN, C, X, ss, g, hk, h => by simp [chkSs] at h
  | .ifS _ _ _, C, X, ss, g, hk, h => by simp [chkSs] at h
  | .forS _ _ _ _ _, C, X, ss, g, hk, h => by simp [chkSs] at h
  | .whS _ _, C, X, ss, g, hk, h => by simp [chkSs] at h
  | .brk, C, X, ss, g, hk, h => by simp [chkSs] at h
  | .cnt, C, X, ss, g, hk, h => by simp [chkSs] at h
end
end
end Ov

set_option maxHeartbeats 4000000
namespace Ov
open PySem PySem.Spec PyProof.Rows L2 Evl
/-- a def of the program: its text and its IR -/
structure FD where
  x : Str
  args : Arguments
  body : List Stmt
  scope : Scope
  ps : List Str
  N : List Str
  ir : IR
def FD.fn (d : FD) : Fn := ⟨d.ps.length, d.N.length, d.ir⟩
def scopeB (N P : List Str) (sc : Scope) : Bool :=
  decide (sc.kind = .function) && !sc.isCoroutine && !sc.isGenerator && decide N.Nodup && decide (N.take P.length = P) &&
  (P.all fun x => decide (sc.names.lookup x = some .local) || decide (sc.names.lookup x = some .cell)) && (sc.names.all fun y => decide (y.2 ≠ .free))
theorem scope_of {N P : List Str} {sc : Scope} (h : scopeB N P sc = true) : FnScope N P sc := by
  simp only [scopeB, Bool.and_eq_true, decide_eq_true_eq, Bool.not_eq_true', List.all_eq_true, Bool.or_eq_true] at h
  obtain ⟨⟨⟨⟨⟨⟨h1, h2⟩, h3⟩, h4⟩, h5⟩, h6⟩, h7⟩ := h
  exact ⟨h1, h2, h3, h4, h5, h6, h7⟩
def FD.ok (T : Tab) (d : FD) : Bool := scopeB d.N d.ps d.scope && decide (d.ps.length ≤ d.N.length) && chkSs T ⟨d.N, d.scope, fun _ => true⟩ d.ir d.body
/-- by number -/
def asg {α : Type} : List (Nat × α) → Nat → Option α
  | [], _ => none
  | (k, v) :: r, f => if k = f then some v else asg r f
theorem asg_mem {α : Type} {f : Nat} {v : α} : ∀ {l : List (Nat × α)}, asg l f = some v → (f, v) ∈ l
  | [], h => by cases h
  | (k, u) :: r, h => by
    simp only [asg] at h
    split at h
    · rename_i e; cases h; rw [e]; exact List.mem_cons_self ..
    · exact List.mem_cons_of_mem _ (asg_mem h)
/-- the program by its defs -/
structure PD where
  ds : List (Nat × FD)
  gd : List (Nat × Str × D)
  free : List Str
  w : Nat
  sh : List (Nat × Str × List Str × Nat × List Nat)
  dg : List (Nat × Str × List (Str × D))
def PD.tab (P : PD) : Tab := ⟨fun f => (asg P.ds f).map fun d => (d.x, d.ps.length), fun g => (asg P.gd g).map (·.1), fun s => (asg P.sh s).map fun q => (q.1, q.2.1), P.free, fun g => (asg P.dg g).map (·.1)⟩
def PD.prg (P : PD) : Prg := ⟨fun f => (asg P.ds f).map FD.fn, fun g => (asg P.gd g).map (·.2), fun s => (asg P.sh s).map fun q => (q.2.2.1, q.2.2.2), fun g => (asg P.dg g).map (·.2), P.w⟩
def PD.ok (P : PD) : Bool := P.ds.all fun q => FD.ok P.tab q.2
/-- a def stands where the top left it -/
structure At (K : PySem.W.Frag) (mg : Str → Option Value) (d : FD) (a : Addr) (fd : FuncData) : Prop where
  fun_ : FunD K d.x d.x d.args d.body d.scope [] [] a fd
  glob : mg d.x = some (.ref a)
  binds : Binds K fd d.ps []
structure TopP (P : PD) (w : World) (K : PySem.W.Frag) (mg : Str → Option Value) (ad : Nat → Addr) (fds : Nat → FuncData) : Prop where
  ats : ∀ (f : Nat) d, asg P.ds f = some d → At K mg d (ad f) (fds f)
  free : ∀ x ∈ P.free, mg x = none
  shs : ∀ (s : Nat) x ks f o, asg P.sh s = some (x, ks, f, o) → ∃ d, asg P.ds f = some d ∧ d.x = x ∧ KBn K (fds f) d.ps 0 ks (fun _ ws => pickD o ws) (fun _ zs => pickD o zs) ∧ d.ps.length = o.length
  gls : ∀ (g : Nat) x d, asg P.gd g = some (x, d) → ∃ u v, mg x = some u ∧ RelV v u ∧ ∀ F, Rp K F v d
  dgs : ∀ (g : Nat) x kvs, asg P.dg g = some (x, kvs) → ∃ a es n, mg x = some (.ref a) ∧ KDict K w a es n ∧ DgOk K a kvs
  ok : P.ok = true
section
variable {K : PySem.W.Frag} {n : Ent} {σ : L2.St} {ρ : Slots} {F H : Hp}
theorem app_get {α : Type} {l : List α} {m : Nat} {i : Nat} {x : α} (h : (l.map some ++ List.replicate m none)[i]? = some (some x)) : l[i]? = some x := by
  rw [List.getElem?_append] at h
  split at h
  · obtain ⟨y, h1, h2⟩ := map_get h
    cases h2; exact h1
  · rw [List.getElem?_replicate] at h
    split at h <;> cases h
theorem app_put {α : Type} {l : List α} {m : Nat} {i : Nat} {x : α} (h : l[i]? = some x) : (l.map some ++ List.replicate m none)[i]? = some (some x) := by
  have hi := (List.getElem?_eq_some_iff.mp h).1
  rw [List.getElem?_append, if_pos (by rw [List.length_map]; exact hi), List.getElem?_map, h]; rfl
theorem Rel.ext {as : List EV} {vs : List V} {m : Nat} (r : Rel K n (as.map some) (vs.map some) F H) : Rel K n (as.map some ++ List.replicate m none) (vs.map some ++ List.replicate m none) F H := by
  have key : ∀ {i : Nat} {x : EV}, (as.map some ++ List.replicate m none)[i]? = some (some x) → (as.map some)[i]? = some (some x) := fun h => by
    rw [List.getElem?_map, app_get h]; rfl
  have put : ∀ {i : Nat} {w : V}, (vs.map some)[i]? = some (some w) → (vs.map some ++ List.replicate m none)[i]? = some (some w) := fun {i w} h => by
    obtain ⟨y, h1, h2⟩ := map_get h
    cases h2; exact app_put h1
  have own : ∀ {i : Nat}, isOwn (as.map some ++ List.replicate m none)[i]? = true → isOwn (as.map some)[i]? = true := fun {i} h => by
    obtain ⟨b, xs, hx⟩ := isOwn_iff.mp h
    rw [key hx]; rfl
  have back : ∀ {i : Nat} {w : V}, (vs.map some ++ List.replicate m none)[i]? = some (some w) → (vs.map some)[i]? = some (some w) := fun h => by
    rw [List.getElem?_map, app_get h]; rfl
  refine ⟨r.sub, ?_, fun i x h => ?_, fun i b x h => ?_, fun i x h => ?_, fun i x h => ?_, fun i j p h1 h2 h3 h4 => r.inj i j p (own h1) (own h2) (back h3) (back h4), r.ex0, r.keep, r.newF, fun i p h => ?_⟩
  · have := r.len
    simp only [List.length_map] at this
    simp [this]
  · obtain ⟨w, h1, h2⟩ := r.dat i x (key h)
    exact ⟨w, put h1, h2⟩
  · obtain ⟨p, us, h1, h2⟩ := r.own i b x (key h)
    exact ⟨p, us, put h1, h2⟩
  · obtain ⟨p, h1, h2⟩ := r.dic i x (key h)
    exact ⟨p, put h1, h2⟩
  · obtain ⟨p, h1, h2⟩ := r.scr i x (key h)
    exact ⟨p, put h1, h2⟩
  · obtain ⟨h1, xs, h2⟩ := r.par i p h
    obtain ⟨y, g1, g2⟩ := map_get h2
    cases g2
    exact ⟨put h1, xs, app_put g1⟩
theorem Rel.post {w : V} {r : EV} {np : Nat} (rl : Rel K n ρ σ F H) (hl : n.ps.length ≤ np) (hr : RetR K n F H w r) : Post K n r ((ρ.take np).map fun o => o.getD (.d .non)) w F H := by
  refine ⟨rl.ex0, rl.sub, rl.keep, rl.newF, fun b h => rl.dom h, fun i p h => ?_, ?_⟩
  · obtain ⟨h1, xs, h2⟩ := rl.par i p h
    obtain ⟨p', us, g1, g2, g3, g4, g5, g6⟩ := rl.own i true xs h2
    rw [h1] at g1; cases g1
    refine ⟨true, xs, us, ?_, g2, g4, g5⟩
    have hi : i < np := Nat.lt_of_lt_of_le (List.getElem?_eq_some_iff.mp h).1 hl
    rw [List.getElem?_map, List.getElem?_take, if_pos hi, h2]; rfl
  · cases r with
    | d x => exact hr
    | own b xs => exact hr
    | scr _ => exact hr
    | dic _ => exact hr
end
section
variable {P : PD} {prog : Program} {w : World} {K : PySem.W.Frag} {mg : Str → Option Value} {ad : Nat → Addr} {fds : Nat → FuncData} {base : Heap}
theorem fn_sound (tp : TopP P w K mg ad fds) : ∀ (k : Nat) (f : Nat) (d : FD), asg P.ds f = some d → FnO prog w K mg base k (ad f) (fds f) d.ps (SpF K d.ps.length (ev P.prg k f))
  | 0, f, d, hd => ⟨fun vs H Q E h => h.1, fun A outer s H args us vs Q E _ _ _ _ _ h => by
      obtain ⟨_, F, ps, as, r, outs, h, _⟩ := h
      cases h⟩
  | k + 1, f, d, hd => by
    have at_ := tp.ats f d hd
    have hok : FD.ok P.tab d = true := List.all_eq_true.mp tp.ok (f, d) (asg_mem hd)
    simp only [FD.ok, Bool.and_eq_true, decide_eq_true_eq] at hok
    obtain ⟨⟨hsc, hle⟩, hchk⟩ := hok
    have sc := scope_of hsc
    refine fno_of at_.fun_ sc (fun vs H Q E h => h.1) fun cdv A outer s H vs Q E hgd hr h => ?_
    obtain ⟨hlen, F, ps, as, r, outs, hev, hpl, rl, k2⟩ := h
    have ih := fun f' d' h' => fn_sound tp k f' d' h'
    have G : Good P.tab { cf := ev P.prg k, gd := P.prg.gd, sh := P.prg.sh, dd := P.prg.dd } (cxOf CX0 prog w K mg base d.N d.x d.scope (ad f) cdv A outer s H E).nox ⟨d.N, d.scope, fun _ => true⟩ := by
      refine ⟨rfl, rfl, fun _ _ => rfl, sc.nd, rfl, ?_, hgd, rfl, tp.free, fun f' x np hf => ?_, fun s' x ks hs => ?_, fun g x hg => ?_, fun g x hg => ?_⟩
      · have := hr.un
        show (A.deeper (envOfC d.x d.scope s.heap.objs.size (ad f) cdv)).units + 65 < cLine
        omega
      · simp only [PD.tab] at hf
        cases hd' : asg P.ds f' with
        | none => rw [hd'] at hf; cases hf
        | some d' =>
          rw [hd'] at hf
          simp only [Option.map_some, Option.some.injEq, Prod.mk.injEq] at hf
          obtain ⟨rfl, rfl⟩ := hf
          have a' := tp.ats f' d' hd'
          exact ⟨k, ad f', fds f', d'.ps, ih f' d' hd', hr, a'.glob, a'.fun_.kp, a'.binds, rfl⟩
      · simp only [PD.tab] at hs
        cases hs' : asg P.sh s' with
        | none => rw [hs'] at hs; cases hs
        | some q =>
          obtain ⟨x', ks', f', o'⟩ := q
          rw [hs'] at hs
          simp only [Option.map_some, Option.some.injEq, Prod.mk.injEq] at hs
          obtain ⟨rfl, rfl⟩ := hs
          obtain ⟨d', hd', rfl, hb, hl⟩ := tp.shs s' _ _ f' o' hs'
          have a' := tp.ats f' d' hd'
          exact ⟨k, ad f', fds f', d'.ps, f', o', ih f' d' hd', hr, a'.glob, a'.fun_.kp, hb, hl, by simp [PD.prg, hs']⟩
      · simp only [PD.tab] at hg
        cases hg' : asg P.gd g with
        | none => rw [hg'] at hg; cases hg
        | some q =>
          obtain ⟨x', d'⟩ := q
          rw [hg'] at hg
          simp only [Option.map_some, Option.some.injEq] at hg
          subst hg
          obtain ⟨u, v, h1, h2, h3⟩ := tp.gls g _ d' hg'
          exact ⟨u, v, d', h1, h2, by simp [PD.prg, hg'], h3⟩
      · simp only [PD.tab] at hg
        cases hg' : asg P.dg g with
        | none => rw [hg'] at hg; cases hg
        | some q =>
          obtain ⟨x', kvs⟩ := q
          rw [hg'] at hg
          simp only [Option.map_some, Option.some.injEq] at hg
          subst hg
          obtain ⟨a, es, n, h1, h2, h3⟩ := tp.dgs g _ kvs hg'
          exact ⟨a, es, n, kvs, h1, h2, by simp [PD.prg, hg'], h3⟩
    obtain ⟨t, pss, sem⟩ := sndSs (w := P.w) d.ir G sc.kind hchk
    refine ⟨t, PSs.nox pss, ?_⟩
    have hev : runFn { cf := ev P.prg k, gd := P.prg.gd, sh := P.prg.sh, dd := P.prg.dd } P.w d.fn as = some (r, outs) := by
      have : ev P.prg (k + 1) f as = (do
        let fn ← P.prg.fns f
        runFn { cf := ev P.prg k, gd := P.prg.gd, sh := P.prg.sh, dd := P.prg.dd } P.prg.w fn as) := rfl
      rw [this] at hev
      have e : P.prg.fns f = some d.fn := by simp [PD.prg, hd]
      rw [e] at hev
      exact hev
    unfold runFn at hev
    split at hev
    · rename_i hal
      obtain ⟨o, go, hev⟩ := bind_some hev
      have hst : L2.start d.N vs = vs.map some ++ List.replicate (d.fn.n - d.fn.np) none := by
        unfold L2.start; rw [hlen]; rfl
      rw [hst]
      refine sem ⟨F, H, ps⟩ _ _ F H o _ rl.ext go ?_
      cases o with
      | nx ρ =>
        cases hev
        exact fun σ' F' H' ex r' => k2 _ F' H' (r'.post hpl Rp.non)
      | ret v ρ =>
        cases hev
        exact fun σ' F' H' w' ex r' rr => k2 _ F' H' (r'.post hpl rr)
      | brk ρ => cases hev
      | ct ρ => cases hev
    · cases hev
end
end Ov

set_option maxHeartbeats 4000000
namespace Ov
open PySem PySem.Spec PyProof.Rows L2 Evl
/-! ### the end: the law's call from outside -/
section
variable {P : Program} {w : World} {K : PySem.W.Frag} {mg mb : Str → Option Value} {k : Nat} {fa a : Addr} {fd : FuncData} {x : Str} {sp : Sp} {s : Shared} {vs : List Value} {ns : List Int}
def EndsTrue (s : Shared) (r : Result) (s' : Shared) : Prop := r = .ok (.ret (.bool true)) ∧ OldK s.heap s'.heap ∧ s'.os = s.os ∧ AllBare s'.gens
theorem end_at {H : Hp} (KX : K.In s.heap) (hns : s.heap.Ns mainGlobals mg) (hb : s.heap.Ns builtinsNs mb) (hbb : ∀ x : Str, x ≠ "__name__" → mb x = bootBuiltins x) (hlim : s.heap.NoLimit) (hg : s.gens = #[])
    (hseq : s.heap.get? a = some { cls := .type "list", data := .seq vs.toArray }) (hr : Room k callerA) (Fn : ∀ base : Heap, FnO P w K mg base k fa fd [x] sp) (hbind : ∀ (s : Shared) (u : Value), BindsTo s fd ⟨[u], []⟩ [(x, u)])
    (hfrz : ∀ b o, H b = some o → ∃ ob xs, o = .frz ob (.lst xs)) (hok : HOk P w H s.heap) (hA : ∀ b, H b ≠ none → b = a ∧ K.lookup a = none) (hsp : sp [.ref a] H (fun v _ => v = .bl true) fun _ _ _ => False) :
    codeAny (model P w) callerA (.call (.ref fa) ⟨[.ref a], []⟩) (EndsTrue s) s := by
  have free : ∀ {b : Addr} {o : Obj}, s.heap.get? b = some o → (∀ n, o ≠ { cls := .type "list", data := .seq n }) → H b = none := by
    intro b o e ne
    apply Classical.byContradiction
    intro q
    have e' := (hA b q).1
    rw [e', hseq] at e
    exact ne _ (Option.some.inj e).symm
  have out : ∀ {b : Addr} {m : Str → Option Value}, s.heap.Ns b m → (hidT s.heap H).Ns b m := by
    rintro b m ⟨o, es, ep, e, d, r⟩
    refine ⟨o, es, ep, hidT_get e (free e fun n q => ?_), d, r⟩
    rw [q] at d
    cases d
  have inK : K.In (hidT s.heap H) := by
    intro b o e
    refine hidT_get (KX b o e) (Classical.byContradiction fun q => ?_)
    obtain ⟨e', hk⟩ := hA b q
    rw [e', hk] at e
    cases e
  have env : Env0 P w K mg (hidT s.heap H) callerA [] s H := by
    obtain ⟨mc, l1, l2⟩ := hlim
    exact ⟨rfl, ⟨inK, out hns, ⟨mb, out hb, hbb⟩, ⟨mc, out l1, l2⟩⟩, fun b o e => of_hidT e, Nat.le_of_eq (hidT_size _ _), trivial, fun b h => (by cases h), hok, .of_eq hg⟩
  refine codeAny_mono ((Fn _).go callerA [] s H _ [.ref a] [.ref a] _ _ rfl hr env (hbind s (.ref a)) (.cons rfl .nil) hsp) ?_
  intro r s' h
  match r, h with
  | .ok (.ret u), ⟨v, H', os, bare, un, hok', rv, q⟩ =>
    have q : v = .bl true := q
    subst q
    have rv : u = Value.bool true := rv
    refine ⟨by rw [rv], OldK.of_keep fun b o e => ?_, os, bare⟩
    cases hb : H b with
    | none => exact un.keep b o e hb (fun z => by cases z) (by simp)
    | some z =>
      obtain ⟨ob, xs, rfl⟩ := hfrz b z hb
      have e1 := (hok b _ hb).1
      have e2 := (hok' b _ (un.frzs b ob _ hb)).1
      rw [e1] at e
      rw [← Option.some.inj e]
      exact e2
  | .ok .next, h => exact h.elim
  | .ok .brk, h => exact h.elim
  | .ok .cont, h => exact h.elim
  | .error _, h => exact h.elim
theorem end_call (KX : K.In s.heap) (hns : s.heap.Ns mainGlobals mg) (hb : s.heap.Ns builtinsNs mb) (hbb : ∀ x : Str, x ≠ "__name__" → mb x = bootBuiltins x) (hlim : s.heap.NoLimit) (hg : s.gens = #[])
    (hseq : s.heap.get? a = some { cls := .type "list", data := .seq vs.toArray }) (hi : IntsAre vs ns) (hl : ns.length ≤ sizeLine) (hr : Room k callerA) (Fn : ∀ base : Heap, FnO P w K mg base k fa fd [x] sp) (hbind : ∀ (s : Shared) (u : Value), BindsTo s fd ⟨[u], []⟩ [(x, u)])
    (hsp : ∀ H : Hp, SqL K H a (ns.map V.int) → sp [.ref a] H (fun v _ => v = .bl true) fun _ _ _ => False) : codeAny (model P w) callerA (.call (.ref fa) ⟨[.ref a], []⟩) (EndsTrue s) s := by
  have rv := vals_ints hi
  have hn := hi.length
  by_cases hk : K.lookup a = none
  · let H : Hp := fun b => if b = a then some (.frz { cls := .type "list", data := .seq vs.toArray } (.lst (ns.map V.int))) else none
    have at_ : H a = some (.frz { cls := .type "list", data := .seq vs.toArray } (.lst (ns.map V.int))) := if_pos rfl
    have only : ∀ b, H b ≠ none → b = a := fun b q => Classical.byContradiction fun ne => q (if_neg ne)
    refine end_at (H := H) KX hns hb hbb hlim hg hseq hr Fn hbind (fun b o e => ?_) (fun b o e => ?_) (fun b q => ⟨only b q, hk⟩) (hsp H (Or.inl (Or.inr ⟨_, at_⟩)))
    · have eb := only b (by rw [e]; simp)
      rw [eb, at_] at e
      exact ⟨_, _, (Option.some.inj e).symm⟩
    · have eb := only b (by rw [e]; simp)
      subst eb
      rw [at_] at e
      have e := Option.some.inj e
      subst e
      exact ⟨hseq, by rw [List.length_map]; exact hl, vs, _, rv, hseq⟩
  · obtain ⟨o, ho⟩ := Option.ne_none_iff_exists'.mp hk
    have eo : o = { cls := .type "list", data := .seq vs.toArray } := by
      have := KX a o ho
      rw [hseq] at this
      exact (Option.some.inj this).symm
    subst eo
    refine end_at (H := fun _ => none) KX hns hb hbb hlim hg hseq hr Fn hbind (fun b o e => by cases e) (fun b o e => by cases e) (fun b q => absurd rfl q) (hsp _ (Or.inr ⟨_, vs.toArray, _, ho, rfl, rfl, rfl, ?_, ?_⟩))
    · rw [List.size_toArray, hn]; exact hl
    · simpa using rv
end
/-- a law by its head's facts -/
theorem walk_E {l : PySem.W.OpenLaw} {n k : Nat} {q : Program} {loose : List Str} {XP : (Str → Option Value) → Heap → Prop} {YP : World → Heap → Prop} {d : DefRec} {x : Str} (hn : l.most = some n) (hn2 : n ≤ sizeLine) (hdf : d.params.defaults = []) (hr : Room k callerA)
    (hF : ∀ (w : World) (mg : Str → Option Value) (fa : Addr) (h : Heap), YP w h → h.Ns mainGlobals mg → mg d.name = some (.ref fa) →
      ∃ (K : PySem.W.Frag) (fd : FuncData) (sp : Sp), K.In h ∧ (∀ (s : Shared) (u : Value), BindsTo s fd ⟨[u], []⟩ [(x, u)]) ∧
        (∀ (H : Hp) (a : Addr) (ns : List Int), ns.length ≤ n → SqL K H a (ns.map V.int) → sp [.ref a] H (fun v _ => v = .bl true) fun _ _ _ => False) ∧ ∀ base : Heap, FnO l.prog w K mg base k fa fd [x] sp) :
    PySem.W.WalkO q loose XP YP l.row.toRowW d [] (fun f vs => PySem.call f vs) := by
  apply Att.attach_call hn hdf
  intro w s₀ s₁ mg mb fa o pm cd doc a vs ns Gx Y ho hd hcd hmg hobj hints hlen hg
  obtain ⟨K, fd, sp, KX, hb, hsp, Fn⟩ := hF w mg fa _ Y Gx.T.g hmg
  exact end_call KX Gx.T.g Gx.T.b Gx.T.builtins Gx.T.nolimit hg hobj hints (Nat.le_trans hlen hn2) hr Fn hb fun H hS => hsp H a ns hlen hS
end Ov

set_option maxHeartbeats 4000000
namespace Ov
open PySem PySem.Spec PyProof.Rows L2 Evl
/-! ### the head's facts -/
mutual
/-- the value u is the data d, in the written part -/
def rpB (K : PySem.W.Frag) : D → Value → Bool
  | .non, .none => true
  | .bl b, .bool c => b == c
  | .int i, .int j _ => decide (i = j)
  | .str x, .str y _ => decide (x = y)
  | .tup ds, .ref a => (match K.lookup a with
    | some ⟨.type c, none, .seq its _, _⟩ => decide (c = "tuple") && (decide (its.size ≤ sizeLine) && rpsB K ds its.toList)
    | _ => false)
  | _, _ => false
def rpsB (K : PySem.W.Frag) : List D → List Value → Bool
  | [], [] => true
  | d :: ds, u :: us => rpB K d u && rpsB K ds us
  | _, _ => false
end
mutual
theorem rpB_ok {K : PySem.W.Frag} : ∀ {d : D} {u : Value}, rpB K d u = true → ∃ v, RelV v u ∧ ∀ F, Rp K F v d
  | .non, u, h => by
    cases u with
    | none => exact ⟨.non, rfl, fun F => .non⟩
    | _ => simp [rpB] at h
  | .bl b, u, h => by
    cases u with
    | bool c => exact ⟨.bl b, by simp [rpB] at h; rw [h]; rfl, fun F => .bl b⟩
    | _ => simp [rpB] at h
  | .int i, u, h => by
    cases u with
    | int j t => exact ⟨.int i, by simp [rpB] at h; exact ⟨t, by rw [h]⟩, fun F => .int i⟩
    | _ => simp [rpB] at h
  | .str i, u, h => by
    cases u with
    | str j t => exact ⟨.str i, by simp [rpB] at h; exact ⟨t, by rw [h]⟩, fun F => .str i⟩
    | _ => simp [rpB] at h
  | .lst ds, u, h => by simp [rpB] at h
  | .tup ds, u, h => by
    cases u with
    | ref a =>
      simp only [rpB] at h
      split at h
      · rename_i c its m sl q
        simp only [Bool.and_eq_true, decide_eq_true_eq] at h
        obtain ⟨h1, h2, h3⟩ := h
        obtain ⟨vs, e1, e2⟩ := rpsB_ok h3
        refine ⟨.ref a, rfl, fun F => .tup (xs := vs) ?_ (.inr ⟨_, q, rfl⟩) ?_ (e2 F)⟩
        · exact .inr ⟨_, its, m, q, congrArg Value.type h1, rfl, h2, e1⟩
        · have := (e2 F).length
          have := e1.length
          simp at this
          omega
      · cases h
    | _ => simp [rpB] at h
theorem rpsB_ok {K : PySem.W.Frag} : ∀ {ds : List D} {us : List Value}, rpsB K ds us = true → ∃ vs, Vals vs us ∧ ∀ F, Rps K F vs ds
  | [], [], _ => ⟨[], .nil, fun F => .nil⟩
  | [], _ :: _, h => by simp [rpsB] at h
  | _ :: _, [], h => by simp [rpsB] at h
  | d :: ds, u :: us, h => by
    simp only [rpsB, Bool.and_eq_true] at h
    obtain ⟨v, h1, h2⟩ := rpB_ok h.1
    obtain ⟨vs, g1, g2⟩ := rpsB_ok h.2
    exact ⟨v :: vs, .cons h1 g1, fun F => .cons (h2 F) (g2 F)⟩
end
/-- the module's name x holds d -/
def gdB (K : PySem.W.Frag) (q : Nat × Str × D) : Bool := match PySem.W.nsIn K mainGlobals q.2.1 with
  | some (some u) => rpB K q.2.2 u
  | _ => false
theorem gdB_ok {K : PySem.W.Frag} {h : Heap} {mg : Str → Option Value} (X : K.In h) (G : h.Ns mainGlobals mg) {q : Nat × Str × D} (c : gdB K q = true) : ∃ u v, mg q.2.1 = some u ∧ RelV v u ∧ ∀ F, Rp K F v q.2.2 := by
  unfold gdB at c
  split at c
  · rename_i u e
    obtain ⟨v, h1, h2⟩ := rpB_ok c
    exact ⟨u, v, PySem.W.mg_of X G e, h1, h2⟩
  · cases c
def PD.fa (P : PD) : List He.Fa := (P.ds.map fun q => He.Fa.glo q.2.x) ++ P.free.map He.Fa.free
def FD.defD (d : FD) : He.DefD := ⟨(d.x, none), d.x, d.x, d.args, d.body, d.scope, [], []⟩
def PD.fn (P : PD) : List He.DefD := P.ds.map fun q => q.2.defD
def PD.gdOk (P : PD) (K : PySem.W.Frag) : Bool := P.gd.all (gdB K)
/-- the dict at a has no other keys -/
def negB (K : PySem.W.Frag) (a : Addr) (kvs : List (Str × D)) : Bool := match K.lookup a with
  | some ⟨_, _, .dict es _, _⟩ => es.toList.all fun e => match e.key with
    | .str x _ => kvs.any fun q => q.1 == x
    | _ => false
  | _ => false
theorem dicD_none : ∀ {kvs : List (Str × D)} {z : Str}, dicD kvs z = none → (kvs.any fun q => q.1 == z) = false
  | [], _, _ => rfl
  | (k, v) :: r, z, h => by
    simp only [dicD] at h
    by_cases e : k = z
    · rw [if_pos e] at h; cases h
    · rw [if_neg e] at h
      rw [List.any_cons, dicD_none h, Bool.or_false]
      simpa using e
theorem negB_ok {K : PySem.W.Frag} {a : Addr} {kvs : List (Str × D)} (c : negB K a kvs = true) : ∀ z, dicD kvs z = none → PySem.W.nsIn K a z = some none := by
  intro z hz
  have hn := dicD_none hz
  unfold negB at c
  unfold PySem.W.nsIn
  split at c
  · rename_i cl di es k sl hl
    rw [hl]
    dsimp only
    rw [List.all_eq_true] at c
    have key : ∀ e ∈ es.toList, ∃ x t, e.key = .str x t ∧ (kvs.any fun q => q.1 == x) = true := fun e he => by
      have := c e he
      split at this
      · rename_i x t q; exact ⟨x, t, q, this⟩
      · cases this
    have h1 : es.toList.find? (fun e => e.key.isStr z) = none := by
      rw [List.find?_eq_none]
      intro e he
      obtain ⟨x, t, q, hx⟩ := key e he
      rw [q]
      intro e2
      have e2 : (x == z) = true := e2
      have : x = z := by simpa using e2
      rw [this, hn] at hx; cases hx
    rw [h1]
    dsimp only
    have h2 : es.toList.any (fun e => e.refKey) = false := by
      rw [List.any_eq_false]
      intro e he
      obtain ⟨x, t, q, _⟩ := key e he
      unfold DictEntry.refKey
      rw [q]; simp
    rw [h2]; rfl
  · cases c
def dgB (K : PySem.W.Frag) (q : Nat × Str × List (Str × D)) : Bool := negB K (He.ga K q.2.1) q.2.2 && q.2.2.all fun kv => match PySem.W.nsIn K (He.ga K q.2.1) kv.1 with
  | some (some u) => rpB K kv.2 u
  | _ => false
theorem dgB_ok {K : PySem.W.Frag} {q : Nat × Str × List (Str × D)} (c : dgB K q = true) : DgOk K (He.ga K q.2.1) q.2.2 := by
  obtain ⟨g, x, kvs⟩ := q
  unfold dgB at c
  dsimp only at c ⊢
  rw [Bool.and_eq_true] at c
  refine ⟨?_, negB_ok c.1⟩
  replace c := c.2
  intro z r h
  induction kvs with
  | nil => cases h
  | cons kv kvs ih =>
    simp only [List.all_cons, Bool.and_eq_true] at c
    obtain ⟨k, v⟩ := kv
    simp only [dicD] at h
    by_cases e : k = z
    · rw [if_pos e] at h; cases h; subst e
      have c1 := c.1
      split at c1
      · rename_i u hu
        obtain ⟨w, h1, h2⟩ := rpB_ok c1
        exact ⟨u, w, hu, h1, h2⟩
      · cases c1
    · rw [if_neg e] at h
      exact ih c.2 h
/-- where the dicts of the top stand, their keys -/
def PD.ts (P : PD) : List He.Tab := P.dg.map fun q => (fun K => He.ga K q.2.1, q.2.2.map (·.1))
def PD.dgOk (P : PD) (K : PySem.W.Frag) : Bool := P.dg.all fun q => (He.Fa.glo q.2.1).ok K && dgB K q
abbrev AlO : Type := Bool × He.AlT
def obsO (n : Nat) (P : PD) (g : Addr → Option Obj) : AlO := (fun K => (P.gdOk K && P.dgOk K, He.obsT P.fa P.fn P.ts K)) (He.frG g (He.asD g n))
def hookO (n : Nat) (P : PD) : PySem.W.Hook where
  α := AlO
  obs := fun s => obsO n P s.heap.get?
  val := fun w => (true, He.valT P.fn P.ts w)
  says := fun w h => ∃ K : PySem.W.Frag, K.In h ∧ He.SaysT P.fa P.fn P.ts w K ∧ P.gdOk K = true ∧ P.dgOk K = true
  of := fun w s e => by
    refine ⟨_, He.frG_in (as := He.asD s.heap.get? n), ?_⟩
    have e1 : (obsO n P s.heap.get?).1 = true := congrArg (fun z : AlO => z.1) e
    have e2 : (obsO n P s.heap.get?).2 = He.valT P.fn P.ts w := congrArg (fun z : AlO => z.2) e
    have e3 : (P.gdOk (He.frG s.heap.get? (He.asD s.heap.get? n)) && P.dgOk (He.frG s.heap.get? (He.asD s.heap.get? n))) = true := e1
    rw [Bool.and_eq_true] at e3
    exact ⟨e2, e3.1, e3.2⟩
  keeps := fun _ _ _ ⟨K, hK, c⟩ k => ⟨K, PySem.W.Frag.In.keeps hK k, c⟩
theorem obsO_eq {n : Nat} {P : PD} {g : Addr → Option Obj} {s : Shared} (h : ∀ a, g a = s.heap.get? a) : obsO n P g = (hookO n P).obs s := by
  have e : g = s.heap.get? := funext h
  rw [e] <;> rfl
/-! ### how arguments come to parameters -/
def BindOk (d : FD) : Prop := ∀ (kV doc pm : Value) (an : Option Addr) (cdv ct : Value) (us : List Value), us.length = d.ps.length → bindArgs (PySem.W.fnOf d.x d.x d.args d.body d.scope .none kV doc pm an cdv ct) ⟨us, []⟩ = pure (d.ps.zip us)
def ShOk (P : PD) (q : Str × List Str × Nat × List Nat) : Prop := ∃ d, asg P.ds q.2.2.1 = some d ∧ d.x = q.1 ∧ d.ps.length = q.2.2.2.length ∧
  ∀ (kV doc pm : Value) (an : Option Addr) (cdv ct : Value) (ws : List Value), ws.length = q.2.1.length → bindArgs (PySem.W.fnOf d.x d.x d.args d.body d.scope .none kV doc pm an cdv ct) ⟨[], q.2.1.zip ws⟩ = pure (d.ps.zip (pickD q.2.2.2 ws))
theorem vals_get {vs : List V} {us : List Value} (h : Vals vs us) (i : Nat) : (∃ v u, vs[i]? = some v ∧ us[i]? = some u ∧ RelV v u) ∨ (vs[i]? = none ∧ us[i]? = none) := by
  induction h generalizing i with
  | nil => exact Or.inr ⟨by simp, by simp⟩
  | cons h1 h2 ih =>
    cases i with
    | zero => exact Or.inl ⟨_, _, rfl, rfl, h1⟩
    | succ i => simpa using ih i
theorem vals_pick {vs : List V} {us : List Value} (h : Vals vs us) (o : List Nat) : (∃ a b, pickAll vs o = some a ∧ pickAll us o = some b ∧ Vals a b) ∨ (pickAll vs o = none ∧ pickAll us o = none) := by
  induction o with
  | nil => exact Or.inl ⟨[], [], rfl, rfl, .nil⟩
  | cons i o ih =>
    rcases vals_get h i with ⟨v, u, h1, h2, h3⟩ | ⟨h1, h2⟩
    · rcases ih with ⟨a, b, g1, g2, g3⟩ | ⟨g1, g2⟩
      · exact Or.inl ⟨v :: a, u :: b, by simp [pickAll, h1, g1], by simp [pickAll, h2, g2], .cons h3 g3⟩
      · exact Or.inr ⟨by simp [pickAll, h1, g1], by simp [pickAll, h2, g2]⟩
    · exact Or.inr ⟨by simp [pickAll, h1], by simp [pickAll, h2]⟩
theorem vals_pickD {vs : List V} {us : List Value} (h : Vals vs us) (o : List Nat) : Vals (pickD o vs) (pickD o us) := by
  unfold pickD
  rcases vals_pick h o with ⟨a, b, h1, h2, h3⟩ | ⟨h1, h2⟩
  · rw [h1, h2]; exact h3
  · rw [h1, h2]; exact .nil
theorem kbn_of {K : PySem.W.Frag} {x qual : Str} {params : Arguments} {body : List Stmt} {scope : Scope} {kws : List (Str × V)} {f : Addr} {fd : FuncData} {ps ks : List Str} {o : List Nat} (F : FunD K x qual params body scope [] kws f fd)
    (h : ∀ (kV doc pm : Value) (an : Option Addr) (cdv ct : Value) (ws : List Value), ws.length = ks.length → bindArgs (PySem.W.fnOf x qual params body scope .none kV doc pm an cdv ct) ⟨[], ks.zip ws⟩ = pure (ps.zip (pickD o ws))) : KBn K fd ps 0 ks (fun _ ws => pickD o ws) (fun _ zs => pickD o zs) := by
  obtain ⟨oc, od, dV, kV, doc, pm, an, cdv, ct, osl, rfl, lk, hcd, hD, hK⟩ := F.ex
  rcases hD with ⟨_, rfl⟩ | ⟨e, _⟩
  · refine ⟨fun s us ws X l1 l2 => ?_, fun r1 r2 => vals_pickD r2 o⟩
    cases us with
    | nil => exact .of_eq (h kV doc pm an cdv ct ws l2)
    | cons u us => simp at l1
  · exact absurd rfl e
noncomputable def adOf (P : PD) (K : PySem.W.Frag) (f : Nat) : Addr := match asg P.ds f with
  | some d => He.ga K d.x
  | none => 0
theorem top_of {P : PD} {w : World} {K : PySem.W.Frag} {h : Heap} {mg : Str → Option Value} (X : K.In h) (G : h.Ns mainGlobals mg) (ct : He.SaysT P.fa P.fn P.ts w K) (gd : P.gdOk K = true) (dg : P.dgOk K = true) (hok : P.ok = true) (hb : ∀ q ∈ P.ds, BindOk q.2) (hs : ∀ q ∈ P.sh, ShOk P q.2) :
    ∃ fds, TopP P w K mg (adOf P K) fds := by
  have c := ct.d
  have fact : ∀ f ∈ P.fa, f.ok K = true := fun f hf => by
    obtain ⟨i, hi⟩ := List.getElem?_of_mem hf
    exact c.fact i hi
  have glo : ∀ q ∈ P.ds, mg q.2.x = some (.ref (He.ga K q.2.x)) := fun q hq => He.glo_ok X G (fact _ (List.mem_append_left _ (List.mem_map_of_mem (f := fun q => He.Fa.glo q.2.x) hq)))
  have fr : ∀ x ∈ P.free, mg x = none := fun x hx => He.free_ok X G (fact _ (List.mem_append_right _ (List.mem_map_of_mem (f := He.Fa.free) hx)))
  have fun_ : ∀ q ∈ P.ds, ∃ fd, FunD K q.2.x q.2.x q.2.args q.2.body q.2.scope [] [] (He.ga K q.2.x) fd := fun q hq => by
    obtain ⟨i, hi⟩ := List.getElem?_of_mem (List.mem_map_of_mem (f := fun q : Nat × FD => q.2.defD) hq)
    exact c.def_ i hi
  have ch : ∀ f : Nat, ∃ fd : FuncData, ∀ d, asg P.ds f = some d → FunD K d.x d.x d.args d.body d.scope [] [] (He.ga K d.x) fd := fun f => by
    cases e : asg P.ds f with
    | none =>
      exact ⟨(PySem.W.fnOf "" "" (default : Arguments) [] (default : Scope) .none .none .none .none none .none .none), fun d hd => by cases hd⟩
    | some d =>
      obtain ⟨fd, hfd⟩ := fun_ _ (asg_mem e)
      exact ⟨fd, fun d' hd => by cases hd; exact hfd⟩
  refine ⟨fun f => Classical.choose (ch f), ⟨fun f d hd => ?_, fr, fun s x ks f o hso => ?_, fun g x d hg => ?_, fun g x kvs hg => ?_, hok⟩⟩
  · have F := Classical.choose_spec (ch f) d hd
    have ea : adOf P K f = He.ga K d.x := by unfold adOf; rw [hd]
    rw [ea]
    exact ⟨F, glo _ (asg_mem hd), F.bindsN (hb _ (asg_mem hd))⟩
  · obtain ⟨d, h1, h2, h3, h4⟩ := hs _ (asg_mem hso)
    exact ⟨d, h1, h2, kbn_of (Classical.choose_spec (ch f) d h1) h4, h3⟩
  · exact gdB_ok X G (List.all_eq_true.mp gd _ (asg_mem hg))
  · have q := List.all_eq_true.mp dg _ (asg_mem hg)
    rw [Bool.and_eq_true] at q
    obtain ⟨i, hi⟩ := List.getElem?_of_mem (List.mem_map_of_mem (f := fun q : Nat × Str × List (Str × D) => ((fun K => He.ga K q.2.1, q.2.2.map (·.1)) : He.Tab)) (asg_mem hg))
    obtain ⟨es, n, D⟩ := ct.tab i hi
    exact ⟨_, es, n, He.glo_ok X G q.1, D, dgB_ok q.2⟩
/-! ### the law's end -/
theorem law_sp {K : PySem.W.Frag} {H : Hp} {a : Addr} {ns : List Int} {cf : List EV → Option (EV × List EV)} (hS : SqL K H a (ns.map V.int)) (hl : ns.length ≤ sizeLine) {outs : List EV} (h : cf [.scr ns] = some (.d (.bl true), outs)) :
    SpF K 1 cf [.ref a] H (fun v _ => v = .bl true) fun _ _ _ => False := by
  refine ⟨rfl, H, [], [.scr ns], _, outs, h, Nat.zero_le _, ?_, fun w F' H' p => ?_⟩
  · refine ⟨fun _ _ h => h, rfl, fun i x h => ?_, fun i b xs h => ?_, fun i b h => ?_, fun i ms h => ?_, fun i j p h1 => ?_, fun _ _ h => h, fun _ _ h _ => h, fun _ _ h => h, fun i p h => by simp at h⟩
    · cases i with
      | zero => simp at h
      | succ i => simp at h
    · cases i with
      | zero => simp at h
      | succ i => simp at h
    · cases i with
      | zero => simp at h
      | succ i => simp at h
    · cases i with
      | zero => simp at h; subst h; exact ⟨a, rfl, hS, hl⟩
      | succ i => simp at h
    · cases i with
      | zero => cases h1
      | succ i => simp [isOwn] at h1
  · have := p.res
    exact this.blv
/-- the end over a written part (a head by k_head) -/
theorem walk_K {l : PySem.W.OpenLaw} {q : Program} {loose : List Str} {XP : (Str → Option Value) → Heap → Prop} {YP : World → Heap → Prop} {d : DefRec} {K : Params → PySem.W.Frag} {P : PD} {fl : Nat} {dl : FD} {x : Str} (hn : l.most = some 63) (hdf : d.params.defaults = [])
    (hY : ∀ (w : World) (h : Heap), YP w h → (K w.params).In h) (hname : d.name = dl.x) (hd : asg P.ds fl = some dl) (hps : dl.ps = [x]) (hok : P.ok = true) (hb : ∀ q ∈ P.ds, BindOk q.2) (hs : ∀ q ∈ P.sh, ShOk P q.2)
    (hc : ∀ w : World, He.SaysT P.fa P.fn P.ts w (K w.params)) (hg : ∀ w : World, P.gdOk (K w.params) = true) (hdg : ∀ w : World, P.dgOk (K w.params) = true)
    (hol : ∀ ns : List Int, ns.length ≤ 63 → ∃ outs, ev P.prg 40 fl [.scr ns] = some (.d (.bl true), outs)) : PySem.W.WalkO q loose XP YP l.row.toRowW d [] (fun f vs => PySem.call f vs) := by
  refine walk_E (n := 63) (k := 40) (x := x) hn (by decide) hdf ⟨rfl, by decide, by decide⟩ ?_
  intro w mg fa h Y G hmg
  have KX := hY w h Y
  obtain ⟨fds, tp⟩ := top_of (P := P) (w := w) KX G (hc w) (hg w) (hdg w) hok hb hs
  have at_ := tp.ats fl dl hd
  rw [hname] at hmg
  have e := hmg.symm.trans at_.glob
  cases e
  have b := L2.FunD.bindsA (ps := dl.ps) at_.fun_ (hb _ (asg_mem hd))
  refine ⟨K w.params, fds fl, SpF (K w.params) 1 (ev P.prg 40 fl), KX, fun s u => ?_, fun H a ns hl hS => ?_, fun base => ?_⟩
  · have := b s [u] (by rw [hps]; rfl)
    rw [hps] at this
    exact this
  · obtain ⟨outs, ho⟩ := hol ns hl
    exact law_sp hS (Nat.le_trans hl (by decide)) ho
  · have := fn_sound (prog := l.prog) (base := base) tp 40 fl dl hd
    rw [hps] at this
    exact this
end Ov

namespace Ov
open PySem
/-- 0 -/
def ir_moved : IR :=
    .seq (.ifS (.cmp .eq (.idx (.var 1) (.int 0)) (.glob 0)) (.seq (.ret (.op .sub (.var 0) (.idx (.var 1) (.int 1))))
    .skip) .skip)
    (.seq (.ret (.ife (.cmp .eq (.idx (.var 1) (.int 0)) (.glob 1)) (.op .add (.var 0) (.idx (.var 1) (.int 1))) (.var 0)))
    .skip)
def fn_moved : Fn := ⟨2, 2, ir_moved⟩
/-- 1 -/
def ir_first_of : IR :=
    .seq (.asg (.nm 2) (.comp [3, 4] (.tp (.cons (.nm 3) (.cons (.nm 4) .nil))) .enm (.idx (.var 0) (.int 1)) .nil (.cmp .ge (.idx (.var 4) (.int 0)) (.var 1)) (.var 3)))
    (.seq (.ret (.ife (.cmp .gt (.lenS (.var 2)) (.int 0)) (.idx (.var 2) (.int 0)) (.lenS (.idx (.var 0) (.int 1)))))
    .skip)
def fn_first_of : Fn := ⟨2, 5, ir_first_of⟩
/-- 2 -/
def ir_last_of : IR :=
    .seq (.asg (.nm 2) (.comp [3, 4] (.tp (.cons (.nm 3) (.cons (.nm 4) .nil))) .enm (.idx (.var 0) (.int 1)) .nil (.cmp .le (.idx (.var 4) (.int 0)) (.var 1)) (.var 3)))
    (.seq (.ret (.ife (.cmp .gt (.lenS (.var 2)) (.int 0)) (.idx (.var 2) (.neg (.int 1))) (.neg (.int 1))))
    .skip)
def fn_last_of : Fn := ⟨2, 5, ir_last_of⟩
/-- 3 -/
def ir_heights : IR :=
    .seq (.asg (.nm 1) (.ife (.cmp .eq (.idx (.var 0) (.int 0)) (.glob 2)) (.int 1) (.neg (.int 1))))
    (.seq (.ret (.comp [2, 3] (.tp (.cons (.nm 2) (.cons (.nm 3) .nil))) .enm (.idx (.var 0) (.int 1)) .nil (.isn true (.idx (.var 3) (.int 1))) (.tup (.cons (.var 2) (.cons (.op .mul (.var 1) (.idx (.var 3) (.int 1))) .nil)))))
    .skip)
def fn_heights : Fn := ⟨1, 4, ir_heights⟩
/-- 4 -/
def ir_height_low : IR :=
    .seq (.asg (.nm 3) (.call 3 (.cons (.var 0) .nil)))
    (.seq (.asg (.nm 4) (.call 0 (.cons (.dget (.var 3) (.var 1)) (.cons (.var 2) .nil))))
    (.seq (.asg (.nm 5) (.comp [6, 7] (.tp (.cons (.nm 6) (.cons (.nm 7) .nil))) .seq (.var 3) .nil (.cmp .ge (.var 7) (.var 4)) (.var 6)))
    (.seq (.ret (.ife (.cmp .gt (.lenS (.var 5)) (.int 0)) (.idx (.var 5) (.int 0)) (.op .add (.idx (.idx (.var 3) (.neg (.int 1))) (.int 0)) (.int 1))))
    .skip)))
def fn_height_low : Fn := ⟨3, 8, ir_height_low⟩
/-- 5 -/
def ir_height_high : IR :=
    .seq (.asg (.nm 3) (.call 3 (.cons (.var 0) .nil)))
    (.seq (.asg (.nm 4) (.call 0 (.cons (.dget (.var 3) (.var 1)) (.cons (.var 2) .nil))))
    (.seq (.asg (.nm 5) (.comp [6, 7] (.tp (.cons (.nm 6) (.cons (.nm 7) .nil))) .seq (.var 3) .nil (.cmp .le (.var 7) (.var 4)) (.var 6)))
    (.seq (.ret (.ife (.cmp .gt (.lenS (.var 5)) (.int 0)) (.idx (.var 5) (.neg (.int 1))) (.op .sub (.idx (.idx (.var 3) (.int 0)) (.int 0)) (.int 1))))
    .skip)))
def fn_height_high : Fn := ⟨3, 8, ir_height_high⟩
/-- 6 -/
def ir_low_of : IR :=
    .seq (.ifS (.cmp .eq (.idx (.var 3) (.int 0)) (.glob 3)) (.seq (.ret (.int 0))
    .skip) .skip)
    (.seq (.ifS (.cmp .eq (.var 2) (.glob 4)) (.seq (.ret (.bi .min2 (.cons (.bi .max2 (.cons (.call 0 (.cons (.var 1) (.cons (.var 3) .nil))) (.cons (.int 0) .nil))) (.cons (.lenS (.idx (.var 0) (.int 1))) .nil))))
    .skip) .skip)
    (.seq (.asg (.tp (.cons (.nm 4) (.cons (.nm 5) .nil))) (.idx (.idx (.var 0) (.int 1)) (.var 1)))
    (.seq (.ifS (.cmp .eq (.var 2) (.glob 5)) (.seq (.ret (.call 1 (.cons (.var 0) (.cons (.call 0 (.cons (.var 4) (.cons (.var 3) .nil))) .nil))))
    .skip) .skip)
    (.seq (.ret (.ife (.bor (.cmp .eq (.idx (.var 3) (.int 0)) (.glob 6)) (.one (.isn false (.var 5)))) (.call 1 (.cons (.var 0) (.cons (.var 4) .nil))) (.call 4 (.cons (.var 0) (.cons (.var 1) (.cons (.var 3) .nil))))))
    .skip))))
def fn_low_of : Fn := ⟨4, 6, ir_low_of⟩
/-- 7 -/
def ir_high_of : IR :=
    .seq (.ifS (.cmp .eq (.idx (.var 3) (.int 0)) (.glob 7)) (.seq (.ret (.op .sub (.lenS (.idx (.var 0) (.int 1))) (.int 1)))
    .skip) .skip)
    (.seq (.ifS (.cmp .eq (.var 2) (.glob 4)) (.seq (.ret (.bi .min2 (.cons (.bi .max2 (.cons (.call 0 (.cons (.var 1) (.cons (.var 3) .nil))) (.cons (.neg (.int 1)) .nil))) (.cons (.op .sub (.lenS (.idx (.var 0) (.int 1))) (.int 1)) .nil))))
    .skip) .skip)
    (.seq (.asg (.tp (.cons (.nm 4) (.cons (.nm 5) .nil))) (.idx (.idx (.var 0) (.int 1)) (.var 1)))
    (.seq (.ifS (.cmp .eq (.var 2) (.glob 5)) (.seq (.ret (.call 2 (.cons (.var 0) (.cons (.call 0 (.cons (.var 4) (.cons (.var 3) .nil))) .nil))))
    .skip) .skip)
    (.seq (.ret (.ife (.bor (.cmp .eq (.idx (.var 3) (.int 0)) (.glob 6)) (.one (.isn false (.var 5)))) (.call 2 (.cons (.var 0) (.cons (.var 4) .nil))) (.call 5 (.cons (.var 0) (.cons (.var 1) (.cons (.var 3) .nil))))))
    .skip))))
def fn_high_of : Fn := ⟨4, 6, ir_high_of⟩
/-- 8 -/
def ir_bounds : IR :=
    .seq (.ret (.tup (.cons (.call 6 (.cons (.var 0) (.cons (.var 1) (.cons (.idx (.var 2) (.int 0)) (.cons (.idx (.var 2) (.int 1)) .nil))))) (.cons (.call 7 (.cons (.var 0) (.cons (.var 1) (.cons (.idx (.var 2) (.int 0)) (.cons (.idx (.var 2) (.int 2)) .nil))))) .nil))))
    .skip
def fn_bounds : Fn := ⟨3, 3, ir_bounds⟩
/-- 9 -/
def ir_piece : IR :=
    .seq (.ret (.ife (.cmp .le (.var 0) (.var 1)) (.tup (.cons (.var 0) (.cons (.var 1) .nil))) .non))
    .skip
def fn_piece : Fn := ⟨2, 2, ir_piece⟩
/-- 10 -/
def ir_pieces : IR :=
    .seq (.asg (.tp (.cons (.nm 4) (.cons (.nm 5) .nil))) (.call 8 (.cons (.var 0) (.cons (.var 1) (.cons (.var 2) .nil)))))
    (.seq (.ifS (.cmp .eq (.idx (.var 2) (.int 3)) (.glob 8)) (.seq (.ret (.tup (.cons (.call 9 (.cons (.var 4) (.cons (.var 5) .nil))) (.cons .non (.cons .non .nil)))))
    .skip) .skip)
    (.seq (.par [(6, false), (7, false)] (.cons (.var 1) (.cons (.var 1) .nil)))
    (.seq (.ifS (.cmp .ne (.idx (.var 2) (.int 3)) (.glob 9)) (.seq (.asg (.nm 8) (.idx (.idx (.idx (.var 0) (.int 1)) (.var 1)) (.int 0)))
    (.seq (.par [(6, false), (7, false)] (.cons (.call 1 (.cons (.var 0) (.cons (.var 8) .nil))) (.cons (.call 2 (.cons (.var 0) (.cons (.var 8) .nil))) .nil)))
    .skip)) .skip)
    (.seq (.asg (.nm 3) (.ife (.cmp .eq (.idx (.var 2) (.int 3)) (.glob 10)) (.call 9 (.cons (.bi .max2 (.cons (.var 4) (.cons (.var 1) .nil))) (.cons (.bi .min2 (.cons (.var 5) (.cons (.var 1) .nil))) .nil))) .non))
    (.seq (.ret (.tup (.cons (.call 9 (.cons (.var 4) (.cons (.bi .min2 (.cons (.var 5) (.cons (.op .sub (.var 6) (.int 1)) .nil))) .nil))) (.cons (.var 3) (.cons (.call 9 (.cons (.bi .max2 (.cons (.var 4) (.cons (.op .add (.var 7) (.int 1)) .nil))) (.cons (.var 5) .nil))) .nil)))))
    .skip)))))
def fn_pieces : Fn := ⟨3, 9, ir_pieces⟩
/-- 11 -/
def ir_cell_at : IR :=
    .seq (.ret (.ife (.cmp .lt (.var 1) (.lenS (.var 0))) (.idx (.var 0) (.var 1)) (.int 0)))
    .skip
def fn_cell_at : Fn := ⟨2, 2, ir_cell_at⟩
/-- 12 -/
def ir_box : IR :=
    .seq (.asg (.nm 2) (.call 11 (.cons (.var 0) (.cons (.var 1) .nil))))
    (.seq (.retO (.lst (.cons (.op .mul (.bi .abs (.cons (.var 2) .nil)) (.bi .int (.cons (.cmp .ge (.bi .abs (.cons (.var 2) .nil)) (.op .pow (.int 10) (.int 18))) .nil))) (.cons (.op .add (.op .add (.op .mod (.var 2) (.int 2305843009213693951)) (.op .mul (.int 39373) (.var 1))) (.int 71)) (.cons (.int 0) .nil)))))
    .skip)
def fn_box : Fn := ⟨2, 3, ir_box⟩
/-- 13 -/
def ir_take : IR :=
    .seq (.ifS (.cmp .gt (.idx (.var 0) (.int 0)) (.int 0)) (.seq (.asg (.nm 4) (.op .mod (.idx (.var 0) (.int 0)) (.var 1)))
    (.seq (.setI 0 (.int 0) (.op .fdiv (.idx (.var 0) (.int 0)) (.var 1)))
    (.seq (.ret (.var 4))
    .skip))) .skip)
    (.seq (.ifS (.cmp .gt (.var 1) (.op .pow (.int 10) (.int 7))) (.seq (.ret (.op .mod (.op .add (.call 13 (.cons (.var 0) (.cons (.op .pow (.int 10) (.int 7)) .nil))) (.op .mul (.op .pow (.int 10) (.int 7)) (.call 13 (.cons (.var 0) (.cons (.op .add (.op .fdiv (.op .sub (.var 1) (.int 1)) (.op .pow (.int 10) (.int 7))) (.int 1)) .nil))))) (.var 1)))
    .skip) .skip)
    (.seq (.setI 0 (.int 2) (.op .add (.idx (.var 0) (.int 2)) (.int 1)))
    (.seq (.asg (.nm 2) (.op .mod (.op .mul (.op .add (.idx (.var 0) (.int 1)) (.op .mul (.int 48271) (.idx (.var 0) (.int 2)))) (.op .add (.int 39373) (.idx (.var 0) (.int 2)))) (.int 2147483647)))
    (.seq (.asg (.nm 3) (.op .mod (.op .mul (.op .add (.op .add (.var 2) (.idx (.var 0) (.int 2))) (.op .fdiv (.idx (.var 0) (.int 1)) (.int 1000003))) (.op .add (.op .mod (.var 2) (.int 40009)) (.int 7))) (.int 2147483629)))
    (.seq (.ret (.op .mod (.op .fdiv (.op .mod (.op .add (.op .mul (.var 3) (.int 48271)) (.var 2)) (.int 2147483587)) (.int 64)) (.var 1)))
    .skip)))))
def fn_take : Fn := ⟨2, 5, ir_take⟩
/-- 14 -/
def ir_of : IR :=
    .seq (.ret (.idx (.var 1) (.call 13 (.cons (.var 0) (.cons (.lenS (.var 1)) .nil)))))
    .skip
def fn_of : Fn := ⟨2, 2, ir_of⟩
/-- 15 -/
def ir_same : IR :=
    .seq (.ifS (.isi (.var 1) [.list, .tuple]) (.seq (.ifS (.bor (.cmp .ne (.isi (.var 0) [.list]) (.isi (.var 1) [.list])) (.one (.cmp .ne (.isi (.var 0) [.tuple]) (.isi (.var 1) [.tuple])))) (.seq (.ret (.bl false))
    .skip) .skip)
    (.seq (.ret (.band (.cmp .eq (.lenS (.var 0)) (.lenS (.var 1))) (.one (.bi .all (.cons (.comp [2, 3] (.tp (.cons (.nm 2) (.cons (.nm 3) .nil))) .zip (.var 0) (.var 1) .nil (.call 15 (.cons (.var 2) (.cons (.var 3) .nil)))) .nil)))))
    .skip)) .skip)
    (.seq (.ifS (.bor (.isn false (.var 1)) (.one (.isi (.var 1) [.str, .bool]))) (.seq (.ret (.band (.cmp .eq (.var 0) (.var 1)) (.band (.cmp .eq (.isi (.var 0) [.bool]) (.isi (.var 1) [.bool])) (.one (.cmp .eq (.isn false (.var 0)) (.isn false (.var 1)))))))
    .skip) .skip)
    (.seq (.ret (.band (.isi (.var 0) [.int]) (.band (.bnot (.isi (.var 0) [.bool])) (.one (.cmp .eq (.var 0) (.var 1))))))
    .skip))
def fn_same : Fn := ⟨2, 4, ir_same⟩
/-- 16 -/
def ir_lists : IR :=
    .seq (.ret (.ife (.isi (.var 0) [.list, .tuple]) (.comp [1] (.nm 1) .seq (.var 0) .nil .nil (.call 16 (.cons (.var 1) .nil))) (.var 0)))
    .skip
def fn_lists : Fn := ⟨1, 2, ir_lists⟩
/-- 17 -/
def ir_half : IR :=
    .seq (.asg (.nm 2) (.ife (.isi (.var 0) [.list, .tuple]) (.comp [3] (.nm 3) .seq (.var 0) .nil .nil (.call 17 (.cons (.var 3) (.cons (.op .add (.var 1) (.int 1)) .nil)))) (.var 0)))
    (.seq (.ret (.ife (.band (.isi (.var 2) [.list]) (.one (.cmp .eq (.op .mod (.var 1) (.int 2)) (.int 0)))) (.bi .tuple (.cons (.var 2) .nil)) (.var 2)))
    .skip)
def fn_half : Fn := ⟨2, 4, ir_half⟩
/-- 18 -/
def ir_lane : IR :=
    .seq (.par [(4, false), (5, false), (6, true), (7, false)] (.cons (.call 13 (.cons (.var 0) (.cons (.int 5) .nil))) (.cons (.call 13 (.cons (.var 0) (.cons (.int 3) .nil))) (.cons (.lst .nil) (.cons (.int 0) .nil)))))
    (.seq (.par [(8, false), (9, false)] (.cons (.op .sub (.call 13 (.cons (.var 0) (.cons (.int 9) .nil))) (.int 4)) (.cons (.op .sub (.int 1) (.op .mul (.int 2) (.call 13 (.cons (.var 0) (.cons (.int 2) .nil))))) .nil)))
    (.seq (.forS (.nm 2) .rng (.op .add (.int 1) (.call 13 (.cons (.var 0) (.cons (.var 1) .nil)))) .nil (.seq (.ifS (.band (.cmp .gt (.var 2) (.int 0)) (.one (.cmp .eq (.call 13 (.cons (.var 0) (.cons (.int 2) .nil))) (.int 0)))) (.seq (.par [(7, false), (8, false)] (.cons (.op .add (.var 7) (.int 1)) (.cons (.op .add (.op .add (.var 8) (.int 1)) (.call 13 (.cons (.var 0) (.cons (.int 3) .nil)))) .nil)))
    .skip) .skip)
    (.seq (.expr (.mu .append 6 (.cons (.tup (.cons (.var 7) (.cons (.op .mul (.var 9) (.var 8)) .nil))) .nil)))
    .skip)))
    (.seq (.ifS (.cmp .lt (.var 4) (.int 2)) (.seq (.asgO 6 (.comp [10, 11] (.tp (.cons (.nm 10) (.cons (.nm 11) .nil))) .seq (.frz 6) .nil .nil (.tup (.cons (.ife (.cmp .eq (.var 4) (.int 0)) (.var 10) (.int 0)) (.cons .non .nil)))))
    (.seq (.ret (.tup (.cons (.tup (.cons (.ife (.bor (.cmp .eq (.var 4) (.int 0)) (.one (.cmp .eq (.var 9) (.int 1)))) (.str "up") (.str "down")) (.cons (.bi .tuple (.cons (.var 6) .nil)) .nil))) (.cons (.cmp .eq (.var 4) (.int 1)) .nil))))
    .skip)) .skip)
    (.seq (.asg (.nm 3) (.op .mul (.lst (.cons (.tup (.cons (.int 0) (.cons .non .nil))) .nil)) (.op .add (.int 1) (.call 13 (.cons (.var 0) (.cons (.int 2) .nil))))))
    (.seq (.ifS (.cmp .eq (.var 5) (.int 1)) (.seq (.asgO 6 (.op .add (.var 3) (.comp [10, 11] (.tp (.cons (.nm 10) (.cons (.nm 11) .nil))) .seq (.frz 6) .nil .nil (.tup (.cons (.op .add (.var 10) (.int 1)) (.cons (.var 11) .nil))))))
    .skip) .skip)
    (.seq (.ifS (.cmp .eq (.var 5) (.int 2)) (.seq (.asgO 6 (.op .add (.var 6) (.op .mul (.lst (.cons (.tup (.cons (.op .add (.var 7) (.int 1)) (.cons .non .nil))) .nil)) (.lenS (.var 3)))))
    .skip) .skip)
    (.seq (.ret (.tup (.cons (.tup (.cons (.ife (.cmp .eq (.var 9) (.int 1)) (.str "up") (.str "down")) (.cons (.bi .tuple (.cons (.var 6) .nil)) .nil))) (.cons (.bl true) .nil))))
    .skip)))))))
def fn_lane : Fn := ⟨2, 12, ir_lane⟩
/-- 19 -/
def ir_edge : IR :=
    .seq (.ret (.call 14 (.cons (.var 0) (.cons (.lst (.cons (.tup (.cons (.str "here") .nil)) (.cons (.tup (.cons (.str "before") (.cons (.call 13 (.cons (.var 0) (.cons (.var 1) .nil))) .nil))) (.cons (.tup (.cons (.str "after") (.cons (.call 13 (.cons (.var 0) (.cons (.var 1) .nil))) .nil))) .nil)))) .nil))))
    .skip
def fn_edge : Fn := ⟨2, 2, ir_edge⟩
/-- 20 -/
def ir_shape : IR :=
    .seq (.asg (.nm 3) (.ife (.cmp .eq (.call 13 (.cons (.var 0) (.cons (.int 4) .nil))) (.int 0)) (.tup (.cons (.str "start") .nil)) (.call 19 (.cons (.var 0) (.cons (.var 2) .nil)))))
    (.seq (.asg (.nm 4) (.ife (.cmp .eq (.call 13 (.cons (.var 0) (.cons (.int 4) .nil))) (.int 0)) (.tup (.cons (.str "end") .nil)) (.call 19 (.cons (.var 0) (.cons (.var 2) .nil)))))
    (.seq (.asg (.nm 5) (.call 14 (.cons (.var 0) (.cons (.ife (.bor (.var 1) (.one (.cmp .eq (.op .add (.lenS (.var 3)) (.lenS (.var 4))) (.int 2)))) (.lst (.cons (.str "rows") (.cons (.str "range") (.cons (.str "groups") .nil)))) (.lst (.cons (.str "rows") (.cons (.str "groups") .nil)))) .nil))))
    (.seq (.ret (.tup (.cons (.var 5) (.cons (.var 3) (.cons (.var 4) (.cons (.call 14 (.cons (.var 0) (.cons (.lst (.cons (.str "nobody") (.cons (.str "row") (.cons (.str "group") (.cons (.str "ties") .nil))))) .nil))) .nil))))))
    .skip)))
def fn_shape : Fn := ⟨3, 6, ir_shape⟩
/-- 21 -/
def ir_reaches : IR :=
    .seq (.asg (.nm 6) (.ife (.cmp .eq (.idx (.var 4) (.int 0)) (.str "after")) (.idx (.var 4) (.int 1)) (.ife (.cmp .eq (.idx (.var 4) (.int 0)) (.str "before")) (.op .sub (.int 0) (.idx (.var 4) (.int 1))) (.int 0))))
    (.seq (.par [(8, false), (9, false)] (.cons (.idx (.idx (.var 0) (.int 1)) (.var 1)) (.cons (.idx (.idx (.var 0) (.int 1)) (.var 2)) .nil)))
    (.seq (.ifS (.cmp .isin (.idx (.var 4) (.int 0)) (.tup (.cons (.str "start") (.cons (.str "end") .nil)))) (.seq (.ret (.bl true))
    .skip) .skip)
    (.seq (.ifS (.cmp .eq (.var 3) (.str "rows")) (.seq (.ret (.cmp .ge (.op .mul (.var 5) (.var 2)) (.op .mul (.var 5) (.op .add (.var 1) (.var 6)))))
    .skip) .skip)
    (.seq (.ifS (.bor (.cmp .eq (.var 3) (.str "groups")) (.one (.cmp .eq (.idx (.var 4) (.int 0)) (.str "here")))) (.seq (.ret (.cmp .ge (.op .mul (.var 5) (.idx (.var 9) (.int 0))) (.op .mul (.var 5) (.op .add (.idx (.var 8) (.int 0)) (.var 6)))))
    .skip) .skip)
    (.seq (.ifS (.band (.isn false (.idx (.var 8) (.int 1))) (.one (.isn false (.idx (.var 9) (.int 1))))) (.seq (.ret (.bl true))
    .skip) .skip)
    (.seq (.ifS (.bor (.isn false (.idx (.var 8) (.int 1))) (.one (.isn false (.idx (.var 9) (.int 1))))) (.seq (.ret (.cmp .eq (.cmp .gt (.var 2) (.var 1)) (.cmp .eq (.var 5) (.int 1))))
    .skip) .skip)
    (.seq (.asg (.nm 7) (.ife (.cmp .eq (.idx (.var 0) (.int 0)) (.str "up")) (.int 1) (.neg (.int 1))))
    (.seq (.ret (.cmp .ge (.op .mul (.op .mul (.var 5) (.var 7)) (.idx (.var 9) (.int 1))) (.op .mul (.var 5) (.op .add (.op .mul (.var 7) (.idx (.var 8) (.int 1))) (.var 6)))))
    .skip))))))))
def fn_reaches : Fn := ⟨6, 10, ir_reaches⟩
/-- 22 -/
def ir_full : IR :=
    .seq (.asg (.nm 3) (.comp [4] (.nm 4) .rng (.lenS (.idx (.var 0) (.int 1))) .nil (.call 21 (.cons (.var 0) (.cons (.var 1) (.cons (.var 4) (.cons (.idx (.var 2) (.int 0)) (.cons (.idx (.var 2) (.int 1)) (.cons (.int 1) .nil))))))) (.var 4)))
    (.seq (.ret (.comp [4] (.nm 4) .seq (.var 3) .nil (.call 21 (.cons (.var 0) (.cons (.var 1) (.cons (.var 4) (.cons (.idx (.var 2) (.int 0)) (.cons (.idx (.var 2) (.int 2)) (.cons (.neg (.int 1)) .nil))))))) (.var 4)))
    .skip)
def fn_full : Fn := ⟨3, 5, ir_full⟩
/-- 23 -/
def ir_edges : IR :=
    .seq (.ret (.ife (.cmp .ne (.var 0) (.lst .nil)) (.tup (.cons (.idx (.var 0) (.int 0)) (.cons (.idx (.var 0) (.neg (.int 1))) .nil))) .non))
    .skip
def fn_edges : Fn := ⟨1, 1, ir_edges⟩
/-- 24 -/
def ir_due : IR :=
    .seq (.par [(6, false), (7, false)] (.cons (.call 22 (.cons (.var 0) (.cons (.var 1) (.cons (.var 2) .nil)))) (.cons (.idx (.var 2) (.int 3)) .nil)))
    (.seq (.ifS (.cmp .eq (.var 7) (.str "nobody")) (.seq (.ret (.tup (.cons (.call 23 (.cons (.var 6) .nil)) (.cons .non (.cons .non .nil)))))
    .skip) .skip)
    (.seq (.asg (.nm 3) (.comp [10, 11] (.tp (.cons (.nm 10) (.cons (.nm 11) .nil))) .enm (.idx (.var 0) (.int 1)) .nil (.cmp .eq (.idx (.var 11) (.int 0)) (.idx (.idx (.idx (.var 0) (.int 1)) (.var 1)) (.int 0))) (.var 10)))
    (.seq (.asg (.nm 4) (.ife (.cmp .eq (.var 7) (.str "row")) (.lst (.cons (.var 1) .nil)) (.var 3)))
    (.seq (.par [(8, false), (9, false)] (.cons (.comp [10] (.nm 10) .seq (.var 6) .nil (.cmp .lt (.var 10) (.idx (.var 4) (.int 0))) (.var 10)) (.cons (.comp [10] (.nm 10) .seq (.var 6) .nil (.cmp .gt (.var 10) (.idx (.var 4) (.neg (.int 1)))) (.var 10)) .nil)))
    (.seq (.asg (.nm 5) (.ife (.band (.cmp .eq (.var 7) (.str "ties")) (.one (.cmp .isin (.var 1) (.var 6)))) (.tup (.cons (.var 1) (.cons (.var 1) .nil))) .non))
    (.seq (.ret (.tup (.cons (.call 23 (.cons (.var 8) .nil)) (.cons (.var 5) (.cons (.call 23 (.cons (.var 9) .nil)) .nil)))))
    .skip))))))
def fn_due : Fn := ⟨3, 12, ir_due⟩
/-- 25 -/
def ir_right : IR :=
    .seq (.forS (.nm 1) .rng (.int 3) .nil (.seq (.asg (.tp (.cons (.nm 3) (.cons (.nm 4) .nil))) (.call 18 (.cons (.var 0) (.cons (.int 12) .nil))))
    (.seq (.forS (.nm 2) .rng (.int 6) .nil (.seq (.asg (.nm 5) (.call 20 (.cons (.var 0) (.cons (.var 4) (.cons (.int 6) .nil)))))
    (.seq (.forS (.nm 6) .rng (.lenS (.idx (.var 3) (.int 1))) .nil (.seq (.asg (.nm 7) (.call 24 (.cons (.var 3) (.cons (.var 6) (.cons (.var 5) .nil)))))
    (.seq (.asgO 8 (.lst (.cons (.call 10 (.cons (.var 3) (.cons (.var 6) (.cons (.var 5) .nil)))) .nil)))
    (.seq (.expr (.mu .append 8 (.cons (.callK 0 (.cons (.call 16 (.cons (.var 5) .nil)) (.cons (.var 6) (.cons (.call 16 (.cons (.var 3) .nil)) .nil)))) .nil)))
    (.seq (.expr (.mu .append 8 (.cons (.call 10 (.cons (.call 17 (.cons (.var 3) (.cons (.var 6) .nil))) (.cons (.var 6) (.cons (.call 17 (.cons (.var 5) (.cons (.var 2) .nil))) .nil)))) .nil)))
    (.seq (.ifS (.bnot (.call 15 (.cons (.frz 8) (.cons (.op .mul (.lst (.cons (.var 7) .nil)) (.int 3)) .nil)))) (.seq (.ret (.bl false))
    .skip) .skip)
    .skip))))))
    .skip)))
    .skip)))
    (.seq (.ret (.bl true))
    .skip)
def fn_right : Fn := ⟨1, 9, ir_right⟩
/-- 26 -/
def ir_law : IR :=
    .seq (.ret (.bi .all (.cons (.comp [1] (.nm 1) .rng (.op .add (.int 1) (.bi .min2 (.cons (.int 2) (.cons (.lenS (.var 0)) .nil)))) .nil .nil (.callT 25 12 (.cons (.var 0) (.cons (.var 1) .nil)))) .nil)))
    .skip
def fn_law : Fn := ⟨1, 2, ir_law⟩
/-- 27 -/
def ir_stretches : IR :=
    .seq (.asgO 3 (.lst .nil))
    (.seq (.forS (.nm 4) .seq (.call 10 (.cons (.var 0) (.cons (.var 1) (.cons (.var 2) .nil)))) .nil (.seq (.ifS (.band (.isn true (.var 4)) (.band (.cmp .gt (.lenS (.var 3)) (.int 0)) (.one (.cmp .eq (.op .add (.idx (.idx (.var 3) (.neg (.int 1))) (.int 1)) (.int 1)) (.idx (.var 4) (.int 0)))))) (.seq (.setI 3 (.neg (.int 1)) (.tup (.cons (.idx (.idx (.var 3) (.neg (.int 1))) (.int 0)) (.cons (.idx (.var 4) (.int 1)) .nil))))
    .skip) (.seq (.ifS (.isn true (.var 4)) (.seq (.expr (.mu .append 3 (.cons (.var 4) .nil)))
    .skip) .skip)
    .skip))
    .skip))
    (.seq (.ret (.bi .tuple (.cons (.var 3) .nil)))
    .skip))
def fn_stretches : Fn := ⟨3, 5, ir_stretches⟩
/-- 28 -/
def ir_out : IR :=
    .seq (.asg (.nm 3) (.comp [4, 5] (.tp (.cons (.nm 4) (.cons (.nm 5) .nil))) .enm (.idx (.var 0) (.int 1)) .nil (.cmp .eq (.idx (.var 5) (.int 0)) (.idx (.idx (.idx (.var 0) (.int 1)) (.var 1)) (.int 0))) (.var 4)))
    (.seq (.ifS (.cmp .isin (.idx (.var 2) (.int 3)) (.tup (.cons (.str "nobody") (.cons (.str "row") .nil)))) (.seq (.ret (.op .mul (.lst (.cons (.var 1) .nil)) (.bi .int (.cons (.cmp .eq (.idx (.var 2) (.int 3)) (.str "row")) .nil))))
    .skip) .skip)
    (.seq (.ret (.comp [4] (.nm 4) .seq (.var 3) .nil (.bor (.cmp .ne (.var 4) (.var 1)) (.one (.cmp .eq (.idx (.var 2) (.int 3)) (.str "group")))) (.var 4)))
    .skip))
def fn_out : Fn := ⟨3, 6, ir_out⟩
/-- 29 -/
def ir_frame : IR :=
    .seq (.asg (.nm 3) (.call 28 (.cons (.var 0) (.cons (.var 1) (.cons (.var 2) .nil)))))
    (.seq (.ret (.comp [4] (.nm 4) .seq (.call 22 (.cons (.var 0) (.cons (.var 1) (.cons (.var 2) .nil)))) .nil (.cmp .notin (.var 4) (.var 3)) (.var 4)))
    .skip)
def fn_frame : Fn := ⟨3, 5, ir_frame⟩
/-- 30 -/
def ir_runs : IR :=
    .seq (.asgO 1 (.lst .nil))
    (.seq (.forS (.nm 2) .seq (.var 0) .nil (.seq (.ifS (.band (.cmp .ne (.var 1) (.lst .nil)) (.one (.cmp .eq (.op .add (.idx (.idx (.var 1) (.neg (.int 1))) (.int 1)) (.int 1)) (.var 2)))) (.seq (.setI 1 (.neg (.int 1)) (.tup (.cons (.idx (.idx (.var 1) (.neg (.int 1))) (.int 0)) (.cons (.var 2) .nil))))
    .skip) (.seq (.expr (.mu .append 1 (.cons (.tup (.cons (.var 2) (.cons (.var 2) .nil))) .nil)))
    .skip))
    .skip))
    (.seq (.ret (.bi .tuple (.cons (.var 1) .nil)))
    .skip))
def fn_runs : Fn := ⟨1, 3, ir_runs⟩
/-- 31 -/
def ir_right_2 : IR :=
    .seq (.forS (.nm 1) .rng (.int 3) .nil (.seq (.asg (.tp (.cons (.nm 3) (.cons (.nm 4) .nil))) (.call 18 (.cons (.var 0) (.cons (.int 12) .nil))))
    (.seq (.forS (.nm 2) .rng (.int 6) .nil (.seq (.asg (.nm 5) (.call 20 (.cons (.var 0) (.cons (.var 4) (.cons (.int 6) .nil)))))
    (.seq (.forS (.nm 6) .rng (.lenS (.idx (.var 3) (.int 1))) .nil (.seq (.asg (.nm 7) (.call 30 (.cons (.call 29 (.cons (.var 3) (.cons (.var 6) (.cons (.var 5) .nil)))) .nil)))
    (.seq (.asgO 8 (.lst (.cons (.call 27 (.cons (.var 3) (.cons (.var 6) (.cons (.var 5) .nil)))) .nil)))
    (.seq (.expr (.mu .append 8 (.cons (.callK 1 (.cons (.call 16 (.cons (.var 5) .nil)) (.cons (.var 6) (.cons (.call 16 (.cons (.var 3) .nil)) .nil)))) .nil)))
    (.seq (.expr (.mu .append 8 (.cons (.call 27 (.cons (.call 17 (.cons (.var 3) (.cons (.var 6) .nil))) (.cons (.var 6) (.cons (.call 17 (.cons (.var 5) (.cons (.var 2) .nil))) .nil)))) .nil)))
    (.seq (.ifS (.bor (.bnot (.call 15 (.cons (.frz 8) (.cons (.op .mul (.lst (.cons (.var 7) .nil)) (.int 3)) .nil)))) (.one (.cmp .gt (.lenS (.var 7)) (.int 3)))) (.seq (.ret (.bl false))
    .skip) .skip)
    .skip))))))
    .skip)))
    .skip)))
    (.seq (.ret (.bl true))
    .skip)
def fn_right_2 : Fn := ⟨1, 9, ir_right_2⟩
/-- 32 -/
def ir_law_2 : IR :=
    .seq (.ret (.bi .all (.cons (.comp [1] (.nm 1) .rng (.op .add (.int 1) (.bi .min2 (.cons (.int 2) (.cons (.lenS (.var 0)) .nil)))) .nil .nil (.callT 31 12 (.cons (.var 0) (.cons (.var 1) .nil)))) .nil)))
    .skip
def fn_law_2 : Fn := ⟨1, 2, ir_law_2⟩
/-- 33 -/
def ir_turned_bound : IR :=
    .seq (.ret (.op .add (.tup (.cons (.gdg 0 (.idx (.var 0) (.int 0))) .nil)) (.bi .tuple (.cons (.slc (.var 0) (.int 1) .nil) .nil))))
    .skip
def fn_turned_bound : Fn := ⟨1, 1, ir_turned_bound⟩
/-- 34 -/
def ir_turned : IR :=
    .seq (.ret (.tup (.cons (.idx (.var 0) (.int 0)) (.cons (.call 33 (.cons (.idx (.var 0) (.int 2)) .nil)) (.cons (.call 33 (.cons (.idx (.var 0) (.int 1)) .nil)) (.cons (.idx (.var 0) (.int 3)) .nil))))))
    .skip
def fn_turned : Fn := ⟨1, 1, ir_turned⟩
/-- 35 -/
def ir_holders : IR :=
    .seq (.ret (.call 27 (.cons (.var 0) (.cons (.var 1) (.cons (.call 34 (.cons (.var 2) .nil)) .nil)))))
    .skip
def fn_holders : Fn := ⟨3, 3, ir_holders⟩
/-- 36 -/
def ir_other_way : IR :=
    .seq (.asg (.nm 1) (.lst (.cons (.str "start") (.cons (.str "before") (.cons (.str "here") (.cons (.str "after") (.cons (.str "end") .nil)))))))
    (.seq (.ret (.op .add (.tup (.cons (.idx (.var 1) (.op .sub (.int 4) (.mt .index (.var 1) (.cons (.idx (.var 0) (.int 0)) .nil)))) .nil)) (.slc (.var 0) (.int 1) .nil)))
    .skip)
def fn_other_way : Fn := ⟨1, 2, ir_other_way⟩
/-- 37 -/
def ir_right_3 : IR :=
    .seq (.forS (.nm 1) .rng (.int 3) .nil (.seq (.asg (.tp (.cons (.nm 3) (.cons (.nm 4) .nil))) (.call 18 (.cons (.var 0) (.cons (.int 10) .nil))))
    (.seq (.forS (.nm 2) .rng (.int 6) .nil (.seq (.par [(8, false), (9, false)] (.cons (.call 20 (.cons (.var 0) (.cons (.var 4) (.cons (.int 6) .nil)))) (.cons (.call 20 (.cons (.var 0) (.cons (.bl true) (.cons (.int 51) .nil)))) .nil)))
    (.seq (.forS (.nm 5) .seq (.tup (.cons (.var 8) (.cons (.var 9) .nil))) .nil (.seq (.asg (.nm 10) (.tup (.cons (.idx (.var 5) (.int 0)) (.cons (.call 36 (.cons (.idx (.var 5) (.int 2)) .nil)) (.cons (.call 36 (.cons (.idx (.var 5) (.int 1)) .nil)) (.cons (.idx (.var 5) (.int 3)) .nil))))))
    (.seq (.asgO 11 (.lst (.cons (.call 34 (.cons (.var 5) .nil)) (.cons (.callK 2 (.cons (.call 16 (.cons (.var 5) .nil)) .nil)) (.cons (.call 34 (.cons (.call 17 (.cons (.var 5) (.cons (.var 2) .nil))) .nil)) (.cons (.call 34 (.cons (.call 34 (.cons (.var 5) .nil)) .nil)) .nil))))))
    (.seq (.ifS (.bnot (.call 15 (.cons (.frz 11) (.cons (.lst (.cons (.var 10) (.cons (.var 10) (.cons (.var 10) (.cons (.var 5) .nil))))) .nil)))) (.seq (.ret (.bl false))
    .skip) .skip)
    .skip))))
    (.seq (.asg (.nm 6) (.comp [12] (.nm 12) .rng (.lenS (.idx (.var 3) (.int 1))) .nil .nil (.call 29 (.cons (.var 3) (.cons (.var 12) (.cons (.var 8) .nil))))))
    (.seq (.forS (.nm 7) .rng (.lenS (.idx (.var 3) (.int 1))) .nil (.seq (.asg (.nm 10) (.call 30 (.cons (.comp [12, 13] (.tp (.cons (.nm 12) (.cons (.nm 13) .nil))) .enm (.var 6) .nil (.cmp .isin (.var 7) (.var 13)) (.var 12)) .nil)))
    (.seq (.asgO 11 (.lst (.cons (.call 35 (.cons (.var 3) (.cons (.var 7) (.cons (.var 8) .nil)))) .nil)))
    (.seq (.expr (.mu .append 11 (.cons (.callK 3 (.cons (.call 16 (.cons (.var 8) .nil)) (.cons (.var 7) (.cons (.call 16 (.cons (.var 3) .nil)) .nil)))) .nil)))
    (.seq (.expr (.mu .append 11 (.cons (.call 35 (.cons (.call 17 (.cons (.var 3) (.cons (.var 7) .nil))) (.cons (.var 7) (.cons (.call 17 (.cons (.var 8) (.cons (.var 2) .nil))) .nil)))) .nil)))
    (.seq (.ifS (.bnot (.call 15 (.cons (.frz 11) (.cons (.op .mul (.lst (.cons (.var 10) .nil)) (.int 3)) .nil)))) (.seq (.ret (.bl false))
    .skip) .skip)
    .skip))))))
    .skip)))))
    .skip)))
    (.seq (.ret (.bl true))
    .skip)
def fn_right_3 : Fn := ⟨1, 14, ir_right_3⟩
/-- 38 -/
def ir_law_3 : IR :=
    .seq (.ret (.bi .all (.cons (.comp [1] (.nm 1) .rng (.op .add (.int 1) (.bi .min2 (.cons (.int 2) (.cons (.lenS (.var 0)) .nil)))) .nil .nil (.callT 37 12 (.cons (.var 0) (.cons (.var 1) .nil)))) .nil)))
    .skip
def fn_law_3 : Fn := ⟨1, 2, ir_law_3⟩
/-- 39 -/
def ir_frame_places : IR :=
    .seq (.asgO 3 (.lst .nil))
    (.seq (.forS (.tp (.cons (.nm 4) (.cons (.nm 5) .nil))) .seq (.call 27 (.cons (.var 0) (.cons (.var 1) (.cons (.var 2) .nil)))) .nil (.seq (.expr (.mu .extend 3 (.cons (.lrng (.var 4) (.op .add (.var 5) (.int 1))) .nil)))
    .skip))
    (.seq (.ret (.frz 3))
    .skip))
def fn_frame_places : Fn := ⟨3, 6, ir_frame_places⟩
/-- 40 -/
def ir_slides : IR :=
    .seq (.asg (.nm 0) (.comp [3] (.nm 3) .seq (.var 0) .nil (.isn true (.var 3)) (.var 3)))
    (.seq (.forS (.tp (.cons (.nm 1) (.cons (.nm 2) .nil))) .zip (.var 0) (.slc (.var 0) (.int 1) .nil) (.seq (.ifS (.bor (.cmp .lt (.idx (.var 2) (.int 0)) (.idx (.var 1) (.int 0))) (.one (.cmp .lt (.idx (.var 2) (.int 1)) (.idx (.var 1) (.int 1))))) (.seq (.ret (.bl false))
    .skip) .skip)
    .skip))
    (.seq (.ret (.bl true))
    .skip))
def fn_slides : Fn := ⟨1, 4, ir_slides⟩
/-- 41 -/
def ir_lane_right : IR :=
    .seq (.par [(6, false), (7, false)] (.cons (.lenS (.idx (.var 0) (.int 1))) (.cons (.call 34 (.cons (.var 1) .nil)) .nil)))
    (.seq (.asg (.nm 2) (.comp [9] (.nm 9) .rng (.var 6) .nil .nil (.call 39 (.cons (.var 0) (.cons (.var 9) (.cons (.var 1) .nil))))))
    (.seq (.forS (.nm 3) .rng (.var 6) .nil (.seq (.asg (.nm 8) (.comp [9] (.nm 9) .rng (.var 6) .nil (.cmp .isin (.var 3) (.idx (.var 2) (.var 9))) (.var 9)))
    (.seq (.ifS (.bor (.cmp .ne (.call 39 (.cons (.var 0) (.cons (.var 3) (.cons (.var 7) .nil)))) (.var 8)) (.one (.cmp .ne (.call 35 (.cons (.var 0) (.cons (.var 3) (.cons (.var 1) .nil)))) (.call 30 (.cons (.var 8) .nil))))) (.seq (.ret (.bl false))
    .skip) .skip)
    (.seq (.ifS (.bor (.cmp .ne (.call 35 (.cons (.var 0) (.cons (.var 3) (.cons (.var 7) .nil)))) (.call 30 (.cons (.idx (.var 2) (.var 3)) .nil))) (.one (.cmp .ne (.call 27 (.cons (.var 0) (.cons (.var 3) (.cons (.var 1) .nil)))) (.call 30 (.cons (.idx (.var 2) (.var 3)) .nil))))) (.seq (.ret (.bl false))
    .skip) .skip)
    .skip))))
    (.seq (.asg (.nm 4) (.comp [9] (.nm 9) .rng (.var 6) .nil .nil (.call 8 (.cons (.var 0) (.cons (.var 9) (.cons (.var 1) .nil))))))
    (.seq (.asg (.nm 5) (.comp [9] (.nm 9) .rng (.var 6) .nil .nil (.call 10 (.cons (.var 0) (.cons (.var 9) (.cons (.var 1) .nil))))))
    (.seq (.ifS (.bor (.bnot (.call 40 (.cons (.var 4) .nil))) (.one (.bnot (.call 40 (.cons (.comp [10, 11, 12] (.tp (.cons (.nm 10) (.cons (.nm 11) (.cons (.nm 12) .nil)))) .seq (.var 5) .nil .nil (.var 10)) .nil))))) (.seq (.ret (.bl false))
    .skip) .skip)
    (.seq (.ret (.call 40 (.cons (.comp [10, 11, 12] (.tp (.cons (.nm 10) (.cons (.nm 11) (.cons (.nm 12) .nil)))) .seq (.var 5) .nil .nil (.var 12)) .nil)))
    .skip))))))
def fn_lane_right : Fn := ⟨2, 13, ir_lane_right⟩
/-- 42 -/
def ir_right_4 : IR :=
    .seq (.forS (.nm 1) .rng (.int 4) .nil (.seq (.asg (.tp (.cons (.nm 2) (.cons (.nm 3) .nil))) (.call 18 (.cons (.var 0) (.cons (.int 12) .nil))))
    (.seq (.ifS (.bnot (.bi .all (.cons (.comp [4] (.nm 4) .rng (.int 5) .nil .nil (.call 41 (.cons (.var 2) (.cons (.call 20 (.cons (.var 0) (.cons (.var 3) (.cons (.int 5) .nil)))) .nil)))) .nil))) (.seq (.ret (.bl false))
    .skip) .skip)
    .skip)))
    (.seq (.ret (.bl true))
    .skip)
def fn_right_4 : Fn := ⟨1, 5, ir_right_4⟩
/-- 43 -/
def ir_law_4 : IR :=
    .seq (.ret (.bi .all (.cons (.comp [1] (.nm 1) .rng (.op .add (.int 1) (.bi .min2 (.cons (.int 2) (.cons (.lenS (.var 0)) .nil)))) .nil .nil (.callT 42 12 (.cons (.var 0) (.cons (.var 1) .nil)))) .nil)))
    .skip
def fn_law_4 : Fn := ⟨1, 2, ir_law_4⟩
/-- 44 -/
def ir_wider : IR :=
    .seq (.par [(1, false), (2, false)] (.cons (.idx (.var 0) (.int 1)) (.cons (.idx (.var 0) (.int 2)) .nil)))
    (.seq (.ifS (.cmp .isin (.idx (.var 1) (.int 0)) (.tup (.cons (.str "before") (.cons (.str "after") .nil)))) (.seq (.asg (.nm 1) (.ife (.bor (.cmp .eq (.idx (.var 1) (.int 0)) (.str "before")) (.one (.cmp .eq (.idx (.var 1) (.int 1)) (.int 0)))) (.tup (.cons (.str "before") (.cons (.op .add (.idx (.var 1) (.int 1)) (.int 1)) .nil))) (.tup (.cons (.str "after") (.cons (.op .sub (.idx (.var 1) (.int 1)) (.int 1)) .nil)))))
    .skip) .skip)
    (.seq (.ifS (.cmp .isin (.idx (.var 2) (.int 0)) (.tup (.cons (.str "before") (.cons (.str "after") .nil)))) (.seq (.asg (.nm 2) (.ife (.bor (.cmp .eq (.idx (.var 2) (.int 0)) (.str "after")) (.one (.cmp .eq (.idx (.var 2) (.int 1)) (.int 0)))) (.tup (.cons (.str "after") (.cons (.op .add (.idx (.var 2) (.int 1)) (.int 1)) .nil))) (.tup (.cons (.str "before") (.cons (.op .sub (.idx (.var 2) (.int 1)) (.int 1)) .nil)))))
    .skip) .skip)
    (.seq (.ret (.tup (.cons (.idx (.var 0) (.int 0)) (.cons (.var 1) (.cons (.var 2) (.cons (.idx (.var 0) (.int 3)) .nil))))))
    .skip)))
def fn_wider : Fn := ⟨1, 3, ir_wider⟩
/-- 45 -/
def ir_far : IR :=
    .seq (.ret (.ife (.cmp .eq (.lenS (.var 0)) (.int 1)) (.var 0) (.tup (.cons (.idx (.var 0) (.int 0)) (.cons (.op .mul (.idx (.var 0) (.int 1)) (.var 1)) .nil)))))
    .skip
def fn_far : Fn := ⟨2, 2, ir_far⟩
/-- 46 -/
def ir_left_out_right : IR :=
    .seq (.asg (.nm 3) (.comp [6] (.nm 6) .seq (.tup (.cons (.str "nobody") (.cons (.str "row") (.cons (.str "group") (.cons (.str "ties") .nil))))) .nil .nil (.call 39 (.cons (.var 0) (.cons (.var 1) (.cons (.op .add (.slc (.var 2) .nil (.int 3)) (.tup (.cons (.var 6) .nil))) .nil))))))
    (.seq (.asg (.nm 4) (.comp [7, 8] (.tp (.cons (.nm 7) (.cons (.nm 8) .nil))) .enm (.idx (.var 0) (.int 1)) .nil (.cmp .eq (.idx (.var 8) (.int 0)) (.idx (.idx (.idx (.var 0) (.int 1)) (.var 1)) (.int 0))) (.var 7)))
    (.seq (.asgO 5 (.lst (.cons (.idx (.var 3) (.int 0)) (.cons (.comp [7] (.nm 7) .seq (.idx (.var 3) (.int 0)) .nil (.cmp .ne (.var 7) (.var 1)) (.var 7)) (.cons (.comp [7] (.nm 7) .seq (.idx (.var 3) (.int 0)) .nil (.cmp .notin (.var 7) (.var 4)) (.var 7)) .nil)))))
    (.seq (.expr (.mu .append 5 (.cons (.comp [7] (.nm 7) .seq (.idx (.var 3) (.int 0)) .nil (.bor (.cmp .eq (.var 7) (.var 1)) (.one (.cmp .notin (.var 7) (.var 4)))) (.var 7)) .nil)))
    (.seq (.ret (.cmp .eq (.var 3) (.var 5)))
    .skip))))
def fn_left_out_right : Fn := ⟨3, 9, ir_left_out_right⟩
/-- 47 -/
def ir_lifted_by : IR :=
    .seq (.ret (.tup (.cons (.idx (.var 0) (.int 0)) (.cons (.bi .tuple (.cons (.comp [3, 4] (.tp (.cons (.nm 3) (.cons (.nm 4) .nil))) .seq (.idx (.var 0) (.int 1)) .nil .nil (.tup (.cons (.var 3) (.cons (.ife (.isn false (.var 4)) .non (.op .add (.op .mul (.var 1) (.var 4)) (.var 2))) .nil)))) .nil)) .nil))))
    .skip
def fn_lifted_by : Fn := ⟨3, 5, ir_lifted_by⟩
/-- 48 -/
def ir_lane_right_2 : IR :=
    .seq (.par [(8, false), (9, false)] (.cons (.tup (.cons (.tup (.cons (.str "here") .nil)) (.cons (.tup (.cons (.str "here") .nil)) (.cons (.idx (.var 2) (.int 3)) .nil)))) (.cons (.call 47 (.cons (.var 0) (.cons (.var 3) (.cons (.var 4) .nil)))) .nil)))
    (.seq (.asg (.nm 5) (.tup (.cons (.idx (.var 2) (.int 0)) (.cons (.call 45 (.cons (.idx (.var 2) (.int 1)) (.cons (.var 3) .nil))) (.cons (.call 45 (.cons (.idx (.var 2) (.int 2)) (.cons (.var 3) .nil))) (.cons (.idx (.var 2) (.int 3)) .nil))))))
    (.seq (.asg (.nm 6) (.tup (.cons (.str "up") (.cons (.bi .tuple (.cons (.comp [16] (.nm 16) .rng (.lenS (.idx (.var 0) (.int 1))) .nil .nil (.tup (.cons (.var 16) (.cons .non .nil)))) .nil)) .nil))))
    (.seq (.forS (.nm 7) .rng (.lenS (.idx (.var 0) (.int 1))) .nil (.seq (.asg (.nm 10) (.call 39 (.cons (.var 0) (.cons (.var 7) (.cons (.var 2) .nil)))))
    (.seq (.asg (.nm 11) (.call 39 (.cons (.var 0) (.cons (.var 7) (.cons (.call 44 (.cons (.var 2) .nil)) .nil)))))
    (.seq (.ifS (.bor (.bnot (.bi .all (.cons (.comp [16] (.nm 16) .seq (.var 10) .nil .nil (.cmp .isin (.var 16) (.var 11))) .nil))) (.one (.bnot (.call 46 (.cons (.var 0) (.cons (.var 7) (.cons (.var 2) .nil))))))) (.seq (.ret (.bl false))
    .skip) .skip)
    (.seq (.par [(12, false), (14, false)] (.cons (.call 27 (.cons (.var 0) (.cons (.var 7) (.cons (.op .add (.tup (.cons (.str "groups") .nil)) (.var 8)) .nil)))) (.cons (.tup (.cons (.str "range") (.cons (.tup (.cons (.str "before") (.cons (.int 0) .nil))) (.cons (.tup (.cons (.str "after") (.cons (.int 0) .nil))) (.cons (.idx (.var 2) (.int 3)) .nil))))) .nil)))
    (.seq (.ifS (.bor (.cmp .ne (.call 27 (.cons (.var 0) (.cons (.var 7) (.cons (.op .add (.tup (.cons (.str "range") .nil)) (.var 8)) .nil)))) (.var 12)) (.one (.band (.var 1) (.one (.cmp .ne (.call 27 (.cons (.var 0) (.cons (.var 7) (.cons (.var 14) .nil)))) (.var 12)))))) (.seq (.ret (.bl false))
    .skip) .skip)
    (.seq (.asg (.nm 12) (.call 27 (.cons (.var 0) (.cons (.var 7) (.cons (.var 2) .nil)))))
    (.seq (.ifS (.band (.cmp .eq (.idx (.var 2) (.int 0)) (.str "range")) (.one (.cmp .ne (.call 27 (.cons (.var 9) (.cons (.var 7) (.cons (.var 5) .nil)))) (.var 12)))) (.seq (.ret (.bl false))
    .skip) .skip)
    (.seq (.asg (.nm 13) (.comp [15] (.nm 15) .seq (.tup (.cons (.str "rows") (.cons (.str "groups") .nil))) .nil .nil (.call 27 (.cons (.var 6) (.cons (.var 7) (.cons (.op .add (.tup (.cons (.var 15) .nil)) (.slc (.var 2) (.int 1) .nil)) .nil))))))
    (.seq (.ifS (.cmp .ne (.idx (.var 13) (.int 0)) (.idx (.var 13) (.int 1))) (.seq (.ret (.bl false))
    .skip) .skip)
    .skip))))))))))
    (.seq (.ret (.bl true))
    .skip))))
def fn_lane_right_2 : Fn := ⟨5, 17, ir_lane_right_2⟩
/-- 49 -/
def ir_right_5 : IR :=
    .seq (.forS (.nm 1) .rng (.int 4) .nil (.seq (.asg (.tp (.cons (.nm 3) (.cons (.nm 4) .nil))) (.call 18 (.cons (.var 0) (.cons (.int 12) .nil))))
    (.seq (.forS (.nm 2) .rng (.int 4) .nil (.seq (.par [(6, false), (7, false)] (.cons (.call 20 (.cons (.var 0) (.cons (.var 4) (.cons (.int 5) .nil)))) (.cons (.op .add (.int 1) (.call 13 (.cons (.var 0) (.cons (.int 9) .nil)))) .nil)))
    (.seq (.asg (.nm 5) (.op .sub (.call 13 (.cons (.var 0) (.cons (.op .pow (.int 10) (.int 9)) .nil))) (.op .mul (.int 5) (.op .pow (.int 10) (.int 8)))))
    (.seq (.ifS (.bnot (.call 48 (.cons (.var 3) (.cons (.var 4) (.cons (.var 6) (.cons (.var 7) (.cons (.var 5) .nil))))))) (.seq (.ret (.bl false))
    .skip) .skip)
    .skip))))
    .skip)))
    (.seq (.ret (.bl true))
    .skip)
def fn_right_5 : Fn := ⟨1, 8, ir_right_5⟩
/-- 50 -/
def ir_law_5 : IR :=
    .seq (.ret (.bi .all (.cons (.comp [1] (.nm 1) .rng (.op .add (.int 1) (.bi .min2 (.cons (.int 2) (.cons (.lenS (.var 0)) .nil)))) .nil .nil (.callT 49 12 (.cons (.var 0) (.cons (.var 1) .nil)))) .nil)))
    .skip
def fn_law_5 : Fn := ⟨1, 2, ir_law_5⟩
/-- 51 -/
def ir_frame_places_2 : IR :=
    .seq (.asgO 3 (.lst .nil))
    (.seq (.forS (.tp (.cons (.nm 4) (.cons (.nm 5) .nil))) .seq (.call 27 (.cons (.var 0) (.cons (.var 1) (.cons (.var 2) .nil)))) .nil (.seq (.expr (.mu .extend 3 (.cons (.lrng (.var 4) (.op .add (.var 5) (.int 1))) .nil)))
    .skip))
    (.seq (.retV 3)
    .skip))
def fn_frame_places_2 : Fn := ⟨3, 6, ir_frame_places_2⟩
/-- 52 -/
def ir_lane_right_3 : IR :=
    .seq (.par [(4, false), (5, false)] (.cons (.lenS (.idx (.var 0) (.int 1))) (.cons (.lst (.cons (.call 16 (.cons (.var 0) .nil)) (.cons (.call 16 (.cons (.var 1) .nil)) .nil))) .nil)))
    (.seq (.asg (.nm 2) (.bi .repr (.cons (.var 5) .nil)))
    (.seq (.forS (.nm 3) .rng (.var 4) .nil (.seq (.asg (.nm 6) (.comp [11] (.nm 11) .rng (.var 4) .nil (.call 21 (.cons (.var 0) (.cons (.var 3) (.cons (.var 11) (.cons (.idx (.var 1) (.int 0)) (.cons (.idx (.var 1) (.int 1)) (.cons (.int 1) .nil))))))) (.var 11)))
    (.seq (.asg (.nm 7) (.comp [11] (.nm 11) .rng (.var 4) .nil (.call 21 (.cons (.var 0) (.cons (.var 3) (.cons (.var 11) (.cons (.idx (.var 1) (.int 0)) (.cons (.idx (.var 1) (.int 2)) (.cons (.neg (.int 1)) .nil))))))) (.var 11)))
    (.seq (.par [(9, false), (10, false)] (.cons (.tup (.cons (.op .sub (.var 4) (.lenS (.var 6))) (.cons (.op .sub (.lenS (.var 7)) (.int 1)) .nil))) (.cons (.call 29 (.cons (.var 0) (.cons (.var 3) (.cons (.var 1) .nil)))) .nil)))
    (.seq (.asgO 8 (.lst (.cons (.call 8 (.cons (.var 0) (.cons (.var 3) (.cons (.var 1) .nil)))) (.cons (.callK 4 (.cons (.idx (.var 5) (.int 1)) (.cons (.var 3) (.cons (.idx (.var 5) (.int 0)) .nil)))) .nil))))
    (.seq (.expr (.mu .append 8 (.cons (.call 8 (.cons (.call 17 (.cons (.var 0) (.cons (.var 3) .nil))) (.cons (.var 3) (.cons (.call 17 (.cons (.var 1) (.cons (.var 3) .nil))) .nil)))) .nil)))
    (.seq (.ifS (.bnot (.call 15 (.cons (.frz 8) (.cons (.op .mul (.lst (.cons (.var 9) .nil)) (.int 3)) .nil)))) (.seq (.ret (.bl false))
    .skip) .skip)
    (.seq (.prb 8 (.call 51 (.cons (.var 0) (.cons (.var 3) (.cons (.var 1) .nil)))) (.cons (.callK 5 (.cons (.idx (.var 5) (.int 1)) (.cons (.var 3) (.cons (.idx (.var 5) (.int 0)) .nil)))) .nil) 15 [10, 10])
    (.seq (.ifS (.bnot (.call 15 (.cons (.call 51 (.cons (.var 0) (.cons (.var 3) (.cons (.var 1) .nil)))) (.cons (.var 10) .nil)))) (.seq (.ret (.bl false))
    .skip) .skip)
    .skip)))))))))
    (.seq (.ret (.cmp .eq (.bi .repr (.cons (.var 5) .nil)) (.var 2)))
    .skip)))
def fn_lane_right_3 : Fn := ⟨2, 12, ir_lane_right_3⟩
/-- 53 -/
def ir_right_6 : IR :=
    .seq (.forS (.nm 1) .rng (.int 3) .nil (.seq (.asg (.tp (.cons (.nm 2) (.cons (.nm 3) .nil))) (.call 18 (.cons (.var 0) (.cons (.int 12) .nil))))
    (.seq (.ifS (.bnot (.bi .all (.cons (.comp [4] (.nm 4) .rng (.int 6) .nil .nil (.call 52 (.cons (.var 2) (.cons (.call 20 (.cons (.var 0) (.cons (.var 3) (.cons (.int 6) .nil)))) .nil)))) .nil))) (.seq (.ret (.bl false))
    .skip) .skip)
    .skip)))
    (.seq (.ret (.bl true))
    .skip)
def fn_right_6 : Fn := ⟨1, 5, ir_right_6⟩
/-- 54 -/
def ir_law_6 : IR :=
    .seq (.ret (.bi .all (.cons (.comp [1] (.nm 1) .rng (.op .add (.int 1) (.bi .min2 (.cons (.int 2) (.cons (.lenS (.var 0)) .nil)))) .nil .nil (.callT 53 12 (.cons (.var 0) (.cons (.var 1) .nil)))) .nil)))
    .skip
def fn_law_6 : Fn := ⟨1, 2, ir_law_6⟩
/-- 55 -/
def ir_common_divisor : IR :=
    .seq (.par [(2, false), (3, false)] (.cons (.var 1) (.cons (.bi .abs (.cons (.var 0) .nil)) .nil)))
    (.seq (.whS (.cmp .gt (.var 3) (.int 0)) (.seq (.par [(2, false), (3, false)] (.cons (.var 3) (.cons (.op .mod (.var 2) (.var 3)) .nil)))
    .skip))
    (.seq (.ret (.var 2))
    .skip))
def fn_common_divisor : Fn := ⟨2, 4, ir_common_divisor⟩
/-- 56 -/
def ir_fraction : IR :=
    .seq (.asg (.nm 2) (.call 55 (.cons (.var 0) (.cons (.var 1) .nil))))
    (.seq (.ret (.tup (.cons (.op .fdiv (.var 0) (.var 2)) (.cons (.op .fdiv (.var 1) (.var 2)) .nil))))
    .skip)
def fn_fraction : Fn := ⟨2, 3, ir_fraction⟩
/-- 57 -/
def ir_tile_of : IR :=
    .seq (.par [(3, false), (4, false)] (.cons (.op .fdiv (.var 2) (.var 0)) (.cons (.op .mod (.var 2) (.var 0)) .nil)))
    (.seq (.ifS (.cmp .lt (.var 1) (.op .mul (.var 4) (.op .add (.var 3) (.int 1)))) (.seq (.ret (.op .add (.op .fdiv (.var 1) (.op .add (.var 3) (.int 1))) (.int 1)))
    .skip) .skip)
    (.seq (.ret (.op .add (.op .add (.var 4) (.op .fdiv (.op .sub (.var 1) (.op .mul (.var 4) (.op .add (.var 3) (.int 1)))) (.var 3))) (.int 1)))
    .skip))
def fn_tile_of : Fn := ⟨3, 5, ir_tile_of⟩
/-- 58 -/
def ir_rank_value : IR :=
    .seq (.ifS (.cmp .eq (.var 0) (.glob 11)) (.seq (.ret (.call 57 (.cons (.idx (.var 1) (.int 0)) (.cons (.idx (.var 2) (.int 0)) (.cons (.idx (.var 2) (.int 1)) .nil)))))
    .skip) .skip)
    (.seq (.ifS (.cmp .eq (.var 0) (.glob 12)) (.seq (.ret (.call 56 (.cons (.idx (.var 2) (.int 0)) (.cons (.bi .max2 (.cons (.int 1) (.cons (.op .sub (.idx (.var 2) (.int 1)) (.int 1)) .nil))) .nil))))
    .skip) .skip)
    (.seq (.ret (.ife (.cmp .eq (.var 0) (.glob 13)) (.call 56 (.cons (.idx (.var 2) (.int 0)) (.cons (.idx (.var 2) (.int 1)) .nil))) (.op .add (.idx (.var 2) (.int 0)) (.int 1))))
    .skip))
def fn_rank_value : Fn := ⟨3, 3, ir_rank_value⟩
/-- 59 -/
def ir_offset_value : IR :=
    .seq (.ifS (.cmp .gt (.lenS (.var 2)) (.int 0)) (.seq (.ret (.idx (.var 2) (.int 0)))
    .skip) .skip)
    (.seq (.ret (.ife (.cmp .isin (.var 0) (.glob 14)) (.idx (.var 1) (.int 2)) .non))
    .skip)
def fn_offset_value : Fn := ⟨3, 3, ir_offset_value⟩
/-- 60 -/
def ir_once_each : IR :=
    .seq (.asgO 1 (.lst .nil))
    (.seq (.forS (.nm 2) .seq (.var 0) .nil (.seq (.ifS (.cmp .notin (.var 2) (.var 1)) (.seq (.expr (.mu .append 1 (.cons (.var 2) .nil)))
    .skip) .skip)
    .skip))
    (.seq (.ret (.frz 1))
    .skip))
def fn_once_each : Fn := ⟨1, 3, ir_once_each⟩
/-- 61 -/
def ir_sum_value : IR :=
    .seq (.ifS (.cmp .eq (.var 0) (.glob 15)) (.seq (.ret (.lenS (.var 1)))
    .skip) .skip)
    (.seq (.ifS (.cmp .eq (.lenS (.var 1)) (.int 0)) (.seq (.ret .non)
    .skip) .skip)
    (.seq (.ifS (.cmp .eq (.var 0) (.glob 16)) (.seq (.ret (.mt .join (.glob 17) (.cons (.var 1) .nil)))
    .skip) .skip)
    (.seq (.ifS (.cmp .eq (.var 0) (.glob 18)) (.seq (.ret (.call 56 (.cons (.bi .sum (.cons (.var 1) .nil)) (.cons (.lenS (.var 1)) .nil))))
    .skip) .skip)
    (.seq (.ifS (.cmp .eq (.var 0) (.glob 19)) (.seq (.ret (.bi .sum (.cons (.var 1) .nil)))
    .skip) .skip)
    (.seq (.ret (.ife (.cmp .eq (.var 0) (.glob 20)) (.bi .minL (.cons (.var 1) .nil)) (.bi .maxL (.cons (.var 1) .nil))))
    .skip)))))
def fn_sum_value : Fn := ⟨2, 2, ir_sum_value⟩
/-- 62 -/
def ir_call_value : IR :=
    .seq (.asg (.tp (.cons (.nm 2) (.cons (.nm 3) .nil))) (.var 0))
    (.seq (.ifS (.cmp .isin (.var 2) (.glob 21)) (.seq (.ret (.call 58 (.cons (.var 2) (.cons (.var 3) (.cons (.var 1) .nil)))))
    .skip) .skip)
    (.seq (.ifS (.cmp .isin (.var 2) (.glob 22)) (.seq (.ret (.call 59 (.cons (.var 2) (.cons (.var 3) (.cons (.var 1) .nil)))))
    .skip) .skip)
    (.seq (.ret (.call 61 (.cons (.var 2) (.cons (.ife (.cmp .gt (.lenS (.var 3)) (.int 1)) (.call 60 (.cons (.var 1) .nil)) (.bi .list (.cons (.var 1) .nil))) .nil))))
    .skip)))
def fn_call_value : Fn := ⟨2, 4, ir_call_value⟩
/-- 63 -/
def ir_box_2 : IR :=
    .seq (.asg (.nm 2) (.ife (.cmp .lt (.var 1) (.lenS (.var 0))) (.idx (.var 0) (.var 1)) (.int 0)))
    (.seq (.retO (.lst (.cons (.op .mul (.bi .abs (.cons (.var 2) .nil)) (.bi .int (.cons (.cmp .ge (.bi .abs (.cons (.var 2) .nil)) (.op .pow (.int 10) (.int 18))) .nil))) (.cons (.op .add (.op .add (.op .mod (.var 2) (.int 2305843009213693951)) (.op .mul (.int 39373) (.var 1))) (.int 71)) (.cons (.int 0) .nil)))))
    .skip)
def fn_box_2 : Fn := ⟨2, 3, ir_box_2⟩
/-- 64 -/
def ir_worth : IR :=
    .seq (.ifS (.cmp .eq (.call 13 (.cons (.var 0) (.cons (.int 5) .nil))) (.int 0)) (.seq (.ret .non)
    .skip) .skip)
    (.seq (.ifS (.cmp .eq (.var 2) (.int 2)) (.seq (.ret (.ife (.cmp .eq (.var 1) (.str "number")) (.call 13 (.cons (.var 0) (.cons (.int 2) .nil))) (.call 14 (.cons (.var 0) (.cons (.lst (.cons (.str "a") (.cons (.str "B") .nil))) .nil)))))
    .skip) .skip)
    (.seq (.ifS (.cmp .eq (.var 1) (.str "text")) (.seq (.ret (.call 14 (.cons (.var 0) (.cons (.lst (.cons (.str "") (.cons (.str "a") (.cons (.str "b") (.cons (.str "B") (.cons (.str "a,") (.cons (.str "ab c") (.cons (.str "~") (.cons (.str "1") (.cons (.str "None") .nil)))))))))) .nil))))
    .skip) .skip)
    (.seq (.ret (.ife (.cmp .eq (.var 2) (.int 0)) (.op .sub (.call 13 (.cons (.var 0) (.cons (.int 4) .nil))) (.int 1)) (.op .sub (.call 13 (.cons (.var 0) (.cons (.op .add (.op .mul (.int 2) (.op .pow (.int 10) (.int 12))) (.int 1)) .nil))) (.op .pow (.int 10) (.int 12)))))
    .skip)))
def fn_worth : Fn := ⟨3, 3, ir_worth⟩
/-- 65 -/
def ir_lowest : IR :=
    .seq (.par [(2, false), (3, false)] (.cons (.var 1) (.cons (.bi .abs (.cons (.var 0) .nil)) .nil)))
    (.seq (.whS (.cmp .gt (.var 3) (.int 0)) (.seq (.par [(2, false), (3, false)] (.cons (.var 3) (.cons (.op .mod (.var 2) (.var 3)) .nil)))
    .skip))
    (.seq (.ret (.tup (.cons (.op .fdiv (.var 0) (.var 2)) (.cons (.op .fdiv (.var 1) (.var 2)) .nil))))
    .skip))
def fn_lowest : Fn := ⟨2, 4, ir_lowest⟩
/-- 66 -/
def ir_value : IR :=
    .seq (.par [(2, false), (3, false)] (.cons (.idx (.var 0) (.int 0)) (.cons (.bi .list (.cons (.var 1) .nil)) .nil)))
    (.seq (.ifS (.cmp .eq (.slc (.idx (.var 0) (.int 1)) (.int 1) .nil) (.tup (.cons (.str "unlike") .nil))) (.seq (.asg (.nm 3) (.comp [4, 5] (.tp (.cons (.nm 4) (.cons (.nm 5) .nil))) .enm (.var 1) .nil (.cmp .notin (.var 5) (.slc (.var 1) .nil (.var 4))) (.var 5)))
    .skip) .skip)
    (.seq (.ifS (.bor (.cmp .eq (.var 2) (.str "count")) (.one (.cmp .eq (.var 3) (.lst .nil)))) (.seq (.ret (.ife (.cmp .eq (.var 2) (.str "count")) (.lenS (.var 3)) .non))
    .skip) .skip)
    (.seq (.ifS (.cmp .eq (.var 2) (.str "joined")) (.seq (.ret (.mt .join (.str ",") (.cons (.var 3) .nil)))
    .skip) .skip)
    (.seq (.ifS (.cmp .isin (.var 2) (.tup (.cons (.str "least") (.cons (.str "most") .nil)))) (.seq (.ret (.ife (.cmp .eq (.var 2) (.str "least")) (.bi .minL (.cons (.var 3) .nil)) (.bi .maxL (.cons (.var 3) .nil))))
    .skip) .skip)
    (.seq (.ret (.ife (.cmp .eq (.var 2) (.str "sum")) (.bi .sum (.cons (.var 3) .nil)) (.call 65 (.cons (.bi .sum (.cons (.var 3) .nil)) (.cons (.lenS (.var 3)) .nil)))))
    .skip)))))
def fn_value : Fn := ⟨2, 6, ir_value⟩
/-- 67 -/
def ir_look : IR :=
    .seq (.asg (.nm 3) (.lst .nil))
    (.seq (.forS (.nm 4) .rng (.call 13 (.cons (.var 0) (.cons (.int 13) .nil))) .nil (.seq (.asg (.nm 5) (.call 64 (.cons (.var 0) (.cons (.var 1) (.cons (.var 2) .nil)))))
    (.seq (.asg (.nm 3) (.op .add (.var 3) (.op .mul (.lst (.cons (.var 5) .nil)) (.bi .int (.cons (.isn true (.var 5)) .nil)))))
    .skip)))
    (.seq (.ret (.bi .tuple (.cons (.op .add (.var 3) (.slc (.var 3) .nil (.call 13 (.cons (.var 0) (.cons (.int 3) .nil))))) .nil)))
    .skip))
def fn_look : Fn := ⟨3, 6, ir_look⟩
/-- 68 -/
def ir_right_7 : IR :=
    .seq (.forS (.nm 1) .rng (.int 4) .nil (.seq (.asg (.nm 2) (.call 14 (.cons (.var 0) (.cons (.lst (.cons (.str "number") (.cons (.str "text") .nil))) .nil))))
    (.seq (.asg (.nm 3) (.call 67 (.cons (.var 0) (.cons (.var 2) (.cons (.call 13 (.cons (.var 0) (.cons (.int 3) .nil))) .nil)))))
    (.seq (.asg (.nm 4) (.bi .repr (.cons (.var 3) .nil)))
    (.seq (.asg (.nm 5) (.op .add (.lst (.cons (.str "count") (.cons (.str "least") (.cons (.str "most") .nil)))) (.ife (.cmp .eq (.var 2) (.str "number")) (.lst (.cons (.str "sum") (.cons (.str "mean") .nil))) (.lst (.cons (.str "joined") .nil)))))
    (.seq (.forS (.nm 6) .seq (.var 5) .nil (.seq (.forS (.nm 8) .seq (.slc (.lst (.cons (.tup (.cons (.str "price") .nil)) (.cons (.tup (.cons (.str "price") (.cons (.str "unlike") .nil))) .nil))) .nil (.op .add (.int 1) (.bi .int (.cons (.cmp .notin (.var 6) (.tup (.cons (.str "least") (.cons (.str "most") .nil)))) .nil)))) .nil (.seq (.asg (.nm 9) (.call 66 (.cons (.tup (.cons (.var 6) (.cons (.var 8) .nil))) (.cons (.var 3) .nil))))
    (.seq (.asg (.nm 10) (.lst (.cons (.call 62 (.cons (.tup (.cons (.var 6) (.cons (.var 8) .nil))) (.cons (.var 3) .nil))) (.cons (.callK 6 (.cons (.bi .list (.cons (.var 3) .nil)) (.cons (.tup (.cons (.var 6) (.cons (.bi .list (.cons (.var 8) .nil)) .nil))) .nil))) .nil))))
    (.seq (.ifS (.bor (.bnot (.call 15 (.cons (.var 10) (.cons (.lst (.cons (.var 9) (.cons (.var 9) .nil))) .nil)))) (.one (.cmp .ne (.bi .repr (.cons (.var 3) .nil)) (.var 4)))) (.seq (.ret (.bl false))
    .skip) .skip)
    .skip))))
    .skip))
    (.seq (.asg (.nm 7) (.call 13 (.cons (.var 0) (.cons (.int 40) .nil))))
    (.seq (.ifS (.bnot (.call 15 (.cons (.lst (.cons (.call 62 (.cons (.tup (.cons (.str "count") (.cons (.tup .nil) .nil))) (.cons (.op .mul (.tup (.cons (.int 1) .nil)) (.var 7)) .nil))) (.cons (.call 62 (.cons (.lst (.cons (.str "count") (.cons (.lst .nil) .nil))) (.cons (.op .mul (.lst (.cons (.int 1) .nil)) (.var 7)) .nil))) .nil))) (.cons (.lst (.cons (.var 7) (.cons (.var 7) .nil))) .nil)))) (.seq (.ret (.bl false))
    .skip) .skip)
    .skip))))))))
    (.seq (.ret (.call 15 (.cons (.lst (.cons (.call 62 (.cons (.tup (.cons (.str "joined") (.cons (.tup (.cons (.str "price") .nil)) .nil))) (.cons (.tup (.cons (.str "a,") (.cons (.str "") (.cons (.str "b") .nil)))) .nil))) (.cons (.call 62 (.cons (.tup (.cons (.str "mean") (.cons (.tup (.cons (.str "price") .nil)) .nil))) (.cons (.tup (.cons (.neg (.int 4)) (.cons (.int 6) .nil))) .nil))) .nil))) (.cons (.lst (.cons (.str "a,,,b") (.cons (.tup (.cons (.int 1) (.cons (.int 1) .nil))) .nil))) .nil))))
    .skip)
def fn_right_7 : Fn := ⟨1, 11, ir_right_7⟩
/-- 69 -/
def ir_law_7 : IR :=
    .seq (.forS (.nm 1) .rng (.op .add (.int 1) (.bi .min2 (.cons (.int 3) (.cons (.lenS (.var 0)) .nil)))) .nil (.seq (.asgO 2 (.call 63 (.cons (.var 0) (.cons (.var 1) .nil))))
    (.seq (.ifS (.bnot (.bi .all (.cons (.comp [3] (.nm 3) .rng (.int 2) .nil .nil (.call 68 (.cons (.var 2) .nil))) .nil))) (.seq (.ret (.bl false))
    .skip) .skip)
    .skip)))
    (.seq (.ret (.bl true))
    .skip)
def fn_law_7 : Fn := ⟨1, 4, ir_law_7⟩
/-- 70 -/
def ir_is_number : IR :=
    .seq (.ret (.band (.isi (.var 0) [.int]) (.one (.bnot (.isi (.var 0) [.bool])))))
    .skip
def fn_is_number : Fn := ⟨1, 1, ir_is_number⟩
/-- 71 -/
def ir_index_of : IR :=
    .seq (.ret (.mt .index (.comp [2, 3] (.tp (.cons (.nm 2) (.cons (.nm 3) .nil))) .seq (.var 0) .nil .nil (.var 2)) (.cons (.var 1) .nil)))
    .skip
def fn_index_of : Fn := ⟨2, 4, ir_index_of⟩
/-- 72 -/
def ir_is_word : IR :=
    .seq (.ret (.band (.isi (.var 0) [.str]) (.one (.cmp .isin (.var 0) (.var 1)))))
    .skip
def fn_is_word : Fn := ⟨2, 2, ir_is_word⟩
/-- 73 -/
def ir_is_bound : IR :=
    .seq (.ifS (.bor (.bnot (.isi (.var 0) [.tuple])) (.one (.cmp .eq (.lenS (.var 0)) (.int 0)))) (.seq (.ret (.bl false))
    .skip) .skip)
    (.seq (.ifS (.cmp .eq (.lenS (.var 0)) (.int 1)) (.seq (.ret (.call 72 (.cons (.idx (.var 0) (.int 0)) (.cons (.glob 23) .nil))))
    .skip) .skip)
    (.seq (.ret (.band (.cmp .eq (.lenS (.var 0)) (.glob 24)) (.band (.call 72 (.cons (.idx (.var 0) (.int 0)) (.cons (.glob 25) .nil))) (.band (.call 70 (.cons (.idx (.var 0) (.int 1)) .nil)) (.one (.cmp .ge (.idx (.var 0) (.int 1)) (.int 0)))))))
    .skip))
def fn_is_bound : Fn := ⟨1, 1, ir_is_bound⟩
/-- 74 -/
def ir_is_frame : IR :=
    .seq (.ifS (.bor (.bnot (.isi (.var 0) [.tuple])) (.one (.cmp .ne (.lenS (.var 0)) (.glob 26)))) (.seq (.ret (.bl false))
    .skip) .skip)
    (.seq (.ifS (.bor (.bnot (.call 72 (.cons (.idx (.var 0) (.int 0)) (.cons (.glob 27) .nil)))) (.one (.bnot (.call 72 (.cons (.idx (.var 0) (.int 3)) (.cons (.glob 28) .nil)))))) (.seq (.ret (.bl false))
    .skip) .skip)
    (.seq (.ifS (.bor (.bnot (.call 73 (.cons (.idx (.var 0) (.int 1)) .nil))) (.one (.bnot (.call 73 (.cons (.idx (.var 0) (.int 2)) .nil))))) (.seq (.ret (.bl false))
    .skip) .skip)
    (.seq (.ret (.band (.cmp .ne (.idx (.idx (.var 0) (.int 1)) (.int 0)) (.glob 7)) (.one (.cmp .ne (.idx (.idx (.var 0) (.int 2)) (.int 0)) (.glob 3)))))
    .skip)))
def fn_is_frame : Fn := ⟨1, 1, ir_is_frame⟩
/-- 75 -/
def ir_compares : IR :=
    .seq (.ret (.band (.cmp .eq (.idx (.var 0) (.int 0)) (.glob 29)) (.one (.bor (.cmp .isin (.idx (.idx (.var 0) (.int 1)) (.int 0)) (.glob 25)) (.one (.cmp .isin (.idx (.idx (.var 0) (.int 2)) (.int 0)) (.glob 25)))))))
    .skip
def fn_compares : Fn := ⟨1, 1, ir_compares⟩
/-- 76 -/
def ir_is_by_number : IR :=
    .seq (.ret (.band (.cmp .eq (.lenS (.var 0)) (.int 1)) (.one (.cmp .eq (.idx (.idx (.var 1) (.call 71 (.cons (.var 1) (.cons (.idx (.idx (.var 0) (.int 0)) (.int 0)) .nil)))) (.int 1)) (.glob 30)))))
    .skip
def fn_is_by_number : Fn := ⟨2, 2, ir_is_by_number⟩
/-- 77 -/
def ir_frame_fits : IR :=
    .seq (.ret (.bor (.bnot (.call 75 (.cons (.var 0) .nil))) (.one (.call 76 (.cons (.var 1) (.cons (.var 2) .nil))))))
    .skip
def fn_frame_fits : Fn := ⟨3, 3, ir_frame_fits⟩
/-- 78 -/
def ir_word : IR :=
    .seq (.asg (.nm 1) (.str "abcdefghijklmnopqrstuvwxyz"))
    (.seq (.ret (.mt .join (.str "") (.cons (.comp [2] (.nm 2) .rng (.op .add (.int 1) (.call 13 (.cons (.var 0) (.cons (.int 8) .nil)))) .nil .nil (.idx (.var 1) (.call 13 (.cons (.var 0) (.cons (.int 26) .nil))))) .nil)))
    .skip)
def fn_word : Fn := ⟨1, 3, ir_word⟩
/-- 79 -/
def ir_names : IR :=
    .seq (.asgO 3 (.lst .nil))
    (.seq (.forS (.nm 4) .rng (.var 1) .nil (.seq (.asg (.nm 5) (.op .add (.comp [6] (.nm 6) .rng (.int 2) .nil .nil (.call 78 (.cons (.var 0) .nil))) (.comp [7] (.nm 7) .seq (.str "qrstuvwxyzabcdefgh") .nil .nil (.op .mul (.var 7) (.int 8)))))
    (.seq (.expr (.mu .append 3 (.cons (.idx (.comp [8] (.nm 8) .seq (.var 5) .nil (.band (.cmp .notin (.var 8) (.var 2)) (.one (.cmp .notin (.var 8) (.var 3)))) (.var 8)) (.int 0)) .nil)))
    .skip)))
    (.seq (.ret (.frz 3))
    .skip))
def fn_names : Fn := ⟨3, 9, ir_names⟩
/-- 80 -/
def ir_columns : IR :=
    .seq (.asg (.nm 2) (.call 79 (.cons (.var 0) (.cons (.op .add (.int 1) (.call 13 (.cons (.var 0) (.cons (.var 1) .nil)))) (.cons (.lst .nil) .nil)))))
    (.seq (.ret (.bi .tuple (.cons (.comp [3, 4] (.tp (.cons (.nm 3) (.cons (.nm 4) .nil))) .enm (.var 2) .nil .nil (.tup (.cons (.var 4) (.cons (.ife (.bor (.cmp .eq (.var 3) (.int 0)) (.one (.cmp .gt (.call 13 (.cons (.var 0) (.cons (.int 3) .nil))) (.int 0)))) (.str "number") (.str "text")) .nil)))) .nil)))
    .skip)
def fn_columns : Fn := ⟨2, 5, ir_columns⟩
/-- 81 -/
def ir_order : IR :=
    .seq (.asgO 3 (.lst .nil))
    (.seq (.forS (.nm 4) .rng (.call 13 (.cons (.var 0) (.cons (.op .add (.var 2) (.int 1)) .nil))) .nil (.seq (.expr (.mu .append 3 (.cons (.tup (.cons (.idx (.call 14 (.cons (.var 0) (.cons (.var 1) .nil))) (.int 0)) (.cons (.call 14 (.cons (.var 0) (.cons (.lst (.cons (.str "up") (.cons (.str "down") .nil))) .nil))) (.cons (.call 14 (.cons (.var 0) (.cons (.lst (.cons (.str "first") (.cons (.str "last") .nil))) .nil))) .nil)))) .nil)))
    .skip))
    (.seq (.ret (.bi .tuple (.cons (.var 3) .nil)))
    .skip))
def fn_order : Fn := ⟨3, 5, ir_order⟩
/-- 82 -/
def ir_bent : IR :=
    .seq (.asg (.nm 2) (.call 13 (.cons (.var 0) (.cons (.int 6) .nil))))
    (.seq (.ifS (.band (.isi (.var 1) [.tuple, .list]) (.band (.cmp .gt (.lenS (.var 1)) (.int 0)) (.one (.cmp .gt (.var 2) (.int 1))))) (.seq (.par [(4, false), (5, true)] (.cons (.call 13 (.cons (.var 0) (.cons (.lenS (.var 1)) .nil))) (.cons (.bi .list (.cons (.var 1) .nil)) .nil)))
    (.seq (.ifS (.cmp .eq (.var 2) (.int 2)) (.seq (.expr (.mu .popAt 5 (.cons (.var 4) .nil)))
    .skip) (.seq (.ifS (.cmp .eq (.var 2) (.int 3)) (.seq (.expr (.mu .insert 5 (.cons (.var 4) (.cons (.idx (.var 5) (.var 4)) .nil))))
    .skip) (.seq (.setI 5 (.var 4) (.call 82 (.cons (.var 0) (.cons (.idx (.var 5) (.var 4)) .nil))))
    .skip))
    .skip))
    (.seq (.ret (.ife (.isi (.var 1) [.tuple]) (.bi .tuple (.cons (.var 5) .nil)) (.frz 5)))
    .skip))) .skip)
    (.seq (.ifS (.band (.cmp .eq (.var 2) (.int 0)) (.one (.isi (.var 1) [.tuple, .list]))) (.seq (.ret (.ife (.isi (.var 1) [.tuple]) (.bi .list (.cons (.var 1) .nil)) (.bi .tuple (.cons (.var 1) .nil))))
    .skip) .skip)
    (.seq (.asg (.nm 3) (.lst (.cons .non (.cons (.bl true) (.cons (.bl false) (.cons (.neg (.int 1)) (.cons (.int 0) (.cons (.int 1) (.cons (.str "") (.cons (.str "start") (.cons (.str "end") (.cons (.str "here") (.cons (.str "before") (.cons (.str "after") (.cons (.str "rows") (.cons (.str "ties") (.cons (.tup .nil) (.cons (.lst .nil) (.cons (.tup (.cons (.str "end") .nil)) .nil)))))))))))))))))))
    (.seq (.asg (.nm 3) (.op .add (.var 3) (.lst (.cons (.tup (.cons (.str "here") .nil)) (.cons (.tup (.cons (.str "start") .nil)) (.cons (.tup (.cons (.str "before") (.cons (.int 0) .nil))) (.cons (.tup (.cons (.str "after") (.cons (.bl true) .nil))) (.cons (.tup (.cons (.str "after") (.cons (.neg (.int 1)) .nil))) (.cons (.tup (.cons (.str "here") (.cons (.int 0) .nil))) (.cons (.op .pow (.int 10) (.int 30)) .nil))))))))))
    (.seq (.ret (.call 14 (.cons (.var 0) (.cons (.var 3) .nil))))
    .skip)))))
def fn_bent : Fn := ⟨2, 6, ir_bent⟩
/-- 83 -/
def ir_is_edge : IR :=
    .seq (.ifS (.bor (.bnot (.isi (.var 0) [.tuple])) (.bor (.cmp .eq (.lenS (.var 0)) (.int 0)) (.one (.bnot (.isi (.idx (.var 0) (.int 0)) [.str]))))) (.seq (.ret (.bl false))
    .skip) .skip)
    (.seq (.ifS (.cmp .isin (.idx (.var 0) (.int 0)) (.tup (.cons (.str "before") (.cons (.str "after") .nil)))) (.seq (.asg (.nm 2) (.band (.cmp .eq (.lenS (.var 0)) (.int 2)) (.band (.isi (.idx (.var 0) (.int 1)) [.int]) (.one (.bnot (.isi (.idx (.var 0) (.int 1)) [.bool]))))))
    (.seq (.ret (.band (.var 2) (.one (.cmp .ge (.idx (.var 0) (.int 1)) (.int 0)))))
    .skip)) .skip)
    (.seq (.ret (.band (.cmp .eq (.lenS (.var 0)) (.int 1)) (.one (.cmp .isin (.idx (.var 0) (.int 0)) (.tup (.cons (.str "here") (.cons (.var 1) .nil)))))))
    .skip))
def fn_is_edge : Fn := ⟨2, 3, ir_is_edge⟩
/-- 84 -/
def ir_is_shape : IR :=
    .seq (.ifS (.bor (.bnot (.isi (.var 0) [.tuple])) (.bor (.cmp .ne (.lenS (.var 0)) (.int 4)) (.one (.bnot (.isi (.idx (.var 0) (.int 0)) [.str]))))) (.seq (.ret (.bl false))
    .skip) .skip)
    (.seq (.ifS (.bor (.bnot (.isi (.idx (.var 0) (.int 3)) [.str])) (.one (.cmp .notin (.idx (.var 0) (.int 3)) (.tup (.cons (.str "nobody") (.cons (.str "row") (.cons (.str "group") (.cons (.str "ties") .nil)))))))) (.seq (.ret (.bl false))
    .skip) .skip)
    (.seq (.asg (.nm 1) (.cmp .isin (.idx (.var 0) (.int 0)) (.tup (.cons (.str "rows") (.cons (.str "range") (.cons (.str "groups") .nil))))))
    (.seq (.ret (.band (.var 1) (.band (.call 83 (.cons (.idx (.var 0) (.int 1)) (.cons (.str "start") .nil))) (.one (.call 83 (.cons (.idx (.var 0) (.int 2)) (.cons (.str "end") .nil)))))))
    .skip)))
def fn_is_shape : Fn := ⟨1, 2, ir_is_shape⟩
/-- 85 -/
def ir_fit : IR :=
    .seq (.ifS (.bor (.cmp .ne (.idx (.var 0) (.int 0)) (.str "range")) (.one (.band (.cmp .isin (.idx (.idx (.var 0) (.int 1)) (.int 0)) (.tup (.cons (.str "start") (.cons (.str "here") .nil)))) (.one (.cmp .isin (.idx (.idx (.var 0) (.int 2)) (.int 0)) (.tup (.cons (.str "end") (.cons (.str "here") .nil)))))))) (.seq (.ret (.bl true))
    .skip) .skip)
    (.seq (.ret (.band (.cmp .eq (.lenS (.var 1)) (.int 1)) (.one (.cmp .eq (.dget (.var 2) (.idx (.idx (.var 1) (.int 0)) (.int 0))) (.str "number")))))
    .skip)
def fn_fit : Fn := ⟨3, 3, ir_fit⟩
/-- 86 -/
def ir_right_8 : IR :=
    .seq (.asg (.nm 1) (.call 80 (.cons (.var 0) (.cons (.int 4) .nil))))
    (.seq (.forS (.nm 2) .rng (.int 6) .nil (.seq (.asg (.nm 3) (.call 20 (.cons (.var 0) (.cons (.bl true) (.cons (.int 51) .nil)))))
    (.seq (.asgO 4 (.lst (.cons (.var 3) (.cons (.bi .list (.cons (.var 3) .nil)) (.cons (.tup (.cons (.idx (.var 3) (.int 0)) (.cons (.idx (.var 3) (.int 2)) (.cons (.idx (.var 3) (.int 1)) (.cons (.idx (.var 3) (.int 3)) .nil))))) (.cons (.op .add (.var 3) (.tup (.cons (.str "row") .nil))) (.cons (.slc (.var 3) .nil (.int 3)) .nil)))))))
    (.seq (.asgO 4 (.op .add (.var 4) (.lst (.cons (.call 16 (.cons (.var 3) .nil)) (.cons (.tup .nil) (.cons .non (.cons (.int 0) (.cons (.str "rows") (.cons (.stp (.var 3) (.neg (.int 1))) .nil)))))))))
    (.seq (.expr (.mu .append 4 (.cons (.tup (.cons (.idx (.var 3) (.int 0)) (.cons (.bi .list (.cons (.idx (.var 3) (.int 1)) .nil)) (.cons (.idx (.var 3) (.int 2)) (.cons (.idx (.var 3) (.int 3)) .nil))))) .nil)))
    (.seq (.expr (.mu .append 4 (.cons (.tup (.cons (.str "rows") (.cons (.tup (.cons (.str "before") (.cons (.bl true) .nil))) (.cons (.tup (.cons (.str "here") .nil)) (.cons (.str "row") .nil))))) .nil)))
    (.seq (.asgO 4 (.op .add (.var 4) (.lst (.cons (.tup (.cons (.str "rows") (.cons (.tup (.cons (.str "here") .nil)) (.cons (.tup (.cons (.str "start") .nil)) (.cons (.str "row") .nil))))) (.cons (.tup (.cons (.str "rows") (.cons (.tup (.cons (.str "end") .nil)) (.cons (.tup (.cons (.str "end") .nil)) (.cons (.str "row") .nil))))) .nil)))))
    (.seq (.forS (.nm 5) .rng (.int 8) .nil (.seq (.asg (.nm 8) (.call 82 (.cons (.var 0) (.cons (.var 3) .nil))))
    (.seq (.expr (.mu .append 4 (.cons (.ife (.cmp .gt (.var 5) (.int 5)) (.call 82 (.cons (.var 0) (.cons (.var 8) .nil))) (.var 8)) .nil)))
    .skip)))
    (.seq (.forS (.nm 6) .seq (.frz 4) .nil (.seq (.par [(11, false), (9, false)] (.cons (.bi .repr (.cons (.var 6) .nil)) (.cons (.call 84 (.cons (.var 6) .nil)) .nil)))
    (.seq (.ifS (.bor (.bnot (.call 15 (.cons (.lst (.cons (.call 74 (.cons (.var 6) .nil)) (.cons (.callK 7 (.cons (.var 6) .nil)) .nil))) (.cons (.lst (.cons (.var 9) (.cons (.var 9) .nil))) .nil)))) (.one (.cmp .ne (.bi .repr (.cons (.var 6) .nil)) (.var 11)))) (.seq (.ret (.bl false))
    .skip) .skip)
    .skip)))
    (.seq (.forS (.nm 7) .seq (.tup (.cons (.call 81 (.cons (.var 0) (.cons (.var 1) (.cons (.int 3) .nil)))) (.cons (.call 81 (.cons (.var 0) (.cons (.var 1) (.cons (.int 1) .nil)))) (.cons (.tup .nil) .nil)))) .nil (.seq (.asg (.nm 9) (.call 85 (.cons (.var 3) (.cons (.var 7) (.cons (.var 1) .nil)))))
    (.seq (.asgO 10 (.lst (.cons (.call 77 (.cons (.var 3) (.cons (.var 7) (.cons (.var 1) .nil)))) .nil)))
    (.seq (.expr (.mu .append 10 (.cons (.callK 8 (.cons (.call 16 (.cons (.var 1) .nil)) (.cons (.call 16 (.cons (.var 7) .nil)) (.cons (.call 16 (.cons (.var 3) .nil)) .nil)))) .nil)))
    (.seq (.expr (.mu .append 10 (.cons (.call 77 (.cons (.call 17 (.cons (.var 3) (.cons (.int 0) .nil))) (.cons (.call 17 (.cons (.var 7) (.cons (.int 0) .nil))) (.cons (.call 17 (.cons (.var 1) (.cons (.int 1) .nil))) .nil)))) .nil)))
    (.seq (.ifS (.bnot (.call 15 (.cons (.frz 10) (.cons (.op .mul (.lst (.cons (.var 9) .nil)) (.int 3)) .nil)))) (.seq (.ret (.bl false))
    .skip) .skip)
    .skip))))))
    .skip))))))))))
    (.seq (.ret (.bl true))
    .skip))
def fn_right_8 : Fn := ⟨1, 12, ir_right_8⟩
/-- 87 -/
def ir_law_8 : IR :=
    .seq (.ret (.bi .all (.cons (.comp [1] (.nm 1) .rng (.op .add (.int 1) (.bi .min2 (.cons (.int 2) (.cons (.lenS (.var 0)) .nil)))) .nil .nil (.callT 86 12 (.cons (.var 0) (.cons (.var 1) .nil)))) .nil)))
    .skip
def fn_law_8 : Fn := ⟨1, 2, ir_law_8⟩
/-- 88 -/
def ir_group_ends : IR :=
    .seq (.asgO 1 (.lst .nil))
    (.seq (.forS (.tp (.cons (.nm 2) (.cons (.tp (.cons (.nm 3) (.cons (.nm 4) .nil))) .nil))) .enm (.idx (.var 0) (.int 1)) .nil (.seq (.ifS (.cmp .eq (.var 3) (.lenS (.var 1))) (.seq (.expr (.mu .append 1 (.cons (.tup (.cons (.var 2) (.cons (.var 2) .nil))) .nil)))
    .skip) (.seq (.setI 1 (.var 3) (.tup (.cons (.idx (.idx (.var 1) (.var 3)) (.int 0)) (.cons (.var 2) .nil))))
    .skip))
    .skip))
    (.seq (.ret (.frz 1))
    .skip))
def fn_group_ends : Fn := ⟨1, 5, ir_group_ends⟩
/-- 89 -/
def ir_rank_looks : IR :=
    .seq (.par [(2, false), (3, false), (4, true)] (.cons (.call 88 (.cons (.var 1) .nil)) (.cons (.lenS (.idx (.var 1) (.int 1))) (.cons (.lst .nil) .nil))))
    (.seq (.forS (.tp (.cons (.nm 5) (.cons (.tp (.cons (.nm 7) (.cons (.nm 8) .nil))) .nil))) .enm (.idx (.var 1) (.int 1)) .nil (.seq (.asg (.tp (.cons (.nm 9) (.cons (.nm 10) .nil))) (.idx (.var 2) (.var 7)))
    (.seq (.dicS 6 ["row", "rank", "dense", "percent"] (.cons (.tup (.cons (.var 5) .nil)) (.cons (.tup (.cons (.var 9) .nil)) (.cons (.tup (.cons (.var 7) .nil)) (.cons (.tup (.cons (.var 9) (.cons (.var 3) .nil))) .nil)))))
    (.seq (.expr (.mu .append 4 (.cons (.dgt 6 (.var 0) (.ife (.cmp .eq (.var 0) (.str "share")) (.tup (.cons (.op .add (.var 10) (.int 1)) (.cons (.var 3) .nil))) (.tup (.cons (.var 5) (.cons (.var 3) .nil))))) .nil)))
    .skip))))
    (.seq (.retV 4)
    .skip))
def fn_rank_looks : Fn := ⟨2, 11, ir_rank_looks⟩
/-- 90 -/
def ir_tile : IR :=
    .seq (.asg (.nm 3) (.comp [5] (.nm 5) .rng (.var 0) .nil .nil (.op .add (.op .fdiv (.var 2) (.var 0)) (.bi .int (.cons (.cmp .lt (.var 5) (.op .mod (.var 2) (.var 0))) .nil)))))
    (.seq (.asg (.nm 4) (.int 0))
    (.seq (.whS (.cmp .ge (.var 1) (.bi .sum (.cons (.slc (.var 3) .nil (.op .add (.var 4) (.int 1))) .nil))) (.seq (.asg (.nm 4) (.op .add (.var 4) (.int 1)))
    .skip))
    (.seq (.ret (.op .add (.var 4) (.int 1)))
    .skip)))
def fn_tile : Fn := ⟨3, 6, ir_tile⟩
/-- 91 -/
def ir_value_2 : IR :=
    .seq (.par [(2, false), (3, false)] (.cons (.idx (.var 0) (.int 0)) (.cons (.bi .list (.cons (.var 1) .nil)) .nil)))
    (.seq (.ifS (.cmp .isin (.var 2) (.tup (.cons (.str "row") (.cons (.str "rank") (.cons (.str "dense") .nil))))) (.seq (.ret (.op .add (.idx (.var 3) (.int 0)) (.int 1)))
    .skip) .skip)
    (.seq (.ifS (.cmp .isin (.var 2) (.tup (.cons (.str "percent") (.cons (.str "share") .nil)))) (.seq (.asg (.nm 4) (.bi .int (.cons (.cmp .eq (.var 2) (.str "percent")) .nil)))
    (.seq (.ret (.ife (.cmp .gt (.idx (.var 3) (.int 1)) (.var 4)) (.call 65 (.cons (.idx (.var 3) (.int 0)) (.cons (.op .sub (.idx (.var 3) (.int 1)) (.var 4)) .nil))) (.tup (.cons (.int 0) (.cons (.int 1) .nil)))))
    .skip)) .skip)
    (.seq (.ifS (.cmp .eq (.var 2) (.str "tile")) (.seq (.ret (.call 90 (.cons (.idx (.idx (.var 0) (.int 1)) (.int 0)) (.cons (.idx (.var 3) (.int 0)) (.cons (.idx (.var 3) (.int 1)) .nil)))))
    .skip) .skip)
    (.seq (.ifS (.cmp .isin (.var 2) (.tup (.cons (.str "earlier") (.cons (.str "later") (.cons (.str "first") (.cons (.str "last") (.cons (.str "nth") .nil))))))) (.seq (.ret (.ife (.cmp .ne (.var 3) (.lst .nil)) (.idx (.var 3) (.int 0)) (.ife (.cmp .isin (.var 2) (.tup (.cons (.str "earlier") (.cons (.str "later") .nil)))) (.idx (.idx (.var 0) (.int 1)) (.int 2)) .non)))
    .skip) .skip)
    (.seq (.ifS (.cmp .eq (.slc (.idx (.var 0) (.int 1)) (.int 1) .nil) (.tup (.cons (.str "unlike") .nil))) (.seq (.asg (.nm 3) (.comp [5, 6] (.tp (.cons (.nm 5) (.cons (.nm 6) .nil))) .enm (.var 1) .nil (.cmp .notin (.var 6) (.slc (.var 1) .nil (.var 5))) (.var 6)))
    .skip) .skip)
    (.seq (.ifS (.bor (.cmp .eq (.var 2) (.str "count")) (.one (.cmp .eq (.var 3) (.lst .nil)))) (.seq (.ret (.ife (.cmp .eq (.var 2) (.str "count")) (.lenS (.var 3)) .non))
    .skip) .skip)
    (.seq (.ifS (.cmp .eq (.var 2) (.str "joined")) (.seq (.ret (.mt .join (.str ",") (.cons (.var 3) .nil)))
    .skip) .skip)
    (.seq (.ifS (.cmp .isin (.var 2) (.tup (.cons (.str "least") (.cons (.str "most") .nil)))) (.seq (.ret (.ife (.cmp .eq (.var 2) (.str "least")) (.bi .minL (.cons (.var 3) .nil)) (.bi .maxL (.cons (.var 3) .nil))))
    .skip) .skip)
    (.seq (.ret (.ife (.cmp .eq (.var 2) (.str "sum")) (.bi .sum (.cons (.var 3) .nil)) (.call 65 (.cons (.bi .sum (.cons (.var 3) .nil)) (.cons (.lenS (.var 3)) .nil)))))
    .skip)))))))))
def fn_value_2 : Fn := ⟨2, 7, ir_value_2⟩
/-- 92 -/
def ir_mixed : IR :=
    .seq (.asg (.nm 2) (.ife (.isi (.var 1) [.list, .tuple]) (.comp [3] (.nm 3) .seq (.var 1) .nil .nil (.call 92 (.cons (.var 0) (.cons (.var 3) .nil)))) (.var 1)))
    (.seq (.ret (.ife (.band (.isi (.var 2) [.list]) (.one (.cmp .gt (.call 13 (.cons (.var 0) (.cons (.int 2) .nil))) (.int 0)))) (.bi .tuple (.cons (.var 2) .nil)) (.var 2)))
    .skip)
def fn_mixed : Fn := ⟨2, 4, ir_mixed⟩
/-- 93 -/
def ir_due_2 : IR :=
    .seq (.par [(5, false), (6, false)] (.cons (.lenS (.var 1)) (.cons (.idx (.var 1) (.var 2)) .nil)))
    (.seq (.asg (.nm 3) (.lenS (.comp [7] (.nm 7) .seq (.var 1) .nil (.cmp .lt (.var 7) (.var 6)) (.var 7))))
    (.seq (.asg (.nm 4) (.lenS (.comp [7] (.nm 7) .seq (.var 1) .nil (.cmp .gt (.var 7) (.var 6)) (.var 7))))
    (.seq (.ifS (.cmp .isin (.var 0) (.tup (.cons (.str "row") (.cons (.str "tile") .nil)))) (.seq (.ret (.ife (.cmp .eq (.var 0) (.str "row")) (.tup (.cons (.var 2) .nil)) (.tup (.cons (.var 2) (.cons (.var 5) .nil)))))
    .skip) .skip)
    (.seq (.ifS (.cmp .eq (.var 0) (.str "dense")) (.seq (.ret (.tup (.cons (.lset (.comp [7] (.nm 7) .seq (.var 1) .nil (.cmp .lt (.var 7) (.var 6)) (.var 7))) .nil)))
    .skip) .skip)
    (.seq (.ifS (.cmp .eq (.var 0) (.str "share")) (.seq (.ret (.tup (.cons (.op .sub (.var 5) (.var 4)) (.cons (.var 5) .nil))))
    .skip) .skip)
    (.seq (.ret (.ife (.cmp .eq (.var 0) (.str "rank")) (.tup (.cons (.var 3) .nil)) (.tup (.cons (.var 3) (.cons (.var 5) .nil)))))
    .skip))))))
def fn_due_2 : Fn := ⟨3, 8, ir_due_2⟩
/-- 94 -/
def ir_right_9 : IR :=
    .seq (.asg (.nm 1) (.lst .nil))
    (.seq (.forS (.nm 2) .rng (.op .add (.int 1) (.call 13 (.cons (.var 0) (.cons (.int 8) .nil)))) .nil (.seq (.asg (.nm 1) (.op .add (.var 1) (.op .mul (.lst (.cons (.var 2) .nil)) (.op .add (.int 1) (.call 13 (.cons (.var 0) (.cons (.int 5) .nil)))))))
    .skip))
    (.seq (.asg (.nm 3) (.cmp .eq (.call 13 (.cons (.var 0) (.cons (.int 2) .nil))) (.int 0)))
    (.seq (.asg (.nm 4) (.ife (.var 3) (.call 14 (.cons (.var 0) (.cons (.lst (.cons (.str "up") (.cons (.str "down") .nil))) .nil))) (.str "up")))
    (.seq (.asg (.nm 5) (.tup (.cons (.var 4) (.cons (.bi .tuple (.cons (.comp [2] (.nm 2) .seq (.var 1) .nil .nil (.tup (.cons (.var 2) (.cons (.ife (.var 3) (.op .mul (.var 2) (.op .sub (.int 1) (.op .mul (.int 2) (.bi .int (.cons (.cmp .eq (.var 4) (.str "down")) .nil))))) .non) .nil)))) .nil)) .nil))))
    (.seq (.forS (.nm 6) .seq (.tup (.cons (.str "row") (.cons (.str "rank") (.cons (.str "dense") (.cons (.str "percent") (.cons (.str "share") (.cons (.str "tile") .nil))))))) .nil (.seq (.asg (.nm 7) (.comp [11] (.nm 11) .rng (.lenS (.var 1)) .nil .nil (.call 93 (.cons (.var 6) (.cons (.var 1) (.cons (.var 11) .nil))))))
    (.seq (.prb 8 (.call 89 (.cons (.var 6) (.cons (.var 5) .nil))) (.cons (.callK 9 (.cons (.call 92 (.cons (.var 0) (.cons (.var 5) .nil))) (.cons (.var 6) .nil))) .nil) 15 [7, 7])
    (.seq (.ifS (.bnot (.call 15 (.cons (.call 89 (.cons (.var 6) (.cons (.var 5) .nil))) (.cons (.var 7) .nil)))) (.seq (.ret (.bl false))
    .skip) .skip)
    (.seq (.forS (.nm 9) .seq (.var 7) .nil (.seq (.forS (.nm 10) .seq (.ife (.cmp .ne (.var 6) (.str "tile")) (.lst (.cons (.tup .nil) .nil)) (.lst (.cons (.tup (.cons (.int 1) .nil)) (.cons (.tup (.cons (.int 2) .nil)) (.cons (.tup (.cons (.int 50) .nil)) (.cons (.tup (.cons (.op .add (.int 1) (.call 13 (.cons (.var 0) (.cons (.int 50) .nil)))) .nil)) (.cons (.tup (.cons (.lenS (.var 1)) .nil)) .nil))))))) .nil (.seq (.asg (.nm 8) (.lst (.cons (.call 62 (.cons (.tup (.cons (.var 6) (.cons (.var 10) .nil))) (.cons (.var 9) .nil))) (.cons (.callK 6 (.cons (.bi .list (.cons (.var 9) .nil)) (.cons (.lst (.cons (.var 6) (.cons (.bi .list (.cons (.var 10) .nil)) .nil))) .nil))) .nil))))
    (.seq (.ifS (.bnot (.call 15 (.cons (.var 8) (.cons (.op .mul (.lst (.cons (.call 91 (.cons (.tup (.cons (.var 6) (.cons (.var 10) .nil))) (.cons (.var 9) .nil))) .nil)) (.int 2)) .nil)))) (.seq (.ret (.bl false))
    .skip) .skip)
    .skip)))
    .skip))
    .skip)))))
    (.seq (.ret (.bl true))
    .skip))))))
def fn_right_9 : Fn := ⟨1, 12, ir_right_9⟩
/-- 95 -/
def ir_law_9 : IR :=
    .seq (.forS (.nm 1) .rng (.op .add (.int 1) (.bi .min2 (.cons (.int 3) (.cons (.lenS (.var 0)) .nil)))) .nil (.seq (.asgO 2 (.call 63 (.cons (.var 0) (.cons (.var 1) .nil))))
    (.seq (.ifS (.bnot (.bi .all (.cons (.comp [3] (.nm 3) .rng (.int 3) .nil .nil (.call 94 (.cons (.var 2) .nil))) .nil))) (.seq (.ret (.bl false))
    .skip) .skip)
    .skip)))
    (.seq (.ret (.bl true))
    .skip)
def fn_law_9 : Fn := ⟨1, 4, ir_law_9⟩
/-- 96 -/
def ir_is_name : IR :=
    .seq (.ifS (.bor (.bnot (.isi (.var 0) [.str])) (.one (.bnot (.chain .le .le (.int 1) (.lenS (.var 0)) (.glob 31))))) (.seq (.ret (.bl false))
    .skip) .skip)
    (.seq (.ret (.bi .all (.cons (.comp [1] (.nm 1) .seq (.var 0) .nil .nil (.cmp .isin (.var 1) (.glob 32))) .nil)))
    .skip)
def fn_is_name : Fn := ⟨1, 2, ir_is_name⟩
/-- 97 -/
def ir_is_pair : IR :=
    .seq (.ret (.band (.isi (.var 0) [.tuple]) (.one (.cmp .eq (.lenS (.var 0)) (.glob 24)))))
    .skip
def fn_is_pair : Fn := ⟨1, 1, ir_is_pair⟩
/-- 98 -/
def ir_is_value_of : IR :=
    .seq (.ifS (.isn false (.var 1)) (.seq (.ret (.bl true))
    .skip) .skip)
    (.seq (.ret (.ife (.cmp .eq (.var 0) (.glob 30)) (.call 70 (.cons (.var 1) .nil)) (.isi (.var 1) [.str])))
    .skip)
def fn_is_value_of : Fn := ⟨2, 2, ir_is_value_of⟩
/-- 99 -/
def ir_is_column : IR :=
    .seq (.ret (.band (.call 97 (.cons (.var 0) .nil)) (.band (.call 96 (.cons (.idx (.var 0) (.int 0)) .nil)) (.band (.isi (.idx (.var 0) (.int 1)) [.str]) (.one (.cmp .isin (.idx (.var 0) (.int 1)) (.tup (.cons (.glob 30) (.cons (.glob 33) .nil)))))))))
    .skip
def fn_is_column : Fn := ⟨1, 1, ir_is_column⟩
/-- 100 -/
def ir_are_columns : IR :=
    .seq (.ifS (.bor (.bnot (.isi (.var 0) [.tuple])) (.bor (.cmp .eq (.lenS (.var 0)) (.int 0)) (.one (.bnot (.bi .all (.cons (.comp [1] (.nm 1) .seq (.var 0) .nil .nil (.call 99 (.cons (.var 1) .nil))) .nil)))))) (.seq (.ret (.bl false))
    .skip) .skip)
    (.seq (.ret (.cmp .eq (.lset (.comp [2, 3] (.tp (.cons (.nm 2) (.cons (.nm 3) .nil))) .seq (.var 0) .nil .nil (.var 2))) (.lenS (.var 0))))
    .skip)
def fn_are_columns : Fn := ⟨1, 4, ir_are_columns⟩
/-- 101 -/
def ir_cells_fit : IR :=
    .seq (.ifS (.cmp .ne (.lenS (.var 1)) (.lenS (.var 0))) (.seq (.ret (.bl false))
    .skip) .skip)
    (.seq (.ret (.bi .all (.cons (.comp [2, 3, 4] (.tp (.cons (.tp (.cons (.nm 3) (.cons (.nm 4) .nil))) (.cons (.nm 2) .nil))) .zip (.var 0) (.var 1) .nil (.call 98 (.cons (.var 4) (.cons (.var 2) .nil)))) .nil)))
    .skip)
def fn_cells_fit : Fn := ⟨2, 5, ir_cells_fit⟩
/-- 102 -/
def ir_is_row : IR :=
    .seq (.ifS (.bor (.bnot (.call 97 (.cons (.var 1) .nil))) (.bor (.bnot (.call 70 (.cons (.idx (.var 1) (.int 0)) .nil))) (.one (.cmp .lt (.idx (.var 1) (.int 0)) (.int 0))))) (.seq (.ret (.bl false))
    .skip) .skip)
    (.seq (.ret (.band (.isi (.idx (.var 1) (.int 1)) [.tuple]) (.one (.call 101 (.cons (.var 0) (.cons (.idx (.var 1) (.int 1)) .nil))))))
    .skip)
def fn_is_row : Fn := ⟨2, 2, ir_is_row⟩
/-- 103 -/
def ir_is_table : IR :=
    .seq (.ifS (.bor (.bnot (.call 97 (.cons (.var 0) .nil))) (.bor (.bnot (.call 100 (.cons (.idx (.var 0) (.int 0)) .nil))) (.one (.bnot (.isi (.idx (.var 0) (.int 1)) [.tuple]))))) (.seq (.ret (.bl false))
    .skip) .skip)
    (.seq (.ifS (.bnot (.bi .all (.cons (.comp [1] (.nm 1) .seq (.idx (.var 0) (.int 1)) .nil .nil (.call 102 (.cons (.idx (.var 0) (.int 0)) (.cons (.var 1) .nil)))) .nil))) (.seq (.ret (.bl false))
    .skip) .skip)
    (.seq (.ret (.bi .all (.cons (.comp [2, 3] (.tp (.cons (.nm 2) (.cons (.nm 3) .nil))) .zip (.idx (.var 0) (.int 1)) (.slc (.idx (.var 0) (.int 1)) (.int 1) .nil) .nil (.cmp .lt (.idx (.var 2) (.int 0)) (.idx (.var 3) (.int 0)))) .nil)))
    .skip))
def fn_is_table : Fn := ⟨1, 4, ir_is_table⟩
/-- 104 -/
def ir_value_3 : IR :=
    .seq (.ifS (.cmp .eq (.call 13 (.cons (.var 0) (.cons (.int 5) .nil))) (.int 0)) (.seq (.ret .non)
    .skip) .skip)
    (.seq (.ifS (.cmp .eq (.var 1) (.str "text")) (.seq (.ret (.call 14 (.cons (.var 0) (.cons (.lst (.cons (.str "") (.cons (.str "a") (.cons (.str "b") (.cons (.str "B") (.cons (.str "a,") (.cons (.str "ab") (.cons (.str "c") (.cons (.str "None") .nil))))))))) .nil))))
    .skip) .skip)
    (.seq (.ifS (.cmp .ne (.var 2) (.int 1)) (.seq (.ret (.op .sub (.call 13 (.cons (.var 0) (.cons (.op .sub (.int 4) (.var 2)) .nil))) (.int 1)))
    .skip) .skip)
    (.seq (.ret (.op .sub (.call 13 (.cons (.var 0) (.cons (.op .add (.op .mul (.int 2) (.op .pow (.int 10) (.int 12))) (.int 1)) .nil))) (.op .pow (.int 10) (.int 12))))
    .skip)))
def fn_value_3 : Fn := ⟨3, 3, ir_value_3⟩
/-- 105 -/
def ir_table : IR :=
    .seq (.par [(4, true), (5, false), (6, false)] (.cons (.lst .nil) (.cons (.call 13 (.cons (.var 0) (.cons (.int 9) .nil))) (.cons (.call 14 (.cons (.var 0) (.cons (.lst (.cons (.int 0) (.cons (.int 2) (.cons (.int 2) (.cons (.int 1) .nil))))) .nil))) .nil))))
    (.seq (.forS (.nm 3) .rng (.call 13 (.cons (.var 0) (.cons (.op .add (.var 2) (.int 1)) .nil))) .nil (.seq (.expr (.mu .append 4 (.cons (.tup (.cons (.var 5) (.cons (.bi .tuple (.cons (.comp [7, 8] (.tp (.cons (.nm 7) (.cons (.nm 8) .nil))) .seq (.var 1) .nil .nil (.call 104 (.cons (.var 0) (.cons (.var 8) (.cons (.var 6) .nil))))) .nil)) .nil))) .nil)))
    (.seq (.asg (.nm 5) (.op .add (.op .add (.var 5) (.int 1)) (.call 13 (.cons (.var 0) (.cons (.int 9) .nil)))))
    .skip)))
    (.seq (.ret (.tup (.cons (.var 1) (.cons (.bi .tuple (.cons (.var 4) .nil)) .nil))))
    .skip))
def fn_table : Fn := ⟨3, 9, ir_table⟩
/-- 106 -/
def ir_is_int : IR :=
    .seq (.ret (.band (.isi (.var 0) [.int]) (.one (.bnot (.isi (.var 0) [.bool])))))
    .skip
def fn_is_int : Fn := ⟨1, 1, ir_is_int⟩
/-- 107 -/
def ir_is_named : IR :=
    .seq (.ifS (.bor (.bnot (.isi (.var 0) [.tuple])) (.bor (.cmp .ne (.lenS (.var 0)) (.int 2)) (.one (.bnot (.isi (.idx (.var 0) (.int 0)) [.str]))))) (.seq (.ret (.bl false))
    .skip) .skip)
    (.seq (.ifS (.bor (.bnot (.chain .le .le (.int 1) (.lenS (.idx (.var 0) (.int 0))) (.int 8))) (.one (.bnot (.bi .all (.cons (.comp [1] (.nm 1) .seq (.idx (.var 0) (.int 0)) .nil .nil (.cmp .isin (.var 1) (.str "abcdefghijklmnopqrstuvwxyz"))) .nil))))) (.seq (.ret (.bl false))
    .skip) .skip)
    (.seq (.ret (.band (.isi (.idx (.var 0) (.int 1)) [.str]) (.one (.bor (.cmp .eq (.idx (.var 0) (.int 1)) (.str "number")) (.one (.cmp .eq (.idx (.var 0) (.int 1)) (.str "text")))))))
    .skip))
def fn_is_named : Fn := ⟨1, 2, ir_is_named⟩
/-- 108 -/
def ir_is_cell : IR :=
    .seq (.ret (.bor (.isn false (.var 1)) (.one (.ife (.cmp .eq (.var 0) (.str "number")) (.call 106 (.cons (.var 1) .nil)) (.isi (.var 1) [.str])))))
    .skip
def fn_is_cell : Fn := ⟨2, 2, ir_is_cell⟩
/-- 109 -/
def ir_is_row_2 : IR :=
    .seq (.ifS (.bor (.bnot (.isi (.var 1) [.tuple])) (.bor (.cmp .ne (.lenS (.var 1)) (.int 2)) (.bor (.bnot (.call 106 (.cons (.idx (.var 1) (.int 0)) .nil))) (.one (.cmp .lt (.idx (.var 1) (.int 0)) (.int 0)))))) (.seq (.ret (.bl false))
    .skip) .skip)
    (.seq (.ifS (.bor (.bnot (.isi (.idx (.var 1) (.int 1)) [.tuple])) (.one (.cmp .ne (.lenS (.idx (.var 1) (.int 1))) (.lenS (.var 0))))) (.seq (.ret (.bl false))
    .skip) .skip)
    (.seq (.ret (.bi .all (.cons (.comp [2, 3] (.tp (.cons (.nm 2) (.cons (.nm 3) .nil))) .zip (.var 0) (.idx (.var 1) (.int 1)) .nil (.call 108 (.cons (.idx (.var 2) (.int 1)) (.cons (.var 3) .nil)))) .nil)))
    .skip))
def fn_is_row_2 : Fn := ⟨2, 4, ir_is_row_2⟩
/-- 110 -/
def ir_is_due : IR :=
    .seq (.ifS (.bor (.bnot (.isi (.var 0) [.tuple])) (.one (.cmp .ne (.lenS (.var 0)) (.int 2)))) (.seq (.ret (.bl false))
    .skip) .skip)
    (.seq (.asg (.tp (.cons (.nm 1) (.cons (.nm 2) .nil))) (.var 0))
    (.seq (.ifS (.bor (.bnot (.isi (.var 1) [.tuple])) (.bor (.bnot (.isi (.var 2) [.tuple])) (.one (.cmp .eq (.lenS (.var 1)) (.int 0))))) (.seq (.ret (.bl false))
    .skip) .skip)
    (.seq (.ifS (.bor (.bnot (.bi .all (.cons (.comp [4] (.nm 4) .seq (.var 1) .nil .nil (.call 107 (.cons (.var 4) .nil))) .nil))) (.one (.bnot (.bi .all (.cons (.comp [5] (.nm 5) .seq (.var 2) .nil .nil (.call 109 (.cons (.var 1) (.cons (.var 5) .nil)))) .nil))))) (.seq (.ret (.bl false))
    .skip) .skip)
    (.seq (.ifS (.cmp .ne (.lset (.comp [6, 7] (.tp (.cons (.nm 6) (.cons (.nm 7) .nil))) .seq (.var 1) .nil .nil (.var 6))) (.lenS (.var 1))) (.seq (.ret (.bl false))
    .skip) .skip)
    (.seq (.ret (.bi .all (.cons (.comp [3] (.nm 3) .rng (.op .sub (.lenS (.var 2)) (.int 1)) .nil .nil (.cmp .lt (.idx (.idx (.var 2) (.var 3)) (.int 0)) (.idx (.idx (.var 2) (.op .add (.var 3) (.int 1))) (.int 0)))) .nil)))
    .skip)))))
def fn_is_due : Fn := ⟨1, 8, ir_is_due⟩
/-- 111 -/
def ir_bent_2 : IR :=
    .seq (.asg (.nm 2) (.call 13 (.cons (.var 0) (.cons (.int 8) .nil))))
    (.seq (.ifS (.band (.isi (.var 1) [.tuple, .list]) (.band (.cmp .gt (.lenS (.var 1)) (.int 0)) (.one (.cmp .gt (.var 2) (.int 1))))) (.seq (.par [(4, false), (5, true)] (.cons (.call 13 (.cons (.var 0) (.cons (.lenS (.var 1)) .nil))) (.cons (.bi .list (.cons (.var 1) .nil)) .nil)))
    (.seq (.ifS (.cmp .eq (.var 2) (.int 2)) (.seq (.expr (.mu .popAt 5 (.cons (.var 4) .nil)))
    .skip) (.seq (.ifS (.cmp .eq (.var 2) (.int 3)) (.seq (.expr (.mu .insert 5 (.cons (.var 4) (.cons (.idx (.var 5) (.var 4)) .nil))))
    .skip) (.seq (.ifS (.cmp .eq (.var 2) (.int 4)) (.seq (.swp 5 (.var 4) (.int 0) (.tup (.cons (.idx (.var 5) (.int 0)) (.cons (.idx (.var 5) (.var 4)) .nil))))
    .skip) (.seq (.setI 5 (.var 4) (.call 111 (.cons (.var 0) (.cons (.idx (.var 5) (.var 4)) .nil))))
    .skip))
    .skip))
    .skip))
    (.seq (.ret (.ife (.isi (.var 1) [.tuple]) (.bi .tuple (.cons (.var 5) .nil)) (.frz 5)))
    .skip))) .skip)
    (.seq (.ifS (.band (.cmp .eq (.var 2) (.int 0)) (.one (.isi (.var 1) [.tuple, .list]))) (.seq (.ret (.ife (.isi (.var 1) [.tuple]) (.bi .list (.cons (.var 1) .nil)) (.bi .tuple (.cons (.var 1) .nil))))
    .skip) .skip)
    (.seq (.asg (.nm 3) (.lst (.cons .non (.cons (.bl true) (.cons (.bl false) (.cons (.neg (.int 1)) (.cons (.int 0) (.cons (.int 1) (.cons (.str "") (.cons (.str "number") (.cons (.str "text") (.cons (.str "a") (.cons (.tup .nil) (.cons (.lst .nil) (.cons (.tup (.cons (.int 0) .nil)) (.cons (.tup (.cons (.int 1) (.cons (.int 2) .nil))) (.cons (.op .pow (.int 10) (.int 30)) .nil)))))))))))))))))
    (.seq (.ifS (.band (.isi (.var 1) [.int]) (.one (.bnot (.isi (.var 1) [.bool])))) (.seq (.asg (.nm 3) (.op .add (.var 3) (.lst (.cons (.op .add (.var 1) (.int 1)) (.cons (.op .sub (.var 1) (.int 1)) (.cons (.op .add (.var 1) (.int 1)) (.cons (.bi .str (.cons (.var 1) .nil)) .nil)))))))
    .skip) .skip)
    (.seq (.ifS (.isi (.var 1) [.str]) (.seq (.asg (.nm 3) (.op .add (.var 3) (.lst (.cons (.op .add (.var 1) (.str "a")) (.cons (.slc (.var 1) .nil (.neg (.int 1))) (.cons (.op .add (.var 1) (.str "A")) (.cons (.op .add (.str "b") (.slc (.var 1) (.int 1) .nil)) (.cons (.str "up") (.cons (.str "rows") (.cons (.str "nobody") (.cons (.str "here") (.cons (.str "=") .nil))))))))))))
    .skip) .skip)
    (.seq (.ret (.call 14 (.cons (.var 0) (.cons (.var 3) .nil))))
    .skip))))))
def fn_bent_2 : Fn := ⟨2, 6, ir_bent_2⟩
/-- 112 -/
def ir_matters : IR :=
    .seq (.asg (.tp (.cons (.nm 4) (.cons (.nm 5) .nil))) (.var 1))
    (.seq (.asgO 2 (.lst (.cons (.var 1) (.cons (.bi .list (.cons (.var 1) .nil)) (.cons (.tup (.cons (.bi .list (.cons (.var 4) .nil)) (.cons (.var 5) .nil))) (.cons (.tup (.cons (.var 4) (.cons (.bi .list (.cons (.var 5) .nil)) .nil))) (.cons (.tup (.cons (.var 4) .nil)) (.cons (.tup (.cons (.var 4) (.cons (.var 5) (.cons (.tup .nil) .nil)))) (.cons (.tup (.cons (.tup .nil) (.cons (.tup .nil) .nil))) .nil)))))))))
    (.seq (.asgO 2 (.op .add (.var 2) (.lst (.cons (.tup (.cons (.var 4) (.cons (.stp (.var 5) (.neg (.int 1))) .nil))) (.cons (.tup (.cons (.var 4) (.cons (.op .add (.var 5) (.slc (.var 5) (.neg (.int 1)) .nil)) .nil))) (.cons (.tup (.cons (.op .add (.var 4) (.slc (.var 4) .nil (.int 1))) (.cons (.tup .nil) .nil))) (.cons (.tup (.cons (.tup .nil) (.cons (.var 5) .nil))) (.cons (.var 4) .nil))))))))
    (.seq (.asgO 2 (.op .add (.var 2) (.lst (.cons (.tup (.cons (.var 4) (.cons (.bi .tuple (.cons (.comp [7] (.nm 7) .seq (.var 5) .nil .nil (.bi .list (.cons (.var 7) .nil))) .nil)) .nil))) .nil))))
    (.seq (.asgO 2 (.op .add (.var 2) (.lst (.cons (.tup (.cons (.var 4) (.cons (.bi .tuple (.cons (.comp [8, 9] (.tp (.cons (.nm 8) (.cons (.nm 9) .nil))) .seq (.var 5) .nil .nil (.tup (.cons (.var 8) (.cons (.bi .list (.cons (.var 9) .nil)) .nil)))) .nil)) .nil))) .nil))))
    (.seq (.asgO 2 (.op .add (.var 2) (.lst (.cons .non (.cons (.int 0) (.cons (.bl true) (.cons (.str "") (.cons (.lst .nil) (.cons (.tup .nil) (.cons (.str "table") .nil))))))))))
    (.seq (.asgO 2 (.op .add (.var 2) (.lst (.cons (.tup (.cons (.tup (.cons (.tup (.cons (.str "a") (.cons (.str "number") .nil))) .nil)) (.cons (.tup (.cons (.tup (.cons (.int 0) (.cons (.tup (.cons (.bl true) .nil)) .nil))) .nil)) .nil))) (.cons (.tup (.cons (.tup (.cons (.tup (.cons (.str "a") (.cons (.str "text") .nil))) .nil)) (.cons (.tup (.cons (.tup (.cons (.int 0) (.cons (.tup (.cons (.int 0) .nil)) .nil))) .nil)) .nil))) .nil)))))
    (.seq (.asgO 2 (.op .add (.var 2) (.lst (.cons (.tup (.cons (.tup (.cons (.tup (.cons (.str "A") (.cons (.str "text") .nil))) .nil)) (.cons (.tup .nil) .nil))) (.cons (.tup (.cons (.tup (.cons (.tup (.cons (.str "") (.cons (.str "text") .nil))) .nil)) (.cons (.tup .nil) .nil))) (.cons (.tup (.cons (.tup (.cons (.tup (.cons (.op .mul (.str "a") (.int 9)) (.cons (.str "text") .nil))) .nil)) (.cons (.tup .nil) .nil))) (.cons (.tup (.cons (.tup (.cons (.tup (.cons (.str "a b") (.cons (.str "text") .nil))) .nil)) (.cons (.tup .nil) .nil))) .nil)))))))
    (.seq (.asgO 2 (.op .add (.var 2) (.lst (.cons (.tup (.cons (.tup (.cons (.tup (.cons (.str "a1") (.cons (.str "text") .nil))) .nil)) (.cons (.tup .nil) .nil))) (.cons (.tup (.cons (.tup (.cons (.tup (.cons (.str "a") (.cons (.str "truth") .nil))) .nil)) (.cons (.tup .nil) .nil))) (.cons (.tup (.cons (.tup (.cons (.lst (.cons (.str "a") (.cons (.str "text") .nil))) .nil)) (.cons (.tup .nil) .nil))) (.cons (.tup (.cons (.tup (.cons (.tup (.cons (.str "a") (.cons (.str "text") (.cons (.int 0) .nil)))) .nil)) (.cons (.tup .nil) .nil))) .nil)))))))
    (.seq (.asgO 2 (.op .add (.var 2) (.lst (.cons (.tup (.cons (.tup (.cons (.tup (.cons (.str "a") (.cons (.str "text") .nil))) .nil)) (.cons (.tup (.cons (.tup (.cons (.neg (.int 1)) (.cons (.tup (.cons (.str "") .nil)) .nil))) .nil)) .nil))) (.cons (.tup (.cons (.tup (.cons (.tup (.cons (.str "a") (.cons (.str "text") .nil))) .nil)) (.cons (.tup (.cons (.tup (.cons (.bl true) (.cons (.tup (.cons (.str "") .nil)) .nil))) .nil)) .nil))) .nil)))))
    (.seq (.expr (.mu .append 2 (.cons (.tup (.cons (.tup (.cons (.tup (.cons (.str "a") (.cons (.str "text") .nil))) .nil)) (.cons (.tup (.cons (.tup (.cons (.int 0) (.cons (.tup .nil) .nil))) .nil)) .nil))) .nil)))
    (.seq (.expr (.mu .append 2 (.cons (.tup (.cons (.tup (.cons (.tup (.cons (.str "a") (.cons (.str "number") .nil))) .nil)) (.cons (.tup (.cons (.tup (.cons (.int 0) (.cons (.tup (.cons (.op .pow (.int 10) (.int 40)) .nil)) .nil))) (.cons (.tup (.cons (.op .pow (.int 10) (.int 30)) (.cons (.tup (.cons .non .nil)) .nil))) .nil))) .nil))) .nil)))
    (.seq (.expr (.mu .append 2 (.cons (.tup (.cons (.tup (.cons (.tup (.cons (.str "a") (.cons (.str "number") .nil))) .nil)) (.cons (.tup (.cons (.tup (.cons (.int 0) (.cons (.tup (.cons (.tup (.cons (.int 1) (.cons (.int 2) .nil))) .nil)) .nil))) .nil)) .nil))) .nil)))
    (.seq (.forS (.nm 3) .rng (.int 16) .nil (.seq (.asg (.nm 6) (.call 111 (.cons (.var 0) (.cons (.var 1) .nil))))
    (.seq (.expr (.mu .append 2 (.cons (.ife (.cmp .eq (.call 13 (.cons (.var 0) (.cons (.int 3) .nil))) (.int 0)) (.call 111 (.cons (.var 0) (.cons (.var 6) .nil))) (.var 6)) .nil)))
    .skip)))
    (.seq (.ret (.frz 2))
    .skip))))))))))))))
def fn_matters : Fn := ⟨2, 10, ir_matters⟩
/-- 113 -/
def ir_right_10 : IR :=
    .seq (.asg (.nm 1) (.call 105 (.cons (.var 0) (.cons (.call 80 (.cons (.var 0) (.cons (.int 6) .nil))) (.cons (.int 8) .nil)))))
    (.seq (.asg (.nm 2) (.tup (.cons (.idx (.var 1) (.int 0)) (.cons (.bi .tuple (.cons (.comp [9] (.nm 9) .rng (.int 41) .nil .nil (.tup (.cons (.op .mul (.int 3) (.var 9)) (.cons (.op .mul (.tup (.cons .non .nil)) (.lenS (.idx (.var 1) (.int 0)))) .nil)))) .nil)) .nil))))
    (.seq (.asg (.nm 3) (.bi .tuple (.cons (.comp [8] (.nm 8) .seq (.str "abcdefg") .nil .nil (.tup (.cons (.op .mul (.var 8) (.int 3)) (.cons (.str "text") .nil)))) .nil)))
    (.seq (.asg (.nm 4) (.tup (.cons (.var 3) (.cons (.tup (.cons (.tup (.cons (.int 1000) (.cons (.tup (.cons (.str "") (.cons (.str "#") (.cons (.str "abcdefghijklm") (.cons (.op .mul (.str "~") (.int 40)) (.cons (.str " ") (.cons .non (.cons (.str "A") .nil)))))))) .nil))) .nil)) .nil))))
    (.seq (.forS (.nm 5) .seq (.op .add (.call 112 (.cons (.var 0) (.cons (.var 1) .nil))) (.lst (.cons (.var 2) (.cons (.tup (.cons (.idx (.var 2) (.int 0)) (.cons (.op .add (.idx (.var 2) (.int 1)) (.slc (.idx (.var 2) (.int 1)) (.neg (.int 1)) .nil)) .nil))) (.cons (.var 4) .nil))))) .nil (.seq (.par [(6, false), (7, false)] (.cons (.bi .repr (.cons (.var 5) .nil)) (.cons (.call 110 (.cons (.var 5) .nil)) .nil)))
    (.seq (.ifS (.bor (.bnot (.call 15 (.cons (.lst (.cons (.call 103 (.cons (.var 5) .nil)) (.cons (.callK 10 (.cons (.var 5) .nil)) .nil))) (.cons (.lst (.cons (.var 7) (.cons (.var 7) .nil))) .nil)))) (.one (.cmp .ne (.bi .repr (.cons (.var 5) .nil)) (.var 6)))) (.seq (.ret (.bl false))
    .skip) .skip)
    .skip)))
    (.seq (.ret (.isb false (.call 103 (.cons (.var 1) .nil)) true))
    .skip)))))
def fn_right_10 : Fn := ⟨1, 10, ir_right_10⟩
/-- 114 -/
def ir_law_10 : IR :=
    .seq (.forS (.nm 1) .rng (.op .add (.int 1) (.bi .min2 (.cons (.int 3) (.cons (.lenS (.var 0)) .nil)))) .nil (.seq (.asgO 2 (.call 12 (.cons (.var 0) (.cons (.var 1) .nil))))
    (.seq (.ifS (.bnot (.bi .all (.cons (.comp [3] (.nm 3) .rng (.int 2) .nil .nil (.call 113 (.cons (.var 2) .nil))) .nil))) (.seq (.ret (.bl false))
    .skip) .skip)
    .skip)))
    (.seq (.ret (.bl true))
    .skip)
def fn_law_10 : Fn := ⟨1, 4, ir_law_10⟩
/-- 115 -/
def ir_is_fraction : IR :=
    .seq (.ifS (.bor (.bnot (.call 97 (.cons (.var 0) .nil))) (.bor (.bnot (.call 70 (.cons (.idx (.var 0) (.int 0)) .nil))) (.one (.bnot (.call 70 (.cons (.idx (.var 0) (.int 1)) .nil)))))) (.seq (.ret (.bl false))
    .skip) .skip)
    (.seq (.ret (.band (.cmp .ge (.idx (.var 0) (.int 1)) (.int 1)) (.one (.cmp .eq (.call 55 (.cons (.idx (.var 0) (.int 0)) (.cons (.idx (.var 0) (.int 1)) .nil))) (.int 1)))))
    .skip)
def fn_is_fraction : Fn := ⟨1, 1, ir_is_fraction⟩
/-- 116 -/
def ir_is_plain : IR :=
    .seq (.ret (.bor (.isn false (.var 0)) (.bor (.call 70 (.cons (.var 0) .nil)) (.bor (.isi (.var 0) [.str]) (.one (.band (.var 1) (.one (.call 115 (.cons (.var 0) .nil)))))))))
    .skip
def fn_is_plain : Fn := ⟨2, 2, ir_is_plain⟩
/-- 117 -/
def ir_is_item : IR :=
    .seq (.ifS (.bor (.bnot (.call 97 (.cons (.var 1) .nil))) (.one (.bnot (.isi (.idx (.var 1) (.int 0)) [.str])))) (.seq (.ret (.bl false))
    .skip) .skip)
    (.seq (.ifS (.cmp .eq (.idx (.var 1) (.int 0)) (.glob 34)) (.seq (.ret (.band (.isi (.idx (.var 1) (.int 1)) [.str]) (.one (.cmp .isin (.idx (.var 1) (.int 1)) (.comp [3, 4] (.tp (.cons (.nm 3) (.cons (.nm 4) .nil))) .seq (.var 0) .nil .nil (.var 3))))))
    .skip) .skip)
    (.seq (.ret (.band (.cmp .eq (.idx (.var 1) (.int 0)) (.glob 35)) (.one (.call 116 (.cons (.idx (.var 1) (.int 1)) (.cons (.var 2) .nil))))))
    .skip))
def fn_is_item : Fn := ⟨3, 5, ir_is_item⟩
/-- 118 -/
def ir_item_kind : IR :=
    .seq (.ifS (.cmp .eq (.idx (.var 1) (.int 0)) (.glob 34)) (.seq (.ret (.idx (.idx (.var 0) (.call 71 (.cons (.var 0) (.cons (.idx (.var 1) (.int 1)) .nil)))) (.int 1)))
    .skip) .skip)
    (.seq (.ifS (.isn false (.idx (.var 1) (.int 1))) (.seq (.ret .non)
    .skip) .skip)
    (.seq (.ret (.ife (.isi (.idx (.var 1) (.int 1)) [.str]) (.glob 33) (.glob 30)))
    .skip))
def fn_item_kind : Fn := ⟨2, 2, ir_item_kind⟩
/-- 119 -/
def ir_is_compare : IR :=
    .seq (.ifS (.bor (.bnot (.isi (.idx (.var 1) (.int 2)) [.str])) (.one (.cmp .notin (.idx (.var 1) (.int 2)) (.glob 36)))) (.seq (.ret (.bl false))
    .skip) .skip)
    (.seq (.ifS (.bor (.bnot (.call 117 (.cons (.var 0) (.cons (.idx (.var 1) (.int 1)) (.cons (.var 2) .nil))))) (.one (.bnot (.call 117 (.cons (.var 0) (.cons (.idx (.var 1) (.int 3)) (.cons (.var 2) .nil))))))) (.seq (.ret (.bl false))
    .skip) .skip)
    (.seq (.asg (.nm 3) (.lst (.cons (.call 118 (.cons (.var 0) (.cons (.idx (.var 1) (.int 1)) .nil))) (.cons (.call 118 (.cons (.var 0) (.cons (.idx (.var 1) (.int 3)) .nil))) .nil))))
    (.seq (.ret (.bor (.cmp .isin .non (.var 3)) (.one (.cmp .eq (.idx (.var 3) (.int 0)) (.idx (.var 3) (.int 1))))))
    .skip)))
def fn_is_compare : Fn := ⟨3, 4, ir_is_compare⟩
/-- 120 -/
def ir_is_condition_of : IR :=
    .seq (.ifS (.bor (.bnot (.isi (.var 1) [.tuple])) (.bor (.cmp .eq (.lenS (.var 1)) (.int 0)) (.one (.bnot (.isi (.idx (.var 1) (.int 0)) [.str]))))) (.seq (.ret (.bl false))
    .skip) .skip)
    (.seq (.ifS (.cmp .ne (.ggt 1 (.idx (.var 1) (.int 0)) (.neg (.int 1))) (.lenS (.var 1))) (.seq (.ret (.bl false))
    .skip) .skip)
    (.seq (.ifS (.cmp .eq (.idx (.var 1) (.int 0)) (.glob 37)) (.seq (.ret (.call 119 (.cons (.var 0) (.cons (.var 1) (.cons (.var 2) .nil)))))
    .skip) .skip)
    (.seq (.ifS (.cmp .eq (.idx (.var 1) (.int 0)) (.glob 38)) (.seq (.ret (.call 117 (.cons (.var 0) (.cons (.idx (.var 1) (.int 1)) (.cons (.var 2) .nil)))))
    .skip) .skip)
    (.seq (.ret (.bi .all (.cons (.comp [3] (.nm 3) .seq (.slc (.var 1) (.int 1) .nil) .nil .nil (.call 120 (.cons (.var 0) (.cons (.var 3) (.cons (.var 2) .nil))))) .nil)))
    .skip))))
def fn_is_condition_of : Fn := ⟨3, 4, ir_is_condition_of⟩
/-- 121 -/
def ir_is_condition : IR :=
    .seq (.ret (.call 120 (.cons (.var 0) (.cons (.var 1) (.cons (.bl false) .nil)))))
    .skip
def fn_is_condition : Fn := ⟨2, 2, ir_is_condition⟩
/-- 122 -/
def ir_compare : IR :=
    .seq (.asg (.tp (.cons (.nm 4) (.cons (.nm 5) .nil))) (.call 14 (.cons (.var 0) (.cons (.var 1) .nil))))
    (.seq (.asg (.nm 2) (.comp [6, 7] (.tp (.cons (.nm 6) (.cons (.nm 7) .nil))) .seq (.var 1) .nil (.cmp .eq (.var 7) (.var 5)) (.tup (.cons (.str "column") (.cons (.var 6) .nil)))))
    (.seq (.asg (.nm 2) (.op .add (.var 2) (.lst (.cons (.tup (.cons (.str "plain") (.cons (.call 104 (.cons (.var 0) (.cons (.var 5) (.cons (.int 0) .nil)))) .nil))) (.cons (.tup (.cons (.str "plain") (.cons (.call 104 (.cons (.var 0) (.cons (.var 5) (.cons (.int 0) .nil)))) .nil))) .nil)))))
    (.seq (.asg (.nm 3) (.stp (.lst (.cons (.tup (.cons (.str "column") (.cons (.var 4) .nil))) (.cons (.call 14 (.cons (.var 0) (.cons (.var 2) .nil))) .nil))) (.op .sub (.int 1) (.op .mul (.int 2) (.call 13 (.cons (.var 0) (.cons (.int 2) .nil)))))))
    (.seq (.ret (.tup (.cons (.str "compare") (.cons (.idx (.var 3) (.int 0)) (.cons (.call 14 (.cons (.var 0) (.cons (.lst (.cons (.str "=") (.cons (.str "<>") (.cons (.str "<") (.cons (.str "<=") (.cons (.str ">") (.cons (.str ">=") .nil))))))) .nil))) (.cons (.idx (.var 3) (.int 1)) .nil))))))
    .skip))))
def fn_compare : Fn := ⟨2, 8, ir_compare⟩
/-- 123 -/
def ir_condition : IR :=
    .seq (.asg (.nm 3) (.ife (.cmp .gt (.var 2) (.int 0)) (.call 13 (.cons (.var 0) (.cons (.int 8) .nil))) (.op .add (.int 5) (.call 13 (.cons (.var 0) (.cons (.int 3) .nil))))))
    (.seq (.ifS (.cmp .lt (.var 3) (.int 2)) (.seq (.asg (.nm 4) (.call 14 (.cons (.var 0) (.cons (.lst (.cons (.str "and") (.cons (.str "or") .nil))) .nil))))
    (.seq (.ret (.tup (.cons (.var 4) (.cons (.call 123 (.cons (.var 0) (.cons (.var 1) (.cons (.op .sub (.var 2) (.int 1)) .nil)))) (.cons (.call 123 (.cons (.var 0) (.cons (.var 1) (.cons (.op .sub (.var 2) (.int 1)) .nil)))) .nil)))))
    .skip)) .skip)
    (.seq (.ifS (.cmp .lt (.var 3) (.int 4)) (.seq (.ret (.tup (.cons (.str "not") (.cons (.call 123 (.cons (.var 0) (.cons (.var 1) (.cons (.op .sub (.var 2) (.int 1)) .nil)))) .nil))))
    .skip) .skip)
    (.seq (.ifS (.cmp .eq (.var 3) (.int 4)) (.seq (.ret (.tup (.cons (.str "null") (.cons (.tup (.cons (.str "column") (.cons (.idx (.call 14 (.cons (.var 0) (.cons (.var 1) .nil))) (.int 0)) .nil))) .nil))))
    .skip) .skip)
    (.seq (.ret (.call 122 (.cons (.var 0) (.cons (.var 1) .nil))))
    .skip))))
def fn_condition : Fn := ⟨3, 5, ir_condition⟩
/-- 124 -/
def ir_kind_of : IR :=
    .seq (.ifS (.bor (.bnot (.isi (.var 1) [.tuple])) (.bor (.cmp .ne (.lenS (.var 1)) (.int 2)) (.one (.bnot (.isi (.idx (.var 1) (.int 0)) [.str]))))) (.seq (.ret (.str "none"))
    .skip) .skip)
    (.seq (.ifS (.cmp .eq (.idx (.var 1) (.int 0)) (.str "column")) (.seq (.asg (.nm 2) (.comp [3, 4] (.tp (.cons (.nm 3) (.cons (.nm 4) .nil))) .seq (.var 0) .nil (.band (.isi (.idx (.var 1) (.int 1)) [.str]) (.one (.cmp .eq (.var 3) (.idx (.var 1) (.int 1))))) (.var 4)))
    (.seq (.ret (.ife (.cmp .ne (.var 2) (.lst .nil)) (.idx (.var 2) (.int 0)) (.str "none")))
    .skip)) .skip)
    (.seq (.ifS (.cmp .ne (.idx (.var 1) (.int 0)) (.str "plain")) (.seq (.ret (.str "none"))
    .skip) .skip)
    (.seq (.ifS (.isn false (.idx (.var 1) (.int 1))) (.seq (.ret (.str "any"))
    .skip) .skip)
    (.seq (.ifS (.isi (.idx (.var 1) (.int 1)) [.str]) (.seq (.ret (.str "text"))
    .skip) .skip)
    (.seq (.ret (.ife (.call 106 (.cons (.idx (.var 1) (.int 1)) .nil)) (.str "number") (.str "none")))
    .skip)))))
def fn_kind_of : Fn := ⟨2, 5, ir_kind_of⟩
/-- 125 -/
def ir_is_due_2 : IR :=
    .seq (.ifS (.bor (.bnot (.isi (.var 1) [.tuple])) (.bor (.cmp .eq (.lenS (.var 1)) (.int 0)) (.one (.bnot (.isi (.idx (.var 1) (.int 0)) [.str]))))) (.seq (.ret (.bl false))
    .skip) .skip)
    (.seq (.ifS (.band (.cmp .eq (.idx (.var 1) (.int 0)) (.str "compare")) (.one (.cmp .eq (.lenS (.var 1)) (.int 4)))) (.seq (.par [(4, false), (5, false)] (.cons (.call 124 (.cons (.var 0) (.cons (.idx (.var 1) (.int 1)) .nil))) (.cons (.call 124 (.cons (.var 0) (.cons (.idx (.var 1) (.int 3)) .nil))) .nil)))
    (.seq (.asg (.nm 3) (.band (.isi (.idx (.var 1) (.int 2)) [.str]) (.one (.cmp .isin (.idx (.var 1) (.int 2)) (.tup (.cons (.str "=") (.cons (.str "<>") (.cons (.str "<") (.cons (.str "<=") (.cons (.str ">") (.cons (.str ">=") .nil)))))))))))
    (.seq (.ret (.band (.var 3) (.band (.cmp .notin (.str "none") (.tup (.cons (.var 4) (.cons (.var 5) .nil)))) (.one (.bor (.cmp .eq (.var 4) (.var 5)) (.one (.cmp .isin (.str "any") (.tup (.cons (.var 4) (.cons (.var 5) .nil))))))))))
    .skip))) .skip)
    (.seq (.ifS (.band (.cmp .eq (.idx (.var 1) (.int 0)) (.str "null")) (.one (.cmp .eq (.lenS (.var 1)) (.int 2)))) (.seq (.ret (.cmp .ne (.call 124 (.cons (.var 0) (.cons (.idx (.var 1) (.int 1)) .nil))) (.str "none")))
    .skip) .skip)
    (.seq (.dicS 2 ["not", "and", "or"] (.cons (.int 2) (.cons (.int 3) (.cons (.int 3) .nil))))
    (.seq (.ifS (.bor (.din true 2 (.idx (.var 1) (.int 0))) (.one (.cmp .ne (.lenS (.var 1)) (.dgi 2 (.idx (.var 1) (.int 0)))))) (.seq (.ret (.bl false))
    .skip) .skip)
    (.seq (.ret (.bi .all (.cons (.comp [6] (.nm 6) .seq (.slc (.var 1) (.int 1) .nil) .nil .nil (.call 125 (.cons (.var 0) (.cons (.var 6) .nil)))) .nil)))
    .skip)))))
def fn_is_due_2 : Fn := ⟨2, 7, ir_is_due_2⟩
/-- 126 -/
def ir_matters_2 : IR :=
    .seq (.asg (.tp (.cons (.nm 6) (.cons (.nm 7) .nil))) (.call 14 (.cons (.var 0) (.cons (.var 1) .nil))))
    (.seq (.par [(8, false), (9, false)] (.cons (.tup (.cons (.str "column") (.cons (.var 6) .nil))) (.cons (.tup (.cons (.str "plain") (.cons (.ife (.cmp .eq (.var 7) (.str "number")) (.int 3) (.str "3")) .nil))) .nil)))
    (.seq (.asg (.nm 3) (.tup (.cons (.str "plain") (.cons (.ife (.cmp .eq (.var 7) (.str "text")) (.int 3) (.str "3")) .nil))))
    (.seq (.asgO 4 (.lst (.cons (.var 2) (.cons (.bi .list (.cons (.var 2) .nil)) (.cons (.tup (.cons (.str "compare") (.cons (.var 8) (.cons (.str "=") (.cons (.var 9) .nil))))) (.cons (.tup (.cons (.str "compare") (.cons (.var 9) (.cons (.str "<>") (.cons (.var 8) .nil))))) (.cons (.tup (.cons (.str "null") (.cons (.var 9) .nil))) .nil)))))))
    (.seq (.asgO 4 (.op .add (.var 4) (.lst (.cons (.tup (.cons (.str "compare") (.cons (.var 8) (.cons (.str "<") (.cons (.var 3) .nil))))) (.cons (.tup (.cons (.str "compare") (.cons (.var 3) (.cons (.str "=") (.cons (.var 9) .nil))))) (.cons (.tup (.cons (.str "compare") (.cons (.var 8) (.cons (.str "==") (.cons (.var 9) .nil))))) (.cons (.tup (.cons (.str "null") .nil)) .nil)))))))
    (.seq (.asgO 4 (.op .add (.var 4) (.lst (.cons (.tup (.cons (.str "compare") (.cons (.var 8) (.cons (.str "=") (.cons (.tup (.cons (.str "plain") (.cons .non .nil))) .nil))))) .nil))))
    (.seq (.asgO 4 (.op .add (.var 4) (.lst (.cons (.tup (.cons (.str "compare") (.cons (.tup (.cons (.str "plain") (.cons .non .nil))) (.cons (.str ">=") (.cons (.tup (.cons (.str "plain") (.cons .non .nil))) .nil))))) (.cons (.var 8) (.cons (.var 9) .nil))))))
    (.seq (.asgO 4 (.op .add (.var 4) (.lst (.cons (.tup (.cons (.str "compare") (.cons (.var 8) (.cons (.str "=") (.cons (.tup (.cons (.str "plain") (.cons (.tup (.cons (.int 1) (.cons (.int 2) .nil))) .nil))) .nil))))) (.cons (.tup (.cons (.str "compare") (.cons (.var 8) (.cons (.str "=") (.cons (.tup (.cons (.str "plain") (.cons (.bl true) .nil))) .nil))))) (.cons (.tup (.cons (.str "null") (.cons (.var 8) (.cons (.var 8) .nil)))) .nil))))))
    (.seq (.asgO 4 (.op .add (.var 4) (.lst (.cons (.tup (.cons (.str "compare") (.cons (.var 8) (.cons (.str "=") (.cons (.bi .list (.cons (.var 9) .nil)) .nil))))) .nil))))
    (.seq (.asgO 4 (.op .add (.var 4) (.lst (.cons (.tup (.cons (.str "compare") (.cons (.var 8) (.cons (.str "=") (.cons (.tup (.cons (.str "column") (.cons (.str "zzzzzzzz") .nil))) .nil))))) (.cons (.tup (.cons (.str "null") (.cons (.tup (.cons (.str "plain") .nil)) .nil))) .nil)))))
    (.seq (.asgO 4 (.op .add (.var 4) (.lst (.cons (.tup (.cons (.str "and") (.cons (.var 2) .nil))) (.cons (.tup (.cons (.str "and") (.cons (.var 2) (.cons (.var 2) .nil)))) (.cons (.tup (.cons (.str "or") (.cons (.var 2) (.cons .non .nil)))) .nil))))))
    (.seq (.asgO 4 (.op .add (.var 4) (.lst (.cons (.tup (.cons (.str "not") (.cons (.var 2) (.cons (.var 2) .nil)))) .nil))))
    (.seq (.asgO 4 (.op .add (.var 4) (.lst (.cons (.tup (.cons (.str "not") (.cons (.lst (.cons (.str "null") (.cons (.var 8) .nil))) .nil))) (.cons (.tup (.cons (.str "xor") (.cons (.var 2) (.cons (.var 2) .nil)))) .nil)))))
    (.seq (.asgO 4 (.op .add (.var 4) (.lst (.cons (.tup (.cons (.str "null") (.cons (.tup (.cons (.str "column") (.cons (.int 3) .nil))) .nil))) (.cons (.tup (.cons (.str "compare") (.cons (.var 8) (.cons (.str "=") .nil)))) .nil)))))
    (.seq (.asgO 4 (.op .add (.var 4) (.lst (.cons .non (.cons (.bl true) (.cons (.int 0) (.cons (.str "") (.cons (.str "null") (.cons (.lst .nil) (.cons (.tup .nil) (.cons (.tup (.cons (.str "and") .nil)) (.cons (.tup (.cons .non (.cons (.var 8) .nil))) (.cons (.tup (.cons (.str "null") (.cons (.tup (.cons (.str "column") (.cons .non .nil))) .nil))) (.cons (.tup (.cons (.str "null") (.cons (.tup .nil) .nil))) .nil))))))))))))))
    (.seq (.forS (.nm 5) .rng (.int 14) .nil (.seq (.asg (.nm 10) (.call 111 (.cons (.var 0) (.cons (.var 2) .nil))))
    (.seq (.expr (.mu .append 4 (.cons (.ife (.cmp .eq (.call 13 (.cons (.var 0) (.cons (.int 3) .nil))) (.int 0)) (.call 111 (.cons (.var 0) (.cons (.var 10) .nil))) (.var 10)) .nil)))
    .skip)))
    (.seq (.ret (.frz 4))
    .skip))))))))))))))))
def fn_matters_2 : Fn := ⟨3, 11, ir_matters_2⟩
/-- 127 -/
def ir_right_11 : IR :=
    .seq (.par [(3, false), (4, false)] (.cons (.call 80 (.cons (.var 0) (.cons (.int 6) .nil))) (.cons (.call 80 (.cons (.var 0) (.cons (.int 2) .nil))) .nil)))
    (.seq (.asg (.nm 1) (.call 123 (.cons (.var 0) (.cons (.var 3) (.cons (.int 3) .nil)))))
    (.seq (.forS (.nm 2) .seq (.op .add (.call 126 (.cons (.var 0) (.cons (.var 3) (.cons (.var 1) .nil)))) (.lst (.cons (.call 123 (.cons (.var 0) (.cons (.var 4) (.cons (.int 2) .nil)))) .nil))) .nil (.seq (.par [(6, false), (7, false), (8, false)] (.cons (.bi .repr (.cons (.var 2) .nil)) (.cons (.call 125 (.cons (.var 3) (.cons (.var 2) .nil))) (.cons (.call 125 (.cons (.var 4) (.cons (.var 2) .nil))) .nil))))
    (.seq (.asg (.nm 5) (.lst (.cons (.call 121 (.cons (.var 3) (.cons (.var 2) .nil))) (.cons (.callK 11 (.cons (.var 2) (.cons (.call 16 (.cons (.var 3) .nil)) .nil))) .nil))))
    (.seq (.ifS (.bor (.bnot (.call 15 (.cons (.op .add (.var 5) (.lst (.cons (.call 121 (.cons (.var 4) (.cons (.var 2) .nil))) .nil))) (.cons (.lst (.cons (.var 7) (.cons (.var 7) (.cons (.var 8) .nil)))) .nil)))) (.one (.cmp .ne (.bi .repr (.cons (.var 2) .nil)) (.var 6)))) (.seq (.ret (.bl false))
    .skip) .skip)
    .skip))))
    (.seq (.ret (.isb false (.call 121 (.cons (.var 3) (.cons (.var 1) .nil))) true))
    .skip)))
def fn_right_11 : Fn := ⟨1, 9, ir_right_11⟩
/-- 128 -/
def ir_law_11 : IR :=
    .seq (.forS (.nm 1) .rng (.op .add (.int 1) (.bi .min2 (.cons (.int 3) (.cons (.lenS (.var 0)) .nil)))) .nil (.seq (.asgO 2 (.call 12 (.cons (.var 0) (.cons (.var 1) .nil))))
    (.seq (.ifS (.bnot (.bi .all (.cons (.comp [3] (.nm 3) .rng (.int 2) .nil .nil (.call 127 (.cons (.var 2) .nil))) .nil))) (.seq (.ret (.bl false))
    .skip) .skip)
    .skip)))
    (.seq (.ret (.bl true))
    .skip)
def fn_law_11 : Fn := ⟨1, 4, ir_law_11⟩
/-- 129 -/
def ir_is_column_name : IR :=
    .seq (.ret (.band (.isi (.var 1) [.str]) (.one (.cmp .isin (.var 1) (.comp [2, 3] (.tp (.cons (.nm 2) (.cons (.nm 3) .nil))) .seq (.var 0) .nil .nil (.var 2))))))
    .skip
def fn_is_column_name : Fn := ⟨2, 4, ir_is_column_name⟩
/-- 130 -/
def ir_kind_in : IR :=
    .seq (.ret (.idx (.idx (.var 0) (.call 71 (.cons (.var 0) (.cons (.var 1) .nil)))) (.int 1)))
    .skip
def fn_kind_in : Fn := ⟨2, 2, ir_kind_in⟩
/-- 131 -/
def ir_is_number_from : IR :=
    .seq (.ret (.band (.call 70 (.cons (.var 1) .nil)) (.one (.cmp .ge (.var 1) (.var 0)))))
    .skip
def fn_is_number_from : Fn := ⟨2, 2, ir_is_number_from⟩
/-- 132 -/
def ir_fits_rank : IR :=
    .seq (.ifS (.cmp .eq (.var 0) (.glob 11)) (.seq (.ret (.band (.cmp .eq (.lenS (.var 1)) (.int 1)) (.one (.call 131 (.cons (.int 1) (.cons (.idx (.var 1) (.int 0)) .nil))))))
    .skip) .skip)
    (.seq (.ret (.cmp .eq (.lenS (.var 1)) (.int 0)))
    .skip)
def fn_fits_rank : Fn := ⟨2, 2, ir_fits_rank⟩
/-- 133 -/
def ir_fits_offset : IR :=
    .seq (.ifS (.bor (.cmp .ne (.lenS (.var 2)) (.ggt 2 (.var 1) (.int 2))) (.one (.bnot (.call 129 (.cons (.var 0) (.cons (.idx (.var 2) (.int 0)) .nil)))))) (.seq (.ret (.bl false))
    .skip) .skip)
    (.seq (.ifS (.bor (.bnot (.isi (.idx (.var 2) (.neg (.int 1))) [.str])) (.one (.cmp .notin (.idx (.var 2) (.neg (.int 1))) (.tup (.cons (.glob 39) (.cons (.glob 40) .nil)))))) (.seq (.ret (.bl false))
    .skip) .skip)
    (.seq (.ifS (.cmp .isin (.var 1) (.glob 14)) (.seq (.ret (.band (.call 131 (.cons (.int 0) (.cons (.idx (.var 2) (.int 1)) .nil))) (.one (.call 98 (.cons (.call 130 (.cons (.var 0) (.cons (.idx (.var 2) (.int 0)) .nil))) (.cons (.idx (.var 2) (.int 2)) .nil))))))
    .skip) .skip)
    (.seq (.ret (.bor (.cmp .ne (.var 1) (.glob 41)) (.one (.call 131 (.cons (.int 1) (.cons (.idx (.var 2) (.int 1)) .nil))))))
    .skip)))
def fn_fits_offset : Fn := ⟨3, 3, ir_fits_offset⟩
/-- 134 -/
def ir_fits_sum : IR :=
    .seq (.ifS (.cmp .eq (.lenS (.var 2)) (.int 0)) (.seq (.ret (.cmp .eq (.var 1) (.glob 15)))
    .skip) .skip)
    (.seq (.ifS (.bor (.cmp .gt (.lenS (.var 2)) (.int 2)) (.one (.bnot (.call 129 (.cons (.var 0) (.cons (.idx (.var 2) (.int 0)) .nil)))))) (.seq (.ret (.bl false))
    .skip) .skip)
    (.seq (.asg (.nm 3) (.call 130 (.cons (.var 0) (.cons (.idx (.var 2) (.int 0)) .nil))))
    (.seq (.ifS (.cmp .ne (.ggt 3 (.var 1) (.var 3)) (.var 3)) (.seq (.ret (.bl false))
    .skip) .skip)
    (.seq (.ifS (.cmp .eq (.lenS (.var 2)) (.int 1)) (.seq (.ret (.bl true))
    .skip) .skip)
    (.seq (.ret (.band (.isi (.idx (.var 2) (.int 1)) [.str]) (.band (.cmp .eq (.idx (.var 2) (.int 1)) (.glob 42)) (.one (.cmp .notin (.var 1) (.tup (.cons (.glob 20) (.cons (.glob 43) .nil))))))))
    .skip)))))
def fn_fits_sum : Fn := ⟨3, 4, ir_fits_sum⟩
/-- 135 -/
def ir_is_call : IR :=
    .seq (.ifS (.bor (.bnot (.call 97 (.cons (.var 1) .nil))) (.bor (.bnot (.isi (.idx (.var 1) (.int 0)) [.str])) (.one (.bnot (.isi (.idx (.var 1) (.int 1)) [.tuple]))))) (.seq (.ret (.bl false))
    .skip) .skip)
    (.seq (.ifS (.cmp .isin (.idx (.var 1) (.int 0)) (.glob 21)) (.seq (.ret (.call 132 (.cons (.idx (.var 1) (.int 0)) (.cons (.idx (.var 1) (.int 1)) .nil))))
    .skip) .skip)
    (.seq (.ifS (.cmp .isin (.idx (.var 1) (.int 0)) (.glob 22)) (.seq (.ret (.call 133 (.cons (.var 0) (.cons (.idx (.var 1) (.int 0)) (.cons (.idx (.var 1) (.int 1)) .nil)))))
    .skip) .skip)
    (.seq (.ret (.band (.cmp .isin (.idx (.var 1) (.int 0)) (.glob 44)) (.one (.call 134 (.cons (.var 0) (.cons (.idx (.var 1) (.int 0)) (.cons (.idx (.var 1) (.int 1)) .nil)))))))
    .skip)))
def fn_is_call : Fn := ⟨2, 2, ir_is_call⟩
/-- 136 -/
def ir_kind_of_2 : IR :=
    .seq (.asg (.tp (.cons (.nm 2) (.cons (.nm 3) .nil))) (.var 1))
    (.seq (.ifS (.bor (.cmp .isin (.var 2) (.glob 22)) (.one (.cmp .isin (.var 2) (.tup (.cons (.glob 20) (.cons (.glob 43) .nil)))))) (.seq (.ret (.call 130 (.cons (.var 0) (.cons (.idx (.var 3) (.int 0)) .nil))))
    .skip) .skip)
    (.seq (.ret (.ife (.cmp .eq (.var 2) (.glob 16)) (.glob 33) (.glob 30)))
    .skip))
def fn_kind_of_2 : Fn := ⟨2, 4, ir_kind_of_2⟩
/-- 137 -/
def ir_reads_frame : IR :=
    .seq (.ret (.bor (.cmp .isin (.var 0) (.glob 44)) (.one (.cmp .isin (.var 0) (.glob 45)))))
    .skip
def fn_reads_frame : Fn := ⟨1, 1, ir_reads_frame⟩
/-- 138 -/
def ir_bent_3 : IR :=
    .seq (.asg (.nm 2) (.call 13 (.cons (.var 0) (.cons (.int 6) .nil))))
    (.seq (.ifS (.band (.isi (.var 1) [.tuple, .list]) (.band (.cmp .gt (.lenS (.var 1)) (.int 0)) (.one (.cmp .gt (.var 2) (.int 1))))) (.seq (.par [(4, false), (5, true)] (.cons (.call 13 (.cons (.var 0) (.cons (.lenS (.var 1)) .nil))) (.cons (.bi .list (.cons (.var 1) .nil)) .nil)))
    (.seq (.ifS (.cmp .eq (.var 2) (.int 2)) (.seq (.expr (.mu .popAt 5 (.cons (.var 4) .nil)))
    .skip) (.seq (.ifS (.cmp .eq (.var 2) (.int 3)) (.seq (.expr (.mu .insert 5 (.cons (.var 4) (.cons (.idx (.var 5) (.var 4)) .nil))))
    .skip) (.seq (.setI 5 (.var 4) (.call 138 (.cons (.var 0) (.cons (.idx (.var 5) (.var 4)) .nil))))
    .skip))
    .skip))
    (.seq (.ret (.ife (.isi (.var 1) [.tuple]) (.bi .tuple (.cons (.var 5) .nil)) (.frz 5)))
    .skip))) .skip)
    (.seq (.ifS (.band (.cmp .eq (.var 2) (.int 0)) (.one (.isi (.var 1) [.tuple, .list]))) (.seq (.ret (.ife (.isi (.var 1) [.tuple]) (.bi .list (.cons (.var 1) .nil)) (.bi .tuple (.cons (.var 1) .nil))))
    .skip) .skip)
    (.seq (.asgO 3 (.lst (.cons .non (.cons (.bl true) (.cons (.bl false) (.cons (.neg (.int 1)) (.cons (.int 0) (.cons (.int 1) (.cons (.str "") (.cons (.str "up") (.cons (.str "first") (.cons (.str "rows") (.cons (.tup .nil) (.cons (.lst .nil) (.cons (.tup (.cons (.int 0) .nil)) (.cons (.lst (.cons (.int 0) .nil)) (.cons (.tup (.cons (.str "here") .nil)) (.cons (.tup (.cons (.str "before") (.cons (.int 1) .nil))) .nil))))))))))))))))))
    (.seq (.expr (.mu .append 3 (.cons (.op .pow (.int 10) (.int 30)) .nil)))
    (.seq (.ifS (.band (.isi (.var 1) [.int]) (.one (.bnot (.isi (.var 1) [.bool])))) (.seq (.asgO 3 (.op .add (.var 3) (.lst (.cons (.op .add (.var 1) (.int 1)) (.cons (.op .sub (.var 1) (.int 1)) (.cons (.op .add (.var 1) (.int 1)) (.cons (.bi .str (.cons (.var 1) .nil)) .nil)))))))
    .skip) .skip)
    (.seq (.ret (.call 14 (.cons (.var 0) (.cons (.frz 3) .nil))))
    .skip))))))
def fn_bent_3 : Fn := ⟨2, 6, ir_bent_3⟩
/-- 139 -/
def ir_heads : IR :=
    .seq (.asgO 2 (.lst .nil))
    (.seq (.forS (.nm 3) .rng (.op .add (.int 1) (.call 13 (.cons (.var 0) (.cons (.var 1) .nil)))) .nil (.seq (.asg (.nm 4) (.op .add (.comp [5] (.nm 5) .rng (.int 2) .nil .nil (.call 78 (.cons (.var 0) .nil))) (.comp [6] (.nm 6) .seq (.str "qrstuvwxyzabcdefgh") .nil .nil (.op .mul (.var 6) (.int 8)))))
    (.seq (.expr (.mu .append 2 (.cons (.idx (.comp [7] (.nm 7) .seq (.var 4) .nil (.cmp .notin (.var 7) (.var 2)) (.var 7)) (.int 0)) .nil)))
    .skip)))
    (.seq (.ret (.bi .tuple (.cons (.comp [3, 7] (.tp (.cons (.nm 3) (.cons (.nm 7) .nil))) .enm (.frz 2) .nil .nil (.tup (.cons (.var 7) (.cons (.ife (.bor (.cmp .eq (.var 3) (.int 0)) (.one (.cmp .gt (.call 13 (.cons (.var 0) (.cons (.int 3) .nil))) (.int 0)))) (.str "number") (.str "text")) .nil)))) .nil)))
    .skip))
def fn_heads : Fn := ⟨2, 8, ir_heads⟩
/-- 140 -/
def ir_deed : IR :=
    .seq (.asg (.tp (.cons (.nm 2) (.cons (.nm 3) .nil))) (.call 14 (.cons (.var 0) (.cons (.var 1) .nil))))
    (.seq (.par [(4, false), (5, false), (6, false)] (.cons (.call 13 (.cons (.var 0) (.cons (.int 9) .nil))) (.cons (.call 14 (.cons (.var 0) (.cons (.lst (.cons (.str "counted") (.cons (.str "passed") .nil))) .nil))) (.cons (.call 13 (.cons (.var 0) (.cons (.int 4) .nil))) .nil))))
    (.seq (.ifS (.cmp .lt (.var 4) (.int 2)) (.seq (.asg (.nm 7) (.lst (.cons (.tup (.cons (.str "row") (.cons (.tup .nil) .nil))) (.cons (.tup (.cons (.str "rank") (.cons (.tup .nil) .nil))) (.cons (.tup (.cons (.str "dense") (.cons (.tup .nil) .nil))) (.cons (.tup (.cons (.str "percent") (.cons (.tup .nil) .nil))) (.cons (.tup (.cons (.str "share") (.cons (.tup .nil) .nil))) (.cons (.tup (.cons (.str "tile") (.cons (.tup (.cons (.op .add (.var 6) (.int 1)) .nil)) .nil))) .nil))))))))
    (.seq (.ret (.call 14 (.cons (.var 0) (.cons (.var 7) .nil))))
    .skip)) .skip)
    (.seq (.ifS (.cmp .lt (.var 4) (.int 4)) (.seq (.asg (.nm 8) (.lst (.cons (.tup (.cons (.str "earlier") (.cons (.tup (.cons (.var 2) (.cons (.var 6) (.cons (.call 64 (.cons (.var 0) (.cons (.var 3) (.cons (.int 0) .nil)))) (.cons (.var 5) .nil))))) .nil))) (.cons (.tup (.cons (.str "later") (.cons (.tup (.cons (.var 2) (.cons (.var 6) (.cons .non (.cons (.var 5) .nil))))) .nil))) .nil))))
    (.seq (.ret (.call 14 (.cons (.var 0) (.cons (.op .add (.var 8) (.lst (.cons (.tup (.cons (.str "first") (.cons (.tup (.cons (.var 2) (.cons (.var 5) .nil))) .nil))) (.cons (.tup (.cons (.str "last") (.cons (.tup (.cons (.var 2) (.cons (.var 5) .nil))) .nil))) (.cons (.tup (.cons (.str "nth") (.cons (.tup (.cons (.var 2) (.cons (.op .add (.var 6) (.int 1)) (.cons (.var 5) .nil)))) .nil))) .nil))))) .nil))))
    .skip)) .skip)
    (.seq (.ifS (.cmp .lt (.var 4) (.int 5)) (.seq (.ret (.call 14 (.cons (.var 0) (.cons (.lst (.cons (.tup (.cons (.str "count") (.cons (.tup .nil) .nil))) (.cons (.tup (.cons (.str "count") (.cons (.tup (.cons (.var 2) .nil)) .nil))) (.cons (.tup (.cons (.str "count") (.cons (.tup (.cons (.var 2) (.cons (.str "unlike") .nil))) .nil))) .nil)))) .nil))))
    .skip) .skip)
    (.seq (.ifS (.cmp .lt (.var 4) (.int 7)) (.seq (.asg (.nm 9) (.ife (.cmp .eq (.var 3) (.str "number")) (.call 14 (.cons (.var 0) (.cons (.lst (.cons (.str "sum") (.cons (.str "mean") .nil))) .nil))) (.str "joined")))
    (.seq (.ret (.tup (.cons (.var 9) (.cons (.call 14 (.cons (.var 0) (.cons (.lst (.cons (.tup (.cons (.var 2) .nil)) (.cons (.tup (.cons (.var 2) .nil)) (.cons (.tup (.cons (.var 2) (.cons (.str "unlike") .nil))) .nil)))) .nil))) .nil))))
    .skip)) .skip)
    (.seq (.ret (.tup (.cons (.call 14 (.cons (.var 0) (.cons (.lst (.cons (.str "least") (.cons (.str "most") .nil))) .nil))) (.cons (.tup (.cons (.var 2) .nil)) .nil))))
    .skip))))))
def fn_deed : Fn := ⟨2, 10, ir_deed⟩
/-- 141 -/
def ir_from : IR :=
    .seq (.ret (.band (.isi (.var 1) [.int]) (.band (.bnot (.isi (.var 1) [.bool])) (.one (.cmp .ge (.var 1) (.var 0))))))
    .skip
def fn_from : Fn := ⟨2, 2, ir_from⟩
/-- 142 -/
def ir_is_worth : IR :=
    .seq (.ifS (.bor (.isn false (.var 1)) (.one (.isi (.var 1) [.bool]))) (.seq (.ret (.isn false (.var 1)))
    .skip) .skip)
    (.seq (.ret (.ife (.cmp .eq (.var 0) (.str "number")) (.isi (.var 1) [.int]) (.isi (.var 1) [.str])))
    .skip)
def fn_is_worth : Fn := ⟨2, 2, ir_is_worth⟩
/-- 143 -/
def ir_fits : IR :=
    .seq (.ifS (.bor (.cmp .eq (.lenS (.var 2)) (.int 0)) (.bor (.bnot (.isi (.idx (.var 2) (.int 0)) [.str])) (.one (.dmem true (.idx (.var 2) (.int 0)) (.var 0))))) (.seq (.ret (.bl false))
    .skip) .skip)
    (.seq (.par [(4, false), (5, false)] (.cons (.dget (.var 0) (.idx (.var 2) (.int 0))) (.cons (.band (.isi (.idx (.var 2) (.neg (.int 1))) [.str]) (.one (.cmp .isin (.idx (.var 2) (.neg (.int 1))) (.tup (.cons (.str "counted") (.cons (.str "passed") .nil)))))) .nil)))
    (.seq (.ifS (.cmp .isin (.var 1) (.tup (.cons (.str "earlier") (.cons (.str "later") .nil)))) (.seq (.ifS (.bor (.cmp .ne (.lenS (.var 2)) (.int 4)) (.one (.bnot (.var 5)))) (.seq (.ret (.bl false))
    .skip) .skip)
    (.seq (.ret (.band (.call 141 (.cons (.int 0) (.cons (.idx (.var 2) (.int 1)) .nil))) (.one (.call 142 (.cons (.var 4) (.cons (.idx (.var 2) (.int 2)) .nil))))))
    .skip)) .skip)
    (.seq (.ifS (.cmp .eq (.var 1) (.str "nth")) (.seq (.ret (.band (.var 5) (.band (.cmp .eq (.lenS (.var 2)) (.int 3)) (.one (.call 141 (.cons (.int 1) (.cons (.idx (.var 2) (.int 1)) .nil)))))))
    .skip) .skip)
    (.seq (.ifS (.cmp .isin (.var 1) (.tup (.cons (.str "first") (.cons (.str "last") .nil)))) (.seq (.ret (.band (.var 5) (.one (.cmp .eq (.lenS (.var 2)) (.int 2)))))
    .skip) .skip)
    (.seq (.ifS (.bor (.band (.cmp .isin (.var 1) (.tup (.cons (.str "sum") (.cons (.str "mean") .nil)))) (.one (.cmp .eq (.var 4) (.str "text")))) (.one (.band (.cmp .eq (.var 1) (.str "joined")) (.one (.cmp .eq (.var 4) (.str "number")))))) (.seq (.ret (.bl false))
    .skip) .skip)
    (.seq (.ifS (.cmp .eq (.lenS (.var 2)) (.int 1)) (.seq (.ret (.bl true))
    .skip) .skip)
    (.seq (.asg (.nm 3) (.band (.cmp .eq (.lenS (.var 2)) (.int 2)) (.band (.isi (.idx (.var 2) (.int 1)) [.str]) (.one (.cmp .eq (.idx (.var 2) (.int 1)) (.str "unlike"))))))
    (.seq (.ret (.band (.var 3) (.one (.cmp .isin (.var 1) (.tup (.cons (.str "count") (.cons (.str "sum") (.cons (.str "mean") (.cons (.str "joined") .nil)))))))))
    .skip))))))))
def fn_fits : Fn := ⟨3, 6, ir_fits⟩
/-- 144 -/
def ir_is_deed : IR :=
    .seq (.ifS (.bor (.bnot (.isi (.var 1) [.tuple])) (.bor (.cmp .ne (.lenS (.var 1)) (.int 2)) (.one (.bnot (.isi (.idx (.var 1) (.int 0)) [.str]))))) (.seq (.ret (.bl false))
    .skip) .skip)
    (.seq (.ifS (.bnot (.isi (.idx (.var 1) (.int 1)) [.tuple])) (.seq (.ret (.bl false))
    .skip) .skip)
    (.seq (.ifS (.band (.cmp .isin (.idx (.var 1) (.int 0)) (.tup (.cons (.str "row") (.cons (.str "rank") (.cons (.str "dense") (.cons (.str "percent") (.cons (.str "share") (.cons (.str "count") .nil)))))))) (.one (.cmp .eq (.idx (.var 1) (.int 1)) (.tup .nil)))) (.seq (.ret (.bl true))
    .skip) .skip)
    (.seq (.ifS (.cmp .eq (.idx (.var 1) (.int 0)) (.str "tile")) (.seq (.ret (.band (.cmp .eq (.lenS (.idx (.var 1) (.int 1))) (.int 1)) (.one (.call 141 (.cons (.int 1) (.cons (.idx (.idx (.var 1) (.int 1)) (.int 0)) .nil))))))
    .skip) .skip)
    (.seq (.asg (.nm 2) (.tup (.cons (.str "earlier") (.cons (.str "later") (.cons (.str "first") (.cons (.str "last") (.cons (.str "nth") (.cons (.str "count") (.cons (.str "sum") (.cons (.str "mean") (.cons (.str "least") (.cons (.str "most") (.cons (.str "joined") .nil)))))))))))))
    (.seq (.ret (.band (.cmp .isin (.idx (.var 1) (.int 0)) (.var 2)) (.one (.call 143 (.cons (.var 0) (.cons (.idx (.var 1) (.int 0)) (.cons (.idx (.var 1) (.int 1)) .nil)))))))
    .skip)))))
def fn_is_deed : Fn := ⟨2, 3, ir_is_deed⟩
/-- 145 -/
def ir_matters_3 : IR :=
    .seq (.par [(7, false), (5, true)] (.cons (.idx (.idx (.var 1) (.int 0)) (.int 0)) (.cons (.lst (.cons (.var 2) (.cons (.bi .list (.cons (.var 2) .nil)) (.cons (.tup (.cons (.idx (.var 2) (.int 0)) (.cons (.bi .list (.cons (.idx (.var 2) (.int 1)) .nil)) .nil))) (.cons (.idx (.var 2) (.int 1)) (.cons (.tup .nil) (.cons .non (.cons (.int 0) (.cons (.idx (.var 2) (.int 0)) (.cons (.op .add (.var 2) (.tup (.cons (.tup .nil) .nil))) .nil)))))))))) .nil)))
    (.seq (.asg (.nm 3) (.lst (.cons (.tup .nil) (.cons (.tup (.cons (.int 1) .nil)) (.cons (.tup (.cons (.var 7) .nil)) (.cons (.tup (.cons (.var 7) (.cons (.str "unlike") .nil))) (.cons (.tup (.cons (.var 7) (.cons (.str "passed") .nil))) (.cons (.tup (.cons (.var 7) (.cons (.int 1) (.cons (.str "counted") .nil)))) (.cons (.tup (.cons (.var 7) (.cons (.int 1) (.cons .non (.cons (.str "passed") .nil))))) .nil)))))))))
    (.seq (.forS (.nm 4) .seq (.var 3) .nil (.seq (.forS (.nm 8) .seq (.tup (.cons (.str "row") (.cons (.str "tile") (.cons (.str "nth") (.cons (.str "earlier") (.cons (.str "last") (.cons (.str "count") (.cons (.str "mean") (.cons (.str "joined") (.cons (.str "least") (.cons (.str "median") .nil))))))))))) .nil (.seq (.expr (.mu .append 5 (.cons (.tup (.cons (.var 8) (.cons (.var 4) .nil))) .nil)))
    .skip))
    .skip))
    (.seq (.asgO 5 (.op .add (.var 5) (.lst (.cons (.tup (.cons (.str "tile") (.cons (.tup (.cons (.int 0) .nil)) .nil))) (.cons (.tup (.cons (.str "tile") (.cons (.tup (.cons (.bl true) .nil)) .nil))) (.cons (.tup (.cons (.str "nth") (.cons (.tup (.cons (.var 7) (.cons (.int 0) (.cons (.str "passed") .nil)))) .nil))) (.cons (.tup (.cons (.str "nth") (.cons (.tup (.cons (.var 7) (.cons (.bl true) (.cons (.str "passed") .nil)))) .nil))) .nil)))))))
    (.seq (.asgO 5 (.op .add (.var 5) (.lst (.cons (.tup (.cons (.str "later") (.cons (.tup (.cons (.var 7) (.cons (.int 0) (.cons (.str "1") (.cons (.str "counted") .nil))))) .nil))) (.cons (.tup (.cons (.str "later") (.cons (.tup (.cons (.var 7) (.cons (.int 0) (.cons (.bl true) (.cons (.str "counted") .nil))))) .nil))) (.cons (.tup (.cons (.str "Count") (.cons (.tup .nil) .nil))) .nil))))))
    (.seq (.asgO 5 (.op .add (.var 5) (.lst (.cons (.tup (.cons (.str "later") (.cons (.tup (.cons (.var 7) (.cons (.neg (.int 1)) (.cons (.int 1) (.cons (.str "counted") .nil))))) .nil))) (.cons (.tup (.cons (.str "later") (.cons (.tup (.cons (.var 7) (.cons (.int 0) (.cons (.int 1) (.cons (.str "skipped") .nil))))) .nil))) (.cons (.tup (.cons (.str "sum") (.cons (.tup (.cons (.var 7) (.cons (.str "Unlike") .nil))) .nil))) .nil))))))
    (.seq (.asgO 5 (.op .add (.var 5) (.lst (.cons (.tup (.cons (.str "first") (.cons (.tup (.cons (.var 7) (.cons .non .nil))) .nil))) (.cons (.tup (.cons (.str "first") (.cons (.tup (.cons (.var 7) (.cons (.bl true) .nil))) .nil))) (.cons (.tup (.cons (.str "sum") (.cons (.tup (.cons (.int 0) .nil)) .nil))) (.cons (.tup (.cons (.str "count") (.cons (.tup (.cons (.var 7) (.cons (.var 7) .nil))) .nil))) .nil)))))))
    (.seq (.forS (.nm 6) .rng (.int 14) .nil (.seq (.expr (.mu .append 5 (.cons (.call 138 (.cons (.var 0) (.cons (.var 2) .nil))) .nil)))
    .skip))
    (.seq (.ret (.frz 5))
    .skip))))))))
def fn_matters_3 : Fn := ⟨3, 9, ir_matters_3⟩
/-- 146 -/
def ir_right_12 : IR :=
    .seq (.asg (.nm 1) (.call 139 (.cons (.var 0) (.cons (.int 6) .nil))))
    (.seq (.forS (.nm 2) .rng (.int 4) .nil (.seq (.asg (.nm 3) (.call 140 (.cons (.var 0) (.cons (.var 1) .nil))))
    (.seq (.forS (.nm 4) .seq (.call 145 (.cons (.var 0) (.cons (.var 1) (.cons (.var 3) .nil)))) .nil (.seq (.par [(6, false), (7, false)] (.cons (.bi .repr (.cons (.var 4) .nil)) (.cons (.call 144 (.cons (.var 1) (.cons (.var 4) .nil))) .nil)))
    (.seq (.asg (.nm 5) (.lst (.cons (.call 135 (.cons (.var 1) (.cons (.var 4) .nil))) (.cons (.callK 12 (.cons (.var 4) (.cons (.call 92 (.cons (.var 0) (.cons (.var 1) .nil))) .nil))) .nil))))
    (.seq (.ifS (.bor (.bnot (.call 15 (.cons (.var 5) (.cons (.lst (.cons (.var 7) (.cons (.var 7) .nil))) .nil)))) (.one (.cmp .ne (.bi .repr (.cons (.var 4) .nil)) (.var 6)))) (.seq (.ret (.bl false))
    .skip) .skip)
    (.seq (.ifS (.band (.var 7) (.one (.cmp .notin (.op .pow (.int 10) (.int 30)) (.idx (.var 4) (.int 1))))) (.seq (.asg (.tp (.cons (.nm 11) (.cons (.nm 12) .nil))) (.var 4))
    (.seq (.asg (.nm 8) (.cmp .isin (.var 11) (.tup (.cons (.str "earlier") (.cons (.str "later") (.cons (.str "first") (.cons (.str "last") (.cons (.str "nth") (.cons (.str "least") (.cons (.str "most") .nil))))))))))
    (.seq (.asg (.nm 9) (.ife (.var 8) (.dget (.var 1) (.idx (.var 12) (.int 0))) (.ife (.cmp .eq (.var 11) (.str "joined")) (.str "text") (.str "number"))))
    (.seq (.asg (.nm 5) (.lst (.cons (.call 136 (.cons (.var 1) (.cons (.var 4) .nil))) (.cons (.callK 13 (.cons (.call 92 (.cons (.var 0) (.cons (.var 4) .nil))) (.cons (.call 92 (.cons (.var 0) (.cons (.var 1) .nil))) .nil))) .nil))))
    (.seq (.asg (.nm 10) (.cmp .isin (.var 11) (.tup (.cons (.str "first") (.cons (.str "last") (.cons (.str "nth") (.cons (.str "count") (.cons (.str "sum") (.cons (.str "mean") (.cons (.str "least") (.cons (.str "most") (.cons (.str "joined") .nil))))))))))))
    (.seq (.asg (.nm 5) (.op .add (.var 5) (.lst (.cons (.call 137 (.cons (.var 11) .nil)) (.cons (.callK 14 (.cons (.var 11) .nil)) .nil)))))
    (.seq (.ifS (.bnot (.call 15 (.cons (.var 5) (.cons (.op .add (.op .mul (.lst (.cons (.var 9) .nil)) (.int 2)) (.op .mul (.lst (.cons (.var 10) .nil)) (.int 2))) .nil)))) (.seq (.ret (.bl false))
    .skip) .skip)
    .skip))))))) .skip)
    .skip)))))
    .skip)))
    (.seq (.ret (.bl true))
    .skip))
def fn_right_12 : Fn := ⟨1, 13, ir_right_12⟩
/-- 147 -/
def ir_law_12 : IR :=
    .seq (.forS (.nm 1) .rng (.op .add (.int 1) (.bi .min2 (.cons (.int 3) (.cons (.lenS (.var 0)) .nil)))) .nil (.seq (.asgO 2 (.call 63 (.cons (.var 0) (.cons (.var 1) .nil))))
    (.seq (.ifS (.bnot (.bi .all (.cons (.comp [3] (.nm 3) .rng (.int 2) .nil .nil (.call 146 (.cons (.var 2) .nil))) .nil))) (.seq (.ret (.bl false))
    .skip) .skip)
    .skip)))
    (.seq (.ret (.bl true))
    .skip)
def fn_law_12 : Fn := ⟨1, 4, ir_law_12⟩
/-- 148 -/
def ir_is_bound_2 : IR :=
    .seq (.ifS (.bor (.bnot (.isi (.var 0) [.tuple])) (.one (.cmp .eq (.lenS (.var 0)) (.int 0)))) (.seq (.ret (.bl false))
    .skip) .skip)
    (.seq (.ifS (.cmp .eq (.lenS (.var 0)) (.int 1)) (.seq (.ret (.call 72 (.cons (.idx (.var 0) (.int 0)) (.cons (.glob 23) .nil))))
    .skip) .skip)
    (.seq (.ret (.band (.cmp .eq (.lenS (.var 0)) (.glob 46)) (.band (.call 72 (.cons (.idx (.var 0) (.int 0)) (.cons (.glob 25) .nil))) (.band (.call 70 (.cons (.idx (.var 0) (.int 1)) .nil)) (.one (.cmp .ge (.idx (.var 0) (.int 1)) (.int 0)))))))
    .skip))
def fn_is_bound_2 : Fn := ⟨1, 1, ir_is_bound_2⟩
/-- 149 -/
def ir_is_frame_2 : IR :=
    .seq (.ifS (.bor (.bnot (.isi (.var 0) [.tuple])) (.one (.cmp .ne (.lenS (.var 0)) (.glob 26)))) (.seq (.ret (.bl false))
    .skip) .skip)
    (.seq (.ifS (.bor (.bnot (.call 72 (.cons (.idx (.var 0) (.int 0)) (.cons (.glob 27) .nil)))) (.one (.bnot (.call 72 (.cons (.idx (.var 0) (.int 3)) (.cons (.glob 28) .nil)))))) (.seq (.ret (.bl false))
    .skip) .skip)
    (.seq (.ifS (.bor (.bnot (.call 148 (.cons (.idx (.var 0) (.int 1)) .nil))) (.one (.bnot (.call 148 (.cons (.idx (.var 0) (.int 2)) .nil))))) (.seq (.ret (.bl false))
    .skip) .skip)
    (.seq (.ret (.band (.cmp .ne (.idx (.idx (.var 0) (.int 1)) (.int 0)) (.glob 7)) (.one (.cmp .ne (.idx (.idx (.var 0) (.int 2)) (.int 0)) (.glob 3)))))
    .skip)))
def fn_is_frame_2 : Fn := ⟨1, 1, ir_is_frame_2⟩
/-- 150 -/
def ir_is_order_item : IR :=
    .seq (.ifS (.bor (.bnot (.isi (.var 1) [.tuple])) (.bor (.cmp .ne (.lenS (.var 1)) (.glob 47)) (.one (.bnot (.bi .all (.cons (.comp [2] (.nm 2) .seq (.var 1) .nil .nil (.isi (.var 2) [.str])) .nil)))))) (.seq (.ret (.bl false))
    .skip) .skip)
    (.seq (.ret (.band (.cmp .isin (.idx (.var 1) (.int 0)) (.comp [3, 4] (.tp (.cons (.nm 3) (.cons (.nm 4) .nil))) .seq (.var 0) .nil .nil (.var 3))) (.band (.cmp .isin (.idx (.var 1) (.int 1)) (.tup (.cons (.glob 2) (.cons (.glob 48) .nil)))) (.one (.cmp .isin (.idx (.var 1) (.int 2)) (.tup (.cons (.glob 49) (.cons (.glob 50) .nil))))))))
    .skip)
def fn_is_order_item : Fn := ⟨2, 5, ir_is_order_item⟩
/-- 151 -/
def ir_is_order : IR :=
    .seq (.ret (.band (.isi (.var 1) [.tuple]) (.one (.bi .all (.cons (.comp [2] (.nm 2) .seq (.var 1) .nil .nil (.call 150 (.cons (.var 0) (.cons (.var 2) .nil)))) .nil)))))
    .skip
def fn_is_order : Fn := ⟨2, 3, ir_is_order⟩
/-- 152 -/
def ir_are_parts : IR :=
    .seq (.ifS (.bor (.bnot (.isi (.var 1) [.tuple])) (.one (.bnot (.bi .all (.cons (.comp [5] (.nm 5) .seq (.var 1) .nil .nil (.isi (.var 5) [.str])) .nil))))) (.seq (.ret (.bl false))
    .skip) .skip)
    (.seq (.asg (.nm 2) (.comp [3, 4] (.tp (.cons (.nm 3) (.cons (.nm 4) .nil))) .seq (.var 0) .nil .nil (.var 3)))
    (.seq (.ret (.band (.bi .all (.cons (.comp [5] (.nm 5) .seq (.var 1) .nil .nil (.cmp .isin (.var 5) (.var 2))) .nil)) (.one (.cmp .eq (.lset (.var 1)) (.lenS (.var 1))))))
    .skip))
def fn_are_parts : Fn := ⟨2, 6, ir_are_parts⟩
/-- 153 -/
def ir_is_window : IR :=
    .seq (.ifS (.bor (.bnot (.isi (.var 1) [.tuple])) (.bor (.cmp .ne (.lenS (.var 1)) (.glob 51)) (.one (.bnot (.call 152 (.cons (.var 0) (.cons (.idx (.var 1) (.int 0)) .nil))))))) (.seq (.ret (.bl false))
    .skip) .skip)
    (.seq (.ifS (.bor (.bnot (.call 151 (.cons (.var 0) (.cons (.idx (.var 1) (.int 1)) .nil)))) (.one (.bnot (.call 149 (.cons (.idx (.var 1) (.int 2)) .nil))))) (.seq (.ret (.bl false))
    .skip) .skip)
    (.seq (.ret (.call 77 (.cons (.idx (.var 1) (.int 2)) (.cons (.idx (.var 1) (.int 1)) (.cons (.var 0) .nil)))))
    .skip))
def fn_is_window : Fn := ⟨2, 2, ir_is_window⟩
/-- 154 -/
def ir_is_figure : IR :=
    .seq (.ifS (.bor (.bnot (.isi (.var 1) [.tuple])) (.bor (.cmp .ne (.lenS (.var 1)) (.glob 52)) (.one (.bnot (.call 96 (.cons (.idx (.var 1) (.int 0)) .nil)))))) (.seq (.ret (.bl false))
    .skip) .skip)
    (.seq (.ifS (.bor (.bnot (.call 135 (.cons (.var 0) (.cons (.tup (.cons (.idx (.var 1) (.int 1)) (.cons (.idx (.var 1) (.int 2)) .nil))) .nil)))) (.one (.bnot (.call 153 (.cons (.var 0) (.cons (.idx (.var 1) (.int 4)) .nil)))))) (.seq (.ret (.bl false))
    .skip) .skip)
    (.seq (.ret (.bor (.isn false (.idx (.var 1) (.int 3))) (.one (.band (.cmp .isin (.idx (.var 1) (.int 1)) (.glob 44)) (.one (.call 121 (.cons (.var 0) (.cons (.idx (.var 1) (.int 3)) .nil))))))))
    .skip))
def fn_is_figure : Fn := ⟨2, 2, ir_is_figure⟩
/-- 155 -/
def ir_bound : IR :=
    .seq (.asg (.nm 2) (.lst (.cons (.tup (.cons (.var 1) .nil)) (.cons (.tup (.cons (.str "here") .nil)) (.cons (.tup (.cons (.str "before") (.cons (.call 13 (.cons (.var 0) (.cons (.int 4) .nil))) .nil))) (.cons (.tup (.cons (.str "after") (.cons (.call 13 (.cons (.var 0) (.cons (.int 4) .nil))) .nil))) .nil))))))
    (.seq (.ret (.call 14 (.cons (.var 0) (.cons (.var 2) .nil))))
    .skip)
def fn_bound : Fn := ⟨2, 3, ir_bound⟩
/-- 156 -/
def ir_window : IR :=
    .seq (.asg (.nm 2) (.bi .tuple (.cons (.slc (.comp [10, 11] (.tp (.cons (.nm 10) (.cons (.nm 11) .nil))) .seq (.var 1) .nil (.cmp .eq (.call 13 (.cons (.var 0) (.cons (.int 4) .nil))) (.int 0)) (.var 10)) .nil (.int 3)) .nil)))
    (.seq (.asg (.nm 3) (.call 81 (.cons (.var 0) (.cons (.var 1) (.cons (.int 3) .nil)))))
    (.seq (.par [(8, false), (9, false)] (.cons (.call 155 (.cons (.var 0) (.cons (.str "start") .nil))) (.cons (.call 155 (.cons (.var 0) (.cons (.str "end") .nil))) .nil)))
    (.seq (.asg (.nm 4) (.call 14 (.cons (.var 0) (.cons (.lst (.cons (.str "rows") (.cons (.str "range") (.cons (.str "groups") .nil)))) .nil))))
    (.seq (.asg (.nm 5) (.call 14 (.cons (.var 0) (.cons (.lst (.cons (.str "nobody") (.cons (.str "nobody") (.cons (.str "row") (.cons (.str "group") (.cons (.str "ties") .nil)))))) .nil))))
    (.seq (.asg (.nm 6) (.bor (.cmp .isin (.str "before") (.tup (.cons (.idx (.var 8) (.int 0)) (.cons (.idx (.var 9) (.int 0)) .nil)))) (.one (.cmp .isin (.str "after") (.tup (.cons (.idx (.var 8) (.int 0)) (.cons (.idx (.var 9) (.int 0)) .nil)))))))
    (.seq (.asg (.nm 7) (.band (.cmp .eq (.lenS (.var 3)) (.int 1)) (.one (.cmp .eq (.dget (.var 1) (.idx (.idx (.var 3) (.int 0)) (.int 0))) (.str "number")))))
    (.seq (.ifS (.band (.cmp .eq (.var 4) (.str "range")) (.band (.var 6) (.one (.bnot (.var 7))))) (.seq (.asg (.nm 4) (.str "groups"))
    .skip) .skip)
    (.seq (.ret (.tup (.cons (.var 2) (.cons (.var 3) (.cons (.tup (.cons (.var 4) (.cons (.var 8) (.cons (.var 9) (.cons (.var 5) .nil))))) .nil)))))
    .skip))))))))
def fn_window : Fn := ⟨2, 12, ir_window⟩
/-- 157 -/
def ir_call : IR :=
    .seq (.asg (.tp (.cons (.nm 2) (.cons (.nm 3) .nil))) (.call 14 (.cons (.var 0) (.cons (.var 1) .nil))))
    (.seq (.par [(4, false), (5, false), (6, false)] (.cons (.call 13 (.cons (.var 0) (.cons (.int 9) .nil))) (.cons (.call 14 (.cons (.var 0) (.cons (.lst (.cons (.str "counted") (.cons (.str "passed") .nil))) .nil))) (.cons (.call 13 (.cons (.var 0) (.cons (.int 4) .nil))) .nil))))
    (.seq (.ifS (.cmp .lt (.var 4) (.int 2)) (.seq (.asg (.nm 7) (.lst (.cons (.tup (.cons (.str "row") (.cons (.tup .nil) .nil))) (.cons (.tup (.cons (.str "rank") (.cons (.tup .nil) .nil))) (.cons (.tup (.cons (.str "dense") (.cons (.tup .nil) .nil))) (.cons (.tup (.cons (.str "percent") (.cons (.tup .nil) .nil))) (.cons (.tup (.cons (.str "share") (.cons (.tup .nil) .nil))) (.cons (.tup (.cons (.str "tile") (.cons (.tup (.cons (.op .add (.var 6) (.int 1)) .nil)) .nil))) .nil))))))))
    (.seq (.ret (.call 14 (.cons (.var 0) (.cons (.var 7) .nil))))
    .skip)) .skip)
    (.seq (.ifS (.cmp .lt (.var 4) (.int 4)) (.seq (.asg (.nm 8) (.lst (.cons (.tup (.cons (.str "earlier") (.cons (.tup (.cons (.var 2) (.cons (.var 6) (.cons (.call 104 (.cons (.var 0) (.cons (.var 3) (.cons (.int 0) .nil)))) (.cons (.var 5) .nil))))) .nil))) (.cons (.tup (.cons (.str "later") (.cons (.tup (.cons (.var 2) (.cons (.var 6) (.cons .non (.cons (.var 5) .nil))))) .nil))) .nil))))
    (.seq (.ret (.call 14 (.cons (.var 0) (.cons (.op .add (.var 8) (.lst (.cons (.tup (.cons (.str "first") (.cons (.tup (.cons (.var 2) (.cons (.var 5) .nil))) .nil))) (.cons (.tup (.cons (.str "last") (.cons (.tup (.cons (.var 2) (.cons (.var 5) .nil))) .nil))) (.cons (.tup (.cons (.str "nth") (.cons (.tup (.cons (.var 2) (.cons (.op .add (.var 6) (.int 1)) (.cons (.var 5) .nil)))) .nil))) .nil))))) .nil))))
    .skip)) .skip)
    (.seq (.ifS (.cmp .lt (.var 4) (.int 5)) (.seq (.ret (.call 14 (.cons (.var 0) (.cons (.lst (.cons (.tup (.cons (.str "count") (.cons (.tup .nil) .nil))) (.cons (.tup (.cons (.str "count") (.cons (.tup (.cons (.var 2) .nil)) .nil))) (.cons (.tup (.cons (.str "count") (.cons (.tup (.cons (.var 2) (.cons (.str "unlike") .nil))) .nil))) .nil)))) .nil))))
    .skip) .skip)
    (.seq (.ifS (.band (.cmp .lt (.var 4) (.int 7)) (.one (.cmp .eq (.var 3) (.str "number")))) (.seq (.ret (.tup (.cons (.call 14 (.cons (.var 0) (.cons (.lst (.cons (.str "sum") (.cons (.str "mean") .nil))) .nil))) (.cons (.call 14 (.cons (.var 0) (.cons (.lst (.cons (.tup (.cons (.var 2) .nil)) (.cons (.tup (.cons (.var 2) .nil)) (.cons (.tup (.cons (.var 2) (.cons (.str "unlike") .nil))) .nil)))) .nil))) .nil))))
    .skip) .skip)
    (.seq (.ifS (.cmp .lt (.var 4) (.int 7)) (.seq (.ret (.tup (.cons (.str "joined") (.cons (.call 14 (.cons (.var 0) (.cons (.lst (.cons (.tup (.cons (.var 2) .nil)) (.cons (.tup (.cons (.var 2) (.cons (.str "unlike") .nil))) .nil))) .nil))) .nil))))
    .skip) .skip)
    (.seq (.ret (.tup (.cons (.call 14 (.cons (.var 0) (.cons (.lst (.cons (.str "least") (.cons (.str "most") .nil))) .nil))) (.cons (.tup (.cons (.var 2) .nil)) .nil))))
    .skip)))))))
def fn_call : Fn := ⟨2, 9, ir_call⟩
/-- 158 -/
def ir_figure : IR :=
    .seq (.asg (.nm 3) (.call 157 (.cons (.var 0) (.cons (.var 1) .nil))))
    (.seq (.asg (.nm 4) (.cmp .isin (.idx (.var 3) (.int 0)) (.tup (.cons (.str "count") (.cons (.str "sum") (.cons (.str "mean") (.cons (.str "least") (.cons (.str "most") (.cons (.str "joined") .nil)))))))))
    (.seq (.asg (.nm 5) (.ife (.band (.var 4) (.one (.cmp .eq (.call 13 (.cons (.var 0) (.cons (.int 3) .nil))) (.int 0)))) (.call 123 (.cons (.var 0) (.cons (.var 1) (.cons (.int 1) .nil)))) .non))
    (.seq (.ret (.tup (.cons (.var 2) (.cons (.idx (.var 3) (.int 0)) (.cons (.idx (.var 3) (.int 1)) (.cons (.var 5) (.cons (.call 156 (.cons (.var 0) (.cons (.var 1) .nil))) .nil)))))))
    .skip)))
def fn_figure : Fn := ⟨3, 6, ir_figure⟩
/-- 159 -/
def ir_is_name_2 : IR :=
    .seq (.ifS (.bor (.bnot (.isi (.var 0) [.str])) (.one (.bnot (.chain .le .le (.int 1) (.lenS (.var 0)) (.int 8))))) (.seq (.ret (.bl false))
    .skip) .skip)
    (.seq (.ret (.bi .all (.cons (.comp [1] (.nm 1) .seq (.var 0) .nil .nil (.cmp .isin (.var 1) (.str "abcdefghijklmnopqrstuvwxyz"))) .nil)))
    .skip)
def fn_is_name_2 : Fn := ⟨1, 2, ir_is_name_2⟩
/-- 160 -/
def ir_has : IR :=
    .seq (.ret (.band (.isi (.var 1) [.str]) (.one (.cmp .isin (.var 1) (.comp [2, 3] (.tp (.cons (.nm 2) (.cons (.nm 3) .nil))) .seq (.var 0) .nil .nil (.var 2))))))
    .skip
def fn_has : Fn := ⟨2, 4, ir_has⟩
/-- 161 -/
def ir_is_nulls : IR :=
    .seq (.ret (.band (.isi (.var 0) [.str]) (.one (.cmp .isin (.var 0) (.tup (.cons (.str "counted") (.cons (.str "passed") .nil)))))))
    .skip
def fn_is_nulls : Fn := ⟨1, 1, ir_is_nulls⟩
/-- 162 -/
def ir_is_call_2 : IR :=
    .seq (.ifS (.bor (.bnot (.isi (.var 1) [.str])) (.one (.bnot (.isi (.var 2) [.tuple])))) (.seq (.ret (.bl false))
    .skip) .skip)
    (.seq (.ifS (.cmp .isin (.var 1) (.tup (.cons (.str "row") (.cons (.str "rank") (.cons (.str "dense") (.cons (.str "percent") (.cons (.str "share") .nil))))))) (.seq (.ret (.cmp .eq (.var 2) (.tup .nil)))
    .skip) .skip)
    (.seq (.ifS (.cmp .eq (.var 1) (.str "tile")) (.seq (.ret (.band (.cmp .eq (.lenS (.var 2)) (.int 1)) (.band (.call 106 (.cons (.idx (.var 2) (.int 0)) .nil)) (.one (.cmp .gt (.idx (.var 2) (.int 0)) (.int 0))))))
    .skip) .skip)
    (.seq (.ifS (.band (.cmp .eq (.var 1) (.str "count")) (.one (.cmp .eq (.var 2) (.tup .nil)))) (.seq (.ret (.bl true))
    .skip) .skip)
    (.seq (.ifS (.bor (.cmp .eq (.lenS (.var 2)) (.int 0)) (.one (.bnot (.call 160 (.cons (.var 0) (.cons (.idx (.var 2) (.int 0)) .nil)))))) (.seq (.ret (.bl false))
    .skip) .skip)
    (.seq (.asg (.nm 3) (.dget (.var 0) (.idx (.var 2) (.int 0))))
    (.seq (.ifS (.cmp .isin (.var 1) (.tup (.cons (.str "earlier") (.cons (.str "later") .nil)))) (.seq (.ifS (.bor (.cmp .ne (.lenS (.var 2)) (.int 4)) (.bor (.bnot (.call 106 (.cons (.idx (.var 2) (.int 1)) .nil))) (.bor (.cmp .lt (.idx (.var 2) (.int 1)) (.int 0)) (.one (.bnot (.call 161 (.cons (.idx (.var 2) (.int 3)) .nil))))))) (.seq (.ret (.bl false))
    .skip) .skip)
    (.seq (.ret (.bor (.isn false (.idx (.var 2) (.int 2))) (.one (.ife (.cmp .eq (.var 3) (.str "number")) (.call 106 (.cons (.idx (.var 2) (.int 2)) .nil)) (.isi (.idx (.var 2) (.int 2)) [.str])))))
    .skip)) .skip)
    (.seq (.ifS (.cmp .isin (.var 1) (.tup (.cons (.str "first") (.cons (.str "last") .nil)))) (.seq (.ret (.band (.cmp .eq (.lenS (.var 2)) (.int 2)) (.one (.call 161 (.cons (.idx (.var 2) (.int 1)) .nil)))))
    .skip) .skip)
    (.seq (.ifS (.cmp .eq (.var 1) (.str "nth")) (.seq (.ret (.band (.cmp .eq (.lenS (.var 2)) (.int 3)) (.band (.call 106 (.cons (.idx (.var 2) (.int 1)) .nil)) (.band (.cmp .gt (.idx (.var 2) (.int 1)) (.int 0)) (.one (.call 161 (.cons (.idx (.var 2) (.int 2)) .nil)))))))
    .skip) .skip)
    (.seq (.dicS 4 ["sum", "mean", "joined", "count", "least", "most"] (.cons (.str "number") (.cons (.str "number") (.cons (.str "text") (.cons (.var 3) (.cons (.var 3) (.cons (.var 3) .nil)))))))
    (.seq (.ifS (.bor (.din true 4 (.var 1)) (.bor (.cmp .ne (.dgi 4 (.var 1)) (.var 3)) (.one (.cmp .gt (.lenS (.var 2)) (.int 2))))) (.seq (.ret (.bl false))
    .skip) .skip)
    (.seq (.ret (.bor (.cmp .eq (.lenS (.var 2)) (.int 1)) (.one (.band (.cmp .notin (.var 1) (.tup (.cons (.str "least") (.cons (.str "most") .nil)))) (.band (.isi (.idx (.var 2) (.int 1)) [.str]) (.one (.cmp .eq (.idx (.var 2) (.int 1)) (.str "unlike"))))))))
    .skip)))))))))))
def fn_is_call_2 : Fn := ⟨3, 5, ir_is_call_2⟩
/-- 163 -/
def ir_is_order_2 : IR :=
    .seq (.ifS (.bnot (.isi (.var 1) [.tuple])) (.seq (.ret (.bl false))
    .skip) .skip)
    (.seq (.forS (.nm 2) .seq (.var 1) .nil (.seq (.ifS (.bor (.bnot (.isi (.var 2) [.tuple])) (.bor (.cmp .ne (.lenS (.var 2)) (.int 3)) (.one (.bnot (.call 160 (.cons (.var 0) (.cons (.idx (.var 2) (.int 0)) .nil))))))) (.seq (.ret (.bl false))
    .skip) .skip)
    (.seq (.ifS (.bor (.bnot (.isi (.idx (.var 2) (.int 1)) [.str])) (.one (.cmp .notin (.idx (.var 2) (.int 1)) (.tup (.cons (.str "up") (.cons (.str "down") .nil)))))) (.seq (.ret (.bl false))
    .skip) .skip)
    (.seq (.ifS (.bor (.bnot (.isi (.idx (.var 2) (.int 2)) [.str])) (.one (.cmp .notin (.idx (.var 2) (.int 2)) (.tup (.cons (.str "first") (.cons (.str "last") .nil)))))) (.seq (.ret (.bl false))
    .skip) .skip)
    .skip))))
    (.seq (.ret (.bl true))
    .skip))
def fn_is_order_2 : Fn := ⟨2, 3, ir_is_order_2⟩
/-- 164 -/
def ir_is_bound_3 : IR :=
    .seq (.ifS (.bor (.bnot (.isi (.var 0) [.tuple])) (.bor (.cmp .eq (.lenS (.var 0)) (.int 0)) (.one (.bnot (.isi (.idx (.var 0) (.int 0)) [.str]))))) (.seq (.ret (.bl false))
    .skip) .skip)
    (.seq (.ifS (.cmp .isin (.idx (.var 0) (.int 0)) (.var 1)) (.seq (.ret (.cmp .eq (.lenS (.var 0)) (.int 1)))
    .skip) .skip)
    (.seq (.ret (.band (.cmp .isin (.idx (.var 0) (.int 0)) (.tup (.cons (.str "before") (.cons (.str "after") .nil)))) (.band (.cmp .eq (.lenS (.var 0)) (.int 2)) (.band (.call 106 (.cons (.idx (.var 0) (.int 1)) .nil)) (.one (.cmp .ge (.idx (.var 0) (.int 1)) (.int 0)))))))
    .skip))
def fn_is_bound_3 : Fn := ⟨2, 2, ir_is_bound_3⟩
/-- 165 -/
def ir_is_window_2 : IR :=
    .seq (.ifS (.bor (.bnot (.isi (.var 1) [.tuple])) (.bor (.cmp .ne (.lenS (.var 1)) (.int 3)) (.one (.bnot (.isi (.idx (.var 1) (.int 0)) [.tuple]))))) (.seq (.ret (.bl false))
    .skip) .skip)
    (.seq (.ifS (.bor (.bnot (.bi .all (.cons (.comp [3] (.nm 3) .seq (.idx (.var 1) (.int 0)) .nil .nil (.call 160 (.cons (.var 0) (.cons (.var 3) .nil)))) .nil))) (.one (.cmp .ne (.lset (.idx (.var 1) (.int 0))) (.lenS (.idx (.var 1) (.int 0)))))) (.seq (.ret (.bl false))
    .skip) .skip)
    (.seq (.asg (.nm 2) (.idx (.var 1) (.int 2)))
    (.seq (.ifS (.bor (.bnot (.call 163 (.cons (.var 0) (.cons (.idx (.var 1) (.int 1)) .nil)))) (.bor (.bnot (.isi (.var 2) [.tuple])) (.one (.cmp .ne (.lenS (.var 2)) (.int 4))))) (.seq (.ret (.bl false))
    .skip) .skip)
    (.seq (.ifS (.bor (.bnot (.isi (.idx (.var 2) (.int 0)) [.str])) (.one (.cmp .notin (.idx (.var 2) (.int 0)) (.tup (.cons (.str "rows") (.cons (.str "range") (.cons (.str "groups") .nil))))))) (.seq (.ret (.bl false))
    .skip) .skip)
    (.seq (.ifS (.bor (.bnot (.isi (.idx (.var 2) (.int 3)) [.str])) (.one (.cmp .notin (.idx (.var 2) (.int 3)) (.tup (.cons (.str "nobody") (.cons (.str "row") (.cons (.str "group") (.cons (.str "ties") .nil)))))))) (.seq (.ret (.bl false))
    .skip) .skip)
    (.seq (.ifS (.bor (.bnot (.call 164 (.cons (.idx (.var 2) (.int 1)) (.cons (.tup (.cons (.str "start") (.cons (.str "here") .nil))) .nil)))) (.one (.bnot (.call 164 (.cons (.idx (.var 2) (.int 2)) (.cons (.tup (.cons (.str "here") (.cons (.str "end") .nil))) .nil)))))) (.seq (.ret (.bl false))
    .skip) .skip)
    (.seq (.ifS (.bor (.cmp .ne (.idx (.var 2) (.int 0)) (.str "range")) (.one (.cmp .eq (.op .add (.lenS (.idx (.var 2) (.int 1))) (.lenS (.idx (.var 2) (.int 2)))) (.int 2)))) (.seq (.ret (.bl true))
    .skip) .skip)
    (.seq (.ret (.band (.cmp .eq (.lenS (.idx (.var 1) (.int 1))) (.int 1)) (.one (.cmp .eq (.dget (.var 0) (.idx (.idx (.idx (.var 1) (.int 1)) (.int 0)) (.int 0))) (.str "number")))))
    .skip))))))))
def fn_is_window_2 : Fn := ⟨2, 4, ir_is_window_2⟩
/-- 166 -/
def ir_is_figure_2 : IR :=
    .seq (.ifS (.bor (.bnot (.isi (.var 1) [.tuple])) (.bor (.cmp .ne (.lenS (.var 1)) (.int 5)) (.one (.bnot (.call 159 (.cons (.idx (.var 1) (.int 0)) .nil)))))) (.seq (.ret (.bl false))
    .skip) .skip)
    (.seq (.ifS (.bor (.bnot (.call 162 (.cons (.var 0) (.cons (.idx (.var 1) (.int 1)) (.cons (.idx (.var 1) (.int 2)) .nil))))) (.one (.bnot (.call 165 (.cons (.var 0) (.cons (.idx (.var 1) (.int 4)) .nil)))))) (.seq (.ret (.bl false))
    .skip) .skip)
    (.seq (.asg (.nm 2) (.cmp .isin (.idx (.var 1) (.int 1)) (.tup (.cons (.str "count") (.cons (.str "sum") (.cons (.str "mean") (.cons (.str "least") (.cons (.str "most") (.cons (.str "joined") .nil)))))))))
    (.seq (.ret (.bor (.isn false (.idx (.var 1) (.int 3))) (.one (.band (.var 2) (.one (.call 125 (.cons (.var 0) (.cons (.idx (.var 1) (.int 3)) .nil))))))))
    .skip)))
def fn_is_figure_2 : Fn := ⟨2, 3, ir_is_figure_2⟩
/-- 167 -/
def ir_calls : IR :=
    .seq (.asg (.tp (.cons (.nm 3) (.cons (.nm 4) .nil))) (.call 14 (.cons (.var 0) (.cons (.var 1) .nil))))
    (.seq (.asgO 2 (.lst (.cons (.tup (.cons (.str "row") (.cons (.tup .nil) .nil))) (.cons (.tup (.cons (.str "rank") (.cons (.tup (.cons (.var 3) .nil)) .nil))) (.cons (.tup (.cons (.str "tile") (.cons (.tup .nil) .nil))) (.cons (.tup (.cons (.str "tile") (.cons (.tup (.cons (.int 0) .nil)) .nil))) (.cons (.tup (.cons (.str "tile") (.cons (.tup (.cons (.int 1) .nil)) .nil))) (.cons (.tup (.cons (.str "tile") (.cons (.tup (.cons (.bl true) .nil)) .nil))) .nil))))))))
    (.seq (.expr (.mu .append 2 (.cons (.tup (.cons (.str "tile") (.cons (.tup (.cons (.neg (.int 1)) .nil)) .nil))) .nil)))
    (.seq (.asgO 2 (.op .add (.var 2) (.lst (.cons (.tup (.cons (.str "earlier") (.cons (.tup (.cons (.var 3) (.cons (.int 0) (.cons .non (.cons (.str "counted") .nil))))) .nil))) (.cons (.tup (.cons (.str "earlier") (.cons (.tup (.cons (.var 3) (.cons (.neg (.int 1)) (.cons .non (.cons (.str "counted") .nil))))) .nil))) (.cons (.tup (.cons (.str "last") (.cons (.tup (.cons (.var 3) .nil)) .nil))) .nil))))))
    (.seq (.asgO 2 (.op .add (.var 2) (.lst (.cons (.tup (.cons (.str "later") (.cons (.tup (.cons (.var 3) (.cons (.int 2) (.cons (.int 3) (.cons (.str "passed") .nil))))) .nil))) (.cons (.tup (.cons (.str "later") (.cons (.tup (.cons (.var 3) (.cons (.int 2) (.cons (.str "") (.cons (.str "passed") .nil))))) .nil))) (.cons (.tup (.cons (.str "later") (.cons (.tup (.cons (.var 3) (.cons (.int 2) (.cons .non .nil)))) .nil))) .nil))))))
    (.seq (.asgO 2 (.op .add (.var 2) (.lst (.cons (.tup (.cons (.str "first") (.cons (.tup (.cons (.var 3) (.cons (.str "passed") .nil))) .nil))) (.cons (.tup (.cons (.str "first") (.cons (.tup (.cons (.var 3) (.cons (.int 1) (.cons (.str "passed") .nil)))) .nil))) (.cons (.tup (.cons (.str "nth") (.cons (.tup (.cons (.var 3) (.cons (.int 1) (.cons (.str "counted") .nil)))) .nil))) .nil))))))
    (.seq (.asgO 2 (.op .add (.var 2) (.lst (.cons (.tup (.cons (.str "nth") (.cons (.tup (.cons (.var 3) (.cons (.int 0) (.cons (.str "counted") .nil)))) .nil))) (.cons (.tup (.cons (.str "count") (.cons (.tup .nil) .nil))) (.cons (.tup (.cons (.str "count") (.cons (.tup (.cons (.var 3) .nil)) .nil))) (.cons (.tup (.cons (.str "count") (.cons (.tup (.cons (.var 3) (.cons (.str "unlike") .nil))) .nil))) .nil)))))))
    (.seq (.asgO 2 (.op .add (.var 2) (.lst (.cons (.tup (.cons (.str "sum") (.cons (.tup (.cons (.var 3) .nil)) .nil))) (.cons (.tup (.cons (.str "sum") (.cons (.tup .nil) .nil))) (.cons (.tup (.cons (.str "mean") (.cons (.tup (.cons (.var 3) (.cons (.str "unlike") .nil))) .nil))) (.cons (.tup (.cons (.str "joined") (.cons (.tup (.cons (.var 3) .nil)) .nil))) .nil)))))))
    (.seq (.asgO 2 (.op .add (.var 2) (.lst (.cons (.tup (.cons (.str "joined") (.cons (.tup (.cons (.var 3) (.cons (.str "like") .nil))) .nil))) .nil))))
    (.seq (.asgO 2 (.op .add (.var 2) (.lst (.cons (.tup (.cons (.str "least") (.cons (.tup (.cons (.var 3) (.cons (.str "unlike") .nil))) .nil))) (.cons (.tup (.cons (.str "most") (.cons (.tup (.cons (.var 3) .nil)) .nil))) (.cons (.tup (.cons (.str "most") (.cons (.tup (.cons (.str "zzzzzzzz") .nil)) .nil))) .nil))))))
    (.seq (.asgO 2 (.op .add (.var 2) (.lst (.cons (.tup (.cons (.str "median") (.cons (.tup (.cons (.var 3) .nil)) .nil))) (.cons (.tup (.cons .non (.cons (.tup .nil) .nil))) .nil)))))
    (.seq (.ret (.op .add (.var 2) (.lst (.cons (.tup (.cons (.str "sum") (.cons (.lst (.cons (.var 3) .nil)) .nil))) (.cons (.tup (.cons (.str "count") (.cons (.tup (.cons .non .nil)) .nil))) (.cons (.tup (.cons (.str "count") (.cons (.tup (.cons (.var 3) (.cons (.str "unlike") (.cons (.str "unlike") .nil)))) .nil))) (.cons (.tup (.cons (.str "share") (.cons (.tup (.cons (.int 1) .nil)) .nil))) .nil)))))))
    .skip)))))))))))
def fn_calls : Fn := ⟨2, 5, ir_calls⟩
/-- 168 -/
def ir_windows : IR :=
    .seq (.asg (.tp (.cons (.nm 3) (.cons (.nm 4) .nil))) (.call 14 (.cons (.var 0) (.cons (.var 1) .nil))))
    (.seq (.par [(5, false), (6, false)] (.cons (.tup (.cons (.var 3) (.cons (.str "up") (.cons (.str "last") .nil)))) (.cons (.tup (.cons (.str "rows") (.cons (.tup (.cons (.str "start") .nil)) (.cons (.tup (.cons (.str "here") .nil)) (.cons (.str "nobody") .nil))))) .nil)))
    (.seq (.asg (.nm 2) (.lst (.cons (.tup (.cons (.tup (.cons (.var 3) .nil)) (.cons (.tup (.cons (.var 5) .nil)) (.cons (.var 6) .nil)))) (.cons (.tup (.cons (.tup (.cons (.var 3) (.cons (.var 3) .nil))) (.cons (.tup .nil) (.cons (.var 6) .nil)))) (.cons (.tup (.cons (.tup .nil) (.cons (.tup (.cons (.var 5) (.cons (.var 5) .nil))) (.cons (.var 6) .nil)))) (.cons (.tup (.cons (.tup (.cons (.var 3) .nil)) (.cons (.var 5) (.cons (.var 6) .nil)))) .nil))))))
    (.seq (.asg (.nm 2) (.op .add (.var 2) (.lst (.cons (.tup (.cons (.tup .nil) (.cons (.tup .nil) (.cons (.tup (.cons (.str "range") (.cons (.tup (.cons (.str "before") (.cons (.int 1) .nil))) (.cons (.tup (.cons (.str "here") .nil)) (.cons (.str "nobody") .nil))))) .nil)))) .nil))))
    (.seq (.asg (.nm 2) (.op .add (.var 2) (.lst (.cons (.tup (.cons (.tup .nil) (.cons (.tup (.cons (.var 5) .nil)) (.cons (.tup (.cons (.str "range") (.cons (.tup (.cons (.str "here") .nil)) (.cons (.tup (.cons (.str "after") (.cons (.int 0) .nil))) (.cons (.str "row") .nil))))) .nil)))) .nil))))
    (.seq (.asg (.nm 2) (.op .add (.var 2) (.lst (.cons (.tup (.cons (.tup .nil) (.cons (.tup (.cons (.var 5) (.cons (.var 5) .nil))) (.cons (.tup (.cons (.str "range") (.cons (.tup (.cons (.str "before") (.cons (.int 1) .nil))) (.cons (.tup (.cons (.str "here") .nil)) (.cons (.str "ties") .nil))))) .nil)))) .nil))))
    (.seq (.asg (.nm 2) (.op .add (.var 2) (.lst (.cons (.tup (.cons (.tup .nil) (.cons (.tup .nil) (.cons (.tup (.cons (.str "rows") (.cons (.tup (.cons (.str "end") .nil)) (.cons (.tup (.cons (.str "end") .nil)) (.cons (.str "row") .nil))))) .nil)))) .nil))))
    (.seq (.asg (.nm 2) (.op .add (.var 2) (.lst (.cons (.tup (.cons (.tup .nil) (.cons (.tup .nil) (.cons (.tup (.cons (.str "rows") (.cons (.tup (.cons (.str "start") .nil)) (.cons (.tup (.cons (.str "start") .nil)) (.cons (.str "row") .nil))))) .nil)))) .nil))))
    (.seq (.asg (.nm 2) (.op .add (.var 2) (.lst (.cons (.tup (.cons (.tup .nil) (.cons (.tup .nil) (.cons (.tup (.cons (.str "rows") (.cons (.tup (.cons (.str "after") (.cons (.int 3) .nil))) (.cons (.tup (.cons (.str "before") (.cons (.int 2) .nil))) (.cons (.str "group") .nil))))) .nil)))) .nil))))
    (.seq (.asg (.nm 2) (.op .add (.var 2) (.lst (.cons (.tup (.cons (.tup .nil) (.cons (.tup .nil) (.cons (.tup (.cons (.str "groups") (.cons (.tup (.cons (.str "before") (.cons (.neg (.int 1)) .nil))) (.cons (.tup (.cons (.str "here") .nil)) (.cons (.str "row") .nil))))) .nil)))) .nil))))
    (.seq (.asg (.nm 2) (.op .add (.var 2) (.lst (.cons (.tup (.cons (.tup .nil) (.cons (.tup .nil) (.cons (.tup (.cons (.str "groups") (.cons (.tup (.cons (.str "before") .nil)) (.cons (.tup (.cons (.str "here") .nil)) (.cons (.str "row") .nil))))) .nil)))) .nil))))
    (.seq (.asg (.nm 2) (.op .add (.var 2) (.lst (.cons (.tup (.cons (.tup .nil) (.cons (.tup .nil) (.cons (.tup (.cons (.str "rows") (.cons (.tup (.cons (.str "here") (.cons (.int 1) .nil))) (.cons (.tup (.cons (.str "here") .nil)) (.cons (.str "row") .nil))))) .nil)))) (.cons (.tup (.cons (.tup .nil) (.cons (.tup .nil) (.cons (.tup (.cons (.str "rows") (.cons (.tup (.cons (.str "here") .nil)) (.cons (.tup (.cons (.str "end") .nil)) .nil)))) .nil)))) (.cons (.tup (.cons (.tup .nil) (.cons (.tup .nil) .nil))) .nil))))))
    (.seq (.asg (.nm 2) (.op .add (.var 2) (.lst (.cons (.tup (.cons (.tup .nil) (.cons (.tup (.cons (.tup (.cons (.var 3) (.cons (.str "up") .nil))) .nil)) (.cons (.var 6) .nil)))) (.cons (.tup (.cons (.tup .nil) (.cons (.tup (.cons (.tup (.cons (.var 3) (.cons (.str "up") (.cons (.str "none") .nil)))) .nil)) (.cons (.var 6) .nil)))) (.cons (.tup (.cons (.lst .nil) (.cons (.tup .nil) (.cons (.var 6) .nil)))) .nil))))))
    (.seq (.asg (.nm 2) (.op .add (.var 2) (.lst (.cons (.tup (.cons (.tup (.cons (.str "zzzzzzzz") .nil)) (.cons (.tup .nil) (.cons (.var 6) .nil)))) .nil))))
    (.seq (.asg (.nm 2) (.op .add (.var 2) (.lst (.cons (.tup (.cons (.tup .nil) (.cons (.tup .nil) (.cons (.lst (.cons (.str "rows") (.cons (.tup (.cons (.str "start") .nil)) (.cons (.tup (.cons (.str "here") .nil)) (.cons (.str "nobody") .nil))))) .nil)))) (.cons .non .nil)))))
    (.seq (.ret (.op .add (.var 2) (.lst (.cons (.tup (.cons (.tup .nil) (.cons (.tup .nil) (.cons (.tup (.cons (.str "row") (.cons (.tup (.cons (.str "start") .nil)) (.cons (.tup (.cons (.str "here") .nil)) (.cons (.str "nobody") .nil))))) .nil)))) .nil))))
    .skip)))))))))))))))
def fn_windows : Fn := ⟨2, 7, ir_windows⟩
/-- 169 -/
def ir_matters_4 : IR :=
    .seq (.par [(4, true), (5, true)] (.cons (.lst (.cons .non (.cons (.int 0) (.cons (.str "") (.cons (.lst .nil) (.cons (.tup .nil) (.cons (.str "row") .nil))))))) (.cons (.lst .nil) .nil)))
    (.seq (.forS (.nm 2) .rng (.int 3) .nil (.seq (.expr (.mu .append 5 (.cons (.call 158 (.cons (.var 0) (.cons (.var 1) (.cons (.call 78 (.cons (.var 0) .nil)) .nil)))) .nil)))
    .skip))
    (.seq (.forS (.nm 3) .seq (.frz 5) .nil (.seq (.asgO 4 (.op .add (.var 4) (.lst (.cons (.var 3) (.cons (.bi .list (.cons (.var 3) .nil)) (.cons (.slc (.var 3) .nil (.int 4)) (.cons (.op .add (.var 3) (.tup (.cons .non .nil))) (.cons (.op .add (.tup (.cons (.str "A") .nil)) (.slc (.var 3) (.int 1) .nil)) (.cons (.op .add (.tup (.cons (.str "") .nil)) (.slc (.var 3) (.int 1) .nil)) .nil)))))))))
    (.seq (.expr (.mu .append 4 (.cons (.op .add (.tup (.cons (.idx (.idx (.var 1) (.int 0)) (.int 0)) .nil)) (.slc (.var 3) (.int 1) .nil)) .nil)))
    (.seq (.expr (.mu .append 4 (.cons (.op .add (.op .add (.slc (.var 3) .nil (.int 3)) (.tup (.cons (.call 123 (.cons (.var 0) (.cons (.var 1) (.cons (.int 1) .nil)))) .nil))) (.slc (.var 3) (.int 4) .nil)) .nil)))
    (.seq (.asg (.nm 6) (.tup (.cons (.str "compare") (.cons (.tup (.cons (.str "column") (.cons (.idx (.idx (.var 1) (.int 0)) (.int 0)) .nil))) (.cons (.str "<") (.cons (.tup (.cons (.str "plain") (.cons (.tup (.cons (.int 1) (.cons (.int 2) .nil))) .nil))) .nil))))))
    (.seq (.asgO 4 (.op .add (.var 4) (.lst (.cons (.op .add (.op .add (.slc (.var 3) .nil (.int 3)) (.tup (.cons (.var 6) .nil))) (.slc (.var 3) (.int 4) .nil)) (.cons (.tup (.cons (.str "a") (.cons (.str "count") (.cons (.tup .nil) (.cons (.var 6) (.cons (.idx (.var 3) (.int 4)) .nil)))))) .nil)))))
    (.seq (.forS (.nm 7) .rng (.int 12) .nil (.seq (.asg (.nm 10) (.call 111 (.cons (.var 0) (.cons (.var 3) .nil))))
    (.seq (.expr (.mu .append 4 (.cons (.ife (.cmp .eq (.call 13 (.cons (.var 0) (.cons (.int 3) .nil))) (.int 0)) (.call 111 (.cons (.var 0) (.cons (.var 10) .nil))) (.var 10)) .nil)))
    .skip)))
    .skip)))))))
    (.seq (.forS (.tp (.cons (.nm 8) (.cons (.nm 9) .nil))) .seq (.call 167 (.cons (.var 0) (.cons (.var 1) .nil))) .nil (.seq (.expr (.mu .append 4 (.cons (.op .add (.op .add (.slc (.idx (.var 5) (.int 0)) .nil (.int 1)) (.tup (.cons (.var 8) (.cons (.var 9) (.cons .non .nil))))) (.slc (.idx (.var 5) (.int 0)) (.int 4) .nil)) .nil)))
    .skip))
    (.seq (.ret (.op .add (.var 4) (.comp [11] (.nm 11) .seq (.call 168 (.cons (.var 0) (.cons (.var 1) .nil))) .nil .nil (.tup (.cons (.str "a") (.cons (.str "row") (.cons (.tup .nil) (.cons .non (.cons (.var 11) .nil)))))))))
    .skip))))
def fn_matters_4 : Fn := ⟨2, 12, ir_matters_4⟩
/-- 170 -/
def ir_right_13 : IR :=
    .seq (.par [(2, false), (3, false)] (.cons (.call 80 (.cons (.var 0) (.cons (.int 6) .nil))) (.cons (.call 80 (.cons (.var 0) (.cons (.int 2) .nil))) .nil)))
    (.seq (.forS (.nm 1) .seq (.op .add (.call 169 (.cons (.var 0) (.cons (.var 2) .nil))) (.slc (.call 169 (.cons (.var 0) (.cons (.var 3) .nil))) .nil (.int 12))) .nil (.seq (.par [(5, false), (6, false), (7, false)] (.cons (.bi .repr (.cons (.var 1) .nil)) (.cons (.call 166 (.cons (.var 2) (.cons (.var 1) .nil))) (.cons (.call 166 (.cons (.var 3) (.cons (.var 1) .nil))) .nil))))
    (.seq (.asg (.nm 4) (.lst (.cons (.call 154 (.cons (.var 2) (.cons (.var 1) .nil))) (.cons (.callK 15 (.cons (.var 1) (.cons (.call 16 (.cons (.var 2) .nil)) .nil))) .nil))))
    (.seq (.ifS (.bor (.bnot (.call 15 (.cons (.op .add (.var 4) (.lst (.cons (.call 154 (.cons (.var 3) (.cons (.var 1) .nil))) .nil))) (.cons (.lst (.cons (.var 6) (.cons (.var 6) (.cons (.var 7) .nil)))) .nil)))) (.one (.cmp .ne (.bi .repr (.cons (.var 1) .nil)) (.var 5)))) (.seq (.ret (.bl false))
    .skip) .skip)
    .skip))))
    (.seq (.ret (.bl true))
    .skip))
def fn_right_13 : Fn := ⟨1, 8, ir_right_13⟩
/-- 171 -/
def ir_law_13 : IR :=
    .seq (.forS (.nm 1) .rng (.op .add (.int 1) (.bi .min2 (.cons (.int 3) (.cons (.lenS (.var 0)) .nil)))) .nil (.seq (.asgO 2 (.call 12 (.cons (.var 0) (.cons (.var 1) .nil))))
    (.seq (.ifS (.bnot (.bi .all (.cons (.comp [3] (.nm 3) .rng (.int 1) .nil .nil (.call 170 (.cons (.var 2) .nil))) .nil))) (.seq (.ret (.bl false))
    .skip) .skip)
    .skip)))
    (.seq (.ret (.bl true))
    .skip)
def fn_law_13 : Fn := ⟨1, 4, ir_law_13⟩
end Ov

set_option maxHeartbeats 0
namespace Ov.k02
open PySem PySem.Spec PyProof.Rows L2 Evl
def top (i : Nat) : Stmt := PySem.Challenge.pw_overrows_k02_conditions_or_not.main.body.getD i (.Pass ⟨0, 0, 0, 0⟩)
def d70 : FD := ⟨"is_number", defArgs (top 4), defBody (top 4), defScope (top 4), ["thing"], ["thing"], ir_is_number⟩
def d97 : FD := ⟨"is_pair", defArgs (top 5), defBody (top 5), defScope (top 5), ["thing"], ["thing"], ir_is_pair⟩
def d55 : FD := ⟨"common_divisor", defArgs (top 6), defBody (top 6), defScope (top 6), ["one", "other"], ["one", "other", "high", "low"], ir_common_divisor⟩
def d115 : FD := ⟨"is_fraction", defArgs (top 7), defBody (top 7), defScope (top 7), ["thing"], ["thing"], ir_is_fraction⟩
def d71 : FD := ⟨"index_of", defArgs (top 8), defBody (top 8), defScope (top 8), ["columns", "name"], ["columns", "name", "own", "kind"], ir_index_of⟩
def d116 : FD := ⟨"is_plain", defArgs (top 19), defBody (top 19), defScope (top 19), ["thing", "fractions"], ["thing", "fractions"], ir_is_plain⟩
def d117 : FD := ⟨"is_item", defArgs (top 20), defBody (top 20), defScope (top 20), ["columns", "thing", "fractions"], ["columns", "thing", "fractions", "name", "kind"], ir_is_item⟩
def d118 : FD := ⟨"item_kind", defArgs (top 21), defBody (top 21), defScope (top 21), ["columns", "item"], ["columns", "item"], ir_item_kind⟩
def d119 : FD := ⟨"is_compare", defArgs (top 22), defBody (top 22), defScope (top 22), ["columns", "thing", "fractions"], ["columns", "thing", "fractions", "kinds"], ir_is_compare⟩
def d120 : FD := ⟨"is_condition_of", defArgs (top 23), defBody (top 23), defScope (top 23), ["columns", "thing", "fractions"], ["columns", "thing", "fractions", "part"], ir_is_condition_of⟩
def d121 : FD := ⟨"is_condition", defArgs (top 24), defBody (top 24), defScope (top 24), ["columns", "thing"], ["columns", "thing"], ir_is_condition⟩
def d11 : FD := ⟨"_law_cell_at", defArgs (top 26), defBody (top 26), defScope (top 26), ["_law_script", "_law_k"], ["_law_script", "_law_k"], ir_cell_at⟩
def d12 : FD := ⟨"_law_box", defArgs (top 27), defBody (top 27), defScope (top 27), ["_law_script", "_law_k"], ["_law_script", "_law_k", "_law_cell"], ir_box⟩
def d13 : FD := ⟨"_law_take", defArgs (top 28), defBody (top 28), defScope (top 28), ["_law_box_here", "_law_below"], ["_law_box_here", "_law_below", "_law_once", "_law_twice", "_law_found"], ir_take⟩
def d14 : FD := ⟨"_law_of", defArgs (top 29), defBody (top 29), defScope (top 29), ["_law_box_here", "_law_some"], ["_law_box_here", "_law_some"], ir_of⟩
def d15 : FD := ⟨"_law_same", defArgs (top 30), defBody (top 30), defScope (top 30), ["_law_found", "_law_due"], ["_law_found", "_law_due", "_law_mine", "_law_its"], ir_same⟩
def d16 : FD := ⟨"_law_lists", defArgs (top 31), defBody (top 31), defScope (top 31), ["_law_matter"], ["_law_matter", "_law_bit"], ir_lists⟩
def d78 : FD := ⟨"_law_word", defArgs (top 32), defBody (top 32), defScope (top 32), ["_law_box_here"], ["_law_box_here", "_law_letters", "_law_k"], ir_word⟩
def d79 : FD := ⟨"_law_names", defArgs (top 33), defBody (top 33), defScope (top 33), ["_law_box_here", "_law_count", "_law_used"], ["_law_box_here", "_law_count", "_law_used", "_law_found", "_law_k", "_law_some", "_law_turn", "_law_letter", "_law_word_here"], ir_names⟩
def d80 : FD := ⟨"_law_columns", defArgs (top 34), defBody (top 34), defScope (top 34), ["_law_box_here", "_law_most"], ["_law_box_here", "_law_most", "_law_names_here", "_law_k", "_law_name"], ir_columns⟩
def d104 : FD := ⟨"_law_value", defArgs (top 35), defBody (top 35), defScope (top 35), ["_law_box_here", "_law_kind", "_law_wide"], ["_law_box_here", "_law_kind", "_law_wide"], ir_value_3⟩
def d122 : FD := ⟨"_law_compare", defArgs (top 36), defBody (top 36), defScope (top 36), ["_law_box_here", "_law_heads"], ["_law_box_here", "_law_heads", "_law_mates", "_law_pair_so", "_law_name", "_law_kind", "_law_own", "_law_its"], ir_compare⟩
def d123 : FD := ⟨"_law_condition", defArgs (top 37), defBody (top 37), defScope (top 37), ["_law_box_here", "_law_heads", "_law_deep"], ["_law_box_here", "_law_heads", "_law_deep", "_law_sort", "_law_word_here"], ir_condition⟩
def d106 : FD := ⟨"_law_is_int", defArgs (top 38), defBody (top 38), defScope (top 38), ["_law_matter"], ["_law_matter"], ir_is_int⟩
def d124 : FD := ⟨"_law_kind_of", defArgs (top 39), defBody (top 39), defScope (top 39), ["_law_heads", "_law_matter"], ["_law_heads", "_law_matter", "_law_found", "_law_name", "_law_kind"], ir_kind_of⟩
def d125 : FD := ⟨"_law_is_due", defArgs (top 40), defBody (top 40), defScope (top 40), ["_law_heads", "_law_matter"], ["_law_heads", "_law_matter", "_law_many", "_law_fine", "_law_one", "_law_other", "_law_part"], ir_is_due_2⟩
def d111 : FD := ⟨"_law_bent", defArgs (top 41), defBody (top 41), defScope (top 41), ["_law_box_here", "_law_part"], ["_law_box_here", "_law_part", "_law_way", "_law_odd", "_law_at", "_law_some"], ir_bent_2⟩
def d126 : FD := ⟨"_law_matters", defArgs (top 42), defBody (top 42), defScope (top 42), ["_law_box_here", "_law_heads", "_law_condition_here"], ["_law_box_here", "_law_heads", "_law_condition_here", "_law_odd", "_law_some", "_law_turn", "_law_name", "_law_kind", "_law_own", "_law_plain", "_law_bent_here"], ir_matters_2⟩
def d127 : FD := ⟨"_law_right", defArgs (top 43), defBody (top 43), defScope (top 43), ["_law_box_here"], ["_law_box_here", "_law_condition_here", "_law_matter", "_law_heads", "_law_others", "_law_told", "_law_before_so", "_law_due", "_law_its"], ir_right_11⟩
def d128 : FD := ⟨"law", defArgs (top 44), defBody (top 44), defScope (top 44), ["_law_script"], ["_law_script", "_law_k", "_law_box_here", "_law_turn"], ir_law_11⟩
def P : PD := ⟨[(70, d70), (97, d97), (55, d55), (115, d115), (71, d71), (116, d116), (117, d117), (118, d118), (119, d119), (120, d120), (121, d121), (11, d11), (12, d12), (13, d13), (14, d14), (15, d15), (16, d16), (78, d78), (79, d79), (80, d80), (104, d104), (122, d122), (123, d123), (106, d106), (124, d124), (125, d125), (111, d111), (126, d126), (127, d127), (128, d128)], [(24, "PAIR", .int 2), (34, "COLUMN", .str "column"), (35, "PLAIN", .str "plain"), (33, "TEXT", .str "text"), (30, "NUMBER", .str "number"), (36, "SIGNS", .tup [.str "=", .str "<>", .str "<", .str "<=", .str ">", .str ">="]), (37, "COMPARE", .str "compare"), (38, "NULL", .str "null")], ["isinstance", "bool", "int", "len", "tuple", "abs", "str", "all", "list", "zip", "range", "enumerate", "repr", "min"], 64, [(11, "is_condition", ["thing", "columns"], 121, [1, 0])], [(1, "SIZES", [("compare", .int 4), ("null", .int 2), ("not", .int 2), ("and", .int 3), ("or", .int 3)])]⟩
theorem ok : P.ok = true := by decide +kernel
theorem fa_cons {α : Type} {p : α → Prop} {a : α} {l : List α} (h : p a) (r : ∀ q ∈ l, p q) : ∀ q ∈ a :: l, p q := fun q hq => by
  rcases List.mem_cons.mp hq with e | e
  · rw [e]; exact h
  · exact r q e
theorem binds : ∀ q ∈ P.ds, BindOk q.2 :=
  (fa_cons (fun _ _ _ _ _ _ us hl => match us, hl with | [_], _ => rfl)
  (fa_cons (fun _ _ _ _ _ _ us hl => match us, hl with | [_], _ => rfl)
  (fa_cons (fun _ _ _ _ _ _ us hl => match us, hl with | [_, _], _ => rfl)
  (fa_cons (fun _ _ _ _ _ _ us hl => match us, hl with | [_], _ => rfl)
  (fa_cons (fun _ _ _ _ _ _ us hl => match us, hl with | [_, _], _ => rfl)
  (fa_cons (fun _ _ _ _ _ _ us hl => match us, hl with | [_, _], _ => rfl)
  (fa_cons (fun _ _ _ _ _ _ us hl => match us, hl with | [_, _, _], _ => rfl)
  (fa_cons (fun _ _ _ _ _ _ us hl => match us, hl with | [_, _], _ => rfl)
  (fa_cons (fun _ _ _ _ _ _ us hl => match us, hl with | [_, _, _], _ => rfl)
  (fa_cons (fun _ _ _ _ _ _ us hl => match us, hl with | [_, _, _], _ => rfl)
  (fa_cons (fun _ _ _ _ _ _ us hl => match us, hl with | [_, _], _ => rfl)
  (fa_cons (fun _ _ _ _ _ _ us hl => match us, hl with | [_, _], _ => rfl)
  (fa_cons (fun _ _ _ _ _ _ us hl => match us, hl with | [_, _], _ => rfl)
  (fa_cons (fun _ _ _ _ _ _ us hl => match us, hl with | [_, _], _ => rfl)
  (fa_cons (fun _ _ _ _ _ _ us hl => match us, hl with | [_, _], _ => rfl)
  (fa_cons (fun _ _ _ _ _ _ us hl => match us, hl with | [_, _], _ => rfl)
  (fa_cons (fun _ _ _ _ _ _ us hl => match us, hl with | [_], _ => rfl)
  (fa_cons (fun _ _ _ _ _ _ us hl => match us, hl with | [_], _ => rfl)
  (fa_cons (fun _ _ _ _ _ _ us hl => match us, hl with | [_, _, _], _ => rfl)
  (fa_cons (fun _ _ _ _ _ _ us hl => match us, hl with | [_, _], _ => rfl)
  (fa_cons (fun _ _ _ _ _ _ us hl => match us, hl with | [_, _, _], _ => rfl)
  (fa_cons (fun _ _ _ _ _ _ us hl => match us, hl with | [_, _], _ => rfl)
  (fa_cons (fun _ _ _ _ _ _ us hl => match us, hl with | [_, _, _], _ => rfl)
  (fa_cons (fun _ _ _ _ _ _ us hl => match us, hl with | [_], _ => rfl)
  (fa_cons (fun _ _ _ _ _ _ us hl => match us, hl with | [_, _], _ => rfl)
  (fa_cons (fun _ _ _ _ _ _ us hl => match us, hl with | [_, _], _ => rfl)
  (fa_cons (fun _ _ _ _ _ _ us hl => match us, hl with | [_, _], _ => rfl)
  (fa_cons (fun _ _ _ _ _ _ us hl => match us, hl with | [_, _, _], _ => rfl)
  (fa_cons (fun _ _ _ _ _ _ us hl => match us, hl with | [_], _ => rfl)
  (fa_cons (fun _ _ _ _ _ _ us hl => match us, hl with | [_], _ => rfl)
  (fun _ h => nomatch h)))))))))))))))))))))))))))))))
theorem shs : ∀ q ∈ P.sh, ShOk P q.2 :=
  (fa_cons ⟨d121, rfl, rfl, rfl, fun _ _ _ _ _ _ us hl => match us, hl with | [_, _], _ => rfl⟩
  (fun _ h => nomatch h))
end Ov.k02

set_option maxHeartbeats 4000000
namespace Ov
open PySem
/-! ### what an option gives -/
def W0 {α : Type} (o : Option α) (Q : α → Prop) : Prop := ∃ x, o = some x ∧ Q x
theorem W_some0 {α : Type} {x : α} {Q : α → Prop} : W0 (some x) Q = Q x := by
  apply propext; constructor
  · rintro ⟨y, h, q⟩; cases h; exact q
  · intro q; exact ⟨x, rfl, q⟩
theorem W_pure0 {α : Type} {x : α} {Q : α → Prop} : W0 (pure x) Q = Q x := W_some0
theorem W_none0 {α : Type} {Q : α → Prop} : W0 none Q = False := by
  apply propext; constructor
  · rintro ⟨y, h, q⟩; cases h
  · intro q; exact q.elim
theorem W_bind0 {α β : Type} {o : Option α} {f : α → Option β} {Q : β → Prop} : W0 (o >>= f) Q = W0 o (fun x => W0 (f x) Q) := by
  apply propext; constructor
  · rintro ⟨y, h, q⟩
    cases o with
    | none => cases h
    | some x => exact ⟨x, rfl, y, h, q⟩
  · rintro ⟨x, rfl, y, h, q⟩
    exact ⟨y, h, q⟩
theorem W_bind0' {α β : Type} {o : Option α} {f : α → Option β} {Q : β → Prop} : W0 (o.bind f) Q = W0 o (fun x => W0 (f x) Q) := W_bind0
theorem W_map0 {α β : Type} {o : Option α} {f : α → β} {Q : β → Prop} : W0 (o.map f) Q = W0 o (fun x => Q (f x)) := by
  cases o with
  | none => simp [W_none0]
  | some x => simp [W_some0]
theorem W_ite0 {α : Type} {c : Prop} [Decidable c] {a b : Option α} {Q : α → Prop} : W0 (if c then a else b) Q = if c then W0 a Q else W0 b Q := by
  split <;> rfl
theorem W_mono0 {α : Type} {o : Option α} {Q Q' : α → Prop} (h : W0 o Q) (i : ∀ x, Q x → Q' x) : W0 o Q' := by
  obtain ⟨x, h, q⟩ := h; exact ⟨x, h, i x q⟩
theorem W_of0 {α : Type} {o : Option α} {x : α} {Q : α → Prop} (h : o = some x) (q : Q x) : W0 o Q := ⟨x, h, q⟩
theorem W_eq0 {α : Type} {o : Option α} {x : α} (h : W0 o (fun y => y = x)) : o = some x := by
  obtain ⟨y, h, rfl⟩ := h; exact h
/-! ### a call -/
def Cf (T : Prg) (k : Nat) : Cfg := { cf := ev T k, gd := T.gd, sh := T.sh, dd := T.dd }
theorem ev_succ {T : Prg} {k f : Nat} {fn : Fn} {as : List EV} (h : T.fns f = some fn) : ev T (k + 1) f as = runFn (Cf T k) T.w fn as := by
  show (T.fns f >>= fun fn => runFn (Cf T k) T.w fn as) = _
  rw [h]; rfl
def outOf (np : Nat) : Out → Option (EV × List EV)
  | .ret v ρ => some (v, (ρ.take np).map fun o => o.getD (.d .non))
  | .nx ρ => some (.d .non, (ρ.take np).map fun o => o.getD (.d .non))
  | _ => none
theorem runFn_eq {G : Cfg} {w : Nat} {fn : Fn} {as : List EV} (h : as.length = fn.np) : runFn G w fn as = (evS G w fn.body (as.map some ++ List.replicate (fn.n - fn.np) none) >>= outOf fn.np) := by
  unfold runFn
  rw [if_pos h]
  rfl
/-- into a def -/
theorem W_call0 {T : Prg} {k f np n : Nat} {ir : IR} {as : List EV} {Q : EV × List EV → Prop} (h : T.fns f = some ⟨np, n, ir⟩) (hk : 1 ≤ k) (hl : as.length = np)
    (q : ∀ j, k = j + 1 → W0 (evS (Cf T j) T.w ir (as.map some ++ List.replicate (n - np) none)) (fun o => W0 (outOf np o) Q)) : W0 (ev T k f as) Q := by
  obtain ⟨j, rfl⟩ : ∃ j, k = j + 1 := ⟨k - 1, by omega⟩
  rw [ev_succ h, runFn_eq hl, W_bind0]
  exact q j rfl
theorem Cf_cf {T : Prg} {k : Nat} : (Cf T k).cf = ev T k := rfl
theorem Cf_gd {T : Prg} {k : Nat} : (Cf T k).gd = T.gd := rfl
theorem Cf_sh {T : Prg} {k : Nat} : (Cf T k).sh = T.sh := rfl
theorem Cf_dd {T : Prg} {k : Nat} : (Cf T k).dd = T.dd := (rfl)
/-! ### comprehensions -/
def turnC (G : Cfg) (p : Pat) (c e : IR) (x : D) (ρ : Slots) : Option (Option D × Slots) := do
  let ρa ← Pat.bind p x ρ
  let (b, ρb) ← (match c with
    | .nil => some (true, ρa)
    | c => do let (vc, ρ') ← evE G c ρa; let y ← vc.pure?; let q ← asBool y; pure (q, ρ'))
  if b then do
    let (vy, ρc) ← evE G e ρb
    let y ← vy.pure?
    pure (some y, ρc)
  else pure (none, ρb)
theorem compGo_inv {body : D → Slots → Option (Option D × Slots)} {I : Slots → Prop} {f : D → Option D} : ∀ {xs : List D}, (∀ x ∈ xs, ∀ ρ, I ρ → ∃ ρ', body x ρ = some (f x, ρ') ∧ I ρ') → ∀ ρ, I ρ → ∃ ρ', compGo body xs ρ = some (xs.filterMap f, ρ') ∧ I ρ'
  | [], _, ρ, h => ⟨ρ, rfl, h⟩
  | x :: xs, hb, ρ, h => by
    obtain ⟨ρ1, h1, i1⟩ := hb x (List.mem_cons_self ..) ρ h
    obtain ⟨ρ2, h2, i2⟩ := compGo_inv (fun y hy => hb y (List.mem_cons_of_mem _ hy)) ρ1 i1
    refine ⟨ρ2, ?_, i2⟩
    simp only [compGo, h1, Option.bind_eq_bind, Option.bind_some, h2]
    rw [List.filterMap_cons]
    cases f x <;> rfl
theorem restore_wipe {ρ1 ρ2 : Slots} : ∀ {vs : List Nat}, (∀ v ∈ vs, v < ρ1.length) → wipeE ρ2 vs = wipeE ρ1 vs → restore ρ1 ρ2 vs = ρ1 := by
  intro vs hv h
  have hlen : ∀ (ρ : Slots) (vs : List Nat), (wipeE ρ vs).length = ρ.length := fun ρ vs => by
    induction vs with
    | nil => rfl
    | cons v vs ih => simp [wipeE, ih]
  have hlr : ∀ (vs : List Nat), (restore ρ1 ρ2 vs).length = ρ2.length := fun vs => by
    induction vs with
    | nil => rfl
    | cons v vs ih => simp [restore, ih]
  have hl : ρ2.length = ρ1.length := by rw [← hlen ρ2 vs, h, hlen]
  have w : ∀ (ρ : Slots) (vs : List Nat) (i : Nat), i ∉ vs → (wipeE ρ vs)[i]? = ρ[i]? := fun ρ vs i hi => by
    induction vs with
    | nil => rfl
    | cons v vs ih =>
      simp only [List.mem_cons, not_or] at hi
      simp only [wipeE]
      rw [List.getElem?_set_ne (Ne.symm hi.1)]
      exact ih hi.2
  have r : ∀ (vs : List Nat) (i : Nat), i ∉ vs → (restore ρ1 ρ2 vs)[i]? = ρ2[i]? := fun vs i hi => by
    induction vs with
    | nil => rfl
    | cons v vs ih =>
      simp only [List.mem_cons, not_or] at hi
      simp only [restore]
      rw [List.getElem?_set_ne (Ne.symm hi.1)]
      exact ih hi.2
  have r2 : ∀ (vs : List Nat) (i : Nat), i ∈ vs → i < ρ1.length → (restore ρ1 ρ2 vs)[i]? = ρ1[i]? := fun vs i hi hlt => by
    induction vs with
    | nil => cases hi
    | cons v vs ih =>
      simp only [restore]
      by_cases e : i = v
      · subst e
        rw [List.getElem?_set_self (by rw [hlr, hl]; exact hlt)]
        rw [List.getElem?_eq_getElem hlt]; rfl
      · rw [List.getElem?_set_ne (Ne.symm e)]
        exact ih (by rcases List.mem_cons.mp hi with q | q; exact absurd q e; exact q)
  apply List.ext_getElem?
  intro i
  by_cases hi : i ∈ vs
  · exact r2 vs i hi (hv i hi)
  · rw [r vs i hi, ← w ρ2 vs i hi, h, w ρ1 vs i hi]
theorem evE_cmpr {G : Cfg} {vs : List Nat} {p : Pat} {k : ItK} {a b c e : IR} {ρ0 ρ : Slots} {xs : List D} {f : D → Option D} (hit : itGo k (evE G a ρ0) (evE G b) = some (xs, ρ)) (ho : (vs.any fun v => isOwn ρ[v]?) = false)
    (hv : ∀ v ∈ vs, v < ρ.length) (ht : ∀ x ∈ xs, W0 (turnC G p c e x (wipeE ρ vs)) (fun r => r.1 = f x ∧ wipeE r.2 vs = wipeE ρ vs)) : evE G (.comp vs p k a b c e) ρ0 = some (.d (.lst (xs.filterMap f)), ρ) := by
  unfold evE
  rw [hit]
  show (if (vs.any fun v => isOwn ρ[v]?) = true then none else _) = _
  rw [if_neg (by rw [ho]; decide)]
  obtain ⟨ρ2, h2, i2⟩ := compGo_inv (body := fun x ρ => turnC G p c e x (wipeE ρ vs)) (I := fun ρ' => wipeE ρ' vs = wipeE ρ vs) (f := f) (xs := xs) (fun x hx ρ' hi => by
    obtain ⟨⟨y, ρ3⟩, h3, h4, h5⟩ := ht x hx
    refine ⟨ρ3, ?_, h5⟩
    show turnC G p c e x (wipeE ρ' vs) = _
    rw [hi, h3]; exact congrArg (fun z => some (z, ρ3)) h4) ρ rfl
  refine (congrArg (fun z => z >>= _) (?_ : compGo _ xs ρ = some (xs.filterMap f, ρ2))).trans ?_
  · rw [← h2]; congr 1
  show some (_, restore ρ ρ2 vs) = _
  rw [restore_wipe hv i2]
/-- .. with effects on the slots: an invariant -/
theorem compGo_all {body : D → Slots → Option (Option D × Slots)} {I : List D → List D → Slots → Prop} : ∀ {xs : List D} (pre : List D) (acc : List D), (∀ pre x post acc ρ, pre ++ x :: post = pre ++ x :: post → I pre acc ρ → W0 (body x ρ) (fun r => I (pre ++ [x]) (acc ++ r.1.toList) r.2)) →
    ∀ ρ, I pre acc ρ → W0 (compGo body xs ρ) (fun r => I (pre ++ xs) (acc ++ r.1) r.2)
  | [], pre, acc, _, ρ, h => ⟨([], ρ), rfl, by simpa using h⟩
  | x :: xs, pre, acc, hb, ρ, h => by
    obtain ⟨⟨y, ρ1⟩, h1, i1⟩ := hb pre x xs acc ρ rfl h
    obtain ⟨⟨ys, ρ2⟩, h2, i2⟩ := compGo_all (xs := xs) (pre ++ [x]) (acc ++ y.toList) hb ρ1 i1
    refine ⟨(y.toList ++ ys, ρ2), ?_, ?_⟩
    · simp only [compGo, h1, Option.bind_eq_bind, Option.bind_some, h2]
      cases y <;> rfl
    · simpa using i2
/-! ### loops -/
theorem forGo_inv {body : D → Slots → Option Out} {I : Nat → Slots → Prop} {xs : List D} {Q : Out → Prop} (ρ : Slots) (h0 : I 0 ρ)
    (hs : ∀ (i : Nat) x ρ, xs[i]? = some x → I i ρ → W0 (body x ρ) (fun o => match o with
      | .nx ρ1 => I (i + 1) ρ1
      | .ct ρ1 => I (i + 1) ρ1
      | .brk ρ1 => Q (.nx ρ1)
      | .ret v ρ1 => Q (.ret v ρ1))) (hd : ∀ ρ, I xs.length ρ → Q (.nx ρ)) : W0 (forGo body xs ρ) Q := by
  have key : ∀ (ys : List D) (pre : List D) (ρ : Slots), pre ++ ys = xs → I pre.length ρ → W0 (forGo body ys ρ) Q := by
    intro ys
    induction ys with
    | nil =>
      intro pre ρ e h
      simp only [List.append_nil] at e
      subst e
      exact ⟨_, rfl, hd ρ h⟩
    | cons y ys ih =>
      intro pre ρ e h
      obtain ⟨o, h1, h2⟩ := hs pre.length y ρ (by rw [← e]; simp) h
      unfold forGo
      rw [h1]
      cases o with
      | nx ρ1 => exact ih (pre ++ [y]) ρ1 (by simp [e]) (by simpa using h2)
      | ct ρ1 => exact ih (pre ++ [y]) ρ1 (by simp [e]) (by simpa using h2)
      | brk ρ1 => exact ⟨_, rfl, h2⟩
      | ret v ρ1 => exact ⟨_, rfl, h2⟩
  exact key xs [] ρ rfl h0
theorem whGo_inv {test : Slots → Option (Bool × Slots)} {body : Slots → Option Out} {Q : Out → Prop} {I : Slots → Prop} (μ : Slots → Nat) : ∀ (n : Nat) (ρ : Slots), μ ρ < n → I ρ →
    (∀ ρ, I ρ → W0 (test ρ) (fun r => if r.1 = true then W0 (body r.2) (fun o => match o with
      | .nx ρ1 => I ρ1 ∧ μ ρ1 < μ ρ
      | .ct ρ1 => I ρ1 ∧ μ ρ1 < μ ρ
      | .brk ρ1 => Q (.nx ρ1)
      | .ret v ρ1 => Q (.ret v ρ1)) else Q (.nx r.2))) → W0 (whGo test body n ρ) Q
  | 0, ρ, h, _, _ => absurd h (Nat.not_lt_zero _)
  | n + 1, ρ, h, hi, hs => by
    obtain ⟨⟨b, ρ1⟩, h1, h2⟩ := hs ρ hi
    unfold whGo
    rw [h1]
    cases b with
    | false => exact ⟨_, rfl, by simpa using h2⟩
    | true =>
      simp only [if_true] at h2
      obtain ⟨o, h3, h4⟩ := h2
      show W0 (body ρ1 >>= _) Q
      rw [h3]
      cases o with
      | nx ρ2 => exact whGo_inv μ n ρ2 (by have := h4.2; omega) h4.1 hs
      | ct ρ2 => exact whGo_inv μ n ρ2 (by have := h4.2; omega) h4.1 hs
      | brk ρ2 => exact ⟨_, rfl, h4⟩
      | ret v ρ2 => exact ⟨_, rfl, h4⟩
end Ov

set_option maxHeartbeats 4000000
namespace Ov
open PySem
/-! ### the evaluator, by what is wanted of its end -/
section
variable {G : Cfg} {w : Nat}
def wE0 (G : Cfg) (e : IR) (ρ : Slots) (Q : Vl → Slots → Prop) : Prop := W0 (evE G e ρ) (fun r => Q r.1 r.2)
def wL0 (G : Cfg) (e : IR) (ρ : Slots) (Q : List Vl → Slots → Prop) : Prop := W0 (evL G e ρ) (fun r => Q r.1 r.2)
def wO0 (G : Cfg) (e : IR) (ρ : Slots) (Q : List D → Slots → Prop) : Prop := W0 (evO G e ρ) (fun r => Q r.1 r.2)
def wP0 (G : Cfg) (fs : List (Nat × Bool)) (e : IR) (ρ : Slots) (Q : List EV → Slots → Prop) : Prop := W0 (evP G fs e ρ) (fun r => Q r.1 r.2)
def wT0 (G : Cfg) (e : IR) (ρ : Slots) (Q : Bool → Slots → Prop) : Prop := W0 (evT G e ρ) (fun r => Q r.1 r.2)
def wI0 (G : Cfg) (k : ItK) (a b : IR) (ρ : Slots) (Q : List D → Slots → Prop) : Prop := W0 (itGo k (evE G a ρ) (evE G b)) (fun r => Q r.1 r.2)
def wS0 (G : Cfg) (w : Nat) (e : IR) (ρ : Slots) (Q : Out → Prop) : Prop := W0 (evS G w e ρ) Q
/-- a slot read -/
def wv0 (i : Nat) (o : Option (Option EV)) (Q : Vl → Prop) : Prop := match o with
  | some (some (.d x)) => Q (.d x)
  | some (some (.own _ _)) => Q (.slot i)
  | some (some (.scr _)) => Q (.slot i)
  | _ => False
theorem wv_d0 {i : Nat} {x : D} {Q : Vl → Prop} : wv0 i (some (some (.d x))) Q = Q (.d x) := rfl
theorem wv_own0 {i : Nat} {b : Bool} {x : List D} {Q : Vl → Prop} : wv0 i (some (some (.own b x))) Q = Q (.slot i) := rfl
theorem wv_scr0 {i : Nat} {x : List Int} {Q : Vl → Prop} : wv0 i (some (some (.scr x))) Q = Q (.slot i) := rfl
def ownF0 (o : Option (Option EV)) (Q : List D → Prop) : Prop := match o with
  | some (some (.own false xs)) => Q xs
  | _ => False
def ownA0 (o : Option (Option EV)) (Q : Bool → List D → Prop) : Prop := match o with
  | some (some (.own b xs)) => Q b xs
  | _ => False
theorem ownF_own0 {x : List D} {Q : List D → Prop} : ownF0 (some (some (.own false x))) Q = Q x := rfl
theorem ownA_own0 {b : Bool} {x : List D} {Q : Bool → List D → Prop} : ownA0 (some (some (.own b x))) Q = Q b x := rfl
theorem wE_var0 {i : Nat} {ρ : Slots} {Q : Vl → Slots → Prop} : wE0 G (.var i) ρ Q = wv0 i ρ[i]? (fun v => Q v ρ) := by
  unfold wE0 evE wv0
  split <;> simp_all [W_some0, W_none0]
theorem wE_glob0 {g : Nat} {ρ : Slots} {Q : Vl → Slots → Prop} : wE0 G (.glob g) ρ Q = W0 (G.gd g) (fun x => Q (.d x) ρ) := by
  simp only [wE0, evE, W_bind0, W_pure0]
theorem wE_int0 {n : Int} {ρ : Slots} {Q : Vl → Slots → Prop} : wE0 G (.int n) ρ Q = Q (.d (.int n)) ρ := by simp only [wE0, evE, W_some0]
theorem wE_str0 {n : Str} {ρ : Slots} {Q : Vl → Slots → Prop} : wE0 G (.str n) ρ Q = Q (.d (.str n)) ρ := by simp only [wE0, evE, W_some0]
theorem wE_bl0 {n : Bool} {ρ : Slots} {Q : Vl → Slots → Prop} : wE0 G (.bl n) ρ Q = Q (.d (.bl n)) ρ := by simp only [wE0, evE, W_some0]
theorem wE_non0 {ρ : Slots} {Q : Vl → Slots → Prop} : wE0 G .non ρ Q = Q (.d .non) ρ := by simp only [wE0, evE, W_some0]
theorem wE_op0 {o : BOp} {a b : IR} {ρ : Slots} {Q : Vl → Slots → Prop} : wE0 G (.op o a b) ρ Q = wE0 G a ρ (fun va ρ1 => wE0 G b ρ1 (fun vb ρ2 => W0 (va.look ρ2) (fun x => W0 (vb.look ρ2) (fun y => W0 (opD o x y) (fun z => Q (.d z) ρ2))))) := by
  simp only [wE0, evE, W_bind0, W_pure0]
theorem wE_neg0 {a : IR} {ρ : Slots} {Q : Vl → Slots → Prop} : wE0 G (.neg a) ρ Q = wE0 G a ρ (fun va ρ1 => W0 (va.look ρ1) (fun x => W0 (asInt x) (fun i => Q (.d (.int (-i))) ρ1))) := by
  simp only [wE0, evE, W_bind0, W_pure0]
theorem wE_cmp0 {o : COp} {a b : IR} {ρ : Slots} {Q : Vl → Slots → Prop} : wE0 G (.cmp o a b) ρ Q = wE0 G a ρ (fun va ρ1 => wE0 G b ρ1 (fun vb ρ2 => W0 (va.look ρ2) (fun x => W0 (vb.look ρ2) (fun y => W0 (cmpD o x y) (fun z => Q (.d (.bl z)) ρ2))))) := by
  simp only [wE0, evE, W_bind0, W_pure0]
theorem wE_chain0 {o o' : COp} {a b c : IR} {ρ : Slots} {Q : Vl → Slots → Prop} : wE0 G (.chain o o' a b c) ρ Q = wE0 G a ρ (fun va ρ1 => wE0 G b ρ1 (fun vb ρ2 => W0 (va.look ρ2) (fun x => W0 (vb.look ρ2) (fun y => W0 (cmpD o x y) (fun z =>
    if z = true then wE0 G c ρ2 (fun vc ρ3 => W0 (vb.look ρ3) (fun y' => W0 (vc.look ρ3) (fun u => W0 (cmpD o' y' u) (fun z' => Q (.d (.bl z')) ρ3)))) else Q (.d (.bl false)) ρ2))))) := by
  simp only [wE0, evE, W_bind0, W_pure0, W_ite0]
def isnD (ng : Bool) : D → Bool
  | .non => !ng
  | _ => ng
theorem wE_stp0 {a s : IR} {ρ : Slots} {Q : Vl → Slots → Prop} : wE0 G (.stp a s) ρ Q = wE0 G a ρ (fun va ρ1 => wE0 G s ρ1 (fun vs ρ2 => W0 (vs.look ρ2) (fun y => W0 (asInt y) (fun k => W0 (va.lookS ρ2) (fun x => W0 (stpD x k) (fun z => Q (.d z) ρ2)))))) := by
  simp only [wE0, evE, W_bind0, W_pure0]
theorem wE_isb0 {ng : Bool} {a : IR} {b : Bool} {ρ : Slots} {Q : Vl → Slots → Prop} : wE0 G (.isb ng a b) ρ Q = wE0 G a ρ (fun va ρ1 => W0 (va.look ρ1) (fun x => W0 (isbD x b) (fun r => Q (.d (.bl (if ng then !r else r))) ρ1))) := by
  simp only [wE0, evE, W_bind0, W_pure0]
theorem wE_isn0 {ng : Bool} {a : IR} {ρ : Slots} {Q : Vl → Slots → Prop} : wE0 G (.isn ng a) ρ Q = wE0 G a ρ (fun va ρ1 => W0 (va.look ρ1) (fun x => Q (.d (.bl (isnD ng x))) ρ1)) := by
  simp only [wE0, evE, W_bind0, W_pure0]
  rfl
theorem wE_one0 {a : IR} {ρ : Slots} {Q : Vl → Slots → Prop} : wE0 G (.one a) ρ Q = wE0 G a ρ Q := by simp only [wE0, evE]
theorem wE_band0 {a b : IR} {ρ : Slots} {Q : Vl → Slots → Prop} : wE0 G (.band a b) ρ Q = wE0 G a ρ (fun va ρ1 => W0 va.pure? (fun x => W0 (asBool x) (fun p => if p = true then wE0 G b ρ1 Q else Q (.d (.bl false)) ρ1))) := by
  simp only [wE0, evE, W_bind0, W_pure0, W_ite0]
theorem wE_bor0 {a b : IR} {ρ : Slots} {Q : Vl → Slots → Prop} : wE0 G (.bor a b) ρ Q = wE0 G a ρ (fun va ρ1 => W0 va.pure? (fun x => W0 (asBool x) (fun p => if p = true then Q (.d (.bl true)) ρ1 else wE0 G b ρ1 Q))) := by
  simp only [wE0, evE, W_bind0, W_pure0, W_ite0]
theorem wE_bnot0 {a : IR} {ρ : Slots} {Q : Vl → Slots → Prop} : wE0 G (.bnot a) ρ Q = wE0 G a ρ (fun va ρ1 => W0 va.pure? (fun x => W0 (asBool x) (fun p => Q (.d (.bl (!p))) ρ1))) := by
  simp only [wE0, evE, W_bind0, W_pure0]
theorem wE_ife0 {c a b : IR} {ρ : Slots} {Q : Vl → Slots → Prop} : wE0 G (.ife c a b) ρ Q = wE0 G c ρ (fun va ρ1 => W0 va.pure? (fun x => W0 (asBool x) (fun p => if p = true then wE0 G a ρ1 Q else wE0 G b ρ1 Q))) := by
  simp only [wE0, evE, W_bind0, W_pure0, W_ite0]
theorem wE_tup0 {es : IR} {ρ : Slots} {Q : Vl → Slots → Prop} : wE0 G (.tup es) ρ Q = wL0 G es ρ (fun vs ρ1 => W0 (pures vs) (fun xs => if xs.length ≤ sizeLine then Q (.d (.tup xs)) ρ1 else False)) := by
  simp only [wE0, wL0, evE, W_bind0, W_pure0, W_ite0, W_none0]
theorem wE_lst0 {es : IR} {ρ : Slots} {Q : Vl → Slots → Prop} : wE0 G (.lst es) ρ Q = wL0 G es ρ (fun vs ρ1 => W0 (pures vs) (fun xs => if xs.length ≤ sizeLine then Q (.d (.lst xs)) ρ1 else False)) := by
  simp only [wE0, wL0, evE, W_bind0, W_pure0, W_ite0, W_none0]
/-- x[n] -/
def ixD (x : D) (n : Int) : Option D := match x with
  | .lst xs => atD xs n
  | .tup xs => atD xs n
  | .str s => if s.length ≤ sizeLine then (do
      let j ← ixN' s.length n
      let c ← s.cps[j]?
      pure (.str ⟨#[c]⟩)) else none
  | _ => none
theorem wE_idx0 {a i : IR} {ρ : Slots} {Q : Vl → Slots → Prop} : wE0 G (.idx a i) ρ Q = wE0 G a ρ (fun va ρ1 => wE0 G i ρ1 (fun vi ρ2 => W0 (va.lookS ρ2) (fun x => W0 (vi.look ρ2) (fun y => W0 (asInt y) (fun n => W0 (ixD x n) (fun z => Q (.d z) ρ2)))))) := by
  simp only [wE0, evE, W_bind0, W_pure0]
  congr 1; funext x; congr 1; funext y; congr 1; funext z; congr 1; funext u; congr 1; funext n
  unfold ixD
  cases z <;> simp only [W_bind0, W_pure0, W_none0, W_ite0]
def partW0 (G : Cfg) (e : IR) (ρ : Slots) (Q : Option Int → Slots → Prop) : Prop := match e with
  | .nil => Q none ρ
  | e => wE0 G e ρ (fun v ρ' => W0 (partD ρ' v) (fun p => Q p ρ'))
def slcD (x : D) (l h : Option Int) : Option D := match x with
  | .lst xs => some (.lst (cutD xs l h))
  | .tup xs => some (.tup (cutD xs l h))
  | .str s => if s.length ≤ sizeLine then some (.str (cutT s l h)) else none
  | _ => none
def evPtX (G : Cfg) (e : IR) (ρ : Slots) : Option (Option Int × Slots) := match e with
  | .nil => some (none, ρ)
  | e => do let (v, ρ') ← evE G e ρ; let p ← partD ρ' v; pure (p, ρ')
theorem evE_slc {a lo hi : IR} {ρ : Slots} : evE G (.slc a lo hi) ρ = (evE G a ρ >>= fun r => evPtX G lo r.2 >>= fun l => evPtX G hi l.2 >>= fun h => r.1.lookS h.2 >>= fun x => match x with
    | .lst xs => pure (.d (.lst (cutD xs l.1 h.1)), h.2)
    | .tup xs => pure (.d (.tup (cutD xs l.1 h.1)), h.2)
    | .str s => if s.length ≤ sizeLine then pure (.d (.str (cutT s l.1 h.1)), h.2) else none
    | _ => none) := by
  rw [evE]; rfl
theorem wPt0 {e : IR} {ρ : Slots} {Q : Option Int → Slots → Prop} : W0 (evPtX G e ρ) (fun r => Q r.1 r.2) = partW0 G e ρ Q := by
  unfold evPtX partW0
  cases e <;> simp only [W_some0, W_bind0, W_pure0, wE0]
theorem wE_slc0 {a lo hi : IR} {ρ : Slots} {Q : Vl → Slots → Prop} : wE0 G (.slc a lo hi) ρ Q = wE0 G a ρ (fun va ρ1 => partW0 G lo ρ1 (fun l ρ2 => partW0 G hi ρ2 (fun h ρ3 => W0 (va.lookS ρ3) (fun x => W0 (slcD x l h) (fun z => Q (.d z) ρ3))))) := by
  unfold wE0
  rw [evE_slc, W_bind0]
  congr 1; funext r
  dsimp only
  rw [← wPt0, W_bind0]
  congr 1; funext l
  rw [← wPt0, W_bind0]
  congr 1; funext h
  rw [W_bind0]
  congr 1; funext x
  unfold slcD
  cases x <;> simp only [W_pure0, W_some0, W_none0, W_ite0]
/-- a call's end -/
def wC0 (G : Cfg) (f : Nat) (vs : List Vl) (ρ : Slots) (Q : EV → Slots → Prop) : Prop := W0 (argsOf ρ vs) (fun as => if (slotsOf vs).Nodup then W0 (G.cf f as) (fun r => Q r.1 (putBack ρ vs r.2)) else False)
theorem wC_eq0 {f : Nat} {vs : List Vl} {ρ : Slots} {Q : EV → Slots → Prop} : W0 (callD G f vs ρ) (fun r => Q r.1 r.2) = wC0 G f vs ρ Q := by
  simp only [callD, wC0, W_bind0, W_pure0, W_ite0, W_none0]
theorem wE_call0 {f : Nat} {es : IR} {ρ : Slots} {Q : Vl → Slots → Prop} : wE0 G (.call f es) ρ Q = wL0 G es ρ (fun vs ρ1 => wC0 G f vs ρ1 (fun r ρ2 => W0 r.toD (fun z => Q (.d z) ρ2))) := by
  simp only [wE0, wL0, evE, W_bind0, W_pure0, callD, wC0, W_ite0, W_none0]
theorem wE_callK0 {s : Nat} {es : IR} {ρ : Slots} {Q : Vl → Slots → Prop} : wE0 G (.callK s es) ρ Q = W0 (G.sh s) (fun q => wL0 G es ρ (fun ws ρ1 => W0 (pickAll ws q.2) (fun us => wC0 G q.1 us ρ1 (fun r ρ2 => W0 r.toD (fun z => Q (.d z) ρ2))))) := by
  simp only [wE0, wL0, evE, W_bind0, W_pure0, callD, wC0, W_ite0, W_none0]
theorem wE_callT0 {f g : Nat} {es : IR} {ρ : Slots} {Q : Vl → Slots → Prop} : wE0 G (.callT f g es) ρ Q = wL0 G es ρ (fun vs ρ1 => wC0 G g vs ρ1 (fun r ρ2 => match r with
    | .own _ xs => W0 (G.cf f [.own true xs]) (fun q => W0 q.1.toD (fun z => Q (.d z) ρ2))
    | _ => False)) := by
  simp only [wE0, wL0, evE, W_bind0]
  congr 1; funext x
  rw [← wC_eq0]
  congr 1; funext r
  obtain ⟨r, ρ2⟩ := r
  cases r <;> simp only [W_bind0, W_pure0, W_none0]
theorem wE_lenS0 {a : IR} {ρ : Slots} {Q : Vl → Slots → Prop} : wE0 G (.lenS a) ρ Q = wE0 G a ρ (fun va ρ1 => W0 (va.lookS ρ1) (fun x => W0 (lenD x) (fun z => Q (.d z) ρ1))) := by
  simp only [wE0, evE, W_bind0, W_pure0]
theorem wE_bi0 {b : Bi} {es : IR} {ρ : Slots} {Q : Vl → Slots → Prop} : wE0 G (.bi b es) ρ Q = wL0 G es ρ (fun vs ρ1 => W0 (looks ρ1 vs) (fun xs => W0 (biD b xs) (fun z => Q (.d z) ρ1))) := by
  simp only [wE0, wL0, evE, W_bind0, W_pure0]
theorem wE_isi0 {a : IR} {ts : List Ty} {ρ : Slots} {Q : Vl → Slots → Prop} : wE0 G (.isi a ts) ρ Q = wE0 G a ρ (fun va ρ1 => W0 (va.look ρ1) (fun x => Q (.d (.bl (isTys ts x))) ρ1)) := by
  simp only [wE0, evE, W_bind0, W_pure0]
theorem wE_dget0 {e k : IR} {ρ : Slots} {Q : Vl → Slots → Prop} : wE0 G (.dget e k) ρ Q = wE0 G e ρ (fun v ρ1 => W0 (v.look ρ1) (fun x => W0 x.ofSeq (fun xs => W0 (pairsI xs) (fun ps => wE0 G k ρ1 (fun u ρ2 => W0 (u.look ρ2) (fun y => W0 (keyD y) (fun n => W0 (lastKey n ps) (fun z => Q (.d z) ρ2)))))))) := by
  simp only [wE0, evE, W_bind0, W_pure0]
theorem wE_lrng0 {a b : IR} {ρ : Slots} {Q : Vl → Slots → Prop} : wE0 G (.lrng a b) ρ Q = wE0 G a ρ (fun va ρ1 => wE0 G b ρ1 (fun vb ρ2 => W0 (va.look ρ2) (fun x => W0 (vb.look ρ2) (fun y => W0 (asInt x) (fun i => W0 (asInt y) (fun j => W0 (lrngD i j) (fun z => Q (.d z) ρ2))))))) := by
  simp only [wE0, evE, W_bind0, W_pure0]
def dgO (kvs : List (Str × D)) (x : D) : Option D := match x with
  | .str z => dicD kvs z
  | _ => none
theorem wE_gdg0 {g : Nat} {k : IR} {ρ : Slots} {Q : Vl → Slots → Prop} : wE0 G (.gdg g k) ρ Q = wE0 G k ρ (fun v ρ1 => W0 (v.look ρ1) (fun x => W0 (G.dd g) (fun kvs => W0 (dgO kvs x) (fun d => Q (.d d) ρ1)))) := by
  simp only [wE0, evE, W_bind0]
  congr 1; funext r; congr 1; funext x; congr 1; funext kvs
  unfold dgO
  cases x <;> simp only [W_bind0, W_pure0, W_none0]
theorem wE_mt0 {m : Mt} {o es : IR} {ρ : Slots} {Q : Vl → Slots → Prop} : wE0 G (.mt m o es) ρ Q = wE0 G o ρ (fun v ρ1 => W0 v.pure? (fun x => wL0 G es ρ1 (fun vs ρ2 => W0 (looks ρ2 vs) (fun xs => W0 (mtD m x xs) (fun z => Q (.d z) ρ2))))) := by
  simp only [wE0, wL0, evE, W_bind0, W_pure0]
def dicO (o : Option (Option EV)) : Option (List (Sum Int Str × D)) := match o with
  | some (some (.dic kvs)) => some kvs
  | _ => none
def dgtO (kvs : List (Sum Int Str × D)) (x y : D) : Option D := match x with
  | .str z => some ((lastKey (.inr z) kvs).getD y)
  | _ => none
theorem wE_dgt0 {i : Nat} {k d : IR} {ρ : Slots} {Q : Vl → Slots → Prop} : wE0 G (.dgt i k d) ρ Q = W0 (dicO ρ[i]?) (fun kvs => wE0 G k ρ (fun vk ρ1 => W0 (vk.look ρ1) (fun x => wE0 G d ρ1 (fun vd ρ2 => W0 vd.pure? (fun y => W0 (dgtO kvs x y) (fun z => Q (.d z) ρ2)))))) := by
  have e : evE G (.dgt i k d) ρ = (dicO ρ[i]? >>= fun kvs => evE G k ρ >>= fun r => r.1.look r.2 >>= fun x => evE G d r.2 >>= fun s => s.1.pure? >>= fun y => dgtO kvs x y >>= fun z => pure (.d z, s.2)) := by
    rw [evE.eq_def]
    dsimp only
    cases h : ρ[i]? with
    | none => rfl
    | some o =>
      cases o with
      | none => rfl
      | some e =>
        cases e with
        | dic kvs =>
          show (evE G k ρ >>= _) = (evE G k ρ >>= _)
          congr 1; funext r
          congr 1; funext x
          congr 1; funext s
          congr 1; funext y
          unfold dgtO
          cases x <;> rfl
        | _ => rfl
  unfold wE0
  rw [e]
  simp only [W_bind0, W_pure0]
def ggtO (kvs : List (Str × D)) (x y : D) : Option D := match x with
  | .str z => some ((dicD kvs z).getD y)
  | _ => none
theorem wE_ggt0 {g : Nat} {k d : IR} {ρ : Slots} {Q : Vl → Slots → Prop} : wE0 G (.ggt g k d) ρ Q = wE0 G k ρ (fun v ρ1 => W0 (v.look ρ1) (fun x => wE0 G d ρ1 (fun vd ρ2 => W0 vd.pure? (fun y => W0 (G.dd g) (fun kvs => W0 (ggtO kvs x y) (fun z => Q (.d z) ρ2)))))) := by
  simp only [wE0, evE, W_bind0]
  congr 1; funext r; congr 1; funext x; congr 1; funext s; congr 1; funext y; congr 1; funext kvs
  unfold ggtO
  cases x <;> simp only [W_pure0, W_some0, W_none0]
def dgiO (kvs : List (Sum Int Str × D)) (x : D) : Option D := match x with
  | .str z => lastKey (.inr z) kvs
  | _ => none
theorem wE_dgi0 {i : Nat} {k : IR} {ρ : Slots} {Q : Vl → Slots → Prop} : wE0 G (.dgi i k) ρ Q = W0 (dicO ρ[i]?) (fun kvs => wE0 G k ρ (fun vk ρ1 => W0 (vk.look ρ1) (fun x => W0 (dgiO kvs x) (fun z => Q (.d z) ρ1)))) := by
  have e : evE G (.dgi i k) ρ = (dicO ρ[i]? >>= fun kvs => evE G k ρ >>= fun r => r.1.look r.2 >>= fun x => dgiO kvs x >>= fun z => pure (.d z, r.2)) := by
    rw [evE.eq_def]
    dsimp only
    cases h : ρ[i]? with
    | none => rfl
    | some o =>
      cases o with
      | none => rfl
      | some e =>
        cases e with
        | dic kvs =>
          show (evE G k ρ >>= _) = (evE G k ρ >>= _)
          congr 1; funext r
          congr 1; funext x
          unfold dgiO
          cases x <;> rfl
        | _ => rfl
  unfold wE0
  rw [e]
  simp only [W_bind0, W_pure0]
def dinO (kvs : List (Sum Int Str × D)) (x : D) : Option Bool := match x with
  | .str z => some (lastKey (.inr z) kvs).isSome
  | _ => none
theorem wE_din0 {ng : Bool} {i : Nat} {k : IR} {ρ : Slots} {Q : Vl → Slots → Prop} : wE0 G (.din ng i k) ρ Q = wE0 G k ρ (fun vk ρ1 => W0 (vk.look ρ1) (fun x => W0 (dicO ρ1[i]?) (fun kvs => W0 (dinO kvs x) (fun b => Q (.d (.bl (ng != b))) ρ1)))) := by
  have e : evE G (.din ng i k) ρ = (evE G k ρ >>= fun r => r.1.look r.2 >>= fun x => dicO r.2[i]? >>= fun kvs => dinO kvs x >>= fun b => pure (.d (.bl (ng != b)), r.2)) := by
    rw [evE.eq_def]
    dsimp only
    congr 1; funext r
    congr 1; funext x
    cases h : r.2[i]? with
    | none => rfl
    | some o =>
      cases o with
      | none => rfl
      | some e =>
        cases e with
        | dic kvs =>
          unfold dinO
          cases x <;> rfl
        | _ => rfl
  unfold wE0
  rw [e]
  simp only [W_bind0, W_pure0]
theorem wE_dmem0 {ng : Bool} {k e : IR} {ρ : Slots} {Q : Vl → Slots → Prop} : wE0 G (.dmem ng k e) ρ Q = wE0 G k ρ (fun vk ρ1 => W0 vk.pure? (fun y => wE0 G e ρ1 (fun v ρ2 => W0 (v.look ρ2) (fun x => W0 x.ofSeq (fun xs => W0 (pairsI xs) (fun ps => W0 (keyD y) (fun n => Q (.d (.bl (ng != (lastKey n ps).isSome))) ρ2))))))) := by
  simp only [wE0, evE, W_bind0, W_pure0]
theorem wE_lset0 {a : IR} {ρ : Slots} {Q : Vl → Slots → Prop} : wE0 G (.lset a) ρ Q = wE0 G a ρ (fun va ρ1 => W0 (va.look ρ1) (fun x => W0 x.ofLst (fun xs => W0 (lenSetD xs) (fun z => Q (.d (.int z)) ρ1)))) := by
  simp only [wE0, evE, W_bind0, W_pure0, W_ite0, W_none0]
theorem wE_frz0 {i : Nat} {ρ : Slots} {Q : Vl → Slots → Prop} : wE0 G (.frz i) ρ Q = ownF0 ρ[i]? (fun xs => Q (.d (.lst xs)) (ρ.set i (some (.d (.lst xs))))) := by
  unfold wE0 evE ownF0
  split <;> simp_all [W_some0, W_none0]
theorem wE_mu0 {m : Mu} {i : Nat} {es : IR} {ρ : Slots} {Q : Vl → Slots → Prop} : wE0 G (.mu m i es) ρ Q = if isOwn ρ[i]? = true then wL0 G es ρ (fun vs ρ1 => W0 (pures vs) (fun xs => ownA0 ρ1[i]? (fun b ys => W0 (muD m ys xs) (fun r => Q (.d r.1) (ρ1.set i (some (.own b r.2))))))) else False := by
  unfold wE0
  rw [evE]
  cases h : isOwn ρ[i]? <;> simp only [Bool.not_true, Bool.not_false, Bool.false_eq_true, if_true, if_false, W_none0]
  simp only [wL0, W_bind0]
  congr 1; funext x; congr 1; funext y
  unfold ownA0
  split <;> simp_all [W_bind0', W_some0, W_none0]
theorem wL_nil0 {ρ : Slots} {Q : List Vl → Slots → Prop} : wL0 G .nil ρ Q = Q [] ρ := by simp only [wL0, evL, W_some0]
theorem wL_cons0 {a b : IR} {ρ : Slots} {Q : List Vl → Slots → Prop} : wL0 G (.cons a b) ρ Q = wE0 G a ρ (fun v ρ1 => wL0 G b ρ1 (fun vs ρ2 => Q (v :: vs) ρ2)) := by
  simp only [wE0, wL0, evL, W_bind0, W_pure0]
theorem wT_eq0 {e : IR} {ρ : Slots} {Q : Bool → Slots → Prop} : wT0 G e ρ Q = wE0 G e ρ (fun v ρ1 => W0 v.pure? (fun x => W0 (asBool x) (fun b => Q b ρ1))) := by
  simp only [wT0, wE0, evT, W_bind0, W_pure0]
theorem wI_seq0 {a b : IR} {ρ : Slots} {Q : List D → Slots → Prop} : wI0 G .seq a b ρ Q = wE0 G a ρ (fun v ρ1 => W0 v.pure? (fun x => W0 x.items (fun xs => Q xs ρ1))) := by
  simp only [wI0, wE0, itGo, W_bind0, W_pure0]
theorem wI_rng0 {a b : IR} {ρ : Slots} {Q : List D → Slots → Prop} : wI0 G .rng a b ρ Q = wE0 G a ρ (fun v ρ1 => W0 (v.look ρ1) (fun x => W0 (asInt x) (fun n => if n ≤ sizeLine ∧ -(2 ^ 62) ≤ n then Q (range1 n.toNat) ρ1 else False))) := by
  simp only [wI0, wE0, itGo, W_bind0, W_pure0, W_ite0, W_none0]
theorem wI_enm0 {a b : IR} {ρ : Slots} {Q : List D → Slots → Prop} : wI0 G .enm a b ρ Q = wE0 G a ρ (fun v ρ1 => W0 v.pure? (fun x => W0 x.ofSeq (fun xs => Q (enumD xs) ρ1))) := by
  simp only [wI0, wE0, itGo, W_bind0, W_pure0]
def zipO (x y : D) : Option (List D) := match x, y with
  | .lst xs, .lst ys => some (zipD xs ys)
  | .tup xs, .tup ys => some (zipD xs ys)
  | _, _ => none
theorem wI_zip0 {a b : IR} {ρ : Slots} {Q : List D → Slots → Prop} : wI0 G .zip a b ρ Q = wE0 G a ρ (fun v ρ1 => wE0 G b ρ1 (fun u ρ2 => W0 v.pure? (fun x => W0 u.pure? (fun y => W0 (zipO x y) (fun xs => Q xs ρ2))))) := by
  simp only [wI0, wE0, itGo, W_bind0, W_pure0]
  congr 1; funext p; congr 1; funext q; congr 1; funext x; congr 1; funext y
  unfold zipO
  cases x <;> cases y <;> simp only [W_pure0, W_some0, W_none0]
/-! ### own lists -/
theorem wO_call0 {f : Nat} {es : IR} {ρ : Slots} {Q : List D → Slots → Prop} : wO0 G (.call f es) ρ Q = wL0 G es ρ (fun vs ρ1 => wC0 G f vs ρ1 (fun r ρ2 => match r with
    | .own _ xs => Q xs ρ2
    | _ => False)) := by
  simp only [wO0, wL0, evO, W_bind0]
  congr 1; funext x
  rw [← wC_eq0]
  congr 1; funext r
  obtain ⟨r, ρ2⟩ := r
  cases r <;> simp only [W_bind0, W_pure0, W_none0]
theorem wO_of0 {e : IR} {ρ : Slots} {Q : List D → Slots → Prop} (h : fresh e = true) : wO0 G e ρ Q = wE0 G e ρ (fun v ρ1 => match v with
    | .d (.lst xs) => Q xs ρ1
    | _ => False) := by
  unfold wO0 wE0
  rw [evO.eq_def]
  cases e <;> first | (simp [fresh] at h; done) | skip
  all_goals
    simp only [h, if_true, W_bind0]
    congr 1; funext r
    obtain ⟨r, ρ2⟩ := r
    cases r with
    | slot i => simp only [W_none0]
    | d x => cases x <;> simp only [W_pure0, W_none0]
theorem wO_lst0 {es : IR} {ρ : Slots} {Q : List D → Slots → Prop} : wO0 G (.lst es) ρ Q = wL0 G es ρ (fun vs ρ1 => W0 (pures vs) (fun xs => if xs.length ≤ sizeLine then Q xs ρ1 else False)) := by
  rw [wO_of0 rfl, wE_lst0]
theorem wO_comp0 {vs : List Nat} {p : Pat} {k : ItK} {a b c e : IR} {ρ : Slots} {Q : List D → Slots → Prop} : wO0 G (.comp vs p k a b c e) ρ Q = wE0 G (.comp vs p k a b c e) ρ (fun v ρ1 => match v with
    | .d (.lst xs) => Q xs ρ1
    | _ => False) := wO_of0 rfl
theorem wO_op0 {o : BOp} {a b : IR} {ρ : Slots} {Q : List D → Slots → Prop} (h : fresh (.op o a b) = true) : wO0 G (.op o a b) ρ Q = wE0 G (.op o a b) ρ (fun v ρ1 => match v with
    | .d (.lst xs) => Q xs ρ1
    | _ => False) := wO_of0 h
theorem wO_slc0 {a b c : IR} {ρ : Slots} {Q : List D → Slots → Prop} : wO0 G (.slc a b c) ρ Q = wE0 G (.slc a b c) ρ (fun v ρ1 => match v with
    | .d (.lst xs) => Q xs ρ1
    | _ => False) := wO_of0 rfl
theorem wO_lrng0 {a b : IR} {ρ : Slots} {Q : List D → Slots → Prop} : wO0 G (.lrng a b) ρ Q = wE0 G (.lrng a b) ρ (fun v ρ1 => match v with
    | .d (.lst xs) => Q xs ρ1
    | _ => False) := wO_of0 rfl
theorem wO_list0 {es : IR} {ρ : Slots} {Q : List D → Slots → Prop} : wO0 G (.bi .list es) ρ Q = wE0 G (.bi .list es) ρ (fun v ρ1 => match v with
    | .d (.lst xs) => Q xs ρ1
    | _ => False) := wO_of0 rfl
theorem wP_nil0 {ρ : Slots} {Q : List EV → Slots → Prop} : wP0 G [] .nil ρ Q = Q [] ρ := by simp only [wP0, evP, W_some0]
theorem wP_own0 {i : Nat} {fs : List (Nat × Bool)} {a b : IR} {ρ : Slots} {Q : List EV → Slots → Prop} : wP0 G ((i, true) :: fs) (.cons a b) ρ Q = wO0 G a ρ (fun xs ρ1 => wP0 G fs b ρ1 (fun vs ρ2 => Q (.own false xs :: vs) ρ2)) := by
  simp only [wP0, wO0, evP, W_bind0, W_pure0]
theorem wP_dat0 {i : Nat} {fs : List (Nat × Bool)} {a b : IR} {ρ : Slots} {Q : List EV → Slots → Prop} : wP0 G ((i, false) :: fs) (.cons a b) ρ Q = wE0 G a ρ (fun v ρ1 => W0 v.pure? (fun x => wP0 G fs b ρ1 (fun vs ρ2 => Q (.d x :: vs) ρ2))) := by
  simp only [wP0, wE0, evP, W_bind0, W_pure0]
/-! ### statements -/
theorem wS_skip0 {ρ : Slots} {Q : Out → Prop} : wS0 G w .skip ρ Q = Q (.nx ρ) := by simp only [wS0, evS, W_some0]
/-- what follows -/
def thenW0 (G : Cfg) (w : Nat) (b : IR) (Q : Out → Prop) : Out → Prop
  | .nx ρ1 => wS0 G w b ρ1 Q
  | o => Q o
theorem thenW_nx0 {b : IR} {Q : Out → Prop} {ρ : Slots} : thenW0 G w b Q (.nx ρ) = wS0 G w b ρ Q := rfl
theorem thenW_ret0 {b : IR} {Q : Out → Prop} {v : EV} {ρ : Slots} : thenW0 G w b Q (.ret v ρ) = Q (.ret v ρ) := rfl
theorem thenW_brk0 {b : IR} {Q : Out → Prop} {ρ : Slots} : thenW0 G w b Q (.brk ρ) = Q (.brk ρ) := rfl
theorem thenW_ct0 {b : IR} {Q : Out → Prop} {ρ : Slots} : thenW0 G w b Q (.ct ρ) = Q (.ct ρ) := rfl
theorem wS_seq0 {a b : IR} {ρ : Slots} {Q : Out → Prop} : wS0 G w (.seq a b) ρ Q = wS0 G w a ρ (thenW0 G w b Q) := by
  simp only [wS0, evS, W_bind0]
  congr 1; funext o
  cases o <;> simp only [thenW0, wS0, W_pure0]
theorem wS_asg0 {p : Pat} {e : IR} {ρ : Slots} {Q : Out → Prop} : wS0 G w (.asg p e) ρ Q = wE0 G e ρ (fun v ρ1 => W0 v.pure? (fun x => if p.slots.all (okSet ρ1) = true then W0 (Pat.bind p x ρ1) (fun ρ2 => Q (.nx ρ2)) else False)) := by
  simp only [wS0, wE0, evS, W_bind0, W_pure0, W_ite0, W_none0]
theorem wS_asgO0 {i : Nat} {e : IR} {ρ : Slots} {Q : Out → Prop} : wS0 G w (.asgO i e) ρ Q = wO0 G e ρ (fun xs ρ1 => if okSet ρ1 i = true then Q (.nx (ρ1.set i (some (.own false xs)))) else False) := by
  simp only [wS0, wO0, evS, W_bind0, W_pure0, W_ite0, W_none0]
theorem wS_par0 {fs : List (Nat × Bool)} {e : IR} {ρ : Slots} {Q : Out → Prop} : wS0 G w (.par fs e) ρ Q = wP0 G fs e ρ (fun vs ρ1 => if (fs.all fun p => okSet ρ1 p.1) = true then Q (.nx (setAll ρ1 fs vs)) else False) := by
  simp only [wS0, wP0, evS, W_bind0, W_pure0, W_ite0, W_none0]
def augI (ρ : Slots) (i : Nat) : Option Int := match ρ[i]? with
  | some (some (.d (.int v))) => some v
  | _ => none
def augZ (o : BOp) (v j : Int) : Option Int := match opD o (.int v) (.int j) with
  | some (.int z) => some z
  | _ => none
theorem wS_aug0 {o : BOp} {i : Nat} {e : IR} {ρ : Slots} {Q : Out → Prop} : wS0 G w (.aug o i e) ρ Q = W0 (augI ρ i) (fun v => wE0 G e ρ (fun vy ρ1 => W0 (vy.look ρ1) (fun y => W0 (asInt y) (fun j => W0 (augZ o v j) (fun z => Q (.nx (ρ1.set i (some (.d (.int z))))))))))  := by
  simp only [wS0, wE0, evS]
  split
  · rename_i v hv
    have e1 : augI ρ i = some v := by unfold augI; rw [hv]
    rw [e1]
    simp only [W_bind0, W_some0]
    congr 1; funext x; congr 1; funext y; congr 1; funext j
    unfold augZ
    split <;> simp_all [W_some0, W_none0]
  · rename_i hv
    have e1 : augI ρ i = none := by
      unfold augI
      split
      · rename_i v hq; exact absurd hq (hv v)
      · rfl
    rw [e1]
    simp only [W_none0]
theorem wS_setI0 {i : Nat} {k e : IR} {ρ : Slots} {Q : Out → Prop} : wS0 G w (.setI i k e) ρ Q = wE0 G e ρ (fun v ρ1 => W0 v.pure? (fun x => if isOwn ρ1[i]? = true then wE0 G k ρ1 (fun u ρ2 => W0 (u.look ρ2) (fun y => W0 (asInt y) (fun n => ownA0 ρ2[i]? (fun b xs => W0 (ixN' xs.length n) (fun j => Q (.nx (ρ2.set i (some (.own b (xs.set j x))))))))) ) else False)) := by
  simp only [wS0, wE0, evS, W_bind0]
  congr 1; funext x; congr 1; funext y
  cases h : isOwn x.2[i]? <;> simp only [Bool.not_true, Bool.not_false, Bool.false_eq_true, if_true, if_false, W_none0]
  simp only [W_bind0]
  congr 1; funext z; congr 1; funext u; congr 1; funext n
  unfold ownA0
  split <;> simp_all [W_bind0', W_some0, W_none0]
theorem W_putI0 {f : Slots → Option (Vl × Slots)} {i : Nat} {x : D} {ρ1 : Slots} {Q : Slots → Prop} : W0 (putI f i x ρ1) Q = if isOwn ρ1[i]? = true then W0 (f ρ1) (fun r => W0 (r.1.look r.2) (fun y => W0 (asInt y) (fun n => ownA0 r.2[i]? (fun b xs => W0 (ixN' xs.length n) (fun j => Q (r.2.set i (some (.own b (xs.set j x)))))))) ) else False := by
  unfold putI
  cases h : isOwn ρ1[i]? <;> simp only [Bool.not_true, Bool.not_false, Bool.false_eq_true, if_true, if_false, W_none0]
  simp only [W_bind0]
  congr 1; funext z; congr 1; funext u; congr 1; funext n
  unfold ownA0
  split <;> simp_all [W_bind0', W_some0, W_none0]
theorem wS_swp0 {i : Nat} {a b e : IR} {ρ : Slots} {Q : Out → Prop} : wS0 G w (.swp i a b e) ρ Q = wE0 G e ρ (fun v ρ1 => W0 v.pure? (fun x => W0 (twoD x) (fun p => if isOwn ρ1[i]? = true then wE0 G a ρ1 (fun u ρ2 => W0 (u.look ρ2) (fun y => W0 (asInt y) (fun n => ownA0 ρ2[i]? (fun c xs => W0 (ixN' xs.length n) (fun j =>
    if isOwn (ρ2.set i (some (.own c (xs.set j p.1))))[i]? = true then wE0 G b (ρ2.set i (some (.own c (xs.set j p.1)))) (fun u ρ4 => W0 (u.look ρ4) (fun y => W0 (asInt y) (fun n => ownA0 ρ4[i]? (fun c xs => W0 (ixN' xs.length n) (fun j => Q (.nx (ρ4.set i (some (.own c (xs.set j p.2))))))))) ) else False))))) else False))) := by
  simp only [wS0, wE0, evS, W_bind0, W_pure0, W_putI0]
def slO : Option (Option EV) → Option D
  | some (some (.d x)) => some x
  | _ => none
theorem wS_prb0 {i f : Nat} {a r : IR} {js : List Nat} {ρ : Slots} {Q : Out → Prop} : wS0 G w (.prb i a r f js) ρ Q = wO0 G a ρ (fun xs ρ1 => wL0 G r ρ1 (fun vs ρ2 => W0 (pures vs) (fun ys => if ys.length + 1 ≤ sizeLine ∧ xs.length < sizeLine ∧ js.length ≤ sizeLine ∧ okSet ρ2 i = true ∧ i < ρ2.length then W0 (slotsD (ρ2.set i (some (.d (.lst (.lst xs :: ys))))) js) (fun zs => W0 (G.cf f [.d (.lst (.lst xs :: ys)), .d (.lst zs)]) (fun q => if isTrueD q.1 = true then Q (.nx (ρ2.set i none)) else False)) else False))) := by
  simp only [wS0, wO0, wL0, evS, W_bind0, W_pure0, W_ite0, W_none0]
theorem wS_dicS0 {i : Nat} {ks : List Str} {es : IR} {ρ : Slots} {Q : Out → Prop} : wS0 G w (.dicS i ks es) ρ Q = wL0 G es ρ (fun vs ρ1 => W0 (pures vs) (fun xs => if xs.length = ks.length ∧ 0 < ks.length ∧ ks.length ≤ 15 ∧ okSet ρ1 i = true then Q (.nx (ρ1.set i (some (.dic (kvsD ks xs))))) else False)) := by
  simp only [wS0, wL0, evS, W_bind0, W_pure0, W_ite0, W_none0]
theorem wS_expr0 {e : IR} {ρ : Slots} {Q : Out → Prop} : wS0 G w (.expr e) ρ Q = wE0 G e ρ (fun _ ρ1 => Q (.nx ρ1)) := by
  simp only [wS0, wE0, evS, W_bind0, W_pure0]
theorem wS_ret0 {e : IR} {ρ : Slots} {Q : Out → Prop} : wS0 G w (.ret e) ρ Q = wE0 G e ρ (fun v ρ1 => W0 v.pure? (fun x => Q (.ret (.d x) ρ1))) := by
  simp only [wS0, wE0, evS, W_bind0, W_pure0]
theorem wS_retO0 {e : IR} {ρ : Slots} {Q : Out → Prop} : wS0 G w (.retO e) ρ Q = wO0 G e ρ (fun xs ρ1 => Q (.ret (.own false xs) ρ1)) := by
  simp only [wS0, wO0, evS, W_bind0, W_pure0]
theorem wS_retV0 {i : Nat} {ρ : Slots} {Q : Out → Prop} : wS0 G w (.retV i) ρ Q = ownF0 ρ[i]? (fun xs => Q (.ret (.own false xs) ρ)) := by
  unfold wS0 ownF0
  rw [evS.eq_def]
  dsimp only
  split <;> simp_all [W_some0, W_none0]
theorem wS_retN0 {ρ : Slots} {Q : Out → Prop} : wS0 G w .retN ρ Q = Q (.ret (.d .non) ρ) := by simp only [wS0, evS, W_some0]
theorem wS_brk0 {ρ : Slots} {Q : Out → Prop} : wS0 G w .brk ρ Q = Q (.brk ρ) := by simp only [wS0, evS, W_some0]
theorem wS_cnt0 {ρ : Slots} {Q : Out → Prop} : wS0 G w .cnt ρ Q = Q (.ct ρ) := by simp only [wS0, evS, W_some0]
theorem wS_ifS0 {c t u : IR} {ρ : Slots} {Q : Out → Prop} : wS0 G w (.ifS c t u) ρ Q = wT0 G c ρ (fun b ρ1 => if b = true then wS0 G w t ρ1 Q else wS0 G w u ρ1 Q) := by
  simp only [wS0, wT0, evS, W_bind0, W_ite0]
/-- a turn of a for -/
def forB (G : Cfg) (w : Nat) (p : Pat) (body : IR) (x : D) (ρ : Slots) : Option Out := if p.slots.all (okSet ρ) then (do
      let ρa ← Pat.bind p x ρ
      evS G w body ρa) else none
theorem W_forB0 {p : Pat} {body : IR} {x : D} {ρ : Slots} {Q : Out → Prop} : W0 (forB G w p body x ρ) Q = if p.slots.all (okSet ρ) = true then W0 (Pat.bind p x ρ) (fun ρa => wS0 G w body ρa Q) else False := by
  simp only [forB, W_ite0, W_bind0, W_none0, wS0]
def wF0 (G : Cfg) (w : Nat) (p : Pat) (body : IR) (xs : List D) (ρ : Slots) (Q : Out → Prop) : Prop := W0 (forGo (forB G w p body) xs ρ) Q
theorem wS_forS0 {p : Pat} {k : ItK} {a b body : IR} {ρ : Slots} {Q : Out → Prop} : wS0 G w (.forS p k a b body) ρ Q = wI0 G k a b ρ (fun xs ρ1 => wF0 G w p body xs ρ1 Q) := by
  simp only [wS0, wI0, evS, W_bind0]
  rfl
def wWh0 (G : Cfg) (w : Nat) (c b : IR) (n : Nat) (ρ : Slots) (Q : Out → Prop) : Prop := W0 (whGo (evT G c) (evS G w b) n ρ) Q
theorem wS_whS0 {c b : IR} {ρ : Slots} {Q : Out → Prop} : wS0 G w (.whS c b) ρ Q = wWh0 G w c b w ρ Q := by
  simp only [wS0, evS]; rfl
/-- a for, by an invariant -/
theorem wF_inv0 {p : Pat} {body : IR} {xs : List D} {ρ : Slots} {Q : Out → Prop} (I : Nat → Slots → Prop) (h0 : I 0 ρ)
    (hs : ∀ (i : Nat) x ρ, xs[i]? = some x → I i ρ → if p.slots.all (okSet ρ) = true then W0 (Pat.bind p x ρ) (fun ρa => wS0 G w body ρa (fun o => match o with
      | .nx ρ1 => I (i + 1) ρ1
      | .ct ρ1 => I (i + 1) ρ1
      | .brk ρ1 => Q (.nx ρ1)
      | .ret v ρ1 => Q (.ret v ρ1))) else False) (hd : ∀ ρ, I xs.length ρ → Q (.nx ρ)) : wF0 G w p body xs ρ Q :=
  forGo_inv ρ h0 (fun i x ρ hx hi => by rw [W_forB0]; exact hs i x ρ hx hi) hd
theorem wWh_inv0 {c b : IR} {n : Nat} {ρ : Slots} {Q : Out → Prop} (I : Slots → Prop) (μ : Slots → Nat) (h0 : I ρ) (hn : μ ρ < n)
    (hs : ∀ ρ, I ρ → wT0 G c ρ (fun t ρ' => if t = true then wS0 G w b ρ' (fun o => match o with
      | .nx ρ1 => I ρ1 ∧ μ ρ1 < μ ρ
      | .ct ρ1 => I ρ1 ∧ μ ρ1 < μ ρ
      | .brk ρ1 => Q (.nx ρ1)
      | .ret v ρ1 => Q (.ret v ρ1)) else Q (.nx ρ'))) : wWh0 G w c b n ρ Q :=
  whGo_inv μ n ρ hn h0 hs
end
/-! ### comprehensions -/
section
variable {G : Cfg}
theorem wE_compF0 {vs : List Nat} {p : Pat} {k : ItK} {a b c e : IR} {ρ0 ρ : Slots} {Q : Vl → Slots → Prop} {xs : List D} (f : D → Option D) (hit : wI0 G k a b ρ0 (fun ys ρ1 => ys = xs ∧ ρ1 = ρ)) (ho : (vs.any fun v => isOwn ρ[v]?) = false)
    (hv : (vs.all fun v => decide (v < ρ.length)) = true) (ht : ∀ x ∈ xs, W0 (Pat.bind p x (wipeE ρ vs)) (fun ρa => match c with
      | .nil => wE0 G e ρa (fun v ρc => W0 v.pure? (fun y => f x = some y ∧ wipeE ρc vs = wipeE ρ vs))
      | c => wE0 G c ρa (fun v ρb => W0 v.pure? (fun y => W0 (asBool y) (fun q => if q = true then wE0 G e ρb (fun v ρc => W0 v.pure? (fun y => f x = some y ∧ wipeE ρc vs = wipeE ρ vs)) else f x = none ∧ wipeE ρb vs = wipeE ρ vs)))))
    (q : Q (.d (.lst (xs.filterMap f))) ρ) : wE0 G (.comp vs p k a b c e) ρ0 Q := by
  obtain ⟨⟨ys, ρ1⟩, h1, rfl, rfl⟩ := hit
  refine ⟨_, evE_cmpr (f := f) h1 ho (fun v hv' => of_decide_eq_true (List.all_eq_true.mp hv v hv')) (fun x hx => ?_), q⟩
  have h := ht x hx
  unfold turnC
  rw [W_bind0]
  refine W_mono0 h fun ρa h => ?_
  cases c with
  | nil =>
    simp only [W_bind0, W_some0, if_true, W_pure0]
    refine W_mono0 h fun r h => W_mono0 h fun y h => ⟨h.1.symm, h.2⟩
  | _ =>
    simp only [W_bind0, W_pure0]
    refine W_mono0 h fun r h => W_mono0 h fun y h => W_mono0 h fun b h => ?_
    cases b with
    | true =>
      simp only [if_true, W_bind0, W_pure0] at h ⊢
      refine W_mono0 h fun r h => W_mono0 h fun y h => ⟨h.1.symm, h.2⟩
    | false =>
      simp only [Bool.false_eq_true, if_false, W_pure0] at h ⊢
      exact ⟨h.1.symm, h.2⟩
theorem wE_comp0 {vs : List Nat} {p : Pat} {k : ItK} {a b c e : IR} {ρ : Slots} {Q : Vl → Slots → Prop} {xs : List D} (f : D → Option D) (hit : wI0 G k a b ρ (fun ys ρ1 => ys = xs ∧ ρ1 = ρ)) (ho : (vs.any fun v => isOwn ρ[v]?) = false)
    (hv : (vs.all fun v => decide (v < ρ.length)) = true) (ht : ∀ x ∈ xs, W0 (Pat.bind p x (wipeE ρ vs)) (fun ρa => match c with
      | .nil => wE0 G e ρa (fun v ρc => W0 v.pure? (fun y => f x = some y ∧ wipeE ρc vs = wipeE ρ vs))
      | c => wE0 G c ρa (fun v ρb => W0 v.pure? (fun y => W0 (asBool y) (fun q => if q = true then wE0 G e ρb (fun v ρc => W0 v.pure? (fun y => f x = some y ∧ wipeE ρc vs = wipeE ρ vs)) else f x = none ∧ wipeE ρb vs = wipeE ρ vs)))))
    (q : Q (.d (.lst (xs.filterMap f))) ρ) : wE0 G (.comp vs p k a b c e) ρ Q := by
  obtain ⟨⟨ys, ρ1⟩, h1, rfl, rfl⟩ := hit
  refine ⟨_, evE_cmpr (f := f) h1 ho (fun v hv' => of_decide_eq_true (List.all_eq_true.mp hv v hv')) (fun x hx => ?_), q⟩
  have h := ht x hx
  unfold turnC
  rw [W_bind0]
  refine W_mono0 h fun ρa h => ?_
  cases c with
  | nil =>
    simp only [W_bind0, W_some0, if_true, W_pure0]
    refine W_mono0 h fun r h => W_mono0 h fun y h => ⟨h.1.symm, h.2⟩
  | _ =>
    simp only [W_bind0, W_pure0]
    refine W_mono0 h fun r h => W_mono0 h fun y h => W_mono0 h fun b h => ?_
    cases b with
    | true =>
      simp only [if_true, W_bind0, W_pure0] at h ⊢
      refine W_mono0 h fun r h => W_mono0 h fun y h => ⟨h.1.symm, h.2⟩
    | false =>
      simp only [Bool.false_eq_true, if_false, W_pure0] at h ⊢
      exact ⟨h.1.symm, h.2⟩
end
end Ov

set_option maxHeartbeats 4000000
namespace Ov
open PySem
/-- a tag that hangs on a -/
structure Tg {α : Sort u} (a : α) : Type where
def W {α : Type} (o : Option α) (Q : α → Prop) (h : Tg Q := ⟨⟩) : Prop := W0 o Q
def wE (G : Cfg) (e : IR) (ρ : Slots) (Q : Vl → Slots → Prop) (h : Tg Q := ⟨⟩) : Prop := wE0 G e ρ Q
def wL (G : Cfg) (e : IR) (ρ : Slots) (Q : List Vl → Slots → Prop) (h : Tg Q := ⟨⟩) : Prop := wL0 G e ρ Q
def wO (G : Cfg) (e : IR) (ρ : Slots) (Q : List D → Slots → Prop) (h : Tg Q := ⟨⟩) : Prop := wO0 G e ρ Q
def wP (G : Cfg) (fs : List (Nat × Bool)) (e : IR) (ρ : Slots) (Q : List EV → Slots → Prop) (h : Tg Q := ⟨⟩) : Prop := wP0 G fs e ρ Q
def wT (G : Cfg) (e : IR) (ρ : Slots) (Q : Bool → Slots → Prop) (h : Tg Q := ⟨⟩) : Prop := wT0 G e ρ Q
def wI (G : Cfg) (k : ItK) (a b : IR) (ρ : Slots) (Q : List D → Slots → Prop) (h : Tg Q := ⟨⟩) : Prop := wI0 G k a b ρ Q
def wS (G : Cfg) (w : Nat) (e : IR) (ρ : Slots) (Q : Out → Prop) (h : Tg Q := ⟨⟩) : Prop := wS0 G w e ρ Q
def wv (i : Nat) (o : Option (Option EV)) (Q : Vl → Prop) (h : Tg Q := ⟨⟩) : Prop := wv0 i o Q
def ownF (o : Option (Option EV)) (Q : List D → Prop) (h : Tg Q := ⟨⟩) : Prop := ownF0 o Q
def ownA (o : Option (Option EV)) (Q : Bool → List D → Prop) (h : Tg Q := ⟨⟩) : Prop := ownA0 o Q
def partW (G : Cfg) (e : IR) (ρ : Slots) (Q : Option Int → Slots → Prop) (h : Tg Q := ⟨⟩) : Prop := partW0 G e ρ Q
def wC (G : Cfg) (f : Nat) (vs : List Vl) (ρ : Slots) (Q : EV → Slots → Prop) (h : Tg Q := ⟨⟩) : Prop := wC0 G f vs ρ Q
def thenW (G : Cfg) (w : Nat) (b : IR) (Q : Out → Prop) : Out → Prop := thenW0 G w b Q
def wF (G : Cfg) (w : Nat) (p : Pat) (body : IR) (xs : List D) (ρ : Slots) (Q : Out → Prop) (h : Tg Q := ⟨⟩) : Prop := wF0 G w p body xs ρ Q
def wWh (G : Cfg) (w : Nat) (c b : IR) (n : Nat) (ρ : Slots) (Q : Out → Prop) (h : Tg Q := ⟨⟩) : Prop := wWh0 G w c b n ρ Q
section
variable {G : Cfg} {w : Nat}
theorem partW_nil {ρ : Slots} {Q : Option Int → Slots → Prop} : partW G .nil ρ Q = Q none ρ := by first | exact rfl
theorem partW_some {e : IR} {ρ : Slots} {Q : Option Int → Slots → Prop} (h : e ≠ .nil) : partW G e ρ Q = wE G e ρ (fun v ρ1 => W (partD ρ1 v) (fun p => Q p ρ1)) := by cases e <;> first | exact absurd rfl h | exact rfl
theorem wC_def {f : Nat} {vs : List Vl} {ρ : Slots} {Q : EV → Slots → Prop} : wC G f vs ρ Q = W (argsOf ρ vs) (fun as => if (slotsOf vs).Nodup then W (G.cf f as) (fun r => Q r.1 (putBack ρ vs r.2)) else False) := by first | exact rfl
theorem W_some {α : Type} {x : α} {Q : α → Prop} : W (some x) Q = Q x := by first | exact W_some0
theorem W_pure {α : Type} {x : α} {Q : α → Prop} : W (pure x) Q = Q x := by first | exact W_pure0
theorem W_none {α : Type} {Q : α → Prop} : W none Q = False := by first | exact W_none0
theorem W_bind {α β : Type} {o : Option α} {f : α → Option β} {Q : β → Prop} : W (o >>= f) Q = W o (fun x => W (f x) Q) := by first | exact W_bind0
theorem W_bind' {α β : Type} {o : Option α} {f : α → Option β} {Q : β → Prop} : W (o.bind f) Q = W o (fun x => W (f x) Q) := by first | exact W_bind0'
theorem W_map {α β : Type} {o : Option α} {f : α → β} {Q : β → Prop} : W (o.map f) Q = W o (fun x => Q (f x)) := by first | exact W_map0
theorem W_ite {α : Type} {c : Prop} [Decidable c] {a b : Option α} {Q : α → Prop} : W (if c then a else b) Q = if c then W a Q else W b Q := by first | exact W_ite0
theorem wv_d {i : Nat} {x : D} {Q : Vl → Prop} : wv i (some (some (.d x))) Q = Q (.d x) := by first | exact wv_d0
theorem wv_own {i : Nat} {b : Bool} {x : List D} {Q : Vl → Prop} : wv i (some (some (.own b x))) Q = Q (.slot i) := by first | exact wv_own0
theorem wv_scr {i : Nat} {x : List Int} {Q : Vl → Prop} : wv i (some (some (.scr x))) Q = Q (.slot i) := by first | exact wv_scr0
theorem ownF_own {x : List D} {Q : List D → Prop} : ownF (some (some (.own false x))) Q = Q x := by first | exact ownF_own0
theorem ownA_own {b : Bool} {x : List D} {Q : Bool → List D → Prop} : ownA (some (some (.own b x))) Q = Q b x := by first | exact ownA_own0
theorem wE_var {i : Nat} {ρ : Slots} {Q : Vl → Slots → Prop} : wE G (.var i) ρ Q = wv i ρ[i]? (fun v => Q v ρ) := by first | exact wE_var0
theorem wE_glob {g : Nat} {ρ : Slots} {Q : Vl → Slots → Prop} : wE G (.glob g) ρ Q = W (G.gd g) (fun x => Q (.d x) ρ) := by first | exact wE_glob0
theorem wE_int {n : Int} {ρ : Slots} {Q : Vl → Slots → Prop} : wE G (.int n) ρ Q = Q (.d (.int n)) ρ := by first | exact wE_int0
theorem wE_str {n : Str} {ρ : Slots} {Q : Vl → Slots → Prop} : wE G (.str n) ρ Q = Q (.d (.str n)) ρ := by first | exact wE_str0
theorem wE_bl {n : Bool} {ρ : Slots} {Q : Vl → Slots → Prop} : wE G (.bl n) ρ Q = Q (.d (.bl n)) ρ := by first | exact wE_bl0
theorem wE_non {ρ : Slots} {Q : Vl → Slots → Prop} : wE G .non ρ Q = Q (.d .non) ρ := by first | exact wE_non0
theorem wE_op {o : BOp} {a b : IR} {ρ : Slots} {Q : Vl → Slots → Prop} : wE G (.op o a b) ρ Q = wE G a ρ (fun va ρ1 => wE G b ρ1 (fun vb ρ2 => W (va.look ρ2) (fun x => W (vb.look ρ2) (fun y => W (opD o x y) (fun z => Q (.d z) ρ2))))) := by first | exact wE_op0
theorem wE_neg {a : IR} {ρ : Slots} {Q : Vl → Slots → Prop} : wE G (.neg a) ρ Q = wE G a ρ (fun va ρ1 => W (va.look ρ1) (fun x => W (asInt x) (fun i => Q (.d (.int (-i))) ρ1))) := by first | exact wE_neg0
theorem wE_cmp {o : COp} {a b : IR} {ρ : Slots} {Q : Vl → Slots → Prop} : wE G (.cmp o a b) ρ Q = wE G a ρ (fun va ρ1 => wE G b ρ1 (fun vb ρ2 => W (va.look ρ2) (fun x => W (vb.look ρ2) (fun y => W (cmpD o x y) (fun z => Q (.d (.bl z)) ρ2))))) := by first | exact wE_cmp0
theorem wE_chain {o o' : COp} {a b c : IR} {ρ : Slots} {Q : Vl → Slots → Prop} : wE G (.chain o o' a b c) ρ Q = wE G a ρ (fun va ρ1 => wE G b ρ1 (fun vb ρ2 => W (va.look ρ2) (fun x => W (vb.look ρ2) (fun y => W (cmpD o x y) (fun z =>
    if z = true then wE G c ρ2 (fun vc ρ3 => W (vb.look ρ3) (fun y' => W (vc.look ρ3) (fun u => W (cmpD o' y' u) (fun z' => Q (.d (.bl z')) ρ3)))) else Q (.d (.bl false)) ρ2))))) := by first | exact wE_chain0
theorem wE_stp {a s : IR} {ρ : Slots} {Q : Vl → Slots → Prop} : wE G (.stp a s) ρ Q = wE G a ρ (fun va ρ1 => wE G s ρ1 (fun vs ρ2 => W (vs.look ρ2) (fun y => W (asInt y) (fun k => W (va.lookS ρ2) (fun x => W (stpD x k) (fun z => Q (.d z) ρ2)))))) := by first | exact wE_stp0
theorem wE_isb {ng : Bool} {a : IR} {b : Bool} {ρ : Slots} {Q : Vl → Slots → Prop} : wE G (.isb ng a b) ρ Q = wE G a ρ (fun va ρ1 => W (va.look ρ1) (fun x => W (isbD x b) (fun r => Q (.d (.bl (if ng then !r else r))) ρ1))) := by first | exact wE_isb0
theorem wE_isn {ng : Bool} {a : IR} {ρ : Slots} {Q : Vl → Slots → Prop} : wE G (.isn ng a) ρ Q = wE G a ρ (fun va ρ1 => W (va.look ρ1) (fun x => Q (.d (.bl (isnD ng x))) ρ1)) := by first | exact wE_isn0
theorem wE_one {a : IR} {ρ : Slots} {Q : Vl → Slots → Prop} : wE G (.one a) ρ Q = wE G a ρ Q := by first | exact wE_one0
theorem wE_band {a b : IR} {ρ : Slots} {Q : Vl → Slots → Prop} : wE G (.band a b) ρ Q = wE G a ρ (fun va ρ1 => W va.pure? (fun x => W (asBool x) (fun p => if p = true then wE G b ρ1 Q else Q (.d (.bl false)) ρ1))) := by first | exact wE_band0
theorem wE_bor {a b : IR} {ρ : Slots} {Q : Vl → Slots → Prop} : wE G (.bor a b) ρ Q = wE G a ρ (fun va ρ1 => W va.pure? (fun x => W (asBool x) (fun p => if p = true then Q (.d (.bl true)) ρ1 else wE G b ρ1 Q))) := by first | exact wE_bor0
theorem wE_bnot {a : IR} {ρ : Slots} {Q : Vl → Slots → Prop} : wE G (.bnot a) ρ Q = wE G a ρ (fun va ρ1 => W va.pure? (fun x => W (asBool x) (fun p => Q (.d (.bl (!p))) ρ1))) := by first | exact wE_bnot0
theorem wE_ife {c a b : IR} {ρ : Slots} {Q : Vl → Slots → Prop} : wE G (.ife c a b) ρ Q = wE G c ρ (fun va ρ1 => W va.pure? (fun x => W (asBool x) (fun p => if p = true then wE G a ρ1 Q else wE G b ρ1 Q))) := by first | exact wE_ife0
theorem wE_tup {es : IR} {ρ : Slots} {Q : Vl → Slots → Prop} : wE G (.tup es) ρ Q = wL G es ρ (fun vs ρ1 => W (pures vs) (fun xs => if xs.length ≤ sizeLine then Q (.d (.tup xs)) ρ1 else False)) := by first | exact wE_tup0
theorem wE_lst {es : IR} {ρ : Slots} {Q : Vl → Slots → Prop} : wE G (.lst es) ρ Q = wL G es ρ (fun vs ρ1 => W (pures vs) (fun xs => if xs.length ≤ sizeLine then Q (.d (.lst xs)) ρ1 else False)) := by first | exact wE_lst0
theorem wE_idx {a i : IR} {ρ : Slots} {Q : Vl → Slots → Prop} : wE G (.idx a i) ρ Q = wE G a ρ (fun va ρ1 => wE G i ρ1 (fun vi ρ2 => W (va.lookS ρ2) (fun x => W (vi.look ρ2) (fun y => W (asInt y) (fun n => W (ixD x n) (fun z => Q (.d z) ρ2)))))) := by first | exact wE_idx0
theorem wE_slc {a lo hi : IR} {ρ : Slots} {Q : Vl → Slots → Prop} : wE G (.slc a lo hi) ρ Q = wE G a ρ (fun va ρ1 => partW G lo ρ1 (fun l ρ2 => partW G hi ρ2 (fun h ρ3 => W (va.lookS ρ3) (fun x => W (slcD x l h) (fun z => Q (.d z) ρ3))))) := by first | exact wE_slc0
theorem wE_call {f : Nat} {es : IR} {ρ : Slots} {Q : Vl → Slots → Prop} : wE G (.call f es) ρ Q = wL G es ρ (fun vs ρ1 => wC G f vs ρ1 (fun r ρ2 => W r.toD (fun z => Q (.d z) ρ2))) := by first | exact wE_call0
theorem wE_callK {s : Nat} {es : IR} {ρ : Slots} {Q : Vl → Slots → Prop} : wE G (.callK s es) ρ Q = W (G.sh s) (fun q => wL G es ρ (fun ws ρ1 => W (pickAll ws q.2) (fun us => wC G q.1 us ρ1 (fun r ρ2 => W r.toD (fun z => Q (.d z) ρ2))))) := by first | exact wE_callK0
theorem wE_callT {f g : Nat} {es : IR} {ρ : Slots} {Q : Vl → Slots → Prop} : wE G (.callT f g es) ρ Q = wL G es ρ (fun vs ρ1 => wC G g vs ρ1 (fun r ρ2 => match r with
    | .own _ xs => W (G.cf f [.own true xs]) (fun q => W q.1.toD (fun z => Q (.d z) ρ2))
    | _ => False)) := by first | exact wE_callT0
theorem wE_lenS {a : IR} {ρ : Slots} {Q : Vl → Slots → Prop} : wE G (.lenS a) ρ Q = wE G a ρ (fun va ρ1 => W (va.lookS ρ1) (fun x => W (lenD x) (fun z => Q (.d z) ρ1))) := by first | exact wE_lenS0
theorem wE_bi {b : Bi} {es : IR} {ρ : Slots} {Q : Vl → Slots → Prop} : wE G (.bi b es) ρ Q = wL G es ρ (fun vs ρ1 => W (looks ρ1 vs) (fun xs => W (biD b xs) (fun z => Q (.d z) ρ1))) := by first | exact wE_bi0
theorem wE_isi {a : IR} {ts : List Ty} {ρ : Slots} {Q : Vl → Slots → Prop} : wE G (.isi a ts) ρ Q = wE G a ρ (fun va ρ1 => W (va.look ρ1) (fun x => Q (.d (.bl (isTys ts x))) ρ1)) := by first | exact wE_isi0
theorem wE_dget {e k : IR} {ρ : Slots} {Q : Vl → Slots → Prop} : wE G (.dget e k) ρ Q = wE G e ρ (fun v ρ1 => W (v.look ρ1) (fun x => W x.ofSeq (fun xs => W (pairsI xs) (fun ps => wE G k ρ1 (fun u ρ2 => W (u.look ρ2) (fun y => W (keyD y) (fun n => W (lastKey n ps) (fun z => Q (.d z) ρ2)))))))) := by first | exact wE_dget0
theorem wE_lrng {a b : IR} {ρ : Slots} {Q : Vl → Slots → Prop} : wE G (.lrng a b) ρ Q = wE G a ρ (fun va ρ1 => wE G b ρ1 (fun vb ρ2 => W (va.look ρ2) (fun x => W (vb.look ρ2) (fun y => W (asInt x) (fun i => W (asInt y) (fun j => W (lrngD i j) (fun z => Q (.d z) ρ2))))))) := by first | exact wE_lrng0
theorem wE_gdg {g : Nat} {k : IR} {ρ : Slots} {Q : Vl → Slots → Prop} : wE G (.gdg g k) ρ Q = wE G k ρ (fun v ρ1 => W (v.look ρ1) (fun x => W (G.dd g) (fun kvs => W (dgO kvs x) (fun d => Q (.d d) ρ1)))) := by first | exact wE_gdg0
theorem wE_mt {m : Mt} {o es : IR} {ρ : Slots} {Q : Vl → Slots → Prop} : wE G (.mt m o es) ρ Q = wE G o ρ (fun v ρ1 => W v.pure? (fun x => wL G es ρ1 (fun vs ρ2 => W (looks ρ2 vs) (fun xs => W (mtD m x xs) (fun z => Q (.d z) ρ2))))) := by first | exact wE_mt0
theorem wE_dgt {i : Nat} {k d : IR} {ρ : Slots} {Q : Vl → Slots → Prop} : wE G (.dgt i k d) ρ Q = W (dicO ρ[i]?) (fun kvs => wE G k ρ (fun vk ρ1 => W (vk.look ρ1) (fun x => wE G d ρ1 (fun vd ρ2 => W vd.pure? (fun y => W (dgtO kvs x y) (fun z => Q (.d z) ρ2)))))) := by first | exact wE_dgt0
theorem wE_ggt {g : Nat} {k d : IR} {ρ : Slots} {Q : Vl → Slots → Prop} : wE G (.ggt g k d) ρ Q = wE G k ρ (fun v ρ1 => W (v.look ρ1) (fun x => wE G d ρ1 (fun vd ρ2 => W vd.pure? (fun y => W (G.dd g) (fun kvs => W (ggtO kvs x y) (fun z => Q (.d z) ρ2)))))) := by first | exact wE_ggt0
theorem wE_dgi {i : Nat} {k : IR} {ρ : Slots} {Q : Vl → Slots → Prop} : wE G (.dgi i k) ρ Q = W (dicO ρ[i]?) (fun kvs => wE G k ρ (fun vk ρ1 => W (vk.look ρ1) (fun x => W (dgiO kvs x) (fun z => Q (.d z) ρ1)))) := by first | exact wE_dgi0
theorem wE_din {ng : Bool} {i : Nat} {k : IR} {ρ : Slots} {Q : Vl → Slots → Prop} : wE G (.din ng i k) ρ Q = wE G k ρ (fun vk ρ1 => W (vk.look ρ1) (fun x => W (dicO ρ1[i]?) (fun kvs => W (dinO kvs x) (fun b => Q (.d (.bl (ng != b))) ρ1)))) := by first | exact wE_din0
theorem wE_dmem {ng : Bool} {k e : IR} {ρ : Slots} {Q : Vl → Slots → Prop} : wE G (.dmem ng k e) ρ Q = wE G k ρ (fun vk ρ1 => W vk.pure? (fun y => wE G e ρ1 (fun v ρ2 => W (v.look ρ2) (fun x => W x.ofSeq (fun xs => W (pairsI xs) (fun ps => W (keyD y) (fun n => Q (.d (.bl (ng != (lastKey n ps).isSome))) ρ2))))))) := by first | exact wE_dmem0
theorem wE_lset {a : IR} {ρ : Slots} {Q : Vl → Slots → Prop} : wE G (.lset a) ρ Q = wE G a ρ (fun va ρ1 => W (va.look ρ1) (fun x => W x.ofLst (fun xs => W (lenSetD xs) (fun z => Q (.d (.int z)) ρ1)))) := by first | exact wE_lset0
theorem wE_frz {i : Nat} {ρ : Slots} {Q : Vl → Slots → Prop} : wE G (.frz i) ρ Q = ownF ρ[i]? (fun xs => Q (.d (.lst xs)) (ρ.set i (some (.d (.lst xs))))) := by first | exact wE_frz0
theorem wE_mu {m : Mu} {i : Nat} {es : IR} {ρ : Slots} {Q : Vl → Slots → Prop} : wE G (.mu m i es) ρ Q = if isOwn ρ[i]? = true then wL G es ρ (fun vs ρ1 => W (pures vs) (fun xs => ownA ρ1[i]? (fun b ys => W (muD m ys xs) (fun r => Q (.d r.1) (ρ1.set i (some (.own b r.2))))))) else False := by first | exact wE_mu0
theorem wL_nil {ρ : Slots} {Q : List Vl → Slots → Prop} : wL G .nil ρ Q = Q [] ρ := by first | exact wL_nil0
theorem wL_cons {a b : IR} {ρ : Slots} {Q : List Vl → Slots → Prop} : wL G (.cons a b) ρ Q = wE G a ρ (fun v ρ1 => wL G b ρ1 (fun vs ρ2 => Q (v :: vs) ρ2)) := by first | exact wL_cons0
theorem wT_eq {e : IR} {ρ : Slots} {Q : Bool → Slots → Prop} : wT G e ρ Q = wE G e ρ (fun v ρ1 => W v.pure? (fun x => W (asBool x) (fun b => Q b ρ1))) := by first | exact wT_eq0
theorem wI_seq {a b : IR} {ρ : Slots} {Q : List D → Slots → Prop} : wI G .seq a b ρ Q = wE G a ρ (fun v ρ1 => W v.pure? (fun x => W x.items (fun xs => Q xs ρ1))) := by first | exact wI_seq0
theorem wI_rng {a b : IR} {ρ : Slots} {Q : List D → Slots → Prop} : wI G .rng a b ρ Q = wE G a ρ (fun v ρ1 => W (v.look ρ1) (fun x => W (asInt x) (fun n => if n ≤ sizeLine ∧ -(2 ^ 62) ≤ n then Q (range1 n.toNat) ρ1 else False))) := by first | exact wI_rng0
theorem wI_enm {a b : IR} {ρ : Slots} {Q : List D → Slots → Prop} : wI G .enm a b ρ Q = wE G a ρ (fun v ρ1 => W v.pure? (fun x => W x.ofSeq (fun xs => Q (enumD xs) ρ1))) := by first | exact wI_enm0
theorem wI_zip {a b : IR} {ρ : Slots} {Q : List D → Slots → Prop} : wI G .zip a b ρ Q = wE G a ρ (fun v ρ1 => wE G b ρ1 (fun u ρ2 => W v.pure? (fun x => W u.pure? (fun y => W (zipO x y) (fun xs => Q xs ρ2))))) := by first | exact wI_zip0
theorem wO_call {f : Nat} {es : IR} {ρ : Slots} {Q : List D → Slots → Prop} : wO G (.call f es) ρ Q = wL G es ρ (fun vs ρ1 => wC G f vs ρ1 (fun r ρ2 => match r with
    | .own _ xs => Q xs ρ2
    | _ => False)) := by first | exact wO_call0
theorem wO_of {e : IR} {ρ : Slots} {Q : List D → Slots → Prop} (h : fresh e = true) : wO G e ρ Q = wE G e ρ (fun v ρ1 => match v with
    | .d (.lst xs) => Q xs ρ1
    | _ => False) := by first | exact wO_of0 h
theorem wO_lst {es : IR} {ρ : Slots} {Q : List D → Slots → Prop} : wO G (.lst es) ρ Q = wL G es ρ (fun vs ρ1 => W (pures vs) (fun xs => if xs.length ≤ sizeLine then Q xs ρ1 else False)) := by first | exact wO_lst0
theorem wO_comp {vs : List Nat} {p : Pat} {k : ItK} {a b c e : IR} {ρ : Slots} {Q : List D → Slots → Prop} : wO G (.comp vs p k a b c e) ρ Q = wE G (.comp vs p k a b c e) ρ (fun v ρ1 => match v with
    | .d (.lst xs) => Q xs ρ1
    | _ => False) := by first | exact wO_comp0
theorem wO_op {o : BOp} {a b : IR} {ρ : Slots} {Q : List D → Slots → Prop} (h : fresh (.op o a b) = true) : wO G (.op o a b) ρ Q = wE G (.op o a b) ρ (fun v ρ1 => match v with
    | .d (.lst xs) => Q xs ρ1
    | _ => False) := by first | exact wO_op0 h
theorem wO_slc {a b c : IR} {ρ : Slots} {Q : List D → Slots → Prop} : wO G (.slc a b c) ρ Q = wE G (.slc a b c) ρ (fun v ρ1 => match v with
    | .d (.lst xs) => Q xs ρ1
    | _ => False) := by first | exact wO_slc0
theorem wO_lrng {a b : IR} {ρ : Slots} {Q : List D → Slots → Prop} : wO G (.lrng a b) ρ Q = wE G (.lrng a b) ρ (fun v ρ1 => match v with
    | .d (.lst xs) => Q xs ρ1
    | _ => False) := by first | exact wO_lrng0
theorem wO_list {es : IR} {ρ : Slots} {Q : List D → Slots → Prop} : wO G (.bi .list es) ρ Q = wE G (.bi .list es) ρ (fun v ρ1 => match v with
    | .d (.lst xs) => Q xs ρ1
    | _ => False) := by first | exact wO_list0
theorem wP_nil {ρ : Slots} {Q : List EV → Slots → Prop} : wP G [] .nil ρ Q = Q [] ρ := by first | exact wP_nil0
theorem wP_own {i : Nat} {fs : List (Nat × Bool)} {a b : IR} {ρ : Slots} {Q : List EV → Slots → Prop} : wP G ((i, true) :: fs) (.cons a b) ρ Q = wO G a ρ (fun xs ρ1 => wP G fs b ρ1 (fun vs ρ2 => Q (.own false xs :: vs) ρ2)) := by first | exact wP_own0
theorem wP_dat {i : Nat} {fs : List (Nat × Bool)} {a b : IR} {ρ : Slots} {Q : List EV → Slots → Prop} : wP G ((i, false) :: fs) (.cons a b) ρ Q = wE G a ρ (fun v ρ1 => W v.pure? (fun x => wP G fs b ρ1 (fun vs ρ2 => Q (.d x :: vs) ρ2))) := by first | exact wP_dat0
theorem wS_skip {ρ : Slots} {Q : Out → Prop} : wS G w .skip ρ Q = Q (.nx ρ) := by first | exact wS_skip0
theorem thenW_nx {b : IR} {Q : Out → Prop} {ρ : Slots} : thenW G w b Q (.nx ρ) = wS G w b ρ Q := by first | exact thenW_nx0
theorem thenW_ret {b : IR} {Q : Out → Prop} {v : EV} {ρ : Slots} : thenW G w b Q (.ret v ρ) = Q (.ret v ρ) := by first | exact thenW_ret0
theorem thenW_brk {b : IR} {Q : Out → Prop} {ρ : Slots} : thenW G w b Q (.brk ρ) = Q (.brk ρ) := by first | exact thenW_brk0
theorem thenW_ct {b : IR} {Q : Out → Prop} {ρ : Slots} : thenW G w b Q (.ct ρ) = Q (.ct ρ) := by first | exact thenW_ct0
theorem wS_seq {a b : IR} {ρ : Slots} {Q : Out → Prop} : wS G w (.seq a b) ρ Q = wS G w a ρ (thenW G w b Q) := by first | exact wS_seq0
theorem wS_asg {p : Pat} {e : IR} {ρ : Slots} {Q : Out → Prop} : wS G w (.asg p e) ρ Q = wE G e ρ (fun v ρ1 => W v.pure? (fun x => if p.slots.all (okSet ρ1) = true then W (Pat.bind p x ρ1) (fun ρ2 => Q (.nx ρ2)) else False)) := by first | exact wS_asg0
theorem wS_asgO {i : Nat} {e : IR} {ρ : Slots} {Q : Out → Prop} : wS G w (.asgO i e) ρ Q = wO G e ρ (fun xs ρ1 => if okSet ρ1 i = true then Q (.nx (ρ1.set i (some (.own false xs)))) else False) := by first | exact wS_asgO0
theorem wS_par {fs : List (Nat × Bool)} {e : IR} {ρ : Slots} {Q : Out → Prop} : wS G w (.par fs e) ρ Q = wP G fs e ρ (fun vs ρ1 => if (fs.all fun p => okSet ρ1 p.1) = true then Q (.nx (setAll ρ1 fs vs)) else False) := by first | exact wS_par0
theorem wS_aug {o : BOp} {i : Nat} {e : IR} {ρ : Slots} {Q : Out → Prop} : wS G w (.aug o i e) ρ Q = W (augI ρ i) (fun v => wE G e ρ (fun vy ρ1 => W (vy.look ρ1) (fun y => W (asInt y) (fun j => W (augZ o v j) (fun z => Q (.nx (ρ1.set i (some (.d (.int z))))))))))  := by first | exact wS_aug0
theorem wS_setI {i : Nat} {k e : IR} {ρ : Slots} {Q : Out → Prop} : wS G w (.setI i k e) ρ Q = wE G e ρ (fun v ρ1 => W v.pure? (fun x => if isOwn ρ1[i]? = true then wE G k ρ1 (fun u ρ2 => W (u.look ρ2) (fun y => W (asInt y) (fun n => ownA ρ2[i]? (fun b xs => W (ixN' xs.length n) (fun j => Q (.nx (ρ2.set i (some (.own b (xs.set j x))))))))) ) else False)) := by first | exact wS_setI0
theorem W_putI {f : Slots → Option (Vl × Slots)} {i : Nat} {x : D} {ρ1 : Slots} {Q : Slots → Prop} : W (putI f i x ρ1) Q = if isOwn ρ1[i]? = true then W (f ρ1) (fun r => W (r.1.look r.2) (fun y => W (asInt y) (fun n => ownA r.2[i]? (fun b xs => W (ixN' xs.length n) (fun j => Q (r.2.set i (some (.own b (xs.set j x)))))))) ) else False := by first | exact W_putI0
theorem wS_swp {i : Nat} {a b e : IR} {ρ : Slots} {Q : Out → Prop} : wS G w (.swp i a b e) ρ Q = wE G e ρ (fun v ρ1 => W v.pure? (fun x => W (twoD x) (fun p => if isOwn ρ1[i]? = true then wE G a ρ1 (fun u ρ2 => W (u.look ρ2) (fun y => W (asInt y) (fun n => ownA ρ2[i]? (fun c xs => W (ixN' xs.length n) (fun j =>
    if isOwn (ρ2.set i (some (.own c (xs.set j p.1))))[i]? = true then wE G b (ρ2.set i (some (.own c (xs.set j p.1)))) (fun u ρ4 => W (u.look ρ4) (fun y => W (asInt y) (fun n => ownA ρ4[i]? (fun c xs => W (ixN' xs.length n) (fun j => Q (.nx (ρ4.set i (some (.own c (xs.set j p.2))))))))) ) else False))))) else False))) := by first | exact wS_swp0
theorem wS_prb {i f : Nat} {a r : IR} {js : List Nat} {ρ : Slots} {Q : Out → Prop} : wS G w (.prb i a r f js) ρ Q = wO G a ρ (fun xs ρ1 => wL G r ρ1 (fun vs ρ2 => W (pures vs) (fun ys => if ys.length + 1 ≤ sizeLine ∧ xs.length < sizeLine ∧ js.length ≤ sizeLine ∧ okSet ρ2 i = true ∧ i < ρ2.length then W (slotsD (ρ2.set i (some (.d (.lst (.lst xs :: ys))))) js) (fun zs => W (G.cf f [.d (.lst (.lst xs :: ys)), .d (.lst zs)]) (fun q => if isTrueD q.1 = true then Q (.nx (ρ2.set i none)) else False)) else False))) := by first | exact wS_prb0
theorem wS_dicS {i : Nat} {ks : List Str} {es : IR} {ρ : Slots} {Q : Out → Prop} : wS G w (.dicS i ks es) ρ Q = wL G es ρ (fun vs ρ1 => W (pures vs) (fun xs => if xs.length = ks.length ∧ 0 < ks.length ∧ ks.length ≤ 15 ∧ okSet ρ1 i = true then Q (.nx (ρ1.set i (some (.dic (kvsD ks xs))))) else False)) := by first | exact wS_dicS0
theorem wS_expr {e : IR} {ρ : Slots} {Q : Out → Prop} : wS G w (.expr e) ρ Q = wE G e ρ (fun _ ρ1 => Q (.nx ρ1)) := by first | exact wS_expr0
theorem wS_ret {e : IR} {ρ : Slots} {Q : Out → Prop} : wS G w (.ret e) ρ Q = wE G e ρ (fun v ρ1 => W v.pure? (fun x => Q (.ret (.d x) ρ1))) := by first | exact wS_ret0
theorem wS_retO {e : IR} {ρ : Slots} {Q : Out → Prop} : wS G w (.retO e) ρ Q = wO G e ρ (fun xs ρ1 => Q (.ret (.own false xs) ρ1)) := by first | exact wS_retO0
theorem wS_retV {i : Nat} {ρ : Slots} {Q : Out → Prop} : wS G w (.retV i) ρ Q = ownF ρ[i]? (fun xs => Q (.ret (.own false xs) ρ)) := by first | exact wS_retV0
theorem wS_retN {ρ : Slots} {Q : Out → Prop} : wS G w .retN ρ Q = Q (.ret (.d .non) ρ) := by first | exact wS_retN0
theorem wS_brk {ρ : Slots} {Q : Out → Prop} : wS G w .brk ρ Q = Q (.brk ρ) := by first | exact wS_brk0
theorem wS_cnt {ρ : Slots} {Q : Out → Prop} : wS G w .cnt ρ Q = Q (.ct ρ) := by first | exact wS_cnt0
theorem wS_ifS {c t u : IR} {ρ : Slots} {Q : Out → Prop} : wS G w (.ifS c t u) ρ Q = wT G c ρ (fun b ρ1 => if b = true then wS G w t ρ1 Q else wS G w u ρ1 Q) := by first | exact wS_ifS0
theorem wS_forS {p : Pat} {k : ItK} {a b body : IR} {ρ : Slots} {Q : Out → Prop} : wS G w (.forS p k a b body) ρ Q = wI G k a b ρ (fun xs ρ1 => wF G w p body xs ρ1 Q) := by first | exact wS_forS0
theorem wS_whS {c b : IR} {ρ : Slots} {Q : Out → Prop} : wS G w (.whS c b) ρ Q = wWh G w c b w ρ Q := by first | exact wS_whS0
theorem wF_inv {p : Pat} {body : IR} {xs : List D} {ρ : Slots} {Q : Out → Prop} (I : Nat → Slots → Prop) (h0 : I 0 ρ)
    (hs : ∀ (i : Nat) x ρ, xs[i]? = some x → I i ρ → if p.slots.all (okSet ρ) = true then W (Pat.bind p x ρ) (fun ρa => wS G w body ρa (fun o => match o with
      | .nx ρ1 => I (i + 1) ρ1
      | .ct ρ1 => I (i + 1) ρ1
      | .brk ρ1 => Q (.nx ρ1)
      | .ret v ρ1 => Q (.ret v ρ1))) else False) (hd : ∀ ρ, I xs.length ρ → Q (.nx ρ)) : wF G w p body xs ρ Q := by first | exact wF_inv0 I h0 hs hd
theorem wWh_inv {c b : IR} {n : Nat} {ρ : Slots} {Q : Out → Prop} (I : Slots → Prop) (μ : Slots → Nat) (h0 : I ρ) (hn : μ ρ < n)
    (hs : ∀ ρ, I ρ → wT G c ρ (fun t ρ' => if t = true then wS G w b ρ' (fun o => match o with
      | .nx ρ1 => I ρ1 ∧ μ ρ1 < μ ρ
      | .ct ρ1 => I ρ1 ∧ μ ρ1 < μ ρ
      | .brk ρ1 => Q (.nx ρ1)
      | .ret v ρ1 => Q (.ret v ρ1)) else Q (.nx ρ'))) : wWh G w c b n ρ Q := by first | exact wWh_inv0 I μ h0 hn hs
theorem wE_compF {vs : List Nat} {p : Pat} {k : ItK} {a b c e : IR} {ρ0 ρ : Slots} {Q : Vl → Slots → Prop} {xs : List D} (f : D → Option D) (hit : wI G k a b ρ0 (fun ys ρ1 => ys = xs ∧ ρ1 = ρ)) (ho : (vs.any fun v => isOwn ρ[v]?) = false)
    (hv : (vs.all fun v => decide (v < ρ.length)) = true) (ht : ∀ x ∈ xs, W (Pat.bind p x (wipeE ρ vs)) (fun ρa => match c with
      | .nil => wE G e ρa (fun v ρc => W v.pure? (fun y => f x = some y ∧ wipeE ρc vs = wipeE ρ vs))
      | c => wE G c ρa (fun v ρb => W v.pure? (fun y => W (asBool y) (fun q => if q = true then wE G e ρb (fun v ρc => W v.pure? (fun y => f x = some y ∧ wipeE ρc vs = wipeE ρ vs)) else f x = none ∧ wipeE ρb vs = wipeE ρ vs)))))
    (q : Q (.d (.lst (xs.filterMap f))) ρ) : wE G (.comp vs p k a b c e) ρ0 Q := by first | exact wE_compF0 f hit ho hv ht q
theorem wE_comp {vs : List Nat} {p : Pat} {k : ItK} {a b c e : IR} {ρ : Slots} {Q : Vl → Slots → Prop} {xs : List D} (f : D → Option D) (hit : wI G k a b ρ (fun ys ρ1 => ys = xs ∧ ρ1 = ρ)) (ho : (vs.any fun v => isOwn ρ[v]?) = false)
    (hv : (vs.all fun v => decide (v < ρ.length)) = true) (ht : ∀ x ∈ xs, W (Pat.bind p x (wipeE ρ vs)) (fun ρa => match c with
      | .nil => wE G e ρa (fun v ρc => W v.pure? (fun y => f x = some y ∧ wipeE ρc vs = wipeE ρ vs))
      | c => wE G c ρa (fun v ρb => W v.pure? (fun y => W (asBool y) (fun q => if q = true then wE G e ρb (fun v ρc => W v.pure? (fun y => f x = some y ∧ wipeE ρc vs = wipeE ρ vs)) else f x = none ∧ wipeE ρb vs = wipeE ρ vs)))))
    (q : Q (.d (.lst (xs.filterMap f))) ρ) : wE G (.comp vs p k a b c e) ρ Q := by first | exact wE_comp0 f hit ho hv ht q
end
theorem W_mono {α : Type} {o : Option α} {Q Q' : α → Prop} (h : W o Q) (i : ∀ x, Q x → Q' x) : W o Q' := W_mono0 h i
theorem W_of {α : Type} {o : Option α} {x : α} {Q : α → Prop} (h : o = some x) (q : Q x) : W o Q := W_of0 h q
theorem W_eq {α : Type} {o : Option α} {x : α} (h : W o (fun y => y = x)) : o = some x := W_eq0 h
theorem W_call {T : Prg} {k f np n : Nat} {ir : IR} {as : List EV} {Q : EV × List EV → Prop} (h : T.fns f = some ⟨np, n, ir⟩) (hk : 1 ≤ k) (hl : as.length = np)
    (q : ∀ j, k = j + 1 → wS (Cf T j) T.w ir (as.map some ++ List.replicate (n - np) none) (fun o => W (outOf np o) Q)) : W (ev T k f as) Q := W_call0 h hk hl q
theorem W_ext {α : Type} {o : Option α} {Q Q' : α → Prop} (h : ∀ x, Q x = Q' x) : W o Q = W o Q' := by
  have : Q = Q' := funext h
  subst this; exact rfl
end Ov

set_option maxHeartbeats 4000000
namespace Ov
open PySem
theorem q_get0 {α : Type} {a : α} {l : List α} : (a :: l)[0]? = some a := (rfl)
theorem q_getS {α : Type} {a : α} {l : List α} {i : Nat} : (a :: l)[i + 1]? = l[i]? := (rfl)
theorem q_set0 {α : Type} {a b : α} {l : List α} : (a :: l).set 0 b = b :: l := (rfl)
theorem q_setS {α : Type} {a b : α} {l : List α} {i : Nat} : (a :: l).set (i + 1) b = a :: l.set i b := (rfl)
theorem q_mapC {α β : Type} {f : α → β} {a : α} {l : List α} : (a :: l).map f = f a :: l.map f := (rfl)
theorem q_mapN {α β : Type} {f : α → β} : ([] : List α).map f = [] := (rfl)
theorem q_allC {α : Type} {f : α → Bool} {a : α} {l : List α} : (a :: l).all f = (f a && l.all f) := (rfl)
theorem q_allN {α : Type} {f : α → Bool} : ([] : List α).all f = true := (rfl)
theorem q_anyC {α : Type} {f : α → Bool} {a : α} {l : List α} : (a :: l).any f = (f a || l.any f) := (rfl)
theorem q_anyN {α : Type} {f : α → Bool} : ([] : List α).any f = false := (rfl)
theorem q_takeS {α : Type} {a : α} {l : List α} {n : Nat} : (a :: l).take (n + 1) = a :: l.take n := (rfl)
theorem q_take0 {α : Type} {l : List α} : l.take 0 = [] := by simp
theorem q_appC {α : Type} {a : α} {l m : List α} : a :: l ++ m = a :: (l ++ m) := (rfl)
theorem q_appN {α : Type} {m : List α} : [] ++ m = m := (rfl)
theorem q_gdS {α : Type} {a b : α} : (some a).getD b = a := (rfl)
theorem q_gdN {α : Type} {b : α} : (none : Option α).getD b = b := (rfl)
theorem q_bS {α β : Type} {a : α} {f : α → Option β} : (some a).bind f = f a := (rfl)
theorem q_bS' {α β : Type} {a : α} {f : α → Option β} : (some a >>= f) = f a := (rfl)
theorem q_lenC {α : Type} {a : α} {l : List α} : (a :: l).length = l.length + 1 := (rfl)
theorem q_lenN {α : Type} : ([] : List α).length = 0 := (rfl)
theorem q_nf : (!false) = true := (rfl)
theorem q_nt : (!true) = false := (rfl)
theorem q_pureN : pures [] = some [] := (rfl)
theorem q_pureC {v : Vl} {r : List Vl} : pures (v :: r) = (v.pure? >>= fun x => pures r >>= fun xs => some (x :: xs)) := (rfl)
theorem q_argN {ρ : Slots} : argsOf ρ [] = some [] := (rfl)
theorem q_argC {ρ : Slots} {v : Vl} {r : List Vl} : argsOf ρ (v :: r) = (v.arg ρ >>= fun x => argsOf ρ r >>= fun xs => some (x :: xs)) := (rfl)
theorem q_pickN {α : Type} {xs : List α} : pickAll xs [] = some [] := (rfl)
theorem q_pickC {α : Type} {xs : List α} {i : Nat} {r : List Nat} : pickAll xs (i :: r) = (xs[i]? >>= fun x => pickAll xs r >>= fun q => some (x :: q)) := (rfl)
theorem q_setA {ρ : Slots} {i : Nat} {b : Bool} {fs : List (Nat × Bool)} {v : EV} {vs : List EV} : setAll ρ ((i, b) :: fs) (v :: vs) = setAll (ρ.set i (some v)) fs vs := (rfl)
theorem q_setN {ρ : Slots} : setAll ρ [] [] = ρ := (rfl)
theorem q_bindN {i : Nat} {x : D} {ρ : Slots} : Pat.bind (.nm i) x ρ = some (ρ.set i (some (.d x))) := by simp only [Pat.bind]
theorem q_bindT {p : Pat} {x : D} {ρ : Slots} : Pat.bind (.tp p) x ρ = (x.ofSeq >>= fun xs => Pat.binds p xs ρ) := by simp only [Pat.bind]
theorem q_bindsN {ρ : Slots} : Pat.binds .nil [] ρ = some ρ := by simp only [Pat.binds]
theorem q_bindsC {a b : Pat} {x : D} {xs : List D} {ρ : Slots} : Pat.binds (.cons a b) (x :: xs) ρ = (Pat.bind a x ρ >>= fun ρ1 => Pat.binds b xs ρ1) := by simp only [Pat.binds]
theorem q_slN {i : Nat} : Pat.slots (.nm i) = [i] := (rfl)
theorem q_slE : Pat.slots .nil = [] := (rfl)
theorem q_slC {a b : Pat} : Pat.slots (.cons a b) = a.slots ++ b.slots := (rfl)
theorem q_slT {p : Pat} : Pat.slots (.tp p) = p.slots := (rfl)
theorem q_ok {ρ : Slots} {i : Nat} : okSet ρ i = !isBox ρ[i]? := (rfl)
theorem q_part {ρ : Slots} {v : Vl} : partD ρ v = (v.look ρ >>= fun x => asInt x >>= fun i => some (some i)) := (rfl)
theorem wO_add {G : Cfg} {a b : IR} {ρ : Slots} {Q : List D → Slots → Prop} : wO G (.op .add a b) ρ Q = wE G (.op .add a b) ρ (fun v ρ1 => match v with
    | .d (.lst xs) => Q xs ρ1
    | _ => False) := wO_of (rfl)
theorem wO_mul {G : Cfg} {a b : IR} {ρ : Slots} {Q : List D → Slots → Prop} : wO G (.op .mul a b) ρ Q = wE G (.op .mul a b) ρ (fun v ρ1 => match v with
    | .d (.lst xs) => Q xs ρ1
    | _ => False) := wO_of (rfl)
theorem W_eqn {α : Type} {o : Option α} {x : α} (h : o = some x) {Q : α → Prop} : W o Q = Q x := by rw [h, W_some]
theorem ofString_inj {a b : String} : (Str.ofString a = Str.ofString b) = (a = b) := by
  apply propext
  constructor
  · intro h
    have h2 : (Str.ofString a).cps.toList = (Str.ofString b).cps.toList := by rw [h]
    have e : ∀ s : String, (Str.ofString s).cps.toList = s.toList.map Char.toNat := fun s => by
      rw [Str.ofString_eq_toList]
    rw [e, e] at h2
    have h3 : a.toList = b.toList := (List.map_inj_right (fun x y hxy => Char.ext (UInt32.toNat_inj.mp hxy))).mp h2
    exact String.toList_inj.mp h3
  · intro h; rw [h]
theorem cmp_eq_str {a b : Str} : cmpD .eq (.str a) (.str b) = some (decide (a = b)) := by
  simp only [cmpD, eqD, D.depth, D.eqv]; exact (rfl)
theorem cmp_ne_str {a b : Str} : cmpD .ne (.str a) (.str b) = some (!decide (a = b)) := by
  simp only [cmpD, eqD, D.depth, D.eqv]; exact (rfl)
theorem cmp_eq_int {a b : Int} : cmpD .eq (.int a) (.int b) = some (decide (a = b)) := by
  simp only [cmpD, eqD, D.depth, D.eqv]; exact (rfl)
theorem cmp_ne_int {a b : Int} : cmpD .ne (.int a) (.int b) = some (!decide (a = b)) := by
  simp only [cmpD, eqD, D.depth, D.eqv]; exact (rfl)
theorem cmp_eq_bl {a b : Bool} : cmpD .eq (.bl a) (.bl b) = some (a == b) := by
  simp only [cmpD, eqD, D.depth, D.eqv]; exact (rfl)
theorem cmp_ne_bl {a b : Bool} : cmpD .ne (.bl a) (.bl b) = some (!(a == b)) := by
  simp only [cmpD, eqD, D.depth, D.eqv]; exact (rfl)
theorem cmp_lt {i j : Int} : cmpD .lt (.int i) (.int j) = some (decide (i < j)) := (rfl)
theorem cmp_le {i j : Int} : cmpD .le (.int i) (.int j) = some (decide (i ≤ j)) := (rfl)
theorem cmp_gt {i j : Int} : cmpD .gt (.int i) (.int j) = some (decide (j < i)) := (rfl)
theorem cmp_ge {i j : Int} : cmpD .ge (.int i) (.int j) = some (decide (j ≤ i)) := (rfl)
theorem op_add {i j : Int} : opD .add (.int i) (.int j) = some (.int (i + j)) := (rfl)
theorem op_addL {a b : List D} : opD .add (.lst a) (.lst b) = if a.length + b.length ≤ sizeLine then some (.lst (a ++ b)) else none := (rfl)
theorem op_addT {a b : List D} : opD .add (.tup a) (.tup b) = if a.length + b.length ≤ sizeLine then some (.tup (a ++ b)) else none := (rfl)
theorem op_sub {i j : Int} : opD .sub (.int i) (.int j) = some (.int (i - j)) := (rfl)
theorem op_mul {i j : Int} : opD .mul (.int i) (.int j) = if (small i || small j) = true then some (.int (i * j)) else none := (rfl)
theorem op_mulL {a : List D} {j : Int} : opD .mul (.lst a) (.int j) = if a.length * j.toNat ≤ sizeLine ∧ -(2 ^ 63) ≤ j ∧ j < 2 ^ 63 then some (.lst (List.replicate j.toNat a).flatten) else none := (rfl)
theorem op_fdiv {i j : Int} : opD .fdiv (.int i) (.int j) = if 0 < j ∧ j.natAbs.log2 < 9000 then some (.int (i / j)) else none := (rfl)
theorem op_mod {i j : Int} : opD .mod (.int i) (.int j) = if 0 < j then some (.int (i % j)) else none := (rfl)
theorem op_pow {i j : Int} : opD .pow (.int i) (.int j) = if 0 ≤ j ∧ j ≤ 1000000 ∧ i.natAbs < 2 ^ 64 then some (.int (i ^ j.toNat)) else none := (rfl)
theorem size_int : (sizeLine : Int) = (sizeLine : Nat) := (rfl)
theorem small_of {i : Int} (h : -(2 ^ 64) < i ∧ i < 2 ^ 64) : small i = true := decide_eq_true h
theorem sizeLine_ge : 1000000 ≤ sizeLine := by decide
theorem looks_nil {ρ : Slots} : looks ρ [] = some [] := (rfl)
theorem looks_cons {ρ : Slots} {v : Vl} {r : List Vl} : looks ρ (v :: r) = (v.look ρ >>= fun x => looks ρ r >>= fun xs => some (x :: xs)) := (rfl)
theorem ixD_lst {xs : List D} {n : Int} : ixD (.lst xs) n = atD xs n := (rfl)
theorem ixD_tup {xs : List D} {n : Int} : ixD (.tup xs) n = atD xs n := (rfl)
theorem ixD_seq {x : D} {xs : List D} {n : Int} (h : x.ofSeq = some xs) : ixD x n = atD xs n := by
  cases x <;> cases h <;> rfl
theorem ixN'_nat {n i : Nat} (h : i < n) : ixN' n (i : Int) = some i := by
  unfold ixN'
  rw [if_pos (by omega), if_pos (by omega)]
  simp
theorem ixN'_0 {n : Nat} : ixN' (n + 1) 0 = some 0 := ixN'_nat (i := 0) (by omega)
theorem ixN'_1 {n : Nat} : ixN' (n + 1 + 1) 1 = some 1 := ixN'_nat (i := 1) (by omega)
theorem ixN'_2 {n : Nat} : ixN' (n + 1 + 1 + 1) 2 = some 2 := ixN'_nat (i := 2) (by omega)
theorem atD_nat {xs : List D} {i : Nat} {x : D} (h : xs[i]? = some x) : atD xs (i : Int) = some x := by
  have hi := (List.getElem?_eq_some_iff.mp h).1
  unfold atD
  rw [ixN'_nat hi]
  exact h
theorem atD_0 {x : D} {xs : List D} : atD (x :: xs) 0 = some x := atD_nat (i := 0) rfl
theorem atD_1 {x y : D} {xs : List D} : atD (x :: y :: xs) 1 = some y := atD_nat (i := 1) rfl
theorem atD_2 {x y z : D} {xs : List D} : atD (x :: y :: z :: xs) 2 = some z := atD_nat (i := 2) rfl
theorem atD_3 {x y z u : D} {xs : List D} : atD (x :: y :: z :: u :: xs) 3 = some u := atD_nat (i := 3) rfl
theorem atD_int {xs : List D} {n : Int} {x : D} (h0 : 0 ≤ n) (h : xs[n.toNat]? = some x) : atD xs n = some x := by
  have := atD_nat h
  rwa [Int.toNat_of_nonneg h0] at this
theorem atD_last {xs : List D} {x : D} (h : xs.getLast? = some x) : atD xs (-1) = some x := by
  rw [List.getLast?_eq_getElem?] at h
  have hi := (List.getElem?_eq_some_iff.mp h).1
  unfold atD ixN'
  rw [if_neg (by omega), if_pos (by omega)]
  show xs[(-1 + (xs.length : Int)).toNat]? = _
  rw [show (-1 + (xs.length : Int)).toNat = xs.length - 1 by omega]
  exact h
theorem look_d {ρ : Slots} {x : D} : Vl.look ρ (.d x) = some x := (rfl)
def lookO : Option (Option EV) → Option D
  | some (some (.own _ xs)) => some (.lst xs)
  | _ => none
theorem lookO_own {b : Bool} {xs : List D} : lookO (some (some (.own b xs))) = some (.lst xs) := (rfl)
theorem look_s {ρ : Slots} {i : Nat} : Vl.look ρ (.slot i) = lookO ρ[i]? := by
  cases h : ρ[i]? with
  | none => simp [Vl.look, lookO, h]
  | some o =>
    cases o with
    | none => simp [Vl.look, lookO, h]
    | some e => cases e <;> simp [Vl.look, lookO, h]
def lookSO : Option (Option EV) → Option D
  | some (some (.own _ xs)) => some (.lst xs)
  | some (some (.scr ns)) => some (.lst (ns.map D.int))
  | _ => none
theorem lookSO_own {b : Bool} {xs : List D} : lookSO (some (some (.own b xs))) = some (.lst xs) := (rfl)
theorem lookSO_scr {xs : List Int} : lookSO (some (some (.scr xs))) = some (.lst (xs.map D.int)) := (rfl)
theorem lookS_d {ρ : Slots} {x : D} : Vl.lookS ρ (.d x) = some x := (rfl)
theorem lookS_s {ρ : Slots} {i : Nat} : Vl.lookS ρ (.slot i) = lookSO ρ[i]? := by
  cases h : ρ[i]? with
  | none => simp [Vl.lookS, lookSO, h]
  | some o =>
    cases o with
    | none => simp [Vl.lookS, lookSO, h]
    | some e => cases e <;> simp [Vl.lookS, lookSO, h]
theorem pure_d {x : D} : Vl.pure? (.d x) = some x := (rfl)
theorem arg_d {ρ : Slots} {x : D} : Vl.arg ρ (.d x) = some (.d x) := (rfl)
def argO : Option (Option EV) → Option EV
  | some (some (.own _ xs)) => some (.own true xs)
  | some (some (.scr ns)) => some (.scr ns)
  | _ => none
theorem argO_own {b : Bool} {xs : List D} : argO (some (some (.own b xs))) = some (.own true xs) := (rfl)
theorem argO_scr {xs : List Int} : argO (some (some (.scr xs))) = some (.scr xs) := (rfl)
theorem arg_s {ρ : Slots} {i : Nat} : Vl.arg ρ (.slot i) = argO ρ[i]? := by
  cases h : ρ[i]? with
  | none => simp [Vl.arg, argO, h]
  | some o =>
    cases o with
    | none => simp [Vl.arg, argO, h]
    | some e => cases e <;> simp [Vl.arg, argO, h]
theorem toD_d {x : D} : EV.toD (.d x) = some x := (rfl)
theorem toD_own {b : Bool} {x : List D} : EV.toD (.own b x) = some (.lst x) := (rfl)
theorem asInt_int {i : Int} : asInt (.int i) = some i := (rfl)
theorem asBool_bl {i : Bool} : asBool (.bl i) = some i := (rfl)
theorem reown_own {ρ : Slots} {i : Nat} {b : Bool} {xs ys : List D} (h : ρ[i]? = some (some (.own b ys))) : reown ρ i xs = ρ.set i (some (.own b xs)) := by
  unfold reown; rw [h]
theorem reown_0 {b : Bool} {xs ys : List D} {r : Slots} : reown (some (.own b ys) :: r) 0 xs = some (.own b xs) :: r := (rfl)
theorem reown_succ {o : Option EV} {r : Slots} {i : Nat} {xs : List D} : reown (o :: r) (i + 1) xs = o :: reown r i xs := by
  unfold reown
  simp only [List.getElem?_cons_succ]
  split <;> simp_all
theorem putBack_s {ρ : Slots} {i : Nat} {vs : List Vl} {b : Bool} {xs : List D} {es : List EV} : putBack ρ (.slot i :: vs) (.own b xs :: es) = putBack (reown ρ i xs) vs es := (rfl)
theorem putBack_scr {ρ : Slots} {i : Nat} {vs : List Vl} {xs : List Int} {es : List EV} : putBack ρ (.slot i :: vs) (.scr xs :: es) = putBack ρ vs es := (rfl)
theorem putBack_d {ρ : Slots} {x : D} {vs : List Vl} {e : EV} {es : List EV} : putBack ρ (.d x :: vs) (e :: es) = putBack ρ vs es := by cases e <;> rfl
theorem putBack_n {ρ : Slots} {es : List EV} : putBack ρ [] es = ρ := by cases es <;> rfl
theorem slotsOf_n : slotsOf [] = [] := (rfl)
theorem slotsOf_s {i : Nat} {r : List Vl} : slotsOf (.slot i :: r) = i :: slotsOf r := (rfl)
theorem slotsOf_d {x : D} {r : List Vl} : slotsOf (.d x :: r) = slotsOf r := (rfl)
theorem outOf_ret {np : Nat} {v : EV} {ρ : Slots} : outOf np (.ret v ρ) = some (v, (ρ.take np).map fun o => o.getD (.d .non)) := (rfl)
theorem outOf_nx {np : Nat} {ρ : Slots} : outOf np (.nx ρ) = some (.d .non, (ρ.take np).map fun o => o.getD (.d .non)) := (rfl)
theorem isOwn_own {b : Bool} {x : List D} : isOwn (some (some (.own b x))) = true := (rfl)
theorem isOwn_d {x : D} : isOwn (some (some (.d x))) = false := (rfl)
theorem isOwn_n : isOwn (some none) = false := (rfl)
theorem isBox_t {x : List D} : isBox (some (some (.own true x))) = true := (rfl)
theorem isBox_f {x : List D} : isBox (some (some (.own false x))) = false := (rfl)
theorem isBox_d {x : D} : isBox (some (some (.d x))) = false := (rfl)
theorem isBox_c {k : List (Sum Int Str × D)} : isBox (some (some (.dic k))) = false := (rfl)
theorem isOwn_c {k : List (Sum Int Str × D)} : isOwn (some (some (.dic k))) = false := (rfl)
theorem dicO_c {k : List (Sum Int Str × D)} : dicO (some (some (.dic k))) = some k := (rfl)
theorem dgtO_s {k : List (Sum Int Str × D)} {z : Str} {y : D} : dgtO k (.str z) y = some ((lastKey (.inr z) k).getD y) := (rfl)
theorem ggtO_s {k : List (Str × D)} {z : Str} {y : D} : ggtO k (.str z) y = some ((dicD k z).getD y) := (rfl)
theorem dgiO_s {k : List (Sum Int Str × D)} {z : Str} : dgiO k (.str z) = lastKey (.inr z) k := (rfl)
theorem dinO_s {k : List (Sum Int Str × D)} {z : Str} : dinO k (.str z) = some (lastKey (.inr z) k).isSome := (rfl)
theorem isBox_n : isBox (some none) = false := (rfl)
theorem ofSeq_t {xs : List D} : D.ofSeq (.tup xs) = some xs := (rfl)
theorem ofSeq_l {xs : List D} : D.ofSeq (.lst xs) = some xs := (rfl)
theorem keyD_int {i : Int} : keyD (.int i) = some (.inl i) := (rfl)
theorem keyD_str {i : Str} : keyD (.str i) = some (.inr i) := (rfl)
theorem ofLst_l {xs : List D} : D.ofLst (.lst xs) = some xs := (rfl)
theorem isnD_non {b : Bool} : isnD b .non = !b := (rfl)
theorem isnD_int {b : Bool} {i : Int} : isnD b (.int i) = b := (rfl)
theorem isnD_str {b : Bool} {i : Str} : isnD b (.str i) = b := (rfl)
theorem isnD_tup {b : Bool} {i : List D} : isnD b (.tup i) = b := (rfl)
theorem isnD_lst {b : Bool} {i : List D} : isnD b (.lst i) = b := (rfl)
theorem lenD_l {xs : List D} : lenD (.lst xs) = some (.int xs.length) := (rfl)
theorem lenD_t {xs : List D} : lenD (.tup xs) = some (.int xs.length) := (rfl)
theorem lenD_seq {x : D} {xs : List D} (h : x.ofSeq = some xs) : lenD x = some (.int xs.length) := by
  cases x <;> cases h <;> rfl
theorem bi_abs {i : Int} : biD .abs [.int i] = some (.int (if i < 0 then -i else i)) := (rfl)
theorem bi_intb {b : Bool} : biD .int [.bl b] = some (.int (if b = true then 1 else 0)) := (rfl)
theorem bi_int {b : Int} : biD .int [.int b] = some (.int b) := (rfl)
theorem bi_min2 {i j : Int} : biD .min2 [.int i, .int j] = some (.int (if j < i then j else i)) := (rfl)
theorem bi_max2 {i j : Int} : biD .max2 [.int i, .int j] = some (.int (if j > i then j else i)) := (rfl)
theorem bi_tuple {xs : List D} : biD .tuple [.lst xs] = some (.tup xs) := (rfl)
theorem bi_tuple' {xs : List D} : biD .tuple [.tup xs] = some (.tup xs) := (rfl)
theorem bi_list {xs : List D} : biD .list [.lst xs] = some (.lst xs) := (rfl)
theorem bi_list' {xs : List D} : biD .list [.tup xs] = some (.lst xs) := (rfl)
theorem pow7 : opD .pow (.int 10) (.int 7) = some (.int 10000000) := (rfl)
theorem pow18 : opD .pow (.int 10) (.int 18) = some (.int 1000000000000000000) := (rfl)
theorem pow12 : opD .pow (.int 10) (.int 12) = some (.int 1000000000000) := (rfl)
/-! ### draws -/
/-- the box: what is left of a great number, the seed, the counter -/
theorem q_slotN {ρ : Slots} : slotsD ρ [] = some [] := (rfl)
theorem q_slotC {ρ : Slots} {j : Nat} {js : List Nat} : slotsD ρ (j :: js) = ((slO ρ[j]?).bind fun x => (slotsD ρ js).bind fun xs => some (x :: xs)) := by
  simp only [slotsD]
  unfold slO
  split <;> rename_i h
  · simp only [h, Option.bind_some]
    cases slotsD ρ js <;> rfl
  · first
    | (split
       · rename_i x hx; exact absurd hx (h x)
       · rfl)
    | rfl
theorem slO_d {x : D} : slO (some (some (.d x))) = some x := (rfl)
theorem isT_t : isTrueD (.d (.bl true)) = true := (rfl)
def BoxOk (a b c : Int) : Prop := 0 ≤ a ∧ 0 ≤ b ∧ b < 2 ^ 62 ∧ 0 ≤ c ∧ c ≤ 10 ^ 12
def bx (a b c : Int) : List D := [.int a, .int b, .int c]
theorem log2_small {m : Int} (h0 : 0 < m) (h : m ≤ 10 ^ 100) : 0 < m ∧ m.natAbs.log2 < 9000 := by
  refine ⟨h0, ?_⟩
  have h1 : m.natAbs < 2 ^ 9000 := by
    have : (m.natAbs : Int) ≤ 10 ^ 100 := by omega
    have e : (10 ^ 100 : Nat) < 2 ^ 9000 := by decide +kernel
    have : m.natAbs ≤ 10 ^ 100 := by exact_mod_cast this
    omega
  exact (Nat.log2_lt (by omega)).mpr h1
theorem partW_int {G : Cfg} {n : Int} {ρ : Slots} {Q : Option Int → Slots → Prop} : partW G (.int n) ρ Q = wE G (.int n) ρ (fun v ρ1 => W (partD ρ1 v) (fun p => Q p ρ1)) := partW_some (fun h => by cases h)
theorem partW_var {G : Cfg} {i : Nat} {ρ : Slots} {Q : Option Int → Slots → Prop} : partW G (.var i) ρ Q = wE G (.var i) ρ (fun v ρ1 => W (partD ρ1 v) (fun p => Q p ρ1)) := partW_some (fun h => by cases h)
theorem partW_op {G : Cfg} {o : BOp} {a b : IR} {ρ : Slots} {Q : Option Int → Slots → Prop} : partW G (.op o a b) ρ Q = wE G (.op o a b) ρ (fun v ρ1 => W (partD ρ1 v) (fun p => Q p ρ1)) := partW_some (fun h => by cases h)
theorem partW_neg {G : Cfg} {a : IR} {ρ : Slots} {Q : Option Int → Slots → Prop} : partW G (.neg a) ρ Q = wE G (.neg a) ρ (fun v ρ1 => W (partD ρ1 v) (fun p => Q p ρ1)) := partW_some (fun h => by cases h)
theorem partW_call {G : Cfg} {f : Nat} {es : IR} {ρ : Slots} {Q : Option Int → Slots → Prop} : partW G (.call f es) ρ Q = wE G (.call f es) ρ (fun v ρ1 => W (partD ρ1 v) (fun p => Q p ρ1)) := partW_some (fun h => by cases h)
theorem partW_lenS {G : Cfg} {a : IR} {ρ : Slots} {Q : Option Int → Slots → Prop} : partW G (.lenS a) ρ Q = wE G (.lenS a) ρ (fun v ρ1 => W (partD ρ1 v) (fun p => Q p ρ1)) := partW_some (fun h => by cases h)
theorem partW_bi {G : Cfg} {b : Bi} {es : IR} {ρ : Slots} {Q : Option Int → Slots → Prop} : partW G (.bi b es) ρ Q = wE G (.bi b es) ρ (fun v ρ1 => W (partD ρ1 v) (fun p => Q p ρ1)) := partW_some (fun h => by cases h)
theorem partW_ife {G : Cfg} {a b c : IR} {ρ : Slots} {Q : Option Int → Slots → Prop} : partW G (.ife a b c) ρ Q = wE G (.ife a b c) ρ (fun v ρ1 => W (partD ρ1 v) (fun p => Q p ρ1)) := partW_some (fun h => by cases h)
end Ov

set_option maxHeartbeats 4000000
local macro_rules
  | `(tactic| simp_arith only [$xs,*] $[$l:location]?) => `(tactic| simp -implicitDefEqProofs only [↓Ov.wE_var, ↓Ov.wE_glob, ↓Ov.wE_int, ↓Ov.wE_str, ↓Ov.wE_bl, ↓Ov.wE_non, ↓Ov.wE_op, ↓Ov.wE_neg, ↓Ov.wE_cmp, ↓Ov.wE_chain, ↓Ov.wE_isn, ↓Ov.wE_stp, ↓Ov.wE_isb, ↓Ov.wE_one, ↓Ov.wE_band, ↓Ov.wE_bor, ↓Ov.wE_bnot, ↓Ov.wE_ife, ↓Ov.wE_tup, ↓Ov.wE_lst, ↓Ov.wE_idx, ↓Ov.wE_slc, ↓Ov.wE_call, ↓Ov.wE_callK, ↓Ov.wE_callT, ↓Ov.wE_lenS, ↓Ov.wE_bi, ↓Ov.wE_isi, ↓Ov.wE_dget, ↓Ov.wE_lrng, ↓Ov.wE_gdg, ↓Ov.wE_mt, ↓Ov.wE_frz, ↓Ov.wE_dgt, ↓Ov.wE_ggt, ↓Ov.wE_dgi, ↓Ov.wE_din, ↓Ov.wE_dmem, ↓Ov.wE_lset, ↓Ov.wE_mu, ↓Ov.wL_nil, ↓Ov.wL_cons, ↓Ov.wT_eq, ↓Ov.wI_seq, ↓Ov.wI_rng, ↓Ov.wI_enm, ↓Ov.wI_zip, ↓Ov.wO_call, ↓Ov.wO_lst, ↓Ov.wO_comp, ↓Ov.wO_add, ↓Ov.wO_mul, ↓Ov.wO_slc, ↓Ov.wO_lrng, ↓Ov.wO_list, ↓Ov.wP_nil, ↓Ov.wP_own, ↓Ov.wP_dat, ↓Ov.wC_def, ↓Ov.partW_nil, ↓Ov.partW_int, ↓Ov.partW_var, ↓Ov.partW_op, ↓Ov.partW_neg, ↓Ov.partW_call, ↓Ov.partW_lenS, ↓Ov.partW_bi, ↓Ov.partW_ife, ↓Ov.W_some, ↓Ov.W_none, ↓Ov.W_pure, ↓Ov.W_bind, ↓Ov.W_bind', ↓Ov.W_map, ↓Ov.W_ite, ↓Ov.thenW_nx, ↓Ov.thenW_ret, ↓Ov.thenW_brk, ↓Ov.thenW_ct, Ov.wS_skip, Ov.wS_seq, Ov.wS_asg, Ov.wS_asgO, Ov.wS_par, Ov.wS_setI, Ov.wS_aug, Ov.wS_prb, Ov.wS_dicS, Ov.wS_swp, Ov.wS_expr, Ov.wS_ret, Ov.wS_retO, Ov.wS_retV, Ov.wS_retN, Ov.wS_brk, Ov.wS_cnt, Ov.wS_ifS, Ov.wS_forS, Ov.wS_whS, Ov.wv_d, Ov.wv_own, Ov.wv_scr, Ov.ownF_own, Ov.ownA_own, Ov.W_some, Ov.W_none, Ov.W_pure, Ov.Cf_cf, Ov.Cf_gd, Ov.Cf_sh, Ov.Cf_dd, Ov.look_d, Ov.look_s, Ov.lookO_own, Ov.lookS_d, Ov.lookS_s, Ov.lookSO_own, Ov.lookSO_scr, Ov.pure_d, Ov.looks_nil, Ov.looks_cons, Ov.q_pureN, Ov.q_pureC, Ov.q_argN, Ov.q_argC, Ov.arg_d, Ov.arg_s, Ov.argO_own, Ov.argO_scr, Ov.slotsOf_n, Ov.slotsOf_s, Ov.slotsOf_d, Ov.putBack_s, Ov.putBack_scr, Ov.putBack_d, Ov.putBack_n, Ov.reown_0, Ov.reown_succ, Ov.toD_d, Ov.toD_own, Ov.asInt_int, Ov.asBool_bl, Ov.ixD_lst, Ov.ixD_tup, Ov.ixN'_0, Ov.ixN'_1, Ov.ixN'_2, Ov.atD_0, Ov.atD_1, Ov.atD_2, Ov.atD_3, Ov.op_add, Ov.op_addL, Ov.op_addT, Ov.op_sub, Ov.op_mul, Ov.op_mulL, Ov.op_fdiv, Ov.op_mod, Ov.pow7, Ov.pow18, Ov.pow12, Ov.cmp_lt, Ov.cmp_le, Ov.cmp_gt, Ov.cmp_ge, Ov.cmp_eq_str, Ov.cmp_ne_str, Ov.cmp_eq_int, Ov.cmp_ne_int, Ov.cmp_eq_bl, Ov.cmp_ne_bl, Ov.lenD_l, Ov.lenD_t, Ov.bi_abs, Ov.bi_intb, Ov.bi_int, Ov.bi_min2, Ov.bi_max2, Ov.bi_tuple, Ov.bi_tuple', Ov.bi_list, Ov.bi_list', Ov.q_setA, Ov.q_setN, Ov.q_bindN, Ov.q_bindT, Ov.q_bindsN, Ov.q_bindsC, Ov.q_slN, Ov.q_slE, Ov.q_slC, Ov.q_slT, Ov.q_slotN, Ov.q_slotC, Ov.slO_d, Ov.isT_t, Ov.q_ok, Ov.isBox_t, Ov.isBox_f, Ov.isBox_d, Ov.isBox_n, Ov.isBox_c, Ov.isOwn_c, Ov.dicO_c, Ov.dgtO_s, Ov.ggtO_s, Ov.dgiO_s, Ov.dinO_s, Ov.isOwn_own, Ov.isOwn_d, Ov.isOwn_n, Ov.outOf_ret, Ov.outOf_nx, Ov.q_part, Ov.q_pickN, Ov.q_pickC, Ov.ofSeq_t, Ov.ofSeq_l, Ov.ofLst_l, Ov.keyD_int, Ov.keyD_str, Ov.isnD_non, Ov.isnD_int, Ov.isnD_str, Ov.isnD_tup, Ov.isnD_lst, Ov.q_get0, Ov.q_getS, Ov.q_set0, Ov.q_setS, Ov.q_mapC, Ov.q_mapN, Ov.q_allC, Ov.q_allN, Ov.q_anyC, Ov.q_anyN, Ov.q_takeS, Ov.q_take0, List.nodup_cons, List.nodup_nil, List.not_mem_nil, Ov.q_appC, Ov.q_appN, List.append_nil, Ov.ofString_inj, String.reduceEq, decide_true, decide_false, Ov.q_bS, Ov.q_bS', Ov.q_gdS, Ov.q_gdN, Bool.and_true, Bool.true_and, Bool.false_and, Bool.and_false, Ov.q_nf, Ov.q_nt, Bool.or_false, Bool.false_or, Bool.false_eq_true, decide_eq_true_eq, if_true, if_false, not_false_eq_true, and_true, true_and, and_self, Ov.q_lenC, Ov.q_lenN, $xs,*] $[$l:location]?)
local macro_rules
  | `(tactic| simp_arith [$xs,*] $[$l:location]?) => `(tactic| simp -implicitDefEqProofs only [↓Ov.wE_var, ↓Ov.wE_glob, ↓Ov.wE_int, ↓Ov.wE_str, ↓Ov.wE_bl, ↓Ov.wE_non, ↓Ov.wE_op, ↓Ov.wE_neg, ↓Ov.wE_cmp, ↓Ov.wE_chain, ↓Ov.wE_isn, ↓Ov.wE_stp, ↓Ov.wE_isb, ↓Ov.wE_one, ↓Ov.wE_band, ↓Ov.wE_bor, ↓Ov.wE_bnot, ↓Ov.wE_ife, ↓Ov.wE_tup, ↓Ov.wE_lst, ↓Ov.wE_idx, ↓Ov.wE_slc, ↓Ov.wE_call, ↓Ov.wE_callK, ↓Ov.wE_callT, ↓Ov.wE_lenS, ↓Ov.wE_bi, ↓Ov.wE_isi, ↓Ov.wE_dget, ↓Ov.wE_lrng, ↓Ov.wE_gdg, ↓Ov.wE_mt, ↓Ov.wE_frz, ↓Ov.wE_dgt, ↓Ov.wE_ggt, ↓Ov.wE_dgi, ↓Ov.wE_din, ↓Ov.wE_dmem, ↓Ov.wE_lset, ↓Ov.wE_mu, ↓Ov.wL_nil, ↓Ov.wL_cons, ↓Ov.wT_eq, ↓Ov.wI_seq, ↓Ov.wI_rng, ↓Ov.wI_enm, ↓Ov.wI_zip, ↓Ov.wO_call, ↓Ov.wO_lst, ↓Ov.wO_comp, ↓Ov.wO_add, ↓Ov.wO_mul, ↓Ov.wO_slc, ↓Ov.wO_lrng, ↓Ov.wO_list, ↓Ov.wP_nil, ↓Ov.wP_own, ↓Ov.wP_dat, ↓Ov.wC_def, ↓Ov.partW_nil, ↓Ov.partW_int, ↓Ov.partW_var, ↓Ov.partW_op, ↓Ov.partW_neg, ↓Ov.partW_call, ↓Ov.partW_lenS, ↓Ov.partW_bi, ↓Ov.partW_ife, ↓Ov.W_some, ↓Ov.W_none, ↓Ov.W_pure, ↓Ov.W_bind, ↓Ov.W_bind', ↓Ov.W_map, ↓Ov.W_ite, ↓Ov.thenW_nx, ↓Ov.thenW_ret, ↓Ov.thenW_brk, ↓Ov.thenW_ct, Ov.wv_d, Ov.wv_own, Ov.wv_scr, Ov.ownF_own, Ov.ownA_own, Ov.W_some, Ov.W_none, Ov.W_pure, Ov.Cf_cf, Ov.Cf_gd, Ov.Cf_sh, Ov.Cf_dd, Ov.look_d, Ov.look_s, Ov.lookO_own, Ov.lookS_d, Ov.lookS_s, Ov.lookSO_own, Ov.lookSO_scr, Ov.pure_d, Ov.looks_nil, Ov.looks_cons, Ov.q_pureN, Ov.q_pureC, Ov.q_argN, Ov.q_argC, Ov.arg_d, Ov.arg_s, Ov.argO_own, Ov.argO_scr, Ov.slotsOf_n, Ov.slotsOf_s, Ov.slotsOf_d, Ov.putBack_s, Ov.putBack_scr, Ov.putBack_d, Ov.putBack_n, Ov.reown_0, Ov.reown_succ, Ov.toD_d, Ov.toD_own, Ov.asInt_int, Ov.asBool_bl, Ov.ixD_lst, Ov.ixD_tup, Ov.ixN'_0, Ov.ixN'_1, Ov.ixN'_2, Ov.atD_0, Ov.atD_1, Ov.atD_2, Ov.atD_3, Ov.op_add, Ov.op_addL, Ov.op_addT, Ov.op_sub, Ov.op_mul, Ov.op_mulL, Ov.op_fdiv, Ov.op_mod, Ov.pow7, Ov.pow18, Ov.pow12, Ov.cmp_lt, Ov.cmp_le, Ov.cmp_gt, Ov.cmp_ge, Ov.cmp_eq_str, Ov.cmp_ne_str, Ov.cmp_eq_int, Ov.cmp_ne_int, Ov.cmp_eq_bl, Ov.cmp_ne_bl, Ov.lenD_l, Ov.lenD_t, Ov.bi_abs, Ov.bi_intb, Ov.bi_int, Ov.bi_min2, Ov.bi_max2, Ov.bi_tuple, Ov.bi_tuple', Ov.bi_list, Ov.bi_list', Ov.q_setA, Ov.q_setN, Ov.q_bindN, Ov.q_bindT, Ov.q_bindsN, Ov.q_bindsC, Ov.q_slN, Ov.q_slE, Ov.q_slC, Ov.q_slT, Ov.q_slotN, Ov.q_slotC, Ov.slO_d, Ov.isT_t, Ov.q_ok, Ov.isBox_t, Ov.isBox_f, Ov.isBox_d, Ov.isBox_n, Ov.isBox_c, Ov.isOwn_c, Ov.dicO_c, Ov.dgtO_s, Ov.ggtO_s, Ov.dgiO_s, Ov.dinO_s, Ov.isOwn_own, Ov.isOwn_d, Ov.isOwn_n, Ov.outOf_ret, Ov.outOf_nx, Ov.q_part, Ov.q_pickN, Ov.q_pickC, Ov.ofSeq_t, Ov.ofSeq_l, Ov.ofLst_l, Ov.keyD_int, Ov.keyD_str, Ov.isnD_non, Ov.isnD_int, Ov.isnD_str, Ov.isnD_tup, Ov.isnD_lst, Ov.q_get0, Ov.q_getS, Ov.q_set0, Ov.q_setS, Ov.q_mapC, Ov.q_mapN, Ov.q_allC, Ov.q_allN, Ov.q_anyC, Ov.q_anyN, Ov.q_takeS, Ov.q_take0, List.nodup_cons, List.nodup_nil, List.not_mem_nil, Ov.q_appC, Ov.q_appN, List.append_nil, Ov.ofString_inj, String.reduceEq, decide_true, decide_false, Ov.q_bS, Ov.q_bS', Ov.q_gdS, Ov.q_gdN, Bool.and_true, Bool.true_and, Bool.false_and, Bool.and_false, Ov.q_nf, Ov.q_nt, Bool.or_false, Bool.false_or, Bool.false_eq_true, decide_eq_true_eq, if_true, if_false, not_false_eq_true, and_true, true_and, and_self, Ov.q_lenC, Ov.q_lenN, $xs,*] $[$l:location]?)
namespace Ov
open PySem
theorem sm_l {i j : Int} (h : -(2 ^ 64) < i ∧ i < 2 ^ 64) : (small i || small j) = true := by rw [small_of h]; rfl
theorem sm_r {i j : Int} (h : -(2 ^ 64) < j ∧ j < 2 ^ 64) : (small i || small j) = true := by rw [small_of h, Bool.or_true]
structure Dr (T : Prg) : Prop where
  cell_at : T.fns 11 = some fn_cell_at
  box : T.fns 12 = some fn_box
  take : T.fns 13 = some fn_take
  of : T.fns 14 = some fn_of
/-- draws alone -/
structure Dr0 (T : Prg) : Prop where
  take : T.fns 13 = some fn_take
  of : T.fns 14 = some fn_of
instance {T : Prg} : Coe (Dr T) (Dr0 T) := ⟨fun h => ⟨h.take, h.of⟩⟩
structure Core (T : Prg) : Prop extends Dr T where
  same : T.fns 15 = some fn_same
  lists : T.fns 16 = some fn_lists
  half : T.fns 17 = some fn_half
instance {T : Prg} : Coe (Core T) (T.fns 15 = some fn_same) := ⟨fun h => h.same⟩
instance {T : Prg} : Coe (Core T) (T.fns 16 = some fn_lists) := ⟨fun h => h.lists⟩
/-- a box whose counter is at most n -/
def Bx (n : Nat) (B : List D) : Prop := ∃ x y z : Int, B = [.int x, .int y, .int z] ∧ 0 ≤ x ∧ 0 ≤ y ∧ y < 2 ^ 62 ∧ 0 ≤ z ∧ z ≤ n
theorem Bx.mono {n m : Nat} {B : List D} (h : Bx n B) (hm : n ≤ m) : Bx m B := by
  obtain ⟨x, y, z, e, h1, h2, h3, h4, h5⟩ := h
  exact ⟨x, y, z, e, h1, h2, h3, h4, by omega⟩
section
variable {T : Prg} {k n : Nat} {b : Bool} {B : List D} {m : Int} {Q : EV × List EV → Prop}
theorem W_take1 (hT : Dr0 T) (hk : 1 ≤ k) (hB : Bx n B) (hn : n ≤ 10 ^ 12) (hm : 0 < m) (hm2 : m ≤ 10 ^ 7) (q : ∀ r B', 0 ≤ r → r < m → Bx (n + 1) B' → Q (.d (.int r), [.own b B', .d (.int m)])) : W (ev T k 13 [.own b B, .d (.int m)]) Q := by
  obtain ⟨x, y, z, rfl, hx, hy, hy2, hz, hz2⟩ := hB
  refine W_call hT.take hk rfl fun j hj => ?_
  show wS _ _ ir_take [some (.own b _), some (.d (.int m)), none, none, none] _
  simp_arith only [ir_take]
  by_cases h1 : 0 < x
  · rw [if_pos h1, if_pos hm, if_pos (log2_small hm (by omega))]
    exact q _ _ (Int.emod_nonneg _ (by omega)) (Int.emod_lt_of_pos _ hm) ⟨_, _, _, rfl, Int.ediv_nonneg hx (by omega), hy, hy2, hz, by omega⟩
  · rw [if_neg h1, if_neg (by omega)]
    have e1 := Int.emod_nonneg ((y + 48271 * (z + 1)) * (39373 + (z + 1)) % 2147483647) (show (40009 : Int) ≠ 0 by decide)
    have e2 := Int.emod_lt_of_pos ((y + 48271 * (z + 1)) * (39373 + (z + 1)) % 2147483647) (show (0 : Int) < 40009 by decide)
    rw [if_pos (sm_l (by decide)), if_pos (sm_r (by omega)), if_pos (by decide), if_pos (by decide), if_pos (by decide), if_pos (sm_r (by omega)), if_pos (by decide), if_pos (sm_r (by decide)), if_pos (by decide), if_pos (by decide), if_pos hm]
    exact q _ _ (Int.emod_nonneg _ (by omega)) (Int.emod_lt_of_pos _ hm) ⟨_, _, _, rfl, hx, hy, hy2, by omega, by omega⟩
/-- a draw -/
theorem W_take (hT : Dr0 T) (hk : 2 ≤ k) (hB : Bx n B) (hn : n + 2 ≤ 10 ^ 12) (hm : 0 < m) (hm2 : m ≤ 10 ^ 13) (q : ∀ r B', 0 ≤ r → r < m → Bx (n + 2) B' → Q (.d (.int r), [.own b B', .d (.int m)])) : W (ev T k 13 [.own b B, .d (.int m)]) Q := by
  by_cases h7 : m ≤ 10 ^ 7
  · exact W_take1 hT (by omega) hB (by omega) hm h7 fun r B' h1 h2 h3 => q r B' h1 h2 (h3.mono (by omega))
  obtain ⟨x, y, z, rfl, hx, hy, hy2, hz, hz2⟩ := id hB
  refine W_call hT.take (by omega) rfl fun j hj => ?_
  show wS _ _ ir_take [some (.own b _), some (.d (.int m)), none, none, none] _
  simp_arith only [ir_take]
  by_cases h1 : 0 < x
  · rw [if_pos h1, if_pos hm, if_pos (log2_small hm (by omega))]
    exact q _ _ (Int.emod_nonneg _ (by omega)) (Int.emod_lt_of_pos _ hm) ⟨_, _, _, rfl, Int.ediv_nonneg hx (by omega), hy, hy2, hz, by omega⟩
  · rw [if_neg h1, if_pos (by omega)]
    refine W_take1 hT (by omega) hB (by omega) (by decide) (by decide) fun r B' h2 h3 hB' => ?_
    simp_arith only []
    rw [if_pos (by decide)]
    refine W_take1 hT (by omega) hB' (by omega) (by omega) (by omega) fun r2 B2 h4 h5 hB2 => ?_
    simp_arith only []
    rw [if_pos (sm_l (by decide)), if_pos hm]
    exact q _ _ (Int.emod_nonneg _ (by omega)) (Int.emod_lt_of_pos _ hm) hB2
theorem W_pick (hT : Dr0 T) (hk : 3 ≤ k) (hB : Bx n B) (hn : n + 2 ≤ 10 ^ 12) {s : D} {xs : List D} (hs : s.ofSeq = some xs) (h0 : xs ≠ []) (h1 : xs.length ≤ 10 ^ 7) (q : ∀ x B', x ∈ xs → Bx (n + 2) B' → Q (.d x, [.own b B', .d s])) : W (ev T k 14 [.own b B, .d s]) Q := by
  refine W_call hT.of (by omega) rfl fun j hj => ?_
  show wS _ _ ir_of [some (.own b _), some (.d s)] _
  have hl : 0 < xs.length := List.length_pos_iff.mpr h0
  simp_arith only [ir_of, lenD_seq hs]
  refine W_take hT (by omega) hB hn (by omega) (by omega) fun r B' h2 h3 hB' => ?_
  have hlt : r.toNat < xs.length := by omega
  simp_arith only [ixD_seq hs, atD_int h2 (List.getElem?_eq_getElem hlt)]
  exact q _ _ (List.getElem_mem hlt) hB'
theorem W_box (hT : Dr T) (hk : 2 ≤ k) {ns : List Int} {i : Int} (h0 : 0 ≤ i) (hi : i ≤ 1000) (q : ∀ B', Bx 0 B' → Q (.own false B', [.scr ns, .d (.int i)])) : W (ev T k 12 [.scr ns, .d (.int i)]) Q := by
  refine W_call hT.box (by omega) rfl fun j hj => ?_
  show wS _ _ ir_box [some (.scr ns), some (.d (.int i)), none] _
  simp_arith only [ir_box]
  have hc : ∃ c : Int, ev T j 11 [.scr ns, .d (.int i)] = some (.d (.int c), [.scr ns, .d (.int i)]) := by
    suffices h : W (ev T j 11 [.scr ns, .d (.int i)]) (fun q => ∃ c : Int, q = (.d (.int c), [.scr ns, .d (.int i)])) by
      obtain ⟨q, h1, c, h2⟩ := h
      exact ⟨c, by rw [h1, h2]⟩
    refine W_call hT.cell_at (by omega) rfl fun j hj => ?_
    show wS _ _ ir_cell_at [some (.scr ns), some (.d (.int i))] _
    simp_arith only [ir_cell_at]
    by_cases hl : i < (ns.map D.int).length
    · rw [if_pos hl]
      have hlt : i.toNat < ns.length := by rw [List.length_map] at hl; omega
      have e : atD (ns.map D.int) i = some (.int ns[i.toNat]) := atD_int h0 (by rw [List.getElem?_map, List.getElem?_eq_getElem hlt]; rfl)
      simp_arith only [e]
      exact ⟨_, rfl⟩
    · rw [if_neg hl]
      exact ⟨_, rfl⟩
  obtain ⟨c, hc⟩ := hc
  rw [hc]
  simp_arith only []
  have e1 := Int.emod_nonneg c (show (2305843009213693951 : Int) ≠ 0 by decide)
  have e2 := Int.emod_lt_of_pos c (show (0 : Int) < 2305843009213693951 by decide)
  have e3 : ∀ p : Prop, [Decidable p] → -(2 ^ 64) < (if p then (1 : Int) else 0) ∧ (if p then (1 : Int) else 0) < 2 ^ 64 := fun p _ => by split <;> decide
  rw [if_pos (sm_r (e3 _)), if_pos (by decide), if_pos (sm_l (by decide)), if_pos (by decide)]
  refine q _ ⟨_, _, _, rfl, ?_, by omega, by omega, by omega, by omega⟩
  refine Int.mul_nonneg (by split <;> omega) ?_
  generalize (if c < 0 then -c else c) = u
  split <;> omega
end
/-! ### equal, and of the same kinds at every depth -/
theorem items_t {xs : List D} : D.items (.tup xs) = some xs := rfl
theorem items_l {xs : List D} : D.items (.lst xs) = some xs := rfl
theorem zipO_t {xs ys : List D} : zipO (.tup xs) (.tup ys) = some (zipD xs ys) := rfl
theorem zipO_l {xs ys : List D} : zipO (.lst xs) (.lst ys) = some (zipD xs ys) := rfl
theorem boolsD_map {α : Type} (f : α → Bool) : ∀ xs : List α, boolsD (xs.map fun x => D.bl (f x)) = some (xs.map f)
  | [] => rfl
  | x :: xs => by simp only [List.map_cons, boolsD, boolsD_map f xs, Option.map_some]
theorem bi_all {bs : List Bool} : biD .all [.lst (bs.map D.bl)] = some (.bl (bs.all id)) := by
  have := boolsD_map (fun b => b) bs
  simp only [List.map_id'] at this
  show (boolsD (bs.map D.bl)).map _ = _
  have e : bs.map D.bl = bs.map fun x => D.bl x := rfl
  rw [e, this]; rfl
theorem depths_mem {x : D} : ∀ {xs : List D}, x ∈ xs → x.depth ≤ D.depths xs
  | y :: xs, h => by
    rcases List.mem_cons.mp h with e | e
    · subst e; simp only [D.depths]; omega
    · have := depths_mem e; simp only [D.depths]; omega
theorem zip_self_mem {x : D} {xs : List D} (h : x ∈ zipD xs xs) : ∃ y ∈ xs, x = .tup [y, y] := by
  unfold zipD at h
  obtain ⟨⟨a, b⟩, h1, rfl⟩ := List.mem_map.mp h
  obtain ⟨i, hi⟩ := List.getElem?_of_mem h1
  obtain ⟨e1, e2⟩ := List.getElem?_zip_eq_some.mp hi
  dsimp only at e1 e2
  rw [e1] at e2; cases e2
  exact ⟨a, List.mem_of_getElem? e1, rfl⟩
theorem zip_true (xs : List D) : (zipD xs xs).filterMap (fun _ => some (D.bl true)) = (xs.map fun _ => true).map D.bl := by
  unfold zipD
  rw [List.filterMap_map]
  show List.filterMap (fun _ => some (D.bl true)) (xs.zip xs) = _
  rw [List.filterMap_eq_map']
  apply List.ext_getElem?
  intro i
  simp only [List.getElem?_map, List.getElem?_zip_eq_some]
  cases h : xs[i]? <;> simp [List.zip, List.getElem?_zipWith, h]
theorem cmp_eq_non : cmpD .eq .non .non = some true := rfl
theorem same_refl {T : Prg} (hT : T.fns 15 = some fn_same) : ∀ (k : Nat) (x : D), x.depth + 1 ≤ k → ev T k 15 [.d x, .d x] = some (.d (.bl true), [.d x, .d x])
  | 0, x, hk => by omega
  | k + 1, x, hk => W_eq (W_call hT (by omega) rfl fun j hj => by
      obtain rfl : k = j := by omega
      show wS _ _ ir_same [some (.d _), some (.d _), none, none] _
      have key : ∀ (xs : List D) (Q : Vl → Slots → Prop) (a : IR) (ρ : Slots), D.depths xs + 1 ≤ k → (ρ = [some (.d (.tup xs)), some (.d (.tup xs)), none, none] ∨ ρ = [some (.d (.lst xs)), some (.d (.lst xs)), none, none]) →
          Q (.d (.lst ((xs.map fun _ => true).map D.bl))) ρ → wE (Cf T k) (.comp [2, 3] (.tp (.cons (.nm 2) (.cons (.nm 3) .nil))) .zip (.var 0) (.var 1) .nil (.call 15 (.cons (.var 2) (.cons (.var 3) .nil)))) ρ Q := by
        intro xs Q a ρ hd hρ q
        refine wE_comp (xs := zipD xs xs) (fun _ => some (.bl true)) ?_ ?_ ?_ ?_ ?_
        · rcases hρ with rfl | rfl <;> simp_arith only [zipO_t, zipO_l]
        · rcases hρ with rfl | rfl <;> rfl
        · rcases hρ with rfl | rfl <;> rfl
        · intro x hx
          obtain ⟨y, hy, rfl⟩ := zip_self_mem hx
          have hs := same_refl hT k y (by have := depths_mem hy; omega)
          rcases hρ with rfl | rfl <;> simp_arith only [wipeE, hs]
        · rw [zip_true]; exact q
      have hall : ∀ xs : List D, ((xs.map fun _ => true).all id) = true := fun xs => by simp
      cases x with
      | non => simp_arith only [ir_same, isTys, isTy, cmp_eq_non]; rfl
      | bl c => simp_arith only [ir_same, isTys, isTy]; cases c <;> rfl
      | int c => simp_arith only [ir_same, isTys, isTy]
      | str c => simp_arith only [ir_same, isTys, isTy]; rfl
      | tup xs =>
        simp only [D.depth] at hk
        simp_arith only [ir_same, isTys, isTy]
        simp_arith only [beq_self_eq_true]
        refine key xs _ .nil _ (by omega) (Or.inl rfl) ?_
        simp_arith only [bi_all, hall]
      | lst xs =>
        simp only [D.depth] at hk
        simp_arith only [ir_same, isTys, isTy]
        simp_arith only [beq_self_eq_true]
        refine key xs _ .nil _ (by omega) (Or.inr rfl) ?_
        simp_arith only [bi_all, hall])
/-! ### lists for tuples -/
mutual
def er : D → D
  | .tup xs => .tup (ers xs)
  | .lst xs => .tup (ers xs)
  | x => x
def ers : List D → List D
  | [] => []
  | x :: xs => er x :: ers xs
end
theorem ers_map : ∀ xs : List D, ers xs = xs.map er
  | [] => rfl
  | x :: xs => by simp only [ers, ers_map xs, List.map_cons]
theorem er_seq {x : D} {ys : List D} (h : er x = .tup ys) : ∃ xs, x.ofSeq = some xs ∧ xs.map er = ys := by
  cases x with
  | tup xs => simp only [er, ers_map] at h; cases h; exact ⟨xs, rfl, rfl⟩
  | lst xs => simp only [er, ers_map] at h; cases h; exact ⟨xs, rfl, rfl⟩
  | _ => cases h
theorem er_int {x : D} {i : Int} (h : er x = .int i) : x = .int i := by cases x <;> first | exact h | cases h
theorem er_str {x : D} {i : Str} (h : er x = .str i) : x = .str i := by cases x <;> first | exact h | cases h
theorem er_non {x : D} (h : er x = .non) : x = .non := by cases x <;> first | exact h | cases h
theorem er_bl {x : D} {i : Bool} (h : er x = .bl i) : x = .bl i := by cases x <;> first | exact h | cases h
/-- the value that a call gives -/
def val (T : Prg) (k f : Nat) (as : List EV) : Option D := (ev T k f as).bind fun r => r.1.toD
theorem fm_er {f : D → Option D} : ∀ {xs : List D}, (∀ x ∈ xs, ∃ y, f x = some y ∧ er y = er x) → (xs.filterMap f).map er = xs.map er
  | [], _ => rfl
  | x :: xs, h => by
    obtain ⟨y, h1, h2⟩ := h x (List.mem_cons_self ..)
    rw [List.filterMap_cons, h1]
    simp only [List.map_cons, h2, fm_er fun y hy => h y (List.mem_cons_of_mem _ hy)]
theorem W_lists {T : Prg} (hT : T.fns 16 = some fn_lists) : ∀ (k : Nat) (x : D), x.depth + 1 ≤ k → ∃ y, ev T k 16 [.d x] = some (.d y, [.d x]) ∧ er y = er x
  | 0, x, hk => by omega
  | k + 1, x, hk => by
    suffices h : W (ev T (k + 1) 16 [.d x]) (fun q => ∃ y, q = (.d y, [.d x]) ∧ er y = er x) by
      obtain ⟨q, h1, y, h2, h3⟩ := h
      exact ⟨y, by rw [h1, h2], h3⟩
    refine W_call hT (by omega) rfl fun j hj => ?_
    obtain rfl : k = j := by omega
    show wS _ _ ir_lists [some (.d _), none] _
    have key : ∀ (xs : List D) (Q : Vl → Slots → Prop) (ρ : Slots), D.depths xs + 1 ≤ k → (ρ = [some (.d (.tup xs)), none] ∨ ρ = [some (.d (.lst xs)), none]) →
        (∀ ys, ys.map er = xs.map er → Q (.d (.lst ys)) ρ) → wE (Cf T k) (.comp [1] (.nm 1) .seq (.var 0) .nil .nil (.call 16 (.cons (.var 1) .nil))) ρ Q := by
      intro xs Q ρ hd hρ q
      refine wE_comp (xs := xs) (fun x => val T k 16 [.d x]) ?_ ?_ ?_ ?_ (q _ (fm_er fun x hx => ?_))
      · rcases hρ with rfl | rfl <;> simp_arith only [items_t, items_l]
      · rcases hρ with rfl | rfl <;> rfl
      · rcases hρ with rfl | rfl <;> rfl
      · intro x hx
        obtain ⟨y, h1, h2⟩ := W_lists hT k x (by have := depths_mem hx; omega)
        rcases hρ with rfl | rfl <;> simp_arith only [wipeE, val, h1]
      · obtain ⟨y, h1, h2⟩ := W_lists hT k x (by have := depths_mem hx; omega)
        exact ⟨y, by simp only [val, h1]; rfl, h2⟩
    cases x with
    | tup xs =>
      simp only [D.depth] at hk
      simp_arith only [ir_lists, isTys, isTy]
      exact key xs _ _ (by omega) (Or.inl rfl) fun ys he => by
        simp_arith only []
        exact ⟨_, rfl, by simp only [er, ers_map, he]⟩
    | lst xs =>
      simp only [D.depth] at hk
      simp_arith only [ir_lists, isTys, isTy]
      exact key xs _ _ (by omega) (Or.inr rfl) fun ys he => by
        simp_arith only []
        exact ⟨_, rfl, by simp only [er, ers_map, he]⟩
    | _ =>
      simp_arith only [ir_lists, isTys, isTy]
      exact ⟨_, rfl, rfl⟩
theorem W_half {T : Prg} (hT : Core T) : ∀ (k : Nat) (x : D) (l : Int), x.depth + 1 ≤ k → ∃ y, ev T k 17 [.d x, .d (.int l)] = some (.d y, [.d x, .d (.int l)]) ∧ er y = er x
  | 0, x, l, hk => by omega
  | k + 1, x, l, hk => by
    suffices h : W (ev T (k + 1) 17 [.d x, .d (.int l)]) (fun q => ∃ y, q = (.d y, [.d x, .d (.int l)]) ∧ er y = er x) by
      obtain ⟨q, h1, y, h2, h3⟩ := h
      exact ⟨y, by rw [h1, h2], h3⟩
    refine W_call hT.half (by omega) rfl fun j hj => ?_
    obtain rfl : k = j := by omega
    show wS _ _ ir_half [some (.d _), some (.d _), none, none] _
    have key : ∀ (xs : List D) (Q : Vl → Slots → Prop) (ρ : Slots), D.depths xs + 1 ≤ k → (ρ = [some (.d (.tup xs)), some (.d (.int l)), none, none] ∨ ρ = [some (.d (.lst xs)), some (.d (.int l)), none, none]) →
        (∀ ys, ys.map er = xs.map er → Q (.d (.lst ys)) ρ) → wE (Cf T k) (.comp [3] (.nm 3) .seq (.var 0) .nil .nil (.call 17 (.cons (.var 3) (.cons (.op .add (.var 1) (.int 1)) .nil)))) ρ Q := by
      intro xs Q ρ hd hρ q
      refine wE_comp (xs := xs) (fun x => val T k 17 [.d x, .d (.int (l + 1))]) ?_ ?_ ?_ ?_ (q _ (fm_er fun x hx => ?_))
      · rcases hρ with rfl | rfl <;> simp_arith only [items_t, items_l]
      · rcases hρ with rfl | rfl <;> rfl
      · rcases hρ with rfl | rfl <;> rfl
      · intro x hx
        obtain ⟨y, h1, h2⟩ := W_half hT k x (l + 1) (by have := depths_mem hx; omega)
        rcases hρ with rfl | rfl <;> simp_arith only [wipeE, val, h1]
      · obtain ⟨y, h1, h2⟩ := W_half hT k x (l + 1) (by have := depths_mem hx; omega)
        exact ⟨y, by simp only [val, h1]; rfl, h2⟩
    cases x with
    | tup xs =>
      simp only [D.depth] at hk
      simp_arith only [ir_half, isTys, isTy]
      refine key xs _ _ (by omega) (Or.inl rfl) fun ys he => ?_
      simp_arith only [isTys, isTy]
      rw [if_pos (by decide)]
      by_cases hl : l % 2 = 0
      · rw [if_pos hl]; exact ⟨_, rfl, by simp only [er, ers_map, he]⟩
      · rw [if_neg hl]; exact ⟨_, rfl, by simp only [er, ers_map, he]⟩
    | lst xs =>
      simp only [D.depth] at hk
      simp_arith only [ir_half, isTys, isTy]
      refine key xs _ _ (by omega) (Or.inr rfl) fun ys he => ?_
      simp_arith only [isTys, isTy]
      rw [if_pos (by decide)]
      by_cases hl : l % 2 = 0
      · rw [if_pos hl]; exact ⟨_, rfl, by simp only [er, ers_map, he]⟩
      · rw [if_neg hl]; exact ⟨_, rfl, by simp only [er, ers_map, he]⟩
    | _ =>
      simp_arith only [ir_half, isTys, isTy]
      exact ⟨_, rfl, rfl⟩
end Ov

set_option maxHeartbeats 4000000
namespace Ov
open PySem
theorem mu_append {ys : List D} {x : D} : muD .append ys [x] = if ys.length < sizeLine then some (.non, ys ++ [x]) else none := rfl
def NB (o : Option EV) : Prop := isBox (some o) = false ∧ isOwn (some o) = false
theorem mu_extend {ys zs : List D} : muD .extend ys [.lst zs] = if ys.length + zs.length ≤ sizeLine then some (.non, ys ++ zs) else none := (rfl)
theorem range_get {N i : Nat} {x : D} (h : (range1 N)[i]? = some x) : i < N ∧ x = .int (i : Int) := by
  unfold range1 at h
  rw [List.getElem?_map] at h
  by_cases hi : i < N
  · rw [List.getElem?_range hi] at h
    exact ⟨hi, (Option.some.inj h).symm⟩
  · rw [List.getElem?_eq_none (by simpa using hi)] at h
    cases h
theorem compGo_idx {body : D → Slots → Option (Option D × Slots)} {I : Nat → List D → Slots → Prop} : ∀ (xs : List D) (n : Nat) (acc : List D) (ρ : Slots),
    (∀ (i : Nat) x acc ρ, xs[i]? = some x → I (n + i) acc ρ → ∃ y ρ', body x ρ = some (some y, ρ') ∧ I (n + i + 1) (acc ++ [y]) ρ') → I n acc ρ → ∃ ys ρ', compGo body xs ρ = some (ys, ρ') ∧ I (n + xs.length) (acc ++ ys) ρ'
  | [], n, acc, ρ, _, h => ⟨[], ρ, rfl, by simpa using h⟩
  | x :: xs, n, acc, ρ, hs, h => by
    obtain ⟨y, ρ1, h1, h2⟩ := hs 0 x acc ρ rfl h
    obtain ⟨ys, ρ2, h3, h4⟩ := compGo_idx xs (n + 1) (acc ++ [y]) ρ1 (fun i z a r hz hi => by
      have := hs (i + 1) z a r (by simpa using hz) (by rw [show n + (i + 1) = n + 1 + i by omega]; exact hi)
      rw [show n + (i + 1) + 1 = n + 1 + i + 1 by omega] at this
      exact this) h2
    refine ⟨y :: ys, ρ2, ?_, ?_⟩
    · simp only [compGo, h1, Option.bind_eq_bind, Option.bind_some, h3]; rfl
    · rw [show n + (x :: xs).length = n + 1 + xs.length by simp; omega]
      simpa using h4
theorem wE_compI {G : Cfg} {vs : List Nat} {p : Pat} {k : ItK} {a b e : IR} {ρ0 ρ1 : Slots} {xs : List D} {Q : Vl → Slots → Prop} (I : Nat → List D → Slots → Prop) (hit : wI G k a b ρ0 (fun ys ρ' => ys = xs ∧ ρ' = ρ1)) (ho : (vs.any fun v => isOwn ρ1[v]?) = false) (h0 : I 0 [] ρ1)
    (ht : ∀ (i : Nat) x acc ρ, xs[i]? = some x → I i acc ρ → W (Pat.bind p x (wipeE ρ vs)) (fun ρa => wE G e ρa (fun v ρc => W v.pure? (fun y => I (i + 1) (acc ++ [y]) ρc))))
    (q : ∀ ys ρ2, I xs.length ys ρ2 → Q (.d (.lst ys)) (restore ρ1 ρ2 vs)) : wE G (.comp vs p k a b .nil e) ρ0 Q := by
  obtain ⟨⟨ys0, ρ1'⟩, hi, rfl, rfl⟩ := hit
  obtain ⟨ys, ρ2, h1, h2⟩ := compGo_idx (body := fun x ρ => turnC G p .nil e x (wipeE ρ vs)) (I := I) ys0 0 [] ρ1' (fun i x acc ρ hx hI => by
    rw [Nat.zero_add] at hI ⊢
    obtain ⟨ρa, q1, ⟨v, ρc⟩, q2, y, q3, q4⟩ := ht i x acc ρ hx hI
    refine ⟨y, ρc, ?_, q4⟩
    show turnC G p .nil e x (wipeE ρ vs) = _
    unfold turnC
    rw [q1]
    show (evE G e ρa >>= _) = _
    rw [q2]
    show (v.pure? >>= _) = _
    rw [q3]; rfl) h0
  rw [Nat.zero_add, List.nil_append] at h2
  refine ⟨(.d (.lst ys), restore ρ1' ρ2 vs), ?_, q ys ρ2 h2⟩
  unfold evE
  rw [hi]
  show (if (vs.any fun v => isOwn ρ1'[v]?) = true then none else _) = _
  rw [if_neg (by rw [ho]; decide)]
  refine (congrArg (fun z => z >>= _) (?_ : compGo _ ys0 ρ1' = some (ys, ρ2))).trans ?_
  · rw [← h1]; congr 1
  · rfl
theorem filterMap_true {xs : List D} : xs.filterMap (fun _ => some (D.bl true)) = (xs.map fun _ => true).map D.bl := by
  rw [List.filterMap_eq_map', List.map_map]; rfl
theorem W_box2 {T : Prg} {k : Nat} {Q : EV × List EV → Prop} (h63 : T.fns 63 = some fn_box_2) (hk : 1 ≤ k) {ns : List Int} {i : Int} (h0 : 0 ≤ i) (hi : i ≤ 1000) (q : ∀ B', Bx 0 B' → Q (.own false B', [.scr ns, .d (.int i)])) : W (ev T k 63 [.scr ns, .d (.int i)]) Q := by
  refine W_call h63 (by omega) rfl fun j hj => ?_
  show wS _ _ ir_box_2 [some (.scr ns), some (.d (.int i)), none] _
  have key : ∀ c : Int, wS (Cf T j) T.w (.seq (.retO (.lst (.cons (.op .mul (.bi .abs (.cons (.var 2) .nil)) (.bi .int (.cons (.cmp .ge (.bi .abs (.cons (.var 2) .nil)) (.op .pow (.int 10) (.int 18))) .nil))) (.cons (.op .add (.op .add (.op .mod (.var 2) (.int 2305843009213693951)) (.op .mul (.int 39373) (.var 1))) (.int 71)) (.cons (.int 0) .nil)))))
    .skip) [some (.scr ns), some (.d (.int i)), some (.d (.int c))] (fun o => W (outOf 2 o) Q) := by
    intro c
    simp_arith only []
    have e1 := Int.emod_nonneg c (show (2305843009213693951 : Int) ≠ 0 by decide)
    have e2 := Int.emod_lt_of_pos c (show (0 : Int) < 2305843009213693951 by decide)
    have e3 : ∀ p : Prop, [Decidable p] → -(2 ^ 64) < (if p then (1 : Int) else 0) ∧ (if p then (1 : Int) else 0) < 2 ^ 64 := fun p _ => by split <;> decide
    rw [if_pos (sm_r (e3 _)), if_pos (by decide), if_pos (sm_l (by decide)), if_pos (by decide)]
    refine q _ ⟨_, _, _, rfl, ?_, by omega, by omega, by omega, by omega⟩
    refine Int.mul_nonneg (by split <;> omega) ?_
    generalize (if c < 0 then -c else c) = u
    split <;> omega
  unfold ir_box_2
  rw [wS_seq]
  simp_arith [wS_asg]
  by_cases hl : i < (ns.map D.int).length
  · rw [if_pos hl]
    have hlt : i.toNat < ns.length := by rw [List.length_map] at hl; omega
    have e : atD (ns.map D.int) i = some (.int ns[i.toNat]) := atD_int h0 (by rw [List.getElem?_map, List.getElem?_eq_getElem hlt]; rfl)
    simp_arith [e, thenW_nx]
    exact key _
  · rw [if_neg hl]
    exact key _
end Ov

set_option maxHeartbeats 4000000
namespace Ov
open PySem
/-! how long a repr is -/
mutual
def D.wt : D → Nat
  | .non => 5
  | .bl _ => 5
  | .int _ => 21
  | .str s => 10 * s.length + 2
  | .tup xs => D.wts xs + 4
  | .lst xs => D.wts xs + 4
def D.wts : List D → Nat
  | [] => 0
  | x :: xs => D.wt x + 2 + D.wts xs
end
mutual
def D.tame : D → Bool
  | .int i => decide (i.natAbs < 10 ^ 18)
  | .str s => s.cps.toList.all (· < 0x110000)
  | .tup xs => D.tames xs
  | .lst xs => D.tames xs
  | _ => true
def D.tames : List D → Bool
  | [] => true
  | x :: xs => D.tame x && D.tames xs
end
theorem textFrom_le : ∀ (ts : List Str) (k : Nat) (acc : Str), (textFrom k acc ts).length ≤ acc.length + piled ts
  | [], k, acc => by simp [textFrom]
  | t :: r, k, acc => by
    have h := textFrom_le r (k + 1) (acc ++ (if k > 0 then ", " else "" : String) ++ t)
    have e : (acc ++ (if k > 0 then ", " else "" : String) ++ t).length = acc.length + (if k > 0 then 2 else 0) + t.length := by
      rw [strLen_append, strLen_append]
      split <;> rfl
    have e2 : piled (t :: r) = t.length + 2 + piled r := by simp [piled]
    show (textFrom (k + 1) _ r).length ≤ _
    rw [e] at h
    rw [e2]
    have hc : (if k > 0 then 2 else 0 : Nat) ≤ 2 := by split <;> omega
    omega
theorem listText_le (ts : List Str) : (listText ts).length ≤ piled ts + 2 := by
  have h := textFrom_le ts 0 "["
  have e : (listText ts).length = (textFrom 0 "[" ts).length + 1 := by
    unfold listText
    rw [strLen_append]; rfl
  have e1 : ((("[" : String) : Str)).length = 1 := rfl
  omega
theorem tupleText_le (ts : List Str) : (tupleText ts).length ≤ piled ts + 4 := by
  have e : (tupleText ts).length ≤ 1 + (Str.join ", " ts).length + 2 := by
    unfold tupleText
    rw [strLen_append, strLen_append]
    have e1 : ((("(" : String) : Str)).length = 1 := rfl
    rw [e1]
    have : ((if ts.length == 1 then ",)" else ")" : String) : Str).length ≤ 2 := by
      split <;> decide
    omega
  cases ts with
  | nil =>
    have : (Str.join ", " ([] : List Str)).length = 0 := rfl
    omega
  | cons t r =>
    have := join_length_add (t :: r) (by simp)
    omega
theorem int_show {i : Int} (h : i.natAbs < 10 ^ 18) : (Str.ofString (toString i)).length ≤ 19 ∧ i.natAbs.log2 < 1920 := by
  have h1 := int_text_length_le10 (a := i) (k := 18) (by decide) h
  refine ⟨?_, ?_⟩
  · rw [ofString_length]; omega
  · by_cases h0 : i.natAbs = 0
    · rw [h0]; decide
    · rw [Nat.log2_lt h0]
      have : (10 : Nat) ^ 18 ≤ 2 ^ 1920 := by decide
      omega
mutual
theorem shown_le : ∀ x : D, x.tame = true → x.py.shown.length ≤ x.wt ∧ x.py.showable = true
  | .non, _ => ⟨by decide, rfl⟩
  | .bl b, _ => ⟨by cases b <;> decide, rfl⟩
  | .int i, h => by
    have h : i.natAbs < 10 ^ 18 := by simpa only [D.tame, decide_eq_true_eq] using h
    obtain ⟨h1, h2⟩ := int_show h
    refine ⟨?_, ?_⟩
    · show (Str.ofString (toString i)).length ≤ 21
      omega
    · show decide (i.natAbs.log2 < 1920) = true
      exact decide_eq_true h2
  | .str s, h => by
    have h : s.cps.toList.all (· < 0x110000) = true := h
    refine ⟨?_, rfl⟩
    show (reprText s).length ≤ 10 * s.length + 2
    refine StrLaws.reprText_len s fun c hc => ?_
    rw [List.all_eq_true] at h
    have := h c hc
    simp only [decide_eq_true_eq] at this
    omega
  | .tup xs, h => by
    obtain ⟨h1, h2⟩ := shown_les xs h
    have := tupleText_le (PyData.shownAll (D.pys xs))
    refine ⟨?_, h2⟩
    show (tupleText (PyData.shownAll (D.pys xs))).length ≤ D.wts xs + 4
    omega
  | .lst xs, h => by
    obtain ⟨h1, h2⟩ := shown_les xs h
    have := listText_le (PyData.shownAll (D.pys xs))
    refine ⟨?_, h2⟩
    show (listText (PyData.shownAll (D.pys xs))).length ≤ D.wts xs + 4
    omega
theorem shown_les : ∀ xs : List D, D.tames xs = true → piled (PyData.shownAll (D.pys xs)) ≤ D.wts xs ∧ PyData.showableAll (D.pys xs) = true
  | [], _ => ⟨by decide, rfl⟩
  | x :: xs, h => by
    have h : x.tame = true ∧ D.tames xs = true := by simpa only [D.tames, Bool.and_eq_true] using h
    obtain ⟨a1, a2⟩ := shown_le x h.1
    obtain ⟨b1, b2⟩ := shown_les xs h.2
    refine ⟨?_, ?_⟩
    · show piled (x.py.shown :: PyData.shownAll (D.pys xs)) ≤ x.wt + 2 + D.wts xs
      have e2 : piled (x.py.shown :: PyData.shownAll (D.pys xs)) = x.py.shown.length + 2 + piled (PyData.shownAll (D.pys xs)) := by simp [piled]
      omega
    · show (x.py.showable && PyData.showableAll (D.pys xs)) = true
      rw [a2, b2]; rfl
end
theorem repr_some {x : D} (h1 : x.depth ≤ 60) (h2 : x.tame = true) (h3 : x.wt ≤ sizeLine) : biD .repr [x] = some (.str x.py.shown) := by
  obtain ⟨a, b⟩ := shown_le x h2
  show reprD x = _
  unfold reprD
  rw [if_pos ⟨h1, b, by omega⟩]
/-! lists for tuples change neither -/
mutual
theorem er_wt : ∀ x : D, (er x).wt = x.wt ∧ (er x).tame = x.tame ∧ (er x).depth = x.depth
  | .non => ⟨rfl, rfl, rfl⟩
  | .bl _ => ⟨rfl, rfl, rfl⟩
  | .int _ => ⟨rfl, rfl, rfl⟩
  | .str _ => ⟨rfl, rfl, rfl⟩
  | .tup xs => by
    obtain ⟨a, b, c⟩ := er_wts xs
    exact ⟨by show D.wts (ers xs) + 4 = D.wts xs + 4; rw [a], b, by show D.depths (ers xs) + 1 = D.depths xs + 1; rw [c]⟩
  | .lst xs => by
    obtain ⟨a, b, c⟩ := er_wts xs
    exact ⟨by show D.wts (ers xs) + 4 = D.wts xs + 4; rw [a], b, by show D.depths (ers xs) + 1 = D.depths xs + 1; rw [c]⟩
theorem er_wts : ∀ xs : List D, D.wts (ers xs) = D.wts xs ∧ D.tames (ers xs) = D.tames xs ∧ D.depths (ers xs) = D.depths xs
  | [] => ⟨rfl, rfl, rfl⟩
  | x :: xs => by
    obtain ⟨a, b, c⟩ := er_wt x
    obtain ⟨a', b', c'⟩ := er_wts xs
    exact ⟨by show (er x).wt + 2 + D.wts (ers xs) = x.wt + 2 + D.wts xs; rw [a, a'], by show ((er x).tame && D.tames (ers xs)) = (x.tame && D.tames xs); rw [b, b'], by show max (er x).depth (D.depths (ers xs)) = max x.depth (D.depths xs); rw [c, c']⟩
end
end Ov

set_option maxHeartbeats 4000000
namespace Ov
open PySem
theorem fold_repP {α : Type} (a : Array α) : ∀ (n : Nat) (acc : Array α), ((List.replicate n a).foldl (· ++ ·) acc).toList = acc.toList ++ (List.replicate n a.toList).flatten
  | 0, acc => by simp
  | n + 1, acc => by
    rw [List.replicate_succ, List.foldl_cons, fold_repP a n, List.replicate_succ, List.flatten_cons, Array.toList_append, List.append_assoc]
theorem repS_cps (x : Str) (n : Nat) : (repS x n).cps.toList = (List.replicate n x.cps.toList).flatten := by
  have := fold_repP x.cps n #[]
  rw [List.nil_append] at this
  exact this
theorem repS_lenP (x : Str) (n : Nat) : (repS x n).length = n * x.length := by
  show (repS x n).cps.size = n * x.cps.size
  rw [← Array.length_toList, repS_cps, List.length_flatten, List.map_replicate, List.sum_replicate_nat, Array.length_toList]
/-! ### names, columns, orders that are drawn -/
theorem wE_compJ {G : Cfg} {vs : List Nat} {p : Pat} {k : ItK} {a b e : IR} {ρ0 : Slots} {Q : Vl → Slots → Prop}
    (h : wI G k a b ρ0 (fun xs ρ1 => (vs.any fun v => isOwn ρ1[v]?) = false ∧ ∃ I : Nat → List D → Slots → Prop, I 0 [] ρ1 ∧
      (∀ (i : Nat) x acc ρ, xs[i]? = some x → I i acc ρ → W (Pat.bind p x (wipeE ρ vs)) (fun ρa => wE G e ρa (fun v ρc => W v.pure? (fun y => I (i + 1) (acc ++ [y]) ρc)))) ∧
      ∀ ys ρ2, I xs.length ys ρ2 → Q (.d (.lst ys)) (restore ρ1 ρ2 vs))) : wE G (.comp vs p k a b .nil e) ρ0 Q := by
  obtain ⟨⟨xs, ρ1⟩, hi, ho, I, h0, ht, q⟩ := h
  exact wE_compI (xs := xs) (ρ1 := ρ1) I ⟨(xs, ρ1), hi, rfl, rfl⟩ ho h0 ht q
def codes (s : Str) : Prop := s.cps.toList.all (· < 0x110000) = true
def letters : Str := "abcdefghijklmnopqrstuvwxyz"
/-- letters alone -/
def lows (s : Str) : Prop := (s.cps.toList.all fun c => decide (c ∈ letters.cps.toList)) = true
/-- a name -/
def Nm (s : Str) : Prop := codes s ∧ (s.length ≤ 64 ∧ lows s ∧ 1 ≤ s.length ∧ s.length ≤ 8)
theorem lows_append {a b : Str} (ha : lows a) (hb : lows b) : lows (a ++ b) := by
  unfold lows at *
  have e : (a ++ b).cps.toList = a.cps.toList ++ b.cps.toList := by
    show (a.cps ++ b.cps).toList = _
    rw [Array.toList_append]
  rw [e, List.all_append, ha, hb]; rfl
theorem lows_join {sep : Str} (h : lows sep) : ∀ {ss : List Str}, (∀ s ∈ ss, lows s) → lows (Str.join sep ss)
  | [], _ => rfl
  | [x], hs => hs x (List.mem_cons_self ..)
  | x :: y :: r, hs => by
    have ih := lows_join h (ss := y :: r) (fun s hm => hs s (List.mem_cons_of_mem _ hm))
    exact lows_append (lows_append (hs x (List.mem_cons_self ..)) h) ih
theorem lows_one {c : Nat} (h : c ∈ letters.cps.toList) : lows ⟨#[c]⟩ := by
  unfold lows
  simp only [List.all_cons, List.all_nil, Bool.and_true]
  exact decide_eq_true h
theorem lows_rep {s : Str} (h : lows s) (n : Nat) : lows (repS s n) := by
  unfold lows at *
  rw [repS_cps]
  induction n with
  | zero => rfl
  | succ n ih => rw [List.replicate_succ, List.flatten_cons, List.all_append, h, ih]; rfl
theorem codes_append {a b : Str} (ha : codes a) (hb : codes b) : codes (a ++ b) := by
  unfold codes at *
  have e : (a ++ b).cps.toList = a.cps.toList ++ b.cps.toList := by
    show (a.cps ++ b.cps).toList = _
    rw [Array.toList_append]
  rw [e, List.all_append, ha, hb]; rfl
theorem codes_join {sep : Str} (h : codes sep) : ∀ {ss : List Str}, (∀ s ∈ ss, codes s) → codes (Str.join sep ss)
  | [], _ => rfl
  | [x], hs => hs x (List.mem_cons_self ..)
  | x :: y :: r, hs => by
    have ih := codes_join h (ss := y :: r) (fun s hm => hs s (List.mem_cons_of_mem _ hm))
    exact codes_append (codes_append (hs x (List.mem_cons_self ..)) h) ih
theorem codes_one {c : Nat} (h : c < 0x110000) : codes ⟨#[c]⟩ := by
  unfold codes
  simp [h]
theorem codes_rep {s : Str} (h : codes s) (n : Nat) : codes (repS s n) := by
  unfold codes at *
  rw [repS_cps]
  induction n with
  | zero => rfl
  | succ n ih => rw [List.replicate_succ, List.flatten_cons, List.all_append, h, ih]; rfl
structure Wn (T : Prg) : Prop where
  toDr0 : Dr0 T
  word : T.fns 78 = some fn_word
  names : T.fns 79 = some fn_names
  columns : T.fns 80 = some fn_columns
theorem strsD_mp (ss : List Str) : strsD (ss.map D.str) = some ss := by
  induction ss with
  | nil => rfl
  | cons a r ih => rw [List.map_cons, strsD, ih]; rfl
theorem letter {r : Int} (h0 : 0 ≤ r) (h1 : r < 26) : ∃ c : Nat, ixD (.str letters) r = some (.str ⟨#[c]⟩) ∧ c < 0x110000 ∧ c ∈ letters.cps.toList := by
  have key : ∀ i : Fin 26, ∃ c : Nat, letters.cps[i.val]? = some c ∧ c < 0x110000 := by
    intro i
    have h : ∀ i : Fin 26, (letters.cps[i.val]?).any (· < 0x110000) = true := by decide +kernel
    have hi := h i
    cases e : letters.cps[i.val]? with
    | none => rw [e] at hi; cases hi
    | some c => rw [e] at hi; exact ⟨c, rfl, by simpa using hi⟩
  obtain ⟨c, hc, hlt⟩ := key ⟨r.toNat, by omega⟩
  refine ⟨c, ?_, hlt, by simpa using Array.mem_of_getElem? hc⟩
  have hl : letters.length = 26 := by decide +kernel
  have hr : r = ((r.toNat : Nat) : Int) := by omega
  unfold ixD
  dsimp only
  rw [if_pos (by rw [hl]; decide), hl, hr, ixN'_nat (by omega)]
  show (letters.cps[r.toNat]? >>= fun c => pure (D.str ⟨#[c]⟩)) = _
  dsimp only at hc
  rw [hc]; rfl
section
variable {T : Prg} {k n : Nat} {b : Bool} {B : List D} {Q : EV × List EV → Prop}
theorem W_word (hT : Wn T) (hk : 4 ≤ k) (hB : Bx n B) (hn : n + 100 ≤ 10 ^ 12) (q : ∀ s B', Nm s → Bx (n + 20) B' → Q (.d (.str s), [.own b B'])) : W (ev T k 78 [.own b B]) Q := by
  refine W_call hT.word (by omega) rfl fun j hj => ?_
  show wS _ _ ir_word [some (.own b _), none, none] _
  have hsz := sizeLine_ge
  simp_arith only [ir_word]
  refine wE_compJ ?_
  simp_arith []
  refine W_take hT.toDr0 (by omega) hB (by omega) (by decide) (by decide) fun r B1 h1 h2 hB1 => ?_
  simp_arith []
  rw [if_pos (by constructor <;> omega)]
  refine ⟨fun i acc ρ => ∃ (B : List D) (ss : List Str) (s2 : Option EV), Bx (n + 2 + 2 * i) B ∧ acc = ss.map D.str ∧ ss.length = i ∧ (∀ s ∈ ss, (codes s ∧ lows s) ∧ s.length = 1) ∧ ρ = [some (.own b B), some (.d (.str letters)), s2], ⟨B1, [], none, hB1, rfl, rfl, (fun s hs => by cases hs), rfl⟩, ?_, ?_⟩
  · rintro i x acc ρ hx ⟨B, ss, s2, hB, rfl, hl, hss, rfl⟩
    obtain ⟨hi, rfl⟩ := range_get hx
    simp_arith [wipeE]
    refine W_take hT.toDr0 (by omega) hB (by omega) (by decide) (by decide) fun r2 B2 h3 h4 hB2 => ?_
    obtain ⟨c, e, hc, hcl⟩ := letter h3 h4
    simp_arith [e]
    refine ⟨B2, ss ++ [⟨#[c]⟩], _, hB2.mono (by omega), by simp, by simp [hl], fun s hs => ?_, rfl⟩
    rcases List.mem_append.mp hs with z | z
    · exact hss s z
    · simp at z; subst z; exact ⟨⟨codes_one hc, lows_one hcl⟩, rfl⟩
  · rintro ys ρ2 ⟨B, ss, s2, hB, rfl, hl, hss, rfl⟩
    have hl8 : (range1 (1 + r).toNat).length = (1 + r).toNat := by simp [range1]
    rw [hl8] at hB hl
    have hsum : ∀ {ss : List Str}, (∀ s ∈ ss, (codes s ∧ lows s) ∧ s.length = 1) → (ss.map (·.length)).sum = ss.length := by
      intro ss
      induction ss with
      | nil => intro _; rfl
      | cons a r ih =>
        intro h
        rw [List.map_cons, List.sum_cons, ih fun s hs => h s (List.mem_cons_of_mem _ hs), (h a (List.mem_cons_self ..)).2, List.length_cons]; omega
    have hs8 := hsum hss
    have ej : mtD .join (.str "") [.lst (ss.map D.str)] = some (.str (Txt.join "" ss)) := by
      show joinD "" (ss.map D.str) = _
      unfold joinD
      rw [strsD_mp]
      show (if _ then _ else _) = _
      have : (Str.ofString "").length = 0 := rfl
      rw [if_pos (by rw [this]; omega)]; rfl
    simp_arith [restore, ej, thenW_ret]
    have e : Txt.join "" ss = Str.join "" ss := StrLaws.glued_eq_join ..
    have el : (Str.join "" ss).length = ss.length := by
      have key : ∀ {ss : List Str}, (∀ s ∈ ss, (codes s ∧ lows s) ∧ s.length = 1) → (Str.join "" ss).length = ss.length := by
        intro ss
        induction ss with
        | nil => intro _; rfl
        | cons a r ih =>
          intro h
          have ih := ih fun s hs => h s (List.mem_cons_of_mem _ hs)
          have ha := (h a (List.mem_cons_self ..)).2
          cases r with
          | nil => exact ha
          | cons b r =>
            show (a ++ (Str.ofString "") ++ Str.join "" (b :: r)).length = _
            show (a.cps ++ (Str.ofString "").cps ++ (Str.join "" (b :: r)).cps).size = _
            rw [Array.size_append, Array.size_append]
            have a1 : a.cps.size = 1 := ha
            have a2 : (Str.join "" (b :: r)).cps.size = (b :: r).length := ih
            have a3 : (Str.ofString "").cps.size = 0 := rfl
            rw [a1, a2, a3]; simp only [List.length_cons]; omega
      exact key hss
    refine q _ _ ⟨?_, ?_, ?_, ?_, ?_⟩ (hB.mono (by omega))
    · rw [e]
      exact codes_join (sep := Str.ofString "") (by unfold codes; rfl) fun s hs => (hss s hs).1.1
    · rw [e, el]; omega
    · rw [e]
      exact lows_join (sep := Str.ofString "") (by unfold lows; rfl) fun s hs => (hss s hs).1.2
    · rw [e, el]; omega
    · rw [e, el]; omega
end
end Ov

set_option maxHeartbeats 4000000
namespace Ov
open PySem
theorem eqv_str {a b : Str} : D.eqv (.str a) (.str b) = (a == b) := by simp only [D.eqv]
theorem any_str {s : Str} : ∀ {ns : List Str}, ((ns.map D.str).any fun y => D.eqv y (.str s)) = decide (s ∈ ns)
  | [] => by simp
  | a :: ns => by
    rw [List.map_cons, List.any_cons, any_str, eqv_str]
    by_cases h : a = s
    · subst h; simp
    · have h2 : s ≠ a := fun e => h e.symm
      simp [h, h2]
theorem notin_str {s : Str} {ns : List Str} : cmpD .notin (.str s) (.lst (ns.map D.str)) = some (!decide (s ∈ ns)) := by
  show (inD _ _).map _ = _
  unfold inD
  rw [if_pos (by simp [D.depth]), any_str]; rfl
theorem notin_strT {s : Str} {ns : List Str} : cmpD .notin (.str s) (.tup (ns.map D.str)) = some (!decide (s ∈ ns)) := by
  show (inD _ _).map _ = _
  unfold inD
  rw [if_pos (by simp [D.depth]), any_str]; rfl
theorem isin_strT {s : Str} {ns : List Str} : cmpD .isin (.str s) (.tup (ns.map D.str)) = some (decide (s ∈ ns)) := by
  show inD _ _ = _
  unfold inD
  rw [if_pos (by simp [D.depth]), any_str]
theorem isin_strL {s : Str} {ns : List Str} : cmpD .isin (.str s) (.lst (ns.map D.str)) = some (decide (s ∈ ns)) := by
  show inD _ _ = _
  unfold inD
  rw [if_pos (by simp [D.depth]), any_str]
/-- of many different ones one is not there -/
theorem one_out : ∀ {F L : List Str}, F.Nodup → L.length < F.length → ∃ s ∈ F, s ∉ L
  | [], L, _, h => by simp at h
  | a :: F, L, hn, h => by
    rw [List.nodup_cons] at hn
    by_cases ha : a ∈ L
    · have hl : (L.erase a).length < F.length := by
        rw [List.length_erase_of_mem ha]
        have := List.length_pos_of_mem ha
        rw [List.length_cons] at h
        omega
      obtain ⟨s, h1, h2⟩ := one_out hn.2 hl
      have hne : s ≠ a := fun e => hn.1 (e ▸ h1)
      exact ⟨s, List.mem_cons_of_mem _ h1, fun q => h2 ((List.mem_erase_of_ne hne).mpr q)⟩
    · exact ⟨a, List.mem_cons_self .., ha⟩
def fallL : List Nat := ("qrstuvwxyzabcdefgh" : Str).cps.toList
def falls : List Str := fallL.map fun c => repS ⟨#[c]⟩ 8
theorem falls_nodup : falls.Nodup := by
  have inj : ∀ a b : Nat, repS ⟨#[a]⟩ 8 = repS ⟨#[b]⟩ 8 → a = b := fun a b h => by
    have h2 : (repS ⟨#[a]⟩ 8).cps.toList = (repS ⟨#[b]⟩ 8).cps.toList := by rw [h]
    rw [repS_cps, repS_cps] at h2
    simp [List.replicate_succ] at h2
    exact h2
  have hn : fallL.Nodup := by decide +kernel
  unfold falls
  have key : ∀ l : List Nat, l.Nodup → (l.map fun c => repS ⟨#[c]⟩ 8).Nodup := by
    intro l
    induction l with
    | nil => intro _; exact List.nodup_nil
    | cons a l ih =>
      intro h
      rw [List.nodup_cons] at h
      rw [List.map_cons, List.nodup_cons]
      refine ⟨fun hm => ?_, ih h.2⟩
      obtain ⟨c, hc, e⟩ := List.mem_map.mp hm
      rw [inj _ _ e] at hc
      exact h.1 hc
  exact key _ hn
theorem falls_nm : ∀ s ∈ falls, Nm s := by
  intro s hs
  obtain ⟨c, hc, rfl⟩ := List.mem_map.mp hs
  have hlt : c < 0x110000 := by
    have h : fallL.all (· < 0x110000) = true := by decide +kernel
    have := List.all_eq_true.mp h c hc
    simpa using this
  have hlow : c ∈ letters.cps.toList := by
    have h : fallL.all (fun c => decide (c ∈ letters.cps.toList)) = true := by decide +kernel
    have := List.all_eq_true.mp h c hc
    simpa using this
  have hl8 : (repS ⟨#[c]⟩ 8).length = 8 := by rw [repS_lenP]; rfl
  exact ⟨codes_rep (codes_one hlt) 8, by omega, lows_rep (lows_one hlow) 8, by omega, by omega⟩
theorem falls_len : falls.length = 18 := by
  unfold falls
  rw [List.length_map]
  decide +kernel
theorem items_str : D.items (.str "qrstuvwxyzabcdefgh") = some (fallL.map fun c => D.str ⟨#[c]⟩) := by
  have e : D.items (.str "qrstuvwxyzabcdefgh") = if (Str.ofString "qrstuvwxyzabcdefgh").length ≤ sizeLine then some ((Str.ofString "qrstuvwxyzabcdefgh").cps.toList.map fun c => .str ⟨#[c]⟩) else none := rfl
  rw [e, if_pos (by decide +kernel)]; rfl
theorem op_mulS {a : Str} {j : Int} : opD .mul (.str a) (.int j) = if 2 ≤ j ∧ j ≤ 1000 ∧ 1 ≤ a.length ∧ a.length ≤ 1000 then some (.str (repS a j.toNat)) else none := (rfl)
theorem fm_falls : (fallL.map fun c => D.str ⟨#[c]⟩).filterMap (fun x => opD .mul x (.int 8)) = falls.map D.str := by
  unfold falls
  generalize fallL = l
  induction l with
  | nil => rfl
  | cons a l ih =>
    rw [List.map_cons, List.filterMap_cons, List.map_cons, List.map_cons]
    have e : opD .mul (.str ⟨#[a]⟩) (.int 8) = some (.str (repS ⟨#[a]⟩ 8)) := by
      rw [op_mulS, if_pos ⟨by decide, by decide, by show 1 ≤ 1; decide, by show 1 ≤ 1000; decide⟩]; rfl
    rw [e]
    simp only [ih]
def notB (us ns : List Str) (s : Str) : Bool := !decide (s ∈ us) && !decide (s ∈ ns)
theorem fm_filter {p : Str → Bool} : ∀ {ss : List Str}, (ss.map D.str).filterMap (fun x => match x with
    | .str s => if p s = true then some (.str s) else none
    | _ => none) = (ss.filter p).map D.str
  | [] => rfl
  | a :: ss => by
    rw [List.map_cons, List.filterMap_cons]
    by_cases h : p a = true
    · simp only [h, if_true, List.filter_cons_of_pos, List.map_cons, fm_filter]
    · rw [List.filter_cons_of_neg h]
      simp only [h, if_false, fm_filter, Bool.false_eq_true]
section
variable {T : Prg} {k n : Nat} {b : Bool} {B : List D} {Q : EV × List EV → Prop}
theorem W_names (hT : Wn T) (hk : 6 ≤ k) (hB : Bx n B) {c : Int} {us : List Str} (h0 : 0 ≤ c) (hc : us.length + c ≤ 17) (hn : n + 44 * c + 100 ≤ 10 ^ 12)
    (q : ∀ (ns : List Str) B', (ns.length : Int) = c → ns.Nodup → (∀ s ∈ ns, Nm s ∧ s ∉ us) → Bx (n + 44 * c.toNat) B' → Q (.d (.lst (ns.map D.str)), [.own b B', .d (.int c), .d (.lst (us.map D.str))])) :
    W (ev T k 79 [.own b B, .d (.int c), .d (.lst (us.map D.str))]) Q := by
  refine W_call hT.names (by omega) rfl fun j hj => ?_
  show wS _ _ ir_names [some (.own b _), some (.d _), some (.d _), none, none, none, none, none, none] _
  have hsz := sizeLine_ge
  have l0 : (0 : Nat) ≤ sizeLine := by decide
  unfold ir_names
  rw [wS_seq]
  simp_arith [wS_asgO, if_pos l0, thenW_nx]
  rw [wS_seq]
  simp_arith [wS_forS]
  rw [if_pos (by constructor <;> omega)]
  refine wF_inv (fun i ρ => ∃ (B : List D) (ns : List Str) (s4 s5 s6 s7 s8 : Option EV), Bx (n + 44 * i) B ∧ ns.length = i ∧ ns.Nodup ∧ (∀ s ∈ ns, Nm s ∧ s ∉ us) ∧ NB s4 ∧ NB s5 ∧ NB s6 ∧ NB s7 ∧ NB s8 ∧
    ρ = [some (.own b B), some (.d (.int c)), some (.d (.lst (us.map D.str))), some (.own false (ns.map D.str)), s4, s5, s6, s7, s8]) ?_ ?_ ?_
  · exact ⟨B, [], none, none, none, none, none, by simpa using hB, rfl, List.nodup_nil, (fun s hs => by cases hs), ⟨rfl, rfl⟩, ⟨rfl, rfl⟩, ⟨rfl, rfl⟩, ⟨rfl, rfl⟩, ⟨rfl, rfl⟩, rfl⟩
  · rintro i x ρ hx ⟨B, ns, s4, s5, s6, s7, s8, hB, hl, hnd, hns, n4, n5, n6, n7, n8, rfl⟩
    obtain ⟨hi, rfl⟩ := range_get hx
    have hi : (i : Int) < c := by omega
    simp_arith [n4.1]
    rw [wS_seq]
    simp_arith [wS_asg]
    refine wE_compJ ?_
    simp_arith []
    rw [if_pos (by constructor <;> omega)]
    refine ⟨by simp [n6.2], fun i2 acc ρ => ∃ (B : List D) (ss : List Str) (s6 : Option EV), Bx (n + 44 * i + 20 * i2) B ∧ acc = ss.map D.str ∧ ss.length = i2 ∧ (∀ s ∈ ss, Nm s) ∧
      ρ = [some (.own b B), some (.d (.int c)), some (.d (.lst (us.map D.str))), some (.own false (ns.map D.str)), some (.d (.int (i : Int))), s5, s6, s7, s8], ⟨B, [], s6, by simpa using hB, rfl, rfl, (fun s hs => by cases hs), rfl⟩, ?_, ?_⟩
    · rintro i2 x acc ρ hx2 ⟨B, ss, s6', hB, rfl, hl2, hss, rfl⟩
      obtain ⟨hi2, rfl⟩ := range_get hx2
      have hi2 : i2 < 2 := hi2
      simp_arith [wipeE]
      refine W_word hT (by omega) hB (by omega) fun s B2 hs hB2 => ?_
      simp_arith []
      refine ⟨B2, ss ++ [s], _, hB2.mono (by omega), by simp, by simp [hl2], fun z hz => ?_, rfl⟩
      rcases List.mem_append.mp hz with h | h
      · exact hss z h
      · simp at h; subst h; exact hs
    · rintro ys ρ2 ⟨B2, ss, s6', hB2, rfl, hl2, hss, rfl⟩
      have hl2 : ss.length = 2 := hl2
      have hB2 : Bx (n + 44 * i + 20 * 2) B2 := hB2
      simp_arith [restore]
      refine wE_comp (xs := fallL.map fun c => D.str ⟨#[c]⟩) (fun x => opD .mul x (.int 8)) ?_ (by simp [n7.2]) rfl (fun x hx => ?_) ?_
      · simp_arith [items_str]
      · obtain ⟨a, _, rfl⟩ := List.mem_map.mp hx
        have e : opD .mul (.str ⟨#[a]⟩) (.int 8) = some (.str (repS ⟨#[a]⟩ 8)) := by
          rw [op_mulS, if_pos ⟨by decide, by decide, by show 1 ≤ 1; decide, by show 1 ≤ 1000; decide⟩]; rfl
        simp_arith [wipeE, e]
      · rw [fm_falls]
        have hle : (ss.map D.str).length + (falls.map D.str).length ≤ sizeLine := by
          rw [List.length_map, List.length_map, falls_len]; omega
        have eap : ss.map D.str ++ falls.map D.str = (ss ++ falls).map D.str := by rw [List.map_append]
        simp_arith [if_pos hle, eap, n5.1, thenW_nx]
        have hss2 : ∀ s ∈ ss ++ falls, Nm s := fun s hs => by
          rcases List.mem_append.mp hs with h | h
          · exact hss s h
          · exact falls_nm s h
        obtain ⟨z, hz1, hz2⟩ := one_out (F := falls) (L := us ++ ns) falls_nodup (by rw [List.length_append, falls_len]; omega)
        rw [List.mem_append, not_or] at hz2
        have hfl : z ∈ (ss ++ falls).filter (notB us ns) := by
          rw [List.mem_filter]
          refine ⟨List.mem_append_right _ hz1, ?_⟩
          unfold notB
          simp [hz2.1, hz2.2]
        have hsub : ∀ s ∈ (ss ++ falls).filter (notB us ns), Nm s ∧ s ∉ us ∧ s ∉ ns := fun s hs => by
          rw [List.mem_filter] at hs
          unfold notB at hs
          simp at hs
          exact ⟨hss2 s (by simpa using hs.1), hs.2.1, hs.2.2⟩
        generalize hL : ss ++ falls = L at *
        rw [wS_seq]
        simp_arith [wS_expr]
        refine wE_comp (xs := L.map D.str) (fun x => match x with
          | .str s => if notB us ns s = true then some (.str s) else none
          | _ => none) ?_ (by simp [n8.2]) rfl (fun x hx => ?_) ?_
        · simp_arith [items_l]
        · obtain ⟨a, _, rfl⟩ := List.mem_map.mp hx
          simp_arith [wipeE, notin_str]
          unfold notB
          by_cases h1 : a ∈ us
          · simp_arith [h1, Bool.false_and]
          · by_cases h2 : a ∈ ns
            · simp_arith [h1, h2]
            · simp_arith [h1, h2]
        · rw [fm_filter]
          cases hf : L.filter (notB us ns) with
          | nil => rw [hf] at hfl; cases hfl
          | cons y ys =>
            rw [hf] at hsub
            obtain ⟨hy1, hy2, hy3⟩ := hsub y (List.mem_cons_self ..)
            have hlt : (ns.map D.str).length < sizeLine := by rw [List.length_map]; omega
            simp_arith [List.map_cons, mu_append, if_pos hlt, thenW_nx, wS_skip]
            refine ⟨B2, ns ++ [y], some (.d (.int (i : Int))), some (.d (.lst (L.map D.str))), s6, s7, s8, hB2.mono (by omega), by simp [hl], ?_, fun s hs => ?_, ⟨rfl, rfl⟩, ⟨rfl, rfl⟩, n6, n7, n8, by simp⟩
            · rw [List.nodup_append]
              refine ⟨hnd, by simp, fun a ha b hb e => ?_⟩
              simp at hb
              subst hb
              exact hy3 (e ▸ ha)
            · rcases List.mem_append.mp hs with h | h
              · exact hns s h
              · simp at h; subst h; exact ⟨hy1, hy2⟩
  · rintro ρ ⟨B, ns, s4, s5, s6, s7, s8, hB, hl, hnd, hns, n4, n5, n6, n7, n8, rfl⟩
    have hlen : (range1 c.toNat).length = c.toNat := by simp [range1]
    rw [hlen] at hB hl
    simp_arith only []
    exact q ns B (by omega) hnd hns hB
end
end Ov

set_option maxHeartbeats 4000000
namespace Ov
open PySem
/-- a column: its name; of numbers? -/
abbrev Col := Str × Bool
def knd (b : Bool) : Str := if b = true then "number" else "text"
def colD (c : Col) : D := .tup [.str c.1, .str (knd c.2)]
def colsD (cs : List Col) : D := .tup (cs.map colD)
structure Cols (m : Nat) (cs : List Col) : Prop where
  pos : 0 < cs.length
  le : cs.length ≤ m
  nodup : (cs.map (·.1)).Nodup
  nm : ∀ c ∈ cs, Nm c.1
theorem enum_get {xs : List D} {i : Nat} {x : D} (h : (enumD xs)[i]? = some x) : ∃ y, xs[i]? = some y ∧ x = .tup [.int (i : Int), y] := by
  unfold enumD at h
  rw [List.getElem?_map] at h
  cases hy : xs[i]? with
  | none =>
    have : xs.zipIdx[i]? = none := by
      rw [List.getElem?_eq_none_iff] at hy ⊢
      simpa using hy
    rw [this] at h; cases h
  | some y =>
    have : xs.zipIdx[i]? = some (y, i) := by
      rw [List.getElem?_zipIdx, hy]; simp
    rw [this] at h
    exact ⟨y, rfl, (Option.some.inj h).symm⟩
section
variable {T : Prg} {k n : Nat} {b : Bool} {B : List D} {Q : EV × List EV → Prop}
theorem W_columns (hT : Wn T) (hk : 8 ≤ k) (hB : Bx n B) {m : Nat} (hm : 0 < m) (hm2 : m ≤ 17) (hn : n + 2000 ≤ 10 ^ 12) (q : ∀ cs B', Cols m cs → Bx (n + 2 + 46 * m) B' → Q (.d (colsD cs), [.own b B', .d (.int m)])) :
    W (ev T k 80 [.own b B, .d (.int m)]) Q := by
  refine W_call hT.columns (by omega) rfl fun j hj => ?_
  show wS _ _ ir_columns [some (.own b _), some (.d _), none, none, none] _
  have hsz := sizeLine_ge
  have l0 : (0 : Nat) ≤ sizeLine := by decide
  have l2 : (0 + 1 + 1 : Nat) ≤ sizeLine := by decide
  unfold ir_columns
  rw [wS_seq]
  simp_arith [wS_asg]
  refine W_take hT.toDr0 (by omega) hB (by omega) (by omega) (by omega) fun r B1 h1 h2 hB1 => ?_
  simp_arith [if_pos l0]
  refine W_names hT (us := []) (by omega) hB1 (by omega) (by simp; omega) (by omega) fun ns B2 hl hnd hns hB2 => ?_
  simp_arith [thenW_nx]
  rw [wS_seq]
  simp_arith [wS_ret]
  refine wE_compJ ?_
  simp_arith []
  refine ⟨fun i acc ρ => ∃ (B : List D) (ks : List Bool) (s3 s4 : Option EV), Bx (n + 2 + 44 * (1 + r).toNat + 2 * i) B ∧ ks.length = i ∧ acc = ((ns.take i).zip ks).map colD ∧ NB s3 ∧ NB s4 ∧
    ρ = [some (.own b B), some (.d (.int m)), some (.d (.lst (ns.map D.str))), s3, s4], ⟨B2, [], none, none, hB2, rfl, rfl, ⟨rfl, rfl⟩, ⟨rfl, rfl⟩, rfl⟩, ?_, ?_⟩
  · rintro i x acc ρ hx ⟨B, ks, s3, s4, hB, hks, rfl, n3, n4, rfl⟩
    obtain ⟨y, hy, rfl⟩ := enum_get hx
    rw [List.getElem?_map] at hy
    cases hz : ns[i]? with
    | none => rw [hz] at hy; cases hy
    | some z =>
      rw [hz] at hy; cases hy
      have hil : i < ns.length := (List.getElem?_eq_some_iff.mp hz).1
      have put : ∀ (kb : Bool), ((ns.take i).zip ks).map colD ++ [colD (z, kb)] = ((ns.take (i + 1)).zip (ks ++ [kb])).map colD := fun kb => by
        have e : ns.take (i + 1) = ns.take i ++ [z] := by rw [List.take_add_one, hz]; rfl
        rw [e, List.zip_append (by rw [List.length_take, hks]; omega), List.map_append]; rfl
      simp_arith [wipeE]
      by_cases hi0 : (i : Int) = 0
      · rw [if_pos hi0]
        simp_arith [if_pos l2]
        exact ⟨B, ks ++ [true], some (.d (.int (i : Int))), some (.d (.str z)), hB.mono (by omega), by simp [hks], put true, ⟨rfl, rfl⟩, ⟨rfl, rfl⟩, rfl⟩
      · rw [if_neg hi0]
        refine W_take hT.toDr0 (by omega) hB (by omega) (by decide) (by decide) fun r2 B3 h3 h4 hB3 => ?_
        simp_arith []
        by_cases hr : 0 < r2
        · rw [if_pos hr]
          simp_arith [if_pos l2]
          exact ⟨B3, ks ++ [true], some (.d (.int (i : Int))), some (.d (.str z)), hB3.mono (by omega), by simp [hks], put true, ⟨rfl, rfl⟩, ⟨rfl, rfl⟩, rfl⟩
        · rw [if_neg hr]
          simp_arith [if_pos l2]
          exact ⟨B3, ks ++ [false], some (.d (.int (i : Int))), some (.d (.str z)), hB3.mono (by omega), by simp [hks], put false, ⟨rfl, rfl⟩, ⟨rfl, rfl⟩, rfl⟩
  · rintro ys ρ2 ⟨B3, ks, s3, s4, hB3, hks, rfl, n3, n4, rfl⟩
    have he : (enumD (ns.map D.str)).length = ns.length := by simp [enumD]
    rw [he] at hB3 hks
    rw [he, List.take_length]
    simp_arith [restore, thenW_ret]
    refine q (ns.zip ks) _ ⟨?_, ?_, ?_, ?_⟩ (hB3.mono (by omega))
    · rw [List.length_zip]; omega
    · rw [List.length_zip]; omega
    · have : (ns.zip ks).map (·.1) = ns := by
        rw [List.map_fst_zip (by omega)]
      rw [this]; exact hnd
    · rintro ⟨a, c⟩ hc
      exact (hns a (List.of_mem_zip hc).1).1
/-- an item of an order -/
structure Itm where
  nm : Str
  up : Bool
  first : Bool
def itmD (t : Itm) : D := .tup [.str t.nm, .str (if t.up = true then "up" else "down"), .str (if t.first = true then "first" else "last")]
def ordD (os : List Itm) : D := .tup (os.map itmD)
theorem W_order (hT : Wn T) (hO : T.fns 81 = some fn_order) (hk : 5 ≤ k) (hB : Bx n B) {cs : List Col} {m : Nat} (hm : m ≤ 100) (hc : 0 < cs.length) (hc2 : cs.length ≤ 1000) (hn : n + 2000 ≤ 10 ^ 12)
    (q : ∀ os B', os.length ≤ m → (∀ t ∈ os, t.nm ∈ cs.map (·.1)) → Bx (n + 2 + 6 * m) B' → Q (.d (ordD os), [.own b B', .d (colsD cs), .d (.int m)])) : W (ev T k 81 [.own b B, .d (colsD cs), .d (.int m)]) Q := by
  refine W_call hO (by omega) rfl fun j hj => ?_
  show wS _ _ ir_order [some (.own b _), some (.d _), some (.d _), none, none] _
  have hsz := sizeLine_ge
  have l0 : (0 : Nat) ≤ sizeLine := by decide
  have l2 : (0 + 1 + 1 : Nat) ≤ sizeLine := by decide
  have l3 : (0 + 1 + 1 + 1 : Nat) ≤ sizeLine := by decide
  unfold ir_order
  rw [wS_seq]
  simp_arith [wS_asgO, if_pos l0, thenW_nx]
  rw [wS_seq]
  simp_arith [wS_forS]
  refine W_take hT.toDr0 (by omega) hB (by omega) (by omega) (by omega) fun r B1 h1 h2 hB1 => ?_
  simp_arith []
  rw [if_pos (by constructor <;> omega)]
  refine wF_inv (fun i ρ => ∃ (B : List D) (os : List Itm) (s4 : Option EV), Bx (n + 2 + 6 * i) B ∧ os.length = i ∧ (∀ t ∈ os, t.nm ∈ cs.map (·.1)) ∧ NB s4 ∧ ρ = [some (.own b B), some (.d (colsD cs)), some (.d (.int m)), some (.own false (os.map itmD)), s4]) ?_ ?_ ?_
  · exact ⟨B1, [], none, hB1, rfl, (fun t ht => by cases ht), ⟨rfl, rfl⟩, rfl⟩
  · rintro i x ρ hx ⟨B, os, s4, hB, hl, hos, n4, rfl⟩
    obtain ⟨hi, rfl⟩ := range_get hx
    simp_arith only [n4.1]
    refine W_pick hT.toDr0 (by omega) hB (by omega) (s := colsD cs) (xs := cs.map colD) rfl (by intro e; rw [List.map_eq_nil_iff] at e; rw [e] at hc; cases hc) (by rw [List.length_map]; omega) fun x B2 hx2 hB2 => ?_
    obtain ⟨c, hcm, rfl⟩ := List.mem_map.mp hx2
    have e0 : ixD (colD c) 0 = some (.str c.1) := rfl
    simp_arith only [e0, if_pos l2]
    refine W_pick hT.toDr0 (by omega) hB2 (by omega) rfl (by simp) (by simp) fun y B3 hy hB3 => ?_
    simp_arith only [if_pos l2]
    refine W_pick hT.toDr0 (by omega) hB3 (by omega) rfl (by simp) (by simp) fun z B4 hz hB4 => ?_
    have hlt : (os.map itmD).length < sizeLine := by rw [List.length_map]; omega
    simp_arith only [if_pos l3, mu_append, if_pos hlt]
    simp only [List.mem_cons, List.not_mem_nil, or_false] at hy hz
    obtain ⟨u, rfl⟩ : ∃ u : Bool, y = .str (if u = true then "up" else "down") := by
      rcases hy with rfl | rfl
      · exact ⟨true, rfl⟩
      · exact ⟨false, rfl⟩
    obtain ⟨f, rfl⟩ : ∃ u : Bool, z = .str (if u = true then "first" else "last") := by
      rcases hz with rfl | rfl
      · exact ⟨true, rfl⟩
      · exact ⟨false, rfl⟩
    refine ⟨B4, os ++ [⟨c.1, u, f⟩], some (.d (.int (i : Int))), hB4.mono (by omega), by simp [hl], fun t ht => ?_, ⟨rfl, rfl⟩, by simp [itmD]⟩
    rcases List.mem_append.mp ht with h | h
    · exact hos t h
    · simp at h; subst h; exact List.mem_map_of_mem hcm
  · rintro ρ ⟨B, os, s4, hB, hl, hos, n4, rfl⟩
    have hlen : (range1 r.toNat).length = r.toNat := by simp [range1]
    rw [hlen] at hB hl
    simp_arith only []
    exact q os B (by omega) hos (hB.mono (by omega))
end
end Ov

set_option maxHeartbeats 4000000
namespace Ov
open PySem
/-! ### columns, as tuples or lists: where a name stands -/
theorem txt_of {s : Str} (h : codes s) : (D.str s).txt = true := by
  show s.cps.all (· < 0x110000) = true
  rw [← Array.all_toList]; exact h
theorem txts_of : ∀ {cs : List Col}, (∀ c ∈ cs, codes c.1) → D.txts (cs.map fun c => D.str c.1) = true
  | [], _ => rfl
  | c :: cs, h => by
    show ((D.str c.1).txt && D.txts (cs.map fun c => D.str c.1)) = true
    rw [txt_of (h c (List.mem_cons_self ..)), txts_of fun z hz => h z (List.mem_cons_of_mem _ hz)]; rfl
theorem depths_strs : ∀ {cs : List Col}, D.depths (cs.map fun c => D.str c.1) = 0
  | [] => rfl
  | c :: cs => by
    show max 0 (D.depths (cs.map fun c => D.str c.1)) = 0
    rw [depths_strs]; rfl
def colK (c : Col) : Sum Int Str × D := (.inr c.1, .str (knd c.2))
theorem pairs_cols : ∀ cs : List Col, pairsI (cs.map colD) = some (cs.map colK)
  | [] => rfl
  | c :: cs => by
    rw [List.map_cons, List.map_cons, pairsI, pairs_cols cs]; rfl
theorem last_none {s : Str} : ∀ {cs : List Col}, s ∉ cs.map (·.1) → lastKey (.inr s) (cs.map colK) = none
  | [], _ => rfl
  | c :: cs, h => by
    rw [List.map_cons, List.mem_cons, not_or] at h
    show (match lastKey (Sum.inr s) (cs.map colK) with | some u => some u | none => if (Sum.inr c.1 : Sum Int Str) = Sum.inr s then _ else _) = _
    rw [last_none h.2]
    show (if (Sum.inr c.1 : Sum Int Str) = Sum.inr s then _ else _) = _
    rw [if_neg (fun e => h.1 (by injection e with e; exact e.symm))]
theorem col_find {s : Str} : ∀ {cs : List Col}, s ∈ cs.map (·.1) → (cs.map (·.1)).Nodup → ∃ (j : Nat) (kb : Bool), idxD (.str s) (cs.map fun c => D.str c.1) = some j ∧ cs[j]? = some (s, kb) ∧ cs.find? (fun c => c.1 == s) = some (s, kb) ∧ lastKey (.inr s) (cs.map colK) = some (.str (knd kb))
  | c :: cs, hm, hn => by
    rw [List.map_cons, List.nodup_cons] at hn
    by_cases e : c.1 = s
    · obtain ⟨a, kb⟩ := c
      dsimp only at e
      subst e
      refine ⟨0, kb, ?_, rfl, ?_, ?_⟩
      · show (if D.eqv (.str a) (.str a) = true then some 0 else _) = _
        rw [if_pos (by simp [D.eqv])]
      · rw [List.find?_cons_of_pos (by simp)]
      · show (match lastKey (Sum.inr a) (cs.map colK) with | some u => some u | none => if (Sum.inr a : Sum Int Str) = Sum.inr a then _ else _) = _
        rw [last_none hn.1]
        show (if (Sum.inr a : Sum Int Str) = Sum.inr a then _ else _) = _
        rw [if_pos rfl]
    · have hm2 : s ∈ cs.map (·.1) := by
        rcases List.mem_cons.mp hm with h | h
        · exact absurd h.symm e
        · exact h
      obtain ⟨j, kb, h1, h2, h3, h4⟩ := col_find hm2 hn.2
      refine ⟨j + 1, kb, ?_, by simpa using h2, ?_, ?_⟩
      · show (if D.eqv (.str c.1) (.str s) = true then some 0 else (idxD (.str s) (cs.map fun c => D.str c.1)).map (· + 1)) = _
        rw [if_neg (by simp [D.eqv, e]), h1]; rfl
      · rw [List.find?_cons_of_neg (by simp [e]), h3]
      · show (match lastKey (Sum.inr s) (cs.map colK) with | some u => some u | none => _) = _
        rw [h4]
theorem er_col (c : Col) : er (colD c) = colD c := rfl
theorem er_map {α : Type} {f : α → D} (h : ∀ a, er (f a) = f a) : ∀ l : List α, (l.map f).map er = l.map f
  | [] => rfl
  | a :: l => by rw [List.map_cons, List.map_cons, h, er_map h l]
theorem er_cols (cs : List Col) : er (colsD cs) = colsD cs := by
  unfold colsD
  rw [er, ers_map, er_map er_col]
theorem ix_two {xs : List D} {a b : D} (h : xs.map er = [a, b]) : ∃ x y, xs = [x, y] ∧ er x = a ∧ er y = b := by
  match xs, h with
  | [x, y], h => simp only [List.map_cons, List.map_nil, List.cons.injEq, and_true] at h; exact ⟨x, y, rfl, h.1, h.2⟩
theorem ix_items {x : D} {xs : List D} (h : x.ofSeq = some xs) : x.items = some xs := by
  cases x <;> cases h <;> rfl
theorem index_ix {T : Prg} {k : Nat} {z : D} {cs : List Col} (hT : T.fns 71 = some fn_index_of) (hk : 1 ≤ k) (h : er z = colsD cs) {s : Str} (hs : s ∈ cs.map (·.1)) (hn : (cs.map (·.1)).Nodup) (hc : ∀ c ∈ cs, codes c.1) :
    ∃ (j : Nat) (kb : Bool), ev T k 71 [.d z, .d (.str s)] = some (.d (.int (j : Int)), [.d z, .d (.str s)]) ∧ cs[j]? = some (s, kb) ∧ cs.find? (fun c => c.1 == s) = some (s, kb) ∧ lastKey (.inr s) (cs.map colK) = some (.str (knd kb)) := by
  obtain ⟨i, kb, h1, h2, h3, h4⟩ := col_find hs hn
  refine ⟨i, kb, W_eq (W_call hT (by omega) rfl fun j hj => ?_), h2, h3, h4⟩
  show wS _ _ ir_index_of [some (.d _), some (.d _), none, none] _
  obtain ⟨zs, hz, hzs⟩ := er_seq h
  have hcs : codes s := by
    obtain ⟨c, hcm, rfl⟩ := List.mem_map.mp hs
    exact hc c hcm
  have names : ∀ {zs : List D} {cs : List Col}, zs.map er = cs.map colD → zs.filterMap (fun x => match x.ofSeq with | some (a :: _) => some a | _ => none) = cs.map fun c => D.str c.1 := by
    intro zs
    induction zs with
    | nil => intro cs h; cases cs with | nil => rfl | cons => cases h
    | cons y ys ih =>
      intro cs h
      cases cs with
      | nil => cases h
      | cons c cs =>
        rw [List.map_cons, List.map_cons, List.cons.injEq] at h
        obtain ⟨w, hw, hw2⟩ := er_seq h.1
        obtain ⟨p, q, rfl, e1, e2⟩ := ix_two hw2
        cases er_str e1
        rw [List.filterMap_cons]
        simp only [hw, List.map_cons, ih h.2]
  have emt : mtD .index (.lst (cs.map fun c => D.str c.1)) [.str s] = some (.int (i : Int)) := by
    show (if D.depths (cs.map fun c => D.str c.1) + 1 ≤ 64 ∧ (0 : Nat) ≤ 64 ∧ D.txts (cs.map fun c => D.str c.1) = true ∧ (D.str s).txt = true then (idxD (.str s) (cs.map fun c => D.str c.1)).map fun j => D.int (j : Int) else none) = _
    rw [if_pos ⟨by rw [depths_strs]; decide, by decide, txts_of hc, txt_of hcs⟩, h1]; rfl
  simp_arith only [ir_index_of]
  refine wE_comp (xs := zs) (fun x => match x.ofSeq with | some (a :: _) => some a | _ => none) ?_ rfl rfl (fun y hy => ?_) ?_
  · simp_arith only [ix_items hz]
  · have hy2 : er y ∈ cs.map colD := by rw [← hzs]; exact List.mem_map_of_mem hy
    obtain ⟨c, _, hc2⟩ := List.mem_map.mp hy2
    obtain ⟨w, hw, hw2⟩ := er_seq hc2.symm
    obtain ⟨p, q, rfl, e1, e2⟩ := ix_two hw2
    simp_arith only [wipeE, hw]
  · rw [names hzs]
    simp_arith only [emt]
end Ov

set_option maxHeartbeats 4000000
namespace Ov
open PySem
/-! how long a repr is -/
mutual
def D.wu : D → Nat
  | .non => 5
  | .bl _ => 5
  | .int _ => 41
  | .str s => 10 * s.length + 2
  | .tup xs => D.wus xs + 4
  | .lst xs => D.wus xs + 4
def D.wus : List D → Nat
  | [] => 0
  | x :: xs => D.wu x + 2 + D.wus xs
end
mutual
def D.ok : D → Bool
  | .int i => decide (i.natAbs < 10 ^ 36)
  | .str s => s.cps.toList.all (· < 0x110000)
  | .tup xs => D.oks xs
  | .lst xs => D.oks xs
  | _ => true
def D.oks : List D → Bool
  | [] => true
  | x :: xs => D.ok x && D.oks xs
end
theorem textFrom_le2 : ∀ (ts : List Str) (k : Nat) (acc : Str), (textFrom k acc ts).length ≤ acc.length + piled ts
  | [], k, acc => by simp [textFrom]
  | t :: r, k, acc => by
    have h := textFrom_le2 r (k + 1) (acc ++ (if k > 0 then ", " else "" : String) ++ t)
    have e : (acc ++ (if k > 0 then ", " else "" : String) ++ t).length = acc.length + (if k > 0 then 2 else 0) + t.length := by
      rw [strLen_append, strLen_append]
      split <;> rfl
    have e2 : piled (t :: r) = t.length + 2 + piled r := by simp [piled]
    show (textFrom (k + 1) _ r).length ≤ _
    rw [e] at h
    rw [e2]
    have hc : (if k > 0 then 2 else 0 : Nat) ≤ 2 := by split <;> omega
    omega
theorem listText_le2 (ts : List Str) : (listText ts).length ≤ piled ts + 2 := by
  have h := textFrom_le2 ts 0 "["
  have e : (listText ts).length = (textFrom 0 "[" ts).length + 1 := by
    unfold listText
    rw [strLen_append]; rfl
  have e1 : ((("[" : String) : Str)).length = 1 := rfl
  omega
theorem tupleText_le2 (ts : List Str) : (tupleText ts).length ≤ piled ts + 4 := by
  have e : (tupleText ts).length ≤ 1 + (Str.join ", " ts).length + 2 := by
    unfold tupleText
    rw [strLen_append, strLen_append]
    have e1 : ((("(" : String) : Str)).length = 1 := rfl
    rw [e1]
    have : ((if ts.length == 1 then ",)" else ")" : String) : Str).length ≤ 2 := by
      split <;> decide
    omega
  cases ts with
  | nil =>
    have : (Str.join ", " ([] : List Str)).length = 0 := rfl
    omega
  | cons t r =>
    have := join_length_add (t :: r) (by simp)
    omega
theorem int_show2 {i : Int} (h : i.natAbs < 10 ^ 36) : (Str.ofString (toString i)).length ≤ 38 ∧ i.natAbs.log2 < 1920 := by
  have h1 := int_text_length_le10 (a := i) (k := 36) (by decide) h
  refine ⟨?_, ?_⟩
  · rw [ofString_length]; omega
  · by_cases h0 : i.natAbs = 0
    · rw [h0]; decide
    · rw [Nat.log2_lt h0]
      have : (10 : Nat) ^ 18 ≤ 2 ^ 1920 := by decide
      omega
mutual
theorem shown_le2 : ∀ x : D, x.ok = true → x.py.shown.length ≤ x.wu ∧ x.py.showable = true
  | .non, _ => ⟨by decide, rfl⟩
  | .bl b, _ => ⟨by cases b <;> decide, rfl⟩
  | .int i, h => by
    have h : i.natAbs < 10 ^ 36 := by simpa only [D.ok, decide_eq_true_eq] using h
    obtain ⟨h1, h2⟩ := int_show2 h
    refine ⟨?_, ?_⟩
    · show (Str.ofString (toString i)).length ≤ 41
      omega
    · show decide (i.natAbs.log2 < 1920) = true
      exact decide_eq_true h2
  | .str s, h => by
    have h : s.cps.toList.all (· < 0x110000) = true := h
    refine ⟨?_, rfl⟩
    show (reprText s).length ≤ 10 * s.length + 2
    refine StrLaws.reprText_len s fun c hc => ?_
    rw [List.all_eq_true] at h
    have := h c hc
    simp only [decide_eq_true_eq] at this
    omega
  | .tup xs, h => by
    obtain ⟨h1, h2⟩ := shown_les2 xs h
    have := tupleText_le2 (PyData.shownAll (D.pys xs))
    refine ⟨?_, h2⟩
    show (tupleText (PyData.shownAll (D.pys xs))).length ≤ D.wus xs + 4
    omega
  | .lst xs, h => by
    obtain ⟨h1, h2⟩ := shown_les2 xs h
    have := listText_le2 (PyData.shownAll (D.pys xs))
    refine ⟨?_, h2⟩
    show (listText (PyData.shownAll (D.pys xs))).length ≤ D.wus xs + 4
    omega
theorem shown_les2 : ∀ xs : List D, D.oks xs = true → piled (PyData.shownAll (D.pys xs)) ≤ D.wus xs ∧ PyData.showableAll (D.pys xs) = true
  | [], _ => ⟨by decide, rfl⟩
  | x :: xs, h => by
    have h : x.ok = true ∧ D.oks xs = true := by simpa only [D.oks, Bool.and_eq_true] using h
    obtain ⟨a1, a2⟩ := shown_le2 x h.1
    obtain ⟨b1, b2⟩ := shown_les2 xs h.2
    refine ⟨?_, ?_⟩
    · show piled (x.py.shown :: PyData.shownAll (D.pys xs)) ≤ x.wu + 2 + D.wus xs
      have e2 : piled (x.py.shown :: PyData.shownAll (D.pys xs)) = x.py.shown.length + 2 + piled (PyData.shownAll (D.pys xs)) := by simp [piled]
      omega
    · show (x.py.showable && PyData.showableAll (D.pys xs)) = true
      rw [a2, b2]; rfl
end
theorem repr_some2 {x : D} (h1 : x.depth ≤ 60) (h2 : x.ok = true) (h3 : x.wu ≤ sizeLine) : biD .repr [x] = some (.str x.py.shown) := by
  obtain ⟨a, b⟩ := shown_le2 x h2
  show reprD x = _
  unfold reprD
  rw [if_pos ⟨h1, b, by omega⟩]
/-! lists for tuples change neither -/
mutual
theorem er_wu : ∀ x : D, (er x).wu = x.wu ∧ (er x).ok = x.ok ∧ (er x).depth = x.depth
  | .non => ⟨rfl, rfl, rfl⟩
  | .bl _ => ⟨rfl, rfl, rfl⟩
  | .int _ => ⟨rfl, rfl, rfl⟩
  | .str _ => ⟨rfl, rfl, rfl⟩
  | .tup xs => by
    obtain ⟨a, b, c⟩ := er_wus xs
    exact ⟨by show D.wus (ers xs) + 4 = D.wus xs + 4; rw [a], b, by show D.depths (ers xs) + 1 = D.depths xs + 1; rw [c]⟩
  | .lst xs => by
    obtain ⟨a, b, c⟩ := er_wus xs
    exact ⟨by show D.wus (ers xs) + 4 = D.wus xs + 4; rw [a], b, by show D.depths (ers xs) + 1 = D.depths xs + 1; rw [c]⟩
theorem er_wus : ∀ xs : List D, D.wus (ers xs) = D.wus xs ∧ D.oks (ers xs) = D.oks xs ∧ D.depths (ers xs) = D.depths xs
  | [] => ⟨rfl, rfl, rfl⟩
  | x :: xs => by
    obtain ⟨a, b, c⟩ := er_wu x
    obtain ⟨a', b', c'⟩ := er_wus xs
    exact ⟨by show (er x).wu + 2 + D.wus (ers xs) = x.wu + 2 + D.wus xs; rw [a, a'], by show ((er x).ok && D.oks (ers xs)) = (x.ok && D.oks xs); rw [b, b'], by show max (er x).depth (D.depths (ers xs)) = max x.depth (D.depths xs); rw [c, c']⟩
end
end Ov

set_option maxHeartbeats 4000000
namespace Ov
open PySem
/-! ### what is a table -/
structure Wt (T : Prg) : Prop where
  number : T.fns 70 = some fn_is_number
  name : T.fns 96 = some fn_is_name
  pair : T.fns 97 = some fn_is_pair
  value_of : T.fns 98 = some fn_is_value_of
  column : T.fns 99 = some fn_is_column
  columns : T.fns 100 = some fn_are_columns
  cells : T.fns 101 = some fn_cells_fit
  row : T.fns 102 = some fn_is_row
  table : T.fns 103 = some fn_is_table
  int : T.fns 106 = some fn_is_int
  named : T.fns 107 = some fn_is_named
  cell : T.fns 108 = some fn_is_cell
  row2 : T.fns 109 = some fn_is_row_2
  due : T.fns 110 = some fn_is_due
  g24 : T.gd 24 = some (.int 2)
  g30 : T.gd 30 = some (.str "number")
  g31 : T.gd 31 = some (.int 8)
  g32 : T.gd 32 = some (.str "abcdefghijklmnopqrstuvwxyz")
  g33 : T.gd 33 = some (.str "text")
def abc : Str := "abcdefghijklmnopqrstuvwxyz"
def lowB (s : Str) : Bool := s.cps.toList.all fun c => decide (c ∈ abc.cps.toList)
def namB : D → Bool
  | .str s => decide (1 ≤ (s.length : Int)) && (decide ((s.length : Int) ≤ 8) && lowB s)
  | _ => false
def kndB : D → Bool
  | .str s => decide (s ∈ ([("number" : Str), "text"] : List Str))
  | _ => false
def colB : D → Bool
  | .tup [a, b] => namB a && kndB b
  | _ => false
def nmOf : D → Str
  | .tup [.str s, _] => s
  | _ => ""
def colsB (cs : List D) : Bool := !cs.isEmpty && (cs.all colB && decide (((nubS (cs.map nmOf)).length : Int) = (cs.length : Int)))
def numB : D → Bool
  | .int _ => true
  | _ => false
def txtB : D → Bool
  | .str _ => true
  | _ => false
def celB (kd : Str) : D → Bool
  | .non => true
  | x => if kd = "number" then numB x else txtB x
def kdOf : D → Str
  | .tup [_, .str kd] => kd
  | _ => ""
def rowB (cs : List D) : D → Bool
  | .tup [.int n, .tup xs] => decide (0 ≤ n) && (decide (xs.length = cs.length) && (cs.zip xs).all fun p => celB (kdOf p.1) p.2)
  | _ => false
def frst : D → Int
  | .tup (.int n :: _) => n
  | _ => 0
def ascB (rs : List D) : Bool := (rs.zip (rs.drop 1)).all fun p => decide (frst p.1 < frst p.2)
def tabB : D → Bool
  | .tup [.tup cs, .tup rs] => colsB cs && (rs.all (rowB cs) && ascB rs)
  | _ => false
theorem isn_bl {b : Bool} : isnD false (.bl b) = false := (rfl)
theorem tysA {t : Ty} {x : D} : isTys [t] x = isTy t x := by simp [isTys]
theorem fm_all {α : Type} {f : α → D} : ∀ xs : List α, xs.filterMap (fun x => some (f x)) = xs.map f
  | [] => rfl
  | x :: xs => by simp only [List.filterMap_cons, List.map_cons, fm_all xs]
theorem all_b {g : D → Bool} {xs : List D} : biD .all [.lst (xs.filterMap fun x => some (D.bl (g x)))] = some (.bl (xs.all g)) := by
  have := bi_all (bs := xs.map g)
  rw [List.map_map] at this
  rw [fm_all]
  show biD .all [.lst (xs.map (D.bl ∘ g))] = _
  rw [this, List.all_map]; rfl
section
variable {T : Prg} {k : Nat} {x : D}
theorem number_is (hT : Wt T) (hk : 1 ≤ k) : ev T k 70 [.d x] = some (.d (.bl (numB x)), [.d x]) := by
  refine W_eq (W_call hT.number (by omega) rfl fun j hj => ?_)
  show wS _ _ ir_is_number [some (.d _)] _
  cases x <;> simp_arith only [ir_is_number, tysA, isTy, numB]
theorem int_is (hT : Wt T) (hk : 1 ≤ k) : ev T k 106 [.d x] = some (.d (.bl (numB x)), [.d x]) := by
  refine W_eq (W_call hT.int (by omega) rfl fun j hj => ?_)
  show wS _ _ ir_is_int [some (.d _)] _
  cases x <;> simp_arith only [ir_is_int, tysA, isTy, numB]
def signs (s : Str) : List D := s.cps.toList.map fun c => .str ⟨#[c]⟩
def sgB : D → Bool
  | .str s => match s.cps.toList with
    | [c] => decide (c ∈ abc.cps.toList)
    | _ => false
  | _ => false
theorem signs_all (s : Str) : (signs s).all sgB = lowB s := by
  unfold signs lowB
  rw [List.all_map]; rfl
theorem signs_in {s : Str} {x : D} (h : x ∈ signs s) : cmpD .isin x (.str "abcdefghijklmnopqrstuvwxyz") = some (sgB x) := by
  obtain ⟨c, _, rfl⟩ := List.mem_map.mp h
  rfl
theorem signs_items {s : Str} (h : s.length ≤ sizeLine) : D.items (.str s) = some (signs s) := by
  show (if _ then _ else _) = _
  rw [if_pos h]; rfl
theorem lenD_s {s : Str} (h : s.length ≤ sizeLine) : lenD (.str s) = some (.int s.length) := if_pos h
theorem len_str {s : Str} (h : (D.str s).wu ≤ 60000) : s.length ≤ sizeLine := by
  have h : 10 * s.length + 2 ≤ 60000 := h
  have := sizeLine_ge
  omega
theorem name_is (hT : Wt T) (hk : 1 ≤ k) (hx : x.wu ≤ 60000) : ev T k 96 [.d x] = some (.d (.bl (namB x)), [.d x]) := by
  refine W_eq (W_call hT.name (by omega) rfl fun j hj => ?_)
  show wS _ _ ir_is_name [some (.d _), none] _
  cases x with
  | str s =>
    have hl := len_str hx
    unfold ir_is_name
    rw [wS_seq]
    simp_arith [wS_ifS, tysA, isTy, lenD_s hl, hT.g31, namB]
    by_cases h1 : 1 ≤ (s.length : Int)
    · by_cases h2 : (s.length : Int) ≤ 8
      · simp_arith [h1, h2, wS_skip, thenW_nx]
        rw [wS_seq]
        simp_arith [wS_ret]
        refine wE_comp (xs := signs s) (fun x => some (.bl (sgB x))) ?_ rfl rfl (fun x hx => ?_) ?_
        · simp_arith [signs_items hl]
        · simp_arith [wipeE, hT.g32, signs_in hx]
        · simp_arith [all_b, signs_all, thenW_ret, decide_eq_true h1, decide_eq_true h2, Bool.true_and]
      · simp_arith [h1, h2]
        rw [wS_seq]
        simp_arith [wS_ret, thenW_ret, decide_eq_false h2, Bool.false_and, Bool.and_false]
    · simp_arith [h1]
      rw [wS_seq]
      simp_arith [wS_ret, thenW_ret, decide_eq_false h1, Bool.false_and]
  | _ => simp_arith only [ir_is_name, tysA, isTy, namB]
theorem pair_is (hT : Wt T) (hk : 1 ≤ k) : ev T k 97 [.d x] = some (.d (.bl (match x with | .tup [_, _] => true | _ => false)), [.d x]) := by
  refine W_eq (W_call hT.pair (by omega) rfl fun j hj => ?_)
  show wS _ _ ir_is_pair [some (.d _)] _
  cases x with
  | tup xs =>
    match xs with
    | [] => simp_arith only [ir_is_pair, tysA, isTy, hT.g24]; rfl
    | [a] => simp_arith only [ir_is_pair, tysA, isTy, hT.g24]; rfl
    | [a, b] => simp_arith only [ir_is_pair, tysA, isTy, hT.g24]; rfl
    | a :: b :: c :: r =>
      simp_arith only [ir_is_pair, tysA, isTy, hT.g24]
      have : ¬ ((r.length : Int) + 1 + 1 + 1 = 2) := by omega
      simp [this]
  | _ => simp_arith only [ir_is_pair, tysA, isTy]
theorem knd_in {s : Str} : cmpD .isin (.str s) (.tup [.str "number", .str "text"]) = some (decide (s ∈ ([("number" : Str), "text"] : List Str))) := isin_strT (ns := [("number" : Str), "text"])
theorem wu_two {a b : D} : (D.tup [a, b]).wu = a.wu + b.wu + 8 := by show a.wu + 2 + (b.wu + 2 + 0) + 4 = _; omega
theorem column_is (hT : Wt T) (hk : 2 ≤ k) (hx : x.wu ≤ 60000) : ev T k 99 [.d x] = some (.d (.bl (colB x)), [.d x]) := by
  refine W_eq (W_call hT.column (by omega) rfl fun j hj => ?_)
  show wS _ _ ir_is_column [some (.d _)] _
  have l2 : (0 + 1 + 1 : Nat) ≤ sizeLine := by decide
  have e1 := pair_is hT (show 1 ≤ j by omega) (x := x)
  cases x with
  | tup xs =>
    match xs, e1 with
    | [], e1 => simp_arith only [ir_is_column, e1, colB]
    | [a], e1 => simp_arith only [ir_is_column, e1, colB]
    | [a, b], e1 =>
      rw [wu_two] at hx
      have e2 := name_is hT (show 1 ≤ j by omega) (x := a) (by omega)
      simp_arith only [ir_is_column, e1, e2, colB]
      cases namB a with
      | false => simp_arith only []
      | true => cases b <;> simp_arith only [tysA, isTy, hT.g30, hT.g33, if_pos l2, knd_in, kndB]
    | a :: b :: c :: r, e1 => simp_arith only [ir_is_column, e1, colB]
  | _ => simp_arith only [ir_is_column, e1, colB]
theorem named_is (hT : Wt T) (hk : 1 ≤ k) (hx : x.wu ≤ 60000) : ev T k 107 [.d x] = some (.d (.bl (colB x)), [.d x]) := by
  refine W_eq (W_call hT.named (by omega) rfl fun j hj => ?_)
  show wS _ _ ir_is_named [some (.d _), none] _
  cases x with
  | tup xs =>
    match xs with
    | [] =>
      simp_arith only [ir_is_named, tysA, isTy, colB]
      rw [if_pos (by simp)]; trivial
    | [a] => simp_arith only [ir_is_named, tysA, isTy, colB]; rw [if_pos (by simp)]; trivial
    | [a, b] =>
      rw [wu_two] at hx
      unfold ir_is_named
      rw [wS_seq]
      simp_arith [wS_ifS, tysA, isTy]
      rw [if_neg (by simp)]
      cases a with
      | str s =>
        have hl := len_str (s := s) (by omega)
        simp_arith [wS_skip, thenW_nx, colB, namB]
        rw [wS_seq]
        simp_arith [wS_ifS, lenD_s hl]
        by_cases h1 : 1 ≤ (s.length : Int)
        · by_cases h2 : (s.length : Int) ≤ 8
          · simp_arith [h1, h2]
            refine wE_comp (xs := signs s) (fun x => some (.bl (sgB x))) ?_ rfl rfl (fun x hx => ?_) ?_
            · simp_arith [signs_items hl]
            · simp_arith [wipeE, signs_in hx]
            · simp_arith [all_b, signs_all]
              cases lowB s with
              | false => simp_arith only []
              | true =>
                simp_arith [wS_skip, thenW_nx]
                rw [wS_seq]
                simp_arith [wS_ret, tysA]
                cases b with
                | str z =>
                  simp_arith [isTy, kndB]
                  by_cases z1 : z = Str.ofString "number"
                  · subst z1; simp_arith [thenW_ret]; simp; exact ⟨h1, h2⟩
                  · simp_arith [z1]
                    by_cases z2 : z = Str.ofString "text"
                    · subst z2; simp_arith [thenW_ret]; simp; exact ⟨h1, h2⟩
                    · simp_arith [z2, thenW_ret]; simp [z1, z2]
                | _ => simp_arith [isTy, kndB, thenW_ret]
          · simp_arith only [h1, h2]
        · simp_arith only [h1]
      | _ => simp_arith only [isTy, colB, namB]
    | a :: b :: c :: r =>
      simp_arith only [ir_is_named, tysA, isTy, colB]
      rw [if_pos (by simp; omega)]; trivial
  | _ => simp_arith only [ir_is_named, tysA, isTy, colB]
theorem wus_in : ∀ {xs : List D} {x : D}, x ∈ xs → x.wu + 2 ≤ D.wus xs
  | y :: xs, x, h => by
    show x.wu + 2 ≤ y.wu + 2 + D.wus xs
    rcases List.mem_cons.mp h with rfl | h
    · omega
    · have := wus_in h; omega
theorem col_shape {c : D} (h : colB c = true) : ∃ s z : Str, c = .tup [.str s, .str z] ∧ 1 ≤ s.length ∧ 4 ≤ z.length := by
  unfold colB at h
  split at h
  · rename_i a b
    rw [Bool.and_eq_true] at h
    obtain ⟨h1, h2⟩ := h
    cases a <;> try (cases h1; done)
    cases b <;> try (cases h2; done)
    rename_i s z
    simp only [namB, Bool.and_eq_true, decide_eq_true_eq] at h1
    have h2 : decide (z ∈ ([("number" : Str), "text"] : List Str)) = true := h2
    simp only [decide_eq_true_eq, List.mem_cons, List.not_mem_nil, or_false] at h2
    refine ⟨s, z, rfl, by omega, ?_⟩
    rcases h2 with rfl | rfl <;> decide
  · cases h
theorem cols_len : ∀ {cs : List D}, cs.all colB = true → 64 * cs.length ≤ D.wus cs
  | [], _ => Nat.zero_le _
  | c :: cs, h => by
    rw [List.all_cons, Bool.and_eq_true] at h
    have ih := cols_len h.2
    obtain ⟨s, z, rfl, h1, h2⟩ := col_shape h.1
    show 64 * (cs.length + 1) ≤ (D.tup [.str s, .str z]).wu + 2 + D.wus cs
    rw [wu_two]
    show 64 * (cs.length + 1) ≤ (10 * s.length + 2) + (10 * z.length + 2) + 8 + 2 + D.wus cs
    omega
theorem strs_D : ∀ ss : List Str, strsD (ss.map D.str) = some ss
  | [] => rfl
  | s :: ss => by simp only [List.map_cons, strsD, strs_D ss, Option.map_some]
theorem lenSet_str {ss : List Str} (h0 : ss ≠ []) (hl : ss.length ≤ 1000) : lenSetD (ss.map D.str) = some (((nubS ss).length : Nat) : Int) := by
  have : intsD (ss.map D.str) = none := by cases ss with
    | nil => exact absurd rfl h0
    | cons s ss => rfl
  unfold lenSetD
  rw [this, strs_D]
  dsimp only
  rw [if_pos hl]
theorem names_fm {cs : List D} : cs.filterMap (fun c => some (D.str (nmOf c))) = (cs.map nmOf).map D.str := by
  rw [fm_all, List.map_map]; rfl
theorem lenD_n {cs : List D} : lenD (.tup cs) = some (.int cs.length) := rfl
theorem columns_is (hT : Wt T) (hk : 3 ≤ k) {cs : List D} (hx : (D.tup cs).wu ≤ 60000) : ev T k 100 [.d (.tup cs)] = some (.d (.bl (colsB cs)), [.d (.tup cs)]) := by
  refine W_eq (W_call hT.columns (by omega) rfl fun j hj => ?_)
  show wS _ _ ir_are_columns [some (.d _), none, none, none] _
  have hw : D.wus cs + 4 ≤ 60000 := hx
  unfold ir_are_columns colsB
  rw [wS_seq]
  simp_arith [wS_ifS, tysA, isTy]
  by_cases h0 : cs = []
  · subst h0
    simp_arith only []
    rfl
  have hl0 : ¬ ((cs.length : Int) = 0) := by
    have := List.length_pos_iff.mpr h0
    omega
  rw [if_neg (by simpa using hl0)]
  refine wE_comp (xs := cs) (fun x => some (.bl (colB x))) ?_ rfl rfl (fun x hx => ?_) ?_
  · simp_arith [items_t]
  · have := wus_in hx
    simp_arith [wipeE, column_is hT (show 2 ≤ j by omega) (x := x) (by omega)]
  simp_arith [all_b]
  have he : cs.isEmpty = false := by cases cs <;> simp_all
  rw [he]
  cases hc : cs.all colB with
  | false =>
    simp_arith only []
  | true =>
    simp_arith [wS_skip, thenW_nx]
    have hl := cols_len hc
    rw [wS_seq]
    simp_arith [wS_ret]
    refine wE_comp (xs := cs) (fun x => some (.str (nmOf x))) ?_ rfl rfl (fun x hx => ?_) ?_
    · simp_arith [items_t]
    · obtain ⟨s, z, rfl, _, _⟩ := col_shape (List.all_eq_true.mp hc x hx)
      simp_arith [wipeE, nmOf]
    rw [names_fm]
    have hs := lenSet_str (ss := cs.map nmOf) (by simpa using h0) (by rw [List.length_map]; omega)
    simp_arith [hs, thenW_ret]
theorem value_of_is (hT : Wt T) (hk : 2 ≤ k) {kd : Str} : ev T k 98 [.d (.str kd), .d x] = some (.d (.bl (celB kd x)), [.d (.str kd), .d x]) := by
  refine W_eq (W_call hT.value_of (by omega) rfl fun j hj => ?_)
  show wS _ _ ir_is_value_of [some (.d _), some (.d _)] _
  have hn := number_is hT (show 1 ≤ j by omega) (x := x)
  by_cases h : kd = Str.ofString "number"
  · cases x <;> simp_arith only [ir_is_value_of, tysA, isTy, hT.g30, hn, isn_bl, celB, numB, h]
  · cases x <;> simp_arith only [ir_is_value_of, tysA, isTy, hT.g30, hn, isn_bl, celB, txtB, h]
theorem cell_is (hT : Wt T) (hk : 2 ≤ k) {kd : Str} : ev T k 108 [.d (.str kd), .d x] = some (.d (.bl (celB kd x)), [.d (.str kd), .d x]) := by
  refine W_eq (W_call hT.cell (by omega) rfl fun j hj => ?_)
  show wS _ _ ir_is_cell [some (.d _), some (.d _)] _
  have hn := int_is hT (show 1 ≤ j by omega) (x := x)
  by_cases h : kd = Str.ofString "number"
  · cases x <;> simp_arith only [ir_is_cell, tysA, isTy, hn, isn_bl, celB, numB, h]
  · cases x <;> simp_arith only [ir_is_cell, tysA, isTy, hn, isn_bl, celB, txtB, h]
end
end Ov

set_option maxHeartbeats 4000000
namespace Ov
open PySem
/-! ### one part of a value changed -/
theorem depths_le {d : Nat} : ∀ {xs : List D}, (∀ x ∈ xs, x.depth ≤ d) → D.depths xs ≤ d
  | [], _ => Nat.zero_le _
  | x :: xs, h => by
    have h1 := h x (List.mem_cons_self ..)
    have h2 := depths_le fun y hy => h y (List.mem_cons_of_mem _ hy)
    show max x.depth (D.depths xs) ≤ d
    omega
theorem oks_mem : ∀ {xs : List D}, D.oks xs = true → ∀ x ∈ xs, x.ok = true
  | [], _, x, h => by cases h
  | y :: xs, h, x, hx => by
    have h : (y.ok && D.oks xs) = true := h
    rw [Bool.and_eq_true] at h
    rcases List.mem_cons.mp hx with rfl | hx
    · exact h.1
    · exact oks_mem h.2 x hx
theorem oks_of : ∀ {xs : List D}, (∀ x ∈ xs, x.ok = true) → D.oks xs = true
  | [], _ => rfl
  | y :: xs, h => by
    show (y.ok && D.oks xs) = true
    rw [h y (List.mem_cons_self ..), oks_of fun z hz => h z (List.mem_cons_of_mem _ hz)]; rfl
theorem wus_len : ∀ xs : List D, 2 * xs.length ≤ D.wus xs
  | [] => Nat.zero_le _
  | y :: xs => by
    have := wus_len xs
    show 2 * (xs.length + 1) ≤ y.wu + 2 + D.wus xs
    omega
theorem wus_mem : ∀ {xs : List D} {x : D}, x ∈ xs → x.wu + 2 ≤ D.wus xs
  | y :: xs, x, h => by
    show x.wu + 2 ≤ y.wu + 2 + D.wus xs
    rcases List.mem_cons.mp h with rfl | h
    · omega
    · have := wus_mem h; omega
theorem wus_erase : ∀ (xs : List D) (i : Nat), D.wus (xs.eraseIdx i) ≤ D.wus xs
  | [], i => by simp
  | y :: xs, 0 => by
    show D.wus xs ≤ y.wu + 2 + D.wus xs
    omega
  | y :: xs, i + 1 => by
    have := wus_erase xs i
    show y.wu + 2 + D.wus (xs.eraseIdx i) ≤ y.wu + 2 + D.wus xs
    omega
theorem wus_insert {z : D} : ∀ (xs : List D) (i : Nat), D.wus (xs.insertIdx i z) ≤ D.wus xs + z.wu + 2
  | [], 0 => by simp [D.wus]
  | [], i + 1 => by simp [D.wus]
  | y :: xs, 0 => by
    show z.wu + 2 + (y.wu + 2 + D.wus xs) ≤ y.wu + 2 + D.wus xs + z.wu + 2
    omega
  | y :: xs, i + 1 => by
    have := wus_insert (z := z) xs i
    show y.wu + 2 + D.wus (xs.insertIdx i z) ≤ y.wu + 2 + D.wus xs + z.wu + 2
    omega
theorem insert_mem {z c : D} : ∀ (xs : List D) (i : Nat), z ∈ xs.insertIdx i c → z = c ∨ z ∈ xs
  | [], 0, h => by simpa using h
  | [], i + 1, h => by simp at h
  | y :: xs, 0, h => by simpa using h
  | y :: xs, i + 1, h => by
    have h : z ∈ y :: xs.insertIdx i c := h
    rcases List.mem_cons.mp h with rfl | h
    · exact Or.inr (List.mem_cons_self ..)
    · rcases insert_mem xs i h with h | h
      · exact Or.inl h
      · exact Or.inr (List.mem_cons_of_mem _ h)
theorem wus_set {z u : D} : ∀ (xs : List D) (i : Nat), xs[i]? = some u → D.wus (xs.set i z) + u.wu = D.wus xs + z.wu
  | [], i, h => by cases h
  | y :: xs, 0, h => by
    have e : y = u := by simpa using h
    subst e
    show z.wu + 2 + D.wus xs + y.wu = y.wu + 2 + D.wus xs + z.wu
    omega
  | y :: xs, i + 1, h => by
    have := wus_set (z := z) (u := u) xs i (by simpa using h)
    show y.wu + 2 + D.wus (xs.set i z) + u.wu = y.wu + 2 + D.wus xs + z.wu
    omega
def oddL : List D := [.non, .bl true, .bl false, .int (-1), .int 0, .int 1, .str "", .str "start", .str "end", .str "here", .str "before", .str "after", .str "rows", .str "ties", .tup [], .lst [], .tup [.str "end"],
  .tup [.str "here"], .tup [.str "start"], .tup [.str "before", .int 0], .tup [.str "after", .bl true], .tup [.str "after", .int (-1)], .tup [.str "here", .int 0], .int 1000000000000000000000000000000]
theorem odd_ok : ∀ y ∈ oddL, y.depth ≤ 1 ∧ y.ok = true ∧ y.wu ≤ 300 := by
  have h : oddL.all (fun y => decide (y.depth ≤ 1) && (y.ok && decide (y.wu ≤ 300))) = true := by decide +kernel
  intro y hy
  have := List.all_eq_true.mp h y hy
  simp only [Bool.and_eq_true, decide_eq_true_eq] at this
  exact this
theorem pow30 : opD .pow (.int 10) (.int 30) = some (.int 1000000000000000000000000000000) := (rfl)
theorem mu_popAt {ys : List D} {i : Int} : muD .popAt ys [.int i] = (ixN' ys.length i >>= fun j => ys[j]? >>= fun y => some (y, ys.eraseIdx j)) := (rfl)
theorem mu_insert {ys : List D} {i : Int} {x : D} : muD .insert ys [.int i, x] = if ys.length < sizeLine ∧ 0 ≤ i ∧ i ≤ ys.length then some (.non, ys.insertIdx i.toNat x) else none := (rfl)
theorem ixN'_int {n : Nat} {i : Int} (h0 : 0 ≤ i) (h1 : i < n) : ixN' n i = some i.toNat := by
  have := ixN'_nat (n := n) (i := i.toNat) (by omega)
  rwa [Int.toNat_of_nonneg h0] at this
/-- a sequence made anew of the kind of x -/
def likeD (x : D) (ys : List D) : D := if isTys [.tuple] x = true then .tup ys else .lst ys
structure Btn (T : Prg) : Prop where
  dr : Dr0 T
  bent : T.fns 82 = some fn_bent
theorem isTys_tt {xs : List D} : isTys [.tuple] (.tup xs) = true := (rfl)
theorem isTys_tl {xs : List D} : isTys [.tuple] (.lst xs) = false := (rfl)
def sndOf : IR → IR
  | .seq _ b => b
  | _ => .nil
def seqOf (x : D) : List D := x.ofSeq.getD []
section
variable {T : Prg} {k n e : Nat} {b : Bool} {B : List D} {x : D} {Q : EV × List EV → Prop}
theorem bent_step (hT : Btn T) (hk : 5 ≤ k) (hB : Bx n B) (hn : n + 10 ≤ 10 ^ 12) (hok : x.ok = true) (hw : x.wu ≤ 100000)
    (IH : ∀ (c : D) (B1 : List D) (Q1 : EV × List EV → Prop), c ∈ seqOf x → Bx (n + 4) B1 → (∀ y B', y.depth ≤ c.depth + 1 → y.ok = true → y.wu ≤ 2 * c.wu + 300 → Bx (n + 4 + e) B' → Q1 (.d y, [.own true B', .d c])) → W (ev T (k - 1) 82 [.own true B1, .d c]) Q1)
    (q : ∀ y B', y.depth ≤ x.depth + 1 → y.ok = true → y.wu ≤ 2 * x.wu + 300 → Bx (n + 4 + e) B' → Q (.d y, [.own b B', .d x])) : W (ev T k 82 [.own b B, .d x]) Q := by
  refine W_call hT.bent (by omega) rfl fun j hj => ?_
  obtain rfl : j = k - 1 := by omega
  show wS _ _ ir_bent [some (.own b _), some (.d _), none, none, none, none] _
  have hsz := sizeLine_ge
  have l0 : (0 : Nat) ≤ sizeLine := by decide
  have l1 : (0 + 1 : Nat) ≤ sizeLine := by decide
  have l2 : (0 + 1 + 1 : Nat) ≤ sizeLine := by decide
  have l7 : (0 + 1 + 1 + 1 + 1 + 1 + 1 + 1 : Nat) ≤ sizeLine := by decide
  have l17 : (0 + 1 + 1 + 1 + 1 + 1 + 1 + 1 + 1 + 1 + 1 + 1 + 1 + 1 + 1 + 1 + 1 + 1 : Nat) ≤ sizeLine := by decide
  have l24 : (0 + 1 + 1 + 1 + 1 + 1 + 1 + 1 + 1 + 1 + 1 + 1 + 1 + 1 + 1 + 1 + 1 + 1 + (0 + 1 + 1 + 1 + 1 + 1 + 1 + 1) : Nat) ≤ sizeLine := by decide
  -- a sequence
  have sq : ∀ xs, x.ofSeq = some xs → D.oks xs = true ∧ D.wus xs + 4 = x.wu ∧ D.depths xs + 1 = x.depth ∧ seqOf x = xs ∧ isTys [.tuple, .list] x = true ∧ listD x = some (.lst xs) ∧
      (isTys [.tuple] x = true ∨ isTys [.tuple] x = false) := fun xs h => by
    cases x <;> cases h
    · exact ⟨hok, rfl, rfl, rfl, rfl, rfl, Or.inl rfl⟩
    · exact ⟨hok, rfl, rfl, rfl, rfl, rfl, Or.inr rfl⟩
  have nsq : x.ofSeq = none → isTys [.tuple, .list] x = false := fun h => by cases x <;> first | rfl | cases h
  -- any odd thing
  have T3 : ∀ (r : Int) (B1 : List D), Bx (n + 2) B1 → wS (Cf T (k - 1)) T.w (sndOf (sndOf (sndOf ir_bent))) [some (.own b B1), some (.d x), some (.d (.int r)), none, none, none] (fun o => W (outOf 2 o) Q) := by
    intro r B1 hB1
    unfold ir_bent
    simp only [sndOf]
    rw [wS_seq]
    simp_arith [wS_asg, if_pos l0, if_pos l1, if_pos l17, thenW_nx]
    rw [wS_seq]
    simp_arith [wS_asg, if_pos l0, if_pos l1, if_pos l2, if_pos l7, if_pos l24, pow30, thenW_nx]
    rw [wS_seq]
    simp_arith [wS_ret]
    refine W_pick hT.dr (by omega) hB1 (by omega) (xs := oddL) rfl (by simp [oddL]) (by decide) fun y B2 hy hB2 => ?_
    obtain ⟨o1, o2, o3⟩ := odd_ok y hy
    simp_arith [thenW_ret]
    exact q _ _ (by omega) o2 (by omega) (hB2.mono (by omega))
  have T2 : ∀ (r : Int) (B1 : List D), Bx (n + 2) B1 → wS (Cf T (k - 1)) T.w (sndOf (sndOf ir_bent)) [some (.own b B1), some (.d x), some (.d (.int r)), none, none, none] (fun o => W (outOf 2 o) Q) := by
    intro r B1 hB1
    have T3 := T3 r B1 hB1
    unfold ir_bent at T3 ⊢
    simp only [sndOf] at T3 ⊢
    rw [wS_seq]
    simp_arith [wS_ifS]
    by_cases hr : r = 0
    · rw [if_pos hr]
      cases hs : x.ofSeq with
      | none => simp_arith [nsq hs, wS_skip, thenW_nx]; exact T3
      | some xs =>
        obtain ⟨s1, s2, s3, s4, s5, s6, s7⟩ := sq xs hs
        simp_arith [s5]
        rw [wS_seq]
        cases x <;> cases hs
        · simp_arith [wS_ret, isTys_tt, thenW_ret]
          exact q _ _ (by show D.depths xs + 1 ≤ _; omega) hok (by show D.wus xs + 4 ≤ _; omega) (hB1.mono (by omega))
        · simp_arith [wS_ret, isTys_tl, thenW_ret]
          exact q _ _ (by show D.depths xs + 1 ≤ _; omega) hok (by show D.wus xs + 4 ≤ _; omega) (hB1.mono (by omega))
    · rw [if_neg hr]
      simp only [wS_skip, thenW_nx]
      exact T3
  have T2' := T2
  unfold ir_bent
  rw [wS_seq]
  simp_arith [wS_asg]
  refine W_take hT.dr (by omega) hB (by omega) (by decide) (by decide) fun r B1 h1 h2 hB1 => ?_
  simp_arith [thenW_nx]
  rw [wS_seq]
  simp_arith [wS_ifS]
  cases hs : x.ofSeq with
  | none =>
    simp_arith [nsq hs, wS_skip, thenW_nx]
    exact T2 r B1 hB1
  | some xs =>
    obtain ⟨s1, s2, s3, s4, s5, s6, s7⟩ := sq xs hs
    have s6 : biD .list [x] = some (.lst xs) := s6
    have hwl := wus_len xs
    simp_arith [s5, lenD_seq hs]
    by_cases hl : 0 < (xs.length : Int)
    rotate_left 1
    · rw [if_neg hl]
      simp_arith [wS_skip, thenW_nx]
      exact T2 r B1 hB1
    rw [if_pos hl]
    by_cases hr : 1 < r
    rotate_left 1
    · rw [if_neg hr]
      simp_arith [wS_skip, thenW_nx]
      exact T2 r B1 hB1
    rw [if_pos hr]
    clear T2 T3
    rw [wS_seq]
    simp_arith [wS_par, lenD_seq hs]
    refine W_take hT.dr (by omega) hB1 (by omega) (by omega) (by omega) fun at_ B2 h3 h4 hB2 => ?_
    simp_arith [s6, thenW_nx]
    have hat : at_.toNat < xs.length := by omega
    have hc : xs[at_.toNat]? = some xs[at_.toNat] := List.getElem?_eq_getElem hat
    generalize xs[at_.toNat] = c at hc
    have hcm : c ∈ xs := List.mem_of_getElem? hc
    have hcw := wus_mem hcm
    have hcd := depths_mem hcm
    have hco := oks_mem s1 c hcm
    have FIN : ∀ (ys : List D) (B' : List D), (∀ z ∈ ys, z.depth ≤ x.depth ∧ z.ok = true) → D.wus ys + 4 ≤ 2 * x.wu + 300 → Bx (n + 4 + e) B' →
        wS (Cf T (k - 1)) T.w (.seq (.ret (.ife (.isi (.var 1) [.tuple]) (.bi .tuple (.cons (.var 5) .nil)) (.frz 5))) .skip) [some (.own b B'), some (.d x), some (.d (.int r)), none, some (.d (.int at_)), some (.own false ys)]
          (thenW (Cf T (k - 1)) T.w (sndOf (sndOf ir_bent)) (fun o => W (outOf 2 o) Q)) := by
      intro ys B' hz hwy hB'
      have hdy := depths_le fun z hz' => (hz z hz').1
      have hoy := oks_of fun z hz' => (hz z hz').2
      rw [wS_seq]
      simp_arith [wS_ret]
      rcases s7 with h | h
      · simp_arith [h, thenW_ret]
        exact q (.tup ys) _ (by show D.depths ys + 1 ≤ _; omega) hoy (by show D.wus ys + 4 ≤ _; omega) hB'
      · simp_arith [h, thenW_ret]
        exact q (.lst ys) _ (by show D.depths ys + 1 ≤ _; omega) hoy (by show D.wus ys + 4 ≤ _; omega) hB'
    have hin : ∀ z ∈ xs, z.depth ≤ x.depth ∧ z.ok = true := fun z hz => ⟨by have := depths_mem hz; omega, oks_mem s1 z hz⟩
    rw [wS_seq]
    simp_arith [wS_ifS]
    by_cases hr2 : r = 2
    · rw [if_pos hr2]
      rw [wS_seq]
      simp_arith [wS_expr, mu_popAt, ixN'_int h3 h4, hc, thenW_nx, wS_skip]
      refine FIN _ _ (fun z hz => hin z (List.mem_of_mem_eraseIdx hz)) ?_ (hB2.mono (by omega))
      have := wus_erase xs at_.toNat
      omega
    · rw [if_neg hr2]
      rw [wS_seq]
      simp_arith [wS_ifS]
      by_cases hr3 : r = 3
      · rw [if_pos hr3]
        rw [wS_seq]
        simp_arith [wS_expr, atD_int h3 hc, mu_insert]
        rw [if_pos (by refine ⟨?_, ?_, ?_⟩ <;> omega)]
        simp_arith [thenW_nx, wS_skip]
        refine FIN _ _ (fun z hz => ?_) ?_ (hB2.mono (by omega))
        · rcases insert_mem _ _ hz with h | h
          · subst h; exact hin _ hcm
          · exact hin z h
        · have := wus_insert (z := c) xs at_.toNat
          omega
      · rw [if_neg hr3]
        rw [wS_seq]
        simp_arith [wS_setI, atD_int h3 hc]
        refine IH c B2 _ (by rw [s4]; exact hcm) hB2 fun y B3 d1 d2 d3 hB3 => ?_
        simp_arith [ixN'_int h3 h4, thenW_nx, wS_skip]
        refine FIN _ _ (fun z hz => ?_) ?_ hB3
        · rcases List.mem_or_eq_of_mem_set hz with h | h
          · exact hin z h
          · subst h; exact ⟨by omega, d2⟩
        · have := wus_set (z := y) (u := c) xs at_.toNat hc
          omega
theorem W_bent (hT : Btn T) : ∀ (m k n : Nat) {b : Bool} {B : List D} {x : D} {Q : EV × List EV → Prop}, x.depth ≤ m → m + 5 ≤ k → Bx n B → n + 10 * (m + 1) ≤ 10 ^ 12 → x.ok = true → x.wu ≤ 100000 →
    (∀ y B', y.depth ≤ x.depth + 1 → y.ok = true → y.wu ≤ 2 * x.wu + 300 → Bx (n + 4 * (m + 1)) B' → Q (.d y, [.own b B', .d x])) → W (ev T k 82 [.own b B, .d x]) Q
  | 0, k, n, b, B, x, Q, hd, hk, hB, hn, hok, hw, q => by
    refine bent_step hT (e := 0) (by omega) hB (by omega) hok hw (fun c B1 Q1 hc hB1 q1 => ?_) fun y B' h1 h2 h3 h4 => q y B' h1 h2 h3 (h4.mono (by omega))
    cases x <;> first | (exfalso; simp [D.depth] at hd; done) | cases hc
  | m + 1, k, n, b, B, x, Q, hd, hk, hB, hn, hok, hw, q => by
    refine bent_step hT (e := 4 * (m + 1)) (by omega) hB (by omega) hok hw (fun c B1 Q1 hc hB1 q1 => ?_) fun y B' h1 h2 h3 h4 => q y B' h1 h2 h3 (h4.mono (by omega))
    have hcc : c.depth ≤ m ∧ c.ok = true ∧ c.wu ≤ 100000 := by
      cases x <;> try (cases hc; done)
      · rename_i xs
        have hc : c ∈ xs := hc
        have a1 := depths_mem hc
        have a2 := wus_mem hc
        have a3 : D.depths xs + 1 ≤ m + 1 := hd
        have a4 : D.wus xs + 4 ≤ 100000 := hw
        exact ⟨by omega, oks_mem hok c hc, by omega⟩
      · rename_i xs
        have hc : c ∈ xs := hc
        have a1 := depths_mem hc
        have a2 := wus_mem hc
        have a3 : D.depths xs + 1 ≤ m + 1 := hd
        have a4 : D.wus xs + 4 ≤ 100000 := hw
        exact ⟨by omega, oks_mem hok c hc, by omega⟩
    exact W_bent hT m (k - 1) (n + 4) hcc.1 (by omega) hB1 (by omega) hcc.2.1 hcc.2.2 q1
end
end Ov

set_option maxHeartbeats 4000000
namespace Ov
open PySem
def pairB (g : D → D → Bool) : D → Bool
  | .tup [a, b] => g a b
  | _ => false
theorem zip_all {g : D → D → Bool} {xs ys : List D} : (zipD xs ys).all (pairB g) = (xs.zip ys).all fun p => g p.1 p.2 := by
  unfold zipD
  rw [List.all_map]; rfl
theorem zip_mem {xs ys : List D} {x : D} (h : x ∈ zipD xs ys) : ∃ a b, x = .tup [a, b] ∧ (a, b) ∈ xs.zip ys := by
  obtain ⟨p, hp, rfl⟩ := List.mem_map.mp h
  exact ⟨p.1, p.2, rfl, hp⟩
theorem cell_le {xs : List D} {x : D} (h : x ∈ xs) : x.wu ≤ D.wus xs := by have := wus_in h; omega
section
variable {T : Prg} {k : Nat} {x : D} {cs xs rs : List D}
theorem cells_is (hT : Wt T) (hk : 3 ≤ k) (hc : cs.all colB = true) : ev T k 101 [.d (.tup cs), .d (.tup xs)] = some (.d (.bl (decide (xs.length = cs.length) && (cs.zip xs).all fun p => celB (kdOf p.1) p.2)), [.d (.tup cs), .d (.tup xs)]) := by
  refine W_eq (W_call hT.cells (by omega) rfl fun j hj => ?_)
  show wS _ _ ir_cells_fit [some (.d _), some (.d _), none, none, none] _
  unfold ir_cells_fit
  rw [wS_seq]
  simp_arith [wS_ifS]
  by_cases hl : xs.length = cs.length
  · rw [if_neg (by simp [hl])]
    simp only [wS_skip, thenW_nx]
    rw [wS_seq]
    simp_arith [wS_ret]
    refine wE_comp (xs := zipD cs xs) (fun x => some (.bl (pairB (fun c x => celB (kdOf c) x) x))) ?_ rfl rfl (fun x hx => ?_) ?_
    · simp_arith [zipO_t]
    · obtain ⟨c, y, rfl, hm⟩ := zip_mem hx
      obtain ⟨s, z, rfl, _, _⟩ := col_shape (List.all_eq_true.mp hc c (List.of_mem_zip hm).1)
      simp_arith [wipeE, value_of_is hT (show 2 ≤ j by omega), pairB, kdOf]
    · simp_arith [all_b, zip_all, thenW_ret, decide_eq_true hl, Bool.true_and]
  · rw [if_pos (by simpa using fun h : (xs.length : Int) = cs.length => hl (by omega))]
    rw [wS_seq]
    simp_arith [wS_ret, thenW_ret, decide_eq_false hl, Bool.false_and]
theorem row_is (hT : Wt T) (hk : 4 ≤ k) (hc : cs.all colB = true) : ev T k 102 [.d (.tup cs), .d x] = some (.d (.bl (rowB cs x)), [.d (.tup cs), .d x]) := by
  refine W_eq (W_call hT.row (by omega) rfl fun j hj => ?_)
  show wS _ _ ir_is_row [some (.d _), some (.d _)] _
  have e1 := pair_is hT (show 1 ≤ j by omega) (x := x)
  cases x with
  | tup ys =>
    match ys, e1 with
    | [], e1 => simp_arith only [ir_is_row, e1, rowB]
    | [a], e1 => simp_arith only [ir_is_row, e1, rowB]
    | [a, b], e1 =>
      have e2 := number_is hT (show 1 ≤ j by omega) (x := a)
      cases a with
      | int n =>
        simp_arith only [ir_is_row, e1, e2, numB]
        by_cases hn : n < 0
        · simp_arith only [hn]
          cases b <;> simp only [rowB, decide_eq_false (show ¬ 0 ≤ n by omega), Bool.false_and]
        · simp_arith only [hn]
          cases b with
          | tup ys => simp_arith only [tysA, isTy, cells_is hT (show 3 ≤ j by omega) hc, rowB, decide_eq_true (show 0 ≤ n by omega), Bool.true_and]
          | _ => simp_arith only [tysA, isTy, rowB]
      | _ => simp_arith only [ir_is_row, e1, e2, numB, rowB]
    | a :: b :: c :: r, e1 => simp_arith only [ir_is_row, e1, rowB]
  | _ => simp_arith only [ir_is_row, e1, rowB]
theorem row2_is (hT : Wt T) (hk : 3 ≤ k) (hc : cs.all colB = true) : ev T k 109 [.d (.tup cs), .d x] = some (.d (.bl (rowB cs x)), [.d (.tup cs), .d x]) := by
  refine W_eq (W_call hT.row2 (by omega) rfl fun j hj => ?_)
  show wS _ _ ir_is_row_2 [some (.d _), some (.d _), none, none] _
  cases x with
  | tup ys =>
    match ys with
    | [] => simp_arith only [ir_is_row_2, tysA, isTy, rowB]; rw [if_pos (by simp)]; trivial
    | [a] => simp_arith only [ir_is_row_2, tysA, isTy, rowB]; rw [if_pos (by simp)]; trivial
    | [a, b] =>
      have e2 := int_is hT (show 1 ≤ j by omega) (x := a)
      unfold ir_is_row_2
      rw [wS_seq]
      simp_arith [wS_ifS, tysA, isTy]
      rw [if_neg (by simp)]
      cases a with
      | int n =>
        simp_arith [e2, numB]
        by_cases hn : n < 0
        · simp_arith only [hn]
          cases b <;> simp only [rowB, decide_eq_false (show ¬ 0 ≤ n by omega), Bool.false_and]
        · simp_arith [hn, wS_skip, thenW_nx]
          rw [wS_seq]
          simp_arith [wS_ifS, tysA]
          cases b with
          | tup ys =>
            simp_arith [isTy]
            by_cases hl : ys.length = cs.length
            · rw [if_neg (by simp [hl])]
              simp only [wS_skip, thenW_nx]
              rw [wS_seq]
              simp_arith [wS_ret]
              refine wE_comp (xs := zipD cs ys) (fun x => some (.bl (pairB (fun c x => celB (kdOf c) x) x))) ?_ rfl rfl (fun x hx => ?_) ?_
              · simp_arith [zipO_t]
              · obtain ⟨c, y, rfl, hm⟩ := zip_mem hx
                obtain ⟨s, z, rfl, _, _⟩ := col_shape (List.all_eq_true.mp hc c (List.of_mem_zip hm).1)
                simp_arith [wipeE, cell_is hT (show 2 ≤ j by omega), pairB, kdOf]
              · simp_arith [all_b, zip_all, thenW_ret, rowB, decide_eq_true hl, decide_eq_true (show 0 ≤ n by omega), Bool.true_and]
            · rw [if_pos (by simpa using fun h : (ys.length : Int) = cs.length => hl (by omega))]
              rw [wS_seq]
              simp_arith [wS_ret, thenW_ret, rowB, decide_eq_false hl, Bool.false_and, Bool.and_false]
          | _ => simp_arith only [isTy, rowB]
      | _ => simp_arith only [e2, numB, rowB]
    | a :: b :: c :: r => simp_arith only [ir_is_row_2, tysA, isTy, rowB]; rw [if_pos (by simp; omega)]; trivial
  | _ => simp_arith only [ir_is_row_2, tysA, isTy, rowB]
end
end Ov

set_option maxHeartbeats 4000000
namespace Ov
open PySem
theorem cut_from1 (rs : List D) : cutD rs (some 1) none = rs.drop 1 := by
  simp only [cutD, sIx']
  rw [if_neg (by omega)]
  cases rs with
  | nil => rfl
  | cons r rs =>
    have e : min (1 : Int).toNat (r :: rs).length = 1 := by simp
    rw [e]
    simp
theorem slc_t {xs : List D} {l h : Option Int} : slcD (.tup xs) l h = some (.tup (cutD xs l h)) := (rfl)
theorem row_shape {cs : List D} {r : D} (h : rowB cs r = true) : ∃ (n : Int) (xs : List D), r = .tup [.int n, .tup xs] := by
  unfold rowB at h
  split at h
  · exact ⟨_, _, rfl⟩
  · cases h
/-- the places of rows that go up -/
def upN (rs : List D) : D → Bool
  | .int i => decide (frst (rs.getD i.toNat .non) < frst (rs.getD (i + 1).toNat .non))
  | _ => false
theorem asc_range (rs : List D) : (range1 (rs.length - 1)).all (upN rs) = ascB rs := by
  have e : (range1 (rs.length - 1)).map (upN rs) = (rs.zip (rs.drop 1)).map (fun p => decide (frst p.1 < frst p.2)) := by
    apply List.ext_getElem
    · simp [range1]
    · intro i h1 h2
      simp only [range1, List.length_map, List.length_range] at h1
      simp only [range1, List.getElem_map, List.getElem_range, List.getElem_zip, List.getElem_drop]
      show decide (frst (rs.getD ((i : Int)).toNat .non) < frst (rs.getD ((i : Int) + 1).toNat .non)) = _
      have a1 : ((i : Int)).toNat = i := by omega
      have a2 : ((i : Int) + 1).toNat = i + 1 := by omega
      rw [a1, a2]
      have b1 : rs.getD i .non = rs[i]'(by omega) := by simp [List.getD, List.getElem?_eq_getElem (show i < rs.length by omega)]
      have b2 : rs.getD (i + 1) .non = rs[i + 1]'(by omega) := by simp [List.getD, List.getElem?_eq_getElem (show i + 1 < rs.length by omega)]
      rw [b1, b2]
      simp only [Nat.add_comm 1 i]
  have h1 : (range1 (rs.length - 1)).all (upN rs) = ((range1 (rs.length - 1)).map (upN rs)).all id := by rw [List.all_map]; rfl
  have h2 : ascB rs = ((rs.zip (rs.drop 1)).map (fun p => decide (frst p.1 < frst p.2))).all id := by unfold ascB; rw [List.all_map]; rfl
  rw [h1, h2, e]
theorem wus_len2 : ∀ xs : List D, 2 * xs.length ≤ D.wus xs
  | [] => Nat.zero_le _
  | y :: xs => by
    have := wus_len2 xs
    show 2 * (xs.length + 1) ≤ y.wu + 2 + D.wus xs
    omega
section
variable {T : Prg} {k : Nat} {x : D} {cs xs rs : List D}
theorem colsB_all (h : colsB cs = true) : cs.all colB = true := by
  unfold colsB at h
  simp only [Bool.and_eq_true] at h
  exact h.2.1
theorem columns_no (hT : Wt T) (hk : 1 ≤ k) (h : isTy .tuple x = false) : ev T k 100 [.d x] = some (.d (.bl false), [.d x]) := by
  refine W_eq (W_call hT.columns (by omega) rfl fun j hj => ?_)
  show wS _ _ ir_are_columns [some (.d _), none, none, none] _
  cases x <;> first | (cases h; done) | simp_arith only [ir_are_columns, tysA, isTy]
theorem table_is (hT : Wt T) (hk : 5 ≤ k) (hx : x.wu ≤ 60000) : ev T k 103 [.d x] = some (.d (.bl (tabB x)), [.d x]) := by
  refine W_eq (W_call hT.table (by omega) rfl fun j hj => ?_)
  show wS _ _ ir_is_table [some (.d _), none, none, none] _
  have e1 := pair_is hT (show 1 ≤ j by omega) (x := x)
  cases x with
  | tup ys =>
    match ys, e1 with
    | [], e1 => simp_arith only [ir_is_table, e1, tabB]
    | [a], e1 => simp_arith only [ir_is_table, e1, tabB]
    | [a, b], e1 =>
      rw [wu_two] at hx
      cases a with
      | tup cs =>
        have e2 := columns_is hT (show 3 ≤ j by omega) (cs := cs) (by omega)
        unfold ir_is_table
        rw [wS_seq]
        simp_arith [wS_ifS, e1, e2]
        cases hcs : colsB cs with
        | false =>
          simp_arith only []
          cases b <;> simp only [tabB, hcs, Bool.false_and]
        | true =>
          have hc := colsB_all hcs
          cases b with
          | tup rs =>
            simp_arith [tysA, isTy, wS_skip, thenW_nx]
            rw [wS_seq]
            simp_arith [wS_ifS]
            refine wE_comp (xs := rs) (fun x => some (.bl (rowB cs x))) ?_ rfl rfl (fun x hx => ?_) ?_
            · simp_arith [items_t]
            · simp_arith [wipeE, row_is hT (show 4 ≤ j by omega) hc]
            simp_arith [all_b]
            cases hr : rs.all (rowB cs) with
            | false => simp_arith only [tabB, hcs, hr]
            | true =>
              simp_arith [wS_skip, thenW_nx]
              rw [wS_seq]
              simp_arith [wS_ret]
              refine wE_comp (xs := zipD rs (rs.drop 1)) (fun x => some (.bl (pairB (fun a b => decide (frst a < frst b)) x))) ?_ rfl rfl (fun x hx => ?_) ?_
              · simp_arith [slc_t, cut_from1, zipO_t]
              · obtain ⟨a, b, rfl, hm⟩ := zip_mem hx
                obtain ⟨m1, m2⟩ := List.of_mem_zip hm
                obtain ⟨n, ys, rfl⟩ := row_shape (List.all_eq_true.mp hr a m1)
                obtain ⟨n2, ys2, rfl⟩ := row_shape (List.all_eq_true.mp hr b (List.mem_of_mem_drop m2))
                simp_arith [wipeE, pairB, frst]
                rfl
              · simp_arith [all_b, zip_all, thenW_ret, tabB, hcs, hr, Bool.true_and, ascB]
          | _ => simp_arith only [tysA, isTy, tabB]
      | _ =>
        have e3 := columns_no hT (show 1 ≤ j by omega) (x := .non) rfl
        have e4 := fun b => columns_no hT (show 1 ≤ j by omega) (x := .bl b) rfl
        have e5 := fun b => columns_no hT (show 1 ≤ j by omega) (x := .int b) rfl
        have e6 := fun b => columns_no hT (show 1 ≤ j by omega) (x := .str b) rfl
        have e7 := fun b => columns_no hT (show 1 ≤ j by omega) (x := .lst b) rfl
        simp_arith only [ir_is_table, e1, e3, e4, e5, e6, e7, tabB]
    | a :: b :: c :: r, e1 => simp_arith only [ir_is_table, e1, tabB]
  | _ => simp_arith only [ir_is_table, e1, tabB]
theorem two_at (rs : List D) (i : Nat) (h : i + 1 < rs.length) : atD rs ((i : Int) + 1) = some (rs.getD (i + 1) .non) := by
  have : ((i : Int) + 1) = ((i + 1 : Nat) : Int) := by omega
  rw [this]
  refine atD_nat ?_
  rw [List.getElem?_eq_getElem h]; simp [List.getD, h]
theorem one_at (rs : List D) (i : Nat) (h : i < rs.length) : atD rs (i : Int) = some (rs.getD i .non) := by
  refine atD_nat ?_
  rw [List.getElem?_eq_getElem h]; simp [List.getD, h]
theorem getD_in {rs : List D} {i : Nat} (h : i < rs.length) : rs.getD i .non ∈ rs := by
  have : rs.getD i .non = rs[i] := by simp [List.getD, h]
  rw [this]; exact List.getElem_mem h
theorem due_is (hT : Wt T) (hk : 5 ≤ k) (hx : x.wu ≤ 60000) : ev T k 110 [.d x] = some (.d (.bl (tabB x)), [.d x]) := by
  refine W_eq (W_call hT.due (by omega) rfl fun j hj => ?_)
  show wS _ _ ir_is_due [some (.d _), none, none, none, none, none, none, none] _
  have hsz := sizeLine_ge
  cases x with
  | tup ys =>
    match ys with
    | [] => simp_arith only [ir_is_due, tysA, isTy, tabB]; rw [if_pos (by simp)]; trivial
    | [a] => simp_arith only [ir_is_due, tysA, isTy, tabB]; rw [if_pos (by simp)]; trivial
    | [a, b] =>
      rw [wu_two] at hx
      unfold ir_is_due
      rw [wS_seq]
      simp_arith [wS_ifS, tysA, isTy]
      rw [if_neg (by simp)]
      simp only [wS_skip, thenW_nx]
      rw [wS_seq]
      simp_arith [wS_asg, thenW_nx]
      rw [wS_seq]
      simp_arith [wS_ifS, tysA]
      cases a with
      | tup cs =>
        have hw : D.wus cs + 4 + b.wu + 8 ≤ 60000 := hx
        cases b with
        | tup rs =>
          have hw2 : D.wus cs + 4 + (D.wus rs + 4) + 8 ≤ 60000 := hx
          simp_arith [isTy]
          by_cases h0 : cs = []
          · subst h0
            simp_arith only [tabB]
            rfl
          have hl0 : ¬ ((cs.length : Int) = 0) := by
            have := List.length_pos_iff.mpr h0
            omega
          have he : cs.isEmpty = false := by cases cs <;> simp_all
          rw [if_neg (by simpa using hl0)]
          simp only [wS_skip, thenW_nx]
          rw [wS_seq]
          simp_arith [wS_ifS]
          refine wE_comp (xs := cs) (fun x => some (.bl (colB x))) ?_ rfl rfl (fun x hx => ?_) ?_
          · simp_arith [items_t]
          · have := wus_in hx
            simp_arith [wipeE, named_is hT (show 1 ≤ j by omega) (x := x) (by omega)]
          simp_arith [all_b]
          cases hc : cs.all colB with
          | false => simp_arith only [tabB, colsB, hc]
          | true =>
            simp_arith []
            refine wE_comp (xs := rs) (fun x => some (.bl (rowB cs x))) ?_ rfl rfl (fun x hx => ?_) ?_
            · simp_arith [items_t]
            · simp_arith [wipeE, row2_is hT (show 3 ≤ j by omega) hc]
            simp_arith [all_b]
            cases hr : rs.all (rowB cs) with
            | false => simp_arith only [tabB, hr]
            | true =>
              simp_arith [wS_skip, thenW_nx]
              rw [wS_seq]
              simp_arith [wS_ifS]
              have hl := cols_len hc
              refine wE_comp (xs := cs) (fun x => some (.str (nmOf x))) ?_ rfl rfl (fun x hx => ?_) ?_
              · simp_arith [items_t]
              · obtain ⟨s, z, rfl, _, _⟩ := col_shape (List.all_eq_true.mp hc x hx)
                simp_arith [wipeE, nmOf]
              rw [names_fm]
              have hs := lenSet_str (ss := cs.map nmOf) (by simpa using h0) (by rw [List.length_map]; omega)
              simp_arith [hs]
              by_cases hn : ((nubS (cs.map nmOf)).length : Int) = (cs.length : Int)
              · rw [if_neg (by simpa using hn)]
                simp only [wS_skip, thenW_nx]
                rw [wS_seq]
                simp_arith [wS_ret]
                have hrl := wus_len2 rs
                refine wE_comp (xs := range1 (rs.length - 1)) (fun x => some (.bl (upN rs x))) ?_ rfl rfl (fun x hx => ?_) ?_
                · simp_arith []
                  rw [if_pos (by constructor <;> omega)]
                  have : ((rs.length : Int) - 1).toNat = rs.length - 1 := by omega
                  rw [this]
                · obtain ⟨i, hi⟩ := List.getElem?_of_mem hx
                  obtain ⟨hi1, rfl⟩ := range_get hi
                  have g1 := one_at rs i (by omega)
                  have g2 := two_at rs i (by omega)
                  obtain ⟨n1, y1, q1⟩ := row_shape (List.all_eq_true.mp hr _ (getD_in (show i < rs.length by omega)))
                  obtain ⟨n2, y2, q2⟩ := row_shape (List.all_eq_true.mp hr _ (getD_in (show i + 1 < rs.length by omega)))
                  have a1 : ((i : Int)).toNat = i := by omega
                  have a2 : ((i : Int) + 1).toNat = i + 1 := by omega
                  rw [q1] at g1
                  rw [q2] at g2
                  simp_arith [wipeE, g1, g2, upN, a1, a2, q1, q2, frst]
                · simp_arith [all_b, asc_range, thenW_ret, tabB, colsB, he, hc, hr, decide_eq_true hn, Bool.not_false, Bool.true_and]
              · rw [if_pos (by simpa using hn)]
                rw [wS_seq]
                simp_arith [wS_ret, thenW_ret, tabB, colsB, decide_eq_false hn, Bool.and_false, Bool.false_and]
        | _ => simp_arith only [isTy, tabB]
      | _ => simp_arith only [isTy, tabB]
    | a :: b :: c :: r => simp_arith only [ir_is_due, tysA, isTy, tabB]; rw [if_pos (by simp; omega)]; trivial
  | _ => simp_arith only [ir_is_due, tysA, isTy, tabB]
end
end Ov

set_option maxHeartbeats 4000000
namespace Ov
open PySem
/-! ### one part of a value changed, in more ways -/
mutual
def D.okb (b : Nat) : D → Bool
  | .int i => decide (i.natAbs ≤ 10 ^ 30 + b)
  | .str s => s.cps.toList.all (· < 0x110000)
  | .tup xs => D.okbs b xs
  | .lst xs => D.okbs b xs
  | _ => true
def D.okbs (b : Nat) : List D → Bool
  | [] => true
  | x :: xs => D.okb b x && D.okbs b xs
end
mutual
theorem okb_mono {b c : Nat} (h : b ≤ c) : ∀ x : D, x.okb b = true → x.okb c = true
  | .non, _ => rfl
  | .bl _, _ => rfl
  | .int i, q => by
    simp only [D.okb, decide_eq_true_eq] at q ⊢
    omega
  | .str s, q => q
  | .tup xs, q => by simp only [D.okb] at q ⊢; exact okbs_mono h xs q
  | .lst xs, q => by simp only [D.okb] at q ⊢; exact okbs_mono h xs q
theorem okbs_mono {b c : Nat} (h : b ≤ c) : ∀ xs : List D, D.okbs b xs = true → D.okbs c xs = true
  | [], _ => rfl
  | x :: xs, q => by
    simp only [D.okbs, Bool.and_eq_true] at q ⊢
    exact ⟨okb_mono h x q.1, okbs_mono h xs q.2⟩
end
mutual
theorem okb_ok {b : Nat} (h : b ≤ 1000) : ∀ x : D, x.okb b = true → x.ok = true
  | .non, _ => rfl
  | .bl _, _ => rfl
  | .int i, q => by
    simp only [D.okb, decide_eq_true_eq] at q
    simp only [D.ok, decide_eq_true_eq]
    omega
  | .str s, q => q
  | .tup xs, q => by simp only [D.okb] at q; simp only [D.ok]; exact okbs_ok h xs q
  | .lst xs, q => by simp only [D.okb] at q; simp only [D.ok]; exact okbs_ok h xs q
theorem okbs_ok {b : Nat} (h : b ≤ 1000) : ∀ xs : List D, D.okbs b xs = true → D.oks xs = true
  | [], _ => rfl
  | x :: xs, q => by
    simp only [D.okbs, Bool.and_eq_true] at q
    simp only [D.oks, Bool.and_eq_true]
    exact ⟨okb_ok h x q.1, okbs_ok h xs q.2⟩
end
theorem okbs_mem {b : Nat} : ∀ {xs : List D}, D.okbs b xs = true → ∀ x ∈ xs, x.okb b = true
  | [], _, x, h => by cases h
  | y :: xs, h, x, hx => by
    have h : (y.okb b && D.okbs b xs) = true := h
    rw [Bool.and_eq_true] at h
    rcases List.mem_cons.mp hx with rfl | hx
    · exact h.1
    · exact okbs_mem h.2 x hx
theorem okbs_of {b : Nat} : ∀ {xs : List D}, (∀ x ∈ xs, x.okb b = true) → D.okbs b xs = true
  | [], _ => rfl
  | y :: xs, h => by
    show (y.okb b && D.okbs b xs) = true
    rw [h y (List.mem_cons_self ..), okbs_of fun z hz => h z (List.mem_cons_of_mem _ hz)]; rfl
def odd2 : List D := [.non, .bl true, .bl false, .int (-1), .int 0, .int 1, .str "", .str "number", .str "text", .str "a", .tup [], .lst [], .tup [.int 0], .tup [.int 1, .int 2], .int 1000000000000000000000000000000]
theorem odd2_ok : ∀ y ∈ odd2, y.depth ≤ 1 ∧ y.okb 0 = true ∧ y.wu ≤ 300 := by
  have h : odd2.all (fun y => decide (y.depth ≤ 1) && (y.okb 0 && decide (y.wu ≤ 300))) = true := by decide +kernel
  intro y hy
  have := List.all_eq_true.mp h y hy
  simp only [Bool.and_eq_true, decide_eq_true_eq] at this
  exact this
def oddI (i : Int) : List D := [.int (i + 1), .int (i - 1), .int (i + 1), .str (Str.ofString (toString i))]
def oddS (s : Str) : List D := [.str (s ++ Str.ofString "a"), .str (cutT s none (some (-1))), .str (s ++ Str.ofString "A"), .str (Str.ofString "b" ++ cutT s (some 1) none), .str "up", .str "rows", .str "nobody", .str "here", .str "="]
theorem cutT_ok {s : Str} {lo hi : Option Int} (h : codes s) : codes (cutT s lo hi) ∧ (cutT s lo hi).length ≤ s.length := by
  have e : (cutT s lo hi).cps.toList = (s.cps.toList.drop (sIx' s.length 0 lo)).take (sIx' s.length s.length hi - sIx' s.length 0 lo) := by
    unfold cutT; simp
  constructor
  · unfold codes at *
    rw [e]
    rw [List.all_eq_true] at h ⊢
    exact fun c hc => h c (List.mem_of_mem_drop (List.mem_of_mem_take hc))
  · show (cutT s lo hi).cps.size ≤ s.cps.size
    rw [← Array.length_toList, e, ← Array.length_toList, List.length_take, List.length_drop]
    omega
theorem app_len {a b : Str} : (a ++ b).length = a.length + b.length := by
  show (a.cps ++ b.cps).size = _
  rw [Array.size_append]; rfl
theorem codes_ofString (s : String) : codes (Str.ofString s) := by
  unfold codes
  rw [List.all_eq_true]
  intro c hc
  have : ∃ x : Char, c = x.toNat := by
    rw [Str.ofString_eq_toList] at hc
    have hc : c ∈ (s.toList.map Char.toNat).toArray.toList := hc
    simp at hc
    obtain ⟨x, _, rfl⟩ := hc
    exact ⟨x, rfl⟩
  obtain ⟨x, rfl⟩ := this
  have hv := x.valid
  unfold UInt32.isValidChar Nat.isValidChar at hv
  have e : x.toNat = x.val.toNat := rfl
  rw [e]
  simp only [decide_eq_true_eq]
  omega
theorem codes_str (i : Int) : codes (Str.ofString (toString i)) := codes_ofString _
theorem oddI_ok {i : Int} {b : Nat} (hb : b ≤ 900) (h : (D.int i).okb b = true) : ∀ y ∈ oddI i, y.depth ≤ 1 ∧ y.okb (b + 1) = true ∧ y.wu ≤ 382 := by
  simp only [D.okb, decide_eq_true_eq] at h
  intro y hy
  simp only [oddI, List.mem_cons, List.not_mem_nil, or_false] at hy
  have hs := (int_show2 (i := i) (by omega)).1
  rcases hy with rfl | rfl | rfl | rfl
  · exact ⟨Nat.zero_le _, by simp only [D.okb, decide_eq_true_eq]; omega, (show 41 ≤ 382 by decide)⟩
  · exact ⟨Nat.zero_le _, by simp only [D.okb, decide_eq_true_eq]; omega, (show 41 ≤ 382 by decide)⟩
  · exact ⟨Nat.zero_le _, by simp only [D.okb, decide_eq_true_eq]; omega, (show 41 ≤ 382 by decide)⟩
  · exact ⟨Nat.zero_le _, codes_str i, by show 10 * _ + 2 ≤ 382; omega⟩
theorem oddS_ok {s : Str} {b : Nat} (h : codes s) : ∀ y ∈ oddS s, y.depth ≤ 1 ∧ y.okb b = true ∧ y.wu ≤ 2 * (10 * s.length + 2) + 300 := by
  intro y hy
  simp only [oddS, List.mem_cons, List.not_mem_nil, or_false] at hy
  obtain ⟨c1, c2⟩ := cutT_ok (lo := none) (hi := some (-1)) h
  obtain ⟨d1, d2⟩ := cutT_ok (lo := some 1) (hi := none) h
  have e1 : (Str.ofString "a").length = 1 := rfl
  have e2 : (Str.ofString "A").length = 1 := rfl
  have e3 : (Str.ofString "b").length = 1 := rfl
  rcases hy with rfl | rfl | rfl | rfl | rfl | rfl | rfl | rfl | rfl
  · exact ⟨Nat.zero_le _, codes_append h (by unfold codes; rfl), by show 10 * (s ++ _).length + 2 ≤ _; rw [app_len, e1]; omega⟩
  · exact ⟨Nat.zero_le _, c1, by show 10 * _ + 2 ≤ _; omega⟩
  · exact ⟨Nat.zero_le _, codes_append h (by unfold codes; rfl), by show 10 * (s ++ _).length + 2 ≤ _; rw [app_len, e2]; omega⟩
  · exact ⟨Nat.zero_le _, codes_append (by unfold codes; rfl) d1, by show 10 * (Str.ofString "b" ++ _).length + 2 ≤ _; rw [app_len, e3]; omega⟩
  all_goals exact ⟨Nat.zero_le _, rfl, Nat.le_trans (by decide : _ ≤ 300) (by omega)⟩
end Ov

set_option maxHeartbeats 4000000
namespace Ov
open PySem
/-! ### what is a condition -/
def d1L : List (Str × D) := [("compare", .int 4), ("null", .int 2), ("not", .int 2), ("and", .int 3), ("or", .int 3)]
def sgs : List Str := ["=", "<>", "<", "<=", ">", ">="]
structure Cn (T : Prg) : Prop where
  number : T.fns 70 = some fn_is_number
  index : T.fns 71 = some fn_index_of
  pair : T.fns 97 = some fn_is_pair
  plain : T.fns 116 = some fn_is_plain
  item : T.fns 117 = some fn_is_item
  kind : T.fns 118 = some fn_item_kind
  cmp : T.fns 119 = some fn_is_compare
  of : T.fns 120 = some fn_is_condition_of
  cond : T.fns 121 = some fn_is_condition
  g24 : T.gd 24 = some (.int 2)
  g30 : T.gd 30 = some (.str "number")
  g33 : T.gd 33 = some (.str "text")
  g34 : T.gd 34 = some (.str "column")
  g35 : T.gd 35 = some (.str "plain")
  g36 : T.gd 36 = some (.tup [.str "=", .str "<>", .str "<", .str "<=", .str ">", .str ">="])
  g37 : T.gd 37 = some (.str "compare")
  g38 : T.gd 38 = some (.str "null")
  d1 : T.dd 1 = some d1L
/-- a fraction in lowest terms -/
def fracB : D → Bool
  | .tup [.int a, .int b] => decide (1 ≤ b) && decide (Nat.gcd b.natAbs a.natAbs = 1)
  | _ => false
def kNo : Str := "none"
def kAny : Str := "any"
def kindP (fr : Bool) : D → Str
  | .non => kAny
  | .str _ => "text"
  | .int _ => "number"
  | x => if (fr && fracB x) = true then "number" else kNo
def kindC (cs : List Col) : D → Str
  | .str s => match cs.find? (fun c => c.1 == s) with
    | some c => knd c.2
    | none => kNo
  | _ => kNo
/-- the kind of an item -/
def kindI (cs : List Col) (fr : Bool) : D → Str
  | .tup [.str w, v] => if w = Str.ofString "column" then kindC cs v else if w = Str.ofString "plain" then kindP fr v else kNo
  | _ => kNo
def okK (s : Str) : Bool := !decide (s = kNo)
def cmpB (cs : List Col) (fr : Bool) : List D → Bool
  | [a, .str s, b] => decide (s ∈ sgs) && (okK (kindI cs fr a) && (okK (kindI cs fr b) && (decide (kindI cs fr a = kAny) || (decide (kindI cs fr b = kAny) || decide (kindI cs fr a = kindI cs fr b)))))
  | _ => false
def nulB (cs : List Col) (fr : Bool) : List D → Bool
  | [a] => okK (kindI cs fr a)
  | _ => false
mutual
def condB (cs : List Col) (fr : Bool) : D → Bool
  | .tup xs => condX cs fr xs
  | _ => false
def condX (cs : List Col) (fr : Bool) : List D → Bool
  | .str w :: r => if w = Str.ofString "compare" then cmpB cs fr r else if w = Str.ofString "null" then nulB cs fr r
      else if w = Str.ofString "not" then decide (r.length = 1) && condsB cs fr r else if w = Str.ofString "and" ∨ w = Str.ofString "or" then decide (r.length = 2) && condsB cs fr r else false
  | _ => false
def condsB (cs : List Col) (fr : Bool) : List D → Bool
  | [] => true
  | x :: xs => condB cs fr x && condsB cs fr xs
end
theorem condsB_all {cs : List Col} {fr : Bool} : ∀ xs : List D, condsB cs fr xs = xs.all (condB cs fr)
  | [] => rfl
  | x :: xs => by rw [condsB, condsB_all xs, List.all_cons]
theorem d1_cmp : dicD d1L (Str.ofString "compare") = some (.int 4) := by simp [d1L, dicD]
theorem d1_nul : dicD d1L (Str.ofString "null") = some (.int 2) := by simp [d1L, dicD, ofString_inj]
theorem d1_not : dicD d1L (Str.ofString "not") = some (.int 2) := by simp [d1L, dicD, ofString_inj]
theorem d1_and : dicD d1L (Str.ofString "and") = some (.int 3) := by simp [d1L, dicD, ofString_inj]
theorem d1_or : dicD d1L (Str.ofString "or") = some (.int 3) := by simp [d1L, dicD, ofString_inj]
theorem d1_no {w : Str} (h1 : ¬ w = Str.ofString "compare") (h2 : ¬ w = Str.ofString "null") (h3 : ¬ w = Str.ofString "not") (h4 : ¬ w = Str.ofString "and") (h5 : ¬ w = Str.ofString "or") : dicD d1L w = none := by
  simp only [d1L, dicD]
  rw [if_neg (fun e => h1 e.symm), if_neg (fun e => h2 e.symm), if_neg (fun e => h3 e.symm), if_neg (fun e => h4 e.symm), if_neg (fun e => h5 e.symm)]
theorem cmpB_len {cs : List Col} {fr : Bool} {r : List D} (h : ¬ r.length = 3) : cmpB cs fr r = false := by
  unfold cmpB
  split
  · simp at h
  · rfl
theorem nulB_len {cs : List Col} {fr : Bool} {r : List D} (h : ¬ r.length = 1) : nulB cs fr r = false := by
  unfold nulB
  split
  · simp at h
  · rfl
/-- the fraction test, where it may be asked -/
def FrOk (T : Prg) (fr : Bool) : Prop := fr = true → ∀ (j : Nat) (v : D), 3 ≤ j → v.okb 900 = true → ev T j 115 [.d v] = some (.d (.bl (fracB v)), [.d v])
def nm1 (x : D) : Option D := match x.ofSeq with | some (a :: _) => some a | _ => none
theorem nm1_all {zs : List D} : ∀ {cs : List Col}, zs.map er = cs.map colD → zs.filterMap nm1 = cs.map fun c => D.str c.1 := by
  induction zs with
  | nil => intro cs h; cases cs with | nil => rfl | cons => cases h
  | cons y ys ih =>
    intro cs h
    cases cs with
    | nil => cases h
    | cons c cs =>
      rw [List.map_cons, List.map_cons, List.cons.injEq] at h
      obtain ⟨w, hw, hw2⟩ := er_seq h.1
      obtain ⟨p, q, rfl, e1, e2⟩ := ix_two hw2
      cases er_str e1
      rw [List.filterMap_cons]
      simp only [nm1, hw, List.map_cons]
      rw [← ih h.2]
theorem hd_shape {y : D} {c : Col} (h : er y = colD c) : y.ofSeq = some [.str c.1, .str (knd c.2)] := by
  obtain ⟨w, hw, hw2⟩ := er_seq h
  obtain ⟨p, q, rfl, e1, e2⟩ := ix_two hw2
  cases er_str e1
  cases er_str e2
  exact hw
theorem hd_in {zs : List D} {cs : List Col} {y : D} (h : zs.map er = cs.map colD) (hy : y ∈ zs) : ∃ c ∈ cs, y.ofSeq = some [.str c.1, .str (knd c.2)] := by
  have hy2 : er y ∈ cs.map colD := by rw [← h]; exact List.mem_map_of_mem hy
  obtain ⟨c, hc, hc2⟩ := List.mem_map.mp hy2
  exact ⟨c, hc, hd_shape hc2.symm⟩
theorem hd_at {zs : List D} {cs : List Col} {j : Nat} {c : Col} (h : zs.map er = cs.map colD) (hc : cs[j]? = some c) : ∃ y, zs[j]? = some y ∧ y.ofSeq = some [.str c.1, .str (knd c.2)] := by
  have e : (zs.map er)[j]? = some (colD c) := by rw [h, List.getElem?_map, hc]; rfl
  rw [List.getElem?_map] at e
  cases hz : zs[j]? with
  | none => rw [hz] at e; cases e
  | some y =>
    rw [hz] at e
    exact ⟨y, rfl, hd_shape (Option.some.inj e)⟩
theorem kc_in {cs : List Col} {s : Str} : okK (kindC cs (.str s)) = decide (s ∈ cs.map (·.1)) := by
  show okK (match cs.find? (fun c => c.1 == s) with | some c => knd c.2 | none => kNo) = _
  cases h : cs.find? (fun c => c.1 == s) with
  | none =>
    rw [List.find?_eq_none] at h
    have : s ∉ cs.map (·.1) := fun q => by
      obtain ⟨c, hc, rfl⟩ := List.mem_map.mp q
      exact h c hc (by simp)
    rw [decide_eq_false this]
    simp [okK]
  | some c =>
    have h1 := List.mem_of_find?_eq_some h
    have h2 := List.find?_some h
    have h2 : c.1 = s := by simpa using h2
    subst h2
    rw [decide_eq_true (List.mem_map_of_mem h1)]
    have : knd c.2 ≠ kNo := by cases c.2 <;> simp [knd, kNo, ofString_inj]
    simp [okK, this]
section
variable {T : Prg} {k : Nat} {x z v : D} {cs : List Col} {fr : Bool}
theorem cn_number (hT : T.fns 70 = some fn_is_number) (hk : 1 ≤ k) : ev T k 70 [.d x] = some (.d (.bl (numB x)), [.d x]) := by
  refine W_eq (W_call hT (by omega) rfl fun j hj => ?_)
  show wS _ _ ir_is_number [some (.d _)] _
  cases x <;> simp_arith only [ir_is_number, tysA, isTy, numB]
theorem cn_pair (hT : Cn T) (hk : 1 ≤ k) : ev T k 97 [.d x] = some (.d (.bl (match x with | .tup [_, _] => true | _ => false)), [.d x]) := by
  refine W_eq (W_call hT.pair (by omega) rfl fun j hj => ?_)
  show wS _ _ ir_is_pair [some (.d _)] _
  cases x with
  | tup xs =>
    match xs with
    | [] => simp_arith only [ir_is_pair, tysA, isTy, hT.g24]; rfl
    | [a] => simp_arith only [ir_is_pair, tysA, isTy, hT.g24]; rfl
    | [a, b] => simp_arith only [ir_is_pair, tysA, isTy, hT.g24]; rfl
    | a :: b :: c :: r =>
      simp_arith only [ir_is_pair, tysA, isTy, hT.g24]
      have : ¬ ((r.length : Int) + 1 + 1 + 1 = 2) := by omega
      simp [this]
  | _ => simp_arith only [ir_is_pair, tysA, isTy]
theorem okK_ite {b : Bool} : okK (if b = true then Str.ofString "number" else kNo) = b := by
  cases b
  · simp [okK]
  · simp [okK, kNo, ofString_inj]
theorem cn_plain (hT : Cn T) (hF : FrOk T fr) (hk : 5 ≤ k) (hv : v.okb 900 = true) : ev T k 116 [.d v, .d (.bl fr)] = some (.d (.bl (okK (kindP fr v))), [.d v, .d (.bl fr)]) := by
  refine W_eq (W_call hT.plain (by omega) rfl fun j hj => ?_)
  show wS _ _ ir_is_plain [some (.d _), some (.d _)] _
  have e1 := cn_number hT.number (show 1 ≤ j by omega) (x := v)
  have a1 : okK kAny = true := by simp [okK, kAny, kNo, ofString_inj]
  have a2 : okK (Str.ofString "text") = true := by simp [okK, kNo, ofString_inj]
  have a3 : okK (Str.ofString "number") = true := by simp [okK, kNo, ofString_inj]
  have no : okK kNo = false := by simp [okK]
  cases fr with
  | false =>
    have a4 : ∀ b : Bool, okK (if (false && b) = true then Str.ofString "number" else kNo) = false := fun b => by simp [okK]
    cases v <;> simp_arith only [ir_is_plain, tysA, isTy, e1, numB, kindP, a1, a2, a3, isn_bl, a4, no]
  | true =>
    have e2 := hF rfl j v (by omega) hv
    cases v <;> simp_arith only [ir_is_plain, tysA, isTy, e1, e2, numB, kindP, a1, a2, a3, isn_bl, okK_ite, Bool.true_and]
theorem cn_item (hT : Cn T) (hF : FrOk T fr) (hk : 6 ≤ k) (hz : er z = colsD cs) (hx : x.okb 900 = true) : ev T k 117 [.d z, .d x, .d (.bl fr)] = some (.d (.bl (okK (kindI cs fr x))), [.d z, .d x, .d (.bl fr)]) := by
  refine W_eq (W_call hT.item (by omega) rfl fun j hj => ?_)
  show wS _ _ ir_is_item [some (.d _), some (.d _), some (.d _), none, none] _
  obtain ⟨zs, hz1, hz2⟩ := er_seq hz
  have e1 := cn_pair hT (show 1 ≤ j by omega) (x := x)
  have no : okK kNo = false := by simp [okK]
  cases x with
  | tup ys =>
    match ys, e1 with
    | [], e1 => simp_arith only [ir_is_item, e1, kindI, no]
    | [a], e1 => simp_arith only [ir_is_item, e1, kindI, no]
    | [a, b], e1 =>
      cases a with
      | str s =>
        unfold ir_is_item
        rw [wS_seq]
        simp_arith [wS_ifS, e1, tysA, isTy, wS_skip, thenW_nx, kindI]
        rw [wS_seq]
        simp_arith [wS_ifS, hT.g34]
        by_cases h1 : s = Str.ofString "column"
        · subst h1
          simp_arith []
          rw [wS_seq]
          simp_arith [wS_ret, tysA]
          cases b with
          | str n =>
            simp_arith [isTy]
            refine wE_comp (xs := zs) nm1 ?_ rfl rfl (fun y hy => ?_) ?_
            · simp_arith [ix_items hz1]
            · obtain ⟨c, _, hc⟩ := hd_in hz2 hy
              simp_arith [wipeE, hc, nm1]
            · have := isin_strL (s := n) (ns := cs.map (·.1))
              rw [List.map_map] at this
              have this : cmpD .isin (.str n) (.lst (cs.map fun c => D.str c.1)) = _ := this
              rw [nm1_all hz2]
              simp_arith [this, thenW_ret, kc_in]
          | _ => simp_arith [isTy, thenW_ret, kindC, no]
        · simp_arith [h1, wS_skip, thenW_nx]
          rw [wS_seq]
          simp_arith [wS_ret, hT.g35]
          by_cases h2 : s = Str.ofString "plain"
          · subst h2
            have hb : b.okb 900 = true := by
              simp only [D.okb, D.okbs, Bool.and_true, Bool.and_eq_true] at hx
              exact hx.2
            simp_arith [cn_plain hT hF (show 5 ≤ j by omega) hb, thenW_ret]
          · simp_arith [h1, h2, thenW_ret, no]
      | _ => simp_arith only [ir_is_item, e1, tysA, isTy, kindI, no]
    | a :: b :: c :: r, e1 => simp_arith only [ir_is_item, e1, kindI, no]
  | _ => simp_arith only [ir_is_item, e1, kindI, no]
/-- the kind, as item_kind tells it -/
def kdD (s : Str) : D := if s = kAny then .non else .str s
theorem kd_any : kdD kAny = .non := by simp [kdD]
theorem kd_str {s : Str} (h : s ≠ kAny) : kdD s = .str s := by simp [kdD, h]
theorem knd_any (b : Bool) : knd b ≠ kAny := by cases b <;> simp [knd, kAny, ofString_inj]
theorem cn_kind (hT : Cn T) (hk : 2 ≤ k) (hz : er z = colsD cs) (hn : (cs.map (·.1)).Nodup) (hc : ∀ c ∈ cs, codes c.1) (hok : okK (kindI cs fr x) = true) : ev T k 118 [.d z, .d x] = some (.d (kdD (kindI cs fr x)), [.d z, .d x]) := by
  refine W_eq (W_call hT.kind (by omega) rfl fun j hj => ?_)
  show wS _ _ ir_item_kind [some (.d _), some (.d _)] _
  obtain ⟨zs, hz1, hz2⟩ := er_seq hz
  have no : okK kNo = false := by simp [okK]
  unfold kindI at hok ⊢
  split at hok
  · rename_i s v
    unfold ir_item_kind
    rw [wS_seq]
    simp_arith [wS_ifS, hT.g34]
    by_cases h1 : s = Str.ofString "column"
    · subst h1
      simp only [if_true] at hok
      cases v with
      | str n =>
        rw [kc_in] at hok
        obtain ⟨i, kb, g1, g2, g3, _⟩ := index_ix hT.index (show 1 ≤ j by omega) hz (of_decide_eq_true hok) hn hc
        obtain ⟨y, y1, y2⟩ := hd_at hz2 g2
        have e2 : ixD z (i : Int) = some y := by rw [ixD_seq hz1]; exact atD_nat y1
        have e3 : ixD y 1 = some (.str (knd kb)) := by rw [ixD_seq y2]; exact atD_1
        have e4 : kindC cs (.str n) = knd kb := by
          show (match cs.find? (fun c => c.1 == n) with | some c => knd c.2 | none => kNo) = _
          rw [g3]
        simp_arith []
        rw [wS_seq]
        simp_arith [wS_ret, g1, e2, e3, thenW_ret, e4, kd_str (knd_any kb)]
      | _ => simp [kindC, no] at hok
    · simp only [h1, if_false] at hok
      by_cases h2 : s = Str.ofString "plain"
      · subst h2
        simp only [if_true] at hok
        simp_arith [h1, wS_skip, thenW_nx]
        have a2 : Str.ofString "text" ≠ kAny := by simp [kAny, ofString_inj]
        have a3 : Str.ofString "number" ≠ kAny := by simp [kAny, ofString_inj]
        have nn : ∀ b : Bool, okK (if b = true then Str.ofString "number" else kNo) = true → (if b = true then Str.ofString "number" else kNo) = Str.ofString "number" := fun b h => by
          cases b
          · simp [no] at h
          · rfl
        cases v with
        | non => simp_arith only [kindP, kd_any]
        | str n => simp_arith only [tysA, isTy, hT.g33, kindP, kd_str a2]
        | int n => simp_arith only [tysA, isTy, hT.g30, kindP, kd_str a3]
        | bl b => simp_arith only [isn_bl, tysA, isTy, hT.g30, kindP, kd_str a3, nn _ hok]
        | tup b => simp_arith only [tysA, isTy, hT.g30, kindP, kd_str a3, nn _ hok]
        | lst b => simp_arith only [tysA, isTy, hT.g30, kindP, kd_str a3, nn _ hok]
      · simp only [h2, if_false, no] at hok
        cases hok
  · simp [no] at hok
theorem sgs_in {s : Str} : cmpD .notin (.str s) (.tup [.str "=", .str "<>", .str "<", .str "<=", .str ">", .str ">="]) = some (!decide (s ∈ sgs)) := notin_strT (ns := sgs)
theorem kd_eqv {a b : Str} : D.eqv (kdD a) (kdD b) = decide (a = b) := by
  unfold kdD
  by_cases h1 : a = kAny
  · by_cases h2 : b = kAny
    · rw [if_pos h1, if_pos h2, h1, h2]; simp [D.eqv]
    · rw [if_pos h1, if_neg h2, h1]; simp [D.eqv]; exact fun e => h2 e.symm
  · by_cases h2 : b = kAny
    · rw [if_neg h1, if_pos h2, h2]; simp [D.eqv, h1]
    · rw [if_neg h1, if_neg h2, eqv_str]; by_cases h : a = b <;> simp [h]
theorem kd_dep {a : Str} : (kdD a).depth = 0 := by
  unfold kdD
  split <;> rfl
theorem kd_cmp {a b : Str} : cmpD .eq (kdD a) (kdD b) = some (decide (a = b)) := by
  show eqD _ _ = _
  unfold eqD
  rw [kd_dep, if_pos (Nat.le_trans (Nat.min_le_left ..) (by decide)), kd_eqv]
theorem kd_in {a b : Str} : cmpD .isin .non (.lst [kdD a, kdD b]) = some (decide (a = kAny) || decide (b = kAny)) := by
  show inD _ _ = _
  unfold inD
  rw [if_pos (by simp [D.depth])]
  have e : ∀ a, D.eqv (kdD a) .non = decide (a = kAny) := fun a => by
    rw [← kd_any, kd_eqv]
  simp [e]
theorem cn_compare (hT : Cn T) (hF : FrOk T fr) (hk : 7 ≤ k) (hz : er z = colsD cs) (hn : (cs.map (·.1)).Nodup) (hc : ∀ c ∈ cs, codes c.1) {w a s b : D} (hx : (D.tup [w, a, s, b]).okb 900 = true) :
    ev T k 119 [.d z, .d (.tup [w, a, s, b]), .d (.bl fr)] = some (.d (.bl (cmpB cs fr [a, s, b])), [.d z, .d (.tup [w, a, s, b]), .d (.bl fr)]) := by
  refine W_eq (W_call hT.cmp (by omega) rfl fun j hj => ?_)
  show wS _ _ ir_is_compare [some (.d _), some (.d _), some (.d _), none] _
  simp only [D.okb, D.okbs, Bool.and_true, Bool.and_eq_true] at hx
  have e1 := cn_item hT hF (show 6 ≤ j by omega) hz (x := a) hx.2.1
  have e2 := cn_item hT hF (show 6 ≤ j by omega) hz (x := b) hx.2.2.2
  have l2 : (0 + 1 + 1 : Nat) ≤ sizeLine := by decide
  cases s with
  | str s =>
    unfold ir_is_compare
    rw [wS_seq]
    simp_arith [wS_ifS, tysA, isTy, hT.g36, sgs_in, cmpB]
    by_cases h1 : s ∈ sgs
    · simp_arith [h1, wS_skip, thenW_nx]
      rw [wS_seq]
      simp_arith [wS_ifS, e1, e2]
      cases ha : okK (kindI cs fr a) with
      | false => simp_arith only []
      | true =>
        cases hb : okK (kindI cs fr b) with
        | false => simp_arith only []
        | true =>
          simp_arith [wS_skip, thenW_nx]
          rw [wS_seq]
          simp_arith [wS_asg, cn_kind hT (show 2 ≤ j by omega) hz hn hc ha, cn_kind hT (show 2 ≤ j by omega) hz hn hc hb, if_pos l2, thenW_nx]
          rw [wS_seq]
          simp_arith [wS_ret, kd_in, kd_cmp]
          by_cases q1 : kindI cs fr a = kAny
          · simp_arith [q1, thenW_ret, h1, Bool.true_or]
          · by_cases q2 : kindI cs fr b = kAny
            · simp_arith [q1, q2, thenW_ret, h1]
            · simp_arith [q1, q2, thenW_ret, h1]
    · simp_arith only [h1]
  | _ => simp_arith only [ir_is_compare, tysA, isTy, cmpB]
theorem okbs_drop {β : Nat} {a : D} {r : List D} (h : (D.tup (a :: r)).okb β = true) : D.okbs β r = true := by
  simp only [D.okb, D.okbs, Bool.and_eq_true] at h
  exact h.2
theorem cn_of (hT : Cn T) (hF : FrOk T fr) (hz : er z = colsD cs) (hn : (cs.map (·.1)).Nodup) (hc : ∀ c ∈ cs, codes c.1) : ∀ (m k : Nat) {x : D}, x.depth ≤ m → m + 9 ≤ k → x.okb 900 = true →
    ev T k 120 [.d z, .d x, .d (.bl fr)] = some (.d (.bl (condB cs fr x)), [.d z, .d x, .d (.bl fr)]) := by
  intro m
  induction m with
  | zero =>
    intro k x hd hk hx
    refine W_eq (W_call hT.of (by omega) rfl fun j hj => ?_)
    show wS _ _ ir_is_condition_of [some (.d _), some (.d _), some (.d _), none] _
    cases x <;> first | (exfalso; simp [D.depth] at hd; done) | simp_arith only [ir_is_condition_of, tysA, isTy, condB]
  | succ m ih =>
    intro k x hd hk hx
    refine W_eq (W_call hT.of (by omega) rfl fun j hj => ?_)
    show wS _ _ ir_is_condition_of [some (.d _), some (.d _), some (.d _), none] _
    cases x with
    | tup xs =>
      match xs, hx, hd with
      | [], _, _ =>
        simp_arith only [ir_is_condition_of, tysA, isTy, condB, condX]
        rw [if_pos (by simp)]; trivial
      | a :: r, hx, hd =>
        have hl0 : ¬ (((r.length + 1 : Nat) : Int) = 0) := by omega
        have hr := okbs_drop hx
        have hrd : ∀ y ∈ r, y.depth ≤ m := fun y hy => by
          have := depths_mem hy
          simp only [D.depth, D.depths] at hd
          omega
        cases a with
        | str w =>
          have lst : wS (Cf T j) T.w (.seq (.ret (.bi .all (.cons (.comp [3] (.nm 3) .seq (.slc (.var 1) (.int 1) .nil) .nil .nil (.call 120 (.cons (.var 0) (.cons (.var 3) (.cons (.var 2) .nil))))) .nil))) .skip) [some (.d z), some (.d (.tup (.str w :: r))), some (.d (.bl fr)), none] (fun o => W (outOf 3 o) (fun y => y = (.d (.bl (condsB cs fr r)), [.d z, .d (.tup (.str w :: r)), .d (.bl fr)]))) := by
            rw [wS_seq]
            simp_arith [wS_ret]
            refine wE_comp (xs := r) (fun x => some (.bl (condB cs fr x))) ?_ rfl rfl (fun y hy => ?_) ?_
            · simp_arith [slc_t, cut_from1, items_t, List.drop_succ_cons, List.drop_zero]
            · simp_arith [wipeE, ih j (hrd y hy) (by omega) (okbs_mem hr y hy)]
            · simp_arith [all_b, thenW_ret, condsB_all]
          unfold ir_is_condition_of
          rw [wS_seq]
          simp_arith [wS_ifS, tysA, isTy, hl0, wS_skip, thenW_nx]
          rw [wS_seq]
          simp_arith [wS_ifS, hT.d1]
          by_cases h1 : w = Str.ofString "compare"
          · subst h1
            simp_arith [d1_cmp]
            by_cases hl : r.length = 3
            · match r, hl with
              | [a, s, b], _ =>
                simp_arith only [hT.g37, cn_compare hT hF (show 7 ≤ j by omega) hz hn hc hx, condB, condX]
                rw [if_neg (by simp)]; trivial
            · have : ¬ ((4 : Int) = ((r.length + 1 : Nat) : Int)) := by omega
              simp_arith only [this, cmpB_len hl, condB, condX]
          · by_cases h2 : w = Str.ofString "null"
            · subst h2
              simp_arith [d1_nul]
              by_cases hl : r.length = 1
              · match r, hl, hr with
                | [a], _, hr =>
                  have ha : a.okb 900 = true := okbs_mem hr a (List.mem_cons_self ..)
                  simp_arith only [hT.g37, hT.g38, cn_item hT hF (show 6 ≤ j by omega) hz ha, nulB, condB, condX]
                  rw [if_neg (by simp)]; trivial
              · have : ¬ ((2 : Int) = ((r.length + 1 : Nat) : Int)) := by omega
                simp_arith only [this, nulB_len hl, condB, condX]
            · have hnx : ∀ s0 : EV, wS (Cf T j) T.w (.seq (.ifS (.cmp .eq (.idx (.var 1) (.int 0)) (.glob 37)) (.seq (.ret (.call 119 (.cons (.var 0) (.cons (.var 1) (.cons (.var 2) .nil))))) .skip) .skip)
                  (.seq (.ifS (.cmp .eq (.idx (.var 1) (.int 0)) (.glob 38)) (.seq (.ret (.call 117 (.cons (.var 0) (.cons (.idx (.var 1) (.int 1)) (.cons (.var 2) .nil))))) .skip) .skip)
                  (.seq (.ret (.bi .all (.cons (.comp [3] (.nm 3) .seq (.slc (.var 1) (.int 1) .nil) .nil .nil (.call 120 (.cons (.var 0) (.cons (.var 3) (.cons (.var 2) .nil))))) .nil))) .skip))) [some (.d z), some (.d (.tup (.str w :: r))), some (.d (.bl fr)), none] (fun o => W (outOf 3 o) (fun y => y = (.d (.bl (condsB cs fr r)), [.d z, .d (.tup (.str w :: r)), .d (.bl fr)]))) := fun _ => by
                rw [wS_seq]
                simp_arith [wS_ifS, hT.g37, h1, wS_skip, thenW_nx]
                rw [wS_seq]
                simp_arith [wS_ifS, hT.g38, h2, wS_skip, thenW_nx]
                exact lst
              have hnx := hnx (.d .non)
              by_cases h3 : w = Str.ofString "not"
              · subst h3
                simp_arith [d1_not, h1, h2]
                by_cases hl : r.length = 1
                · rw [if_neg (by rw [hl]; decide)]
                  simp only [wS_skip, thenW_nx]
                  rw [show condB cs fr (.tup (.str (Str.ofString "not") :: r)) = condsB cs fr r by simp only [condB, condX, h1, h2, hl, if_true, if_false, decide_true, Bool.true_and]]
                  exact hnx
                · have : ¬ ((2 : Int) = ((r.length + 1 : Nat) : Int)) := by omega
                  simp_arith only [this, hl, condB, condX, h1, h2]
              · by_cases h4 : w = Str.ofString "and" ∨ w = Str.ofString "or"
                · have d3 : dicD d1L w = some (.int 3) := by
                    rcases h4 with rfl | rfl
                    · exact d1_and
                    · exact d1_or
                  simp_arith [d3, h1, h2, h3, if_pos h4]
                  by_cases hl : r.length = 2
                  · rw [if_neg (by rw [hl]; decide)]
                    simp only [wS_skip, thenW_nx]
                    rw [show condB cs fr (.tup (.str w :: r)) = condsB cs fr r by simp only [condB, condX, h1, h2, h3, h4, hl, if_true, if_false, decide_true, Bool.true_and]]
                    exact hnx
                  · have : ¬ ((3 : Int) = ((r.length + 1 : Nat) : Int)) := by omega
                    simp_arith only [this, hl, condB, condX, h1, h2, h3]
                    simp
                · rw [not_or] at h4
                  have : ¬ ((-1 : Int) = ((r.length + 1 : Nat) : Int)) := by omega
                  simp_arith only [d1_no h1 h2 h3 h4.1 h4.2, this, h1, h2, h3, h4.1, h4.2, or_self, condB, condX]
        | _ => simp_arith only [ir_is_condition_of, tysA, isTy, hl0, condB, condX]
    | _ => simp_arith only [ir_is_condition_of, tysA, isTy, condB]
end
end Ov

set_option maxHeartbeats 4000000
namespace Ov
open PySem
/-! ### the law's own rule of a condition -/
structure Clw (T : Prg) : Prop where
  int : T.fns 106 = some fn_is_int
  kof : T.fns 124 = some fn_kind_of
  due : T.fns 125 = some fn_is_due_2
def kdm (s : Str) (x : D) : Option D := match x.ofSeq with
  | some [.str n, k] => if n = s then some k else none
  | _ => none
theorem kdm_all {s : Str} {zs : List D} : ∀ {cs : List Col}, zs.map er = cs.map colD → zs.filterMap (kdm s) = (cs.filter (fun c => c.1 == s)).map fun c => D.str (knd c.2) := by
  induction zs with
  | nil => intro cs h; cases cs with | nil => rfl | cons => cases h
  | cons y ys ih =>
    intro cs h
    cases cs with
    | nil => cases h
    | cons c cs =>
      rw [List.map_cons, List.map_cons, List.cons.injEq] at h
      have hs := hd_shape h.1
      rw [List.filterMap_cons, List.filter_cons, ih h.2]
      simp only [kdm, hs]
      by_cases e : c.1 = s
      · simp [e]
      · simp [e]
theorem kdm_head {cs : List Col} {s : Str} : (cs.filter (fun c => c.1 == s)).head? = cs.find? (fun c => c.1 == s) := List.head?_filter ..
theorem ne_nil {xs : List D} : cmpD .ne (.lst xs) (.lst []) = some (!xs.isEmpty) := by
  show (eqD _ _).map _ = _
  unfold eqD
  rw [if_pos (Nat.le_trans (Nat.min_le_right ..) (by simp [D.depth, D.depths]))]
  cases xs <;> simp [D.eqv, D.eqvs]
section
variable {T : Prg} {k : Nat} {x z v : D} {cs : List Col}
theorem cl_int (hT : Clw T) (hk : 1 ≤ k) : ev T k 106 [.d x] = some (.d (.bl (numB x)), [.d x]) := by
  refine W_eq (W_call hT.int (by omega) rfl fun j hj => ?_)
  show wS _ _ ir_is_int [some (.d _)] _
  cases x <;> simp_arith only [ir_is_int, tysA, isTy, numB]
theorem cl_kind (hT : Clw T) (hk : 2 ≤ k) (hz : er z = colsD cs) : ev T k 124 [.d z, .d x] = some (.d (.str (kindI cs false x)), [.d z, .d x]) := by
  refine W_eq (W_call hT.kof (by omega) rfl fun j hj => ?_)
  show wS _ _ ir_kind_of [some (.d _), some (.d _), none, none, none] _
  obtain ⟨zs, hz1, hz2⟩ := er_seq hz
  have l0 : (0 : Nat) ≤ sizeLine := by decide
  cases x with
  | tup ys =>
    match ys with
    | [] =>
      simp_arith only [ir_kind_of, tysA, isTy, kindI]
      rw [if_pos (by simp)]; rfl
    | [a] =>
      simp_arith only [ir_kind_of, tysA, isTy, kindI]
      rw [if_pos (by simp)]; rfl
    | [a, b] =>
      cases a with
      | str w =>
        unfold ir_kind_of
        rw [wS_seq]
        simp_arith [wS_ifS, tysA, isTy]
        rw [if_neg (by simp)]
        simp only [wS_skip, thenW_nx]
        rw [wS_seq]
        simp_arith [wS_ifS]
        by_cases h1 : w = Str.ofString "column"
        · subst h1
          simp_arith []
          rw [wS_seq]
          simp_arith [wS_asg]
          cases b with
          | str s =>
            refine wE_comp (xs := zs) (kdm s) ?_ rfl rfl (fun y hy => ?_) ?_
            · simp_arith [ix_items hz1]
            · obtain ⟨c, _, hc⟩ := hd_in hz2 hy
              simp_arith [wipeE, hc, kdm, tysA, isTy]
              by_cases e : c.1 = s
              · simp_arith [e]
              · simp_arith [e]
            · rw [kdm_all hz2]
              simp_arith [thenW_nx]
              rw [wS_seq]
              simp_arith [wS_ret, if_pos l0, ne_nil, kindI]
              have hh := kdm_head (cs := cs) (s := s)
              cases hf : cs.filter (fun c => c.1 == s) with
              | nil =>
                rw [hf] at hh
                have hh : none = cs.find? (fun c => c.1 == s) := hh
                simp_arith [List.isEmpty_nil, thenW_ret, kindC, ← hh, kNo]
              | cons c r =>
                rw [hf] at hh
                have hh : some c = cs.find? (fun c => c.1 == s) := hh
                simp_arith [List.isEmpty_cons, thenW_ret, kindC, ← hh]
          | _ =>
            refine wE_comp (xs := zs) (fun _ => none) ?_ rfl rfl (fun y hy => ?_) ?_
            · simp_arith [ix_items hz1]
            · obtain ⟨c, _, hc⟩ := hd_in hz2 hy
              simp_arith [wipeE, hc, tysA, isTy]
            · rw [show zs.filterMap (fun _ => (none : Option D)) = [] by simp]
              simp_arith [thenW_nx]
              rw [wS_seq]
              simp_arith [wS_ret, if_pos l0, ne_nil, kindI, List.isEmpty_nil, thenW_ret, kindC, kNo]
        · simp_arith [h1, wS_skip, thenW_nx]
          rw [wS_seq]
          simp_arith [wS_ifS]
          by_cases h2 : w = Str.ofString "plain"
          · subst h2
            have e1 := cl_int hT (show 1 ≤ j by omega) (x := b)
            cases b <;> simp_arith only [tysA, isTy, e1, numB, kindI, h1, kindP, kAny, kNo, isn_bl, Bool.false_and]
          · simp_arith only [h1, h2, kindI, kNo]
      | _ =>
        simp_arith only [ir_kind_of, tysA, isTy, kindI]
        rw [if_neg (by simp)]; rfl
    | a :: b :: c :: r =>
      simp_arith only [ir_kind_of, tysA, isTy, kindI]
      rw [if_pos (by simp; omega)]; rfl
  | _ => simp_arith only [ir_kind_of, tysA, isTy, kindI, kNo]
theorem kNo_in {a b : Str} : cmpD .notin (.str "none") (.tup [.str a, .str b]) = some (okK a && okK b) := by
  have e : cmpD .notin (.str "none") (.tup [.str a, .str b]) = some (!decide (Str.ofString "none" ∈ [a, b])) := notin_strT (ns := [a, b])
  rw [e]
  by_cases h1 : a = kNo
  · subst h1; simp [okK, kNo]
  · by_cases h2 : b = kNo
    · subst h2; simp [okK, kNo]
    · have : ¬ (Str.ofString "none" ∈ [a, b]) := by
        simp only [List.mem_cons, List.not_mem_nil, or_false, not_or]
        exact ⟨fun e => h1 e.symm, fun e => h2 e.symm⟩
      simp [this, okK, h1, h2]
theorem kAny_in {a b : Str} : cmpD .isin (.str "any") (.tup [.str a, .str b]) = some (decide (a = kAny) || decide (b = kAny)) := by
  have e : cmpD .isin (.str "any") (.tup [.str a, .str b]) = some (decide (Str.ofString "any" ∈ [a, b])) := isin_strT (ns := [a, b])
  rw [e]
  by_cases h1 : a = kAny
  · subst h1; simp [kAny]
  · by_cases h2 : b = kAny
    · subst h2; simp [kAny]
    · have : ¬ (Str.ofString "any" ∈ [a, b]) := by
        simp only [List.mem_cons, List.not_mem_nil, or_false, not_or]
        exact ⟨fun e => h1 e.symm, fun e => h2 e.symm⟩
      simp [this, h1, h2]
theorem sgs_is {s : Str} : cmpD .isin (.str s) (.tup [.str "=", .str "<>", .str "<", .str "<=", .str ">", .str ">="]) = some (decide (s ∈ sgs)) := isin_strT (ns := sgs)
def many3 : List (Sum Int Str × D) := kvsD ["not", "and", "or"] [.int 2, .int 3, .int 3]
theorem m3_not : lastKey (.inr (Str.ofString "not")) many3 = some (.int 2) := by simp [many3, kvsD, lastKey, ofString_inj]
theorem m3_and : lastKey (.inr (Str.ofString "and")) many3 = some (.int 3) := by simp [many3, kvsD, lastKey, ofString_inj]
theorem m3_or : lastKey (.inr (Str.ofString "or")) many3 = some (.int 3) := by simp [many3, kvsD, lastKey]
theorem m3_no {w : Str} (h1 : ¬ w = Str.ofString "not") (h2 : ¬ w = Str.ofString "and") (h3 : ¬ w = Str.ofString "or") : lastKey (.inr w) many3 = none := by
  have g1 : ¬ Str.ofString "not" = w := fun e => h1 e.symm
  have g2 : ¬ Str.ofString "and" = w := fun e => h2 e.symm
  have g3 : ¬ Str.ofString "or" = w := fun e => h3 e.symm
  simp [many3, kvsD, lastKey, g1, g2, g3]
def restE (cs : List Col) (w : Str) (r : List D) : Bool := if w = Str.ofString "not" then decide (r.length = 1) && condsB cs false r else if w = Str.ofString "and" ∨ w = Str.ofString "or" then decide (r.length = 2) && condsB cs false r else false
theorem cl_due (hT : Clw T) (hz : er z = colsD cs) : ∀ (m k : Nat) {x : D}, x.depth ≤ m → m + 4 ≤ k → ev T k 125 [.d z, .d x] = some (.d (.bl (condB cs false x)), [.d z, .d x]) := by
  intro m
  induction m with
  | zero =>
    intro k x hd hk
    refine W_eq (W_call hT.due (by omega) rfl fun j hj => ?_)
    show wS _ _ ir_is_due_2 [some (.d _), some (.d _), none, none, none, none, none] _
    cases x <;> first | (exfalso; simp [D.depth] at hd; done) | simp_arith only [ir_is_due_2, tysA, isTy, condB]
  | succ m ih =>
    intro k x hd hk
    refine W_eq (W_call hT.due (by omega) rfl fun j hj => ?_)
    show wS _ _ ir_is_due_2 [some (.d _), some (.d _), none, none, none, none, none] _
    cases x with
    | tup xs =>
      match xs, hd with
      | [], _ =>
        simp_arith only [ir_is_due_2, tysA, isTy, condB, condX]
        rw [if_pos (by simp)]; trivial
      | a :: r, hd =>
        have hl0 : ¬ (((r.length + 1 : Nat) : Int) = 0) := by omega
        have hrd : ∀ y ∈ r, y.depth ≤ m := fun y hy => by
          have := depths_mem hy
          simp only [D.depth, D.depths] at hd
          omega
        cases a with
        | str w =>
          have ek := fun y => cl_kind hT (show 2 ≤ j by omega) hz (x := y)
          have l2 : (0 + 1 + 1 : Nat) ≤ sizeLine := by decide
          have l6 : (0 + 1 + 1 + 1 + 1 + 1 + 1 : Nat) ≤ sizeLine := by decide
          unfold ir_is_due_2
          rw [wS_seq]
          simp_arith [wS_ifS, tysA, isTy, hl0, wS_skip, thenW_nx]
          have rest : condB cs false (.tup (.str w :: r)) = restE cs w r → wS (Cf T j) T.w (sndOf (sndOf (sndOf ir_is_due_2))) [some (.d z), some (.d (.tup (.str w :: r))), none, none, none, none, none] (fun o => W (outOf 2 o) (fun y => y = (.d (.bl (condB cs false (.tup (.str w :: r)))), [.d z, .d (.tup (.str w :: r))]))) := fun hE => by
            rw [hE]
            unfold ir_is_due_2
            simp only [sndOf]
            rw [wS_seq]
            simp_arith [wS_dicS]
            rw [if_pos (by decide)]
            try simp only [thenW_nx]
            have e3 : kvsD ["not", "and", "or"] [.int 2, .int 3, .int 3] = many3 := rfl
            rw [e3]
            have lst : wS (Cf T j) T.w (.seq (.ret (.bi .all (.cons (.comp [6] (.nm 6) .seq (.slc (.var 1) (.int 1) .nil) .nil .nil (.call 125 (.cons (.var 0) (.cons (.var 6) .nil)))) .nil))) .skip) [some (.d z), some (.d (.tup (.str w :: r))), some (.dic many3), none, none, none, none] (fun o => W (outOf 2 o) (fun y => y = (.d (.bl (condsB cs false r)), [.d z, .d (.tup (.str w :: r))]))) := by
              rw [wS_seq]
              simp_arith [wS_ret]
              refine wE_comp (xs := r) (fun x => some (.bl (condB cs false x))) ?_ rfl rfl (fun y hy => ?_) ?_
              · simp_arith [slc_t, cut_from1, items_t, List.drop_succ_cons, List.drop_zero]
              · simp_arith [wipeE, ih j (hrd y hy) (by omega)]
              · simp_arith [all_b, thenW_ret, condsB_all]
            rw [wS_seq]
            simp_arith [wS_ifS]
            by_cases h3 : w = Str.ofString "not"
            · subst h3
              simp_arith [m3_not, Option.isSome_some, bne_self_eq_false]
              by_cases hl : r.length = 1
              · rw [if_neg (by rw [hl]; decide)]
                simp only [wS_skip, thenW_nx]
                rw [show restE cs (Str.ofString "not") r = condsB cs false r by simp only [restE, hl, if_true, decide_true, Bool.true_and]]
                exact lst
              · have : ¬ (((r.length + 1 : Nat) : Int) = 2) := by omega
                simp_arith only [this, hl, restE]
            · by_cases h4 : w = Str.ofString "and" ∨ w = Str.ofString "or"
              · have d3 : lastKey (.inr w) many3 = some (.int 3) := by
                  rcases h4 with rfl | rfl
                  · exact m3_and
                  · exact m3_or
                simp_arith [d3, Option.isSome_some, bne_self_eq_false]
                by_cases hl : r.length = 2
                · rw [if_neg (by rw [hl]; decide)]
                  simp only [wS_skip, thenW_nx]
                  rw [show restE cs w r = condsB cs false r by simp only [restE, h3, h4, hl, if_true, if_false, decide_true, Bool.true_and]]
                  exact lst
                · have : ¬ (((r.length + 1 : Nat) : Int) = 3) := by omega
                  simp_arith only [this, hl, restE, h3]
                  simp
              · rw [not_or] at h4
                simp_arith only [m3_no h3 h4.1 h4.2, Option.isSome_none, restE, h3, h4.1, h4.2, or_self]
                simp
          rw [wS_seq]
          simp_arith [wS_ifS]
          by_cases h1 : w = Str.ofString "compare"
          · subst h1
            simp_arith []
            by_cases hl : r.length = 3
            · match r, hl with
              | [a, s, b], _ =>
                simp_arith []
                rw [if_pos (by simp)]
                rw [wS_seq]
                simp_arith [wS_par, ek, thenW_nx]
                rw [wS_seq]
                cases s with
                | str s =>
                  simp_arith [wS_asg, tysA, isTy, sgs_is, if_pos l6, thenW_nx]
                  rw [wS_seq]
                  simp_arith [wS_ret, if_pos l6, kNo_in, kAny_in, if_pos l2, condB, condX, cmpB]
                  by_cases q0 : s ∈ sgs
                  · simp_arith [q0]
                    cases qa : okK (kindI cs false a) with
                    | false => simp_arith only []
                    | true =>
                      cases qb : okK (kindI cs false b) with
                      | false => simp_arith only []
                      | true =>
                        simp_arith []
                        by_cases q1 : kindI cs false a = kindI cs false b
                        · simp_arith only [q1, Bool.or_true]
                        · simp_arith only [q1]
                  · simp_arith only [q0]
                | _ => simp_arith only [tysA, isTy, condB, condX, cmpB]
            · have : ¬ (((r.length + 1 : Nat) : Int) = 4) := by omega
              simp_arith [this, wS_skip, thenW_nx]
              rw [wS_seq]
              simp_arith [wS_ifS, wS_skip, thenW_nx]
              exact rest (by simp [condB, condX, cmpB_len hl, restE, ofString_inj])
          · by_cases h2 : w = Str.ofString "null"
            · subst h2
              simp_arith [h1, wS_skip, thenW_nx]
              rw [wS_seq]
              simp_arith [wS_ifS]
              by_cases hl : r.length = 1
              · match r, hl with
                | [a], _ =>
                  simp_arith []
                  rw [if_pos (by simp)]
                  simp_arith only [ek, condB, condX, nulB, okK, kNo]
                  first | rfl | simp
              · have : ¬ (((r.length + 1 : Nat) : Int) = 2) := by omega
                simp_arith [this, wS_skip, thenW_nx]
                exact rest (by simp [condB, condX, nulB_len hl, restE, ofString_inj])
            · simp_arith [h1, wS_skip, thenW_nx]
              rw [wS_seq]
              simp_arith [wS_ifS, h2, wS_skip, thenW_nx]
              exact rest (by simp only [condB, condX, h1, h2, if_false, restE])
        | _ => simp_arith only [ir_is_due_2, tysA, isTy, hl0, condB, condX]
    | _ => simp_arith only [ir_is_due_2, tysA, isTy, condB]
end
end Ov

set_option maxHeartbeats 4000000
namespace Ov
open PySem
structure Bt2 (T : Prg) : Prop where
  dr : Dr0 T
  bent : T.fns 111 = some fn_bent_2
section
variable {T : Prg} {k n e β : Nat} {b : Bool} {B : List D} {x : D} {Q : EV × List EV → Prop}
theorem bent2_step (hT : Bt2 T) (hk : 5 ≤ k) (hB : Bx n B) (hn : n + 10 ≤ 10 ^ 12) (hβ : β ≤ 900) (hok : x.okb β = true) (hw : x.wu ≤ 100000)
    (IH : ∀ (c : D) (B1 : List D) (Q1 : EV × List EV → Prop), c ∈ seqOf x → Bx (n + 4) B1 → (∀ y B', y.depth ≤ c.depth + 1 → y.okb (β + 1) = true → y.wu ≤ 2 * c.wu + 300 → Bx (n + 4 + e) B' → Q1 (.d y, [.own true B', .d c])) → W (ev T (k - 1) 111 [.own true B1, .d c]) Q1)
    (q : ∀ y B', y.depth ≤ x.depth + 1 → y.okb (β + 1) = true → y.wu ≤ 2 * x.wu + 300 → Bx (n + 4 + e) B' → Q (.d y, [.own b B', .d x])) : W (ev T k 111 [.own b B, .d x]) Q := by
  refine W_call hT.bent (by omega) rfl fun j hj => ?_
  obtain rfl : j = k - 1 := by omega
  show wS _ _ ir_bent_2 [some (.own b _), some (.d _), none, none, none, none] _
  have hsz := sizeLine_ge
  have l0 : (0 : Nat) ≤ sizeLine := by decide
  have l1 : (0 + 1 : Nat) ≤ sizeLine := by decide
  have l2 : (0 + 1 + 1 : Nat) ≤ sizeLine := by decide
  have l4 : (0 + 1 + 1 + 1 + 1 : Nat) ≤ sizeLine := by decide
  have l9 : (0 + 1 + 1 + 1 + 1 + 1 + 1 + 1 + 1 + 1 : Nat) ≤ sizeLine := by decide
  have l15 : (0 + 1 + 1 + 1 + 1 + 1 + 1 + 1 + 1 + 1 + 1 + 1 + 1 + 1 + 1 + 1 : Nat) ≤ sizeLine := by decide
  -- a sequence
  have sq : ∀ xs, x.ofSeq = some xs → D.okbs β xs = true ∧ D.wus xs + 4 = x.wu ∧ D.depths xs + 1 = x.depth ∧ seqOf x = xs ∧ isTys [.tuple, .list] x = true ∧ listD x = some (.lst xs) ∧
      (isTys [.tuple] x = true ∨ isTys [.tuple] x = false) := fun xs h => by
    cases x <;> cases h
    · exact ⟨hok, rfl, rfl, rfl, rfl, rfl, Or.inl rfl⟩
    · exact ⟨hok, rfl, rfl, rfl, rfl, rfl, Or.inr rfl⟩
  have nsq : x.ofSeq = none → isTys [.tuple, .list] x = false := fun h => by cases x <;> first | rfl | cases h
  -- any odd thing
  have fin : ∀ (r : Int) (B1 : List D) (os : List D) (F : List EV × Unit → Prop), Bx (n + 2) B1 → os ≠ [] → os.length ≤ 100 → (∀ y ∈ os, y.depth ≤ x.depth + 1 ∧ y.okb (β + 1) = true ∧ y.wu ≤ 2 * x.wu + 300) →
      wS (Cf T (k - 1)) T.w (.seq (.ret (.call 14 (.cons (.var 0) (.cons (.var 3) .nil)))) .skip) [some (.own b B1), some (.d x), some (.d (.int r)), some (.d (.lst os)), none, none] (fun o => W (outOf 2 o) Q) := by
    intro r B1 os F hB1 h0 hl hos
    rw [wS_seq]
    simp_arith [wS_ret]
    refine W_pick hT.dr (by omega) hB1 (by omega) (xs := os) rfl h0 (by omega) fun y B2 hy hB2 => ?_
    obtain ⟨o1, o2, o3⟩ := hos y hy
    simp_arith [thenW_ret]
    exact q _ _ o1 o2 o3 (hB2.mono (by omega))
  have base : ∀ y ∈ odd2, y.depth ≤ x.depth + 1 ∧ y.okb (β + 1) = true ∧ y.wu ≤ 2 * x.wu + 300 := fun y hy => by
    obtain ⟨o1, o2, o3⟩ := odd2_ok y hy
    exact ⟨by omega, okb_mono (Nat.zero_le _) y o2, by omega⟩
  have T3 : ∀ (r : Int) (B1 : List D), Bx (n + 2) B1 → wS (Cf T (k - 1)) T.w (sndOf (sndOf (sndOf ir_bent_2))) [some (.own b B1), some (.d x), some (.d (.int r)), none, none, none] (fun o => W (outOf 2 o) Q) := by
    intro r B1 hB1
    have fin := fin r B1
    unfold ir_bent_2
    simp only [sndOf]
    rw [wS_seq]
    simp_arith [wS_asg, if_pos l0, if_pos l1, if_pos l2, if_pos l15, pow30, thenW_nx]
    have e2 : ([.non, .bl true, .bl false, .int (-1), .int 0, .int 1, .str "", .str "number", .str "text", .str "a", .tup [], .lst [], .tup [.int 0], .tup [.int 1, .int 2], .int 1000000000000000000000000000000] : List D) = odd2 := rfl
    rw [e2]
    have ol : odd2.length = 15 := rfl
    have one0 : odd2 ≠ [] := by simp [odd2]
    cases x with
    | int i =>
      have hI := oddI_ok hβ hok
      have e3 : opD .add (.lst odd2) (.lst [.int (i + 1), .int (i - 1), .int (i + 1), .str (Str.ofString (toString i))]) = some (.lst (odd2 ++ oddI i)) := by
        rw [op_addL, if_pos (by rw [ol]; show 15 + 4 ≤ sizeLine; omega)]; rfl
      have hi2 : i.natAbs.log2 < 1920 := by
        simp only [D.okb, decide_eq_true_eq] at hok
        exact (int_show2 (i := i) (by omega)).2
      have e4 : biD .str [.int i] = some (.str (Str.ofString (toString i))) := if_pos hi2
      rw [wS_seq]
      simp_arith [wS_ifS, tysA, isTy]
      rw [wS_seq]
      simp_arith [wS_asg, wE_op, if_pos l4, e4, ↓e3, thenW_nx, wS_skip]
      rw [wS_seq]
      simp_arith [wS_ifS, tysA, isTy, wS_skip, thenW_nx]
      refine fin _ (fun _ => True) hB1 (by simp [one0]) (by rw [List.length_append, ol]; show 15 + 4 ≤ 100; decide) fun y hy => ?_
      rcases List.mem_append.mp hy with h | h
      · exact base y h
      · obtain ⟨o1, o2, o3⟩ := hI y h
        exact ⟨by omega, o2, by show y.wu ≤ 2 * 41 + 300; omega⟩
    | str z =>
      have hz : z.length ≤ sizeLine := by
        have : 10 * z.length + 2 ≤ 100000 := hw
        omega
      have hz2 : z.length + 1 ≤ sizeLine := by
        have : 10 * z.length + 2 ≤ 100000 := hw
        omega
      have hS := oddS_ok (b := β + 1) (s := z) hok
      have e3 : opD .add (.lst odd2) (.lst [.str (z ++ Str.ofString "a"), .str (cutT z none (some (-1))), .str (z ++ Str.ofString "A"), .str (Str.ofString "b" ++ cutT z (some 1) none), .str "up", .str "rows", .str "nobody", .str "here", .str "="]) = some (.lst (odd2 ++ oddS z)) := by
        rw [op_addL, if_pos (by rw [ol]; show 15 + 9 ≤ sizeLine; omega)]; rfl
      have a1 : opD .add (.str z) (.str "a") = some (.str (z ++ Str.ofString "a")) := if_pos hz2
      have a2 : opD .add (.str z) (.str "A") = some (.str (z ++ Str.ofString "A")) := if_pos hz2
      have hc := (cutT_ok (lo := some 1) (hi := none) (s := z) hok).2
      have a3 : opD .add (.str "b") (.str (cutT z (some 1) none)) = some (.str (Str.ofString "b" ++ cutT z (some 1) none)) := if_pos (by show 1 + _ ≤ _; omega)
      have a4 : slcD (.str z) none (some (-1)) = some (.str (cutT z none (some (-1)))) := if_pos hz
      have a5 : slcD (.str z) (some 1) none = some (.str (cutT z (some 1) none)) := if_pos hz
      rw [wS_seq]
      simp_arith [wS_ifS, tysA, isTy, wS_skip, thenW_nx]
      rw [wS_seq]
      simp_arith [wS_ifS, tysA, isTy]
      rw [wS_seq]
      simp_arith [wS_asg, wE_op, if_pos l9, ↓a1, ↓a2, ↓a3, ↓a4, ↓a5, ↓e3, thenW_nx, wS_skip]
      refine fin _ (fun _ => True) hB1 (by simp [one0]) (by rw [List.length_append, ol]; show 15 + 9 ≤ 100; decide) fun y hy => ?_
      rcases List.mem_append.mp hy with h | h
      · exact base y h
      · obtain ⟨o1, o2, o3⟩ := hS y h
        exact ⟨by omega, o2, o3⟩
    | _ =>
      rw [wS_seq]
      simp_arith [wS_ifS, tysA, isTy, wS_skip, thenW_nx]
      rw [wS_seq]
      simp_arith [wS_ifS, tysA, isTy, wS_skip, thenW_nx]
      exact fin _ (fun _ => True) hB1 one0 (by rw [ol]; decide) base
  have T2 : ∀ (r : Int) (B1 : List D), Bx (n + 2) B1 → wS (Cf T (k - 1)) T.w (sndOf (sndOf ir_bent_2)) [some (.own b B1), some (.d x), some (.d (.int r)), none, none, none] (fun o => W (outOf 2 o) Q) := by
    intro r B1 hB1
    have T3 := T3 r B1 hB1
    unfold ir_bent_2 at T3 ⊢
    simp only [sndOf] at T3 ⊢
    rw [wS_seq]
    simp_arith [wS_ifS]
    by_cases hr : r = 0
    · rw [if_pos hr]
      cases hs : x.ofSeq with
      | none => simp_arith [nsq hs, wS_skip, thenW_nx]; exact T3
      | some xs =>
        obtain ⟨s1, s2, s3, s4, s5, s6, s7⟩ := sq xs hs
        simp_arith [s5]
        rw [wS_seq]
        cases x <;> cases hs
        · simp_arith [wS_ret, isTys_tt, thenW_ret]
          exact q _ _ (by show D.depths xs + 1 ≤ _; omega) (show D.okbs (β + 1) xs = true from okbs_mono (Nat.le_succ _) xs hok) (by show D.wus xs + 4 ≤ _; omega) (hB1.mono (by omega))
        · simp_arith [wS_ret, isTys_tl, thenW_ret]
          exact q _ _ (by show D.depths xs + 1 ≤ _; omega) (show D.okbs (β + 1) xs = true from okbs_mono (Nat.le_succ _) xs hok) (by show D.wus xs + 4 ≤ _; omega) (hB1.mono (by omega))
    · rw [if_neg hr]
      simp only [wS_skip, thenW_nx]
      exact T3
  have T2' := T2
  unfold ir_bent_2
  rw [wS_seq]
  simp_arith [wS_asg]
  refine W_take hT.dr (by omega) hB (by omega) (by decide) (by decide) fun r B1 h1 h2 hB1 => ?_
  simp_arith [thenW_nx]
  rw [wS_seq]
  simp_arith [wS_ifS]
  cases hs : x.ofSeq with
  | none =>
    simp_arith [nsq hs, wS_skip, thenW_nx]
    exact T2 r B1 hB1
  | some xs =>
    obtain ⟨s1, s2, s3, s4, s5, s6, s7⟩ := sq xs hs
    have s6 : biD .list [x] = some (.lst xs) := s6
    have hwl := wus_len xs
    simp_arith [s5, lenD_seq hs]
    by_cases hl : 0 < (xs.length : Int)
    rotate_left 1
    · rw [if_neg hl]
      simp_arith [wS_skip, thenW_nx]
      exact T2 r B1 hB1
    rw [if_pos hl]
    by_cases hr : 1 < r
    rotate_left 1
    · rw [if_neg hr]
      simp_arith [wS_skip, thenW_nx]
      exact T2 r B1 hB1
    rw [if_pos hr]
    clear T2 T3
    rw [wS_seq]
    simp_arith [wS_par, lenD_seq hs]
    refine W_take hT.dr (by omega) hB1 (by omega) (by omega) (by omega) fun at_ B2 h3 h4 hB2 => ?_
    simp_arith [s6, thenW_nx]
    have hat : at_.toNat < xs.length := by omega
    have hc : xs[at_.toNat]? = some xs[at_.toNat] := List.getElem?_eq_getElem hat
    generalize xs[at_.toNat] = c at hc
    have hcm : c ∈ xs := List.mem_of_getElem? hc
    have hcw := wus_mem hcm
    have hcd := depths_mem hcm
    have hco := okbs_mem s1 c hcm
    have FIN : ∀ (ys : List D) (B' : List D), (∀ z ∈ ys, z.depth ≤ x.depth ∧ z.okb (β + 1) = true) → D.wus ys + 4 ≤ 2 * x.wu + 300 → Bx (n + 4 + e) B' →
        wS (Cf T (k - 1)) T.w (.seq (.ret (.ife (.isi (.var 1) [.tuple]) (.bi .tuple (.cons (.var 5) .nil)) (.frz 5))) .skip) [some (.own b B'), some (.d x), some (.d (.int r)), none, some (.d (.int at_)), some (.own false ys)]
          (thenW (Cf T (k - 1)) T.w (sndOf (sndOf ir_bent_2)) (fun o => W (outOf 2 o) Q)) := by
      intro ys B' hz hwy hB'
      have hdy := depths_le fun z hz' => (hz z hz').1
      have hoy := okbs_of fun z hz' => (hz z hz').2
      rw [wS_seq]
      simp_arith [wS_ret]
      rcases s7 with h | h
      · simp_arith [h, thenW_ret]
        exact q (.tup ys) _ (by show D.depths ys + 1 ≤ _; omega) hoy (by show D.wus ys + 4 ≤ _; omega) hB'
      · simp_arith [h, thenW_ret]
        exact q (.lst ys) _ (by show D.depths ys + 1 ≤ _; omega) hoy (by show D.wus ys + 4 ≤ _; omega) hB'
    have hin : ∀ z ∈ xs, z.depth ≤ x.depth ∧ z.okb (β + 1) = true := fun z hz => ⟨by have := depths_mem hz; omega, okb_mono (Nat.le_succ _) z (okbs_mem s1 z hz)⟩
    rw [wS_seq]
    simp_arith [wS_ifS]
    by_cases hr2 : r = 2
    · rw [if_pos hr2]
      rw [wS_seq]
      simp_arith [wS_expr, mu_popAt, ixN'_int h3 h4, hc, thenW_nx, wS_skip]
      refine FIN _ _ (fun z hz => hin z (List.mem_of_mem_eraseIdx hz)) ?_ (hB2.mono (by omega))
      have := wus_erase xs at_.toNat
      omega
    · rw [if_neg hr2]
      rw [wS_seq]
      simp_arith [wS_ifS]
      by_cases hr3 : r = 3
      · rw [if_pos hr3]
        rw [wS_seq]
        simp_arith [wS_expr, atD_int h3 hc, mu_insert]
        rw [if_pos (by refine ⟨?_, ?_, ?_⟩ <;> omega)]
        simp_arith [thenW_nx, wS_skip]
        refine FIN _ _ (fun z hz => ?_) ?_ (hB2.mono (by omega))
        · rcases insert_mem _ _ hz with h | h
          · subst h; exact hin _ hcm
          · exact hin z h
        · have := wus_insert (z := c) xs at_.toNat
          omega
      · rw [if_neg hr3]
        rw [wS_seq]
        simp_arith [wS_ifS]
        by_cases hr4 : r = 4
        · rw [if_pos hr4]
          have h0 : 0 < xs.length := by omega
          have hc0 : xs[0]? = some xs[0] := List.getElem?_eq_getElem h0
          generalize xs[0] = c0 at hc0
          have hc0m : c0 ∈ xs := List.mem_of_getElem? hc0
          have hat0 : atD xs 0 = some c0 := atD_nat hc0
          have hix0 : ixN' xs.length 0 = some 0 := ixN'_nat h0
          rw [wS_seq]
          simp_arith [wS_swp, hat0, atD_int h3 hc, twoD, ixN'_int h3 h4, List.length_set, hix0, thenW_nx, wS_skip]
          refine FIN _ _ (fun z hz => ?_) ?_ (hB2.mono (by omega))
          · rcases List.mem_or_eq_of_mem_set hz with h | h
            · rcases List.mem_or_eq_of_mem_set h with h | h
              · exact hin z h
              · subst h; exact hin _ hc0m
            · subst h; exact hin _ hcm
          · have w1 := wus_set (z := c0) (u := c) xs at_.toNat hc
            have : ∃ u, (xs.set at_.toNat c0)[0]? = some u ∧ u = c0 := by
              by_cases e0 : at_.toNat = 0
              · rw [e0]; exact ⟨c0, by rw [List.getElem?_set_self h0], rfl⟩
              · exact ⟨c0, by rw [List.getElem?_set_ne e0]; exact hc0, rfl⟩
            obtain ⟨u, hu, rfl⟩ := this
            have w2 := wus_set (z := c) (u := u) (xs.set at_.toNat u) 0 hu
            omega
        rw [if_neg hr4]
        rw [wS_seq]
        simp_arith [wS_setI, atD_int h3 hc]
        refine IH c B2 _ (by rw [s4]; exact hcm) hB2 fun y B3 d1 d2 d3 hB3 => ?_
        simp_arith [ixN'_int h3 h4, thenW_nx, wS_skip]
        refine FIN _ _ (fun z hz => ?_) ?_ hB3
        · rcases List.mem_or_eq_of_mem_set hz with h | h
          · exact hin z h
          · subst h; exact ⟨by omega, d2⟩
        · have := wus_set (z := y) (u := c) xs at_.toNat hc
          omega
theorem W_bent2 (hT : Bt2 T) (hβ : β ≤ 900) : ∀ (m k n : Nat) {b : Bool} {B : List D} {x : D} {Q : EV × List EV → Prop}, x.depth ≤ m → m + 5 ≤ k → Bx n B → n + 10 * (m + 1) ≤ 10 ^ 12 → x.okb β = true → x.wu ≤ 100000 →
    (∀ y B', y.depth ≤ x.depth + 1 → y.okb (β + 1) = true → y.wu ≤ 2 * x.wu + 300 → Bx (n + 4 * (m + 1)) B' → Q (.d y, [.own b B', .d x])) → W (ev T k 111 [.own b B, .d x]) Q
  | 0, k, n, b, B, x, Q, hd, hk, hB, hn, hok, hw, q => by
    refine bent2_step hT (e := 0) (by omega) hB (by omega) hβ hok hw (fun c B1 Q1 hc hB1 q1 => ?_) fun y B' h1 h2 h3 h4 => q y B' h1 h2 h3 (h4.mono (by omega))
    cases x <;> first | (exfalso; simp [D.depth] at hd; done) | cases hc
  | m + 1, k, n, b, B, x, Q, hd, hk, hB, hn, hok, hw, q => by
    refine bent2_step hT (e := 4 * (m + 1)) (by omega) hB (by omega) hβ hok hw (fun c B1 Q1 hc hB1 q1 => ?_) fun y B' h1 h2 h3 h4 => q y B' h1 h2 h3 (h4.mono (by omega))
    have hcc : c.depth ≤ m ∧ c.okb β = true ∧ c.wu ≤ 100000 := by
      cases x <;> try (cases hc; done)
      · rename_i xs
        have hc : c ∈ xs := hc
        have a1 := depths_mem hc
        have a2 := wus_mem hc
        have a3 : D.depths xs + 1 ≤ m + 1 := hd
        have a4 : D.wus xs + 4 ≤ 100000 := hw
        exact ⟨by omega, okbs_mem hok c hc, by omega⟩
      · rename_i xs
        have hc : c ∈ xs := hc
        have a1 := depths_mem hc
        have a2 := wus_mem hc
        have a3 : D.depths xs + 1 ≤ m + 1 := hd
        have a4 : D.wus xs + 4 ≤ 100000 := hw
        exact ⟨by omega, okbs_mem hok c hc, by omega⟩
    exact W_bent2 hT hβ m (k - 1) (n + 4) hcc.1 (by omega) hB1 (by omega) hcc.2.1 hcc.2.2 q1
end
end Ov

set_option maxHeartbeats 4000000
namespace Ov
open PySem
/-! ### tables that are drawn -/
structure Wv (T : Prg) : Prop where
  n : Wn T
  value : T.fns 104 = some fn_value_3
  table : T.fns 105 = some fn_table
/-- a cell as it is drawn -/
def CellOk (kd : Str) (y : D) : Prop := celB kd y = true ∧ y.okb 0 = true ∧ y.wu ≤ 50 ∧ y.depth = 0
def kd2 (b : Bool) : Str := knd b
theorem cell_txt {kd : Str} (h : ¬ kd = Str.ofString "number") : ∀ y ∈ ([.str "", .str "a", .str "b", .str "B", .str "a,", .str "ab", .str "c", .str "None"] : List D), CellOk kd y := by
  intro y hy
  simp only [List.mem_cons, List.not_mem_nil, or_false] at hy
  rcases hy with rfl | rfl | rfl | rfl | rfl | rfl | rfl | rfl <;> exact ⟨by simp only [celB, if_neg h]; rfl, rfl, by decide, rfl⟩
section
variable {T : Prg} {k n : Nat} {b : Bool} {B : List D} {Q : EV × List EV → Prop} {kd : Str} {w : Int}
theorem cell_int {i : Int} (h : kd = Str.ofString "number") (hi : i.natAbs ≤ 10 ^ 13) : CellOk kd (.int i) :=
  ⟨by simp only [celB, if_pos h]; rfl, by simp only [D.okb, decide_eq_true_eq]; omega, (show 41 ≤ 50 by decide), rfl⟩
theorem W_value (hN : Wn T) (hV : T.fns 104 = some fn_value_3) (hk : 5 ≤ k) (hB : Bx n B) (hn : n + 20 ≤ 10 ^ 12) (hw : w = 0 ∨ w = 2 ∨ w = 1) (hkd : kd = Str.ofString "number" ∨ kd = Str.ofString "text")
    (q : ∀ y B', CellOk kd y → Bx (n + 6) B' → Q (.d y, [.own b B', .d (.str kd), .d (.int w)])) : W (ev T k 104 [.own b B, .d (.str kd), .d (.int w)]) Q := by
  refine W_call hV (by omega) rfl fun j hj => ?_
  show wS _ _ ir_value_3 [some (.own b _), some (.d _), some (.d _)] _
  have l8 : (0 + 1 + 1 + 1 + 1 + 1 + 1 + 1 + 1 : Nat) ≤ sizeLine := by decide
  have nt : ¬ Str.ofString "number" = Str.ofString "text" := by rw [ofString_inj]; decide
  unfold ir_value_3
  rw [wS_seq]
  simp_arith [wS_ifS]
  refine W_take hN.toDr0 (by omega) hB (by omega) (by decide) (by decide) fun r B1 h1 h2 hB1 => ?_
  simp_arith []
  by_cases h0 : r = 0
  · rw [if_pos h0]
    rw [wS_seq]
    simp_arith [wS_ret, thenW_ret]
    refine q _ _ ?_ (hB1.mono (by omega))
    exact ⟨by unfold celB; rfl, rfl, by decide, rfl⟩
  · rw [if_neg h0]
    simp only [wS_skip, thenW_nx]
    rw [wS_seq]
    simp_arith [wS_ifS]
    rcases hkd with rfl | rfl
    · simp_arith [nt, wS_skip, thenW_nx]
      rw [wS_seq]
      simp_arith [wS_ifS]
      rcases hw with rfl | rfl | rfl
      · rw [if_pos (by simp)]
        rw [wS_seq]
        simp_arith [wS_ret]
        refine W_take hN.toDr0 (by omega) hB1 (by omega) (by decide) (by decide) fun r2 B2 h3 h4 hB2 => ?_
        simp_arith [thenW_ret]
        exact q _ _ (cell_int rfl (by omega)) (hB2.mono (by omega))
      · rw [if_pos (by simp)]
        rw [wS_seq]
        simp_arith [wS_ret]
        refine W_take hN.toDr0 (by omega) hB1 (by omega) (by decide) (by decide) fun r2 B2 h3 h4 hB2 => ?_
        simp_arith [thenW_ret]
        exact q _ _ (cell_int rfl (by omega)) (hB2.mono (by omega))
      · rw [if_neg (by simp)]
        simp only [wS_skip, thenW_nx]
        rw [wS_seq]
        simp_arith [wS_ret]
        rw [if_pos (by decide)]
        refine W_take hN.toDr0 (by omega) hB1 (by omega) (by decide) (by decide) fun r2 B2 h3 h4 hB2 => ?_
        simp_arith [thenW_ret]
        exact q _ _ (cell_int rfl (by omega)) (hB2.mono (by omega))
    · simp_arith []
      rw [wS_seq]
      simp_arith [wS_ret, if_pos l8]
      refine W_pick hN.toDr0 (by omega) hB1 (by omega) rfl (by simp) (by decide) fun x B2 hx hB2 => ?_
      simp_arith [thenW_ret]
      exact q _ _ (cell_txt (fun e => nt e.symm) _ hx) (hB2.mono (by omega))
/-- a row as it is drawn -/
def rowD (r : Int × List D) : D := .tup [.int r.1, .tup r.2]
def cellsOk : List Col → List D → Prop
  | [], [] => True
  | c :: cs, x :: xs => CellOk (knd c.2) x ∧ cellsOk cs xs
  | _, _ => False
def RowOk (cs : List Col) (r : Int × List D) : Prop := 0 ≤ r.1 ∧ r.1 ≤ 10000 ∧ cellsOk cs r.2
theorem cells_snoc {c : Col} {x : D} : ∀ {cs : List Col} {xs : List D}, cellsOk cs xs → CellOk (knd c.2) x → cellsOk (cs ++ [c]) (xs ++ [x])
  | [], [], _, h => ⟨h, trivial⟩
  | _ :: _, _ :: _, h, h2 => ⟨h.1, cells_snoc h.2 h2⟩
/-- numbers that go up -/
def goUp : List (Int × List D) → Int → Prop
  | [], _ => True
  | r :: rs, m => m ≤ r.1 ∧ goUp rs (r.1 + 1)
theorem goUp_snoc {r : Int × List D} : ∀ {rs : List (Int × List D)} {m : Int}, goUp rs m → (∀ q ∈ rs, q.1 < r.1) → m ≤ r.1 → goUp (rs ++ [r]) m
  | [], m, _, _, h => ⟨h, trivial⟩
  | q :: rs, m, h, h2, _ => ⟨h.1, goUp_snoc h.2 (fun p hp => h2 p (List.mem_cons_of_mem _ hp)) (by have := h2 q (List.mem_cons_self ..); omega)⟩
theorem kd_of (c : Bool) : knd c = Str.ofString "number" ∨ knd c = Str.ofString "text" := by cases c <;> simp [knd]
theorem W_table (hT : Wv T) (hk : 10 ≤ k) {cs : List Col} (hC : Cols 6 cs) (hB : Bx n B) (hn : n + 10000 ≤ 10 ^ 12)
    (q : ∀ rs B', rs.length ≤ 8 → (∀ r ∈ rs, RowOk cs r) → goUp rs 0 → Bx (n + 1000) B' → Q (.d (.tup [colsD cs, .tup (rs.map rowD)]), [.own b B', .d (colsD cs), .d (.int 8)])) : W (ev T k 105 [.own b B, .d (colsD cs), .d (.int 8)]) Q := by
  refine W_call hT.table (by omega) rfl fun j hj => ?_
  show wS _ _ ir_table [some (.own b _), some (.d _), some (.d _), none, none, none, none, none, none] _
  have hsz := sizeLine_ge
  have l0 : (0 : Nat) ≤ sizeLine := by decide
  have l2 : (0 + 1 + 1 : Nat) ≤ sizeLine := by decide
  have l4 : (0 + 1 + 1 + 1 + 1 : Nat) ≤ sizeLine := by decide
  unfold ir_table
  rw [wS_seq]
  simp_arith [wS_par, if_pos l0]
  refine W_take hT.n.toDr0 (by omega) hB (by omega) (by decide) (by decide) fun r B1 h1 h2 hB1 => ?_
  simp_arith [if_pos l4]
  refine W_pick hT.n.toDr0 (by omega) hB1 (by omega) rfl (by simp) (by decide) fun w B2 hw hB2 => ?_
  have hw : ∃ v : Int, w = .int v ∧ (v = 0 ∨ v = 2 ∨ v = 1) := by
    simp only [List.mem_cons, List.not_mem_nil, or_false] at hw
    rcases hw with rfl | rfl | rfl | rfl
    · exact ⟨0, rfl, by simp⟩
    · exact ⟨2, rfl, by simp⟩
    · exact ⟨2, rfl, by simp⟩
    · exact ⟨1, rfl, by simp⟩
  obtain ⟨v, rfl, hv⟩ := hw
  simp_arith [thenW_nx]
  rw [wS_seq]
  simp_arith [wS_forS]
  refine W_take hT.n.toDr0 (by omega) hB2 (by omega) (by decide) (by decide) fun m B3 h3 h4 hB3 => ?_
  simp_arith []
  rw [if_pos (by constructor <;> omega)]
  refine wF_inv (fun i ρ => ∃ (B : List D) (rs : List (Int × List D)) (num : Int) (s3 s7 s8 : Option EV), Bx (n + 6 + 50 * i) B ∧ rs.length = i ∧ (∀ q ∈ rs, RowOk cs q ∧ q.1 < num) ∧ goUp rs 0 ∧ 0 ≤ num ∧ num ≤ 9 + 10 * (i : Int) ∧ NB s3 ∧ NB s7 ∧ NB s8 ∧ ρ = [some (.own b B), some (.d (colsD cs)), some (.d (.int 8)), s3, some (.own false (rs.map rowD)), some (.d (.int num)), some (.d (.int v)), s7, s8])
    ⟨B3, [], r, none, none, none, hB3.mono (by omega), rfl, (fun q hq => by cases hq), trivial, h1, by omega, ⟨rfl, rfl⟩, ⟨rfl, rfl⟩, ⟨rfl, rfl⟩, rfl⟩ ?_ ?_
  · rintro i x ρ hx ⟨B4, rs, num, s3, s7, s8, hB4, hl, hr, hg, hn0, hn1, n3, n7, n8, rfl⟩
    obtain ⟨hi, rfl⟩ := range_get hx
    have hi8 : i < 9 := by omega
    simp_arith [n3.1]
    rw [wS_seq]
    simp_arith [wS_expr]
    refine wE_compI (ρ1 := [some (.own b B4), some (.d (colsD cs)), some (.d (.int 8)), some (.d (.int (i : Int))), some (.own false (rs.map rowD)), some (.d (.int num)), some (.d (.int v)), s7, s8]) (xs := cs.map colD)
      (fun i2 acc ρ => ∃ B s7 s8, Bx (n + 6 + 50 * i + 6 * i2) B ∧ cellsOk (cs.take i2) acc ∧ ρ = [some (.own b B), some (.d (colsD cs)), some (.d (.int 8)), some (.d (.int (i : Int))), some (.own false (rs.map rowD)), some (.d (.int num)), some (.d (.int v)), s7, s8]) ?_ (by simp [n7.2, n8.2]) ⟨B4, s7, s8, by simpa using hB4, trivial, rfl⟩ ?_ ?_
    · simp_arith [colsD, items_t]
    · rintro i2 x acc ρ hx ⟨B5, s7', s8', hB5, hac, rfl⟩
      rw [List.getElem?_map] at hx
      cases hc : cs[i2]? with
      | none => rw [hc] at hx; cases hx
      | some c =>
        rw [hc] at hx
        obtain rfl := Option.some.inj hx
        have hi2 : i2 < 6 := by
          have := (List.getElem?_eq_some_iff.mp hc).1
          have := hC.le
          omega
        simp_arith [wipeE, colD]
        refine W_value hT.n hT.value (by omega) hB5 (by omega) hv (kd_of c.2) fun y B6 hy hB6 => ?_
        simp_arith []
        refine ⟨B6, _, _, hB6.mono (by omega), ?_, rfl⟩
        rw [List.take_add_one, hc]
        exact cells_snoc hac hy
    · rintro ys ρ2 ⟨B5, s7', s8', hB5, hac, rfl⟩
      rw [List.length_map, List.take_length] at hac
      rw [List.length_map] at hB5
      have hB5 := hB5.mono (m := n + 6 + 50 * i + 36) (by have := hC.le; omega)
      have hlt : (rs.map rowD).length < sizeLine := by rw [List.length_map]; omega
      simp_arith [restore, if_pos l2, mu_append, if_pos hlt, thenW_nx]
      rw [wS_seq]
      simp_arith [wS_asg]
      refine W_take hT.n.toDr0 (by omega) hB5 (by omega) (by decide) (by decide) fun r2 B6 h5 h6 hB6 => ?_
      simp_arith [wS_skip, thenW_nx]
      refine ⟨B6, rs ++ [(num, ys)], num + 1 + r2, _, _, _, hB6.mono (by omega), by simp [hl], fun q hq => ?_, goUp_snoc hg (fun q hq => (hr q hq).2) hn0, by omega, by omega, ⟨rfl, rfl⟩, n7, n8, by rw [List.map_append]; rfl⟩
      rcases List.mem_append.mp hq with h | h
      · exact ⟨(hr q h).1, by have := (hr q h).2; omega⟩
      · simp at h; subst h
        exact ⟨⟨hn0, by show num ≤ 10000; omega, hac⟩, by show num < _; omega⟩
  · rintro ρ ⟨B4, rs, num, s3, s7, s8, hB4, hl, hr, hg, hn0, hn1, n3, n7, n8, rfl⟩
    have hm : (range1 m.toNat).length ≤ 8 := by simp [range1]; omega
    simp only [thenW_nx]
    rw [wS_seq]
    simp_arith [wS_ret, if_pos l2, thenW_ret]
    exact q rs _ (by omega) (fun r hr' => (hr r hr').1) hg (hB4.mono (by omega))
end
end Ov

set_option maxHeartbeats 4000000
namespace Ov
open PySem
/-! ### conditions that are drawn -/
structure Wc (T : Prg) : Prop where
  n : Wn T
  value : T.fns 104 = some fn_value_3
  compare : T.fns 122 = some fn_compare
  cond : T.fns 123 = some fn_condition
theorem find_self {c : Col} : ∀ {cs : List Col}, (cs.map (·.1)).Nodup → c ∈ cs → cs.find? (fun d => d.1 == c.1) = some c
  | d :: cs, hn, hc => by
    rw [List.map_cons, List.nodup_cons] at hn
    rcases List.mem_cons.mp hc with rfl | hc
    · rw [List.find?_cons_of_pos (by simp)]
    · rw [List.find?_cons_of_neg]
      · exact find_self hn.2 hc
      · intro e
        have e : d.1 = c.1 := by simpa using e
        exact hn.1 (e ▸ List.mem_map_of_mem hc)
def colI (s : Str) : D := .tup [.str "column", .str s]
def plnI (v : D) : D := .tup [.str "plain", v]
theorem kind_col {cs : List Col} {c : Col} {fr : Bool} (hn : (cs.map (·.1)).Nodup) (hc : c ∈ cs) : kindI cs fr (colI c.1) = knd c.2 := by
  unfold colI kindI
  dsimp only
  rw [if_pos rfl]
  show (match cs.find? (fun d => d.1 == c.1) with | some c => knd c.2 | none => kNo) = _
  rw [find_self hn hc]
theorem kind_pln {cs : List Col} {v : D} {fr : Bool} : kindI cs fr (plnI v) = kindP fr v := by
  unfold plnI kindI
  dsimp only
  rw [if_neg (by simp [ofString_inj]), if_pos rfl]
theorem kp_cell {fr kb : Bool} {v : D} (h : CellOk (knd kb) v) : kindP fr v = kAny ∨ kindP fr v = knd kb := by
  obtain ⟨h1, _, _, h4⟩ := h
  unfold celB at h1
  cases v with
  | non => exact Or.inl rfl
  | int i =>
    refine Or.inr ?_
    cases kb
    · simp [knd, numB, txtB, ofString_inj] at h1
    · rfl
  | str s =>
    refine Or.inr ?_
    cases kb
    · rfl
    · simp [knd, numB, txtB] at h1
  | bl b => cases kb <;> simp [knd, numB, txtB] at h1
  | tup b => simp [D.depth] at h4
  | lst b => simp [D.depth] at h4
theorem knd_ok (b : Bool) : okK (knd b) = true := by cases b <;> simp [knd, okK, kNo, ofString_inj]
theorem kAny_ok : okK kAny = true := by simp [okK, kAny, kNo, ofString_inj]
/-- an item that goes beside a column of that kind -/
def MateOk (cs : List Col) (kb : Bool) (y : D) : Prop := (∀ fr, kindI cs fr y = kAny ∨ kindI cs fr y = knd kb) ∧ y.okb 0 = true ∧ y.depth ≤ 1 ∧ y.wu ≤ 160
theorem mate_col {cs : List Col} {c : Col} (hC : (cs.map (·.1)).Nodup) (hN : ∀ c ∈ cs, Nm c.1) (hc : c ∈ cs) : MateOk cs c.2 (colI c.1) := by
  obtain ⟨n1, n2, n3, n4, n5⟩ := hN c hc
  refine ⟨fun fr => Or.inr (kind_col hC hc), ?_, Nat.le_refl _, ?_⟩
  · show (D.okb 0 (.str "column") && (D.okb 0 (.str c.1) && true)) = true
    have : D.okb 0 (.str c.1) = true := n1
    rw [this]; rfl
  · have e : (D.str "column").wu = 62 := rfl
    show (D.tup [.str "column", .str c.1]).wu ≤ 160
    rw [wu_two, e]
    show 62 + (10 * c.1.length + 2) + 8 ≤ 160
    omega
theorem mate_pln {cs : List Col} {kb : Bool} {v : D} (h : CellOk (knd kb) v) : MateOk cs kb (plnI v) := by
  refine ⟨fun fr => by rw [kind_pln]; exact kp_cell h, ?_, ?_, ?_⟩
  · show (D.okb 0 (.str "plain") && (D.okb 0 v && true)) = true
    rw [h.2.1]; rfl
  · show max 0 (max v.depth 0) + 1 ≤ 1
    rw [h.2.2.2]; exact Nat.le_refl _
  · have e : (D.str "plain").wu = 52 := rfl
    show (D.tup [.str "plain", v]).wu ≤ 160
    rw [wu_two, e]
    have := h.2.2.1
    omega
/-- a condition as it is drawn -/
structure CdOk (cs : List Col) (d w : Nat) (y : D) : Prop where
  is : ∀ fr, condB cs fr y = true
  ok : y.okb 0 = true
  dp : y.depth ≤ d
  wu : y.wu ≤ w
theorem mate_two {cs : List Col} {kb : Bool} {a b : D} (ha : MateOk cs kb a) (hb : MateOk cs kb b) {s : Str} (hs : s ∈ sgs) : CdOk cs 2 430 (.tup [.str "compare", a, .str s, b]) := by
  obtain ⟨a1, a2, a3, a4⟩ := ha
  obtain ⟨b1, b2, b3, b4⟩ := hb
  have hsl : s.cps.toList.all (· < 0x110000) = true ∧ s.length ≤ 2 := by
    simp only [sgs, List.mem_cons, List.not_mem_nil, or_false] at hs
    rcases hs with rfl | rfl | rfl | rfl | rfl | rfl <;> exact ⟨rfl, by decide⟩
  refine ⟨fun fr => ?_, ?_, ?_, ?_⟩
  · unfold condB condX
    rw [if_pos rfl]
    have o : ∀ {k}, k = kAny ∨ k = knd kb → okK k = true := fun h => by
      rcases h with rfl | rfl
      · exact kAny_ok
      · exact knd_ok kb
    simp only [cmpB, o (a1 fr), o (b1 fr), decide_eq_true hs, Bool.true_and, Bool.or_eq_true, decide_eq_true_eq]
    rcases a1 fr with h | h
    · exact Or.inl h
    · rcases b1 fr with h' | h'
      · exact Or.inr (Or.inl h')
      · exact Or.inr (Or.inr (h.trans h'.symm))
  · show (D.okb 0 (.str "compare") && (D.okb 0 a && (D.okb 0 (.str s) && (D.okb 0 b && true)))) = true
    have e : D.okb 0 (.str s) = true := hsl.1
    rw [a2, b2, e]; rfl
  · simp only [D.depth, D.depths]; omega
  · have e : (D.str "compare").wu = 72 := rfl
    show (D.str "compare").wu + 2 + (a.wu + 2 + ((D.str s).wu + 2 + (b.wu + 2 + 0))) + 4 ≤ 430
    have e2 : (D.str s).wu = 10 * s.length + 2 := rfl
    rw [e, e2]
    have := hsl.2
    omega
def mateF (kb : Bool) (x : D) : Option D := match x with
  | .tup [.str n, .str k] => if k = knd kb then some (colI n) else none
  | _ => none
theorem knd_inj {a b : Bool} (h : knd a = knd b) : a = b := by cases a <;> cases b <;> first | rfl | (simp [knd, ofString_inj] at h)
theorem mates_in {cs : List Col} {kb : Bool} {y : D} (h : y ∈ (cs.map colD).filterMap (mateF kb)) : ∃ c ∈ cs, c.2 = kb ∧ y = colI c.1 := by
  obtain ⟨x, hx, e⟩ := List.mem_filterMap.mp h
  obtain ⟨c, hc, rfl⟩ := List.mem_map.mp hx
  have e : (if knd c.2 = knd kb then some (colI c.1) else none) = some y := e
  by_cases q : knd c.2 = knd kb
  · rw [if_pos q] at e
    exact ⟨c, hc, knd_inj q, (Option.some.inj e).symm⟩
  · rw [if_neg q] at e; cases e
theorem mates_len {cs : List Col} {kb : Bool} : ((cs.map colD).filterMap (mateF kb)).length ≤ cs.length := by
  have := List.length_filterMap_le (mateF kb) (cs.map colD)
  simpa using this
section
variable {T : Prg} {k n m : Nat} {b : Bool} {B : List D} {Q : EV × List EV → Prop} {cs : List Col}
theorem W_compare (hT : Wc T) (hk : 8 ≤ k) (hC : Cols m cs) (hm : m ≤ 17) (hB : Bx n B) (hn : n + 1000 ≤ 10 ^ 12)
    (q : ∀ y B', CdOk cs 2 430 y → Bx (n + 30) B' → Q (.d y, [.own b B', .d (colsD cs)])) : W (ev T k 122 [.own b B, .d (colsD cs)]) Q := by
  refine W_call hT.compare (by omega) rfl fun j hj => ?_
  show wS _ _ ir_compare [some (.own b _), some (.d _), none, none, none, none, none, none] _
  have hsz := sizeLine_ge
  have l2 : (0 + 1 + 1 : Nat) ≤ sizeLine := by decide
  have l4 : (0 + 1 + 1 + 1 + 1 : Nat) ≤ sizeLine := by decide
  have l6 : (0 + 1 + 1 + 1 + 1 + 1 + 1 : Nat) ≤ sizeLine := by decide
  have hle := hC.le
  have hpos := hC.pos
  unfold ir_compare
  rw [wS_seq]
  simp_arith [wS_asg]
  refine W_pick hT.n.toDr0 (by omega) hB (by omega) (s := colsD cs) (xs := cs.map colD) rfl (by intro e; rw [List.map_eq_nil_iff] at e; rw [e] at hpos; cases hpos) (by rw [List.length_map]; omega) fun x B2 hx2 hB2 => ?_
  obtain ⟨c, hcm, rfl⟩ := List.mem_map.mp hx2
  simp_arith [colD, thenW_nx]
  rw [wS_seq]
  simp_arith [wS_asg]
  refine wE_comp (xs := cs.map colD) (mateF c.2) ?_ rfl rfl (fun y hy => ?_) ?_
  · simp_arith [colsD, items_t]
  · obtain ⟨d, _, rfl⟩ := List.mem_map.mp hy
    simp_arith [wipeE, colD, mateF]
    by_cases e : knd d.2 = knd c.2
    · simp_arith [e, if_pos l2, colI]
    · simp_arith [e]
  have hml := mates_len (cs := cs) (kb := c.2)
  have hmi := fun y => mates_in (cs := cs) (kb := c.2) (y := y)
  generalize (cs.map colD).filterMap (mateF c.2) = M at hml hmi ⊢
  simp_arith [thenW_nx]
  rw [wS_seq]
  simp_arith [wS_asg, wE_op]
  refine W_value hT.n hT.value (by omega) hB2 (by omega) (Or.inl rfl) (kd_of c.2) fun v1 B3 h1 hB3 => ?_
  simp_arith [if_pos l2]
  refine W_value hT.n hT.value (by omega) hB3 (by omega) (Or.inl rfl) (kd_of c.2) fun v2 B4 h2 hB4 => ?_
  have hA : opD .add (.lst M) (.lst [.tup [.str "plain", v1], .tup [.str "plain", v2]]) = some (.lst (M ++ [plnI v1, plnI v2])) := by
    rw [op_addL, if_pos (by show M.length + 2 ≤ _; omega)]; rfl
  simp_arith [if_pos l2, ↓hA, thenW_nx]
  have hM : ∀ y ∈ M ++ [plnI v1, plnI v2], MateOk cs c.2 y := fun y hy => by
    rcases List.mem_append.mp hy with h | h
    · obtain ⟨d, hd, e, rfl⟩ := hmi y h
      rw [← e]; exact mate_col hC.nodup hC.nm hd
    · simp only [List.mem_cons, List.not_mem_nil, or_false] at h
      rcases h with rfl | rfl
      · exact mate_pln h1
      · exact mate_pln h2
  have hMl : (M ++ [plnI v1, plnI v2]).length ≤ 19 := by rw [List.length_append]; show M.length + 2 ≤ _; omega
  have hM0 : M ++ [plnI v1, plnI v2] ≠ [] := by simp
  generalize M ++ [plnI v1, plnI v2] = M2 at hM hMl hM0 ⊢
  rw [wS_seq]
  simp_arith [wS_asg, if_pos l2]
  refine W_pick hT.n.toDr0 (by omega) hB4 (by omega) (s := .lst M2) rfl hM0 (by omega) fun y B5 hy hB5 => ?_
  simp_arith [if_pos l2]
  refine W_take hT.n.toDr0 (by omega) hB5 (by omega) (by decide) (by decide) fun r B6 r1 r2 hB6 => ?_
  have sm2 : small 2 = true := by decide
  have hself := mate_col hC.nodup hC.nm hcm
  have hmate := hM y hy
  have fin : ∀ a b' : D, MateOk cs c.2 a → MateOk cs c.2 b' → wS (Cf T j) T.w (sndOf (sndOf (sndOf (sndOf ir_compare)))) [some (.own b B6), some (.d (colsD cs)), some (.d (.lst M2)), some (.d (.lst [a, b'])), some (.d (.str c.1)), some (.d (.str (knd c.2))), none, none] (fun o => W (outOf 2 o) Q) := fun a b' ha hb => by
    unfold ir_compare
    simp only [sndOf]
    rw [wS_seq]
    simp_arith [wS_ret, if_pos l6]
    refine W_pick hT.n.toDr0 (by omega) hB6 (by omega) (xs := sgs.map D.str) rfl (by simp [sgs]) (by decide) fun z B7 hz hB7 => ?_
    obtain ⟨s, hs, rfl⟩ := List.mem_map.mp hz
    simp_arith [if_pos l4, thenW_ret]
    exact q _ _ (mate_two ha hb hs) (hB7.mono (by omega))
  have hr : r = 0 ∨ r = 1 := by omega
  unfold ir_compare at fin
  simp only [sndOf] at fin
  rcases hr with rfl | rfl
  · simp_arith [sm2, Bool.true_or]
    have e : stpD (.lst [.tup [.str "column", .str c.1], y]) (1 - 2 * 0) = some (.lst [colI c.1, y]) := rfl
    simp_arith [↓e, thenW_nx]
    exact fin _ _ hself hmate
  · simp_arith [sm2, Bool.true_or]
    have e : stpD (.lst [.tup [.str "column", .str c.1], y]) (1 - 2 * 1) = some (.lst [y, colI c.1]) := rfl
    simp_arith [↓e, thenW_nx]
    exact fin _ _ hmate hself
theorem pick_ne {cs : List Col} (h : 0 < cs.length) : cs.map colD ≠ [] := by
  intro e
  rw [List.map_eq_nil_iff] at e
  rw [e] at h
  cases h
/-- how much a condition of so many levels is -/
def cdW : Nat → Nat
  | 0 => 430
  | d + 1 => 2 * cdW d + 60
theorem cd_null {c : Col} (hC : Cols m cs) (hc : c ∈ cs) : CdOk cs 2 430 (.tup [.str "null", colI c.1]) := by
  obtain ⟨a1, a2, a3, a4⟩ := mate_col hC.nodup hC.nm hc
  refine ⟨fun fr => ?_, ?_, ?_, ?_⟩
  · unfold condB condX
    rw [if_neg (by simp [ofString_inj]), if_pos rfl]
    show okK (kindI cs fr (colI c.1)) = true
    rw [kind_col hC.nodup hc, knd_ok]
  · show (D.okb 0 (.str "null") && (D.okb 0 (colI c.1) && true)) = true
    rw [a2]; rfl
  · simp only [D.depth, D.depths]; omega
  · have e : (D.str "null").wu = 42 := rfl
    rw [wu_two, e]
    omega
theorem cd_not {d w : Nat} {y : D} (h : CdOk cs d w y) : CdOk cs (d + 1) (2 * w + 60) (.tup [.str "not", y]) := by
  obtain ⟨a1, a2, a3, a4⟩ := h
  refine ⟨fun fr => ?_, ?_, ?_, ?_⟩
  · unfold condB condX
    rw [if_neg (by simp [ofString_inj]), if_neg (by simp [ofString_inj]), if_pos rfl]
    simp [condsB, a1 fr]
  · show (D.okb 0 (.str "not") && (D.okb 0 y && true)) = true
    rw [a2]; rfl
  · simp only [D.depth, D.depths]; omega
  · have e : (D.str "not").wu = 32 := rfl
    rw [wu_two, e]
    omega
theorem cd_two {d w : Nat} {y z : D} {s : Str} (hs : s = Str.ofString "and" ∨ s = Str.ofString "or") (h : CdOk cs d w y) (h' : CdOk cs d w z) : CdOk cs (d + 1) (2 * w + 60) (.tup [.str s, y, z]) := by
  obtain ⟨a1, a2, a3, a4⟩ := h
  obtain ⟨b1, b2, b3, b4⟩ := h'
  have o : D.okb 0 (.str s) = true ∧ s.length ≤ 3 := by rcases hs with rfl | rfl <;> exact ⟨rfl, by decide⟩
  refine ⟨fun fr => ?_, ?_, ?_, ?_⟩
  · unfold condB condX
    rw [if_neg (by rcases hs with rfl | rfl <;> simp [ofString_inj]), if_neg (by rcases hs with rfl | rfl <;> simp [ofString_inj]), if_neg (by rcases hs with rfl | rfl <;> simp [ofString_inj]), if_pos hs]
    simp [condsB, a1 fr, b1 fr]
  · show (D.okb 0 (.str s) && (D.okb 0 y && (D.okb 0 z && true))) = true
    rw [a2, b2, o.1]; rfl
  · simp only [D.depth, D.depths]; omega
  · show (D.str s).wu + 2 + (y.wu + 2 + (z.wu + 2 + 0)) + 4 ≤ _
    have e2 : (D.str s).wu = 10 * s.length + 2 := rfl
    rw [e2]
    have := o.2
    omega
theorem CdOk.up {d w d' w' : Nat} {y : D} (h : CdOk cs d w y) (hd : d ≤ d') (hw : w ≤ w') : CdOk cs d' w' y := ⟨h.is, h.ok, Nat.le_trans h.dp hd, Nat.le_trans h.wu hw⟩
/-- how many draws a condition takes at most -/
def cdN : Nat → Nat
  | 0 => 40
  | d + 1 => 2 * cdN d + 10
theorem cdN_ge : ∀ d, 40 ≤ cdN d
  | 0 => Nat.le_refl _
  | d + 1 => by have := cdN_ge d; show 40 ≤ 2 * cdN d + 10; omega
theorem cdW_ge : ∀ d, 430 ≤ cdW d
  | 0 => Nat.le_refl _
  | d + 1 => by have := cdW_ge d; show 430 ≤ 2 * cdW d + 60; omega
theorem W_condition (hT : Wc T) (hC : Cols m cs) (hm : m ≤ 17) : ∀ (d k n : Nat) {b : Bool} {B : List D} {Q : EV × List EV → Prop}, d + 9 ≤ k → Bx n B → n + cdN d + 1000 ≤ 10 ^ 12 →
    (∀ y B', CdOk cs (d + 2) (cdW d) y → Bx (n + cdN d) B' → Q (.d y, [.own b B', .d (colsD cs), .d (.int d)])) → W (ev T k 123 [.own b B, .d (colsD cs), .d (.int d)]) Q := by
  intro d
  induction d with
  | zero =>
    intro k n b B Q hk hB hn q
    refine W_call hT.cond (by omega) rfl fun j hj => ?_
    show wS _ _ ir_condition [some (.own b _), some (.d _), some (.d _), none, none] _
    have l2 : (0 + 1 + 1 : Nat) ≤ sizeLine := by decide
    have hn' : n + 40 + 1000 ≤ 10 ^ 12 := hn
    unfold ir_condition
    rw [wS_seq]
    simp_arith [wS_asg, Int.natCast_zero, Int.lt_irrefl]
    refine W_take hT.n.toDr0 (by omega) hB (by omega) (by decide) (by decide) fun r B1 h1 h2 hB1 => ?_
    simp_arith [thenW_nx]
    rw [wS_seq]
    simp_arith [wS_ifS]
    rw [if_neg (by omega)]
    simp only [wS_skip, thenW_nx]
    rw [wS_seq]
    simp_arith [wS_ifS]
    rw [if_neg (by omega)]
    simp only [wS_skip, thenW_nx]
    rw [wS_seq]
    simp_arith [wS_ifS]
    rw [if_neg (by omega)]
    simp only [wS_skip, thenW_nx]
    rw [wS_seq]
    simp_arith [wS_ret]
    refine W_compare hT (by omega) hC hm hB1 (by omega) fun y B2 hy hB2 => ?_
    simp_arith [thenW_ret]
    exact q y B2 hy (hB2.mono (by show _ ≤ n + 40; omega))
  | succ d ih =>
    intro k n b B Q hk hB hn q
    refine W_call hT.cond (by omega) rfl fun j hj => ?_
    show wS _ _ ir_condition [some (.own b _), some (.d _), some (.d _), none, none] _
    have l2 : (0 + 1 + 1 : Nat) ≤ sizeLine := by decide
    have l3 : (0 + 1 + 1 + 1 : Nat) ≤ sizeLine := by decide
    have hg := cdN_ge d
    have hgw := cdW_ge d
    have hn' : n + (2 * cdN d + 10) + 1000 ≤ 10 ^ 12 := hn
    have hpos := hC.pos
    have hle := hC.le
    have ed : ((d + 1 : Nat) : Int) - 1 = (d : Int) := by omega
    unfold ir_condition
    rw [wS_seq]
    simp_arith [wS_asg]
    rw [if_pos (by omega)]
    refine W_take hT.n.toDr0 (by omega) hB (by omega) (by decide) (by decide) fun r B1 h1 h2 hB1 => ?_
    simp_arith [thenW_nx]
    rw [wS_seq]
    simp_arith [wS_ifS]
    by_cases c1 : r < 2
    · rw [if_pos c1]
      rw [wS_seq]
      simp_arith [wS_asg, if_pos l2]
      refine W_pick hT.n.toDr0 (by omega) hB1 (by omega) rfl (by simp) (by simp) fun z B2 hz hB2 => ?_
      simp_arith [thenW_nx]
      rw [wS_seq]
      simp only [List.mem_cons, List.not_mem_nil, or_false] at hz
      obtain ⟨s, hs, rfl⟩ : ∃ s : Str, (s = Str.ofString "and" ∨ s = Str.ofString "or") ∧ z = .str s := by
        rcases hz with rfl | rfl
        · exact ⟨_, Or.inl rfl, rfl⟩
        · exact ⟨_, Or.inr rfl, rfl⟩
      simp_arith [wS_ret, ed]
      refine ih j _ (by omega) hB2 (by omega) fun y B3 hy hB3 => ?_
      simp_arith [ed]
      refine ih j _ (by omega) hB3 (by omega) fun y2 B4 hy2 hB4 => ?_
      simp_arith [if_pos l3, thenW_ret]
      exact q _ _ ((cd_two hs hy hy2).up (by omega) (Nat.le_refl _)) (hB4.mono (by show _ ≤ n + (2 * cdN d + 10); omega))
    · rw [if_neg c1]
      simp only [wS_skip, thenW_nx]
      rw [wS_seq]
      simp_arith [wS_ifS]
      by_cases c2 : r < 4
      · rw [if_pos c2]
        rw [wS_seq]
        simp_arith [wS_ret, ed]
        refine ih j _ (by omega) hB1 (by omega) fun y B3 hy hB3 => ?_
        simp_arith [if_pos l2, thenW_ret]
        exact q _ _ ((cd_not hy).up (by omega) (Nat.le_refl _)) (hB3.mono (by show _ ≤ n + (2 * cdN d + 10); omega))
      · rw [if_neg c2]
        simp only [wS_skip, thenW_nx]
        rw [wS_seq]
        simp_arith [wS_ifS]
        by_cases c3 : r = 4
        · rw [if_pos c3]
          rw [wS_seq]
          simp_arith [wS_ret]
          refine W_pick hT.n.toDr0 (by omega) hB1 (by omega) (s := colsD cs) (xs := cs.map colD) rfl (pick_ne hpos) (by rw [List.length_map]; omega) fun x B2 hx2 hB2 => ?_
          obtain ⟨c, hcm, rfl⟩ := List.mem_map.mp hx2
          have e0 : ixD (colD c) 0 = some (.str c.1) := rfl
          simp_arith [e0, if_pos l2, thenW_ret]
          exact q _ _ ((cd_null hC hcm).up (by omega) (by show 430 ≤ 2 * cdW d + 60; omega)) (hB2.mono (by show _ ≤ n + (2 * cdN d + 10); omega))
        · rw [if_neg c3]
          simp only [wS_skip, thenW_nx]
          rw [wS_seq]
          simp_arith [wS_ret]
          refine W_compare hT (by omega) hC hm hB1 (by omega) fun y B2 hy hB2 => ?_
          simp_arith [thenW_ret]
          exact q y B2 (hy.up (by omega) (by show 430 ≤ 2 * cdW d + 60; omega)) (hB2.mono (by show _ ≤ n + (2 * cdN d + 10); omega))
end
end Ov

set_option maxHeartbeats 4000000
namespace Ov
open PySem
/-! ### what is_condition is asked -/
def Cz (d w : Nat) (a : D) : Prop := a.okb 0 = true ∧ a.depth ≤ d ∧ a.wu ≤ w
def Cm (m : D) : Prop := m.okb 900 = true ∧ m.depth ≤ 8 ∧ m.wu ≤ 60000
theorem Cz.up {d w d' w' : Nat} {a : D} (h : Cz d w a) (hd : d ≤ d') (hw : w ≤ w') : Cz d' w' a := ⟨h.1, Nat.le_trans h.2.1 hd, Nat.le_trans h.2.2 hw⟩
theorem cz_seq {d w : Nat} : ∀ {ys : List D}, (∀ y ∈ ys, Cz d w y) → D.okbs 0 ys = true ∧ D.depths ys ≤ d ∧ D.wus ys ≤ (w + 2) * ys.length
  | [], _ => ⟨rfl, Nat.zero_le _, Nat.zero_le _⟩
  | y :: ys, h => by
    obtain ⟨a1, a2, a3⟩ := cz_seq (ys := ys) fun z hz => h z (List.mem_cons_of_mem _ hz)
    obtain ⟨b1, b2, b3⟩ := h y (List.mem_cons_self ..)
    refine ⟨by simp only [D.okbs, b1, a1]; rfl, by simp only [D.depths]; omega, ?_⟩
    show y.wu + 2 + D.wus ys ≤ (w + 2) * (ys.length + 1)
    rw [Nat.mul_add, Nat.mul_one]
    omega
theorem cz_tup {d w : Nat} {ys : List D} (h : ∀ y ∈ ys, Cz d w y) (hl : ys.length ≤ 4) : Cz (d + 1) (4 * w + 12) (.tup ys) := by
  obtain ⟨a1, a2, a3⟩ := cz_seq h
  refine ⟨a1, Nat.succ_le_succ a2, ?_⟩
  show D.wus ys + 4 ≤ _
  have : (w + 2) * ys.length ≤ (w + 2) * 4 := Nat.mul_le_mul_left _ hl
  omega
theorem cz_lst {d w : Nat} {ys : List D} (h : ∀ y ∈ ys, Cz d w y) (hl : ys.length ≤ 4) : Cz (d + 1) (4 * w + 12) (.lst ys) := cz_tup (ys := ys) h hl
theorem cm_of {a : D} (h : Cz 6 15452 a) : Cm a := ⟨okb_mono (by decide) a h.1, by have := h.2.1; omega, by have := h.2.2; omega⟩
abbrev Cp (a : D) : Prop := Cz 5 3860 a
theorem cm_tup {ys : List D} (h : ∀ y ∈ ys, Cp y) (hl : ys.length ≤ 4) : Cm (.tup ys) := cm_of (cz_tup h hl)
theorem cm_lst {ys : List D} (h : ∀ y ∈ ys, Cp y) (hl : ys.length ≤ 4) : Cm (.lst ys) := cm_of (cz_lst h hl)
theorem cm_cp {a : D} (h : Cp a) : Cm a := cm_of (h.up (by decide) (by decide))
def czB (d w : Nat) (a : D) : Bool := a.okb 0 && (decide (a.depth ≤ d) && decide (a.wu ≤ w))
theorem cz_dec {d w : Nat} {a : D} (h : czB d w a = true) : Cz d w a := by
  simp only [czB, Bool.and_eq_true, decide_eq_true_eq] at h
  exact h
theorem cp_dec {a : D} (h : czB 5 3860 a = true) : Cp a := cz_dec h
theorem cp_lst2 {a b : D} (h : Cz 1 160 a) (h' : Cz 1 160 b) : Cp (.lst [a, b]) := by
  refine (cz_lst (d := 1) (w := 160) (ys := [a, b]) ?_ (by simp)).up (by decide) (by decide)
  exact List.forall_mem_cons.mpr ⟨h, List.forall_mem_cons.mpr ⟨h', fun _ h => nomatch h⟩⟩
theorem cm_all {l : List D} (h : l.all (czB 5 3860) = true) : ∀ m ∈ l, Cm m := fun m hm => cm_cp (cz_dec (List.all_eq_true.mp h m hm))
theorem cm_app {a b : List D} (h : ∀ m ∈ a, Cm m) (h' : ∀ m ∈ b, Cm m) : ∀ m ∈ a ++ b, Cm m := fun m hm => (List.mem_append.mp hm).elim (h m) (h' m)
theorem nil_all {p : D → Prop} : ∀ m ∈ ([] : List D), p m := fun _ h => nomatch h
theorem all_cons' {p : D → Prop} {a : D} {l : List D} (h : p a) (h' : ∀ m ∈ l, p m) : ∀ m ∈ a :: l, p m := List.forall_mem_cons.mpr ⟨h, h'⟩
structure Wcm (T : Prg) : Prop where
  b : Bt2 T
  matters : T.fns 126 = some fn_matters_2
section
variable {T : Prg} {k n m : Nat} {B : List D} {Q : EV × List EV → Prop} {cs : List Col}
theorem W_matters2 (hT : Wcm T) (hk : 20 ≤ k) (hC : Cols m cs) (hm : m ≤ 17) {xs : List D} (hx : Cp (.tup xs)) (hB : Bx n B) (hn : n + 100000 ≤ 10 ^ 12)
    (q : ∀ ms B', (∀ m ∈ ms, Cm m) → ms.length ≤ 100 → Bx (n + 10000) B' → Q (.d (.lst ms), [.own true B', .d (colsD cs), .d (.tup xs)])) : W (ev T k 126 [.own true B, .d (colsD cs), .d (.tup xs)]) Q := by
  refine W_call hT.matters (by omega) rfl fun j hj => ?_
  show wS _ _ ir_matters_2 [some (.own true _), some (.d _), some (.d _), none, none, none, none, none, none, none, none] _
  have hsz := sizeLine_ge
  have l0 : (0 : Nat) ≤ sizeLine := by decide
  have l1 : (0 + 1 : Nat) ≤ sizeLine := by decide
  have l2 : (0 + 1 + 1 : Nat) ≤ sizeLine := by decide
  have l3 : (0 + 1 + 1 + 1 : Nat) ≤ sizeLine := by decide
  have l4 : (0 + 1 + 1 + 1 + 1 : Nat) ≤ sizeLine := by decide
  have l5 : (0 + 1 + 1 + 1 + 1 + 1 : Nat) ≤ sizeLine := by decide
  have l11 : (0 + 1 + 1 + 1 + 1 + 1 + 1 + 1 + 1 + 1 + 1 + 1 : Nat) ≤ sizeLine := by decide
  have hpos := hC.pos
  have hle := hC.le
  unfold ir_matters_2
  rw [wS_seq]
  simp_arith [wS_asg]
  refine W_pick hT.b.dr (by omega) hB (by omega) (s := colsD cs) (xs := cs.map colD) rfl (pick_ne hpos) (by rw [List.length_map]; omega) fun y B1 hy hB1 => ?_
  obtain ⟨c, hcm, rfl⟩ := List.mem_map.mp hy
  obtain ⟨_, o2, o3, o4⟩ := mate_col hC.nodup hC.nm hcm
  have own : Cz 1 160 (.tup [.str "column", .str c.1]) := ⟨o2, o3, o4⟩
  have td : (D.tup xs).depth ≤ 5 := hx.2.1
  have tw : (D.tup xs).wu ≤ 3860 := hx.2.2
  have tk : (D.tup xs).okb 0 = true := hx.1
  have hxl : Cm (.lst xs) := cm_cp (a := .lst xs) hx
  have rest : ∀ pl od : D, Cz 1 160 (.tup [.str "plain", pl]) → Cz 1 160 (.tup [.str "plain", od]) → wS (Cf T j) T.w (sndOf (sndOf (sndOf ir_matters_2))) [some (.own true B1), some (.d (colsD cs)), some (.d (.tup xs)), some (.d (.tup [.str "plain", od])), none, none, some (.d (.str c.1)), some (.d (.str (knd c.2))), some (.d (.tup [.str "column", .str c.1])), some (.d (.tup [.str "plain", pl])), none] (fun o => W (outOf 3 o) Q) := by
    intro pl od hp ho
    have own' := own.up (d' := 5) (w' := 3860) (by decide) (by decide)
    have hp' := hp.up (d' := 5) (w' := 3860) (by decide) (by decide)
    have ho' := ho.up (d' := 5) (w' := 3860) (by decide) (by decide)
    have hnull : Cz 1 160 (.str "null") := cz_dec (by decide +kernel)
    have hno := cp_lst2 hnull own
    have hpl : Cp (.lst [.str "plain", pl]) := hp'
    generalize D.tup [.str "column", .str c.1] = ow at own own' hno ⊢
    generalize D.tup [.str "plain", od] = oo at ho ho' ⊢
    unfold ir_matters_2
    simp only [sndOf]
    rw [wS_seq]
    simp_arith [wS_asgO, if_pos l0, if_pos l1, if_pos l2, if_pos l3, if_pos l4, if_pos l5, thenW_nx]
    generalize e1 : [D.tup xs, _, _, _, _] = m1
    have h1 : (∀ m ∈ m1, Cm m) ∧ m1.length = 5 := by
      refine ⟨?_, by rw [← e1]; rfl⟩
      rw [← e1]
      repeat' (first | assumption | exact nil_all | refine all_cons' ?_ ?_ | (refine cm_cp ?_; assumption) | exact cp_dec (by decide +kernel) | exact cm_cp (cp_dec (by decide +kernel)) | refine cm_tup ?_ (by simp) | refine cm_lst ?_ (by simp))
    clear e1
    rw [wS_seq]
    simp_arith [wS_asgO, wO_add, wE_op, if_pos l0, if_pos l1, if_pos l2, if_pos l3, if_pos l4, if_pos l5]
    rw [if_pos (by omega)]
    try simp only [thenW_nx]
    generalize e2 : m1 ++ _ = m2
    have h2 : (∀ m ∈ m2, Cm m) ∧ m2.length = 9 := by
      refine ⟨?_, by rw [← e2, List.length_append, h1.2]; rfl⟩
      rw [← e2]
      refine cm_app h1.1 ?_
      repeat' (first | assumption | exact nil_all | refine all_cons' ?_ ?_ | (refine cm_cp ?_; assumption) | exact cp_dec (by decide +kernel) | exact cm_cp (cp_dec (by decide +kernel)) | refine cm_tup ?_ (by simp) | refine cm_lst ?_ (by simp))
    clear e2 h1
    rw [wS_seq]
    simp_arith [wS_asgO, wO_add, wE_op, if_pos l0, if_pos l1, if_pos l2, if_pos l3, if_pos l4, if_pos l5, if_pos l11]
    rw [if_pos (by omega)]
    try simp only [thenW_nx]
    generalize e3 : m2 ++ _ = m3
    have h3 : (∀ m ∈ m3, Cm m) ∧ m3.length = 10 := by
      refine ⟨?_, by rw [← e3, List.length_append, h2.2]; rfl⟩
      rw [← e3]
      refine cm_app h2.1 ?_
      repeat' (first | assumption | exact nil_all | refine all_cons' ?_ ?_ | (refine cm_cp ?_; assumption) | exact cp_dec (by decide +kernel) | exact cm_cp (cp_dec (by decide +kernel)) | refine cm_tup ?_ (by simp) | refine cm_lst ?_ (by simp))
    clear e3 h2
    rw [wS_seq]
    simp_arith [wS_asgO, wO_add, wE_op, if_pos l0, if_pos l1, if_pos l2, if_pos l3, if_pos l4, if_pos l5, if_pos l11]
    rw [if_pos (by omega)]
    try simp only [thenW_nx]
    generalize e4 : m3 ++ _ = m4
    have h4 : (∀ m ∈ m4, Cm m) ∧ m4.length = 13 := by
      refine ⟨?_, by rw [← e4, List.length_append, h3.2]; rfl⟩
      rw [← e4]
      refine cm_app h3.1 ?_
      repeat' (first | assumption | exact nil_all | refine all_cons' ?_ ?_ | (refine cm_cp ?_; assumption) | exact cp_dec (by decide +kernel) | exact cm_cp (cp_dec (by decide +kernel)) | refine cm_tup ?_ (by simp) | refine cm_lst ?_ (by simp))
    clear e4 h3
    rw [wS_seq]
    simp_arith [wS_asgO, wO_add, wE_op, if_pos l0, if_pos l1, if_pos l2, if_pos l3, if_pos l4, if_pos l5, if_pos l11]
    rw [if_pos (by omega)]
    try simp only [thenW_nx]
    generalize e5 : m4 ++ _ = m5
    have h5 : (∀ m ∈ m5, Cm m) ∧ m5.length = 16 := by
      refine ⟨?_, by rw [← e5, List.length_append, h4.2]; rfl⟩
      rw [← e5]
      refine cm_app h4.1 ?_
      repeat' (first | assumption | exact nil_all | refine all_cons' ?_ ?_ | (refine cm_cp ?_; assumption) | exact cp_dec (by decide +kernel) | exact cm_cp (cp_dec (by decide +kernel)) | refine cm_tup ?_ (by simp) | refine cm_lst ?_ (by simp))
    clear e5 h4
    rw [wS_seq]
    simp_arith [wS_asgO, wO_add, wE_op, if_pos l0, if_pos l1, if_pos l2, if_pos l3, if_pos l4, if_pos l5, if_pos l11]
    rw [if_pos (by omega)]
    try simp only [thenW_nx]
    generalize e6 : m5 ++ _ = m6
    have h6 : (∀ m ∈ m6, Cm m) ∧ m6.length = 17 := by
      refine ⟨?_, by rw [← e6, List.length_append, h5.2]; rfl⟩
      rw [← e6]
      refine cm_app h5.1 ?_
      repeat' (first | assumption | exact nil_all | refine all_cons' ?_ ?_ | (refine cm_cp ?_; assumption) | exact cp_dec (by decide +kernel) | exact cm_cp (cp_dec (by decide +kernel)) | refine cm_tup ?_ (by simp) | refine cm_lst ?_ (by simp))
    clear e6 h5
    rw [wS_seq]
    simp_arith [wS_asgO, wO_add, wE_op, if_pos l0, if_pos l1, if_pos l2, if_pos l3, if_pos l4, if_pos l5, if_pos l11]
    rw [if_pos (by omega)]
    try simp only [thenW_nx]
    generalize e7 : m6 ++ _ = m7
    have h7 : (∀ m ∈ m7, Cm m) ∧ m7.length = 19 := by
      refine ⟨?_, by rw [← e7, List.length_append, h6.2]; rfl⟩
      rw [← e7]
      refine cm_app h6.1 ?_
      repeat' (first | assumption | exact nil_all | refine all_cons' ?_ ?_ | (refine cm_cp ?_; assumption) | exact cp_dec (by decide +kernel) | exact cm_cp (cp_dec (by decide +kernel)) | refine cm_tup ?_ (by simp) | refine cm_lst ?_ (by simp))
    clear e7 h6
    rw [wS_seq]
    simp_arith [wS_asgO, wO_add, wE_op, if_pos l0, if_pos l1, if_pos l2, if_pos l3, if_pos l4, if_pos l5, if_pos l11]
    rw [if_pos (by omega)]
    try simp only [thenW_nx]
    generalize e8 : m7 ++ _ = m8
    have h8 : (∀ m ∈ m8, Cm m) ∧ m8.length = 22 := by
      refine ⟨?_, by rw [← e8, List.length_append, h7.2]; rfl⟩
      rw [← e8]
      refine cm_app h7.1 ?_
      repeat' (first | assumption | exact nil_all | refine all_cons' ?_ ?_ | (refine cm_cp ?_; assumption) | exact cp_dec (by decide +kernel) | exact cm_cp (cp_dec (by decide +kernel)) | refine cm_tup ?_ (by simp) | refine cm_lst ?_ (by simp))
    clear e8 h7
    rw [wS_seq]
    simp_arith [wS_asgO, wO_add, wE_op, if_pos l0, if_pos l1, if_pos l2, if_pos l3, if_pos l4, if_pos l5, if_pos l11]
    rw [if_pos (by omega)]
    try simp only [thenW_nx]
    generalize e9 : m8 ++ _ = m9
    have h9 : (∀ m ∈ m9, Cm m) ∧ m9.length = 23 := by
      refine ⟨?_, by rw [← e9, List.length_append, h8.2]; rfl⟩
      rw [← e9]
      refine cm_app h8.1 ?_
      repeat' (first | assumption | exact nil_all | refine all_cons' ?_ ?_ | (refine cm_cp ?_; assumption) | exact cp_dec (by decide +kernel) | exact cm_cp (cp_dec (by decide +kernel)) | refine cm_tup ?_ (by simp) | refine cm_lst ?_ (by simp))
    clear e9 h8
    rw [wS_seq]
    simp_arith [wS_asgO, wO_add, wE_op, if_pos l0, if_pos l1, if_pos l2, if_pos l3, if_pos l4, if_pos l5, if_pos l11]
    rw [if_pos (by omega)]
    try simp only [thenW_nx]
    generalize e10 : m9 ++ _ = m10
    have h10 : (∀ m ∈ m10, Cm m) ∧ m10.length = 25 := by
      refine ⟨?_, by rw [← e10, List.length_append, h9.2]; rfl⟩
      rw [← e10]
      refine cm_app h9.1 ?_
      repeat' (first | assumption | exact nil_all | refine all_cons' ?_ ?_ | (refine cm_cp ?_; assumption) | exact cp_dec (by decide +kernel) | exact cm_cp (cp_dec (by decide +kernel)) | refine cm_tup ?_ (by simp) | refine cm_lst ?_ (by simp))
    clear e10 h9
    rw [wS_seq]
    simp_arith [wS_asgO, wO_add, wE_op, if_pos l0, if_pos l1, if_pos l2, if_pos l3, if_pos l4, if_pos l5, if_pos l11]
    rw [if_pos (by omega)]
    try simp only [thenW_nx]
    generalize e11 : m10 ++ _ = m11
    have h11 : (∀ m ∈ m11, Cm m) ∧ m11.length = 27 := by
      refine ⟨?_, by rw [← e11, List.length_append, h10.2]; rfl⟩
      rw [← e11]
      refine cm_app h10.1 ?_
      repeat' (first | assumption | exact nil_all | refine all_cons' ?_ ?_ | (refine cm_cp ?_; assumption) | exact cp_dec (by decide +kernel) | exact cm_cp (cp_dec (by decide +kernel)) | refine cm_tup ?_ (by simp) | refine cm_lst ?_ (by simp))
    clear e11 h10
    rw [wS_seq]
    simp_arith [wS_asgO, wO_add, wE_op, if_pos l0, if_pos l1, if_pos l2, if_pos l3, if_pos l4, if_pos l5, if_pos l11]
    rw [if_pos (by omega)]
    try simp only [thenW_nx]
    generalize e12 : m11 ++ _ = m12
    have h12 : (∀ m ∈ m12, Cm m) ∧ m12.length = 38 := by
      refine ⟨?_, by rw [← e12, List.length_append, h11.2]; rfl⟩
      rw [← e12]
      refine cm_app h11.1 ?_
      repeat' (first | assumption | exact nil_all | refine all_cons' ?_ ?_ | (refine cm_cp ?_; assumption) | exact cp_dec (by decide +kernel) | exact cm_cp (cp_dec (by decide +kernel)) | refine cm_tup ?_ (by simp) | refine cm_lst ?_ (by simp))
    clear e12 h11
    rw [wS_seq]
    simp_arith [wS_forS]
    rw [if_pos (by constructor <;> omega)]
    refine wF_inv (fun i ρ => ∃ B ms s5 s10, Bx (n + 2 + 100 * i) B ∧ (∀ m ∈ ms, Cm m) ∧ ms.length = 38 + i ∧ NB s5 ∧ NB s10 ∧ ρ = [some (.own true B), some (.d (colsD cs)), some (.d (.tup xs)), some (.d oo), some (.own false ms), s5, some (.d (.str c.1)), some (.d (.str (knd c.2))), some (.d ow), some (.d (.tup [.str "plain", pl])), s10])
      ⟨B1, m12, none, none, hB1.mono (by omega), h12.1, h12.2, ⟨rfl, rfl⟩, ⟨rfl, rfl⟩, rfl⟩ ?_ ?_
    · rintro i x ρ hx ⟨B1, ms, s5, s10, hB1, hms, hml, n5, n10, rfl⟩
      obtain ⟨hi, rfl⟩ := range_get hx
      have hi16 : i < 14 := hi
      simp_arith [n5.1]
      rw [wS_seq]
      simp_arith [wS_asg]
      refine W_bent2 hT.b (β := 0) (by decide) 7 j (n + 2 + 100 * i) (by omega) (by omega) hB1 (by omega) tk (by omega) fun y B2 y1 y2 y3 hB2 => ?_
      simp_arith [n10.1, thenW_nx]
      rw [wS_seq]
      simp_arith [wS_expr]
      refine W_take hT.b.dr (by omega) hB2 (by omega) (by decide) (by decide) fun r B3 h3 h4 hB3 => ?_
      simp_arith []
      have fin : ∀ z : D, z.okb 2 = true → z.depth ≤ 8 → z.wu ≤ 60000 → (∀ m ∈ ms ++ [z], Cm m) ∧ (ms ++ [z]).length = 38 + (i + 1) := fun z z1 z2 z3 =>
        ⟨cm_app hms fun m hm => by rw [List.mem_singleton.mp hm]; exact ⟨okb_mono (by decide) z z1, z2, z3⟩, by rw [List.length_append, hml]; rfl⟩
      by_cases h0 : r = 0
      · rw [if_pos h0]
        refine W_bent2 hT.b (β := 1) (by decide) 7 j _ (by omega) (by omega) hB3 (by omega) y2 (by omega) fun z B4 z1 z2 z3 hB4 => ?_
        simp_arith [mu_append]
        rw [if_pos (by omega)]
        simp only [wS_skip, thenW_nx]
        obtain ⟨f1, f2⟩ := fin z z2 (by omega) (by omega)
        exact ⟨B4, _, _, _, hB4.mono (by omega), f1, f2, ⟨rfl, rfl⟩, ⟨rfl, rfl⟩, rfl⟩
      · rw [if_neg h0]
        simp_arith [mu_append]
        rw [if_pos (by omega)]
        simp only [wS_skip, thenW_nx]
        obtain ⟨f1, f2⟩ := fin y (okb_mono (by decide) y y2) (by omega) (by omega)
        exact ⟨B3, _, _, _, hB3.mono (by omega), f1, f2, ⟨rfl, rfl⟩, ⟨rfl, rfl⟩, rfl⟩
    · rintro ρ ⟨B1, ms, s5, s10, hB1, hms, hml, n5, n10, rfl⟩
      have hml : ms.length = 38 + 14 := hml
      have hB1 : Bx (n + 2 + 100 * 14) B1 := hB1
      simp_arith only []
      exact q ms B1 hms (by omega) (hB1.mono (by omega))
  unfold ir_matters_2 at rest
  simp only [sndOf] at rest
  simp_arith [colD, thenW_nx]
  rw [wS_seq]
  have c3 : Cz 1 160 (.tup [.str "plain", .int 3]) := cz_dec (by decide +kernel)
  have s3 : Cz 1 160 (.tup [.str "plain", .str "3"]) := cz_dec (by decide +kernel)
  have nt : ¬ Str.ofString "number" = Str.ofString "text" := by rw [ofString_inj]; decide
  cases hk2 : c.2 with
  | true =>
    rw [hk2] at rest
    have e : knd true = Str.ofString "number" := rfl
    rw [e] at rest ⊢
    simp_arith [wS_par, if_pos l2, thenW_nx]
    rw [wS_seq]
    simp_arith [wS_asg, nt, if_pos l2, thenW_nx]
    exact rest _ _ c3 s3
  | false =>
    rw [hk2] at rest
    have e : knd false = Str.ofString "text" := rfl
    rw [e] at rest ⊢
    have nt2 : ¬ Str.ofString "text" = Str.ofString "number" := fun e => nt e.symm
    simp_arith [wS_par, nt2, if_pos l2, thenW_nx]
    rw [wS_seq]
    simp_arith [wS_asg, if_pos l2, thenW_nx]
    exact rest _ _ s3 c3
end
end Ov

set_option maxHeartbeats 4000000
namespace Ov
open PySem
structure K02 (T : Prg) : Prop where
  cn : Cn T
  cl : Clw T
  wc : Wc T
  wm : Wcm T
  dr : Dr T
  same : T.fns 15 = some fn_same
  lists : T.fns 16 = some fn_lists
  right : T.fns 127 = some fn_right_11
  law : T.fns 128 = some fn_law_11
  sh11 : T.sh 11 = some (121, [1, 0])
theorem cols_codes {m : Nat} {cs : List Col} (h : Cols m cs) : ∀ c ∈ cs, codes c.1 := fun c hc => (h.nm c hc).1
section
variable {T : Prg} {k n m : Nat} {B : List D} {Q : EV × List EV → Prop} {cs : List Col}
theorem fr_false : FrOk T false := fun h => by cases h
theorem cn_cond (hT : Cn T) {z x : D} (hz : er z = colsD cs) (hC : Cols m cs) {d : Nat} (hd : x.depth ≤ d) (hk : d + 10 ≤ k) (hx : x.okb 900 = true) : ev T k 121 [.d z, .d x] = some (.d (.bl (condB cs false x)), [.d z, .d x]) := by
  refine W_eq (W_call hT.cond (by omega) rfl fun j hj => ?_)
  show wS _ _ ir_is_condition [some (.d _), some (.d _)] _
  simp_arith only [ir_is_condition, cn_of hT fr_false hz hC.nodup (cols_codes hC) d j hd (by omega) hx]
theorem cols_depth (hC : Cols m cs) : (colsD cs).depth ≤ 2 := by
  have : ∀ cs : List Col, D.depths (cs.map colD) ≤ 1 := by
    intro cs
    induction cs with
    | nil => exact Nat.zero_le _
    | cons c cs ih =>
      show max (colD c).depth (D.depths (cs.map colD)) ≤ 1
      have : (colD c).depth = 1 := rfl
      omega
  have := this cs
  show D.depths (cs.map colD) + 1 ≤ 2
  omega
/-- one thing that is asked -/
theorem ask02 (hK : K02 T) {j : Nat} (hj : 22 ≤ j) {x : D} (hx : Cm x) {hs os : List Col} {m2 : Nat} (hH : Cols m hs) (hO : Cols m2 os) {s0 s1 s5 s6 s7 s8 : Option EV} (n5 : NB s5) (n6 : NB s6) (n7 : NB s7) (n8 : NB s8) {Q : Out → Prop}
    (q : ∀ a b c d, NB a → NB b → NB c → NB d → Q (.nx [s0, s1, some (.d x), some (.d (colsD hs)), some (.d (colsD os)), a, b, c, d])) :
    wS (Cf T j) T.w (.seq (.par [(6, false), (7, false), (8, false)] (.cons (.bi .repr (.cons (.var 2) .nil)) (.cons (.call 125 (.cons (.var 3) (.cons (.var 2) .nil))) (.cons (.call 125 (.cons (.var 4) (.cons (.var 2) .nil))) .nil))))
    (.seq (.asg (.nm 5) (.lst (.cons (.call 121 (.cons (.var 3) (.cons (.var 2) .nil))) (.cons (.callK 11 (.cons (.var 2) (.cons (.call 16 (.cons (.var 3) .nil)) .nil))) .nil))))
    (.seq (.ifS (.bor (.bnot (.call 15 (.cons (.op .add (.var 5) (.lst (.cons (.call 121 (.cons (.var 4) (.cons (.var 2) .nil))) .nil))) (.cons (.lst (.cons (.var 7) (.cons (.var 7) (.cons (.var 8) .nil)))) .nil)))) (.one (.cmp .ne (.bi .repr (.cons (.var 2) .nil)) (.var 6)))) (.seq (.ret (.bl false))
    .skip) .skip)
    .skip))) [s0, s1, some (.d x), some (.d (colsD hs)), some (.d (colsD os)), s5, s6, s7, s8] Q := by
  have l1 : (0 + 1 : Nat) ≤ sizeLine := by decide
  have l2 : (0 + 1 + 1 : Nat) ≤ sizeLine := by decide
  have l3 : (0 + 1 + 1 + 1 : Nat) ≤ sizeLine := by decide
  have hsz := sizeLine_ge
  obtain ⟨x1, x2, x3⟩ := hx
  have hr := repr_some2 (x := x) (by omega) (okb_ok (by decide) x x1) (by omega)
  generalize x.py.shown = s at hr
  have d1 := cl_due hK.cl (er_cols hs) 8 j x2 (by omega)
  have d2 := cl_due hK.cl (er_cols os) 8 j x2 (by omega)
  have e1 := cn_cond hK.cn (er_cols hs) hH x2 (show 8 + 10 ≤ j by omega) x1
  have e2 := cn_cond hK.cn (er_cols os) hO x2 (show 8 + 10 ≤ j by omega) x1
  obtain ⟨z, hz1, hz2⟩ := W_lists hK.lists j (colsD hs) (by have := cols_depth hH; omega)
  have e3 := cn_cond hK.cn (hz2.trans (er_cols hs)) hH x2 (show 8 + 10 ≤ j by omega) x1
  generalize condB hs false x = t at d1 e1 e3
  generalize condB os false x = u at d2 e2
  have hsame := same_refl hK.same j (.lst [.bl t, .bl t, .bl u]) (by simp only [D.depth, D.depths]; omega)
  rw [wS_seq]
  simp_arith [wS_par, hr, d1, d2, n6.1, n7.1, n8.1, thenW_nx]
  rw [wS_seq]
  simp_arith [wS_asg, e1, hK.sh11, hz1, e3, if_pos l2, n5.1, thenW_nx]
  rw [wS_seq]
  have hA : opD .add (.lst [.bl t, .bl t]) (.lst [.bl u]) = some (.lst [.bl t, .bl t, .bl u]) := by
    rw [op_addL, if_pos (by show 2 + 1 ≤ sizeLine; omega)]; rfl
  simp_arith [wS_ifS, wE_op, if_pos l1, if_pos l3, e2, ↓hA, hsame, hr, q_nt, wS_skip, thenW_nx]
  exact q _ _ _ _ ⟨rfl, rfl⟩ ⟨rfl, rfl⟩ ⟨rfl, rfl⟩ ⟨rfl, rfl⟩
theorem W_right02 (hK : K02 T) (hk : 24 ≤ k) (hB : Bx n B) (hn : n + 200000 ≤ 10 ^ 12) (q : ∀ B', Bx (n + 20000) B' → Q (.d (.bl true), [.own true B'])) : W (ev T k 127 [.own true B]) Q := by
  refine W_call hK.right (by omega) rfl fun j hj => ?_
  show wS _ _ ir_right_11 [some (.own true _), none, none, none, none, none, none, none, none] _
  have hsz := sizeLine_ge
  have l1 : (0 + 1 : Nat) ≤ sizeLine := by decide
  unfold ir_right_11
  rw [wS_seq]
  simp_arith [wS_par]
  refine W_columns hK.wc.n (by omega) hB (m := 6) (by decide) (by decide) (by omega) fun hs B1 hH hB1 => ?_
  simp_arith []
  refine W_columns hK.wc.n (by omega) hB1 (m := 2) (by decide) (by decide) (by omega) fun os B2 hO hB2 => ?_
  simp_arith [thenW_nx]
  rw [wS_seq]
  simp_arith [wS_asg]
  have n3 : cdN 3 = 390 := rfl
  have n2 : cdN 2 = 190 := rfl
  refine W_condition hK.wc hH (by decide) 3 j _ (by omega) hB2 (by omega) fun x B3 hx hB3 => ?_
  have hx : CdOk hs 5 3860 x := hx
  obtain ⟨xs, rfl⟩ : ∃ xs, x = .tup xs := by
    have := hx.is false
    cases x <;> first | exact ⟨_, rfl⟩ | (simp [condB] at this)
  simp_arith [thenW_nx]
  rw [wS_seq]
  simp_arith [wS_forS, wI_seq, wE_op]
  refine W_matters2 hK.wm (by omega) hH (by decide) ⟨hx.ok, hx.dp, hx.wu⟩ hB3 (by omega) fun ms B4 hms hml hB4 => ?_
  simp_arith []
  refine W_condition hK.wc hO (by decide) 2 j _ (by omega) hB4 (by omega) fun y B5 hy hB5 => ?_
  have hA : opD .add (.lst ms) (.lst [y]) = some (.lst (ms ++ [y])) := by
    rw [op_addL, if_pos (by show ms.length + 1 ≤ _; omega)]
  simp_arith [if_pos l1, ↓hA, items_l]
  have hy : CdOk os 4 1900 y := hy
  have hall : ∀ z ∈ ms ++ [y], Cm z := cm_app hms fun z hz => by rw [List.mem_singleton.mp hz]; exact cm_cp ⟨hy.ok, by have := hy.dp; omega, by have := hy.wu; omega⟩
  refine wF_inv (fun _ ρ => ∃ s2 s5 s6 s7 s8, NB s2 ∧ NB s5 ∧ NB s6 ∧ NB s7 ∧ NB s8 ∧ ρ = [some (.own true B5), some (.d (.tup xs)), s2, some (.d (colsD hs)), some (.d (colsD os)), s5, s6, s7, s8]) ⟨none, none, none, none, none, ⟨rfl, rfl⟩, ⟨rfl, rfl⟩, ⟨rfl, rfl⟩, ⟨rfl, rfl⟩, ⟨rfl, rfl⟩, rfl⟩ ?_ ?_
  · rintro i x ρ hx ⟨s2, s5, s6, s7, s8, n2, n5, n6, n7, n8, rfl⟩
    simp_arith [n2.1]
    refine ask02 hK (by omega) (hall x (List.mem_of_getElem? hx)) hH hO n5 n6 n7 n8 fun a b c d na nb nc nd => ?_
    exact ⟨_, _, _, _, _, ⟨rfl, rfl⟩, na, nb, nc, nd, rfl⟩
  · rintro ρ ⟨s2, s5, s6, s7, s8, n2, n5, n6, n7, n8, rfl⟩
    have e2 := cn_cond hK.cn (er_cols hs) hH hx.dp (show 5 + 10 ≤ j by omega) (okb_mono (by decide) _ hx.ok)
    rw [hx.is false] at e2
    simp only [thenW_nx]
    rw [wS_seq]
    simp_arith [wS_ret, e2, isbD]
    exact q B5 (hB5.mono (by omega))
theorem law02 (hK : K02 T) (hk : 28 ≤ k) (ns : List Int) (hl : ns.length ≤ 63) : ∃ outs, ev T k 128 [.scr ns] = some (.d (.bl true), outs) := by
  suffices h : W (ev T k 128 [.scr ns]) (fun q => q.1 = .d (.bl true)) by
    obtain ⟨⟨r, outs⟩, h1, h2⟩ := h
    dsimp only at h2; subst h2
    exact ⟨outs, h1⟩
  refine W_call hK.law (by omega) rfl fun j hj => ?_
  show wS _ _ ir_law_11 [some (.scr ns), none, none, none] _
  have hsz := sizeLine_ge
  unfold ir_law_11
  rw [wS_seq]
  simp_arith [wS_forS]
  rw [if_pos (by rw [List.length_map]; split <;> constructor <;> omega)]
  refine wF_inv (fun _ ρ => ∃ s1 s2 s3, NB s1 ∧ isBox (some s2) = false ∧ NB s3 ∧ ρ = [some (.scr ns), s1, s2, s3]) ⟨none, none, none, ⟨rfl, rfl⟩, rfl, ⟨rfl, rfl⟩, rfl⟩ ?_ ?_
  · rintro i x ρ hx ⟨s1, s2, s3, n1, n2, n3, rfl⟩
    obtain ⟨hi, rfl⟩ := range_get hx
    have hi4 : i < 4 := by rw [List.length_map] at hi; split at hi <;> omega
    simp_arith [n1.1]
    rw [wS_seq]
    simp_arith [wS_asgO]
    refine W_box hK.dr (by omega) (by omega) (by omega) fun B hB => ?_
    simp_arith [n2, thenW_nx]
    rw [wS_seq]
    simp_arith [wS_ifS]
    refine wE_compI (ρ1 := [some (.scr ns), some (.d (.int (i : Int))), some (.own false B), s3]) (xs := range1 2) (fun i2 acc ρ => ∃ B s3, Bx (20000 * i2) B ∧ acc = (List.replicate i2 true).map D.bl ∧ ρ = [some (.scr ns), some (.d (.int (i : Int))), some (.own false B), s3]) ?_ (by simp [n3.2]) ?_ ?_ ?_
    · simp_arith []
      rw [if_pos (by constructor <;> omega)]
      exact rfl
    · exact ⟨B, s3, hB.mono (by omega), rfl, rfl⟩
    · rintro i2 x acc ρ hx ⟨B2, s3', hB2, rfl, rfl⟩
      obtain ⟨hi5, rfl⟩ := range_get hx
      simp_arith [wipeE]
      refine W_right02 hK (by omega) hB2 (by omega) fun B3 hB3 => ?_
      simp_arith []
      exact ⟨B3, _, hB3.mono (by omega), by rw [List.replicate_succ', List.map_append]; rfl, rfl⟩
    · rintro ys ρ2 ⟨B2, s3', hB2, rfl, rfl⟩
      have hall : ((List.replicate (range1 2).length true).all id) = true := rfl
      simp_arith only [restore, bi_all, hall]
      exact ⟨_, _, _, ⟨rfl, rfl⟩, rfl, n3, rfl⟩
  · rintro ρ ⟨s1, s2, s3, n1, n2, n3, rfl⟩
    simp_arith only []
end
end Ov

set_option maxHeartbeats 4000000
namespace Ov.k02
open PySem
theorem dr0 : Dr0 P.prg := ⟨rfl, rfl⟩
theorem wn : Wn P.prg := ⟨dr0, rfl, rfl, rfl⟩
theorem dr : Dr P.prg := ⟨rfl, rfl, rfl, rfl⟩
theorem all : K02 P.prg := ⟨⟨rfl, rfl, rfl, rfl, rfl, rfl, rfl, rfl, rfl, rfl, rfl, rfl, rfl, rfl, rfl, rfl, rfl, rfl⟩, ⟨rfl, rfl, rfl⟩, ⟨wn, rfl, rfl, rfl⟩, ⟨⟨dr0, rfl⟩, rfl⟩, dr, rfl, rfl, rfl, rfl, rfl⟩
theorem holds (ns : List Int) (hl : ns.length ≤ 63) : ∃ outs, ev P.prg 40 128 [.scr ns] = some (.d (.bl true), outs) := law02 all (by decide) ns hl
end Ov.k02

open PySem PySem.W PyProof.Rows
set_option maxRecDepth 100000 in
set_option maxHeartbeats 0 in
theorem PySem.Challenge.cw_overrows_k02_conditions_or_not_holds : PySem.Challenge.rw_overrows_k02_conditions_or_not.Holds := by
  w_on; o_law; k_head; (case hw => w_witness2)
  k_fill
  exact Ov.walk_K (P := Ov.k02.P) (fl := 128) (dl := Ov.k02.d128) (x := "_law_script") rfl rfl (fun w h Y => PySem.W.kIn_of Y) (by kernel_rfl) rfl rfl Ov.k02.ok Ov.k02.binds Ov.k02.shs (fun w => by unfold He.SaysT; kernel_rfl) (fun w => by kernel_rfl) (fun w => by kernel_rfl) Ov.k02.holds

