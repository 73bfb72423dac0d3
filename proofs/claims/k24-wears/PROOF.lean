import PyProof.Rows.All
import Wide.All
import OpenK.AllK
import Wide.FinOn
import PyProof.ReprReads
import HandS.ForMost
import HandS.ForExc
import HandS.CallSlots
import HandS.Flow
import HandS.TryMany
import HandS.TupAny
import HandS.Conv
import HandS.IsInst
import HandS.RaiseMore
import KE.SortData
import KE.DataMinMax
import HandS.TryOnly
import HandS.Zip0
import HandS.Iter
import PyProof.Draws
import PyProof.EnumMake
import HandS.Comp
import PyProof.CallFns
import HandS.TupMul
import HandS.HeadWalk
import HandS.OwnEq
import PyProof.InstNe
import HandS.Style
import HandS.More
import KE.KExcSuper
import HandS.ExcInit
import HandS.ExcField
import HandS.Ends
import HandS.HeadHook4
import HandS.HeadEnd
import HandS.Defaults
import HandS.Head2
import PySem.Challenge.RW_lenttools_k24_whole_wears
set_option Elab.async false
set_option linter.all false
set_option maxRecDepth 100000
set_option maxHeartbeats 0
set_option autoImplicit false
/-! Ci: a small core of Python over values without a heap: values, operations, programs, the interpreter. -/
namespace Ci
open PySem

/-- a value: frozen lists and dicts are values; loc is a place of the store; obj an instance that never changes; fn a def -/
inductive PV where
  | non | bl (b : Bool) | int (i : Int) | str (s : Str)
  | tup (xs : List PV) | lst (xs : List PV) | dct (kvs : List (PV × PV))
  | loc (n : Nat) | obj (c : Nat) (fs : List (Nat × PV)) | fn (f : Nat)
  deriving Inhabited

/-- what stands at a place of the store -/
inductive Cell where
  | lst (xs : List PV) | dct (kvs : List (PV × PV)) | ins (c : Nat) (fs : List (Nat × PV))
  deriving Inhabited
abbrev Store := List Cell

/-- a name's slot: nothing known, a shared value, a list, dict or instance that this name alone holds, a caught exception -/
inductive Sl where
  | no | sh (v : PV) | ow (v : PV) | ex (c : Nat) (vs : List PV)
  deriving Inhabited
abbrev Ev := List Sl

/-- how a value stands: shared, fresh, or held by slot i alone -/
inductive Md where
  | sh | fr | bo (i : Nat)
  deriving Inhabited

/-! ### equality, order -/
mutual
def pyEq : PV → PV → Bool
  | .non, .non => true
  | .bl a, .bl b => a == b
  | .bl a, .int j => (if a then 1 else 0) == j
  | .int i, .bl b => i == (if b then 1 else 0)
  | .int i, .int j => i == j
  | .str x, .str y => x == y
  | .lst xs, .lst ys => pyEqs xs ys
  | .tup xs, .tup ys => pyEqs xs ys
  | _, _ => false
def pyEqs : List PV → List PV → Bool
  | [], [] => true
  | x :: xs, y :: ys => pyEq x y && pyEqs xs ys
  | _, _ => false
end
mutual
def pyLt : PV → PV → Bool
  | .bl a, .bl b => !a && b
  | .int i, .int j => decide (i < j)
  | .str x, .str y => decide (x.cps.toList < y.cps.toList)
  | .lst xs, .lst ys => pyLts xs ys
  | .tup xs, .tup ys => pyLts xs ys
  | _, _ => false
def pyLts : List PV → List PV → Bool
  | [], [] => false
  | [], _ :: _ => true
  | _ :: _, [] => false
  | x :: xs, y :: ys => if pyEq x y then pyLts xs ys else pyLt x y
end
mutual
/-- the two can be compared by <, place by place -/
def alike : PV → PV → Bool
  | .non, .non => true
  | .bl _, .bl _ => true
  | .int _, .int _ => true
  | .str _, .str _ => true
  | .lst xs, .lst ys => alikes xs ys
  | .tup xs, .tup ys => alikes xs ys
  | _, _ => false
def alikes : List PV → List PV → Bool
  | x :: xs, y :: ys => alike x y && alikes xs ys
  | _, _ => true
end
/-- data (None, bools, ints, texts, tuples, lists) of at most so many levels -/
def isD : Nat → PV → Bool
  | _, .non => true
  | _, .bl _ => true
  | _, .int _ => true
  | _, .str _ => true
  | n + 1, .tup xs => xs.all (isD n)
  | n + 1, .lst xs => xs.all (isD n)
  | _, _ => false
def dD : Nat := 40
def tup1 : PV → Bool
  | .tup (_ :: _) => true
  | _ => false
def tupN : PV → Bool
  | .tup _ => true
  | .non => true
  | _ => false
/-- what sorted takes -/
def srtOk (xs : List PV) : Bool := xs.all (isD dD) && xs.all (fun a => xs.all (alike a)) && (xs.all tup1 || xs.all (fun x => !tupN x))
def pyLe (a b : PV) : Bool := !pyLt b a
def srt (xs : List PV) : List PV := xs.mergeSort pyLe
/-- the first of each value -/
def firsts : List PV → List PV
  | [] => []
  | x :: xs => x :: (firsts xs).filter fun y => !pyEq x y
/-- a key of a dict: None, a number, a text, or a tuple of such, of a few levels -/
def isK : Nat → PV → Bool
  | _, .non => true
  | _, .bl _ => true
  | _, .int _ => true
  | _, .str _ => true
  | n + 1, .tup xs => xs.all (isK n)
  | _, _ => false
def isKey (v : PV) : Bool := isK 7 v
def leafK : PV → Bool
  | .tup _ => false
  | _ => true

/-! ### programs -/
/-- operations over values that are read -/
inductive Op where
  | add | sub | mul | rep | fdiv | mod | pow | neg
  | lt | le | gt | ge | eq | ne | isN | ntN | inn | nin
  | idx | slc (a b c : Bool)
  | len | abs | min1 | max1 | min2 | max2 | sum1 | sum2 | sorted | sortset | lenset
  | list | tuple | dict | int | str | repr | all | any
  | not | isi (ts : List Nat) (cs : List Nat)
  | index | get2 | values | items | join | split
  | rng | zip
  | fld (f : Nat)
  | fmt
  deriving DecidableEq, Inhabited

/-- targets -/
inductive CT where
  | nm (i : Nat) | tup (ts : List CT)
  deriving Inhabited

mutual
inductive CE where
  | k (v : PV)
  | var (i : Nat)
  | glb (g : Nat)
  | fnv (f : Nat)
  | call (f : Nat) (as : List CE)
  | lcall (f : Nat) (as : List CE)
  | callv (i : Nat) (as : List CE)
  | meth (m : Nat) (o : CE) (as : List CE)
  | lmeth (m : Nat) (o : CE) (as : List CE)
  | mk (c : Nat) (as : List CE)
  | op (o : Op) (es : List CE)
  | eqm (ng : Bool) (es : List CE)
  | chain (o1 o2 : Op) (a b c : CE)
  | andE (a b : CE) | orE (a b : CE) | notE (a : CE)
  | ife (c a b : CE)
  | tupE (es : List CE) | lstE (es : List CE) | dctE (kvs : List CE)
  | comp (own frz : List Nat) (tgt : CT) (it : CI) (cond : Option CE) (elt : CE)
  | exf (i : Nat) (f : Nat)
  | srtk (f : Nat) (e : CE)
  | srtm (m : Nat) (o e : CE)
  | nloc (e : CE)
inductive CI where
  | ex (e : CE) | rng (es : List CE) | enm (e : CE) | items (e : CE) | enmI (e : CE)
end
instance : Inhabited CE := ⟨.k .non⟩
instance : Inhabited CI := ⟨.ex default⟩

inductive CS where
  | asg (i : Nat) (e : CE)
  | par (ts : List Nat) (es : List CE)
  | unp (t : CT) (e : CE)
  | parF (o : CE) (fs : List Nat) (e : CE)
  | setI (o : CE) (ix e : CE)
  | setIs (i : Nat) (ix e : CE)
  | setF (o : CE) (f : Nat) (e : CE)
  | setFs (i : Nat) (f : Nat) (e : CE)
  | parI (ts : List (CE × CE)) (es : List CE)
  | exp (e : CE)
  | app (i : Nat) (e : CE) | appA (o e : CE)
  | ext (i : Nat) (e : CE)
  | ins (i : Nat) (a b : CE)
  | pop (x : Nat) (wrap : Bool) (i : Nat) (a : Option CE)
  | aug (i : Nat) (neg : Bool) (e : CE)
  | augF (o : CE) (f : Nat) (neg : Bool) (e : CE)
  | augS (i : Nat) (neg : Bool) (ix e : CE)
  | ret (e : CE) | retN
  | ife (c : CE) (a b : List CS)
  | for_ (kill : List Nat) (tgt : CT) (it : CI) (body : List CS)
  | whl (kill : List Nat) (c : CE) (body : List CS)
  | rse (c : Nat) (es : List CE)
  | rers
  | try_ (body : List CS) (hs : List (List Nat × Option Nat × List CS))
  | pass
  deriving Inhabited

structure FnDef where
  np : Nat
  ns : Nat
  ini : Option Nat
  body : List CS
  deriving Inhabited

structure Prog where
  fns : Nat → Option FnDef
  glob : Nat → Option PV
  /-- class: its instances change (live in the store) -/
  mutc : Nat → Bool
  /-- class: its __init__ -/
  init : Nat → Option Nat
  /-- class, method -/
  mth : Nat → Nat → Option Nat
  /-- class: its __eq__ -/
  eqm : Nat → Option Nat
  /-- class: its __len__ -/
  lenm : Nat → Option Nat
  /-- exception class: the fields -/
  xf : Nat → List Nat
  /-- exception class c is caught by c' -/
  xsub : Nat → Nat → Bool
  /-- class: the fields its instances may have -/
  cf : Nat → List Nat := fun _ => []
  /-- a def that may be a value -/
  fv : Nat → Bool := fun _ => false

/-! ### results -/
inductive Out (α : Type) where
  | ok (a : α) (r : Ev) (S : Store) | exc (c : Nat) (vs : List PV) (r : Ev) (S : Store) | bad (why : Nat)
def Out.bind {α β : Type} (x : Out α) (f : α → Ev → Store → Out β) : Out β := match x with
  | .ok a r S => f a r S
  | .exc c vs r S => .exc c vs r S
  | .bad w => .bad w
/-- dicts are covered -/
def dctOn : Bool := false
/-- a call's end -/
inductive FOut where
  | ok (v : PV) (fr : Bool) (S : Store) | exc (c : Nat) (vs : List PV) (S : Store) | bad (why : Nat)
  deriving Inhabited
/-- an operation's end -/
inductive ORes where
  | sh (v : PV) | fr (v : PV) | bad (why : Nat)
  deriving Inhabited

/-- a place of the store is looked through -/
def view (S : Store) : PV → PV
  | .loc n => match S[n]? with
    | some (.lst xs) => .lst xs
    | some (.dct kvs) => .dct kvs
    | some (.ins c fs) => .obj c fs
    | none => .loc n
  | v => v

def kget (kvs : List (PV × PV)) (k : PV) : Option PV := (kvs.find? fun p => pyEq p.1 k).map (·.2)
def kput : List (PV × PV) → PV → PV → List (PV × PV)
  | [], k, v => [(k, v)]
  | (a, b) :: r, k, v => if pyEq a k then (a, v) :: r else (a, b) :: kput r k v
def fget (fs : List (Nat × PV)) (f : Nat) : Option PV := fs.lookup f
def fput : List (Nat × PV) → Nat → PV → List (Nat × PV)
  | [], f, v => [(f, v)]
  | (a, b) :: r, f, v => if a = f then (a, v) :: r else (a, b) :: fput r f v

def truth (S : Store) (v : PV) : Option Bool := match view S v with
  | .non => some false
  | .bl b => some b
  | .int i => some (i != 0)
  | .str x => some (x.length != 0)
  | .tup xs => some (!xs.isEmpty)
  | .lst xs => some (!xs.isEmpty)
  | _ => none

def big : Nat := 4000000
def mulOk (i j : Int) : Bool := (-(2 ^ 64) < i && i < 2 ^ 64) || (-(2 ^ 64) < j && j < 2 ^ 64)
def nSl (n d : Nat) : Option Int → Nat
  | none => d
  | some v => if v < 0 then (v + (n : Int)).toNat else min v.toNat n
def cut {α : Type} (xs : List α) (lo hi : Option Int) : List α := (xs.drop (nSl xs.length 0 lo)).take (nSl xs.length xs.length hi - nSl xs.length 0 lo)
def atI {α : Type} (xs : List α) (i : Int) : Option α := if 0 ≤ i then xs[i.toNat]? else if -(xs.length : Int) ≤ i then xs[(i + xs.length).toNat]? else none
def sumI : List PV → Option Int
  | [] => some 0
  | .int i :: r => (sumI r).map (i + ·)
  | .bl b :: r => (sumI r).map ((if b then 1 else 0) + ·)
  | _ :: _ => none
def sumL : List PV → Option (List PV)
  | [] => some []
  | .lst xs :: r => (sumL r).map (xs ++ ·)
  | _ :: _ => none
def strI (i : Int) : Str := Str.ofString (toString i)
def pairsOf : List PV → Option (List (PV × PV))
  | [] => some []
  | .tup [a, b] :: r => (pairsOf r).map ((a, b) :: ·)
  | .lst [a, b] :: r => (pairsOf r).map ((a, b) :: ·)
  | _ :: _ => none
def merge (kvs : List (PV × PV)) : List (PV × PV) := kvs.foldl (fun a p => kput a p.1 p.2) []
def keysOk (kvs : List (PV × PV)) : Bool := kvs.all (fun p => isKey p.1) && (kvs.all (fun p => leafK p.1) || kvs.all (fun p => !leafK p.1))
def chars (x : Str) : List PV := x.cps.toList.map fun c => .str ⟨#[c]⟩
def strsOf : List PV → Option (List Str)
  | [] => some []
  | .str x :: r => (strsOf r).map (x :: ·)
  | _ :: _ => none
/-- split a text at a sign -/
def splitC (c : Nat) : List Nat → List (List Nat)
  | [] => [[]]
  | a :: r => if a = c then [] :: splitC c r else match splitC c r with
    | [] => [[a]]
    | h :: t => (a :: h) :: t
def digitsI (x : List Nat) : Option Int :=
  match x with
  | 45 :: r => if !r.isEmpty && r.all (fun c => 48 ≤ c && c ≤ 57) then some (-((r.foldl (fun a c => a * 10 + (c - 48)) 0 : Nat) : Int)) else none
  | r => if !r.isEmpty && r.all (fun c => 48 ≤ c && c ≤ 57) then some ((r.foldl (fun a c => a * 10 + (c - 48)) 0 : Nat) : Int) else none
mutual
/-- data as the library's data -/
def toD : PV → PyData
  | .bl b => .bool b
  | .int i => .int i
  | .str x => .str x
  | .tup xs => .tuple (toDs xs)
  | .lst xs => .list (toDs xs)
  | _ => .none
def toDs : List PV → List PyData
  | [] => []
  | x :: xs => toD x :: toDs xs
end
def reprS (v : PV) : Str := (toD v).shown
/-- the types of isinstance: 0 int, 1 bool, 2 str, 3 list, 4 tuple; own classes by number -/
def tyIs (v : PV) : Nat → Bool
  | 0 => match v with | .int _ => true | .bl _ => true | _ => false
  | 1 => match v with | .bl _ => true | _ => false
  | 2 => match v with | .str _ => true | _ => false
  | 3 => match v with | .lst _ => true | _ => false
  | 4 => match v with | .tup _ => true | _ => false
  | 5 => match v with | .dct _ => true | _ => false
  | _ => false
def clIs (v : PV) (c : Nat) : Bool := match v with
  | .obj d _ => d == c
  | _ => false
def rngL (lo : Int) (st : Int) (n : Nat) : List PV := (List.range n).map fun (k : Nat) => .int (lo + (k : Int) * st)
def rngN (lo hi st : Int) : Nat := if 0 < st then ((hi - lo + st - 1) / st).toNat else if st < 0 then ((lo - hi + (-st) - 1) / (-st)).toNat else 0
/-- the items of what is walked -/
def seqOf : PV → Option (List PV)
  | .tup xs => some xs
  | .lst xs => some xs
  | .str x => some (chars x)
  | .dct kvs => some (kvs.map (·.1))
  | _ => none
def rngOf : List PV → Option (List PV)
  | [.int n] => if -8000000 < n && n < 8000000 then some (rngL 0 1 n.toNat) else none
  | [.int a, .int b] => if -8000000 < a && a < 8000000 && -8000000 < b && b < 8000000 then some (rngL a 1 (b - a).toNat) else none
  | [.int a, .int b, .int c] => if -1000000 < a && a < 1000000 && -1000000 < b && b < 1000000 && c != 0 && -1000000 < c && c < 1000000 then some (rngL a c (rngN a b c)) else none
  | _ => none

def cmpO (o : Op) (i j : Int) : Option Bool := match o with
  | .lt => some (decide (i < j))
  | .le => some (decide (i ≤ j))
  | .gt => some (decide (j < i))
  | .ge => some (decide (j ≤ i))
  | _ => none
def oInt (i : Int) : ORes := .sh (.int i)
def oBl (b : Bool) : ORes := .sh (.bl b)
def cmpI (f : Int → Int → Bool) : PV → PV → ORes
  | .int i, .int j => oBl (f i j)
  | _, _ => .bad 10
def optI : Bool → List PV → Option (Option Int × List PV)
  | false, l => some (none, l)
  | true, .int i :: l => some (some i, l)
  | true, _ => none
def slcRun (lo hi : Option Int) (st : Option Int) (v : PV) : ORes := match st with
  | none => match v with
    | .tup xs => .sh (.tup (cut xs lo hi))
    | .lst xs => .fr (.lst (cut xs lo hi))
    | .str x => .sh (.str ⟨(cut x.cps.toList lo hi).toArray⟩)
    | _ => .bad 11
  | some s => if s == -1 && lo.isNone && hi.isNone then match v with
    | .tup xs => .sh (.tup xs.reverse)
    | .lst xs => .fr (.lst xs.reverse)
    | _ => .bad 12
    else .bad 13

def addV : PV → PV → ORes
  | .int i, .int j => oInt (i + j)
  | .str x, .str y => if x.length + y.length ≤ big then .sh (.str (x ++ y)) else .bad 20
  | .lst x, .lst y => if x.length + y.length ≤ big then .fr (.lst (x ++ y)) else .bad 21
  | .tup x, .tup y => if x.length + y.length ≤ big then .sh (.tup (x ++ y)) else .bad 22
  | _, _ => .bad 59
def subV : PV → PV → ORes
  | .int i, .int j => oInt (i - j)
  | _, _ => .bad 59
def repOk (n : Nat) (j : Int) : Bool := n * j.toNat ≤ big && j < 2 ^ 62 && -(2 ^ 62) < j
def mulV : PV → PV → ORes
  | .int i, .int j => if mulOk i j then oInt (i * j) else .bad 23
  | _, _ => .bad 59
def repV : PV → PV → ORes
  | .lst x, .int j => if repOk x.length j then .fr (.lst (List.replicate j.toNat x).flatten) else .bad 24
  | .tup x, .int j => if 2 ≤ j && j ≤ 1000 && !x.isEmpty && x.length ≤ 1000 then .sh (.tup (List.replicate j.toNat x).flatten) else .bad 24
  | _, _ => .bad 59
def fdivV : PV → PV → ORes
  | .int i, .int j => if 0 < j && j < 1073741824 then oInt (i / j) else .bad 25
  | _, _ => .bad 59
def modV : PV → PV → ORes
  | .int i, .int j => if 0 < j then oInt (i % j) else .bad 26
  | _, _ => .bad 59
def powV : PV → PV → ORes
  | .int i, .int j => if 0 ≤ j && j ≤ 1000000 && i.natAbs < 2 ^ 64 then oInt (i ^ j.toNat) else .bad 27
  | _, _ => .bad 59
def negV : PV → ORes
  | .int i => oInt (-i)
  | _ => .bad 59
def eqO (a b : PV) : ORes := if isD dD a && isD dD b then oBl (pyEq a b) else .bad 28
def neO (a b : PV) : ORes := if isD dD a && isD dD b then oBl (!pyEq a b) else .bad 28
def isNV : PV → Bool
  | .non => true
  | _ => false
def inV (ng : Bool) (a : PV) : PV → ORes
  | .lst xs => if isD dD a && isD dD (.lst xs) then oBl (ng != xs.any fun x => pyEq x a) else .bad 29
  | .tup xs => if isD dD a && isD dD (.tup xs) then oBl (ng != xs.any fun x => pyEq x a) else .bad 29
  | .str y => match a with
    | .str x => match x.cps.toList with
      | [c] => oBl (ng != decide (c ∈ y.cps.toList))
      | _ => .bad 59
    | _ => .bad 59
  | .dct kvs => if dctOn && isKey a && keysOk ((a, .non) :: kvs) then oBl (ng != (kget kvs a).isSome) else .bad 30
  | _ => .bad 59
def idxV : PV → PV → ORes
  | .lst xs, .int i => match atI xs i with | some v => .sh v | none => .bad 31
  | .tup xs, .int i => match atI xs i with | some v => .sh v | none => .bad 31
  | .str x, .int i => match atI x.cps.toList i with | some c => .sh (.str ⟨#[c]⟩) | none => .bad 31
  | .dct kvs, k => if dctOn && isKey k && keysOk ((k, .non) :: kvs) then (match kget kvs k with | some v => .sh v | none => .bad 32) else .bad 33
  | _, _ => .bad 59
def slcV (a b c : Bool) (v : PV) (r : List PV) : ORes := match optI a r with
  | some (lo, r1) => match optI b r1 with
    | some (hi, r2) => match optI c r2 with
      | some (st, []) => slcRun lo hi st v
      | _ => .bad 34
    | none => .bad 34
  | none => .bad 34
def lenV : PV → ORes
  | .lst xs => oInt xs.length
  | .tup xs => oInt xs.length
  | .str x => oInt x.length
  | .dct kvs => if dctOn then oInt kvs.length else .bad 59
  | _ => .bad 59
def absV' : PV → ORes
  | .int i => oInt (if i < 0 then -i else i)
  | _ => .bad 59
def lsV : PV → Option (List PV)
  | .lst xs => some xs
  | .tup xs => some xs
  | _ => none
def lsV' : PV → Option (List PV)
  | .lst xs => some xs
  | _ => none
def minOf : List PV → Option PV
  | [] => none
  | x :: xs => some (xs.foldl (fun m y => if pyLt y m then y else m) x)
def maxOf : List PV → Option PV
  | [] => none
  | x :: xs => some (xs.foldl (fun m y => if pyLt m y then y else m) x)
def isI : PV → Bool
  | .int _ => true
  | _ => false
/-- min, max over data that is no int: covered -/
def minOn : Bool := true
def min1V (v : PV) : ORes := match lsV' v with
  | some xs => if (minOn || xs.all isI) && srtOk xs then (match minOf xs with | some x => .sh x | none => .bad 35) else .bad 36
  | none => .bad 37
def max1V (v : PV) : ORes := match lsV' v with
  | some xs => if (minOn || xs.all isI) && srtOk xs then (match maxOf xs with | some x => .sh x | none => .bad 35) else .bad 36
  | none => .bad 37
def min2V : PV → PV → ORes
  | .int i, .int j => oInt (if j < i then j else i)
  | _, _ => .bad 59
def max2V : PV → PV → ORes
  | .int i, .int j => oInt (if j > i then j else i)
  | _, _ => .bad 59
def sum1V : PV → ORes
  | .lst xs => if xs.all isI then (match sumI xs with | some i => oInt i | none => .bad 38) else .bad 38
  | _ => .bad 38
def sum2V : PV → PV → ORes
  | .lst xs, .lst [] => match sumL xs with | some l => if l.length ≤ big then .fr (.lst l) else .bad 39 | none => .bad 39
  | _, _ => .bad 59
def srtdV (v : PV) : ORes := match v with
  | .lst xs => if srtOk xs then .fr (.lst (srt xs)) else .bad 40
  | _ => .bad 40
def srtsV (v : PV) : ORes := match lsV v with
  | some xs => if srtOk xs && xs.all isKey then .fr (.lst (srt (firsts xs))) else .bad 41
  | none => .bad 41
def lensV (v : PV) : ORes := match lsV v with
  | some xs => if xs.all isKey && srtOk xs then oInt (firsts xs).length else .bad 42
  | none => .bad 42
/-- list of a text, of a dict: covered -/
def lstOn : Bool := false
def listV (v : PV) : ORes := match lsV v with | some xs => .fr (.lst xs) | none => if lstOn then (match seqOf v with | some xs => .fr (.lst xs) | none => .bad 43) else .bad 43
def tupleV (v : PV) : ORes := match lsV v with | some xs => .sh (.tup xs) | none => .bad 44
def dictV : PV → ORes
  | .dct kvs => .fr (.dct kvs)
  | .lst xs => match pairsOf xs with
    | some kvs => if keysOk kvs then .fr (.dct (merge kvs)) else .bad 45
    | none => .bad 46
  | .tup xs => match pairsOf xs with
    | some kvs => if keysOk kvs then .fr (.dct (merge kvs)) else .bad 45
    | none => .bad 46
  | _ => .bad 46
def intV : PV → ORes
  | .int i => oInt i
  | .bl b => oInt (if b then 1 else 0)
  | .str x => match digitsI x.cps.toList with | some i => if lstOn && x.length ≤ 600 then oInt i else .bad 47 | none => .bad 47
  | _ => .bad 59
def strV : PV → ORes
  | .int i => if i.natAbs.log2 < 1900 then .sh (.str (strI i)) else .bad 48
  | .str x => .sh (.str x)
  | _ => .bad 59
def isTrue' : PV → Bool
  | .bl b => b
  | _ => false
def isBl : PV → Bool
  | .bl _ => true
  | _ => false
def allV : PV → ORes
  | .lst xs => if xs.all isBl then oBl (xs.all isTrue') else .bad 60
  | _ => .bad 59
def anyV : PV → ORes
  | .lst xs => if xs.all isBl then oBl (xs.any isTrue') else .bad 60
  | _ => .bad 59
def indexV : PV → PV → ORes
  | .lst xs, v => if isD dD v && isD dD (.lst xs) then (match xs.findIdx? (fun x => pyEq x v) with | some i => oInt i | none => .bad 50) else .bad 51
  | .tup xs, v => if isD dD v && isD dD (.tup xs) then (match xs.findIdx? (fun x => pyEq x v) with | some i => oInt i | none => .bad 50) else .bad 51
  | .str x, .str y => match y.cps.toList with
    | [c] => if c ∈ x.cps.toList then oInt (x.cps.toList.idxOf c) else .bad 52
    | _ => .bad 52
  | _, _ => .bad 59
def get2V (k d : PV) : PV → ORes
  | .dct kvs => if isKey k && keysOk ((k, .non) :: kvs) then .sh ((kget kvs k).getD d) else .bad 53
  | _ => .bad 59
def valuesV : PV → ORes
  | .dct kvs => .fr (.lst (kvs.map (·.2)))
  | _ => .bad 59
def itemsV : PV → ORes
  | .dct kvs => .fr (.lst (kvs.map fun p => .tup [p.1, p.2]))
  | _ => .bad 59
def joinV (v : PV) : PV → ORes
  | .str x => match v with
    | .lst xs => match strsOf xs with
      | some l => if (Str.join x l).length ≤ big then .sh (.str (Str.join x l)) else .bad 54
      | none => .bad 54
    | _ => .bad 54
  | _ => .bad 59
def splitV : PV → PV → ORes
  | .str x, .str y => match y.cps.toList with
    | [c] => .fr (.lst ((splitC c x.cps.toList).map fun l => .str ⟨l.toArray⟩))
    | _ => .bad 55
  | _, _ => .bad 59
def zipV : PV → PV → ORes
  | .lst xs, .lst ys => .fr (.lst ((xs.zip ys).map fun p => .tup [p.1, p.2]))
  | .tup xs, .tup ys => .fr (.lst ((xs.zip ys).map fun p => .tup [p.1, p.2]))
  | _, _ => .bad 59
def fldV (f : Nat) : PV → ORes
  | .obj _ fs => match fget fs f with | some v => .sh v | none => .bad 57
  | _ => .bad 59
/-- isinstance of own classes, dicts, functions: covered -/
def isiOn : Bool := false
def isiOk : PV → Bool
  | .dct _ => false
  | .loc _ => false
  | .fn _ => false
  | _ => true
def fmtS : PV → PV
  | .int i => .str (strI i)
  | v => v
def fmtV (vs : List PV) : ORes := match strsOf (vs.map fmtS) with
  | some l => if (Str.join "" l).length ≤ big then .sh (.str (Str.join "" l)) else .bad 58
  | none => .bad 58
def op1 (o : Op) (a : PV) : ORes := match o with
  | .neg => negV a
  | .isN => oBl (isNV a)
  | .ntN => oBl (!isNV a)
  | .len => lenV a
  | .abs => absV' a
  | .min1 => min1V a
  | .max1 => max1V a
  | .sum1 => sum1V a
  | .sorted => srtdV a
  | .sortset => srtsV a
  | .lenset => lensV a
  | .list => listV a
  | .tuple => tupleV a
  | .dict => dictV a
  | .int => intV a
  | .str => strV a
  | .repr => if isD dD a && (toD a).showable && (reprS a).length ≤ big && PyData.strOk (reprS a) then .sh (.str (reprS a)) else .bad 49
  | .all => allV a
  | .any => anyV a
  | .isi ts cs => if isiOk a then oBl (ts.any (tyIs a) || cs.any (clIs a)) else .bad 91
  | .values => valuesV a
  | .items => itemsV a
  | .fld f => fldV f a
  | _ => .bad 59
def op2 (o : Op) (a b : PV) : ORes := match o with
  | .add => addV a b
  | .sub => subV a b
  | .mul => mulV a b
  | .rep => repV a b
  | .fdiv => fdivV a b
  | .mod => modV a b
  | .pow => powV a b
  | .lt => cmpI (fun i j => decide (i < j)) a b
  | .le => cmpI (fun i j => decide (i ≤ j)) a b
  | .gt => cmpI (fun i j => decide (j < i)) a b
  | .ge => cmpI (fun i j => decide (j ≤ i)) a b
  | .eq => eqO a b
  | .ne => neO a b
  | .inn => inV false a b
  | .nin => inV true a b
  | .idx => idxV a b
  | .min2 => min2V a b
  | .max2 => max2V a b
  | .sum2 => sum2V a b
  | .index => indexV a b
  | .join => joinV b a
  | .split => splitV a b
  | .zip => zipV a b
  | _ => .bad 59
/-- the operations, over values that are looked through -/
def opV (o : Op) (vs : List PV) : ORes := match o with
  | .slc a b c => match vs with
    | v :: r => slcV a b c v r
    | [] => .bad 59
  | .rng => match rngOf vs with | some l => .fr (.lst l) | none => .bad 56
  | .fmt => fmtV vs
  | .get2 => match vs with
    | [m, k, d] => get2V k d m
    | _ => .bad 59
  | o => match vs with
    | [a] => op1 o a
    | [a, b] => op2 o a b
    | _ => .bad 59
def opRun (S : Store) (o : Op) (vs : List PV) : ORes := opV o (vs.map (view S))

/-! ### slots -/
def getS (r : Ev) (i : Nat) : Sl := r.getD i .no
def setS (r : Ev) (i : Nat) (s : Sl) : Ev := r.set i s
def wipeS (r : Ev) : List Nat → Ev
  | [] => r
  | v :: vs => (wipeS r vs).set v .no
def lowS (r : Ev) (i : Nat) : Ev := match getS r i with
  | .ow v => r.set i (.sh v)
  | _ => r
def lowAll (r : Ev) (l : List Nat) : Ev := l.foldl lowS r
/-- a value that is handed on is shared from then on -/
def esc (cm : Bool) (v : PV) (m : Md) (r : Ev) (S : Store) : Out PV := match m with
  | .bo i => if cm then .bad 1 else .ok v (lowS r i) S
  | _ => .ok v r S
mutual
/-- no list, dict, instance or place in it -/
def clean : PV → Bool
  | .tup xs => cleans xs
  | .lst _ => false
  | .dct _ => false
  | .loc _ => false
  | .obj _ _ => false
  | _ => true
def cleans : List PV → Bool
  | [] => true
  | x :: xs => clean x && cleans xs
end
mutual
def pvEq : PV → PV → Bool
  | .non, .non => true
  | .bl a, .bl b => a == b
  | .int i, .int j => i == j
  | .str x, .str y => x == y
  | .lst xs, .lst ys => pvEqs xs ys
  | .tup xs, .tup ys => pvEqs xs ys
  | .dct xs, .dct ys => pvEqk xs ys
  | .loc m, .loc n => m == n
  | .obj c xs, .obj d ys => c == d && pvEqf xs ys
  | .fn f, .fn g => f == g
  | _, _ => false
def pvEqs : List PV → List PV → Bool
  | [], [] => true
  | x :: xs, y :: ys => pvEq x y && pvEqs xs ys
  | _, _ => false
def pvEqk : List (PV × PV) → List (PV × PV) → Bool
  | [], [] => true
  | (a, b) :: xs, (c, d) :: ys => pvEq a c && (pvEq b d && pvEqk xs ys)
  | _, _ => false
def pvEqf : List (Nat × PV) → List (Nat × PV) → Bool
  | [], [] => true
  | (a, b) :: xs, (c, d) :: ys => a == c && (pvEq b d && pvEqf xs ys)
  | _, _ => false
end
def cellEq : Cell → Cell → Bool
  | .lst xs, .lst ys => pvEqs xs ys
  | .dct xs, .dct ys => pvEqk xs ys
  | .ins c xs, .ins d ys => c == d && pvEqf xs ys
  | _, _ => false
def stEq : Store → Store → Bool
  | [], [] => true
  | x :: xs, y :: ys => cellEq x y && stEq xs ys
  | _, _ => false
mutual
/-- all places below n -/
def locB (n : Nat) : PV → Bool
  | .tup xs => locBs n xs
  | .lst xs => locBs n xs
  | .dct kvs => locBk n kvs
  | .loc k => decide (k < n)
  | .obj _ fs => locBf n fs
  | _ => true
def locBs (n : Nat) : List PV → Bool
  | [] => true
  | x :: xs => locB n x && locBs n xs
def locBk (n : Nat) : List (PV × PV) → Bool
  | [] => true
  | (a, b) :: xs => locB n a && (locB n b && locBk n xs)
def locBf (n : Nat) : List (Nat × PV) → Bool
  | [] => true
  | (_, b) :: xs => locB n b && locBf n xs
end
def cellB (n : Nat) : Cell → Bool
  | .lst xs => locBs n xs
  | .dct kvs => locBk n kvs
  | .ins _ fs => locBf n fs
/-- places made in a call and not handed out are forgotten -/
def trunc (n : Nat) (vs : List PV) (S : Store) : Store := if S.length = n then S else if locBs n vs && (S.take n).all (cellB n) then S.take n else S

/-! ### the interpreter -/
structure Cxt where
  P : Prog
  call : Nat → List PV → Store → FOut

/-- a new object, taken out of the store as a value -/
def outL (n : Nat) (r : Ev) (S : Store) : Out (PV × Md) := match S[n]? with
  | some (.ins c fs) => if locBf n fs && (S.take n).all (cellB n) then .ok (.obj c fs, .fr) r (S.take n) else .bad 87
  | _ => .bad 88
def ofF (x : FOut) (r : Ev) : Out (PV × Md) := match x with
  | .ok v fr S => .ok (v, if fr then .fr else .sh) r S
  | .exc c vs S => .exc c vs r S
  | .bad w => .bad w
def ofO (x : ORes) (r : Ev) (S : Store) : Out (PV × Md) := match x with
  | .sh v => .ok (v, .sh) r S
  | .fr v => .ok (v, .fr) r S
  | .bad w => .bad w
mutual
/-- assigned to targets (shared values) -/
def asgT : CT → PV → Ev → Store → Out Unit
  | .nm i, v, r, S => .ok () (setS r i (.sh v)) S
  | .tup ts, v, r, S => match view S v with
    | .tup xs => if xs.length = ts.length then asgTs ts xs r S else .bad 2
    | .lst xs => if xs.length = ts.length then asgTs ts xs r S else .bad 2
    | _ => .bad 3
def asgTs : List CT → List PV → Ev → Store → Out Unit
  | [], [], r, S => .ok () r S
  | t :: ts, x :: xs, r, S => (asgT t x r S).bind fun _ r S => asgTs ts xs r S
  | _, _, _, _ => .bad 4
end
/-- the turns of a comprehension: each gives an item or none; the names are as they were -/
def compLoop (f : PV → Store → Out (Option PV)) : List PV → Store → List PV → Out (List PV)
  | [], S, acc => .ok acc [] S
  | x :: xs, S, acc => match f x S with
    | .ok y _ S => compLoop f xs S (match y with | some y => acc ++ [y] | none => acc)
    | .exc _ _ _ _ => .bad 83
    | .bad w => .bad w
/-- the turns of a loop -/
inductive Fl where
  | nx | rt (v : PV) (fr : Bool)
  deriving Inhabited
def forLoop (f : PV → Ev → Store → Out Fl) (fin : Ev → Ev) : List PV → Ev → Store → Out Fl
  | [], r, S => .ok .nx (fin r) S
  | x :: xs, r, S => (f x r S).bind fun fl r S => match fl with
    | .nx => forLoop f fin xs r S
    | .rt v fr => .ok (.rt v fr) r S
def whlLoop (c : Ev → Store → Out Bool) (f : Ev → Store → Out Fl) (fin : Ev → Ev) : Nat → Ev → Store → Out Fl
  | 0, _, _ => .bad 5
  | n + 1, r, S => (c r S).bind fun b r S => if b then (f r S).bind fun fl r S => match fl with
    | .nx => whlLoop c f fin n r S
    | .rt v fr => .ok (.rt v fr) r S
    else .ok .nx (fin r) S
def whlMax : Nat := 1000000000000
def enumV (xs : List PV) : List PV := (List.range xs.length).zipWith (fun (k : Nat) x => PV.tup [.int k, x]) xs

def truthO (S : Store) (v : PV) (r : Ev) : Out Bool := match truth S v with
  | some b => .ok b r S
  | none => .bad 6

/-- what is read stands where it stood -/
def res1 (r : Ev) (x : PV × Md) : Option PV := match x.2 with
  | .bo i => match getS r i with
    | .ow v => some v
    | .sh v => some v
    | _ => none
  | _ => some x.1
def resA (r : Ev) : List (PV × Md) → Option (List PV)
  | [] => some []
  | x :: xs => match res1 r x with
    | some v => (resA r xs).map (v :: ·)
    | none => none
def rdB (x : Out (List (PV × Md))) : Out (List PV) := x.bind fun xs r S => match resA r xs with
  | some vs => .ok vs r S
  | none => .bad 82
/-- own == of an instance, else == of data -/
def eqmO (cx : Cxt) (ng : Bool) (x y : PV) (r : Ev) (S : Store) : Out (PV × Md) := match view S x with
  | .obj c _ => match cx.P.eqm c with
    | some f => if isiOk (view S y) then (match cx.call f [x, y] S with
      | .ok (.bl v) false S' => .ok (.bl (if ng then !v else v), .sh) r S'
      | _ => .bad 65) else .bad 65
    | none => .bad 66
  | _ => ofO (opRun S (if ng then .ne else .eq) [x, y]) r S
/-- handed on -/
def escB (cm : Bool) (x : Out (PV × Md)) : Out PV := x.bind fun x r S => esc cm x.1 x.2 r S
/-- what is walked is handed on (hd), or read while it is walked -/
def itE (cm hd : Bool) (own : List Nat) (x : PV × Md) (r : Ev) (S : Store) : Out PV := if hd then esc cm x.1 x.2 r S else match x.2 with
  | .bo i => if own.contains i then .bad 84 else .ok x.1 r S
  | _ => .ok x.1 r S
/-- a caught error -/
def isEx : Sl → Bool
  | .ex _ _ => true
  | _ => false
def isOw : Sl → Bool
  | .ow _ => true
  | _ => false
mutual
def ev (cx : Cxt) (cm : Bool) : CE → Ev → Store → Out (PV × Md)
  | .k v, r, S => .ok (v, .sh) r S
  | .var i, r, S => match getS r i with
    | .sh v => .ok (v, .sh) r S
    | .ow v => .ok (v, .bo i) r S
    | _ => .bad (1000 + i)
  | .glb g, r, S => match cx.P.glob g with
    | some v => .ok (v, .sh) r S
    | none => .bad 7
  | .fnv f, r, S => .ok (.fn f, .sh) r S
  | .call f as, r, S => (evs cx cm as r S).bind fun vs r S => ofF (cx.call f vs S) r
  | .lcall f as, r, S => (rdB (evr cx cm as r S)).bind fun vs r S => if locBs 0 vs then (match cx.call f vs [] with
    | .ok v _ S' => if clean v && S'.isEmpty then .ok (v, .sh) r S else .bad 8
    | .exc c vs S' => if cleans vs && S'.isEmpty then .exc c vs r S else .bad 8
    | .bad w => .bad w) else .bad 8
  | .callv i as, r, S => match getS r i with
    | .sh (.fn f) => (evs cx cm as r S).bind fun vs r S => ofF (cx.call f vs S) r
    | _ => .bad 9
  | .meth m o as, r, S => (escB cm (ev cx cm o r S)).bind fun ov r S => match view S ov with
    | .obj c _ => match cx.P.mth c m with
      | some f => (evs cx cm as r S).bind fun vs r S => ofF (cx.call f (ov :: vs) S) r
      | none => .bad 60
    | _ => .bad 61
  | .lmeth m o as, r, S => (ev cx cm o r S).bind fun ov r S => (evr cx cm as r S).bind fun vs r S => match resA r (ov :: vs) with
    | some (ov :: vs) => match view S ov with
      | .obj c _ => match cx.P.mth c m with
        | some f => if locBs 0 (ov :: vs) then (match cx.call f (ov :: vs) [] with
          | .ok v _ S' => if clean v && S'.isEmpty then .ok (v, .sh) r S else .bad 62
          | .exc c vs S' => if cleans vs && S'.isEmpty then .exc c vs r S else .bad 62
          | .bad w => .bad w) else .bad 62
        | none => .bad 60
      | _ => .bad 61
    | _ => .bad 82
  | .mk c as, r, S => (evs cx cm as r S).bind fun vs r S => match cx.P.init c with
    | none => .bad 63
    | some f => match cx.call f (.loc S.length :: vs) (S ++ [.ins c []]) with
        | .ok .non false S' => if cx.P.mutc c then .ok (.loc S.length, .sh) r S' else outL S.length r S'
        | .ok _ _ _ => .bad 86
        | x => ofF x r
  | .op o es, r, S => (rdB (evr cx cm es r S)).bind fun vs r S => match o, vs with
    | .len, [v] => match view S v with
      | .obj c _ => match cx.P.lenm c with
        | some f => ofF (cx.call f [v] S) r
        | none => .bad 64
      | _ => ofO (opRun S o vs) r S
    | _, _ => ofO (opRun S o vs) r S
  | .eqm ng es, r, S => (evs cx cm es r S).bind fun vs r S => match vs with
    | [x, y] => eqmO cx ng x y r S
    | _ => .bad 68
  | .chain o1 o2 a b c, r, S => (ev cx cm a r S).bind fun x r S => (ev cx cm b r S).bind fun y r S => match x.1, y.1 with
    | .int i, .int j => match cmpO o1 i j with
      | some true => (ev cx cm c r S).bind fun z r S => match z.1 with
        | .int k => match cmpO o2 j k with
          | some t => .ok (.bl t, .sh) r S
          | none => .bad 67
        | _ => .bad 67
      | some false => .ok (.bl false, .sh) r S
      | none => .bad 67
    | _, _ => .bad 67
  | .andE a b, r, S => (ev cx cm a r S).bind fun x r S => (truthO S x.1 r).bind fun t r S => if t then ev cx cm b r S else .ok x r S
  | .orE a b, r, S => (ev cx cm a r S).bind fun x r S => (truthO S x.1 r).bind fun t r S => if t then .ok x r S else ev cx cm b r S
  | .notE a, r, S => (ev cx cm a r S).bind fun x r S => (truthO S x.1 r).bind fun t r S => .ok (.bl (!t), .sh) r S
  | .ife c a b, r, S => (ev cx cm c r S).bind fun x r S => (truthO S x.1 r).bind fun t r S => if t then ev cx cm a r S else ev cx cm b r S
  | .tupE es, r, S => (evs cx cm es r S).bind fun vs r S => .ok (.tup vs, .sh) r S
  | .lstE es, r, S => (evs cx cm es r S).bind fun vs r S => .ok (.lst vs, .fr) r S
  | .dctE es, r, S => (evs cx cm es r S).bind fun vs r S => match pairsOf vs with
    | some kvs => if keysOk kvs then .ok (.dct (merge kvs), .fr) r S else .bad 68
    | none => .bad 68
  | .comp own frz tgt it cond elt, r, S =>
    if cm && !frz.isEmpty then .bad 69 else
    (evIt cx cm false own it (lowAll r frz) S).bind fun xs r S =>
      if own.any (fun i => isOw (getS r i)) then .bad 85 else (compLoop (fun x S => (asgT tgt x (wipeS r own) S).bind fun _ r1 S => match cond with
        | none => (escB true (ev cx true elt r1 S)).bind fun y _ S => .ok (some y) [] S
        | some c => (ev cx true c r1 S).bind fun t _ S => (truthO S t.1 []).bind fun b _ S =>
          if b then (escB true (ev cx true elt r1 S)).bind fun y _ S => .ok (some y) [] S else .ok none [] S) xs S []).bind fun ys _ S => .ok (.lst ys, .fr) r S
  | .exf i f, r, S => match getS r i with
    | .ex c vs => match ((cx.P.xf c).zip vs).lookup f with
      | some v => .ok (v, .sh) r S
      | none => .bad 70
    | _ => .bad 71
  | .srtk f e, r, S => (escB cm (ev cx cm e r S)).bind fun v r S => match seqOf (view S v) with
    | some xs => (compLoop (fun x S => match cx.call f [x] S with
        | .ok k _ S => .ok (some k) [] S
        | _ => .bad 72) xs S []).bind fun ks _ S => if srtOk ks then .ok (.lst (((xs.zip ks).mergeSort fun a b => pyLe a.2 b.2).map (·.1)), .fr) r S else .bad 73
    | none => .bad 74
  | .srtm m o e, r, S => (escB cm (ev cx cm o r S)).bind fun ov r S => (escB cm (ev cx cm e r S)).bind fun v r S => match view S ov, seqOf (view S v) with
    | .obj c _, some xs => match cx.P.mth c m with
      | some f => (compLoop (fun x S => match cx.call f [ov, x] S with
        | .ok k _ S => .ok (some k) [] S
        | _ => .bad 72) xs S []).bind fun ks _ S => if srtOk ks then .ok (.lst (((xs.zip ks).mergeSort fun a b => pyLe a.2 b.2).map (·.1)), .fr) r S else .bad 73
      | none => .bad 74
    | _, _ => .bad 74
  | .nloc e, r, S => (ev cx cm e r S).bind fun x r S => match x.2 with
    | .fr => match x.1 with
      | .lst xs => .ok (.loc S.length, .sh) r (S ++ [.lst xs])
      | .dct xs => .ok (.loc S.length, .sh) r (S ++ [.dct xs])
      | _ => .bad 80
    | _ => .bad 81
def evs (cx : Cxt) (cm : Bool) : List CE → Ev → Store → Out (List PV)
  | [], r, S => .ok [] r S
  | e :: es, r, S => (ev cx cm e r S).bind fun x r S => (esc cm x.1 x.2 r S).bind fun v r S => (evs cx cm es r S).bind fun vs r S => .ok (v :: vs) r S
/-- read -/
def evr (cx : Cxt) (cm : Bool) : List CE → Ev → Store → Out (List (PV × Md))
  | [], r, S => .ok [] r S
  | e :: es, r, S => (ev cx cm e r S).bind fun x r S => (evr cx cm es r S).bind fun xs r S => .ok (x :: xs) r S
/-- what is walked; where hd, it is shared from then on -/
def evIt (cx : Cxt) (cm hd : Bool) (own : List Nat) : CI → Ev → Store → Out (List PV)
  | .ex e, r, S => (ev cx cm e r S).bind fun x r S => (itE cm hd own x r S).bind fun v r S => match v with
    | .dct kvs => if dctOn then .ok (kvs.map (·.1)) r S else .bad 75
    | v => match seqOf v with
      | some xs => .ok xs r S
      | none => .bad 75
  | .rng es, r, S => (rdB (evr cx cm es r S)).bind fun vs r S => match rngOf vs with
    | some xs => .ok xs r S
    | none => .bad 76
  | .enm e, r, S => (ev cx cm e r S).bind fun x r S => (itE cm hd own x r S).bind fun v r S => match v with
    | .lst xs => .ok (enumV xs) r S
    | .tup xs => .ok (enumV xs) r S
    | _ => .bad 77
  | .items e, r, S => (ev cx cm e r S).bind fun x r S => (itE cm hd own x r S).bind fun v r S => match v with
    | .dct kvs => if !dctOn then .bad 78 else .ok (kvs.map fun p => .tup [p.1, p.2]) r S
    | _ => .bad 78
  | .enmI e, r, S => (ev cx cm e r S).bind fun x r S => (itE cm hd own x r S).bind fun v r S => match v with
    | .dct kvs => if !dctOn then .bad 78 else .ok (enumV (kvs.map fun p => .tup [p.1, p.2])) r S
    | _ => .bad 79
end

/-! ### statements -/
/-- a value stored under a name -/
def putS (v : PV) (m : Md) (i : Nat) (r : Ev) : Ev := match m with
  | .fr => setS r i (.ow v)
  | .sh => setS r i (.sh v)
  | .bo j => setS (lowS r j) i (.sh v)
/-- a new value for what a name alone holds, or for a place -/
def updS (i : Nat) (r : Ev) (S : Store) (f : PV → Option PV) : Out Unit := match getS r i with
  | .ow v => match f v with
    | some w => .ok () (setS r i (.ow w)) S
    | none => .bad 100
  | .sh (.loc n) => updL n r S f
  | _ => .bad 101
where updL (n : Nat) (r : Ev) (S : Store) (f : PV → Option PV) : Out Unit := match S[n]? with
  | some (.lst xs) => match f (.lst xs) with
    | some (.lst ys) => .ok () r (S.set n (.lst ys))
    | _ => .bad 102
  | some (.dct xs) => match f (.dct xs) with
    | some (.dct ys) => .ok () r (S.set n (.dct ys))
    | _ => .bad 103
  | some (.ins c xs) => match f (.obj c xs) with
    | some (.obj _ ys) => .ok () r (S.set n (.ins c ys))
    | _ => .bad 104
  | none => .bad 105
def ixOf (n : Nat) (i : Int) : Option Nat := if 0 ≤ i then (if i < n then some i.toNat else none) else if -(n : Int) ≤ i then some (i + n).toNat else none
def setV (ix v : PV) : PV → Option PV
  | .lst xs => match ix with
    | .int i => match ixOf xs.length i with
      | some k => some (.lst (xs.set k v))
      | none => none
    | _ => none
  | .dct kvs => if dctOn && isKey ix && keysOk ((ix, .non) :: kvs) && kvs.length < big then some (.dct (kput kvs ix v)) else none
  | _ => none
def setFV (P : Prog) (f : Nat) (v : PV) : PV → Option PV
  | .obj c fs => if (P.cf c).contains f && fs.length < 1000 then some (.obj c (fput fs f v)) else none
  | _ => none
/-- a value stands under the name -/
def hasV (i : Nat) (r : Ev) : Bool := match getS r i with
  | .ow _ => true
  | .sh _ => true
  | _ => false
/-- a list stands under the name -/
def lsAt (i : Nat) (r : Ev) (S : Store) : Bool := match getS r i with
  | .ow (.lst _) => true
  | .sh (.loc n) => match S[n]? with
    | some (.lst _) => true
    | _ => false
  | _ => false
def appV (v : PV) : PV → Option PV
  | .lst xs => if xs.length < big then some (.lst (xs ++ [v])) else none
  | _ => none
def extV (ys : List PV) : PV → Option PV
  | .lst xs => if xs.length + ys.length ≤ big then some (.lst (xs ++ ys)) else none
  | _ => none
def insV (k : Int) (v : PV) : PV → Option PV
  | .lst xs => if xs.length < big && 0 ≤ k && k ≤ xs.length then some (.lst (xs.take k.toNat ++ [v] ++ xs.drop k.toNat)) else none
  | _ => none
def popV : PV → Option (PV × PV)
  | .lst xs => match xs.reverse with
    | x :: r => some (x, .lst r.reverse)
    | [] => none
  | _ => none
def popK (k : PV) : PV → Option (PV × PV)
  | .dct kvs => if isKey k && keysOk ((k, .non) :: kvs) then match kget kvs k with
    | some v => some (v, .dct (kvs.filter fun p => !pyEq p.1 k))
    | none => none
    else none
  | _ => none
/-- in an object's place: o is a place of the store -/
def updO (ov : PV) (r : Ev) (S : Store) (f : PV → Option PV) : Out Unit := match ov with
  | .loc n => updS.updL n r S f
  | _ => .bad 106
/-- what was read of names is settled: shared from then on -/
def settle : List (PV × Md) → Ev → Option (List (PV × Bool) × Ev)
  | [], r => some ([], r)
  | (v, m) :: xs, r => match m with
    | .sh => (settle xs r).map fun p => ((v, false) :: p.1, p.2)
    | .fr => (settle xs r).map fun p => ((v, true) :: p.1, p.2)
    | .bo j => match getS r j with
      | .ow v => (settle xs (lowS r j)).map fun p => ((v, false) :: p.1, p.2)
      | .sh v => (settle xs r).map fun p => ((v, false) :: p.1, p.2)
      | _ => none
def putMany : List Nat → List (PV × Bool) → Ev → Ev
  | i :: is, x :: xs, r => putMany is xs (setS r i (if x.2 then .ow x.1 else .sh x.1))
  | _, _, r => r
def catches (P : Prog) (c : Nat) : List (List Nat × Option Nat × List CS) → Option (Option Nat × List CS)
  | [] => none
  | (l, n, b) :: r => if l.any (P.xsub c) then some (n, b) else catches P c r
def killS (l : List Nat) (r : Ev) : Ev := wipeS r l

def popD (x : Nat) (w : Bool) (i : Nat) (r : Ev) (S : Store) (f : PV → Option (PV × PV)) : Out Fl := match getS r i with
  | .ow v => match f v with
    | some (y, v') => if w then (match y with
        | .lst ys => .ok .nx (setS (setS r i (.ow v')) x (.sh (.tup ys))) S
        | .loc n => match S[n]? with
          | some (.lst ys) => .ok .nx (setS (setS r i (.ow v')) x (.sh (.tup ys))) S
          | _ => .bad 130
        | _ => .bad 131)
      else .ok .nx (setS (setS r i (.ow v')) x (.sh y)) S
    | none => .bad 132
  | _ => .bad 133
def evp (cx : Cxt) : List CE → Ev → Store → Out (List (PV × Md))
  | [], r, S => .ok [] r S
  | e :: es, r, S => (ev cx false e r S).bind fun x r S => (evp cx es r S).bind fun xs r S => .ok (x :: xs) r S
def setMany (cx : Cxt) : List (CE × CE) → List PV → Ev → Store → Out Fl
  | [], [], r, S => .ok .nx r S
  | (o, ix) :: ts, v :: vs, r, S => (escB false (ev cx false ix r S)).bind fun k r S => match o with
    | .var i => (updS i r S (setV k v)).bind fun _ r S => setMany cx ts vs r S
    | o => (ev cx false o r S).bind fun ov r S => (updO ov.1 r S (setV k v)).bind fun _ r S => setMany cx ts vs r S
  | _, _, _, _ => .bad 134
mutual
def exec (cx : Cxt) : CS → Ev → Store → Out Fl
  | .asg i e, r, S => (ev cx false e r S).bind fun x r S => .ok .nx (putS x.1 x.2 i r) S
  | .par ts es, r, S => (evp cx es r S).bind fun xs r S => match settle xs r with
    | some (ys, r) => if ts.length = ys.length then .ok .nx (putMany ts ys r) S else .bad 110
    | none => .bad 110
  | .unp t e, r, S => (escB false (ev cx false e r S)).bind fun v r S => (asgT t v r S).bind fun _ r S => .ok .nx r S
  | .parF o fs e, r, S => (escB false (ev cx false e r S)).bind fun v r S => (ev cx false o r S).bind fun ov r S => match view S v with
    | .tup xs => if xs.length = fs.length then (updO ov.1 r S fun w => (fs.zip xs).foldl (fun w p => w.bind (setFV cx.P p.1 p.2)) (some w)).bind fun _ r S => .ok .nx r S else .bad 111
    | _ => .bad 112
  | .setI o ix e, r, S => (escB false (ev cx false e r S)).bind fun v r S => (ev cx false o r S).bind fun ov r S => (ev cx false ix r S).bind fun k r S => (updO ov.1 r S (setV k.1 v)).bind fun _ r S => .ok .nx r S
  | .setIs i ix e, r, S => if !hasV i r then .bad 151 else (escB false (ev cx false e r S)).bind fun v r S => (escB false (ev cx false ix r S)).bind fun k r S => (updS i r S (setV k v)).bind fun _ r S => .ok .nx r S
  | .setF o f e, r, S => (escB false (ev cx false e r S)).bind fun v r S => (ev cx false o r S).bind fun ov r S => (updO ov.1 r S (setFV cx.P f v)).bind fun _ r S => .ok .nx r S
  | .setFs i f e, r, S => (escB false (ev cx false e r S)).bind fun v r S => (updS i r S (setFV cx.P f v)).bind fun _ r S => .ok .nx r S
  | .parI ts es, r, S => (evs cx false es r S).bind fun vs r S => setMany cx ts vs r S
  | .exp e, r, S => (ev cx false e r S).bind fun _ r S => .ok .nx r S
  | .app i e, r, S => if !lsAt i r S then .bad 150 else (escB false (ev cx false e r S)).bind fun v r S => (updS i r S (appV v)).bind fun _ r S => .ok .nx r S
  | .appA o e, r, S => (ev cx false o r S).bind fun ov r S => (escB false (ev cx false e r S)).bind fun v r S => (updO ov.1 r S (appV v)).bind fun _ r S => .ok .nx r S
  | .ext i e, r, S => if !lsAt i r S then .bad 150 else (escB false (ev cx false e r S)).bind fun v r S => match seqOf (view S v) with
    | some ys => (updS i r S (extV ys)).bind fun _ r S => .ok .nx r S
    | none => .bad 113
  | .ins i a b, r, S => if !lsAt i r S then .bad 150 else (ev cx false a r S).bind fun k r S => (escB false (ev cx false b r S)).bind fun v r S => match k.1 with
    | .int k => (updS i r S (insV k v)).bind fun _ r S => .ok .nx r S
    | _ => .bad 114
  | .pop x w i a, r, S => match a with
    | none => popD x w i r S popV
    | some e => (ev cx false e r S).bind fun k r S => popD x w i r S (popK k.1)
  | .aug i ng e, r, S => (ev cx false e r S).bind fun x r S => match getS r i with
    | .sh old => match opV (if ng then .sub else .add) [old, x.1] with
      | .sh z => .ok .nx (setS r i (.sh z)) S
      | _ => .bad 140
    | _ => .bad 141
  | .augF o f ng e, r, S => (ev cx false o r S).bind fun ov r S => (ev cx false e r S).bind fun x r S => match opRun S (.fld f) [ov.1] with
    | .sh old => match opV (if ng then .sub else .add) [old, x.1] with
      | .sh z => (updO ov.1 r S (setFV cx.P f z)).bind fun _ r S => .ok .nx r S
      | _ => .bad 142
    | _ => .bad 143
  | .augS i ng ix e, r, S => if !hasV i r then .bad 151 else (escB false (ev cx false ix r S)).bind fun k r S => (escB false (ev cx false e r S)).bind fun v r S => match getS r i with
    | .ow w => match opV .idx [w, k] with
      | .sh old => match opV (if ng then .sub else .add) [old, v] with
        | .sh z => (updS i r S (setV k z)).bind fun _ r S => .ok .nx r S
        | _ => .bad 115
      | _ => .bad 116
    | _ => .bad 117
  | .ret e, r, S => (ev cx false e r S).bind fun x r S => .ok (.rt x.1 (match x.2 with | .sh => false | .fr => true | .bo _ => true)) r S
  | .retN, r, S => .ok (.rt .non false) r S
  | .ife c a b, r, S => (ev cx false c r S).bind fun x r S => (truthO S x.1 r).bind fun t r S => if t then execs cx a r S else execs cx b r S
  | .for_ kill tgt it body, r, S => (evIt cx false true [] it r S).bind fun xs r S =>
      forLoop (fun x r S => (asgT tgt x (killS kill r) S).bind fun _ r S => execs cx body r S) (killS kill) xs r S
  | .whl kill c body, r, S => whlLoop (fun r S => (ev cx false c (killS kill r) S).bind fun x r S => truthO S x.1 r) (fun r S => execs cx body r S) (killS kill) whlMax r S
  | .rse c es, r, S => (evs cx false es r S).bind fun vs r S => if vs.length = (cx.P.xf c).length && 0 < vs.length && vs.length ≤ 100 then .exc c vs r S else .bad 160
  | .rers, _, _ => .bad 118
  | .try_ body hs, r, S => match execs cx body r S with
    | .exc c vs r S => hand cx hs c vs r S
    | x => x
  | .pass, r, S => .ok .nx r S
def hand (cx : Cxt) : List (List Nat × Option Nat × List CS) → Nat → List PV → Ev → Store → Out Fl
  | [], c, vs, r, S => .exc c vs r S
  | (l, n, b) :: hs, c, vs, r, S => if l.any (cx.P.xsub c) then
      match execs cx b (match n with | some i => setS r i (.ex c vs) | none => r) S with
      | .ok .nx r S => if (match n with | some i => setS r i .no | none => r).any isEx then .bad 162 else .ok .nx (match n with | some i => setS r i .no | none => r) S
      | .ok (.rt v fr) r S => .ok (.rt v fr) r S
      | .exc _ _ _ _ => .bad 161
      | .bad w => .bad w
    else hand cx hs c vs r S
def execs (cx : Cxt) : List CS → Ev → Store → Out Fl
  | [], r, S => .ok .nx r S
  | s :: ss, r, S => (exec cx s r S).bind fun fl r S => match fl with
    | .nx => execs cx ss r S
    | .rt v fr => .ok (.rt v fr) r S
end

/-! ### calls -/
def env0 (d : FnDef) (vs : List PV) : Ev := (match d.ini with | some c => [Sl.ow (.obj c [])] | none => []) ++ vs.map .sh ++ List.replicate (d.ns - d.np) .no
def fin (d : FnDef) (n : Nat) (x : Out Fl) : FOut := match x with
  | .bad w => .bad w
  | .exc c vs _ S => .exc c vs (trunc n vs S)
  | .ok fl r S => match d.ini with
    | some _ => match fl with
      | .rt _ _ => .bad 125
      | .nx => match getS r 0 with
        | .ow v => .ok v true (trunc n [v] S)
        | _ => .bad 120
    | none => match fl with
      | .nx => .ok .non false (trunc n [] S)
      | .rt v fr => .ok v fr (trunc n [v] S)
def run0 (P : Prog) : Nat → Nat → List PV → Store → FOut
  | 0, _, _, _ => .bad 121
  | k + 1, f, vs, S => match P.fns f with
    | none => .bad 122
    | some d => if (match d.ini with | some _ => vs.length + 1 | none => vs.length) = d.np then fin d S.length (execs ⟨P, run0 P k⟩ d.body (env0 d vs) S) else .bad 123
@[irreducible] def run (P : Prog) (k f : Nat) (vs : List PV) (S : Store) : FOut := run0 P k f vs S
theorem run_is (P : Prog) (k f : Nat) (vs : List PV) (S : Store) : run P k f vs S = run0 P k f vs S := by delta run; rfl
theorem run_zero (P : Prog) (f : Nat) (vs : List PV) (S : Store) : run P 0 f vs S = .bad 121 := by rw [run_is]; rfl
theorem run_succ (P : Prog) (k f : Nat) (vs : List PV) (S : Store) : run P (k + 1) f vs S = match P.fns f with
    | none => .bad 122
    | some d => if (match d.ini with | some _ => vs.length + 1 | none => vs.length) = d.np then fin d S.length (execs ⟨P, run P k⟩ d.body (env0 d vs) S) else .bad 123 := by
  have e : run P k = run0 P k := by funext f vs S; exact run_is P k f vs S
  rw [run_is, e]
  conv => lhs; unfold run0
end Ci
namespace Ci
open PySem L2

/-- the text's facts: where its defs, classes and errors stand, its names -/
structure Gm where
  prog : Program
  w : World
  K : PySem.W.Frag
  mg : Str → Option Value
  base : Heap
  P : Prog
  fa : Nat → Addr
  Ca : Nat → Addr
  Xa : Nat → Addr
  nms : List Str

def Gm.nm (G : Gm) (f : Nat) : Str := G.nms.getD f Str.empty

theorem Gm.nm_inj (G : Gm) (nd : G.nms.Nodup) {f g : Nat} (hf : f < G.nms.length) (hg : g < G.nms.length) (q : G.nm f = G.nm g) : f = g := by
  unfold Gm.nm at q
  rw [List.getD_eq_getElem?_getD, List.getD_eq_getElem?_getD, List.getElem?_eq_getElem hf, List.getElem?_eq_getElem hg] at q
  have q' : G.nms[f] = G.nms[g] := by simpa using q
  exact L2.nd_ix nd (x := G.nms[f]) (List.getElem?_eq_getElem hf) (by rw [q']; exact List.getElem?_eq_getElem hg)
/-- a dict's object, by its entries -/
def dHO (a : Addr) (es : List DictEntry) : HO := .ext fun h => ∃ (o : Obj) (ep : Nat), h.get? a = some o ∧ o.ExactDict ∧ o.data = .dict es.toArray ep

def keyH (w : World) : PV → Int := fun _ => 0

/-- a class of the text, and fields that it may have -/
def okO (G : Gm) (c : Nat) (fs : List (Nat × PV)) : Prop := (G.P.init c).isSome = true ∧ ∀ p ∈ fs, p.1 ∈ G.P.cf c
mutual
inductive Rep (G : Gm) (Z : Hp) (L : List Addr) : PV → V → Prop
  | non : Rep G Z L .non .non
  | bl (b : Bool) : Rep G Z L (.bl b) (.bl b)
  | int (i : Int) : Rep G Z L (.int i) (.int i)
  | str (x : Str) : PyData.strOk x = true → x.length ≤ sizeLine → Rep G Z L (.str x) (.str x)
  | tup {a : Addr} {vs : List V} {xs : List PV} : SqT G.K Z a vs → Reps G Z L xs vs → Rep G Z L (.tup xs) (.ref a)
  | lst {a : Addr} {vs : List V} {xs : List PV} : SqL G.K Z a vs → Reps G Z L xs vs → Rep G Z L (.lst xs) (.ref a)
  | dct {a : Addr} {es : List DictEntry} {kvs : List (PV × PV)} : Z a = some (dHO a es) → RepE G Z L kvs es → Rep G Z L (.dct kvs) (.ref a)
  | loc {n : Nat} {a : Addr} : L[n]? = some a → Rep G Z L (.loc n) (.ref a)
  | obj {a dx : Addr} {c : Nat} {vfs : List (Str × V)} {fs : List (Nat × PV)} : Z a = some (.ins (G.Ca c) dx vfs) → okO G c fs → RepF G Z L fs vfs → Rep G Z L (.obj c fs) (.ref a)
  | fn {f : Nat} : G.P.fv f = true → Rep G Z L (.fn f) (.ref (G.fa f))
inductive Reps (G : Gm) (Z : Hp) (L : List Addr) : List PV → List V → Prop
  | nil : Reps G Z L [] []
  | cons {x : PV} {xs : List PV} {v : V} {vs : List V} : Rep G Z L x v → Reps G Z L xs vs → Reps G Z L (x :: xs) (v :: vs)
inductive RepF (G : Gm) (Z : Hp) (L : List Addr) : List (Nat × PV) → List (Str × V) → Prop
  | nil : RepF G Z L [] []
  | cons {f : Nat} {x : PV} {fs : List (Nat × PV)} {v : V} {vfs : List (Str × V)} : f < G.nms.length → Rep G Z L x v → RepF G Z L fs vfs → RepF G Z L ((f, x) :: fs) ((G.nm f, v) :: vfs)
inductive RepE (G : Gm) (Z : Hp) (L : List Addr) : List (PV × PV) → List DictEntry → Prop
  | nil : RepE G Z L [] []
  | cons {k x : PV} {kvs : List (PV × PV)} {kv xv : V} {e : DictEntry} {es : List DictEntry} : Rep G Z L k kv → RelV kv e.key → Rep G Z L x xv → RelV xv e.val → e.hash = keyH G.w k → RepE G Z L kvs es → RepE G Z L ((k, x) :: kvs) (e :: es)
end

theorem SqT.up {K : PySem.W.Frag} {Z Z' : Hp} (s : Same Z Z') {a : Addr} {xs : List V} (h : SqT K Z a xs) : SqT K Z' a xs := by
  rcases h with (h | ⟨o, h⟩) | h
  · exact .inl (.inl (s _ _ h))
  · exact .inl (.inr ⟨o, s _ _ h⟩)
  · exact .inr h

theorem pre_get {α : Type} {L L' : List α} (p : L <+: L') {n : Nat} {a : α} (h : L[n]? = some a) : L'[n]? = some a := by
  obtain ⟨t, rfl⟩ := p
  have hl : n < L.length := (List.getElem?_eq_some_iff.mp h).1
  rw [List.getElem?_append_left hl]; exact h

section
variable {G : Gm} {Z Z' : Hp} {L L' : List Addr}
mutual
theorem Rep.up (s : Same Z Z') (p : L <+: L') : ∀ {x : PV} {v : V}, Rep G Z L x v → Rep G Z' L' x v
  | _, _, .non => .non
  | _, _, .bl b => .bl b
  | _, _, .int i => .int i
  | _, _, .str x h1 h2 => .str x h1 h2
  | _, _, .tup h r => .tup (SqT.up s h) (Reps.up s p r)
  | _, _, .lst h r => .lst (s.seq h) (Reps.up s p r)
  | _, _, .dct h r => .dct (s _ _ h) (RepE.up s p r)
  | _, _, .loc h => .loc (pre_get p h)
  | _, _, .obj h o r => .obj (s _ _ h) o (RepF.up s p r)
  | _, _, .fn h => .fn h
theorem Reps.up (s : Same Z Z') (p : L <+: L') : ∀ {xs : List PV} {vs : List V}, Reps G Z L xs vs → Reps G Z' L' xs vs
  | _, _, .nil => .nil
  | _, _, .cons r t => .cons (Rep.up s p r) (Reps.up s p t)
theorem RepF.up (s : Same Z Z') (p : L <+: L') : ∀ {xs : List (Nat × PV)} {vs : List (Str × V)}, RepF G Z L xs vs → RepF G Z' L' xs vs
  | _, _, .nil => .nil
  | _, _, .cons h r t => .cons h (Rep.up s p r) (RepF.up s p t)
theorem RepE.up (s : Same Z Z') (p : L <+: L') : ∀ {xs : List (PV × PV)} {vs : List DictEntry}, RepE G Z L xs vs → RepE G Z' L' xs vs
  | _, _, .nil => .nil
  | _, _, .cons r1 h1 r2 h2 hh t => .cons (Rep.up s p r1) h1 (Rep.up s p r2) h2 hh (RepE.up s p t)
end
theorem Reps.length : ∀ {xs : List PV} {vs : List V}, Reps G Z L xs vs → xs.length = vs.length
  | _, _, .nil => rfl
  | _, _, .cons _ t => by simp [Reps.length t]
theorem Reps.get : ∀ {xs : List PV} {vs : List V} {i : Nat} {x : PV}, Reps G Z L xs vs → xs[i]? = some x → ∃ v, vs[i]? = some v ∧ Rep G Z L x v
  | _, _, _, _, .nil, h => by simp at h
  | _, _, 0, _, .cons r t, h => by simp at h; subst h; exact ⟨_, by simp, r⟩
  | _, _, i + 1, _, .cons r t, h => by
    obtain ⟨v, h1, h2⟩ := Reps.get (i := i) t (by simpa using h)
    exact ⟨v, by simpa using h1, h2⟩
theorem Reps.getV : ∀ {xs : List PV} {vs : List V} {i : Nat} {v : V}, Reps G Z L xs vs → vs[i]? = some v → ∃ x, xs[i]? = some x ∧ Rep G Z L x v
  | _, _, _, _, .nil, h => by simp at h
  | _, _, 0, _, .cons r t, h => by simp at h; subst h; exact ⟨_, by simp, r⟩
  | _, _, i + 1, _, .cons r t, h => by
    obtain ⟨v, h1, h2⟩ := Reps.getV (i := i) t (by simpa using h)
    exact ⟨v, by simpa using h1, h2⟩
theorem Reps.append : ∀ {xs ys : List PV} {vs us : List V}, Reps G Z L xs vs → Reps G Z L ys us → Reps G Z L (xs ++ ys) (vs ++ us)
  | _, _, _, _, .nil, h => h
  | _, _, _, _, .cons r t, h => .cons r (Reps.append t h)
theorem Reps.one {x : PV} {v : V} (h : Rep G Z L x v) : Reps G Z L [x] [v] := .cons h .nil
theorem Reps.set {x : PV} {v : V} (h : Rep G Z L x v) : ∀ {xs : List PV} {vs : List V} (i : Nat), Reps G Z L xs vs → Reps G Z L (xs.set i x) (vs.set i v)
  | _, _, _, .nil => .nil
  | _, _, 0, .cons _ t => .cons h t
  | _, _, i + 1, .cons r t => .cons r (Reps.set h i t)
theorem Reps.drop : ∀ {xs : List PV} {vs : List V} (n : Nat), Reps G Z L xs vs → Reps G Z L (xs.drop n) (vs.drop n)
  | _, _, 0, h => h
  | _, _, _ + 1, .nil => .nil
  | _, _, n + 1, .cons _ t => Reps.drop n t
theorem Reps.take : ∀ {xs : List PV} {vs : List V} (n : Nat), Reps G Z L xs vs → Reps G Z L (xs.take n) (vs.take n)
  | _, _, 0, _ => .nil
  | _, _, _ + 1, .nil => .nil
  | _, _, n + 1, .cons r t => .cons r (Reps.take n t)
theorem Reps.reverse : ∀ {xs : List PV} {vs : List V}, Reps G Z L xs vs → Reps G Z L xs.reverse vs.reverse
  | _, _, .nil => .nil
  | _, _, .cons r t => by
    rw [List.reverse_cons, List.reverse_cons]
    exact (Reps.reverse t).append (.one r)
theorem RepF.get {G : Gm} {Z : Hp} {L : List Addr} (nd : G.nms.Nodup) : ∀ {fs : List (Nat × PV)} {vfs : List (Str × V)} {f : Nat} {x : PV}, RepF G Z L fs vfs → f < G.nms.length → fs.lookup f = some x → ∃ v, vfs.lookup (G.nm f) = some v ∧ Rep G Z L x v
  | _, _, _, _, .nil, _, h => by simp at h
  | _, _, f, x, .cons (f := g) hg r t, hf, h => by
    rw [List.lookup_cons] at h
    by_cases e : f = g
    · subst e
      simp at h; subst h
      exact ⟨_, by simp, r⟩
    · have hb : (f == g) = false := beq_eq_false_iff_ne.mpr e
      rw [hb] at h
      obtain ⟨v, h1, h2⟩ := RepF.get nd t hf h
      refine ⟨v, ?_, h2⟩
      rw [List.lookup_cons]
      have hn : (G.nm f == G.nm g) = false := by
        exact beq_eq_false_iff_ne.mpr fun q => e (G.nm_inj nd hf hg q)
      rw [hn]; exact h1
theorem RepF.none {G : Gm} {Z : Hp} {L : List Addr} {m : Str} : ∀ {fs : List (Nat × PV)} {vfs : List (Str × V)}, RepF G Z L fs vfs → (∀ f, f ∈ fs.map (·.1) → G.nm f ≠ m) → vfs.lookup m = none
  | _, _, .nil, _ => rfl
  | _, _, .cons (f := g) hg r t, h => by
    rw [List.lookup_cons]
    have hn : (m == G.nm g) = false := beq_eq_false_iff_ne.mpr fun q => h g (by simp) q.symm
    rw [hn]
    exact RepF.none t fun f hf => h f (by simp at hf ⊢; exact .inr hf)
theorem RepF.put {G : Gm} {Z : Hp} {L : List Addr} (nd : G.nms.Nodup) {f : Nat} {x : PV} {v : V} (hf : f < G.nms.length) (r : Rep G Z L x v) : ∀ {fs : List (Nat × PV)} {vfs : List (Str × V)}, RepF G Z L fs vfs → RepF G Z L (fput fs f x) (putF (G.nm f) v vfs)
  | _, _, .nil => .cons hf r .nil
  | _, _, .cons (f := g) (fs := fs) (vfs := vfs) (x := y) (v := u) hg q t => by
    unfold fput putF
    by_cases e : g = f
    · subst e
      rw [if_pos rfl, if_pos rfl]
      exact .cons hg r t
    · have hn : ¬ G.nm g = G.nm f := fun q => e (G.nm_inj nd hg hf q)
      rw [if_neg e, if_neg hn]
      exact .cons hg q (RepF.put nd hf r t)
end

/-! ### what stands at an address that may change -/
def OwnAt (G : Gm) (Z : Hp) (L : List Addr) (H : Hp) (a : Addr) : PV → Prop
  | .lst xs => ∃ vs, H a = some (.lst vs) ∧ Reps G Z L xs vs
  | .dct kvs => ∃ es, H a = some (dHO a es) ∧ RepE G Z L kvs es
  | .obj c fs => ∃ dx vfs, H a = some (.ins (G.Ca c) dx vfs) ∧ okO G c fs ∧ RepF G Z L fs vfs
  | _ => False
def Cell.pv : Cell → PV
  | .lst xs => .lst xs
  | .dct kvs => .dct kvs
  | .ins c fs => .obj c fs
theorem OwnAt.up {G : Gm} {Z Z' H H' : Hp} {L L' : List Addr} {a : Addr} {x : PV} (s : Same Z Z') (p : L <+: L') (e : H' a = H a) (h : OwnAt G Z L H a x) : OwnAt G Z' L' H' a x := by
  cases x with
  | lst xs => obtain ⟨vs, h1, h2⟩ := h; exact ⟨vs, e.trans h1, h2.up s p⟩
  | dct xs => obtain ⟨vs, h1, h2⟩ := h; exact ⟨vs, e.trans h1, h2.up s p⟩
  | obj c fs => obtain ⟨dx, vs, h1, h0, h2⟩ := h; exact ⟨dx, vs, e.trans h1, h0, h2.up s p⟩
  | _ => exact h.elim
theorem OwnAt.has {G : Gm} {Z H : Hp} {L : List Addr} {a : Addr} {x : PV} (h : OwnAt G Z L H a x) : ∃ o, H a = some o := by
  cases x with
  | lst xs => obtain ⟨vs, h1, h2⟩ := h; exact ⟨_, h1⟩
  | dct xs => obtain ⟨vs, h1, h2⟩ := h; exact ⟨_, h1⟩
  | obj c fs => obtain ⟨dx, vs, h1, h2⟩ := h; exact ⟨_, h1⟩
  | _ => exact h.elim
/-- read at the top -/
def TopR (G : Gm) (Z : Hp) (L : List Addr) (H : Hp) (x : PV) (v : V) : Prop := Rep G Z L x v ∨ ∃ a : Addr, v = V.ref a ∧ OwnAt G Z L H a x

/-- the part of a state that may not change: what stood shared at the entry, what others hold, the places at the entry -/
structure Frm where
  Z0 : Hp
  Fm : Hp
  L0 : List Addr

structure HRel (G : Gm) (F : Frm) (Z : Hp) (L : List Addr) (S : Store) (H : Hp) : Prop where
  z0 : Same F.Z0 Z
  l0 : F.L0 <+: L
  zs : Same Z H
  fs : Same F.Fm H
  ln : L.length = S.length
  nd : L.Nodup
  ce : ∀ (n : Nat) (c : Cell), S[n]? = some c → ∃ a, L[n]? = some a ∧ OwnAt G Z L H a c.pv
  lz : ∀ a ∈ L, Z a = none ∧ F.Fm a = none
  zf : ∀ (a : Addr) (o : HO), Z a = some o → F.Fm a = none

/-- a caught exception: its object, class, dict -/
abbrev Exi := Option (Addr × Nat × Addr)
def RepX (G : Gm) (Z : Hp) (L : List Addr) (c : Nat) (vs : List PV) (d : Addr) : Prop :=
  ∃ vfs, Z d = some (.xd vfs) ∧ RepF G Z L ((G.P.xf c).zip vs) vfs ∧ (G.P.xf c).length = vs.length ∧ vs ≠ []
def SlR (G : Gm) (x : Exi) (F : Frm) (Z : Hp) (L : List Addr) (H : Hp) : Sl → Option V → Prop
  | .no, _ => True
  | .sh v, some u => Rep G Z L v u
  | .ow v, some u => ∃ a : Addr, u = V.ref a ∧ OwnAt G Z L H a v ∧ Z a = none ∧ F.Fm a = none ∧ a ∉ L
  | .ex c vs, some u => ∃ (a d : Addr), x = some (a, c, d) ∧ u = V.ref a ∧ RepX G Z L c vs d
  | _, none => False
structure BRel (G : Gm) (x : Exi) (F : Frm) (Z : Hp) (L : List Addr) (r : Ev) (S : Store) (σ : L2.St) (H : Hp) : Prop where
  h : HRel G F Z L S H
  len : r.length = σ.length
  sl : ∀ (i : Nat) (s : Sl), r[i]? = some s → SlR G x F Z L H s (σ[i]?.join)
  sp : ∀ (i j : Nat) (s t : Sl) (a : Addr), r[i]? = some s → isOw s = true → r[j]? = some t → isOw t = true → σ[i]? = some (some (V.ref a)) → σ[j]? = some (some (V.ref a)) → i = j

/-- how a value with its mode stands -/
def VR (G : Gm) (F : Frm) (Z : Hp) (L : List Addr) (r : Ev) (σ : L2.St) (H : Hp) (v : PV) (m : Md) (u : V) : Prop := match m with
  | .sh => Rep G Z L v u
  | .fr => ∃ a : Addr, u = V.ref a ∧ OwnAt G Z L H a v ∧ Z a = none ∧ F.Fm a = none ∧ a ∉ L ∧ ∀ (i : Nat) (s : Sl), r[i]? = some s → isOw s = true → σ[i]? ≠ some (some (V.ref a))
  | .bo i => σ[i]? = some (some u) ∧ r[i]? = some (.ow v)

/-! ### steps of the relation -/
theorem same_upd {Z : Hp} {a : Addr} {o : HO} (h : Z a = none) : Same Z (upd Z a o) := fun b u e => by
  rw [upd_ne (ne_of_none e h)]; exact e
theorem OwnAt.frz {G : Gm} {Z H : Hp} {L : List Addr} {a : Addr} {x : PV} (h : OwnAt G Z L H a x) (hz : Z a = none) : ∃ o, H a = some o ∧ Rep G (upd Z a o) L x (.ref a) := by
  cases x with
  | lst xs => obtain ⟨vs, h1, h2⟩ := h; exact ⟨_, h1, .lst (SqL.of upd_same) (h2.up (same_upd hz) (List.prefix_refl _))⟩
  | dct xs => obtain ⟨vs, h1, h2⟩ := h; exact ⟨_, h1, .dct upd_same (h2.up (same_upd hz) (List.prefix_refl _))⟩
  | obj c fs => obtain ⟨dx, vs, h1, h0, h2⟩ := h; exact ⟨_, h1, .obj upd_same h0 (h2.up (same_upd hz) (List.prefix_refl _))⟩
  | _ => exact h.elim
def Frm.at (F : Frm) (Z : Hp) (L : List Addr) : Frm := ⟨Z, F.Fm, L⟩
/-- others hold one more thing -/
def Frm.hold (F : Frm) (a : Addr) (o : HO) : Frm := ⟨F.Z0, upd F.Fm a o, F.L0⟩
section
variable {G : Gm} {x : Exi} {F : Frm} {Z Z1 : Hp} {L L1 : List Addr} {r : Ev} {S : Store} {σ : L2.St} {H : Hp}
theorem HRel.here (h : HRel G F Z L S H) : HRel G (F.at Z L) Z L S H := ⟨Same.refl _, List.prefix_refl _, h.zs, h.fs, h.ln, h.nd, h.ce, h.lz, h.zf⟩
theorem HRel.back (h : HRel G (F.at Z1 L1) Z L S H) (z : Same F.Z0 Z1) (l : F.L0 <+: L1) : HRel G F Z L S H := ⟨z.trans h.z0, l.trans h.l0, h.zs, h.fs, h.ln, h.nd, h.ce, h.lz, h.zf⟩
theorem BRel.here (h : BRel G x F Z L r S σ H) : BRel G x (F.at Z L) Z L r S σ H := ⟨h.h.here, h.len, h.sl, h.sp⟩
theorem BRel.back (h : BRel G x (F.at Z1 L1) Z L r S σ H) (z : Same F.Z0 Z1) (l : F.L0 <+: L1) : BRel G x F Z L r S σ H := ⟨h.h.back z l, h.len, h.sl, h.sp⟩
theorem SlR.mono {H' Z' : Hp} {F' : Frm} {L' : List Addr} {s : Sl} {u : Option V} (z : Same Z Z') (l : L <+: L') (k : ∀ a o, H a = some o → isOw s = true → u = some (.ref a) → H' a = some o ∧ Z' a = none ∧ F'.Fm a = none ∧ a ∉ L') (h : SlR G x F Z L H s u) : SlR G x F' Z' L' H' s u := by
  cases s with
  | no => trivial
  | sh v => cases u with
    | none => exact h.elim
    | some u => exact Rep.up z l h
  | ow v => cases u with
    | none => exact h.elim
    | some u =>
      obtain ⟨a, rfl, h1, h2, h3, h4⟩ := h
      obtain ⟨o, ho⟩ := h1.has
      obtain ⟨k1, k2, k3, k4⟩ := k a o ho rfl rfl
      exact ⟨a, rfl, h1.up z l (k1.trans ho.symm), k2, k3, k4⟩
  | ex c vs => cases u with
    | none => exact h.elim
    | some u =>
      obtain ⟨a, d, h1, h2, vfs, h3, h4, h5⟩ := h
      exact ⟨a, d, h1, h2, vfs, z _ _ h3, h4.up z l, h5⟩
/-- a new object, tracked by nobody -/
theorem HRel.alloc {p : Addr} {o : HO} (h : HRel G F Z L S H) (hp : H p = none) : HRel G F Z L S (upd H p o) := by
  have ss : Same H (upd H p o) := same_upd hp
  refine ⟨h.z0, h.l0, h.zs.trans ss, h.fs.trans ss, h.ln, h.nd, fun n c e => ?_, h.lz, h.zf⟩
  obtain ⟨a, h1, h2⟩ := h.ce n c e
  obtain ⟨o', ho⟩ := h2.has
  exact ⟨a, h1, h2.up (Same.refl _) (List.prefix_refl _) (upd_ne (ne_of_none ho hp))⟩
theorem BRel.alloc {p : Addr} {o : HO} (h : BRel G x F Z L r S σ H) (hp : H p = none) : BRel G x F Z L r S σ (upd H p o) := by
  refine ⟨h.h.alloc hp, h.len, fun i s e => (h.sl i s e).mono (Same.refl _) (List.prefix_refl _) fun a o' ho hs hu => ?_, h.sp⟩
  have hsl := h.sl i s e
  cases s with
  | ow v =>
    rw [hu] at hsl
    obtain ⟨b, e1, _, h2, h3, h4⟩ := hsl
    cases e1
    exact ⟨by rw [upd_ne (ne_of_none ho hp)]; exact ho, h2, h3, h4⟩
  | _ => cases hs
/-- what nobody holds is shared -/
theorem HRel.share {a : Addr} {o : HO} (h : HRel G F Z L S H) (ha : H a = some o) (hz : Z a = none) (hf : F.Fm a = none) (hl : a ∉ L) : HRel G F (upd Z a o) L S H := by
  refine ⟨h.z0.trans (same_upd hz), h.l0, fun b u e => ?_, h.fs, h.ln, h.nd, fun n c e => ?_, fun b hb => ⟨?_, (h.lz b hb).2⟩, fun b u e => ?_⟩
  · by_cases q : b = a
    · subst q; rw [upd_same] at e; cases e; exact ha
    · rw [upd_ne q] at e; exact h.zs b u e
  · obtain ⟨b, h1, h2⟩ := h.ce n c e
    exact ⟨b, h1, h2.up (same_upd hz) (List.prefix_refl _) rfl⟩
  · rw [upd_ne (fun q : b = a => hl (by rw [← q]; exact hb))]; exact (h.lz b hb).1
  · by_cases q : b = a
    · subst q; exact hf
    · rw [upd_ne q] at e; exact h.zf b u e
theorem BRel.share {a : Addr} {o : HO} (h : BRel G x F Z L r S σ H) (ha : H a = some o) (hz : Z a = none) (hf : F.Fm a = none) (hl : a ∉ L) (hn : ∀ (i : Nat) (s : Sl), r[i]? = some s → isOw s = true → σ[i]? ≠ some (some (V.ref a))) : BRel G x F (upd Z a o) L r S σ H := by
  refine ⟨h.h.share ha hz hf hl, h.len, fun i s e => (h.sl i s e).mono (same_upd hz) (List.prefix_refl _) fun b o' ho hs hu => ?_, h.sp⟩
  have hsl := h.sl i s e
  cases s with
  | ow v =>
    rw [hu] at hsl
    obtain ⟨c, e1, _, h2, h3, h4⟩ := hsl
    cases e1
    refine ⟨ho, ?_, h3, h4⟩
    rw [upd_ne]; exact h2
    intro q
    subst q
    refine hn i _ e rfl ?_
    cases q : σ[i]? with
    | none => rw [q] at hu; cases hu
    | some w => rw [q] at hu; exact congrArg some hu
  | _ => cases hs
/-- a fresh value is shared -/
theorem BRel.shareV {v : PV} {u : V} (h : BRel G x F Z L r S σ H) (hv : VR G F Z L r σ H v .fr u) : ∃ Z', Same Z Z' ∧ BRel G x F Z' L r S σ H ∧ Rep G Z' L v u := by
  obtain ⟨a, rfl, h1, h2, h3, h4, h5⟩ := hv
  obtain ⟨o, ho, hr⟩ := OwnAt.frz (x := v) h1 h2
  exact ⟨upd Z a o, same_upd h2, h.share ho h2 h3 h4 h5, hr⟩
end
end Ci
namespace Ci
open PySem L2

def Post {α : Type} (o : Out α) (K : α → Ev → Store → Prop) (E : Nat → List PV → Ev → Store → Prop) : Prop := match o with
  | .ok a r S => K a r S
  | .exc c vs r S => E c vs r S
  | .bad _ => False
theorem post_bind {α β : Type} {x : Out α} {f : α → Ev → Store → Out β} {K : β → Ev → Store → Prop} {E : Nat → List PV → Ev → Store → Prop} :
    Post (x.bind f) K E = Post x (fun a r S => Post (f a r S) K E) E := by cases x <;> rfl
theorem Post.imp {α : Type} {o : Out α} {K K' : α → Ev → Store → Prop} {E E' : Nat → List PV → Ev → Store → Prop} (h : Post o K E) (k : ∀ a r S, K a r S → K' a r S) (e : ∀ c vs r S, E c vs r S → E' c vs r S) : Post o K' E' := by
  cases o with
  | ok a r S => exact k _ _ _ h
  | exc c vs r S => exact e _ _ _ _ h
  | bad w => exact h

section
variable (G : Gm) (x : Exi)
/-- what is wanted of an exception that is raised in an expression -/
def XP (W : WX) (F : Frm) (σ : L2.St) : Nat → List PV → Ev → Store → Prop := fun c vs r S =>
  ∀ Z L H d, BRel G x F Z L r S σ H → RepX G Z L c vs d → W (.ref (G.Xa c)) (some d) σ H
/-- an expression's reading -/
def tE (W : WX) (m : Ev → Store → Out (PV × Md)) : TE := fun σ H Q => ∃ F Z L r S, BRel G x F Z L r S σ H ∧
  Post (m r S) (fun p r' S' => ∀ Z' L' H' u, BRel G x F Z' L' r' S' σ H' → VR G F Z' L' r' σ H' p.1 p.2 u → Q u H') (XP G x W F σ)
/-- a value, read where it stands -/
def VW (Z : Hp) (L : List Addr) (σ : L2.St) (p : PV × Md) (u : V) : Prop := match p.2 with
  | .bo i => σ[i]? = some (some u)
  | _ => Rep G Z L p.1 u
inductive VWs (Z : Hp) (L : List Addr) (σ : L2.St) : List (PV × Md) → List V → Prop
  | nil : VWs Z L σ [] []
  | cons {p : PV × Md} {ps : List (PV × Md)} {u : V} {us : List V} : VW G Z L σ p u → VWs Z L σ ps us → VWs Z L σ (p :: ps) (u :: us)
/-- arguments that are read -/
def tAr (W : WX) (m : Ev → Store → Out (List (PV × Md))) : TA := fun σ H Q => ∃ F Z L r S, BRel G x F Z L r S σ H ∧
  Post (m r S) (fun ps r' S' => ∀ Z' L' H' us, BRel G x F Z' L' r' S' σ H' → VWs G Z' L' σ ps us → Q us H') (XP G x W F σ)
/-- arguments that are handed on -/
def tAe (W : WX) (m : Ev → Store → Out (List PV)) : TA := fun σ H Q => ∃ F Z L r S, BRel G x F Z L r S σ H ∧
  Post (m r S) (fun vs r' S' => ∀ Z' L' H' us, BRel G x F Z' L' r' S' σ H' → Reps G Z' L' vs us → Q us H') (XP G x W F σ)
/-- one that is handed on -/
def tEe (W : WX) (m : Ev → Store → Out PV) : TE := fun σ H Q => ∃ F Z L r S, BRel G x F Z L r S σ H ∧
  Post (m r S) (fun v r' S' => ∀ Z' L' H' u, BRel G x F Z' L' r' S' σ H' → Rep G Z' L' v u → Q u H') (XP G x W F σ)
end

theorem _root_.L2.PE.imp {X : Cx} {e : Expr} {t t' : TE} (h : PE X e t) (k : ∀ σ H Q, t' σ H Q → t σ H Q) : PE X e t' := ⟨fun pins s σ H Q I w => h.run pins s σ H Q I (k σ H Q w)⟩
theorem _root_.L2.PA.imp {X : Cx} {e : List Expr} {t t' : TA} (h : PA X e t) (k : ∀ σ H Q, t' σ H Q → t σ H Q) : PA X e t' := ⟨fun pos pins s σ H Q I w => h.run pos pins s σ H Q I (k σ H Q w)⟩
theorem _root_.L2.PT.imp {X : Cx} {e : Expr} {t t' : TT} (h : PT X e t) (k : ∀ σ H Q, t' σ H Q → t σ H Q) : PT X e t' := ⟨fun pins s σ H Q I w => h.run pins s σ H Q I (k σ H Q w)⟩
theorem _root_.L2.PS.imp {X : Cx} {e : Stmt} {t t' : TS} (h : PS X e t) (k : ∀ D σ H, t' D σ H → t D σ H) : PS X e t' := ⟨fun pins s σ H D I w => h.run pins s σ H D I (k D σ H w)⟩
theorem _root_.L2.PSs.imp {X : Cx} {e : List Stmt} {t t' : TS} (h : PSs X e t) (k : ∀ D σ H, t' D σ H → t D σ H) : PSs X e t' := ⟨fun pins s σ H D I w => h.run pins s σ H D I (k D σ H w)⟩

section
variable {G : Gm} {x : Exi} {W : WX} {F : Frm} {Z Z' Z1 : Hp} {L L' L1 : List Addr} {r r' : Ev} {S : Store} {σ : L2.St} {H : Hp} {c : Nat} {vs : List PV}
theorem XP.at_ (h : XP G x W F σ c vs r S) (z : Same F.Z0 Z1) (l : F.L0 <+: L1) : XP G x W (F.at Z1 L1) σ c vs r S := fun Z L H d B R => h Z L H d (B.back z l) R
theorem VW.up {p : PV × Md} {u : V} (z : Same Z Z') (l : L <+: L') (h : VW G Z L σ p u) : VW G Z' L' σ p u := by
  obtain ⟨v, m⟩ := p
  cases m with
  | bo i => exact h
  | sh => exact Rep.up z l h
  | fr => exact Rep.up z l h
theorem VWs.up (z : Same Z Z') (l : L <+: L') : ∀ {ps : List (PV × Md)} {us : List V}, VWs G Z L σ ps us → VWs G Z' L' σ ps us
  | _, _, .nil => .nil
  | _, _, .cons h t => .cons (h.up z l) (VWs.up z l t)
/-- where a value with its mode stands, it may be read (a fresh one is shared) -/
theorem BRel.read {p : PV × Md} {u : V} (B : BRel G x F Z L r S σ H) (h : VR G F Z L r σ H p.1 p.2 u) : ∃ Z', Same Z Z' ∧ BRel G x F Z' L r S σ H ∧ VW G Z' L σ p u := by
  obtain ⟨v, m⟩ := p
  cases m with
  | sh => exact ⟨Z, Same.refl _, B, h⟩
  | bo i => exact ⟨Z, Same.refl _, B, h.1⟩
  | fr =>
    obtain ⟨Z', s, B', h'⟩ := B.shareV h
    exact ⟨Z', s, B', h'⟩
theorem BRel.z0 (B : BRel G x F Z L r S σ H) : Same F.Z0 Z := B.h.z0
theorem BRel.l0 (B : BRel G x F Z L r S σ H) : F.L0 <+: L := B.h.l0
/-- a slot's value -/
theorem BRel.slot {i : Nat} {s : Sl} (B : BRel G x F Z L r S σ H) (h : getS r i = s) (hs : s ≠ .no) : ∃ u, σ[i]? = some (some u) ∧ r[i]? = some s ∧ SlR G x F Z L H s (some u) := by
  unfold getS at h
  rw [List.getD_eq_getElem?_getD] at h
  cases q : r[i]? with
  | none => rw [q] at h; exact absurd h.symm hs
  | some t =>
    rw [q] at h
    have e : t = s := h
    subst e
    have hsl := B.sl i t q
    cases e2 : σ[i]? with
    | none =>
      rw [e2] at hsl
      cases t <;> first | exact absurd rfl hs | exact hsl.elim
    | some o =>
      rw [e2] at hsl
      cases o with
      | none => cases t <;> first | exact absurd rfl hs | exact hsl.elim
      | some u => exact ⟨u, rfl, rfl, hsl⟩
theorem BRel.resolve {p : PV × Md} {u : V} {v : PV} (B : BRel G x F Z L r S σ H) (h : VW G Z L σ p u) (e : res1 r p = some v) : TopR G Z L H v u := by
  obtain ⟨w, m⟩ := p
  cases m with
  | sh => cases e; exact .inl h
  | fr => cases e; exact .inl h
  | bo i =>
    unfold res1 at e
    dsimp only at e
    have h' : σ[i]? = some (some u) := h
    split at e
    · rename_i v' q
      cases e
      obtain ⟨u', h1, _, a, e1, h2, _⟩ := B.slot q (by intro z; cases z)
      rw [h'] at h1; cases h1
      exact .inr ⟨a, e1, h2⟩
    · rename_i v' q
      cases e
      obtain ⟨u', h1, _, h2⟩ := B.slot q (by intro z; cases z)
      rw [h'] at h1; cases h1
      exact .inl h2
    · cases e
theorem set_get {α : Type} {l : List α} {i j : Nat} {a b : α} (h : (l.set i a)[j]? = some b) : (j = i ∧ b = a ∧ i < l.length) ∨ (j ≠ i ∧ l[j]? = some b) := by
  by_cases e : j = i
  · subst e
    by_cases hl : j < l.length
    · rw [List.getElem?_set_self hl] at h; cases h; exact .inl ⟨rfl, rfl, hl⟩
    · rw [List.getElem?_eq_none (by simpa using hl)] at h; cases h
  · rw [List.getElem?_set_ne (Ne.symm e)] at h; exact .inr ⟨e, h⟩
/-- what one name holds is shared from then on -/
theorem BRel.low {i : Nat} {v : PV} {u : V} (B : BRel G x F Z L r S σ H) (h : r[i]? = some (.ow v)) (hu : σ[i]? = some (some u)) : ∃ Z', Same Z Z' ∧ BRel G x F Z' L (r.set i (.sh v)) S σ H ∧ Rep G Z' L v u := by
  have hs := B.sl i _ h
  rw [hu] at hs
  obtain ⟨a, rfl, h1, h2, h3, h4⟩ := hs
  obtain ⟨o, ho, hr⟩ := OwnAt.frz (x := v) h1 h2
  refine ⟨upd Z a o, same_upd h2, ⟨B.h.share ho h2 h3 h4, by rw [List.length_set]; exact B.len, fun j s e => ?_, fun j k s t b e1 o1 e2 o2 q1 q2 => ?_⟩, hr⟩
  · rcases set_get e with ⟨rfl, rfl, _⟩ | ⟨hj, e'⟩
    · rw [hu]; exact hr
    · refine (B.sl j s e').mono (same_upd h2) (List.prefix_refl _) fun b o' hb hs hub => ?_
      have hsl := B.sl j s e'
      cases s with
      | ow w =>
        rw [hub] at hsl
        obtain ⟨c, e1, _, k2, k3, k4⟩ := hsl
        cases e1
        refine ⟨hb, ?_, k3, k4⟩
        rw [upd_ne]; exact k2
        intro q
        subst q
        have q2 : σ[j]? = some (some (V.ref b)) := by
          cases q3 : σ[j]? with
          | none => rw [q3] at hub; cases hub
          | some w2 => rw [q3] at hub; exact congrArg some hub
        exact hj (B.sp j i _ _ b e' rfl h rfl q2 hu)
      | _ => cases hs
  · rcases set_get e1 with ⟨_, rfl, _⟩ | ⟨_, e1'⟩
    · cases o1
    · rcases set_get e2 with ⟨_, rfl, _⟩ | ⟨_, e2'⟩
      · cases o2
      · exact B.sp j k s t b e1' o1 e2' o2 q1 q2
/-- .. handed on -/
theorem BRel.hand {v : PV} {m : Md} {u : V} {cm : Bool} {K : PV → Ev → Store → Prop} {E : Nat → List PV → Ev → Store → Prop} (B : BRel G x F Z L r S σ H) (h : VR G F Z L r σ H v m u) (P : Post (esc cm v m r S) K E) :
    ∃ Z' r', Same Z Z' ∧ BRel G x F Z' L r' S σ H ∧ Rep G Z' L v u ∧ K v r' S := by
  cases m with
  | sh => exact ⟨Z, r, Same.refl _, B, h, P⟩
  | fr =>
    obtain ⟨Z', s, B', h'⟩ := B.shareV h
    exact ⟨Z', r, s, B', h', P⟩
  | bo i =>
    unfold esc at P
    cases cm with
    | true => exact P.elim
    | false =>
      obtain ⟨Z', s, B', h'⟩ := B.low h.2 h.1
      refine ⟨Z', _, s, B', h', ?_⟩
      have e : lowS r i = r.set i (.sh v) := by
        unfold lowS getS
        rw [List.getD_eq_getElem?_getD, h.2]; rfl
      have P' : K v (lowS r i) S := P
      rw [e] at P'
      exact P'
inductive TopRs (G : Gm) (Z : Hp) (L : List Addr) (H : Hp) : List PV → List V → Prop
  | nil : TopRs G Z L H [] []
  | cons {x : PV} {xs : List PV} {v : V} {vs : List V} : TopR G Z L H x v → TopRs G Z L H xs vs → TopRs G Z L H (x :: xs) (v :: vs)
theorem BRel.resolveA (B : BRel G x F Z L r S σ H) : ∀ {ps : List (PV × Md)} {us : List V} {vs : List PV}, VWs G Z L σ ps us → resA r ps = some vs → TopRs G Z L H vs us
  | [], _, _, .nil, e => by cases e; exact .nil
  | p :: ps, _, vs, .cons h t, e => by
    unfold resA at e
    split at e
    · rename_i v q
      cases q2 : resA r ps with
      | none => rw [q2] at e; cases e
      | some ws =>
        rw [q2] at e; cases e
        exact .cons (B.resolve h q) (BRel.resolveA B t q2)
    · cases e
end

/-! ### arguments -/
section
variable {G : Gm} {x : Exi} {W : WX} {X : Cx}
theorem pa_evr {cx : Cxt} {cm : Bool} : ∀ {es : List Expr} {ces : List CE}, es.length = ces.length → (∀ (i : Nat) (e : Expr) (ce : CE), es[i]? = some e → ces[i]? = some ce → PE X e (tE G x W (ev cx cm ce))) →
    (∀ e ∈ es, ∀ es' env, starEach (e :: es') env = (false, eval e env) :: starEach es' env) → PA X es (tAr G x W (evr cx cm ces))
  | [], [], _, _, _ => pa_nil.imp fun σ H Q ⟨F, Z, L, r, S, B, P⟩ => P Z L H [] B .nil
  | [], _ :: _, h, _, _ => by simp at h
  | _ :: _, [], h, _, _ => by simp at h
  | e :: es, ce :: ces, hl, hp, hs => by
    have ih := pa_evr (cx := cx) (cm := cm) (es := es) (ces := ces) (by simpa using hl) (fun i e' ce' h1 h2 => hp (i + 1) e' ce' (by simpa using h1) (by simpa using h2)) (fun e' he => hs e' (List.mem_cons_of_mem _ he))
    refine (pa_cons (hp 0 e ce (by simp) (by simp)) ih (hs e List.mem_cons_self es X.env)).imp fun σ H Q ⟨F, Z, L, r, S, B, P⟩ => ?_
    unfold evr at P
    rw [post_bind] at P
    refine ⟨F.at Z L, Z, L, r, S, B.here, P.imp (fun p r1 S1 P1 Z1 L1 H1 u B1 V1 => ?_) fun c vs r1 S1 E => E.at_ B.z0 B.l0⟩
    rw [post_bind] at P1
    obtain ⟨Z2, s2, B2, V2⟩ := B1.read V1
    have B3 := B2.back B.z0 B.l0
    refine ⟨F.at Z2 L1, Z2, L1, r1, S1, B3.here, P1.imp (fun ps r3 S3 P3 Z3 L3 H3 us B4 V4 => ?_) fun c vs r3 S3 E => E.at_ B3.z0 B3.l0⟩
    exact P3 Z3 L3 H3 (u :: us) (B4.back B3.z0 B3.l0) (.cons (V2.up B4.z0 B4.l0) V4)
theorem pe_esc {e : Expr} {cm : Bool} {m : Ev → Store → Out (PV × Md)} (h : PE X e (tE G x W m)) : PE X e (tEe G x W fun r S => escB cm (m r S)) := h.imp fun σ H Q ⟨F, Z, L, r, S, B, P⟩ => by
  unfold escB at P
  rw [post_bind] at P
  refine ⟨F.at Z L, Z, L, r, S, B.here, P.imp (fun p r1 S1 P1 Z1 L1 H1 u B1 V1 => ?_) fun c vs r1 S1 E => E.at_ B.z0 B.l0⟩
  obtain ⟨Z2, r2, s2, B2, R2, K2⟩ := B1.hand V1 P1
  exact K2 Z2 L1 H1 u (B2.back B.z0 B.l0) R2
theorem pa_evs {cx : Cxt} {cm : Bool} : ∀ {es : List Expr} {ces : List CE}, es.length = ces.length → (∀ (i : Nat) (e : Expr) (ce : CE), es[i]? = some e → ces[i]? = some ce → PE X e (tE G x W (ev cx cm ce))) →
    (∀ e ∈ es, ∀ es' env, starEach (e :: es') env = (false, eval e env) :: starEach es' env) → PA X es (tAe G x W (evs cx cm ces))
  | [], [], _, _, _ => pa_nil.imp fun σ H Q ⟨F, Z, L, r, S, B, P⟩ => P Z L H [] B .nil
  | [], _ :: _, h, _, _ => by simp at h
  | _ :: _, [], h, _, _ => by simp at h
  | e :: es, ce :: ces, hl, hp, hs => by
    have ih := pa_evs (cx := cx) (cm := cm) (es := es) (ces := ces) (by simpa using hl) (fun i e' ce' h1 h2 => hp (i + 1) e' ce' (by simpa using h1) (by simpa using h2)) (fun e' he => hs e' (List.mem_cons_of_mem _ he))
    refine (pa_cons (hp 0 e ce (by simp) (by simp)) ih (hs e List.mem_cons_self es X.env)).imp fun σ H Q ⟨F, Z, L, r, S, B, P⟩ => ?_
    unfold evs at P
    rw [post_bind] at P
    refine ⟨F.at Z L, Z, L, r, S, B.here, P.imp (fun p r1 S1 P1 Z1 L1 H1 u B1 V1 => ?_) fun c vs r1 S1 E => E.at_ B.z0 B.l0⟩
    rw [post_bind] at P1
    obtain ⟨Z2, r2, s2, B2, V2, K2⟩ := B1.hand V1 P1
    rw [post_bind] at K2
    have B3 := B2.back B.z0 B.l0
    refine ⟨F.at Z2 L1, Z2, L1, r2, S1, B3.here, K2.imp (fun ps r3 S3 P3 Z3 L3 H3 us B4 V4 => ?_) fun c vs r3 S3 E => E.at_ B3.z0 B3.l0⟩
    exact P3 Z3 L3 H3 (u :: us) (B4.back B3.z0 B3.l0) (.cons (V2.up B4.z0 B4.l0) V4)
end
end Ci
namespace PySem.CiLib
open PySem PySem.AutoSeq1
theorem list_add_any (l : Addr) (items : Array Value) (n : Nat) (sl1 : Array (Option Value)) (b : Addr) (items2 : Array Value) (n2 : Nat) (sl2 : Array (Option Value)) (hc0 : items.size + items2.size ≤ sizeLine) :
    Meets (Builtin.«list.__add__» ⟨[.ref l, .ref b], []⟩) (fun _ R s => s.heap.get? l = some { cls := .type "list", dict := none, data := .seq items n, slots := sl1 } ∧ s.heap.get? b = some { cls := .type "list", dict := none, data := .seq items2 n2, slots := sl2 } ∧ R (.ok (.ret (Value.ref s.heap.objs.size))) { s with heap := s.heap.push { cls := Value.type "list", data := Data.seq (items ++ items2) }, toks := s.toks }) :=
  .of_wp fun prog w A R s h => by obtain ⟨hp, g, d, tk, os⟩ := s; obtain ⟨hl, hb, h⟩ := h; have f1 := idx_int; have f2 := sub_tuple_tuple; have f3 := sub_list_list; have f4 := sub_tuple_list; have f5 := sub_list_tuple; wp_walk using wpAny_loadPart' hl, wpAny_loadPart' hb; exact ⟨_, rfl, h⟩
theorem list_extend_list_any (l : Addr) (items : Array Value) (n : Nat) (b : Addr) (items2 : Array Value) (n2 : Nat) (sl2 : Array (Option Value)) (hc0 : ¬(!items.isEmpty && Builtin.List.listTooLong (items.size + items2.size)) = true) (hc1 : items.size ≤ sizeLine) (hs2 : items.size + items2.size ≤ sizeLine + 1) :
    Meets (Builtin.«list.extend» ⟨[.ref l, .ref b], []⟩) (fun _ R s => s.heap.get? l = some { cls := .type "list", dict := none, data := .seq items n, slots := #[] } ∧ s.heap.get? b = some { cls := .type "list", dict := none, data := .seq items2 n2, slots := sl2 } ∧ R (.ok (.ret Value.none)) { s with heap := s.heap.update l (Obj.mapSeq fun x => x ++ items2), toks := s.toks }) :=
  .of_wp fun prog w A R s h => by
    obtain ⟨hp, g, d, tk, os⟩ := s; obtain ⟨hl, hb, h⟩ := h; have f1 := idx_int; have f2 := sub_tuple_tuple; have f3 := sub_list_list; have f4 := sub_tuple_list; have f5 := sub_list_tuple;
    have hz' : (items ++ items2).size ≤ sizeLine + 1 := by rw [Array.size_append]; exact hs2
    wp_walk using (wpAny_updateSeq hl rfl (hz := hc1) (_hz' := hz')), wpAny_loadPart' hl, wpAny_loadPart' hb; exact ⟨_, rfl, h⟩
theorem list_extend_tuple_any (l : Addr) (items : Array Value) (n : Nat) (b : Addr) (items2 : Array Value) (n2 : Nat) (dd : Option Addr) (sl2 : Array (Option Value)) (hc0 : ¬(!items.isEmpty && Builtin.List.listTooLong (items.size + items2.size)) = true) (hc1 : items.size ≤ sizeLine) (hs2 : items.size + items2.size ≤ sizeLine + 1) :
    Meets (Builtin.«list.extend» ⟨[.ref l, .ref b], []⟩) (fun _ R s => s.heap.get? l = some { cls := .type "list", dict := none, data := .seq items n, slots := #[] } ∧ s.heap.get? b = some { cls := .type "tuple", dict := dd, data := .seq items2 n2, slots := sl2 } ∧ R (.ok (.ret Value.none)) { s with heap := s.heap.update l (Obj.mapSeq fun x => x ++ items2), toks := s.toks }) :=
  .of_wp fun prog w A R s h => by
    obtain ⟨hp, g, d, tk, os⟩ := s; obtain ⟨hl, hb, h⟩ := h; have f1 := idx_int; have f2 := sub_tuple_tuple; have f3 := sub_list_list; have f4 := sub_tuple_list; have f5 := sub_list_tuple;
    have hz' : (items ++ items2).size ≤ sizeLine + 1 := by rw [Array.size_append]; exact hs2
    wp_walk using (wpAny_updateSeq hl rfl (hz := hc1) (_hz' := hz')), wpAny_loadPart' hl, wpAny_loadPart' hb; exact ⟨_, rfl, h⟩
end PySem.CiLib
namespace Ci
open PySem L2

/-! ### data -/
mutual
theorem toD_depth : ∀ (n : Nat) (v : PV), isD n v = true → (toD v).depth ≤ n
  | _, .non, _ => by simp [toD, PyData.depth]
  | _, .bl b, _ => by simp [toD, PyData.depth]
  | _, .int i, _ => by simp [toD, PyData.depth]
  | _, .str s, _ => by simp [toD, PyData.depth]
  | 0, .tup xs, h => by simp [isD] at h
  | 0, .lst xs, h => by simp [isD] at h
  | n + 1, .tup xs, h => by
    have := toDs_depth n xs (by simpa [isD] using h)
    simp only [toD, PyData.depth]; omega
  | n + 1, .lst xs, h => by
    have := toDs_depth n xs (by simpa [isD] using h)
    simp only [toD, PyData.depth]; omega
  | 0, .dct _, h => by simp [isD] at h
  | 0, .loc _, h => by simp [isD] at h
  | 0, .obj _ _, h => by simp [isD] at h
  | 0, .fn _, h => by simp [isD] at h
  | _ + 1, .dct _, h => by simp [isD] at h
  | _ + 1, .loc _, h => by simp [isD] at h
  | _ + 1, .obj _ _, h => by simp [isD] at h
  | _ + 1, .fn _, h => by simp [isD] at h
theorem toDs_depth : ∀ (n : Nat) (xs : List PV), (∀ x ∈ xs, isD n x = true) → PyData.depthAll (toDs xs) ≤ n
  | _, [], _ => by simp [toDs, PyData.depthAll]
  | n, x :: xs, h => by
    have h1 := toD_depth n x (h x List.mem_cons_self)
    have h2 := toDs_depth n xs fun y hy => h y (List.mem_cons_of_mem _ hy)
    simp only [toDs, PyData.depthAll]; omega
end
section
variable {G : Gm} {Z : Hp} {L : List Addr}
mutual
theorem toD_lay : ∀ (n : Nat) (v : PV) (u : V), isD n v = true → Rep G Z L v u → (toD v).canLay0 = true
  | _, .non, _, _, _ => by simp [toD, PyData.canLay0]
  | _, .bl b, _, _, _ => by simp [toD, PyData.canLay0]
  | _, .int i, _, _, _ => by simp [toD, PyData.canLay0]
  | _, .str s, _, _, r => by cases r with | str _ h1 h2 => simp only [toD, PyData.canLay0]; exact h1
  | 0, .tup xs, _, h, _ => by simp [isD] at h
  | 0, .lst xs, _, h, _ => by simp [isD] at h
  | n + 1, .tup xs, _, h, r => by
    cases r with
    | tup _ rs => simp only [toD, PyData.canLay0]; exact toDs_lay n xs _ (by simpa [isD] using h) rs
  | n + 1, .lst xs, _, h, r => by
    cases r with
    | lst _ rs => simp only [toD, PyData.canLay0]; exact toDs_lay n xs _ (by simpa [isD] using h) rs
  | 0, .dct _, _, h, _ => by simp [isD] at h
  | 0, .loc _, _, h, _ => by simp [isD] at h
  | 0, .obj _ _, _, h, _ => by simp [isD] at h
  | 0, .fn _, _, h, _ => by simp [isD] at h
  | _ + 1, .dct _, _, h, _ => by simp [isD] at h
  | _ + 1, .loc _, _, h, _ => by simp [isD] at h
  | _ + 1, .obj _ _, _, h, _ => by simp [isD] at h
  | _ + 1, .fn _, _, h, _ => by simp [isD] at h
theorem toDs_lay : ∀ (n : Nat) (xs : List PV) (us : List V), (∀ x ∈ xs, isD n x = true) → Reps G Z L xs us → PyData.canLayAll0 (toDs xs) = true
  | _, [], _, _, _ => by simp [toDs, PyData.canLayAll0]
  | n, x :: xs, _, h, r => by
    cases r with
    | cons r1 r2 =>
      have h1 := toD_lay n x _ (h x List.mem_cons_self) r1
      have h2 := toDs_lay n xs _ (fun y hy => h y (List.mem_cons_of_mem _ hy)) r2
      simp only [toDs, PyData.canLayAll0, h1, h2, Bool.and_self]
end
mutual
theorem toD_dp : ∀ (n : Nat) (v : PV) (u : V), isD n v = true → Rep G Z L v u → Dp G.K Z u (toD v)
  | _, .non, _, _, r => by cases r; simp only [toD]; exact .non
  | _, .bl b, _, _, r => by cases r; simp only [toD]; exact .bl b
  | _, .int i, _, _, r => by cases r; simp only [toD]; exact .int i
  | _, .str s, _, _, r => by cases r; simp only [toD]; exact .str s
  | 0, .tup xs, _, h, _ => by simp [isD] at h
  | 0, .lst xs, _, h, _ => by simp [isD] at h
  | n + 1, .tup xs, _, h, r => by
    cases r with
    | tup ht rs => simp only [toD]; exact .tup ht (toDs_dp n xs _ (by simpa [isD] using h) rs)
  | n + 1, .lst xs, _, h, r => by
    cases r with
    | lst ht rs => simp only [toD]; exact .lst ht (toDs_dp n xs _ (by simpa [isD] using h) rs)
  | 0, .dct _, _, h, _ => by simp [isD] at h
  | 0, .loc _, _, h, _ => by simp [isD] at h
  | 0, .obj _ _, _, h, _ => by simp [isD] at h
  | 0, .fn _, _, h, _ => by simp [isD] at h
  | _ + 1, .dct _, _, h, _ => by simp [isD] at h
  | _ + 1, .loc _, _, h, _ => by simp [isD] at h
  | _ + 1, .obj _ _, _, h, _ => by simp [isD] at h
  | _ + 1, .fn _, _, h, _ => by simp [isD] at h
theorem toDs_dp : ∀ (n : Nat) (xs : List PV) (us : List V), (∀ x ∈ xs, isD n x = true) → Reps G Z L xs us → DpAll G.K Z us (toDs xs)
  | _, [], _, _, r => by cases r; simp only [toDs]; exact .nil
  | n, x :: xs, _, h, r => by
    cases r with
    | cons r1 r2 =>
      simp only [toDs]
      exact .cons (toD_dp n x _ (h x List.mem_cons_self) r1) (toDs_dp n xs _ (fun y hy => h y (List.mem_cons_of_mem _ hy)) r2)
end
end
mutual
theorem eqv_toD : ∀ (n m : Nat) (v w : PV), isD n v = true → isD m w = true → PyData.eqv (toD v) (toD w) = pyEq v w
  | n, m, v, w, h1, h2 => by
    cases v with
    | tup xs =>
      cases n with
      | zero => simp [isD] at h1
      | succ n =>
        cases w with
        | tup ys =>
          cases m with
          | zero => simp [isD] at h2
          | succ m =>
            simp only [toD, PyData.eqv, pyEq]
            exact eqv_toDs n m xs ys (by simpa [isD] using h1) (by simpa [isD] using h2)
        | non => simp [toD, PyData.eqv, pyEq]
        | bl b => simp [toD, PyData.eqv, pyEq]
        | int i => simp [toD, PyData.eqv, pyEq]
        | str x => simp [toD, PyData.eqv, pyEq]
        | lst ys => simp [toD, PyData.eqv, pyEq]
        | _ => cases m <;> simp [isD] at h2
    | lst xs =>
      cases n with
      | zero => simp [isD] at h1
      | succ n =>
        cases w with
        | lst ys =>
          cases m with
          | zero => simp [isD] at h2
          | succ m =>
            simp only [toD, PyData.eqv, pyEq]
            exact eqv_toDs n m xs ys (by simpa [isD] using h1) (by simpa [isD] using h2)
        | non => simp [toD, PyData.eqv, pyEq]
        | bl b => simp [toD, PyData.eqv, pyEq]
        | int i => simp [toD, PyData.eqv, pyEq]
        | str x => simp [toD, PyData.eqv, pyEq]
        | tup ys => simp [toD, PyData.eqv, pyEq]
        | _ => cases m <;> simp [isD] at h2
    | non => cases w with
      | dct _ => cases m <;> simp [isD] at h2
      | loc _ => cases m <;> simp [isD] at h2
      | obj _ _ => cases m <;> simp [isD] at h2
      | fn _ => cases m <;> simp [isD] at h2
      | _ => simp [toD, PyData.eqv, pyEq]
    | bl b => cases w with
      | dct _ => cases m <;> simp [isD] at h2
      | loc _ => cases m <;> simp [isD] at h2
      | obj _ _ => cases m <;> simp [isD] at h2
      | fn _ => cases m <;> simp [isD] at h2
      | _ => simp [toD, PyData.eqv, pyEq]
    | int b => cases w with
      | dct _ => cases m <;> simp [isD] at h2
      | loc _ => cases m <;> simp [isD] at h2
      | obj _ _ => cases m <;> simp [isD] at h2
      | fn _ => cases m <;> simp [isD] at h2
      | _ => simp [toD, PyData.eqv, pyEq]
    | str b => cases w with
      | dct _ => cases m <;> simp [isD] at h2
      | loc _ => cases m <;> simp [isD] at h2
      | obj _ _ => cases m <;> simp [isD] at h2
      | fn _ => cases m <;> simp [isD] at h2
      | _ => simp [toD, PyData.eqv, pyEq]
    | _ => cases n <;> simp [isD] at h1
theorem eqv_toDs : ∀ (n m : Nat) (xs ys : List PV), (∀ x ∈ xs, isD n x = true) → (∀ y ∈ ys, isD m y = true) → PyData.eqvAll (toDs xs) (toDs ys) = pyEqs xs ys
  | _, _, [], [], _, _ => by simp [toDs, PyData.eqvAll, pyEqs]
  | _, _, [], _ :: _, _, _ => by simp [toDs, PyData.eqvAll, pyEqs]
  | _, _, _ :: _, [], _, _ => by simp [toDs, PyData.eqvAll, pyEqs]
  | n, m, x :: xs, y :: ys, h1, h2 => by
    simp only [toDs, PyData.eqvAll, pyEqs]
    rw [eqv_toD n m x y (h1 x List.mem_cons_self) (h2 y List.mem_cons_self), eqv_toDs n m xs ys (fun z hz => h1 z (List.mem_cons_of_mem _ hz)) (fun z hz => h2 z (List.mem_cons_of_mem _ hz))]
end

/-! ### what is read at the top -/
section
variable {G : Gm} {x : Exi} {F : Frm} {Z : Hp} {L : List Addr} {r : Ev} {S : Store} {σ : L2.St} {H : Hp} {u : V}
theorem TopR.int {i : Int} (t : TopR G Z L H (.int i) u) : u = .int i := by
  rcases t with t | ⟨a, _, t⟩
  · cases t; rfl
  · exact t.elim
theorem TopR.bl {b : Bool} (t : TopR G Z L H (.bl b) u) : u = .bl b := by
  rcases t with t | ⟨a, _, t⟩
  · cases t; rfl
  · exact t.elim
theorem TopR.non (t : TopR G Z L H .non u) : u = .non := by
  rcases t with t | ⟨a, _, t⟩
  · cases t; rfl
  · exact t.elim
theorem TopR.str {y : Str} (t : TopR G Z L H (.str y) u) : u = .str y ∧ PyData.strOk y = true ∧ y.length ≤ sizeLine := by
  rcases t with t | ⟨a, _, t⟩
  · cases t with | str _ h1 h2 => exact ⟨rfl, h1, h2⟩
  · exact t.elim
theorem TopR.lst {xs : List PV} (z : Same Z H) (t : TopR G Z L H (.lst xs) u) : ∃ (a : Addr) (vs : List V), u = .ref a ∧ SqL G.K H a vs ∧ Reps G Z L xs vs := by
  rcases t with t | ⟨a, e, vs, h1, h2⟩
  · cases t with | lst h rs => exact ⟨_, _, rfl, z.seq h, rs⟩
  · exact ⟨a, vs, e, SqL.of h1, h2⟩
theorem TopR.tup {xs : List PV} (t : TopR G Z L H (.tup xs) u) : ∃ (a : Addr) (vs : List V), u = .ref a ∧ SqT G.K Z a vs ∧ Reps G Z L xs vs := by
  rcases t with t | ⟨a, e, t⟩
  · cases t with | tup h rs => exact ⟨_, _, rfl, h, rs⟩
  · exact t.elim
theorem TopR.rep_tup {xs : List PV} (t : TopR G Z L H (.tup xs) u) : Rep G Z L (.tup xs) u := by
  rcases t with t | ⟨a, e, t⟩
  · exact t
  · exact t.elim
theorem TopR.dct {kvs : List (PV × PV)} (z : Same Z H) (t : TopR G Z L H (.dct kvs) u) : ∃ (a : Addr) (es : List DictEntry), u = .ref a ∧ H a = some (dHO a es) ∧ RepE G Z L kvs es := by
  rcases t with t | ⟨a, e, es, h1, h2⟩
  · cases t with | dct h rs => exact ⟨_, _, rfl, z _ _ h, rs⟩
  · exact ⟨a, es, e, h1, h2⟩
theorem TopR.obj {c : Nat} {fs : List (Nat × PV)} (z : Same Z H) (t : TopR G Z L H (.obj c fs) u) : ∃ (a dx : Addr) (vfs : List (Str × V)), u = .ref a ∧ H a = some (.ins (G.Ca c) dx vfs) ∧ okO G c fs ∧ RepF G Z L fs vfs := by
  rcases t with t | ⟨a, e, dx, vfs, h1, h0, h2⟩
  · cases t with | obj h o rs => exact ⟨_, _, _, rfl, z _ _ h, o, rs⟩
  · exact ⟨a, dx, vfs, e, h1, h0, h2⟩
/-- a place is looked through -/
theorem TopR.view {v : PV} (h : HRel G F Z L S H) (t : TopR G Z L H v u) : TopR G Z L H (view S v) u := by
  cases v with
  | loc n =>
    rcases t with t | ⟨a, _, t⟩
    · cases t with
      | loc hn =>
        cases e : S[n]? with
        | none =>
          have ev : Ci.view S (.loc n) = .loc n := by simp only [Ci.view, e]
          rw [ev]
          exact .inl (.loc hn)
        | some c =>
          obtain ⟨a, h1, h2⟩ := h.ce n c e
          rw [hn] at h1; cases h1
          have ev : Ci.view S (.loc n) = c.pv := by cases c <;> simp only [Ci.view, e, Cell.pv]
          rw [ev]
          exact .inr ⟨_, rfl, h2⟩
    · exact t.elim
  | _ => exact t
theorem TopRs.view (h : HRel G F Z L S H) : ∀ {vs : List PV} {us : List V}, TopRs G Z L H vs us → TopRs G Z L H (vs.map (Ci.view S)) us
  | _, _, .nil => .nil
  | _, _, .cons t ts => .cons (t.view h) (TopRs.view h ts)
/-- data that is read -/
theorem TopR.dp {n : Nat} {v : PV} (z : Same Z H) (t : TopR G Z L H v u) (h : isD n v = true) : Dp G.K H u (toD v) ∧ (toD v).canLay0 = true ∧ (toD v).depth ≤ n := by
  have up : ∀ {w : PV} {u' : V}, isD n w = true → Rep G Z L w u' → Dp G.K H u' (toD w) ∧ (toD w).canLay0 = true ∧ (toD w).depth ≤ n := fun {w u'} hw rw' => by
    have r2 : Rep G H L w u' := rw'.up z (List.prefix_refl _)
    exact ⟨toD_dp n w u' hw r2, toD_lay n w u' hw r2, toD_depth n w hw⟩
  rcases t with t | ⟨a, e, t⟩
  · exact up h t
  · subst e
    cases v with
    | lst xs =>
      obtain ⟨vs, h1, h2⟩ := t
      have r2 : Rep G H L (.lst xs) (.ref a) := .lst (SqL.of h1) (h2.up z (List.prefix_refl _))
      exact ⟨toD_dp n _ _ h r2, toD_lay n _ _ h r2, toD_depth n _ h⟩
    | dct xs => cases n <;> simp [isD] at h
    | obj c xs => cases n <;> simp [isD] at h
    | _ => exact t.elim

/-! ### new objects -/
theorem BRel.free {p : Addr} (B : BRel G x F Z L r S σ H) (hp : H p = none) : Z p = none ∧ F.Fm p = none ∧ p ∉ L ∧ ∀ (i : Nat) (s : Sl), r[i]? = some s → isOw s = true → σ[i]? ≠ some (some (V.ref p)) := by
  refine ⟨B.h.zs.free hp, B.h.fs.free hp, fun hl => ?_, fun i s e hs q => ?_⟩
  · obtain ⟨n, hn, e⟩ := List.getElem_of_mem hl
    have hS : n < S.length := by rw [← B.h.ln]; exact hn
    obtain ⟨a, h1, h2⟩ := B.h.ce n _ (List.getElem?_eq_getElem hS)
    rw [List.getElem?_eq_getElem hn, e] at h1; cases h1
    obtain ⟨o, ho⟩ := h2.has
    rw [hp] at ho; cases ho
  · have hsl := B.sl i s e
    cases s with
    | ow v =>
      rw [q] at hsl
      obtain ⟨a, e1, h1, _⟩ := hsl
      cases e1
      obtain ⟨o, ho⟩ := h1.has
      rw [hp] at ho; cases ho
    | _ => cases hs
/-- a new object that nobody holds -/
theorem BRel.newO {p : Addr} {o : HO} {v : PV} (B : BRel G x F Z L r S σ H) (hp : H p = none) (h : OwnAt G Z L (upd H p o) p v) : BRel G x F Z L r S σ (upd H p o) ∧ VR G F Z L r σ (upd H p o) v .fr (.ref p) := by
  obtain ⟨h1, h2, h3, h4⟩ := B.free hp
  exact ⟨B.alloc hp, p, rfl, h, h1, h2, h3, h4⟩
theorem BRel.newL {p : Addr} {xs : List PV} {vs : List V} (B : BRel G x F Z L r S σ H) (hp : H p = none) (h : Reps G Z L xs vs) : BRel G x F Z L r S σ (upd H p (.lst vs)) ∧ VR G F Z L r σ (upd H p (.lst vs)) (.lst xs) .fr (.ref p) :=
  B.newO hp ⟨vs, upd_same, h⟩
/-- a new tuple -/
theorem BRel.newT {p : Addr} {xs : List PV} {vs : List V} (B : BRel G x F Z L r S σ H) (hp : H p = none) (h : Reps G Z L xs vs) : BRel G x F (upd Z p (.tup vs)) L r S σ (upd H p (.tup vs)) ∧ Rep G (upd Z p (.tup vs)) L (.tup xs) (.ref p) := by
  obtain ⟨h1, h2, h3, h4⟩ := B.free hp
  exact ⟨(B.alloc hp).share upd_same h1 h2 h3 h4, .tup (SqT.of upd_same) (h.up (same_upd h1) (List.prefix_refl _))⟩
end

/-! ### an operation's end -/
def OR (G : Gm) (x : Exi) (F : Frm) (Z : Hp) (L : List Addr) (r : Ev) (S : Store) (σ : L2.St) (o : ORes) (Q : VK) : Prop := match o with
  | .sh v => ∀ Z' H' u, Same Z Z' → BRel G x F Z' L r S σ H' → Rep G Z' L v u → Q u H'
  | .fr v => ∀ H' u, BRel G x F Z L r S σ H' → VR G F Z L r σ H' v .fr u → Q u H'
  | .bad _ => False
/-- two values that are read, an operation on them -/
def r2 (G : Gm) (x : Exi) (f : PV → PV → ORes) : R2 := fun u w H Q => ∃ F Z L r S σ a b, BRel G x F Z L r S σ H ∧ TopR G Z L H a u ∧ TopR G Z L H b w ∧ OR G x F Z L r S σ (f a b) Q
def r1 (G : Gm) (x : Exi) (f : PV → ORes) : V → Hp → VK → Prop := fun u H Q => ∃ F Z L r S σ a, BRel G x F Z L r S σ H ∧ TopR G Z L H a u ∧ OR G x F Z L r S σ (f a) Q
def rN (G : Gm) (x : Exi) (f : List PV → ORes) : List V → Hp → VK → Prop := fun us H Q => ∃ F Z L r S σ vs, BRel G x F Z L r S σ H ∧ TopRs G Z L H vs us ∧ OR G x F Z L r S σ (f vs) Q

theorem big_le : big ≤ sizeLine := by rw [sizeLine_eq]; decide
theorem strOk_app {a b : Str} (h1 : PyData.strOk a = true) (h2 : PyData.strOk b = true) : PyData.strOk (a ++ b) = true := by
  unfold PyData.strOk at *
  show (a.cps ++ b.cps).all _ = true
  rw [Array.all_append, h1, h2]; rfl
theorem len_app (a b : Str) : (a ++ b).length = a.length + b.length := by
  show (a.cps ++ b.cps).size = _
  rw [Array.size_append]; rfl
section
variable {G : Gm} {x : Exi} {X : Cx} (hK : X.K = G.K)
include hK
theorem o_add : OpR X (binaryOp .Add) (r2 G x addV) := by
  intro pins s σ0 H u w v v' Q I ru rw' ⟨F, Z, L, r, S, σ, a, b, B, Ta, Tb, P⟩
  unfold addV at P
  split at P
  · cases Ta.int; cases Tb.int
    exact op_add pins s σ0 H _ _ v v' Q I ru rw' ⟨_, _, rfl, rfl, P Z H _ (Same.refl _) B (.int _)⟩
  · split at P
    · rename_i i j hb
      obtain ⟨e1, k1, l1⟩ := Ta.str
      obtain ⟨e2, k2, l2⟩ := Tb.str
      subst e1 e2
      have hl := Nat.le_trans hb big_le
      exact op_add_str pins s σ0 H _ _ v v' Q I ru rw' ⟨_, _, rfl, rfl, hl, P Z H _ (Same.refl _) B (.str _ (strOk_app k1 k2) (by rw [len_app]; exact hl))⟩
    · exact P.elim
  · split at P
    · rename_i hb
      obtain ⟨p, vs, rfl, h1, h2⟩ := Ta.lst B.h.zs
      obtain ⟨q, ws, rfl, h3, h4⟩ := Tb.lst B.h.zs
      cases ru; cases rw'
      rw [← hK] at h1 h3
      obtain ⟨its, rv, ⟨o, n, ho, hc, hd, hs⟩, hz⟩ := I.list h1
      obtain ⟨its2, rv2, ⟨o2, n2, ho2, hc2, hd2, hs2⟩, hz2⟩ := I.list h3
      obtain ⟨c, dd, data, sl⟩ := o
      obtain ⟨c2, dd2, data2, sl2⟩ := o2
      simp only at hc hd hs hc2 hd2 hs2
      subst hc hd hs hc2 hd2 hs2
      have hl := Nat.le_trans hb big_le
      have e1 := h2.length
      have e2 := h4.length
      have e3 := rv.length
      have e4 := rv2.length
      refine PySem.concat_meets ⟨_, ho, rfl⟩ ⟨_, ho2, rfl⟩ noFill_list_add seq_list_add PySem.F.slot_list_add PySem.F.entry_list_add (PySem.F.args_list_add_2 _ _)
        (PySem.CiLib.list_add_any _ _ _ _ _ _ _ _ (by simp only [List.size_toArray]; omega)) ⟨ho, ho2, ?_⟩
      have ea : its.toArray ++ its2.toArray = (its ++ its2).toArray := by simp
      rw [ea]
      obtain ⟨B', V'⟩ := B.newL I.fresh (h2.append h4)
      exact ⟨.ref _, _, I.lnew (t' := s.toks) (rv.append rv2) (by rw [List.length_append]; omega), rfl, P _ _ B' V'⟩
    · exact P.elim
  · split at P
    · rename_i hb
      obtain ⟨p, vs, rfl, h1, h2⟩ := Ta.tup
      obtain ⟨q, ws, rfl, h3, h4⟩ := Tb.tup
      have hl := Nat.le_trans hb big_le
      have hla := h2.length
      have hlb := h4.length
      refine op_catA pins s σ0 H _ _ v v' Q I ru rw' ⟨p, q, vs, ws, rfl, rfl, by rw [hK]; exact SqT.up B.h.zs h1, by rw [hK]; exact SqT.up B.h.zs h3, by omega, fun e => ?_, fun e1 e2 => ?_, fun e1 e2 p' hp => ?_⟩
      · subst e; cases h2
        exact P Z H _ (Same.refl _) B (.tup h3 h4)
      · subst e2; cases h4
        rw [List.append_nil] at P
        exact P Z H _ (Same.refl _) B (.tup h1 h2)
      · obtain ⟨B', R'⟩ := B.newT hp (h2.append h4)
        exact P _ _ _ (same_upd (B.free hp).1) B' R'
    · exact P.elim
  · exact P.elim

/-- ints in, an int out -/
theorem o_int2 {f : Value → Value → Sem Value} {C : Int → Int → Prop} {g : Int → Int → V} {h : PV → PV → ORes} (hr : OpR X f (rI C g))
    (hh : ∀ a b Q G' F Z L r S σ H, BRel G' x F Z L r S σ H → OR G' x F Z L r S σ (h a b) Q → ∃ i j, a = .int i ∧ b = .int j ∧ C i j ∧ Q (g i j) H) : OpR X f (r2 G x h) := by
  intro pins s σ0 H u w v v' Q I ru rw' ⟨F, Z, L, r, S, σ, a, b, B, Ta, Tb, P⟩
  obtain ⟨i, j, rfl, rfl, hc, q⟩ := hh a b Q G F Z L r S σ H B P
  cases Ta.int; cases Tb.int
  exact hr pins s σ0 H _ _ v v' Q I ru rw' ⟨i, j, rfl, rfl, hc, q⟩
omit hK in
theorem OR.sh_int {G : Gm} {F : Frm} {Z : Hp} {L : List Addr} {r : Ev} {S : Store} {σ : L2.St} {H : Hp} {Q : VK} {i : Int} (B : BRel G x F Z L r S σ H) (P : OR G x F Z L r S σ (oInt i) Q) : Q (.int i) H := P Z H _ (Same.refl _) B (.int i)
omit hK in
theorem OR.sh_bl {G : Gm} {F : Frm} {Z : Hp} {L : List Addr} {r : Ev} {S : Store} {σ : L2.St} {H : Hp} {Q : VK} {i : Bool} (B : BRel G x F Z L r S σ H) (P : OR G x F Z L r S σ (oBl i) Q) : Q (.bl i) H := P Z H _ (Same.refl _) B (.bl i)
omit hK in
theorem OR.sh_str {G : Gm} {F : Frm} {Z : Hp} {L : List Addr} {r : Ev} {S : Store} {σ : L2.St} {H : Hp} {Q : VK} {y : Str} (B : BRel G x F Z L r S σ H) (h1 : PyData.strOk y = true) (h2 : y.length ≤ sizeLine) (P : OR G x F Z L r S σ (.sh (.str y)) Q) : Q (.str y) H := P Z H _ (Same.refl _) B (.str y h1 h2)
theorem rI0_I {f : Value → Value → Sem Value} {g : Int → Int → V} (h : OpR X f (rI0 g)) : OpR X f (rI (fun _ _ => True) g) := by
  intro pins s σ0 H u w v v' Q I ru rw' ⟨i, j, e1, e2, _, q⟩
  exact h pins s σ0 H _ _ v v' Q I ru rw' ⟨i, j, e1, e2, q⟩
theorem o_sub : OpR X (binaryOp .Sub) (r2 G x subV) := o_int2 hK (rI0_I hK op_sub) fun a b Q G' F Z L r S σ H B P => by
  unfold subV at P
  split at P
  · exact ⟨_, _, rfl, rfl, trivial, P.sh_int B⟩
  · exact P.elim
theorem o_mul : OpR X (binaryOp .Mult) (r2 G x mulV) := o_int2 hK op_mul fun a b Q G' F Z L r S σ H B P => by
  unfold mulV at P
  split at P
  · split at P
    · rename_i i j h
      refine ⟨_, _, rfl, rfl, ?_, P.sh_int B⟩
      unfold mulOk at h
      unfold CMul
      simpa using h
    · exact P.elim
  · exact P.elim
theorem o_fdiv : OpR X (binaryOp .FloorDiv) (r2 G x fdivV) := o_int2 hK op_fdiv fun a b Q G' F Z L r S σ H B P => by
  unfold fdivV at P
  split at P
  · split at P
    · rename_i i j h
      refine ⟨_, _, rfl, rfl, ?_, P.sh_int B⟩
      unfold CDiv
      simpa using h
    · exact P.elim
  · exact P.elim
theorem o_mod : OpR X (binaryOp .Mod) (r2 G x modV) := o_int2 hK op_mod fun a b Q G' F Z L r S σ H B P => by
  unfold modV at P
  split at P
  · split at P
    · rename_i i j h
      exact ⟨_, _, rfl, rfl, h, P.sh_int B⟩
    · exact P.elim
  · exact P.elim
theorem o_pow : OpR X (binaryOp .Pow) (r2 G x powV) := o_int2 hK op_pow fun a b Q G' F Z L r S σ H B P => by
  unfold powV at P
  split at P
  · split at P
    · rename_i i j h
      refine ⟨_, _, rfl, rfl, ?_, P.sh_int B⟩
      unfold CPow
      simp only [Bool.and_eq_true, decide_eq_true_eq] at h
      exact ⟨h.1.1, h.1.2, h.2⟩
    · exact P.elim
  · exact P.elim
theorem o_cmpI {op : CmpOp} {g : Int → Int → Bool} (h : OpR X (compareOp op) (rI0 fun i j => .bl (g i j))) : OpR X (compareOp op) (r2 G x (cmpI g)) := o_int2 hK (rI0_I hK h) fun a b Q G' F Z L r S σ H B P => by
  unfold cmpI at P
  split at P
  · exact ⟨_, _, rfl, rfl, trivial, P.sh_bl B⟩
  · exact P.elim
theorem o_neg : UnR X (unaryOp .USub) (r1 G x negV) := by
  intro pins s σ0 H u v Q I ru ⟨F, Z, L, r, S, σ, a, B, Ta, P⟩
  unfold negV at P
  split at P
  · cases Ta.int
    exact un_neg pins s σ0 H _ v Q I ru ⟨_, rfl, P.sh_int B⟩
  · exact P.elim
theorem o_eq (hu : X.A.units + 64 < cLine) : OpR X (compareOp .Eq) (r2 G x eqO) := by
  intro pins s σ0 H u w v v' Q I ru rw' ⟨F, Z, L, r, S, σ, a, b, B, Ta, Tb, P⟩
  unfold eqO at P
  split at P
  · rename_i h
    rw [Bool.and_eq_true] at h
    obtain ⟨d1, l1, p1⟩ := Ta.dp B.h.zs h.1
    obtain ⟨d2, l2, p2⟩ := Tb.dp B.h.zs h.2
    rw [← hK] at d1 d2
    refine op_eqD hu pins s σ0 H _ _ v v' Q I ru rw' ⟨_, _, d1, d2, ?_, ?_, ?_⟩
    · unfold SeqAt.shaped; rw [l1, Bool.true_and]; exact decide_eq_true (by unfold dD at p1; omega)
    · unfold SeqAt.shaped; rw [l2, Bool.true_and]; exact decide_eq_true (by unfold dD at p2; omega)
    · rw [eqv_toD _ _ a b h.1 h.2]; exact P.sh_bl B
  · exact P.elim
theorem o_ne (hu : X.A.units + 64 < cLine) : OpR X (compareOp .NotEq) (r2 G x neO) := by
  intro pins s σ0 H u w v v' Q I ru rw' ⟨F, Z, L, r, S, σ, a, b, B, Ta, Tb, P⟩
  unfold neO at P
  split at P
  · rename_i h
    rw [Bool.and_eq_true] at h
    obtain ⟨d1, l1, p1⟩ := Ta.dp B.h.zs h.1
    obtain ⟨d2, l2, p2⟩ := Tb.dp B.h.zs h.2
    rw [← hK] at d1 d2
    refine op_neD hu pins s σ0 H _ _ v v' Q I ru rw' ⟨_, _, d1, d2, ?_, ?_, ?_⟩
    · unfold SeqAt.shaped; rw [l1, Bool.true_and]; exact decide_eq_true (by unfold dD at p1; omega)
    · unfold SeqAt.shaped; rw [l2, Bool.true_and]; exact decide_eq_true (by unfold dD at p2; omega)
    · rw [eqv_toD _ _ a b h.1 h.2]; exact P.sh_bl B
  · exact P.elim
omit hK in
theorem toDs_any {n m : Nat} {a : PV} (ha : isD m a = true) : ∀ (xs : List PV), (∀ y ∈ xs, isD n y = true) → (toDs xs).any (fun z => PyData.eqv z (toD a)) = xs.any fun y => pyEq y a
  | [], _ => rfl
  | y :: ys, h => by
    simp only [toDs, List.any_cons]
    rw [eqv_toD n m y a (h y List.mem_cons_self) ha, toDs_any ha ys fun z hz => h z (List.mem_cons_of_mem _ hz)]
theorem o_in (hu : X.A.units + 65 < cLine) (ng : Bool) : OpR X (compareOp (if ng then .NotIn else .In)) (r2 G x (inV ng)) := by
  intro pins s σ0 H u w v v' Q I ru rw' ⟨F, Z, L, r, S, σ, a, b, B, Ta, Tb, P⟩
  unfold inV at P
  split at P
  · rename_i xs
    split at P
    · rename_i h
      rw [Bool.and_eq_true] at h
      obtain ⟨d1, l1, p1⟩ := Ta.dp B.h.zs h.1
      obtain ⟨d2, l2, p2⟩ := Tb.dp B.h.zs h.2
      rw [← hK] at d1 d2
      obtain ⟨as, k1⟩ := Dp.reads I _ u v d1 ru
      obtain ⟨bs, k2⟩ := Dp.reads I _ w v' d2 rw'
      have hx : ∀ y ∈ xs, isD 39 y = true := by have := h.2; simpa [isD, dD] using this
      have hdep : PyData.depthAll (toDs xs) ≤ 39 := toDs_depth 39 xs hx
      have hroom : X.A.units + 1 + min (PyData.depthAll (toDs xs)) (toD a).depth < cLine := by
        have : min (PyData.depthAll (toDs xs)) (toD a).depth ≤ PyData.depthAll (toDs xs) := Nat.min_le_left _ _
        omega
      have hlay : PyData.canLayAll0 (toDs xs) = true := by simpa [toD, PyData.canLay0] using l2
      have e := toDs_any h.1 xs hx
      simp only [toD] at k2
      cases ng with
      | false => exact SeqAt.in_list_reads k2 k1 hlay l1 hroom ⟨.bl _, H, I, rfl, by rw [e]; simpa using P.sh_bl B⟩
      | true => exact SeqAt.notIn_list_reads k2 k1 hlay l1 hroom ⟨.bl _, H, I, rfl, by rw [e]; simpa using P.sh_bl B⟩
    · exact P.elim
  · rename_i xs
    split at P
    · rename_i h
      rw [Bool.and_eq_true] at h
      obtain ⟨d1, l1, p1⟩ := Ta.dp B.h.zs h.1
      obtain ⟨d2, l2, p2⟩ := Tb.dp B.h.zs h.2
      rw [← hK] at d1 d2
      obtain ⟨as, k1⟩ := Dp.reads I _ u v d1 ru
      obtain ⟨bs, k2⟩ := Dp.reads I _ w v' d2 rw'
      have hx : ∀ y ∈ xs, isD 39 y = true := by have := h.2; simpa [isD, dD] using this
      have hdep : PyData.depthAll (toDs xs) ≤ 39 := toDs_depth 39 xs hx
      have hroom : X.A.units + 1 + min (PyData.depthAll (toDs xs)) (toD a).depth < cLine := by
        have : min (PyData.depthAll (toDs xs)) (toD a).depth ≤ PyData.depthAll (toDs xs) := Nat.min_le_left _ _
        omega
      have hlay : PyData.canLayAll0 (toDs xs) = true := by simpa [toD, PyData.canLay0] using l2
      have e := toDs_any h.1 xs hx
      simp only [toD] at k2
      cases ng with
      | false => exact SeqAt.in_tuple_reads k2 k1 hlay l1 hroom ⟨.bl _, H, I, rfl, by rw [e]; simpa using P.sh_bl B⟩
      | true => exact SeqAt.notIn_tuple_reads k2 k1 hlay l1 hroom ⟨.bl _, H, I, rfl, by rw [e]; simpa using P.sh_bl B⟩
    · exact P.elim
  · split at P
    · split at P
      · rename_i y v9 x' l9 c hc
        obtain ⟨e1, _, _⟩ := Ta.str
        obtain ⟨e2, _, _⟩ := Tb.str
        subst e1 e2
        have hx : x' = ⟨#[c]⟩ := by
          cases x' with
          | mk cps =>
            have : cps = #[c] := by
              have := congrArg List.toArray hc
              simpa using this
            rw [this]
        have e := StrLaws.found_one y c
        rw [← hx] at e
        cases ng with
        | false => exact op_in_str pins s σ0 H _ _ v v' Q I ru rw' ⟨_, _, rfl, rfl, by rw [e]; simpa using P.sh_bl B⟩
        | true => exact L2.op_notin_str pins s σ0 H _ _ v v' Q I ru rw' ⟨_, _, rfl, rfl, by rw [e]; simpa using P.sh_bl B⟩
      · exact P.elim
    · exact P.elim
  · split at P
    · rename_i hd; simp [dctOn] at hd
    · exact P.elim
  · exact P.elim

theorem o_isN : OpR X (compareOp .Is) (fun u w H Q => w = .non ∧ r1 G x (fun a => oBl (isNV a)) u H Q) := by
  intro pins s σ0 H u w v v' Q I ru rw' ⟨e, F, Z, L, r, S, σ, a, B, Ta, P⟩
  refine op_isN pins s σ0 H _ _ v v' Q I ru rw' ⟨e, ?_⟩
  have q := P.sh_bl B
  have e2 : isNV a = decide (u = .non) := by
    cases a with
    | non => rw [Ta.non]; rfl
    | _ =>
      symm
      refine decide_eq_false fun z => ?_
      subst z
      rcases Ta with t | ⟨_, e, _⟩
      · cases t
      · cases e
  rw [← e2]; exact q
theorem o_ntN : OpR X (compareOp .IsNot) (fun u w H Q => w = .non ∧ r1 G x (fun a => oBl (!isNV a)) u H Q) := by
  intro pins s σ0 H u w v v' Q I ru rw' ⟨e, F, Z, L, r, S, σ, a, B, Ta, P⟩
  refine op_notN pins s σ0 H _ _ v v' Q I ru rw' ⟨e, ?_⟩
  have q := P.sh_bl B
  have e2 : isNV a = decide (u = .non) := by
    cases a with
    | non => rw [Ta.non]; rfl
    | _ =>
      symm
      refine decide_eq_false fun z => ?_
      subst z
      rcases Ta with t | ⟨_, e, _⟩
      · cases t
      · cases e
  rw [← e2]; exact q
omit hK in
theorem strOk_one {y : Str} {c : Nat} (h : PyData.strOk y = true) (hc : c ∈ y.cps.toList) : PyData.strOk ⟨#[c]⟩ = true := by
  unfold PyData.strOk at *
  rw [Array.all_eq_true] at h
  obtain ⟨i, hi, e⟩ := List.getElem_of_mem hc
  have := h i (by simpa using hi)
  simp only [Array.getElem_toList] at e
  rw [e] at this
  simp [this]
omit hK in
theorem atI_eq {α : Type} (xs : List α) (i : Int) : Ci.atI xs i = L2.atI xs i := by
  unfold Ci.atI L2.atI ixN
  split
  · split
    · rfl
    · rename_i h1 h2
      rw [List.getElem?_eq_none (by omega)]; rfl
  · split
    · rfl
    · rfl
omit hK in
theorem atI_mem {α : Type} {xs : List α} {i : Int} {v : α} (h : Ci.atI xs i = some v) : ∃ j : Nat, xs[j]? = some v ∧ ∀ (ys : List V), ys.length = xs.length → L2.atI ys i = ys[j]? := by
  rw [atI_eq] at h
  unfold L2.atI at h
  cases e : ixN xs.length i with
  | none => rw [e] at h; cases h
  | some j =>
    rw [e] at h
    refine ⟨j, h, fun ys hl => ?_⟩
    unfold L2.atI
    rw [hl, e]; rfl
theorem o_idx : IxR X (r2 G x idxV) := by
  intro ve se pins s σ0 H u w v v' Q I ru rw' ⟨F, Z, L, r, S, σ, a, b, B, Ta, Tb, P⟩ hs
  unfold idxV at P
  split at P
  · split at P
    · rename_i xs i o9 v1 hv
      obtain ⟨p, vs, rfl, h1, h2⟩ := Ta.lst B.h.zs
      cases Tb.int
      obtain ⟨j, e1, e2⟩ := atI_mem hv
      obtain ⟨vv, e3, rv⟩ := h2.get e1
      refine ix_list ve se pins s σ0 H _ _ v v' Q I ru rw' ⟨p, vs, i, vv, rfl, rfl, by rw [hK]; exact h1, ?_, P Z H vv (Same.refl _) B rv⟩ hs
      rw [e2 vs h2.length.symm]; exact e3
    · exact P.elim
  · split at P
    · rename_i xs i o9 v1 hv
      obtain ⟨p, vs, rfl, h1, h2⟩ := Ta.tup
      cases Tb.int
      obtain ⟨j, e1, e2⟩ := atI_mem hv
      obtain ⟨vv, e3, rv⟩ := h2.get e1
      refine ix_tup ve se pins s σ0 H _ _ v v' Q I ru rw' ⟨p, vs, i, vv, rfl, rfl, by rw [hK]; exact SqT.up B.h.zs h1, ?_, P Z H vv (Same.refl _) B rv⟩ hs
      rw [e2 vs h2.length.symm]; exact e3
    · exact P.elim
  · split at P
    · rename_i y i o9 c hc
      obtain ⟨rfl, k1, k2⟩ := Ta.str
      cases Tb.int
      have hm : c ∈ y.cps.toList := by
        rw [atI_eq] at hc
        obtain ⟨j, _, e, _⟩ := atI_get hc
        exact List.mem_of_getElem? e
      refine ix_str ve se pins s σ0 H _ _ v v' Q I ru rw' ⟨y, i, c, rfl, rfl, k2, by rw [← atI_eq]; exact hc, P.sh_str B (strOk_one k1 hm) (by show 1 ≤ sizeLine; rw [sizeLine_eq]; decide)⟩ hs
    · exact P.elim
  · split at P
    · rename_i hd; simp [dctOn] at hd
    · exact P.elim
  · exact P.elim
/-! ### slices -/
omit hK in
theorem sIx_eq (n d : Nat) (o : Option Int) : HT.sIx n d o = nSl n d o := by cases o <;> rfl
omit hK in
theorem cut_eq (xs : List V) (lo hi : Option Int) : cutV xs lo hi = cut xs lo hi := by
  unfold cutV cut
  rw [sIx_eq, sIx_eq]
omit hK in
theorem Reps.cut {Z : Hp} {L : List Addr} {xs : List PV} {vs : List V} (h : Reps G Z L xs vs) (lo hi : Option Int) : Reps G Z L (Ci.cut xs lo hi) (cutV vs lo hi) := by
  rw [cut_eq]
  unfold Ci.cut
  rw [h.length]
  exact (h.drop _).take _

/-- a slice without step -/
def rS (G : Gm) (x : Exi) : V → Option Int → Option Int → Hp → VK → Prop := fun u lo hi H Q => ∃ F Z L r S σ a, BRel G x F Z L r S σ H ∧ TopR G Z L H a u ∧ OR G x F Z L r S σ (slcRun lo hi none a) Q
theorem o_slc : L2.SlR X (rS G x) := by
  intro pins s σ0 H u v vl vu lo hi sl Q I ru hs pl pu ⟨F, Z, L, r, S, σ, a, B, Ta, P⟩
  unfold slcRun at P
  dsimp only at P
  split at P
  · rename_i xs
    obtain ⟨p, vs, rfl, h1, h2⟩ := Ta.tup
    refine sl_tupA pins s σ0 H _ v vl vu lo hi sl Q I ru hs pl pu ⟨p, vs, rfl, by rw [hK]; exact SqT.up B.h.zs h1, fun hw => ?_, fun hw p' hp => ?_⟩
    · have e : cut xs lo hi = xs := by
        rw [sIx_eq, sIx_eq, ← h2.length] at hw
        unfold cut
        rw [hw.1, hw.2]; simp
      rw [e] at P
      exact P Z H _ (Same.refl _) B (.tup h1 h2)
    · obtain ⟨B', R'⟩ := B.newT hp (h2.cut lo hi)
      exact P _ _ _ (same_upd (B.free hp).1) B' R'
  · rename_i xs
    obtain ⟨p, vs, rfl, h1, h2⟩ := Ta.lst B.h.zs
    refine sl_list pins s σ0 H _ v vl vu lo hi sl Q I ru hs pl pu ⟨p, vs, rfl, by rw [hK]; exact h1, fun p' hp => ?_⟩
    obtain ⟨B', V'⟩ := B.newL hp (h2.cut lo hi)
    exact P _ _ B' V'
  · rename_i y
    obtain ⟨rfl, k1, k2⟩ := Ta.str
    have hle : (cutS y lo hi).length ≤ y.length := by
      show (((y.cps.toList.drop (HT.sIx y.length 0 lo)).take (HT.sIx y.length y.length hi - HT.sIx y.length 0 lo)).toArray).size ≤ y.cps.size
      rw [List.size_toArray, List.length_take, List.length_drop, Array.length_toList]
      omega
    have e : cutS y lo hi = ⟨(cut y.cps.toList lo hi).toArray⟩ := by
      unfold cutS cut
      rw [sIx_eq, sIx_eq]
      simp only [Str.length, Array.length_toList]
    refine sl_str pins s σ0 H _ v vl vu lo hi sl Q I ru hs pl pu ⟨y, rfl, k2, ?_⟩
    rw [e] at hle ⊢
    refine P.sh_str B ?_ (Nat.le_trans hle k2)
    unfold PyData.strOk at *
    rw [Array.all_eq_true] at k1
    rw [List.all_toArray, List.all_eq_true]
    intro c hc
    have hm : c ∈ y.cps.toList := List.mem_of_mem_drop (List.mem_of_mem_take hc)
    obtain ⟨i, hi', e'⟩ := List.getElem_of_mem hm
    have := k1 i (by simpa using hi')
    simp only [Array.getElem_toList] at e'
    rw [e'] at this
    exact this
  · exact P.elim
/-! ### calls of built-ins -/
def r1c (G : Gm) (x : Exi) (f : PV → ORes) : List V → Hp → VK → Prop := fun us H Q => ∃ u, us = [u] ∧ r1 G x f u H Q
def r2c (G : Gm) (x : Exi) (f : PV → PV → ORes) : List V → Hp → VK → Prop := fun us H Q => ∃ u w, us = [u, w] ∧ r2 G x f u w H Q
omit hK in
theorem call_of {f : Value} {r r' : List V → Hp → VK → Prop} (h : CallR X f r) (k : ∀ us H Q, r' us H Q → r us H Q) : CallR X f r' := fun pins s σ H xs us Q I rv q => h pins s σ H xs us Q I rv (k _ _ _ q)
theorem o_abs : CallR X (.builtin "abs") (r1c G x absV') := call_of call_abs fun us H Q ⟨u, e, F, Z, L, r, S, σ, a, B, Ta, P⟩ => by
  unfold absV' at P
  split at P
  · cases Ta.int
    exact ⟨_, e, P.sh_int B⟩
  · exact P.elim
theorem o_min2 (hc : X.calm = true) : CallR X (.builtin "min") (r2c G x min2V) := call_of (call_min2 hc) fun us H Q ⟨u, w, e, F, Z, L, r, S, σ, a, b, B, Ta, Tb, P⟩ => by
  unfold min2V at P
  split at P
  · cases Ta.int; cases Tb.int
    exact ⟨_, _, e, P.sh_int B⟩
  · exact P.elim
theorem o_max2 (hc : X.calm = true) : CallR X (.builtin "max") (r2c G x max2V) := call_of (call_max2 hc) fun us H Q ⟨u, w, e, F, Z, L, r, S, σ, a, b, B, Ta, Tb, P⟩ => by
  unfold max2V at P
  split at P
  · cases Ta.int; cases Tb.int
    exact ⟨_, _, e, P.sh_int B⟩
  · exact P.elim
theorem o_len : CallR X (.builtin "len") (r1c G x lenV) := by
  intro pins s σ0 H xs us Q I rv ⟨u, e, F, Z, L, r, S, σ, a, B, Ta, P⟩
  subst e
  unfold lenV at P
  split at P
  · obtain ⟨p, vs, rfl, h1, h2⟩ := Ta.lst B.h.zs
    refine call_len pins s σ0 H _ us Q I rv ⟨_, vs.length, rfl, .inl ⟨vs, by rw [hK]; exact h1, rfl⟩, ?_⟩
    rw [← h2.length]; exact P.sh_int B
  · obtain ⟨p, vs, rfl, h1, h2⟩ := Ta.tup
    refine call_len pins s σ0 H _ us Q I rv ⟨_, vs.length, rfl, .inr ⟨vs, by rw [hK]; exact SqT.up B.h.zs h1, rfl⟩, ?_⟩
    rw [← h2.length]; exact P.sh_int B
  · obtain ⟨rfl, k1, k2⟩ := Ta.str
    exact call_len pins s σ0 H _ us Q I rv ⟨_, _, rfl, ⟨k2, rfl⟩, P.sh_int B⟩
  · split at P
    · rename_i hd; simp [dctOn] at hd
    · exact P.elim
  · exact P.elim
theorem o_tuple : CallR X (.type "tuple") (r1c G x tupleV) := call_of call_tuple_of fun us H Q ⟨u, e, F, Z, L, r, S, σ, a, B, Ta, P⟩ => by
  unfold tupleV lsV at P
  cases a with
  | lst xs =>
    obtain ⟨p, vs, rfl, h1, h2⟩ := Ta.lst B.h.zs
    refine ⟨p, vs, e, .inl ⟨by rw [hK]; exact h1, fun l hl => ?_⟩⟩
    obtain ⟨B', R'⟩ := B.newT hl h2
    exact P _ _ _ (same_upd (B.free hl).1) B' R'
  | tup xs =>
    obtain ⟨p, vs, rfl, h1, h2⟩ := Ta.tup
    exact ⟨p, vs, e, .inr ⟨by rw [hK]; exact SqT.up B.h.zs h1, P Z H _ (Same.refl _) B (.tup h1 h2)⟩⟩
  | _ => exact P.elim
theorem o_list : CallR X (.type "list") (r1c G x fun a => match lsV a with | some xs => .fr (.lst xs) | none => .bad 43) := call_of call_list_of fun us H Q ⟨u, e, F, Z, L, r, S, σ, a, B, Ta, P⟩ => by
  unfold lsV at P
  cases a with
  | lst xs =>
    obtain ⟨p, vs, rfl, h1, h2⟩ := Ta.lst B.h.zs
    refine ⟨p, vs, e, .inl (by rw [hK]; exact h1), fun l hl => ?_⟩
    obtain ⟨B', V'⟩ := B.newL hl h2
    exact P _ _ B' V'
  | tup xs =>
    obtain ⟨p, vs, rfl, h1, h2⟩ := Ta.tup
    refine ⟨p, vs, e, .inr (by rw [hK]; exact SqT.up B.h.zs h1), fun l hl => ?_⟩
    obtain ⟨B', V'⟩ := B.newL hl h2
    exact P _ _ B' V'
  | _ => exact P.elim
theorem o_intI : CallR X (.type "int") (r1c G x fun a => match a with | .int i => oInt i | .bl b => oInt (if b then 1 else 0) | _ => .bad 59) := call_of call_int1 fun us H Q ⟨u, e, F, Z, L, r, S, σ, a, B, Ta, P⟩ => by
  dsimp only at P
  split at P
  · cases Ta.int
    exact .inl ⟨_, e, P.sh_int B⟩
  · cases Ta.bl
    exact .inr ⟨_, e, P.sh_int B⟩
  · exact P.elim
end
end Ci
/-! order of data, as the library says it -/
namespace Ci
open PySem L2 PyProof.Rows
mutual
theorem alk_toD : ∀ (a b : PV), Ci.alike a b = true → PySem.W.alike (toD a) (toD b) = true
  | .non, b, h => by cases b <;> first | (simp [toD, PySem.W.alike]; done) | (simp [Ci.alike] at h; done)
  | .bl _, b, h => by cases b <;> first | (simp [toD, PySem.W.alike]; done) | (simp [Ci.alike] at h; done)
  | .int _, b, h => by cases b <;> first | (simp [toD, PySem.W.alike]; done) | (simp [Ci.alike] at h; done)
  | .str _, b, h => by cases b <;> first | (simp [toD, PySem.W.alike]; done) | (simp [Ci.alike] at h; done)
  | .lst xs, b, h => by
    cases b with
    | lst ys => simp only [toD, PySem.W.alike]; exact alk_toDs xs ys (by simpa [Ci.alike] using h)
    | _ => simp [Ci.alike] at h
  | .tup xs, b, h => by
    cases b with
    | tup ys => simp only [toD, PySem.W.alike]; exact alk_toDs xs ys (by simpa [Ci.alike] using h)
    | _ => simp [Ci.alike] at h
  | .dct _, b, h => by cases b <;> simp [Ci.alike] at h
  | .loc _, b, h => by cases b <;> simp [Ci.alike] at h
  | .obj _ _, b, h => by cases b <;> simp [Ci.alike] at h
  | .fn _, b, h => by cases b <;> simp [Ci.alike] at h
theorem alk_toDs : ∀ (xs ys : List PV), Ci.alikes xs ys = true → PySem.W.alikeAll (toDs xs) (toDs ys) = true
  | [], _, _ => by simp [toDs, PySem.W.alikeAll]
  | _ :: _, [], _ => by simp [toDs, PySem.W.alikeAll]
  | x :: xs, y :: ys, h => by
    simp only [Ci.alikes, Bool.and_eq_true] at h
    simp only [toDs, PySem.W.alikeAll, Bool.and_eq_true]
    exact ⟨alk_toD x y h.1, alk_toDs xs ys h.2⟩
end
theorem lt_bools (a b : Bool) : decide (PyProof.Rows.b2i a < PyProof.Rows.b2i b) = (!a && b) := by cases a <;> cases b <;> decide
mutual
theorem lt_toD : ∀ (n m : Nat) (v w : PV), isD n v = true → isD m w = true → Ci.alike v w = true → PySem.W.dataLt (toD v) (toD w) = pyLt v w
  | n, m, .non, b, h1, h2, h => by
    cases b with
    | non => simp only [toD, pyLt]; decide +kernel
    | _ => simp [Ci.alike] at h
  | n, m, .bl a, b, h1, h2, h => by
    cases b with
    | bl b => simp only [toD, pyLt]; rw [PySem.W.dataLt_bool]; exact lt_bools a b
    | _ => simp [Ci.alike] at h
  | n, m, .int a, b, h1, h2, h => by
    cases b with
    | int b => simp only [toD, pyLt]; rw [PySem.W.dataLt_int]
    | _ => simp [Ci.alike] at h
  | n, m, .str a, b, h1, h2, h => by
    cases b with
    | str b => simp only [toD, pyLt]; rw [PySem.W.dataLt_str]
    | _ => simp [Ci.alike] at h
  | 0, m, .lst xs, b, h1, h2, h => by simp [isD] at h1
  | 0, m, .tup xs, b, h1, h2, h => by simp [isD] at h1
  | n + 1, m, .lst xs, b, h1, h2, h => by
    cases b with
    | lst ys =>
      cases m with
      | zero => simp [isD] at h2
      | succ m =>
        simp only [toD, pyLt]; rw [PySem.W.dataLt_list]
        exact lt_toDs n m xs ys (by simpa [isD] using h1) (by simpa [isD] using h2) (by simpa [Ci.alike] using h)
    | _ => simp [Ci.alike] at h
  | n + 1, m, .tup xs, b, h1, h2, h => by
    cases b with
    | tup ys =>
      cases m with
      | zero => simp [isD] at h2
      | succ m =>
        simp only [toD, pyLt]; rw [PySem.W.dataLt_tuple]
        exact lt_toDs n m xs ys (by simpa [isD] using h1) (by simpa [isD] using h2) (by simpa [Ci.alike] using h)
    | _ => simp [Ci.alike] at h
  | n, m, .dct _, b, _, _, h => by cases b <;> simp [Ci.alike] at h
  | n, m, .loc _, b, _, _, h => by cases b <;> simp [Ci.alike] at h
  | n, m, .obj _ _, b, _, _, h => by cases b <;> simp [Ci.alike] at h
  | n, m, .fn _, b, _, _, h => by cases b <;> simp [Ci.alike] at h
theorem lt_toDs : ∀ (n m : Nat) (xs ys : List PV), (∀ x ∈ xs, isD n x = true) → (∀ y ∈ ys, isD m y = true) → Ci.alikes xs ys = true → PyProof.Rows.lexLt itemOrd (PySem.W.keyToksAll (toDs xs)) (PySem.W.keyToksAll (toDs ys)) = pyLts xs ys
  | n, m, [], [], _, _, _ => by simp only [toDs, pyLts]; exact PyProof.Rows.lex_irrefl _
  | n, m, [], y :: ys, _, _, _ => by
    simp only [toDs, pyLts, PySem.W.keyToksAll]
    rw [PySem.W.lex_atom (by simp), PySem.W.lex_one]; decide +kernel
  | n, m, x :: xs, [], _, _, _ => by
    simp only [toDs, pyLts, PySem.W.keyToksAll]
    rw [PySem.W.lex_atom (by simp), PySem.W.lex_one]; decide +kernel
  | n, m, x :: xs, y :: ys, h1, h2, h => by
    simp only [Ci.alikes, Bool.and_eq_true] at h
    have e := eqv_toD n m x y (h1 x List.mem_cons_self) (h2 y List.mem_cons_self)
    simp only [toDs, pyLts]
    cases q : pyEq x y with
    | true =>
      rw [if_pos rfl, PySem.W.dataLt_all_yes (alk_toD x y h.1) (by rw [e, q])]
      exact lt_toDs n m xs ys (fun z hz => h1 z (List.mem_cons_of_mem _ hz)) (fun z hz => h2 z (List.mem_cons_of_mem _ hz)) h.2
    | false =>
      rw [if_neg (by decide), PySem.W.dataLt_all_no (alk_toD x y h.1) (by rw [e, q])]
      exact lt_toD n m x y (h1 x List.mem_cons_self) (h2 y List.mem_cons_self) h.1
end
/-! ### what sorted, min and max take -/
theorem srtOk_parts {xs : List PV} (h : srtOk xs = true) : (∀ x ∈ xs, isD dD x = true) ∧ (∀ x ∈ xs, ∀ y ∈ xs, Ci.alike x y = true) ∧ ((∀ x ∈ xs, tup1 x = true) ∨ ∀ x ∈ xs, tupN x = false) := by
  unfold srtOk at h
  simp only [Bool.and_eq_true, Bool.or_eq_true, List.all_eq_true, Bool.not_eq_true'] at h
  exact ⟨h.1.1, h.1.2, h.2⟩
theorem toDs_map : ∀ xs : List PV, toDs xs = xs.map toD
  | [] => rfl
  | x :: xs => by simp only [toDs, List.map_cons, toDs_map xs]
mutual
theorem toD_inj : ∀ (n m : Nat) (v w : PV), isD n v = true → isD m w = true → toD v = toD w → v = w
  | n, m, .non, b, h1, h2, h => by cases b <;> first | rfl | (simp [toD] at h; done) | (cases m <;> simp [isD] at h2)
  | n, m, .bl _, b, h1, h2, h => by cases b <;> first | (simp [toD] at h; done) | (simp [toD] at h; rw [h])
  | n, m, .int _, b, h1, h2, h => by cases b <;> first | (simp [toD] at h; done) | (simp [toD] at h; rw [h])
  | n, m, .str _, b, h1, h2, h => by cases b <;> first | (simp [toD] at h; done) | (simp [toD] at h; rw [h])
  | 0, m, .lst xs, b, h1, h2, h => by simp [isD] at h1
  | 0, m, .tup xs, b, h1, h2, h => by simp [isD] at h1
  | n + 1, m, .lst xs, b, h1, h2, h => by
    cases b with
    | lst ys =>
      cases m with
      | zero => simp [isD] at h2
      | succ m =>
        rw [toDs_inj n m xs ys (by simpa [isD] using h1) (by simpa [isD] using h2) (by simpa [toD] using h)]
    | _ => simp [toD] at h
  | n + 1, m, .tup xs, b, h1, h2, h => by
    cases b with
    | tup ys =>
      cases m with
      | zero => simp [isD] at h2
      | succ m =>
        rw [toDs_inj n m xs ys (by simpa [isD] using h1) (by simpa [isD] using h2) (by simpa [toD] using h)]
    | _ => simp [toD] at h
  | n, m, .dct _, b, h1, _, h => by cases n <;> simp [isD] at h1
  | n, m, .loc _, b, h1, _, h => by cases n <;> simp [isD] at h1
  | n, m, .obj _ _, b, h1, _, h => by cases n <;> simp [isD] at h1
  | n, m, .fn _, b, h1, _, h => by cases n <;> simp [isD] at h1
theorem toDs_inj : ∀ (n m : Nat) (xs ys : List PV), (∀ x ∈ xs, isD n x = true) → (∀ y ∈ ys, isD m y = true) → toDs xs = toDs ys → xs = ys
  | n, m, [], [], _, _, _ => rfl
  | n, m, [], y :: ys, _, _, h => by simp [toDs] at h
  | n, m, x :: xs, [], _, _, h => by simp [toDs] at h
  | n, m, x :: xs, y :: ys, h1, h2, h => by
    simp only [toDs, List.cons.injEq] at h
    rw [toD_inj n m x y (h1 x List.mem_cons_self) (h2 y List.mem_cons_self) h.1, toDs_inj n m xs ys (fun z hz => h1 z (List.mem_cons_of_mem _ hz)) (fun z hz => h2 z (List.mem_cons_of_mem _ hz)) h.2]
end
theorem toD_ne {n : Nat} {v : PV} (h : isD n v = true) (h2 : tup1 v = true ∨ tupN v = false) : toD v ≠ .none := by
  cases v with
  | non => rcases h2 with h2 | h2 <;> simp [tup1, tupN] at h2
  | dct _ => cases n <;> simp [isD] at h
  | loc _ => cases n <;> simp [isD] at h
  | obj _ _ => cases n <;> simp [isD] at h
  | fn _ => cases n <;> simp [isD] at h
  | _ => simp [toD]
theorem alk_all {xs : List PV} (h : srtOk xs = true) : PySem.W.AlikeAll (toDs xs) := by
  obtain ⟨h1, h2, h3⟩ := srtOk_parts h
  rw [toDs_map]
  refine ⟨fun x hx y hy => ?_, fun x hx => ?_⟩
  · obtain ⟨a, ha, rfl⟩ := List.mem_map.mp hx
    obtain ⟨b, hb, rfl⟩ := List.mem_map.mp hy
    exact alk_toD a b (h2 a ha b hb)
  · obtain ⟨a, ha, rfl⟩ := List.mem_map.mp hx
    refine toD_ne (h1 a ha) ?_
    rcases h3 with h3 | h3
    · exact .inl (h3 a ha)
    · exact .inr (h3 a ha)
theorem fold_toD (g : PV → PV → Bool) (f : PyData → PyData → Bool) : ∀ (xs : List PV) (x : PV) (A : List PV), x ∈ A → (∀ y ∈ xs, y ∈ A) → (∀ a ∈ A, ∀ b ∈ A, f (toD a) (toD b) = g a b) →
    (toDs xs).foldl (fun a y => if f y a then y else a) (toD x) = toD (xs.foldl (fun m y => if g y m then y else m) x) ∧ xs.foldl (fun m y => if g y m then y else m) x ∈ A
  | [], x, A, hx, _, _ => ⟨rfl, hx⟩
  | y :: xs, x, A, hx, hs, hf => by
    have hy := hs y List.mem_cons_self
    simp only [toDs, List.foldl_cons]
    rw [hf y hy x hx]
    cases g y x with
    | true => exact fold_toD g f xs y A hy (fun z hz => hs z (List.mem_cons_of_mem _ hz)) hf
    | false => exact fold_toD g f xs x A hx (fun z hz => hs z (List.mem_cons_of_mem _ hz)) hf
section
variable {G : Gm} {x : Exi} {X : Cx}
/-- an item that is known by its data -/
theorem got {pins : List (Addr × Obj)} {s : Shared} {σ0 : L2.St} {H Z : Hp} {F : Frm} {L : List Addr} {r : Ev} {S : Store} {σ : L2.St} {xs : List PV} {vs : List V} {its : List Value} {M : PV} {i : Nat} {v : Value} {h' : Heap} {tk : Tok} {bs : List Addr} {Q : VK}
    (I : Inv X pins σ0 H s) (hK : X.K = G.K) (B : BRel G x F Z L r S σ H) (r2 : Reps G H L xs vs) (h2 : Reps G Z L xs vs) (k1 : ∀ x ∈ xs, isD dD x = true) (k2 : ∀ x ∈ xs, ∀ y ∈ xs, Ci.alike x y = true) (rv2 : Vals vs its) (f1 : True) (f2 : M ∈ xs) (hi : its.toArray[i]? = some v)
    (hr : Reads h' v (toD M) bs) (hk : ∀ b o, s.heap.get? b = some o → h'.get? b = some o) (k : ∀ u, Rep G Z L M u → Q u H) : EP X pins σ0 Q v { s with heap := h', toks := tk } := by
  have hi' : its[i]? = some v := by simpa using hi
  have hl : i < vs.length := by rw [rv2.length]; exact (List.getElem?_eq_some_iff.mp hi').1
  obtain ⟨uv, e1⟩ : ∃ uv, vs[i]? = some uv := ⟨_, List.getElem?_eq_getElem hl⟩
  obtain ⟨v', e2, rel⟩ := rv2.get e1
  rw [hi'] at e2; cases e2
  obtain ⟨xi, e3, rep⟩ := h2.getV e1
  have hm : xi ∈ xs := List.mem_of_getElem? e3
  have hd := toD_dp dD xi uv (k1 xi hm) (rep.up B.h.zs (List.prefix_refl _))
  rw [← hK] at hd
  obtain ⟨as, rd⟩ := Dp.reads I _ uv v hd rel
  have e : xi = M := toD_inj dD dD xi M (k1 xi hm) (k1 M f2) (PySem.W.alike_unique _ _ v _ _ (alk_toD xi M (k2 xi hm M f2)) (Reads.keeps hk rd) hr)
  subst e
  exact ⟨uv, H, I.kept hk, rel, k uv rep⟩
theorem o_min1 (hK : X.K = G.K) (hc : X.calm = true) (hu : X.A.units + 64 < cLine) : CallR X (.builtin "min") (r1c G x fun v => opV .min1 [v]) := by
  intro pins s σ0 H xs us Q I rv ⟨w, e, F, Z, L, r, S, σ, a, B, Ta, P⟩
  subst e
  have P' : OR G x F Z L r S σ (min1V a) Q := P
  unfold min1V lsV' at P'
  cases a with
  | lst xs =>
    simp only at P'
    split at P'
    · rename_i h
      simp only [minOn, Bool.true_or, Bool.true_and] at h
      obtain ⟨b, vs, rfl, h1, h2⟩ := Ta.lst B.h.zs
      obtain ⟨u, rfl, ru⟩ := vals1 rv
      cases ru
      cases xs with
      | nil => exact P'.elim
      | cons x0 xs =>
        obtain ⟨k1, k2, k3⟩ := srtOk_parts h
        obtain ⟨its, rv2, hl, hz⟩ := I.list (by rw [hK]; exact h1)
        have r2 : Reps G H L (x0 :: xs) vs := h2.up B.h.zs (List.prefix_refl _)
        have hd := toDs_dp dD _ _ k1 r2
        rw [← hK] at hd
        obtain ⟨as, rd⟩ := Dp.readsAll I _ vs its hd rv2
        obtain ⟨f1, f2⟩ := fold_toD pyLt PySem.W.dataLt xs x0 (x0 :: xs) List.mem_cons_self (fun y hy => List.mem_cons_of_mem _ hy) fun a ha b hb => lt_toD dD dD a b (k1 a ha) (k1 b hb) (k2 a ha b hb)
        refine PySem.W.min_list_data (I.ok.hd hc) hl.isList rd (alk_all h) ?_ fun i v h' tk bs hi hr hk => ?_
        · have := toDs_depth dD _ k1; simp only [toDs] at this
          unfold dD at this; omega
        · exact got I hK B r2 h2 k1 k2 rv2 trivial f2 hi (by rw [← f1]; exact hr) hk fun u T => P' Z H u (Same.refl _) B T
    · exact P'.elim
  | _ => exact P'.elim
theorem o_max1 (hK : X.K = G.K) (hc : X.calm = true) (hu : X.A.units + 64 < cLine) : CallR X (.builtin "max") (r1c G x fun v => opV .max1 [v]) := by
  intro pins s σ0 H xs us Q I rv ⟨w, e, F, Z, L, r, S, σ, a, B, Ta, P⟩
  subst e
  have P' : OR G x F Z L r S σ (max1V a) Q := P
  unfold max1V lsV' at P'
  cases a with
  | lst xs =>
    simp only at P'
    split at P'
    · rename_i h
      simp only [minOn, Bool.true_or, Bool.true_and] at h
      obtain ⟨b, vs, rfl, h1, h2⟩ := Ta.lst B.h.zs
      obtain ⟨u, rfl, ru⟩ := vals1 rv
      cases ru
      cases xs with
      | nil => exact P'.elim
      | cons x0 xs =>
        obtain ⟨k1, k2, k3⟩ := srtOk_parts h
        obtain ⟨its, rv2, hl, hz⟩ := I.list (by rw [hK]; exact h1)
        have r2 : Reps G H L (x0 :: xs) vs := h2.up B.h.zs (List.prefix_refl _)
        have hd := toDs_dp dD _ _ k1 r2
        rw [← hK] at hd
        obtain ⟨as, rd⟩ := Dp.readsAll I _ vs its hd rv2
        obtain ⟨f1, f2⟩ := fold_toD (fun a b => pyLt b a) (fun a b => PySem.W.dataLt b a) xs x0 (x0 :: xs) List.mem_cons_self (fun y hy => List.mem_cons_of_mem _ hy) fun a ha b hb => lt_toD dD dD b a (k1 b hb) (k1 a ha) (k2 b hb a ha)
        refine PySem.W.max_list_data (I.ok.hd hc) hl.isList rd (alk_all h) ?_ fun i v h' tk bs hi hr hk => ?_
        · have := toDs_depth dD _ k1; simp only [toDs] at this
          unfold dD at this; omega
        · exact got I hK B r2 h2 k1 k2 rv2 trivial f2 hi (by rw [← f1]; exact hr) hk fun u T => P' Z H u (Same.refl _) B T
    · exact P'.elim
  | _ => exact P'.elim
/-! ### sorted -/
theorem dataLe_py {xs : List PV} {vs : List V} (k1 : ∀ x ∈ xs, isD dD x = true) (k2 : ∀ x ∈ xs, ∀ y ∈ xs, Ci.alike x y = true) : ∀ p ∈ xs.zip vs, ∀ q ∈ xs.zip vs, PySem.W.dataLe false (fun p : PV × V => toD p.1) p q = pyLe p.1 q.1 := fun p hp q hq => by
  have h1 := (List.of_mem_zip hp).1
  have h2 := (List.of_mem_zip hq).1
  rw [PySem.W.dataLe_eq]
  show (!PySem.W.dataLt (toD q.1) (toD p.1)) = pyLe p.1 q.1
  rw [lt_toD dD dD q.1 p.1 (k1 _ h2) (k1 _ h1) (k2 _ h2 _ h1)]; rfl
theorem reps_zip {Z : Hp} {L : List Addr} : ∀ {xs : List PV} {vs : List V}, Reps G Z L xs vs → (xs.zip vs).map (·.1) = xs ∧ (xs.zip vs).map (·.2) = vs ∧ ∀ p ∈ xs.zip vs, Rep G Z L p.1 p.2
  | _, _, .nil => ⟨rfl, rfl, fun _ h => nomatch h⟩
  | _, _, .cons r t => by
    obtain ⟨h1, h2, h3⟩ := reps_zip t
    refine ⟨by simp [h1], by simp [h2], fun p hp => ?_⟩
    rcases List.mem_cons.mp hp with rfl | hp
    · exact r
    · exact h3 p hp
theorem reps_of_zip {Z : Hp} {L : List Addr} : ∀ {ps : List (PV × V)}, (∀ p ∈ ps, Rep G Z L p.1 p.2) → Reps G Z L (ps.map (·.1)) (ps.map (·.2))
  | [], _ => .nil
  | p :: ps, h => .cons (h p List.mem_cons_self) (reps_of_zip fun q hq => h q (List.mem_cons_of_mem _ hq))
theorem vals_each : ∀ {us : List Value} {ps : List (PV × V)}, PySem.W.EachIs (fun v (p : PV × V) => RelV p.2 v) us ps → Vals (ps.map (·.2)) us
  | _, _, .nil => .nil
  | _, _, .cons h t => .cons h (vals_each t)
theorem each_vals : ∀ {xs : List PV} {vs : List V} {us : List Value}, xs.length = vs.length → Vals vs us → PySem.W.EachIs (fun v (p : PV × V) => RelV p.2 v) us (xs.zip vs) := fun {xs} => by
  induction xs with
  | nil =>
    intro vs us hl rv
    cases vs with
    | nil => cases rv; exact .nil
    | cons _ _ => simp at hl
  | cons x xs ih =>
    intro vs us hl rv
    cases vs with
    | nil => simp at hl
    | cons v vs =>
      cases rv with
      | cons r t => exact .cons r (ih (by simpa using hl) t)
theorem o_sorted (hK : X.K = G.K) (hu : X.A.units + 64 < cLine) : CallR X (.builtin "sorted") (r1c G x fun v => opV .sorted [v]) := by
  intro pins s σ0 H xs us Q I rv ⟨w, e, F, Z, L, r, S, σ, a, B, Ta, P⟩
  subst e
  have P' : OR G x F Z L r S σ (srtdV a) Q := P
  unfold srtdV at P'
  cases a with
  | lst xs =>
    simp only at P'
    split at P'
    · rename_i h
      obtain ⟨b, vs, rfl, h1, h2⟩ := Ta.lst B.h.zs
      obtain ⟨u, rfl, ru⟩ := vals1 rv
      cases ru
      obtain ⟨k1, k2, k3⟩ := srtOk_parts h
      obtain ⟨its, rv2, hl, hz⟩ := I.list (by rw [hK]; exact h1)
      have r2 : Reps G H L xs vs := h2.up B.h.zs (List.prefix_refl _)
      have hlen := h2.length
      obtain ⟨z1, z2, z3⟩ := reps_zip h2
      obtain ⟨_, _, z4⟩ := reps_zip r2
      have er : PySem.W.EachIs (fun v (p : PV × V) => ∃ as, Reads s.heap v (toD p.1) as) its (xs.zip vs) := (PySem.W.each_mem (each_vals hlen rv2)).mono fun v p ⟨rel, hp⟩ => by
        have hd := toD_dp dD p.1 p.2 (k1 _ (List.of_mem_zip hp).1) (z4 p hp)
        rw [← hK] at hd
        exact Dp.reads I _ p.2 v hd rel
      have em : (xs.zip vs).map (fun p : PV × V => toD p.1) = toDs xs := by have e1 := congrArg (List.map toD) z1; rw [List.map_map] at e1; rw [toDs_map]; exact e1
      have hlz : (xs.zip vs).length ≤ sizeLine := by rw [← List.length_map (f := Prod.fst), z1, hlen]; exact hz
      refine PySem.W.sorted_data (bs := xs.zip vs) (enc := fun p => toD p.1) (R := fun v p => RelV p.2 v) hl.isList (each_vals hlen rv2) er ?_ ?_ hlz ?_ fun out ho eo => ?_
      · rw [em, toDs_map]
        intro d hd d' hd'
        obtain ⟨p, hp, rfl⟩ := List.mem_map.mp hd
        obtain ⟨q, hq, rfl⟩ := List.mem_map.mp hd'
        exact alk_toD p q (k2 p hp q hq)
      · rw [em, toDs_map]
        rcases k3 with k3 | k3
        · left
          intro d hd
          obtain ⟨p, hp, rfl⟩ := List.mem_map.mp hd
          have := k3 p hp
          match p, this with
          | .tup (y :: ys), _ => exact ⟨toD y, toDs ys, rfl⟩
        · right
          intro d hd
          obtain ⟨p, hp, rfl⟩ := List.mem_map.mp hd
          have h4 := k3 p hp
          refine ⟨toD_ne (k1 p hp) (.inr h4), fun ds e => ?_⟩
          have h5 := k1 p hp
          cases p <;> simp [toD, tupN] at e h4
      · intro p hp
        have := toD_depth dD p.1 (k1 _ (List.of_mem_zip hp).1)
        unfold dD at this; omega
      · have key : ((xs.zip vs).mergeSort (PySem.W.dataLe false fun p : PV × V => toD p.1)).map (·.1) = srt xs := by
          unfold srt
          rw [List.map_mergeSort (s := pyLe) (dataLe_py k1 k2), z1]
        have hm : ∀ p ∈ (xs.zip vs).mergeSort (PySem.W.dataLe false fun p : PV × V => toD p.1), Rep G Z L p.1 p.2 := fun p hp => z3 p (List.mem_mergeSort.mp hp)
        have hrep := reps_of_zip hm
        rw [key] at hrep
        have hvals := vals_each eo
        obtain ⟨ep, he'⟩ := PyProof.Rows.sortedAll_at s.heap its out.toArray
        have hlo : out.length ≤ sizeLine := by rw [ho]; exact hlz
        have hfresh := I.hok.fresh (Nat.le_succ s.heap.objs.size)
        obtain ⟨B2, V2⟩ := B.newL hfresh hrep
        exact ⟨.ref _, upd H (s.heap.objs.size + 1) (.lst (((xs.zip vs).mergeSort (PySem.W.dataLe false fun p : PV × V => toD p.1)).map (·.2))), I.laid (t' := s.toks) (fun _ _ => PyProof.Rows.sortedAll_old) (Nat.le_succ _) ⟨by rw [hvals.length]; exact hlo, out, ep, hvals, he'⟩, rfl, P' _ _ B2 V2⟩
    · exact P'.elim
  | _ => exact P'.elim
end
end Ci
namespace Ci
open PySem L2

/-! ### what a def promises, in this layer -/
structure FnG (P : Program) (w : World) (K : PySem.W.Frag) (mg : Str → Option Value) (base : Heap) (k : Nat) (f : Addr) (fd : FuncData) (ps : List Str) (sp : Sp) : Prop where
  len : ∀ vs H Q E, sp vs H Q E → vs.length = ps.length
  run : ∀ (A : Around) (outer : List Env) (s : Shared) (H : Hp) (args : Args) (us : List Value) (vs : List V) (Q : VK) (E : XK), Room k A → A.guards = some [] → Env0 P w K mg base A outer s H → BindsTo s fd args (ps.zip us) → Vals vs us → sp vs H Q E →
    codeAny (model P w) A (.call (.ref f) args) (CR (L2.CX P w) outer P w H s Q E) s
theorem FnG.mono {P : Program} {w : World} {K : PySem.W.Frag} {mg : Str → Option Value} {base : Heap} {j k : Nat} {f : Addr} {fd : FuncData} {ps : List Str} {sp : Sp} (F : FnG P w K mg base j f fd ps sp) (h : j ≤ k) : FnG P w K mg base k f fd ps sp :=
  ⟨F.len, fun A outer s H args us vs Q E hr => F.run A outer s H args us vs Q E (hr.mono h)⟩

section
variable {X : Cx} {k : Nat} {f C : Addr} {fd : FuncData} {ps : List Str} {sp : Sp} {dvs : List V} {ds : List Value} {W : WX} {x m : Str} {p pos apos : Pos} {e o : Expr} {es : List Expr} {ta : TE} {t : TA}
theorem run_G {pins : List (Addr × Obj)} {σ : L2.St} {H : Hp} {s : Shared} {Q : VK} {us : List Value} {vs : List V} (F : FnG X.prog X.w X.K X.mg X.base k f fd ps sp) (hr : Room k X.A) (hg : X.A.guards = some []) (hb : Binds X.K fd ps []) (tk : Takes X W)
    (I : Inv X pins σ H s) (r : Vals vs us) (h : sp vs H Q (WE W σ)) : wpAny (model X.prog X.w) X.A (call (.ref f) us) (EP X pins σ Q) X.xe s := by
  have hl : (us ++ ([] : List Value)).length = ps.length := by rw [List.append_nil, ← r.length]; exact F.len _ _ _ _ h
  have hbb := hb s us I.kIn hl
  rw [List.append_nil] at hbb
  refine wpAny_call (codeAny_mono (F.run X.A X.stack s H ⟨us, []⟩ us vs Q (WE W σ) hr hg I.env0 hbb r h) fun r s' hq => ?_)
  cases r with
  | error e => exact passAt tk σ pins H s e s' I hq
  | ok fl =>
    cases fl with
    | ret u => exact I.after hq
    | next => exact False.elim hq
    | brk => exact False.elim hq
    | cont => exact False.elim hq
/-- f(e, ..) -/
def tCallG (sp : Sp) (W : WX) (t : TA) : TE := fun σ H Q => t σ H fun vs H1 => sp vs H1 Q (WE W σ)
theorem pe_callG (F : FnG X.prog X.w X.K X.mg X.base k f fd ps sp) (hr : Room k X.A) (hgd : X.A.guards = some []) (hg : Gl X x) (hm : X.mg x = some (.ref f)) (hk : PySem.W.keepIn X.K (.ref f) = true) (hb : Binds X.K fd ps []) (tk : Takes X W)
    (ha : PA X (e :: es) t) (hdb : (x == ("__debug__" : Str)) = false) (he : starEach (e :: es) X.env = (false, eval e X.env) :: starEach es X.env) (hpl : (backTo pos (starEach es X.env)).any (·.1) = false) :
    PE X (.Call (.Name x p) (e :: es) [] pos) (tCallG sp W t) := by
  refine ⟨fun pins s σ H Q I h => ?_⟩
  refine wpAny_Call_Name_kw (ld_glob I hg hm ?_ hdb)
  refine PySem.W.callWith_K (h₀ := X.base) I.ok.mod.kin hk (thn (ha.run pos pins s σ H _ I h) fun us s1 ⟨vs, H1, I1, r, q⟩ => ⟨I1.kIn, ?_⟩) he hpl
  exact run_G F hr hgd hb tk I1 r q
theorem pe_callG0 (F : FnG X.prog X.w X.K X.mg X.base k f fd ps sp) (hr : Room k X.A) (hgd : X.A.guards = some []) (hg : Gl X x) (hm : X.mg x = some (.ref f)) (hk : PySem.W.keepIn X.K (.ref f) = true) (hb : Binds X.K fd ps []) (tk : Takes X W)
    (hdb : (x == ("__debug__" : Str)) = false) : PE X (.Call (.Name x p) [] [] pos) (tCallG sp W tNil) := by
  refine ⟨fun pins s σ H Q I h => ?_⟩
  refine wpAny_Call_Name_kw (ld_glob I hg hm ?_ hdb)
  exact PySem.W.callWith_K0 I.kIn hk (run_G (us := []) F hr hgd hb tk I .nil h)
end

/-! ### across a call -/
open Classical in
/-- what a callee may not touch: what the callers hold, what this frame's names hold -/
noncomputable def ownFm (F : Frm) (r : Ev) (σ : L2.St) (H : Hp) : Hp := fun b => if ∃ (i : Nat) (s : Sl), r[i]? = some s ∧ isOw s = true ∧ σ[i]? = some (some (V.ref b)) then H b else F.Fm b
noncomputable def callF (F : Frm) (Z : Hp) (L : List Addr) (r : Ev) (σ : L2.St) (H : Hp) : Frm := ⟨Z, ownFm F r σ H, L⟩
section
variable {G : Gm} {x : Exi} {F : Frm} {Z Z' : Hp} {L L' : List Addr} {r : Ev} {S S' : Store} {σ : L2.St} {H H' : Hp}
theorem ownFm_pos {b : Addr} (h : ∃ (i : Nat) (s : Sl), r[i]? = some s ∧ isOw s = true ∧ σ[i]? = some (some (V.ref b))) : ownFm F r σ H b = H b := by unfold ownFm; rw [if_pos h]
theorem ownFm_neg {b : Addr} (h : ¬ ∃ (i : Nat) (s : Sl), r[i]? = some s ∧ isOw s = true ∧ σ[i]? = some (some (V.ref b))) : ownFm F r σ H b = F.Fm b := by unfold ownFm; rw [if_neg h]
theorem BRel.owned (B : BRel G x F Z L r S σ H) {b : Addr} (h : ∃ (i : Nat) (s : Sl), r[i]? = some s ∧ isOw s = true ∧ σ[i]? = some (some (V.ref b))) : (∃ o, H b = some o) ∧ Z b = none ∧ F.Fm b = none ∧ b ∉ L := by
  obtain ⟨i, s, e, hs, q⟩ := h
  have hsl := B.sl i s e
  cases s with
  | ow v =>
    rw [q] at hsl
    obtain ⟨a, e1, h1, h2, h3, h4⟩ := hsl
    cases e1
    exact ⟨h1.has, h2, h3, h4⟩
  | _ => cases hs
theorem BRel.callee (B : BRel G x F Z L r S σ H) : HRel G (callF F Z L r σ H) Z L S H := by
  refine ⟨Same.refl _, List.prefix_refl _, B.h.zs, fun b o e => ?_, B.h.ln, B.h.nd, B.h.ce, fun a ha => ⟨(B.h.lz a ha).1, ?_⟩, fun a o e => ?_⟩
  · have e' : ownFm F r σ H b = some o := e
    by_cases q : ∃ (i : Nat) (s : Sl), r[i]? = some s ∧ isOw s = true ∧ σ[i]? = some (some (V.ref b))
    · rw [ownFm_pos q] at e'; exact e'
    · rw [ownFm_neg q] at e'; exact B.h.fs b o e'
  · show ownFm F r σ H a = none
    by_cases q : ∃ (i : Nat) (s : Sl), r[i]? = some s ∧ isOw s = true ∧ σ[i]? = some (some (V.ref a))
    · exact absurd ha (B.owned q).2.2.2
    · rw [ownFm_neg q]; exact (B.h.lz a ha).2
  · show ownFm F r σ H a = none
    by_cases q : ∃ (i : Nat) (s : Sl), r[i]? = some s ∧ isOw s = true ∧ σ[i]? = some (some (V.ref a))
    · rw [(B.owned q).2.1] at e; cases e
    · rw [ownFm_neg q]; exact B.h.zf a o e
theorem BRel.ret (B : BRel G x F Z L r S σ H) (h : HRel G (callF F Z L r σ H) Z' L' S' H') : BRel G x F Z' L' r S' σ H' := by
  have zz : Same Z Z' := h.z0
  have ll : L <+: L' := h.l0
  refine ⟨⟨B.h.z0.trans zz, B.h.l0.trans ll, h.zs, fun b o e => ?_, h.ln, h.nd, h.ce, fun a ha => ⟨(h.lz a ha).1, ?_⟩, fun a o e => ?_⟩, B.len, fun i s e => (B.sl i s e).mono zz ll fun a o ho hs hu => ?_, B.sp⟩
  · refine h.fs b o ?_
    show ownFm F r σ H b = some o
    by_cases q : ∃ (i : Nat) (s : Sl), r[i]? = some s ∧ isOw s = true ∧ σ[i]? = some (some (V.ref b))
    · rw [(B.owned q).2.2.1] at e; cases e
    · rw [ownFm_neg q]; exact e
  · have e : ownFm F r σ H a = none := (h.lz a ha).2
    by_cases q : ∃ (i : Nat) (s : Sl), r[i]? = some s ∧ isOw s = true ∧ σ[i]? = some (some (V.ref a))
    · exact (B.owned q).2.2.1
    · rw [ownFm_neg q] at e; exact e
  · have e : ownFm F r σ H a = none := h.zf a o e
    by_cases q : ∃ (i : Nat) (s : Sl), r[i]? = some s ∧ isOw s = true ∧ σ[i]? = some (some (V.ref a))
    · exact (B.owned q).2.2.1
    · rw [ownFm_neg q] at e; exact e
  · have hq : σ[i]? = some (some (V.ref a)) := by
      cases q3 : σ[i]? with
      | none => rw [q3] at hu; cases hu
      | some w2 => rw [q3] at hu; exact congrArg some hu
    have q : ∃ (i : Nat) (s : Sl), r[i]? = some s ∧ isOw s = true ∧ σ[i]? = some (some (V.ref a)) := ⟨i, s, e, hs, hq⟩
    have eo : ownFm F r σ H a = some o := by rw [ownFm_pos q]; exact ho
    refine ⟨h.fs a o eo, ?_, (B.owned q).2.2.1, fun hl => ?_⟩
    · cases e1 : Z' a with
      | none => rfl
      | some o' =>
        have e2 : ownFm F r σ H a = none := h.zf a o' e1
        rw [eo] at e2; cases e2
    · have e2 : ownFm F r σ H a = none := (h.lz a hl).2
      rw [eo] at e2; cases e2
/-- a call's result -/
def FR (G : Gm) (F : Frm) (Z : Hp) (L : List Addr) (H : Hp) (v : PV) (fr : Bool) (u : V) : Prop :=
  if fr = true then ∃ a : Addr, u = V.ref a ∧ OwnAt G Z L H a v ∧ Z a = none ∧ F.Fm a = none ∧ a ∉ L else Rep G Z L v u
theorem BRel.retV {v : PV} {fr : Bool} {u : V} (B : BRel G x F Z L r S σ H) (h : HRel G (callF F Z L r σ H) Z' L' S' H') (hv : FR G (callF F Z L r σ H) Z' L' H' v fr u) : VR G F Z' L' r σ H' v (if fr then .fr else .sh) u := by
  cases fr with
  | false => exact hv
  | true =>
    obtain ⟨a, rfl, h1, h2, h3, h4⟩ := hv
    have e : ownFm F r σ H a = none := h3
    have nq : ¬ ∃ (i : Nat) (s : Sl), r[i]? = some s ∧ isOw s = true ∧ σ[i]? = some (some (V.ref a)) := fun q => by
      rw [ownFm_pos q] at e
      obtain ⟨o, ho⟩ := (B.owned q).1
      rw [e] at ho; cases ho
    refine ⟨a, rfl, h1, h2, ?_, h4, fun i s e1 e2 e3 => nq ⟨i, s, e1, e2, e3⟩⟩
    rw [ownFm_neg nq] at e; exact e
end

/-- a def's promise by the interpreter -/
def FPost (G : Gm) (F : Frm) (o : FOut) (Q : VK) (E : XK) : Prop := match o with
  | .ok v fr S => ∀ Z L H u, HRel G F Z L S H → FR G F Z L H v fr u → Q u H
  | .exc c vs S => ∀ Z L H d, HRel G F Z L S H → RepX G Z L c vs d → E (.ref (G.Xa c)) (some d) H
  | .bad _ => False
def spF (G : Gm) (f : List PV → Store → FOut) : Sp := fun us H Q E => ∃ F Z L S vs, HRel G F Z L S H ∧ Reps G Z L vs us ∧ FPost G F (f vs S) Q E
end Ci
namespace Ci
open PySem L2

/-! ### looks at the text -/
def vConst : Expr → Option Const
  | .Constant c _ _ => some c
  | _ => none
def vName : Expr → Option Str
  | .Name x _ => some x
  | _ => none
def vBin : Expr → Option (Expr × Operator × Expr)
  | .BinOp a o b _ => some (a, o, b)
  | _ => none
def vUn : Expr → Option (UnaryOp × Expr)
  | .UnaryOp o a _ => some (o, a)
  | _ => none
def vCmp1 : Expr → Option (Expr × CmpOp × Expr)
  | .Compare a [o] [b] _ => some (a, o, b)
  | _ => none
def vCmp2 : Expr → Option (Expr × CmpOp × CmpOp × Expr × Expr)
  | .Compare a [o, o'] [b, c] _ => some (a, o, o', b, c)
  | _ => none
def vBool : Expr → Option (BoolOp × List Expr)
  | .BoolOp o es _ => some (o, es)
  | _ => none
def vIf : Expr → Option (Expr × Expr × Expr)
  | .IfExp c a b _ => some (c, a, b)
  | _ => none
def vTup : Expr → Option (List Expr)
  | .Tuple es _ _ => some es
  | _ => none
def vLst : Expr → Option (List Expr)
  | .List es _ => some es
  | _ => none
def vCallN : Expr → Option (Str × List Expr)
  | .Call (.Name x _) as [] _ => some (x, as)
  | _ => none
def vCallA : Expr → Option (Expr × Str × List Expr)
  | .Call (.Attribute o m apos) as [] cpos => if apos.endLine == cpos.line then some (o, m, as) else none
  | _ => none
def vSub : Expr → Option (Expr × Expr)
  | .Subscript a i _ => some (a, i)
  | _ => none
def vSlice : Expr → Option (Option Expr × Option Expr × Option Expr)
  | .Slice a b c _ => some (a, b, c)
  | _ => none
def vAttr : Expr → Option (Expr × Str)
  | .Attribute a f _ => some (a, f)
  | _ => none
def vComp : Expr → Option (Expr × Expr × Expr × List Expr × Scope)
  | .ListComp elt [⟨tg, iter, ifs, 0⟩] sc _ => some (elt, tg, iter, ifs, sc)
  | _ => none
section
variable {e a b c : Expr} {o o' : CmpOp} {x : Str} {es : List Expr}
theorem vConst_ {k : Const} (h : vConst e = some k) : ∃ j p, e = .Constant k j p := by cases e <;> simp [vConst] at h; subst h; exact ⟨_, _, rfl⟩
theorem vName_ (h : vName e = some x) : ∃ p, e = .Name x p := by cases e <;> simp [vName] at h; subst h; exact ⟨_, rfl⟩
theorem vBin_ {op : Operator} (h : vBin e = some (a, op, b)) : ∃ p, e = .BinOp a op b p := by cases e <;> simp [vBin] at h; obtain ⟨rfl, rfl, rfl⟩ := h; exact ⟨_, rfl⟩
theorem vUn_ {op : UnaryOp} (h : vUn e = some (op, a)) : ∃ p, e = .UnaryOp op a p := by cases e <;> simp [vUn] at h; obtain ⟨rfl, rfl⟩ := h; exact ⟨_, rfl⟩
theorem vCmp1_ (h : vCmp1 e = some (a, o, b)) : ∃ p, e = .Compare a [o] [b] p := by
  unfold vCmp1 at h; split at h
  · cases h; exact ⟨_, rfl⟩
  · cases h
theorem vCmp2_ (h : vCmp2 e = some (a, o, o', b, c)) : ∃ p, e = .Compare a [o, o'] [b, c] p := by
  unfold vCmp2 at h; split at h
  · cases h; exact ⟨_, rfl⟩
  · cases h
theorem vBool_ {op : BoolOp} (h : vBool e = some (op, es)) : ∃ p, e = .BoolOp op es p := by cases e <;> simp [vBool] at h; obtain ⟨rfl, rfl⟩ := h; exact ⟨_, rfl⟩
theorem vIf_ (h : vIf e = some (c, a, b)) : ∃ p, e = .IfExp c a b p := by cases e <;> simp [vIf] at h; obtain ⟨rfl, rfl, rfl⟩ := h; exact ⟨_, rfl⟩
theorem vTup_ (h : vTup e = some es) : ∃ k p, e = .Tuple es k p := by cases e <;> simp [vTup] at h; subst h; exact ⟨_, _, rfl⟩
theorem vLst_ (h : vLst e = some es) : ∃ p, e = .List es p := by cases e <;> simp [vLst] at h; subst h; exact ⟨_, rfl⟩
theorem vCallN_ (h : vCallN e = some (x, es)) : ∃ p q, e = .Call (.Name x p) es [] q := by
  unfold vCallN at h; split at h
  · cases h; exact ⟨_, _, rfl⟩
  · cases h
theorem vCallA_ (h : vCallA e = some (a, x, es)) : ∃ p q, e = .Call (.Attribute a x p) es [] q ∧ (p.endLine == q.line) = true := by
  unfold vCallA at h; split at h
  · split at h
    · rename_i hl; cases h; exact ⟨_, _, rfl, hl⟩
    · cases h
  · cases h
theorem vSub_ (h : vSub e = some (a, b)) : ∃ p, e = .Subscript a b p := by cases e <;> simp [vSub] at h; obtain ⟨rfl, rfl⟩ := h; exact ⟨_, rfl⟩
theorem vSlice_ {l u s : Option Expr} (h : vSlice e = some (l, u, s)) : ∃ p, e = .Slice l u s p := by cases e <;> simp [vSlice] at h; obtain ⟨rfl, rfl, rfl⟩ := h; exact ⟨_, rfl⟩
theorem vAttr_ (h : vAttr e = some (a, x)) : ∃ p, e = .Attribute a x p := by cases e <;> simp [vAttr] at h; obtain ⟨rfl, rfl⟩ := h; exact ⟨_, rfl⟩
theorem vComp_ {ifs : List Expr} {sc : Scope} (h : vComp e = some (a, b, c, ifs, sc)) : ∃ p, e = .ListComp a [⟨b, c, ifs, 0⟩] sc p := by
  unfold vComp at h; split at h
  · cases h; exact ⟨_, rfl⟩
  · cases h
end

/-- the text's names -/
structure Tx where
  fnm : Nat → Option Str
  cnm : Nat → Option Str
  xnm : Nat → Option Str
  gnm : Nat → Option Str
  nms : List Str

def visK (sc : Scope) (x : Str) : Bool := match sc.names.lookup x with
  | some .local => true
  | some .cell => true
  | some .free => true
  | _ => false
def locK (sc : Scope) (x : Str) : Bool := match sc.names.lookup x with
  | some .local => true
  | some .cell => true
  | _ => false
def glK (sc : Scope) (x : Str) : Bool := decide (sc.names.lookup x = some .globalImplicit)
def nmOk (x : Str) : Bool := !(x == ("__debug__" : Str)) && !(x == ("__classdict__" : Str))
def constOk (v : PV) (c : Const) : Bool := match v, c with
  | .non, .none => true
  | .bl a, .bool b => a == b
  | .int i, .int j => i == j
  | .str x, .str y => x == y && PyData.strOk x && decide (x.length ≤ big)
  | _, _ => false
def notStar : Expr → Bool
  | .Starred _ _ => false
  | _ => true
theorem star_cons {e : Expr} (h : notStar e = true) (es : List Expr) (env : Env) : starEach (e :: es) env = (false, eval e env) :: starEach es env := by
  cases e <;> first | rfl | cases h
theorem star_any {pos : Pos} {env : Env} : ∀ {es : List Expr}, (∀ e ∈ es, notStar e = true) → (backTo pos (starEach es env)).any (·.1) = false
  | [], _ => rfl
  | e :: es, h => by
    rw [star_cons (h e List.mem_cons_self)]
    show ((false || (backTo pos (starEach es env)).any (·.1))) = false
    rw [star_any fun e' he => h e' (List.mem_cons_of_mem _ he)]; rfl
/-- not super() -/
def notSuper : Expr → Bool
  | .Call (.Name x _) [] [] _ => x != "super"
  | _ => true
theorem base_ok {e : Expr} {f : Str} {env : Env} (h : notSuper e = true) : attributeBase e f env (eval e env) = eval e env := by
  unfold attributeBase
  split
  · rename_i x _ _
    have h' : (x != ("super" : Str)) = true := h
    rw [h']
    rfl
  · rfl
def notSet : Expr → Bool
  | .Set _ _ _ => false
  | _ => true
theorem mark_ok {e : Expr} {op : CmpOp} (h : notSet e = true) : behindInMarks op e = false := by
  cases e <;> first | rfl | cases h
theorem folded_ok {e : Expr} {env : Env} (h : notSet e = true) (x : Value) : foldedSetIterable e env x = pure x := by
  cases e <;> first | rfl | cases h
def notSlice : Expr → Bool
  | .Slice _ _ _ _ => false
  | _ => true
theorem plainIx_ok {e : Expr} (h : notSlice e = true) : PlainIx e := by
  intro o i
  cases e <;> first | rfl | cases h
/-- whose test is its value's truth -/
def plainT : Expr → Bool
  | .UnaryOp .Not _ _ => false
  | .BoolOp _ _ _ => false
  | .IfExp _ _ _ _ => false
  | .Compare _ _ _ _ => false
  | _ => true
theorem plainT_ok {e : Expr} {env : Env} (h : plainT e = true) (whole : Sem Value) : isTrue e env whole = (do let v ← whole; standAt e.pos; holding [v] (truthy v)) := by
  cases e with
  | UnaryOp op a p => cases op <;> first | rfl | cases h
  | BoolOp _ _ _ => cases h
  | IfExp _ _ _ _ => cases h
  | Compare _ _ _ _ => cases h
  | _ => rfl
end Ci
namespace Ci
open PySem L2

def binOf : Op → Option Operator
  | .add => some .Add
  | .sub => some .Sub
  | .mul => some .Mult
  | .rep => some .Mult
  | .fdiv => some .FloorDiv
  | .mod => some .Mod
  | .pow => some .Pow
  | _ => none
def cmpOf : Op → Option CmpOp
  | .lt => some .Lt
  | .le => some .LtE
  | .gt => some .Gt
  | .ge => some .GtE
  | .eq => some .Eq
  | .ne => some .NotEq
  | .inn => some .In
  | .nin => some .NotIn
  | _ => none
def callOf : Op → Option Str
  | .len => some "len"
  | .abs => some "abs"
  | .min2 => some "min"
  | .max2 => some "max"
  | .list => some "list"
  | .tuple => some "tuple"
  | .int => some "int"
  | _ => none
def arity : Op → Nat
  | .min2 => 2
  | .max2 => 2
  | _ => 1
def bnames : List Str := ["len", "abs", "min", "max", "list", "tuple", "int", "range", "enumerate", "isinstance", "repr", "sum", "sorted", "all", "any", "str", "dict", "set", "zip", "bool"]
def opArgs (T : Tx) (sc : Scope) (o : Op) (e : Expr) : Option (List Expr) :=
  match o with
  | .neg => match vUn e with
    | some (.USub, a) => some [a]
    | _ => none
  | .isN => match vCmp1 e with
    | some (a, .Is, b) => if vConst b = some .none then some [a] else none
    | _ => none
  | .ntN => match vCmp1 e with
    | some (a, .IsNot, b) => if vConst b = some .none then some [a] else none
    | _ => none
  | .idx => match vSub e with
    | some (a, b) => if notSlice b then some [a, b] else none
    | none => none
  | .slc p q r => match vSub e with
    | some (a, s) => match vSlice s with
      | some (l, u, none) => if p == l.isSome && q == u.isSome && !r then some (a :: (l.toList ++ u.toList)) else none
      | _ => none
    | none => none
  | o => match binOf o with
    | some op => match vBin e with
      | some (a, op', b) => if op = op' then some [a, b] else none
      | none => none
    | none => match cmpOf o with
      | some op => match vCmp1 e with
        | some (a, op', b) => if op = op' ∧ notSet b = true then some [a, b] else none
        | none => none
      | none => match callOf o with
        | some n => match vCallN e with
          | some (y, as) => if y = n ∧ glK sc y = true ∧ as.length = arity o then some as else none
          | none => none
        | none => none

section
variable {G : Gm} {x : Exi} {W : WX} {cx : Cxt} {cm : Bool}
def opM (cx : Cxt) (cm : Bool) (o : Op) (es : List CE) : Ev → Store → Out (PV × Md) := fun r S => (rdB (evr cx cm es r S)).bind fun vs r S => ofO (opRun S o vs) r S
theorem OR.of {F : Frm} {Z : Hp} {L : List Addr} {r : Ev} {S : Store} {σ : L2.St} {o : ORes} {Q : VK} {E : Nat → List PV → Ev → Store → Prop}
    (P : Post (ofO o r S) (fun p r' S' => ∀ Z' L' H' u, BRel G x F Z' L' r' S' σ H' → VR G F Z' L' r' σ H' p.1 p.2 u → Q u H') E) : OR G x F Z L r S σ o Q := by
  cases o with
  | sh v => exact fun Z' H' u _ B R => P Z' L H' u B R
  | fr v => exact fun H' u B R => P Z L H' u B R
  | bad w => exact P.elim
/-- arguments that are read, then an operation -/
theorem rdA {o : Op} {es : List CE} {σ : L2.St} {H : Hp} {Q : VK} (h : tE G x W (opM cx cm o es) σ H Q) : tAr G x W (evr cx cm es) σ H fun us H1 => rN G x (opV o) us H1 Q := by
  obtain ⟨F, Z, L, r, S, B, P⟩ := h
  unfold opM rdB at P
  rw [post_bind, post_bind] at P
  refine ⟨F.at Z L, Z, L, r, S, B.here, P.imp (fun ps r1 S1 P1 Z1 L1 H1 us B1 V1 => ?_) fun c vs r1 S1 E => E.at_ B.z0 B.l0⟩
  cases e : resA r1 ps with
  | none => rw [e] at P1; exact P1.elim
  | some vs =>
    rw [e] at P1
    have B2 := B1.back B.z0 B.l0
    exact ⟨F, Z1, L1, r1, S1, σ, _, B2, (B2.resolveA V1 e).view B2.h, OR.of P1⟩
theorem rd1 {o : Op} {a : CE} {σ : L2.St} {H : Hp} {Q : VK} (h : tE G x W (opM cx cm o [a]) σ H Q) : tE G x W (ev cx cm a) σ H fun u H1 => r1 G x (fun v => opV o [v]) u H1 Q := by
  obtain ⟨F, Z, L, r, S, B, P⟩ := h
  unfold opM rdB evr at P
  rw [post_bind, post_bind, post_bind] at P
  refine ⟨F.at Z L, Z, L, r, S, B.here, P.imp (fun p r1 S1 P1 Z1 L1 H1 u B1 V1 => ?_) fun c vs r1 S1 E => E.at_ B.z0 B.l0⟩
  obtain ⟨Z2, s2, B2, V2⟩ := B1.read V1
  have B3 := B2.back B.z0 B.l0
  unfold evr at P1
  have P2 : Post (match resA r1 [p] with | some vs => Out.ok vs r1 S1 | none => .bad 82) _ _ := P1
  cases e : resA r1 [p] with
  | none => rw [e] at P2; exact P2.elim
  | some vs =>
    rw [e] at P2
    have T := (B3.resolveA (.cons V2 .nil) e)
    cases T with
    | cons t ts =>
      cases ts
      exact ⟨F, Z2, L1, r1, S1, σ, _, B3, t.view B3.h, OR.of P2⟩
theorem rd2 {o : Op} {a b : CE} {σ : L2.St} {H : Hp} {Q : VK} (h : tE G x W (opM cx cm o [a, b]) σ H Q) : tOp (r2 G x fun v w => opV o [v, w]) (tE G x W (ev cx cm a)) (tE G x W (ev cx cm b)) σ H Q := by
  obtain ⟨F, Z, L, r, S, B, P⟩ := h
  unfold opM rdB evr at P
  rw [post_bind, post_bind, post_bind] at P
  refine ⟨F.at Z L, Z, L, r, S, B.here, P.imp (fun p r1 S1 P1 Z1 L1 H1 u B1 V1 => ?_) fun c vs r1 S1 E => E.at_ B.z0 B.l0⟩
  obtain ⟨Z2, s2, B2, V2⟩ := B1.read V1
  have B3 := B2.back B.z0 B.l0
  unfold evr at P1
  rw [post_bind, post_bind] at P1
  refine ⟨F.at Z2 L1, Z2, L1, r1, S1, B3.here, P1.imp (fun q r4 S4 P4 Z4 L4 H4 w B4 V4 => ?_) fun c vs r1 S1 E => E.at_ B3.z0 B3.l0⟩
  obtain ⟨Z5, s5, B5, V5⟩ := B4.read V4
  have B6 := B5.back B3.z0 B3.l0
  unfold evr at P4
  have P2 : Post (match resA r4 [p, q] with | some vs => Out.ok vs r4 S4 | none => .bad 82) _ _ := P4
  cases e : resA r4 [p, q] with
  | none => rw [e] at P2; exact P2.elim
  | some vs =>
    rw [e] at P2
    have T := (B6.resolveA (.cons (V2.up B5.z0 B5.l0) (.cons V5 .nil)) e)
    cases T with
    | cons t ts =>
      cases ts with
      | cons t2 ts =>
        cases ts
        exact ⟨F, Z5, L4, r4, S4, σ, _, _, B6, t.view B6.h, t2.view B6.h, OR.of P2⟩
end

/-! ### the facts of a text, of a context -/
/-! ### classes' names, how they stand to each other -/
def tyN : Nat → String
  | 0 => "int"
  | 1 => "bool"
  | 2 => "str"
  | 3 => "list"
  | 4 => "tuple"
  | _ => "dict"
def vtN : Nat → String
  | 0 => "int"
  | 1 => "bool"
  | 2 => "str"
  | 3 => "list"
  | 4 => "tuple"
  | 5 => "dict"
  | _ => "NoneType"
/-- how the own classes stand to the built-in ones, to each other -/
structure IsiK (G : Gm) : Prop where
  ins : ∀ c, (G.P.init c).isSome = true → Cls G.K (G.Ca c) ∧ PySem.W.findIn G.K (.ref (G.Ca c)) "__class__" = some (some (.builtin "object.__class__")) ∧
    PySem.W.specialIn G.K (.builtin "object.__class__") "__get__" = some (some (.builtin "getset_descriptor.__get__")) ∧ PySem.W.takesIn G.K (.builtin "object.__class__") = some true ∧ PySem.W.mroIn G.K (G.Ca c) (.type "object") = some true
  ty : ∀ c i, (G.P.init c).isSome = true → i < 7 → PySem.W.kitOne G.K (.type (vtN i)) (.ref (G.Ca c)) = some false
  ob : ∀ c n, (G.P.init c).isSome = true → n < 6 → PySem.W.kitOne G.K (.ref (G.Ca c)) (.type (tyN n)) = some false
  nf : ∀ c i, (G.P.init c).isSome = true → i < 7 → PySem.W.notFirst G.K (G.Ca c) (.type (vtN i)) = true
  no : ∀ c c', (G.P.init c).isSome = true → (G.P.init c').isSome = true → PySem.W.notFirst G.K (G.Ca c) (.ref (G.Ca c')) = true
  oo : ∀ c c', (G.P.init c).isSome = true → (G.P.init c').isSome = true → PySem.W.kitOne G.K (.ref (G.Ca c')) (.ref (G.Ca c)) = some (c' == c)
/-- what a def of the text keeps -/
def KeepF (G : Gm) (call : Nat → List PV → Store → FOut) (k f : Nat) : Prop := ∃ fd ps, FnG G.prog G.w G.K G.mg G.base k (G.fa f) fd ps (spF G (call f)) ∧ Binds G.K fd ps []
structure GS (G : Gm) (T : Tx) (cx : Cxt) (k : Nat) : Prop where
  P : cx.P = G.P
  blt : ∀ b ∈ bnames, G.mg b = none
  lenm : ∀ c, G.P.lenm c = none
  fns : ∀ f nm, T.fnm f = some nm → ∃ fd ps, FnG G.prog G.w G.K G.mg G.base k (G.fa f) fd ps (spF G (cx.call f)) ∧ G.mg nm = some (.ref (G.fa f)) ∧ PySem.W.keepIn G.K (.ref (G.fa f)) = true ∧ Binds G.K fd ps []
  fv : ∀ f, G.P.fv f = true → KeepF G cx.call k f ∧ PySem.W.keepIn G.K (.ref (G.fa f)) = true
  fvT : ∀ f nm, T.fnm f = some nm → G.P.fv f = true
  gls : ∀ g nm v, T.gnm g = some nm → G.P.glob g = some v → ∃ u vv, G.mg nm = some u ∧ RelV vv u ∧ ∀ Z L, Rep G Z L v vv
  tn : T.nms = G.nms
  nd : G.nms.Nodup
  cls : ∀ c, (G.P.init c).isSome = true → Cls G.K (G.Ca c) ∧ ∀ f ∈ G.P.cf c, f < G.nms.length ∧ NoAttr G.K (G.Ca c) (G.nm f)
  mth : ∀ c m f, (G.P.init c).isSome = true → G.P.mth c m = some f → m < G.nms.length ∧ m ∉ G.P.cf c ∧ Meth G.K (G.Ca c) (G.nm m) (G.fa f) ∧ KeepF G cx.call k f
  isi : IsiK G
  eqm : ∀ c f, (G.P.init c).isSome = true → G.P.eqm c = some f → Meth G.K (G.Ca c) "__eq__" (G.fa f) ∧ PySem.W.findIn G.K (.ref (G.Ca c)) "__ne__" = some (some (.builtin "object.__ne__")) ∧ ∃ j, j + 1 ≤ k ∧ KeepF G cx.call j f
  mak : ∀ c y, T.cnm c = some y → G.mg y = some (.ref (G.Ca c)) ∧ ∃ f fd ps j, G.P.init c = some f ∧ j + 1 ≤ k ∧ Mk G.K (G.Ca c) (G.fa f) ∧ Binds G.K fd ps [] ∧
    FnG G.prog G.w G.K G.mg G.base j (G.fa f) fd ps (spF G (cx.call f))
structure GX0 (G : Gm) (N : List Str) (sc : Scope) (W : WX) (X : Cx) : Prop where
  prog : X.prog = G.prog
  w : X.w = G.w
  K : X.K = G.K
  mg : X.mg = G.mg
  base : X.base = G.base
  nN : X.N = N
  nd : X.N.Nodup
  vis : ∀ x, visK sc x = true → Vis X.env.scope x
  loc : ∀ x, locK sc x = true → Loc X.env.scope x ∧ (X.fn x = true ∨ X.env.scope.names.lookup x = some .local)
  gl : ∀ x, glK sc x = true → Gl X x
  fr : ∀ y, (sc.names.lookup y = some .cell ∨ sc.names.lookup y = some .free) → (X.env.scope.names.lookup y = some .cell ∨ X.env.scope.names.lookup y = some .free)
  grd : X.A.guards = some []
  un : X.A.units + 200 < cLine
  tk : Takes X W
structure GX (G : Gm) (N : List Str) (k : Nat) (sc : Scope) (W : WX) (X : Cx) : Prop extends GX0 G N sc W X where
  room : Room k X.A
  calm : X.calm = true

/-- a test's reading -/
def tT (G : Gm) (x : Exi) (W : WX) (m : Ev → Store → Out Bool) : TT := fun σ H Q => ∃ F Z L r S, BRel G x F Z L r S σ H ∧
  Post (m r S) (fun b r' S' => ∀ Z' L' H', BRel G x F Z' L' r' S' σ H' → Q b H') (XP G x W F σ)
def evT (cx : Cxt) (cm : Bool) (ce : CE) : Ev → Store → Out Bool := fun r S => (ev cx cm ce r S).bind fun p r S => truthO S p.1 r
/-- its value, its test -/
structure PET (G : Gm) (x : Exi) (W : WX) (X : Cx) (cx : Cxt) (cm : Bool) (ce : CE) (e : Expr) : Prop where
  v : PE X e (tE G x W (ev cx cm ce))
  t : vIf e = none → PT X e (tT G x W (evT cx cm ce))
  w : (vBool e).isSome = true → PW X e (tT G x W (evT cx cm ce))

section
variable {G : Gm} {x : Exi} {W : WX} {X : Cx} {cx : Cxt} {cm : Bool} {N : List Str} {k : Nat} {sc : Scope} {T : Tx}
/-- what is read at the top, from a mode -/
theorem VR.top {F : Frm} {Z : Hp} {L : List Addr} {r : Ev} {S : Store} {σ : L2.St} {H : Hp} {v : PV} {m : Md} {u : V} (B : BRel G x F Z L r S σ H) (h : VR G F Z L r σ H v m u) : TopR G Z L H v u := by
  cases m with
  | sh => exact .inl h
  | fr => obtain ⟨a, e, h1, _⟩ := h; exact .inr ⟨a, e, h1⟩
  | bo i =>
    have hs := B.sl i _ h.2
    rw [h.1] at hs
    obtain ⟨a, e, h1, _⟩ := hs
    exact .inr ⟨a, e, h1⟩
theorem TopR.tru (hK : X.K = G.K) {F : Frm} {Z : Hp} {L : List Addr} {r : Ev} {S : Store} {σ : L2.St} {H : Hp} {v : PV} {u : V} {b : Bool} (B : BRel G x F Z L r S σ H) (t : TopR G Z L H v u) (h : truth S v = some b) : TruV X.K u H b := by
  have t' := t.view B.h
  unfold truth at h
  generalize Ci.view S v = w at h t'
  cases w with
  | non => cases t'.non; cases h; rfl
  | bl c => cases t'.bl; cases h; rfl
  | int i => cases t'.int; cases h; rfl
  | str y =>
    obtain ⟨e, h1, h2⟩ := t'.str
    subst e; cases h
    exact ⟨h2, by show (y.length != 0) = _; rw [bne, bne]; congr 1; rw [Bool.eq_iff_iff]; simp⟩
  | tup xs =>
    obtain ⟨a, vs, e, h1, h2⟩ := t'.tup
    subst e; cases h
    refine .inr (.inl ⟨vs, by rw [hK]; exact SqT.up B.h.zs h1, ?_⟩)
    cases h2 <;> rfl
  | lst xs =>
    obtain ⟨a, vs, e, h1, h2⟩ := t'.lst B.h.zs
    subst e; cases h
    refine .inl ⟨vs, by rw [hK]; exact h1, ?_⟩
    cases h2 <;> rfl
  | _ => cases h
/-- from a value's reading, its truth -/
theorem tE_tru (hK : X.K = G.K) {m : Ev → Store → Out (PV × Md)} {σ : L2.St} {H : Hp} {Q : Bool → Hp → Prop} (h : tT G x W (fun r S => (m r S).bind fun p r S => truthO S p.1 r) σ H Q) :
    tE G x W m σ H fun u H' => ∃ b, TruV X.K u H' b ∧ Q b H' := by
  obtain ⟨F, Z, L, r, S, B, P⟩ := h
  rw [post_bind] at P
  refine ⟨F, Z, L, r, S, B, P.imp (fun p r1 S1 P1 Z1 L1 H1 u B1 V1 => ?_) fun _ _ _ _ E => E⟩
  unfold truthO at P1
  cases e : truth S1 p.1 with
  | none => rw [e] at P1; exact P1.elim
  | some b =>
    rw [e] at P1
    exact ⟨b, (V1.top B1).tru hK B1 e, P1 Z1 L1 H1 B1⟩
/-- an expression whose test is its value's truth -/
theorem pet_plain {ce : CE} {e : Expr} (hK : X.K = G.K) (h : PE X e (tE G x W (ev cx cm ce))) (hp : plainT e = true) : PET G x W X cx cm ce e :=
  ⟨h, fun _ => ⟨fun pins s σ H Q I w => (pt_truth h fun whole => plainT_ok hp whole).run pins s σ H Q I (tE_tru hK w)⟩, fun hb => absurd hb (by cases e <;> first | (simp [vBool]; done) | (simp [plainT] at hp; done))⟩
/-- from the value's reading with a bool, the test's -/
theorem tT_of {m : Ev → Store → Out (PV × Md)} {σ : L2.St} {H : Hp} {Q : Bool → Hp → Prop} (h : tT G x W (fun r S => (m r S).bind fun p r S => truthO S p.1 r) σ H Q)
    (hb : ∀ r S p r' S', m r S = .ok p r' S' → ∃ b, p.1 = .bl b) : tE G x W m σ H fun u H' => ∃ b, u = .bl b ∧ Q b H' := by
  obtain ⟨F, Z, L, r, S, B, P⟩ := h
  rw [post_bind] at P
  refine ⟨F, Z, L, r, S, B, ?_⟩
  cases e : m r S with
  | bad w => rw [e] at P; exact P
  | exc c vs r1 S1 => rw [e] at P; exact P
  | ok p r1 S1 =>
    rw [e] at P
    intro Z1 L1 H1 u B1 V1
    obtain ⟨b, hb⟩ := hb r S p r1 S1 e
    have P1 : Post (truthO S1 p.1 r1) (fun b r' S' => ∀ Z' L' H', BRel G x F Z' L' r' S' σ H' → Q b H') (XP G x W F σ) := P
    have Tt := V1.top B1
    rw [hb] at P1 Tt
    exact ⟨b, Tt.bl, P1 Z1 L1 H1 B1⟩
end
end Ci
namespace Ci
open PySem L2
section
variable {G : Gm} {x : Exi} {W : WX} {X : Cx} {cx : Cxt} {cm : Bool} {N : List Str} {k : Nat} {sc : Scope} {T : Tx} {e a b c : Expr} {es : List Expr} {ca cb cc : CE} {ces : List CE}
theorem tE_of {m m' : Ev → Store → Out (PV × Md)} {σ : L2.St} {H : Hp} {Q : VK} (h : tE G x W m σ H Q) (hm : ∀ r S K E, Post (m r S) K E → Post (m' r S) K E) : tE G x W m' σ H Q := by
  obtain ⟨F, Z, L, r, S, B, P⟩ := h
  exact ⟨F, Z, L, r, S, B, hm _ _ _ _ P⟩
theorem tT_mono {m m' : Ev → Store → Out Bool} {σ : L2.St} {H : Hp} {Q : Bool → Hp → Prop} (h : tT G x W m σ H Q) (hm : ∀ r S K E, Post (m r S) K E → Post (m' r S) K E) : tT G x W m' σ H Q := by
  obtain ⟨F, Z, L, r, S, B, P⟩ := h
  exact ⟨F, Z, L, r, S, B, hm _ _ _ _ P⟩
theorem ev_op (hl : ∀ c, cx.P.lenm c = none) {o : Op} {r : Ev} {S : Store} {K : PV × Md → Ev → Store → Prop} {E : Nat → List PV → Ev → Store → Prop} (h : Post (ev cx cm (.op o ces) r S) K E) : Post (opM cx cm o ces r S) K E := by
  unfold ev at h
  unfold opM
  rw [post_bind] at h ⊢
  refine h.imp (fun vs r1 S1 P => ?_) fun _ _ _ _ E => E
  split at P
  · split at P
    · rename_i c _ _
      rw [hl c] at P
      exact P.elim
    · exact P
  · exact P
theorem tE_op (gs : GS G T cx k) {o : Op} {σ : L2.St} {H : Hp} {Q : VK} (h : tE G x W (ev cx cm (.op o ces)) σ H Q) : tE G x W (opM cx cm o ces) σ H Q :=
  tE_of h fun r S K E p => ev_op (fun c => by rw [gs.P]; exact gs.lenm c) p
theorem tT_op (gs : GS G T cx k) {o : Op} {σ : L2.St} {H : Hp} {Q : Bool → Hp → Prop} (h : tT G x W (evT cx cm (.op o ces)) σ H Q) : tT G x W (fun r S => (opM cx cm o ces r S).bind fun p r S => truthO S p.1 r) σ H Q :=
  tT_mono h fun r S K E p => by
    unfold evT at p
    rw [post_bind] at p ⊢
    exact ev_op (fun c => by rw [gs.P]; exact gs.lenm c) p
/-! ### operators -/
theorem pet_bin (gs : GS G T cx k) (hK : X.K = G.K) {o : Op} {bop : Operator} {p : Pos} (h : OpR X (binaryOp bop) (r2 G x fun v w => opV o [v, w])) (ha : PE X a (tE G x W (ev cx cm ca))) (hb : PE X b (tE G x W (ev cx cm cb))) :
    PET G x W X cx cm (.op o [ca, cb]) (.BinOp a bop b p) := pet_plain hK ((pe_op h ha hb).imp fun σ H Q w => rd2 (tE_op gs w)) rfl
theorem pet_cmp (gs : GS G T cx k) (hK : X.K = G.K) {o : Op} {bop : CmpOp} {p : Pos} (h : OpR X (compareOp bop) (r2 G x fun v w => opV o [v, w])) (hq : ∀ v w y, opV o [v, w] = .sh y ∨ opV o [v, w] = .fr y → ∃ b, y = .bl b) (hm : notSet b = true) (ha : PE X a (tE G x W (ev cx cm ca))) (hb : PE X b (tE G x W (ev cx cm cb))) :
    PET G x W X cx cm (.op o [ca, cb]) (.Compare a [bop] [b] p) := by
  refine ⟨(pe_cmpR h ha hb (mark_ok hm)).imp fun σ H Q w => rd2 (tE_op gs w), fun _ => (pt_cmpR h ha hb (mark_ok hm)).imp fun σ H Q w => ?_, fun hb => by cases hb⟩
  refine rd2 (tT_of (tT_op gs w) fun r S p r' S' e => ?_)
  unfold opM at e
  cases q : rdB (evr cx cm [ca, cb] r S) with
  | bad w => rw [q] at e; cases e
  | exc c vs r S => rw [q] at e; cases e
  | ok vs r1 S1 =>
    rw [q] at e
    have e' : ofO (opRun S1 o vs) r1 S1 = .ok p r' S' := e
    have hv : ∃ v w, vs = [v, w] := by
      unfold rdB evr evr evr at q
      cases q1 : ev cx cm ca r S with
      | bad w => rw [q1] at q; cases q
      | exc c vs r S => rw [q1] at q; cases q
      | ok p1 r2 S2 =>
        rw [q1] at q
        simp only [Out.bind] at q
        cases q2 : ev cx cm cb r2 S2 with
        | bad w => rw [q2] at q; cases q
        | exc c vs r S => rw [q2] at q; cases q
        | ok p2 r3 S3 =>
          rw [q2] at q
          simp only [Out.bind] at q
          unfold resA resA resA at q
          split at q
          · rename_i ws hw
            split at hw
            · split at hw
              · cases hw; cases q; exact ⟨_, _, rfl⟩
              · cases hw
            · cases hw
          · cases q
    obtain ⟨v, w, rfl⟩ := hv
    unfold opRun at e'
    rw [List.map_cons, List.map_cons, List.map_nil] at e'
    cases q2 : opV o [view S1 v, view S1 w] with
    | bad w => rw [q2] at e'; cases e'
    | sh y => rw [q2] at e'; cases e'; exact hq _ _ _ (.inl q2)
    | fr y => rw [q2] at e'; cases e'; exact hq _ _ _ (.inr q2)
theorem callPA {as : List Expr} (hs : ∀ e ∈ as, notStar e = true) (hl : as.length = ces.length) (hp : ∀ (i : Nat) (e : Expr) (ce : CE), as[i]? = some e → ces[i]? = some ce → PE X e (tE G x W (ev cx cm ce))) : PA X as (tAr G x W (evr cx cm ces)) :=
  pa_evr hl hp fun e he es env => star_cons (hs e he) es env
theorem pet_callB (gs : GS G T cx k) (hK : X.K = G.K) {o : Op} {y : Str} {id : String} {p q : Pos} {as : List Expr} {f : List PV → ORes} (hc : CallR X (.builtin id) (rN G x (opV o))) (hg : Gl X y) (hm : X.mg y = none) (hv : bootBuiltins y = some (.builtin id))
    (hs : ∀ e ∈ a :: as, notStar e = true) (ha : PA X (a :: as) (tAr G x W (evr cx cm ces))) (hn : y ≠ "__name__") (hdb : (y == ("__debug__" : Str)) = false) :
    PET G x W X cx cm (.op o ces) (.Call (.Name y p) (a :: as) [] q) :=
  pet_plain hK ((pe_callB hc hg hm hv ha hn hdb (star_cons (hs a List.mem_cons_self) as X.env) (star_any fun e he => hs e (List.mem_cons_of_mem _ he))).imp fun σ H Q w => rdA (tE_op gs w)) rfl
theorem pet_callTy (gs : GS G T cx k) (hK : X.K = G.K) {o : Op} {y : Str} {id : String} {p q : Pos} {as : List Expr} (hc : CallR X (.type id) (rN G x (opV o))) (hg : Gl X y) (hm : X.mg y = none) (hv : bootBuiltins y = some (.type id))
    (hs : ∀ e ∈ a :: as, notStar e = true) (ha : PA X (a :: as) (tAr G x W (evr cx cm ces))) (hn : y ≠ "__name__") (hdb : (y == ("__debug__" : Str)) = false) :
    PET G x W X cx cm (.op o ces) (.Call (.Name y p) (a :: as) [] q) :=
  pet_plain hK ((pe_callTy hc hg hm hv ha hn hdb (star_cons (hs a List.mem_cons_self) as X.env) (star_any fun e he => hs e (List.mem_cons_of_mem _ he))).imp fun σ H Q w => rdA (tE_op gs w)) rfl
theorem rN1 {f : List PV → ORes} {g : Value} (h : CallR X g (r1c G x fun v => f [v])) (hz : ∀ vs, vs.length ≠ 1 → ∃ w, f vs = .bad w) : CallR X g (rN G x f) := call_of h fun us H Q ⟨F, Z, L, r, S, σ, vs, B, Ts, P⟩ => by
  by_cases hl : vs.length = 1
  · cases Ts with
    | nil => cases hl
    | cons t ts => cases ts with
      | nil => exact ⟨_, rfl, F, Z, L, r, S, σ, _, B, t, P⟩
      | cons _ _ => simp at hl
  · obtain ⟨w, e⟩ := hz vs hl
    rw [e] at P; exact P.elim
theorem rN2 {f : List PV → ORes} {g : Value} (h : CallR X g (r2c G x fun v w => f [v, w])) (hz : ∀ vs, vs.length ≠ 2 → ∃ w, f vs = .bad w) : CallR X g (rN G x f) := call_of h fun us H Q ⟨F, Z, L, r, S, σ, vs, B, Ts, P⟩ => by
  by_cases hl : vs.length = 2
  · cases Ts with
    | nil => cases hl
    | cons t ts => cases ts with
      | nil => simp at hl
      | cons t2 ts => cases ts with
        | nil => exact ⟨_, _, rfl, F, Z, L, r, S, σ, _, _, B, t, t2, P⟩
        | cons _ _ => simp at hl
  · obtain ⟨w, e⟩ := hz vs hl
    rw [e] at P; exact P.elim
/-! ### leaves -/
theorem tE_sh {m : Ev → Store → Out (PV × Md)} {σ : L2.St} {H : Hp} {Q : VK} {v : PV} {u : V} (hm : ∀ r S, m r S = .ok (v, .sh) r S) (hr : ∀ Z L, Rep G Z L v u) (h : tE G x W m σ H Q) : Q u H := by
  obtain ⟨F, Z, L, r, S, B, P⟩ := h
  rw [hm] at P
  exact P Z L H u B (hr Z L)
theorem pet_const (hK : X.K = G.K) {v : PV} {c : Const} {j : Nat} {p : Pos} (h : constOk v c = true) : PET G x W X cx cm (.k v) (.Constant c j p) := by
  refine pet_plain hK ?_ rfl
  have hm : ∀ (r : Ev) (S : Store), ev cx cm (.k v) r S = .ok (v, .sh) r S := fun r S => by unfold ev; rfl
  unfold constOk at h
  split at h
  · exact pe_non.imp fun σ H Q w => tE_sh hm (fun _ _ => .non) w
  · rename_i b b'
    have e : b = b' := by simpa using h
    subst e
    exact pe_bl.imp fun σ H Q w => tE_sh hm (fun _ _ => .bl b) w
  · rename_i b b'
    have e : b = b' := by simpa using h
    subst e
    exact pe_int.imp fun σ H Q w => tE_sh hm (fun _ _ => .int b) w
  · rename_i b b'
    simp only [Bool.and_eq_true, decide_eq_true_eq] at h
    obtain ⟨⟨e, h1⟩, h2⟩ := h
    have e : b = b' := by simpa using e
    subst e
    exact pe_str.imp fun σ H Q w => tE_sh hm (fun _ _ => .str b h1 (Nat.le_trans h2 big_le)) w
  · cases h
theorem nmOk_ {y : Str} (h : nmOk y = true) : (y == ("__debug__" : Str)) = false ∧ (y == ("__classdict__" : Str)) = false := by
  unfold nmOk at h
  simp only [Bool.and_eq_true, Bool.not_eq_true'] at h
  exact h
theorem pe_varS {i : Nat} {y : Str} {p : Pos} (hN : X.N[i]? = some y) (hv : Vis X.env.scope y) (hn : nmOk y = true) : PE X (.Name y p) (tE G x W (ev cx cm (.var i))) := by
  refine (pe_var hN hv (nmOk_ hn).1 (nmOk_ hn).2).imp fun σ H Q ⟨F, Z, L, r, S, B, P⟩ => ?_
  unfold ev at P
  split at P
  · rename_i v q
    obtain ⟨u, h1, h2, h3⟩ := B.slot q (by intro z; cases z)
    exact ⟨u, h1, P Z L H u B h3⟩
  · rename_i v q
    obtain ⟨u, h1, h2, h3⟩ := B.slot q (by intro z; cases z)
    exact ⟨u, h1, P Z L H u B ⟨h1, h2⟩⟩
  · exact P.elim
theorem pet_var (hK : X.K = G.K) {i : Nat} {y : Str} {p : Pos} (hN : X.N[i]? = some y) (hv : Vis X.env.scope y) (hn : nmOk y = true) : PET G x W X cx cm (.var i) (.Name y p) := pet_plain hK (pe_varS hN hv hn) rfl
theorem pet_glb (gs : GS G T cx k) (hK : X.K = G.K) (hmg : X.mg = G.mg) {g : Nat} {y : Str} {p : Pos} (hg : Gl X y) (ht : T.gnm g = some y) (hn : nmOk y = true) : PET G x W X cx cm (.glb g) (.Name y p) := by
  refine pet_plain hK ?_ rfl
  cases e : G.P.glob g with
  | none =>
    refine PE.imp (t := fun _ _ _ => False) ⟨fun _ _ _ _ _ _ h => h.elim⟩ fun σ H Q ⟨F, Z, L, r, S, B, P⟩ => ?_
    unfold ev at P
    rw [gs.P, e] at P
    exact P.elim
  | some v =>
    obtain ⟨u, vv, h1, h2, h3⟩ := gs.gls g y v ht e
    refine (pe_glob hg (by rw [hmg]; exact h1) h2 (nmOk_ hn).1).imp fun σ H Q w => tE_sh (fun r S => ?_) h3 w
    unfold ev
    rw [gs.P, e]
theorem pet_fnv (gs : GS G T cx k) (hK : X.K = G.K) (hmg : X.mg = G.mg) {f : Nat} {y : Str} {p : Pos} (hg : Gl X y) (ht : T.fnm f = some y) (hn : nmOk y = true) : PET G x W X cx cm (.fnv f) (.Name y p) := by
  refine pet_plain hK ?_ rfl
  obtain ⟨fd, ps, h1, h2, _⟩ := gs.fns f y ht
  exact (pe_glob (v := .ref (G.fa f)) hg (by rw [hmg]; exact h2) rfl (nmOk_ hn).1).imp fun σ H Q w => tE_sh (fun r S => by unfold ev; rfl) (fun _ _ => .fn (gs.fvT f y ht)) w
/-! ### calls -/
theorem out_ofF {F : Frm} {Z : Hp} {L : List Addr} {r : Ev} {S : Store} {σ : L2.St} {H : Hp} {Q : VK} {o : FOut} (hx : X.prog = G.prog) (B : BRel G x F Z L r S σ H)
    (P : Post (ofF o r) (fun p r' S' => ∀ Z' L' H' u, BRel G x F Z' L' r' S' σ H' → VR G F Z' L' r' σ H' p.1 p.2 u → Q u H') (XP G x W F σ)) : FPost G (callF F Z L r σ H) o Q (WE W σ) := by
  cases o with
  | ok v fr S' => exact fun Z1 L1 H1 u h hv => P Z1 L1 H1 u (B.ret h) (B.retV h hv)
  | exc c vs S' => exact fun Z1 L1 H1 d h hv => P Z1 L1 H1 d (B.ret h) hv
  | bad w => exact P
theorem tE_call {f : Nat} {σ : L2.St} {H : Hp} {Q : VK} (hx : X.prog = G.prog) (h : tE G x W (ev cx cm (.call f ces)) σ H Q) :
    tCallG (spF G (cx.call f)) W (tAe G x W (evs cx cm ces)) σ H Q := by
  obtain ⟨F, Z, L, r, S, B, P⟩ := h
  unfold ev at P
  rw [post_bind] at P
  refine ⟨F, Z, L, r, S, B, P.imp (fun vs r1 S1 P1 Z1 L1 H1 us B1 R1 => ?_) fun _ _ _ _ E => E⟩
  exact ⟨_, Z1, L1, S1, vs, B1.callee, R1, out_ofF hx B1 P1⟩
/-- f(..), the arguments handed on -/
theorem pet_call (gs : GS G T cx k) (gx : GX G N k sc W X) {f : Nat} {y : Str} {p q : Pos} {as : List Expr} (hg : glK sc y = true) (ht : T.fnm f = some y) (hn : nmOk y = true) (hs : ∀ e ∈ as, notStar e = true) (hl : as.length = ces.length) (ha : PA X as (tAe G x W (evs cx cm ces))) :
    PET G x W X cx cm (.call f ces) (.Call (.Name y p) as [] q) := by
  refine pet_plain gx.K ?_ rfl
  obtain ⟨fd, ps, F, h1, h2, h3⟩ := gs.fns f y ht
  have F' : FnG X.prog X.w X.K X.mg X.base k (G.fa f) fd ps (spF G (cx.call f)) := by rw [gx.prog, gx.w, gx.K, gx.mg, gx.base]; exact F
  have m' : X.mg y = some (.ref (G.fa f)) := by rw [gx.mg]; exact h1
  have k' : PySem.W.keepIn X.K (.ref (G.fa f)) = true := by rw [gx.K]; exact h2
  have b' : Binds X.K fd ps [] := by rw [gx.K]; exact h3
  cases as with
  | nil =>
    refine (pe_callG0 F' gx.room gx.grd (gx.gl y hg) m' k' b' gx.tk (nmOk_ hn).1).imp fun σ H Q w => ?_
    · have e : ces = [] := List.eq_nil_of_length_eq_zero hl.symm
      subst e
      obtain ⟨F, Z, L, r, S, B, P⟩ := tE_call gx.prog w
      exact P Z L H [] B .nil
  | cons e es => exact (pe_callG F' gx.room gx.grd (gx.gl y hg) m' k' b' gx.tk ha (nmOk_ hn).1 (star_cons (hs e List.mem_cons_self) es X.env) (star_any fun e he => hs e (List.mem_cons_of_mem _ he))).imp fun σ H Q w => tE_call gx.prog w
/-! ### and, or, not, if -/
def vAnd : Expr → Option (Expr × Expr)
  | .BoolOp .And [a, b] _ => some (a, b)
  | .BoolOp .And (a :: b :: c :: r) p => some (a, .BoolOp .And (b :: c :: r) p)
  | _ => none
def vOr : Expr → Option (Expr × Expr)
  | .BoolOp .Or [a, b] _ => some (a, b)
  | .BoolOp .Or (a :: b :: c :: r) p => some (a, .BoolOp .Or (b :: c :: r) p)
  | _ => none
theorem BRel.tru {F : Frm} {Z : Hp} {L : List Addr} {r : Ev} {S : Store} {σ : L2.St} {H : Hp} {v : PV} {m : Md} {u : V} {K : Bool → Ev → Store → Prop} {E : Nat → List PV → Ev → Store → Prop} (hK : X.K = G.K) (B : BRel G x F Z L r S σ H) (V1 : VR G F Z L r σ H v m u) (P : Post (truthO S v r) K E) :
    ∃ b, TruV X.K u H b ∧ K b r S := by
  unfold truthO at P
  cases e : truth S v with
  | none => rw [e] at P; exact P.elim
  | some b => rw [e] at P; exact ⟨b, (V1.top B).tru hK B e, P⟩
theorem tE_and (hK : X.K = G.K) {σ : L2.St} {H : Hp} {Q : VK} (h : tE G x W (ev cx cm (.andE ca cb)) σ H Q) : tAndT X.K (tE G x W (ev cx cm ca)) (tE G x W (ev cx cm cb)) σ H Q := by
  obtain ⟨F, Z, L, r, S, B, P⟩ := h
  unfold ev at P
  rw [post_bind] at P
  refine ⟨F.at Z L, Z, L, r, S, B.here, P.imp (fun p r1 S1 P1 Z1 L1 H1 u B1 V1 => ?_) fun c vs r1 S1 E => E.at_ B.z0 B.l0⟩
  rw [post_bind] at P1
  obtain ⟨b, hb, P2⟩ := B1.tru hK V1 P1
  have B2 := B1.back B.z0 B.l0
  refine ⟨b, hb, ?_⟩
  cases b with
  | true => exact ⟨F, Z1, L1, r1, S1, B2, P2⟩
  | false =>
    refine P2 Z1 L1 H1 u B2 ?_
    cases q : p.2 with
    | sh => rw [q] at V1; exact V1
    | fr => rw [q] at V1; exact V1
    | bo i => rw [q] at V1; exact V1
theorem tE_or (hK : X.K = G.K) {σ : L2.St} {H : Hp} {Q : VK} (h : tE G x W (ev cx cm (.orE ca cb)) σ H Q) : tOrT X.K (tE G x W (ev cx cm ca)) (tE G x W (ev cx cm cb)) σ H Q := by
  obtain ⟨F, Z, L, r, S, B, P⟩ := h
  unfold ev at P
  rw [post_bind] at P
  refine ⟨F.at Z L, Z, L, r, S, B.here, P.imp (fun p r1 S1 P1 Z1 L1 H1 u B1 V1 => ?_) fun c vs r1 S1 E => E.at_ B.z0 B.l0⟩
  rw [post_bind] at P1
  obtain ⟨b, hb, P2⟩ := B1.tru hK V1 P1
  have B2 := B1.back B.z0 B.l0
  refine ⟨b, hb, ?_⟩
  cases b with
  | false => exact ⟨F, Z1, L1, r1, S1, B2, P2⟩
  | true =>
    refine P2 Z1 L1 H1 u B2 ?_
    cases q : p.2 with
    | sh => rw [q] at V1; exact V1
    | fr => rw [q] at V1; exact V1
    | bo i => rw [q] at V1; exact V1
theorem tE_not (hK : X.K = G.K) {σ : L2.St} {H : Hp} {Q : VK} (h : tE G x W (ev cx cm (.notE ca)) σ H Q) : tNotT X.K (tE G x W (ev cx cm ca)) σ H Q := by
  obtain ⟨F, Z, L, r, S, B, P⟩ := h
  unfold ev at P
  rw [post_bind] at P
  refine ⟨F.at Z L, Z, L, r, S, B.here, P.imp (fun p r1 S1 P1 Z1 L1 H1 u B1 V1 => ?_) fun c vs r1 S1 E => E.at_ B.z0 B.l0⟩
  rw [post_bind] at P1
  obtain ⟨b, hb, P2⟩ := B1.tru hK V1 P1
  exact ⟨b, hb, P2 Z1 L1 H1 _ (B1.back B.z0 B.l0) (.bl _)⟩
/-! tests -/
theorem tT_bind {m : Ev → Store → Out Bool} {f : Bool → Ev → Store → Out Bool} {σ : L2.St} {H : Hp} {Q : Bool → Hp → Prop} (h : tT G x W (fun r S => (m r S).bind f) σ H Q) :
    tT G x W m σ H fun b H' => tT G x W (f b) σ H' Q := by
  obtain ⟨F, Z, L, r, S, B, P⟩ := h
  rw [post_bind] at P
  exact ⟨F.at Z L, Z, L, r, S, B.here, P.imp (fun p r1 S1 P1 Z1 L1 H1 B1 => ⟨F, Z1, L1, r1, S1, B1.back B.z0 B.l0, P1⟩) fun c vs r1 S1 E => E.at_ B.z0 B.l0⟩
theorem tT_ret {b : Bool} {σ : L2.St} {H : Hp} {Q : Bool → Hp → Prop} (h : tT G x W (fun r S => .ok b r S) σ H Q) : Q b H := by
  obtain ⟨F, Z, L, r, S, B, P⟩ := h
  exact P Z L H B
theorem bind_bind {α β γ : Type} (o : Out α) (f : α → Ev → Store → Out β) (g : β → Ev → Store → Out γ) : (o.bind f).bind g = o.bind fun a r S => (f a r S).bind g := by cases o <;> rfl
theorem bind_congr {α β : Type} {o : Out α} {f g : α → Ev → Store → Out β} (h : ∀ a r S, f a r S = g a r S) : o.bind f = o.bind g := by cases o <;> first | rfl | exact h _ _ _
theorem tru_bl (S : Store) (b : Bool) (r : Ev) : truthO S (.bl b) r = .ok b r S := rfl
theorem evT_and : evT cx cm (.andE ca cb) = fun r S => (evT cx cm ca r S).bind fun b r S => if b then evT cx cm cb r S else .ok false r S := by
  funext r S
  unfold evT
  rw [show ev cx cm (.andE ca cb) r S = (ev cx cm ca r S).bind fun x r S => (truthO S x.1 r).bind fun t r S => if t then ev cx cm cb r S else .ok x r S by rw [ev]]
  rw [bind_bind, bind_bind]
  refine bind_congr fun p r S => ?_
  cases e : truth S p.1 with
  | none => simp only [truthO, e, Out.bind]
  | some b => cases b <;> simp [truthO, e, Out.bind]
theorem evT_or : evT cx cm (.orE ca cb) = fun r S => (evT cx cm ca r S).bind fun b r S => if b then .ok true r S else evT cx cm cb r S := by
  funext r S
  unfold evT
  rw [show ev cx cm (.orE ca cb) r S = (ev cx cm ca r S).bind fun x r S => (truthO S x.1 r).bind fun t r S => if t then .ok x r S else ev cx cm cb r S by rw [ev]]
  rw [bind_bind, bind_bind]
  refine bind_congr fun p r S => ?_
  cases e : truth S p.1 with
  | none => simp only [truthO, e, Out.bind]
  | some b => cases b <;> simp [truthO, e, Out.bind]
theorem evT_not : evT cx cm (.notE ca) = fun r S => (evT cx cm ca r S).bind fun b r S => .ok (!b) r S := by
  funext r S
  unfold evT
  rw [show ev cx cm (.notE ca) r S = (ev cx cm ca r S).bind fun x r S => (truthO S x.1 r).bind fun t r S => .ok (.bl (!t), .sh) r S by rw [ev]]
  rw [bind_bind, bind_bind]
  refine bind_congr fun p r S => ?_
  cases e : truth S p.1 with
  | none => simp only [truthO, e, Out.bind]
  | some b =>
    have e2 : ∀ c, truth S (.bl c) = some c := fun _ => rfl
    cases b <;> simp only [truthO, e, e2, Out.bind]
theorem tT_and {σ : L2.St} {H : Hp} {Q : Bool → Hp → Prop} (h : tT G x W (evT cx cm (.andE ca cb)) σ H Q) : tAnd (tT G x W (evT cx cm ca)) (tT G x W (evT cx cm cb)) σ H Q := by
  rw [evT_and] at h
  obtain ⟨F, Z, L, r, S, B, P⟩ := tT_bind h
  refine ⟨F, Z, L, r, S, B, P.imp (fun b r S P Z L H B => ?_) fun _ _ _ _ E => E⟩
  have w := P Z L H B
  cases b with
  | true => exact w
  | false => exact tT_ret w
theorem tT_or {σ : L2.St} {H : Hp} {Q : Bool → Hp → Prop} (h : tT G x W (evT cx cm (.orE ca cb)) σ H Q) : tOr (tT G x W (evT cx cm ca)) (tT G x W (evT cx cm cb)) σ H Q := by
  rw [evT_or] at h
  obtain ⟨F, Z, L, r, S, B, P⟩ := tT_bind h
  refine ⟨F, Z, L, r, S, B, P.imp (fun b r S P Z L H B => ?_) fun _ _ _ _ E => E⟩
  have w := P Z L H B
  cases b with
  | false => exact w
  | true => exact tT_ret w
theorem tT_not {σ : L2.St} {H : Hp} {Q : Bool → Hp → Prop} (h : tT G x W (evT cx cm (.notE ca)) σ H Q) : tNot (tT G x W (evT cx cm ca)) σ H Q := by
  rw [evT_not] at h
  obtain ⟨F, Z, L, r, S, B, P⟩ := tT_bind h
  exact ⟨F, Z, L, r, S, B, P.imp (fun b r S P Z L H B => tT_ret (P Z L H B)) fun _ _ _ _ E => E⟩
theorem pet_and (hK : X.K = G.K) (hv : vAnd e = some (a, b)) (ha : PET G x W X cx cm ca a) (hb : PET G x W X cx cm cb b) (hi : vIf a = none) (hj : vIf b = none) : PET G x W X cx cm (.andE ca cb) e := by
  unfold vAnd at hv
  split at hv
  · cases hv
    refine ⟨(pe_andT ha.v (pe_one hb.v)).imp fun σ H Q w => tE_and hK w, fun _ => (pw_and (ha.t hi) (pw_and1 (hb.t hj))).pt.imp fun σ H Q w => tT_and w, fun _ => ⟨fun wh pins s σ H Q I w => (pw_and (ha.t hi) (pw_and1 (hb.t hj))).run wh pins s σ H Q I (tT_and w)⟩⟩
  · cases hv
    refine ⟨(pe_andT ha.v hb.v).imp fun σ H Q w => tE_and hK w, fun _ => (pw_and (ha.t hi) (hb.w rfl)).pt.imp fun σ H Q w => tT_and w, fun _ => ⟨fun wh pins s σ H Q I w => (pw_and (ha.t hi) (hb.w rfl)).run wh pins s σ H Q I (tT_and w)⟩⟩
  · cases hv
theorem pet_or (hK : X.K = G.K) (hv : vOr e = some (a, b)) (ha : PET G x W X cx cm ca a) (hb : PET G x W X cx cm cb b) (hi : vIf a = none) (hj : vIf b = none) : PET G x W X cx cm (.orE ca cb) e := by
  unfold vOr at hv
  split at hv
  · cases hv
    refine ⟨(pe_orT ha.v (pe_one hb.v)).imp fun σ H Q w => tE_or hK w, fun _ => (pw_or (ha.t hi) (pw_or1 (hb.t hj))).pt.imp fun σ H Q w => tT_or w, fun _ => ⟨fun wh pins s σ H Q I w => (pw_or (ha.t hi) (pw_or1 (hb.t hj))).run wh pins s σ H Q I (tT_or w)⟩⟩
  · cases hv
    refine ⟨(pe_orT ha.v hb.v).imp fun σ H Q w => tE_or hK w, fun _ => (pw_or (ha.t hi) (hb.w rfl)).pt.imp fun σ H Q w => tT_or w, fun _ => ⟨fun wh pins s σ H Q I w => (pw_or (ha.t hi) (hb.w rfl)).run wh pins s σ H Q I (tT_or w)⟩⟩
  · cases hv
theorem pet_not (hK : X.K = G.K) {p : Pos} (ha : PET G x W X cx cm ca a) (hi : vIf a = none) : PET G x W X cx cm (.notE ca) (.UnaryOp .Not a p) :=
  ⟨(pe_notT ha.v).imp fun σ H Q w => tE_not hK w, fun _ => (pt_not (ha.t hi)).imp fun σ H Q w => tT_not w, fun hb => by cases hb⟩
/-- a test, then by cases -/
theorem tT_ev {m : Ev → Store → Out (PV × Md)} {f : Bool → Ev → Store → Out (PV × Md)} {σ : L2.St} {H : Hp} {Q : VK} (h : tE G x W (fun r S => ((m r S).bind fun p r S => truthO S p.1 r).bind f) σ H Q) :
    tT G x W (fun r S => (m r S).bind fun p r S => truthO S p.1 r) σ H fun b H' => tE G x W (f b) σ H' Q := by
  obtain ⟨F, Z, L, r, S, B, P⟩ := h
  rw [post_bind] at P
  exact ⟨F.at Z L, Z, L, r, S, B.here, P.imp (fun p r1 S1 P1 Z1 L1 H1 B1 => ⟨F, Z1, L1, r1, S1, B1.back B.z0 B.l0, P1⟩) fun c vs r1 S1 E => E.at_ B.z0 B.l0⟩
theorem pet_ife {p : Pos} (hc : PET G x W X cx cm cc c) (hi : vIf c = none) (ha : PET G x W X cx cm ca a) (hb : PET G x W X cx cm cb b) : PET G x W X cx cm (.ife cc ca cb) (.IfExp c a b p) := by
  refine ⟨(pe_ifExp (hc.t hi) ha.v hb.v).imp fun σ H Q w => ?_, fun h => (nomatch h), fun h => (nomatch h)⟩
  have w' : tE G x W (fun r S => ((ev cx cm cc r S).bind fun p r S => truthO S p.1 r).bind fun t r S => if t then ev cx cm ca r S else ev cx cm cb r S) σ H Q := tE_of w fun r S K E h => by
    rw [bind_bind]
    rw [ev] at h
    exact h
  obtain ⟨F, Z, L, r, S, B, P⟩ := tT_ev w'
  refine ⟨F, Z, L, r, S, B, P.imp (fun b r S P Z L H B => ?_) fun _ _ _ _ E => E⟩
  have w := P Z L H B
  cases b with
  | true => exact w
  | false => exact w
/-! ### displays -/
theorem line_reps {Z : Hp} {L : List Addr} {vs : List PV} {us : List V} (h : Reps G Z L vs us) (hl : vs.length ≤ 100000) : us.length ≤ sizeLine := by
  rw [← h.length, sizeLine_eq]; omega
theorem evs_len {cx : Cxt} {cm : Bool} : ∀ (ces : List CE) (r : Ev) (S : Store) (vs : List PV) (r' : Ev) (S' : Store), evs cx cm ces r S = .ok vs r' S' → vs.length = ces.length
  | [], r, S, vs, r', S', h => by unfold evs at h; cases h; rfl
  | c :: cs, r, S, vs, r', S', h => by
    unfold evs at h
    cases e1 : ev cx cm c r S with
    | bad w => rw [e1] at h; cases h
    | exc c vs r S => rw [e1] at h; cases h
    | ok p r1 S1 =>
      rw [e1] at h
      simp only [Out.bind] at h
      cases e2 : esc cm p.1 p.2 r1 S1 with
      | bad w => rw [e2] at h; cases h
      | exc c vs r S => rw [e2] at h; cases h
      | ok v r2 S2 =>
        rw [e2] at h
        simp only [Out.bind] at h
        cases e3 : evs cx cm cs r2 S2 with
        | bad w => rw [e3] at h; cases h
        | exc c vs r S => rw [e3] at h; cases h
        | ok ws r3 S3 =>
          rw [e3] at h
          simp only [Out.bind] at h
          cases h
          simp [evs_len cs _ _ _ _ _ e3]
theorem pet_tup (hK : X.K = G.K) {j : Nat} {p : Pos} (hl : ces.length ≤ 100000) (ha : PA X es (tAe G x W (evs cx cm ces))) : PET G x W X cx cm (.tupE ces) (.Tuple es j p) := by
  refine pet_plain hK ((pe_tup ha).imp fun σ H Q ⟨F, Z, L, r, S, B, P⟩ => ?_) rfl
  unfold ev at P
  rw [post_bind] at P
  refine ⟨F, Z, L, r, S, B, ?_⟩
  cases e : evs cx cm ces r S with
  | bad w => rw [e] at P; exact P
  | exc c vs r1 S1 => rw [e] at P; exact P
  | ok vs r1 S1 =>
    rw [e] at P
    intro Z1 L1 H1 us B1 R1
    refine ⟨line_reps R1 (by rw [evs_len _ _ _ _ _ _ e]; exact hl), fun q hq => ?_⟩
    obtain ⟨B2, R2⟩ := B1.newT hq R1
    exact P _ _ _ _ B2 R2
theorem pet_lst (hK : X.K = G.K) {p : Pos} (hl : ces.length ≤ 100000) (ha : PA X es (tAe G x W (evs cx cm ces))) : PET G x W X cx cm (.lstE ces) (.List es p) := by
  refine pet_plain hK ((pe_lst ha).imp fun σ H Q ⟨F, Z, L, r, S, B, P⟩ => ?_) rfl
  unfold ev at P
  rw [post_bind] at P
  refine ⟨F, Z, L, r, S, B, ?_⟩
  cases e : evs cx cm ces r S with
  | bad w => rw [e] at P; exact P
  | exc c vs r1 S1 => rw [e] at P; exact P
  | ok vs r1 S1 =>
    rw [e] at P
    intro Z1 L1 H1 us B1 R1
    refine ⟨line_reps R1 (by rw [evs_len _ _ _ _ _ _ e]; exact hl), fun q hq => ?_⟩
    obtain ⟨B2, R2⟩ := B1.newL hq R1
    exact P _ _ _ _ B2 R2
end
end Ci
namespace Ci
open PySem L2
/-- the names stand as they stood -/
def Keep {α : Type} (o : Out α) (r : Ev) : Prop := match o with
  | .ok _ r' _ => r' = r
  | _ => True
theorem keep_bind {α β : Type} {x : Out α} {f : α → Ev → Store → Out β} {r : Ev} (h : Keep x r) (k : ∀ a S, Keep (f a r S) r) : Keep (x.bind f) r := by
  cases x with
  | ok a r' S => cases (show r' = r from h); exact k a S
  | _ => trivial
theorem keep_ok {α : Type} {a : α} {r : Ev} {S : Store} : Keep (.ok a r S) r := rfl
theorem keep_bad {α : Type} {w : Nat} {r : Ev} : Keep (Out.bad w : Out α) r := trivial
theorem keep_tru {S : Store} {v : PV} {r : Ev} : Keep (truthO S v r) r := by unfold truthO; (repeat' split) <;> trivial
theorem keep_esc {S : Store} {v : PV} {m : Md} {r : Ev} : Keep (esc true v m r S) r := by unfold esc; cases m <;> trivial
theorem keep_ofF {x : FOut} {r : Ev} : Keep (ofF x r) r := by cases x <;> trivial
theorem keep_ofO {x : ORes} {r : Ev} {S : Store} : Keep (ofO x r S) r := by cases x <;> trivial
theorem keep_escB {x : Out (PV × Md)} {r : Ev} (h : Keep x r) : Keep (escB true x) r := keep_bind h fun _ _ => keep_esc
theorem keep_rdB {x : Out (List (PV × Md))} {r : Ev} (h : Keep x r) : Keep (rdB x) r := keep_bind h fun _ _ => by (try dsimp only); (repeat' split) <;> trivial
theorem keep_itE {S : Store} {hd : Bool} {own : List Nat} {v : PV × Md} {r : Ev} : Keep (itE true hd own v r S) r := by
  unfold itE
  split
  · exact keep_esc
  · split
    · (repeat' split) <;> trivial
    · trivial
local macro_rules | `(tactic| trivial) => `(tactic| first | exact keep_tru | exact keep_esc | exact keep_ofF | exact keep_ofO | exact keep_itE)
mutual
theorem keep_ev (cx : Cxt) : ∀ (ce : CE) (r : Ev) (S : Store), Keep (ev cx true ce r S) r
  | .k v, r, S => by unfold ev; trivial
  | .var i, r, S => by unfold ev; (repeat' split) <;> trivial
  | .glb g, r, S => by unfold ev; (repeat' split) <;> trivial
  | .fnv f, r, S => by unfold ev; trivial
  | .call f as, r, S => by unfold ev; exact keep_bind (keep_evs cx as r S) fun _ _ => keep_ofF
  | .lcall f as, r, S => by
    unfold ev
    refine keep_bind (keep_rdB (keep_evr cx as r S)) fun _ _ => ?_
    try dsimp only
    split
    · (repeat' split) <;> trivial
    · trivial
  | .callv i as, r, S => by
    unfold ev
    split
    · exact keep_bind (keep_evs cx as r S) fun _ _ => keep_ofF
    · trivial
  | .meth m o as, r, S => by
    unfold ev
    refine keep_bind (keep_escB (keep_ev cx o r S)) fun _ _ => ?_
    split
    · split
      · exact keep_bind (keep_evs cx as r _) fun _ _ => keep_ofF
      · trivial
    · trivial
  | .lmeth m o as, r, S => by
    unfold ev
    refine keep_bind (keep_ev cx o r S) fun _ _ => keep_bind (keep_evr cx as r _) fun _ _ => ?_
    try dsimp only
    split
    · split
      · split
        · split
          · (repeat' split) <;> trivial
          · trivial
        · trivial
      · trivial
    · trivial
  | .mk c as, r, S => by
    unfold ev
    refine keep_bind (keep_evs cx as r S) fun _ _ => ?_
    try dsimp only
    split
    · trivial
    · unfold outL
      (repeat' split) <;> trivial
  | .op o es, r, S => by
    unfold ev
    refine keep_bind (keep_rdB (keep_evr cx es r S)) fun _ _ => ?_
    try dsimp only
    split
    · split
      · (repeat' split) <;> trivial
      · trivial
    · trivial
  | .eqm ng es, r, S => by
    unfold ev
    refine keep_bind (keep_evs cx es r S) fun _ _ => ?_
    try dsimp only
    unfold eqmO
    (repeat' split) <;> first | exact keep_ofO | trivial
  | .chain o1 o2 a b c, r, S => by
    unfold ev
    refine keep_bind (keep_ev cx a r S) fun _ _ => keep_bind (keep_ev cx b r _) fun _ _ => ?_
    try dsimp only
    split
    · split
      · refine keep_bind (keep_ev cx c r _) fun _ _ => ?_
        try dsimp only
        split
        · (repeat' split) <;> trivial
        · trivial
      · trivial
      · trivial
    · trivial
  | .andE a b, r, S => by
    unfold ev
    refine keep_bind (keep_ev cx a r S) fun _ _ => keep_bind keep_tru fun _ _ => ?_
    try dsimp only
    split
    · exact keep_ev cx b r _
    · trivial
  | .orE a b, r, S => by
    unfold ev
    refine keep_bind (keep_ev cx a r S) fun _ _ => keep_bind keep_tru fun _ _ => ?_
    try dsimp only
    split
    · trivial
    · exact keep_ev cx b r _
  | .notE a, r, S => by
    unfold ev
    exact keep_bind (keep_ev cx a r S) fun _ _ => keep_bind keep_tru fun _ _ => keep_ok
  | .ife c a b, r, S => by
    unfold ev
    refine keep_bind (keep_ev cx c r S) fun _ _ => keep_bind keep_tru fun _ _ => ?_
    try dsimp only
    split
    · exact keep_ev cx a r _
    · exact keep_ev cx b r _
  | .tupE es, r, S => by unfold ev; exact keep_bind (keep_evs cx es r S) fun _ _ => keep_ok
  | .lstE es, r, S => by unfold ev; exact keep_bind (keep_evs cx es r S) fun _ _ => keep_ok
  | .dctE es, r, S => by
    unfold ev
    refine keep_bind (keep_evs cx es r S) fun _ _ => ?_
    try dsimp only
    split
    · (repeat' split) <;> trivial
    · trivial
  | .comp own frz tgt it cond elt, r, S => by
    unfold ev
    split
    · trivial
    · rename_i hf
      have hf' : frz = [] := by simpa using hf
      subst hf'
      refine keep_bind (keep_evIt cx false own it r S) fun _ _ => ?_
      try dsimp only
      split
      · trivial
      · generalize hz : compLoop _ _ _ _ = z
        cases z <;> trivial
  | .exf i f, r, S => by
    unfold ev
    split
    · (repeat' split) <;> trivial
    · trivial
  | .srtk f e, r, S => by
    unfold ev
    refine keep_bind (keep_escB (keep_ev cx e r S)) fun _ _ => ?_
    try dsimp only
    split
    · generalize hz : compLoop _ _ _ _ = z
      cases z with
      | ok _ _ _ =>
        simp only [Out.bind]
        (repeat' split) <;> trivial
      | _ => trivial
    · trivial
  | .srtm m o e, r, S => by
    unfold ev
    refine keep_bind (keep_escB (keep_ev cx o r S)) fun _ _ => keep_bind (keep_escB (keep_ev cx e r _)) fun _ _ => ?_
    try dsimp only
    split
    · split
      · generalize hz : compLoop _ _ _ _ = z
        cases z with
        | ok _ _ _ =>
          simp only [Out.bind]
          (repeat' split) <;> trivial
        | _ => trivial
      · trivial
    · trivial
  | .nloc e, r, S => by
    unfold ev
    refine keep_bind (keep_ev cx e r S) fun _ _ => ?_
    try dsimp only
    split
    · (repeat' split) <;> trivial
    · trivial
theorem keep_evs (cx : Cxt) : ∀ (ces : List CE) (r : Ev) (S : Store), Keep (evs cx true ces r S) r
  | [], r, S => by unfold evs; trivial
  | e :: es, r, S => by
    unfold evs
    exact keep_bind (keep_ev cx e r S) fun _ _ => keep_bind keep_esc fun _ _ => keep_bind (keep_evs cx es r _) fun _ _ => keep_ok
theorem keep_evr (cx : Cxt) : ∀ (ces : List CE) (r : Ev) (S : Store), Keep (evr cx true ces r S) r
  | [], r, S => by unfold evr; trivial
  | e :: es, r, S => by
    unfold evr
    exact keep_bind (keep_ev cx e r S) fun _ _ => keep_bind (keep_evr cx es r _) fun _ _ => keep_ok
theorem keep_evIt (cx : Cxt) (hd : Bool) (own : List Nat) : ∀ (it : CI) (r : Ev) (S : Store), Keep (evIt cx true hd own it r S) r
  | .ex e, r, S => by
    unfold evIt
    refine keep_bind (keep_ev cx e r S) fun _ _ => keep_bind keep_itE fun _ _ => ?_
    try dsimp only
    (repeat' split) <;> trivial
  | .rng es, r, S => by
    unfold evIt
    refine keep_bind (keep_rdB (keep_evr cx es r S)) fun _ _ => ?_
    try dsimp only
    (repeat' split) <;> trivial
  | .enm e, r, S => by
    unfold evIt
    refine keep_bind (keep_ev cx e r S) fun _ _ => keep_bind keep_itE fun _ _ => ?_
    try dsimp only
    (repeat' split) <;> trivial
  | .items e, r, S => by
    unfold evIt
    refine keep_bind (keep_ev cx e r S) fun _ _ => keep_bind keep_itE fun _ _ => ?_
    try dsimp only
    (repeat' split) <;> trivial
  | .enmI e, r, S => by
    unfold evIt
    refine keep_bind (keep_ev cx e r S) fun _ _ => keep_bind keep_itE fun _ _ => ?_
    try dsimp only
    (repeat' split) <;> trivial
end
end Ci
namespace Ci
open PySem L2

/-! ### slots -/
mutual
def tsl : CT → List Nat
  | .nm i => [i]
  | .tup ts => tsls ts
def tsls : List CT → List Nat
  | [] => []
  | t :: ts => tsl t ++ tsls ts
end
/-- alike but at vs -/
def Off {α : Type} (vs : List Nat) (σ σ' : List α) : Prop := σ'.length = σ.length ∧ ∀ i, i ∉ vs → σ'[i]? = σ[i]?
theorem Off.refl {α : Type} {vs : List Nat} {σ : List α} : Off vs σ σ := ⟨rfl, fun _ _ => rfl⟩
theorem Off.trans {α : Type} {vs : List Nat} {σ τ υ : List α} (h : Off vs σ τ) (k : Off vs τ υ) : Off vs σ υ := ⟨k.1.trans h.1, fun i hi => (k.2 i hi).trans (h.2 i hi)⟩
theorem Off.mono {α : Type} {vs ws : List Nat} {σ τ : List α} (h : Off vs σ τ) (k : ∀ i ∈ vs, i ∈ ws) : Off ws σ τ := ⟨h.1, fun i hi => h.2 i fun z => hi (k i z)⟩
theorem Off.set {α : Type} {vs : List Nat} {σ : List α} {i : Nat} {a : α} (h : i ∈ vs) : Off vs σ (σ.set i a) := ⟨List.length_set .., fun j hj => List.getElem?_set_ne fun e => hj (by rw [← e]; exact h)⟩
theorem wipe_at {σ : L2.St} : ∀ {vs : List Nat} {i : Nat}, (wipe σ vs)[i]? = if i ∈ vs then (if i < σ.length then some none else none) else σ[i]?
  | [], i => by simp [wipe]
  | v :: vs, i => by
    unfold wipe
    by_cases e : v = i
    · subst e
      rw [if_pos List.mem_cons_self]
      by_cases h : v < σ.length
      · rw [List.getElem?_set_self (by rw [wipe_length]; exact h), if_pos h]
      · rw [List.getElem?_eq_none (by rw [List.length_set, wipe_length]; omega), if_neg h]
    · rw [List.getElem?_set_ne e, wipe_at (vs := vs)]
      by_cases h : i ∈ vs
      · rw [if_pos h, if_pos (List.mem_cons_of_mem _ h)]
      · rw [if_neg h, if_neg]
        intro z
        rcases List.mem_cons.mp z with z | z
        · exact e z.symm
        · exact h z
theorem wipe_off {vs : List Nat} {σ τ : L2.St} (h : Off vs σ τ) : wipe τ vs = wipe σ vs := by
  apply List.ext_getElem?
  intro i
  rw [wipe_at, wipe_at, h.1]
  by_cases z : i ∈ vs
  · rw [if_pos z, if_pos z]
  · rw [if_neg z, if_neg z, h.2 i z]
theorem off_wipe {vs : List Nat} {σ : L2.St} : Off vs σ (wipe σ vs) := ⟨wipe_length _ _, fun i hi => by rw [wipe_at, if_neg hi]⟩
theorem wipeS_length (r : Ev) : ∀ vs : List Nat, (wipeS r vs).length = r.length
  | [] => rfl
  | v :: vs => by unfold wipeS; rw [List.length_set, wipeS_length r vs]
theorem wipeS_at {σ : Ev} : ∀ {vs : List Nat} {i : Nat}, (wipeS σ vs)[i]? = if i ∈ vs then (if i < σ.length then some .no else none) else σ[i]?
  | [], i => by simp [wipeS]
  | v :: vs, i => by
    unfold wipeS
    by_cases e : v = i
    · subst e
      rw [if_pos List.mem_cons_self]
      by_cases h : v < σ.length
      · rw [List.getElem?_set_self (by rw [wipeS_length]; exact h), if_pos h]
      · rw [List.getElem?_eq_none (by rw [List.length_set, wipeS_length]; omega), if_neg h]
    · rw [List.getElem?_set_ne e, wipeS_at (vs := vs)]
      by_cases h : i ∈ vs
      · rw [if_pos h, if_pos (List.mem_cons_of_mem _ h)]
      · rw [if_neg h, if_neg]
        intro z
        rcases List.mem_cons.mp z with z | z
        · exact e z.symm
        · exact h z
theorem wipeS_off {vs : List Nat} {σ τ : Ev} (h : Off vs σ τ) : wipeS τ vs = wipeS σ vs := by
  apply List.ext_getElem?
  intro i
  rw [wipeS_at, wipeS_at, h.1]
  by_cases z : i ∈ vs
  · rw [if_pos z, if_pos z]
  · rw [if_neg z, if_neg z, h.2 i z]
theorem off_wipeS {vs : List Nat} {σ : Ev} : Off vs σ (wipeS σ vs) := ⟨wipeS_length _ _, fun i hi => by rw [wipeS_at, if_neg hi]⟩

section
variable {G : Gm} {x : Exi} {F : Frm} {Z Z' : Hp} {L L' : List Addr} {r : Ev} {S S' : Store} {σ : L2.St} {H H' : Hp}
/-- a shared value is stored under a name -/
theorem BRel.setSh {i : Nat} {v : PV} {u : V} (B : BRel G x F Z L r S σ H) (h : Rep G Z L v u) : BRel G x F Z L (r.set i (.sh v)) S (σ.set i (some u)) H := by
  refine ⟨B.h, by rw [List.length_set, List.length_set]; exact B.len, fun j s e => ?_, fun j k s t b e1 o1 e2 o2 q1 q2 => ?_⟩
  · rcases set_get e with ⟨rfl, rfl, hl⟩ | ⟨hj, e'⟩
    · rw [List.getElem?_set_self (by rw [← B.len]; exact hl)]
      exact h
    · rw [List.getElem?_set_ne (Ne.symm hj)]
      exact B.sl j s e'
  · rcases set_get e1 with ⟨rfl, rfl, _⟩ | ⟨n1, e1'⟩
    · cases o1
    · rcases set_get e2 with ⟨rfl, rfl, _⟩ | ⟨n2, e2'⟩
      · cases o2
      · rw [List.getElem?_set_ne (Ne.symm n1)] at q1
        rw [List.getElem?_set_ne (Ne.symm n2)] at q2
        exact B.sp j k s t b e1' o1 e2' o2 q1 q2
/-- names are forgotten -/
theorem BRel.wipeB (B : BRel G x F Z L r S σ H) (vs : List Nat) : BRel G x F Z L (wipeS r vs) S (wipe σ vs) H := by
  refine ⟨B.h, by rw [wipeS_length, wipe_length]; exact B.len, fun j s e => ?_, fun j k s t b e1 o1 e2 o2 q1 q2 => ?_⟩
  · rw [wipeS_at] at e
    rw [wipe_at]
    by_cases z : j ∈ vs
    · rw [if_pos z] at e
      split at e
      · cases e; trivial
      · cases e
    · rw [if_neg z] at e ⊢
      exact B.sl j s e
  · rw [wipeS_at] at e1 e2
    rw [wipe_at] at q1 q2
    by_cases z : j ∈ vs
    · rw [if_pos z] at e1
      split at e1
      · cases e1; cases o1
      · cases e1
    · by_cases z2 : k ∈ vs
      · rw [if_pos z2] at e2
        split at e2
        · cases e2; cases o2
        · cases e2
      · rw [if_neg z] at e1 q1
        rw [if_neg z2] at e2 q2
        exact B.sp j k s t b e1 o1 e2 o2 q1 q2
/-- .. kill: the machine's names may stay -/
theorem BRel.killB (B : BRel G x F Z L r S σ H) (vs : List Nat) : BRel G x F Z L (wipeS r vs) S σ H := by
  refine ⟨B.h, by rw [wipeS_length]; exact B.len, fun j s e => ?_, fun j k s t b e1 o1 e2 o2 q1 q2 => ?_⟩
  · rw [wipeS_at] at e
    by_cases z : j ∈ vs
    · rw [if_pos z] at e
      split at e
      · cases e; trivial
      · cases e
    · rw [if_neg z] at e
      exact B.sl j s e
  · rw [wipeS_at] at e1 e2
    by_cases z : j ∈ vs
    · rw [if_pos z] at e1
      split at e1
      · cases e1; cases o1
      · cases e1
    · by_cases z2 : k ∈ vs
      · rw [if_pos z2] at e2
        split at e2
        · cases e2; cases o2
        · cases e2
      · rw [if_neg z] at e1
        rw [if_neg z2] at e2
        exact B.sp j k s t b e1 o1 e2 o2 q1 q2
/-- behind a block: the names of the block stand as they stood -/
theorem BRel.unwipe {F' : Frm} {vs : List Nat} (B : BRel G x F Z L r S σ H) (hv : ∀ i ∈ vs, isOw (getS r i) = false) (B' : BRel G x F' Z' L' (wipeS r vs) S' (wipe σ vs) H') (z : Same Z Z') (l : L <+: L') : BRel G x F' Z' L' r S' σ H' := by
  have ng : ∀ (i : Nat) (s : Sl), r[i]? = some s → i ∈ vs → isOw s = false := fun i s e hi => by
    have := hv i hi
    unfold getS at this
    rw [List.getD_eq_getElem?_getD, e] at this
    exact this
  refine ⟨B'.h, B.len, fun j s e => ?_, fun j k s t b e1 o1 e2 o2 q1 q2 => ?_⟩
  · by_cases h : j ∈ vs
    · refine (B.sl j s e).mono z l fun a o _ hs _ => ?_
      rw [ng j s e h] at hs; cases hs
    · have := B'.sl j s (by rw [wipeS_at, if_neg h]; exact e)
      rw [wipe_at, if_neg h] at this
      exact this
  · have n1 : j ∉ vs := fun z => by rw [ng j s e1 z] at o1; cases o1
    have n2 : k ∉ vs := fun z => by rw [ng k t e2 z] at o2; cases o2
    exact B'.sp j k s t b (by rw [wipeS_at, if_neg n1]; exact e1) o1 (by rw [wipeS_at, if_neg n2]; exact e2) o2 (by rw [wipe_at, if_neg n1]; exact q1) (by rw [wipe_at, if_neg n2]; exact q2)
end

/-! ### targets -/
def gT (G : Gm) (x : Exi) (own : List Nat) (m : PV → Ev → Store → Out Unit) : TG := fun v σ H Q => ∃ F Z L r S pv, BRel G x F Z L r S σ H ∧ Rep G Z L pv v ∧
  Post (m pv r S) (fun _ r' S' => ∀ σ', BRel G x F Z L r' S' σ' H → Off own σ σ' → Off own r r' → Q σ' H) (fun _ _ _ _ => False)
def gTs (G : Gm) (x : Exi) (own : List Nat) (m : List PV → Ev → Store → Out Unit) : TGs := fun vs σ H Q => ∃ F Z L r S pvs, BRel G x F Z L r S σ H ∧ Reps G Z L pvs vs ∧
  Post (m pvs r S) (fun _ r' S' => ∀ σ', BRel G x F Z L r' S' σ' H → Off own σ σ' → Off own r r' → Q σ' H) (fun _ _ _ _ => False)
mutual
def chkT (N : List Str) (sc : Scope) : CT → Expr → Bool
  | .nm i, e => match vName e with
    | some y => decide (N[i]? = some y) && locK sc y
    | none => false
  | .tup ts, e => match vTup e with
    | some es => chkTs N sc ts es
    | none => false
def chkTs (N : List Str) (sc : Scope) : List CT → List Expr → Bool
  | [], [] => true
  | t :: ts, e :: es => notStar e && (chkT N sc t e && chkTs N sc ts es)
  | _, _ => false
end
theorem asgEach_cons {e : Expr} (h : notStar e = true) (es : List Expr) (env : Env) : assignEach (e :: es) env = (false, assign e env) :: assignEach es env := by
  cases e <;> first | rfl | cases h
theorem chkTs_star {N : List Str} {sc : Scope} : ∀ {ts : List CT} {es : List Expr}, chkTs N sc ts es = true → ∀ e ∈ es, notStar e = true
  | [], [], _, e, h => by cases h
  | t :: ts, e' :: es, h, e, he => by
    unfold chkTs at h
    simp only [Bool.and_eq_true] at h
    rcases List.mem_cons.mp he with rfl | he
    · exact h.1
    · exact chkTs_star h.2.2 e he
  | [], _ :: _, h, _, _ => by unfold chkTs at h; cases h
  | _ :: _, [], h, _, _ => by unfold chkTs at h; cases h
theorem asgEach_ok {env : Env} : ∀ {es : List Expr}, (∀ e ∈ es, notStar e = true) → (assignEach es env).length = es.length ∧ (assignEach es env).findIdx? (·.1) = none
  | [], _ => ⟨rfl, rfl⟩
  | e :: es, h => by
    obtain ⟨h1, h2⟩ := asgEach_ok (env := env) (es := es) fun e he => h e (List.mem_cons_of_mem _ he)
    rw [asgEach_cons (h e List.mem_cons_self)]
    refine ⟨by simp [h1], ?_⟩
    rw [List.findIdx?_cons, h2]; rfl
theorem _root_.L2.PG.imp {X : Cx} {e : Expr} {t t' : TG} (h : PG X e t) (k : ∀ v σ H Q, t' v σ H Q → t v σ H Q) : PG X e t' := ⟨fun pins s σ H v u Q I r w => h.run pins s σ H v u Q I r (k v σ H Q w)⟩
theorem _root_.L2.PGs.imp {X : Cx} {e : List Expr} {t t' : TGs} (h : PGs X e t) (k : ∀ v σ H Q, t' v σ H Q → t v σ H Q) : PGs X e t' := ⟨fun pins s σ H v u Q I r w => h.run pins s σ H v u Q I r (k v σ H Q w)⟩
section
variable {G : Gm} {x : Exi} {W : WX} {X : Cx} {N : List Str} {k : Nat} {sc : Scope} {own : List Nat}
mutual
theorem pg_asg (gx : GX G N k sc W X) : ∀ (t : CT) (e : Expr), chkT N sc t e = true → (∀ i ∈ tsl t, i ∈ own) → PG X e (gT G x own (asgT t))
  | .nm i, e, h, ho => by
    unfold chkT at h
    split at h
    · rename_i y hy
      obtain ⟨p, rfl⟩ := vName_ hy
      simp only [Bool.and_eq_true, decide_eq_true_eq] at h
      obtain ⟨h1, h2⟩ := h
      obtain ⟨l1, l2⟩ := gx.loc y h2
      refine (pg_name gx.nd (by rw [gx.nN]; exact h1) l1 l2).imp fun v σ H Q ⟨F, Z, L, r, S, pv, B, R, P⟩ => ?_
      unfold asgT at P
      have hi : i ∈ own := ho i (by simp [tsl])
      exact P _ (B.setSh R) (Off.set hi) (Off.set hi)
    · cases h
  | .tup ts, e, h, ho => by
    unfold chkT at h
    split at h
    · rename_i es hy
      obtain ⟨j, p, rfl⟩ := vTup_ hy
      have st := chkTs_star h
      obtain ⟨a1, a2⟩ := asgEach_ok (env := X.env) st
      have ih := pgs_asg gx ts es h (fun i hi => ho i (by unfold tsl; exact hi))
      refine ⟨fun pins s σ H v u Q I r w => ?_⟩
      obtain ⟨F, Z, L, rr, S, pv, B, R, P⟩ := w
      unfold asgT at P
      have Tt := (TopR.view B.h (.inl R : TopR G Z L H pv v))
      split at P
      · rename_i xs hv
        split at P
        · rename_i hl
          rw [hv] at Tt
          obtain ⟨a, vs, rfl, h1, h2⟩ := Tt.tup
          refine (pg_tup (k := j) (pos := p) gx.calm ih a1 a2).run pins s σ H _ u Q I r ⟨a, vs, rfl, by rw [gx.K]; exact SqT.up B.h.zs h1, ?_, F, Z, L, rr, S, xs, B, h2, P⟩
          rw [← h2.length, hl]; exact (chkTs_len h).symm ▸ rfl
        · exact P.elim
      · rename_i xs hv
        split at P
        · rename_i hl
          rw [hv] at Tt
          obtain ⟨a, vs, rfl, h1, h2⟩ := Tt.lst B.h.zs
          refine (pg_lst (k := j) (pos := p) gx.calm ih a1 a2).run pins s σ H _ u Q I r ⟨a, vs, rfl, by rw [gx.K]; exact h1, ?_, F, Z, L, rr, S, xs, B, h2, P⟩
          rw [← h2.length, hl]; exact (chkTs_len h).symm ▸ rfl
        · exact P.elim
      · exact P.elim
    · cases h
theorem pgs_asg (gx : GX G N k sc W X) : ∀ (ts : List CT) (es : List Expr), chkTs N sc ts es = true → (∀ i ∈ tsls ts, i ∈ own) → PGs X es (gTs G x own (asgTs ts))
  | [], [], h, ho => pgs_nil.imp fun vs σ H Q ⟨F, Z, L, r, S, pvs, B, R, P⟩ => by
    cases R with
    | nil => unfold asgTs at P; exact ⟨rfl, P σ B Off.refl Off.refl⟩
    | cons _ _ => unfold asgTs at P; exact P.elim
  | t :: ts, e :: es, h, ho => by
    unfold chkTs at h
    simp only [Bool.and_eq_true] at h
    refine (pgs_cons (pg_asg gx t e h.2.1 fun i hi => ho i (by unfold tsls; exact List.mem_append_left _ hi)) (pgs_asg gx ts es h.2.2 fun i hi => ho i (by unfold tsls; exact List.mem_append_right _ hi)) (by rw [asgEach_cons h.1]; rfl)).imp fun vs σ H Q ⟨F, Z, L, r, S, pvs, B, R, P⟩ => ?_
    cases R with
    | nil => unfold asgTs at P; exact P.elim
    | cons R1 R2 =>
      unfold asgTs at P
      rw [post_bind] at P
      exact ⟨_, _, rfl, F, Z, L, r, S, _, B, R1, P.imp (fun _ r1 S1 P1 σ1 B1 O1 O2 => ⟨F, Z, L, r1, S1, _, B1, R2, P1.imp (fun _ r2 S2 P2 σ2 B2 O3 O4 => P2 σ2 B2 (O1.trans O3) (O2.trans O4)) fun _ _ _ _ E => E⟩) fun _ _ _ _ E => E⟩
  | [], _ :: _, h, _ => by unfold chkTs at h; cases h
  | _ :: _, [], h, _ => by unfold chkTs at h; cases h
theorem chkTs_len : ∀ {ts : List CT} {es : List Expr}, chkTs N sc ts es = true → es.length = ts.length
  | [], [], _ => rfl
  | t :: ts, e :: es, h => by
    unfold chkTs at h
    simp only [Bool.and_eq_true] at h
    simp [chkTs_len h.2.2]
  | [], _ :: _, h => by unfold chkTs at h; cases h
  | _ :: _, [], h => by unfold chkTs at h; cases h
end
end
end Ci
namespace Ci
open PySem L2
/-- J walks over xs where Φ holds -/
structure Walk (G : Gm) (J : It) (xs : List PV) (Φ : Hp → List Addr → Hp → Prop) : Prop where
  go : ∀ i Z L H, Φ Z L H → i < xs.length → J.go i H
  stop : ∀ i Z L H, Φ Z L H → xs.length ≤ i → J.stop i H
  yld : ∀ i Z L H u H' v, Φ Z L H → xs[i]? = some v → J.yld i H u H' → (H' = H ∧ Rep G Z L v u) ∨ ∃ p ws vs, H p = none ∧ H' = upd H p (.tup ws) ∧ u = .ref p ∧ v = .tup vs ∧ Reps G Z L vs ws
/-- Φ holds from here on -/
def Stand (G : Gm) (x : Exi) (hd : Bool) (own : List Nat) (Z : Hp) (L : List Addr) (r : Ev) (σ : L2.St) (Φ : Hp → List Addr → Hp → Prop) : Prop :=
  ∀ F2 Z2 L2 r2 S2 σ2 H2, BRel G x F2 Z2 L2 r2 S2 σ2 H2 → Same Z Z2 → L <+: L2 → (hd = false → Off own r r2 ∧ Off own σ σ2) → Φ Z2 L2 H2
def tI (G : Gm) (x : Exi) (W : WX) (hd : Bool) (own : List Nat) (m : Ev → Store → Out (List PV)) : TI := fun σ H R => ∃ F Z L r S, BRel G x F Z L r S σ H ∧
  Post (m r S) (fun xs r' S' => ∀ Z' L' H' J Φ, BRel G x F Z' L' r' S' σ H' → Stand G x hd own Z' L' r' σ Φ → Walk G J xs Φ → xs.length ≤ sizeLine → R J H') (XP G x W F σ)
/-- how long what is read may be -/
def LenOk (K : PySem.W.Frag) (u : V) (H : Hp) : Prop := ∀ a xs, u = .ref a → (SqL K H a xs ∨ SqT K H a xs) → xs.length ≤ sizeLine
theorem pe_len {X : Cx} {e : Expr} {t : TE} (h : PE X e t) : PE X e (fun σ H Q => t σ H fun u H' => LenOk X.K u H' → Q u H') := ⟨fun pins s σ H Q I w =>
  thn (h.run pins s σ H _ I w) fun v s' ⟨u, H', I', r, q⟩ => ⟨u, H', I', r, q fun a xs _ h => h.elim (fun h => let ⟨_, _, _, z⟩ := I'.list h; z) fun h => let ⟨_, _, _, z⟩ := I'.tuple h; z⟩⟩
section
variable {G : Gm} {x : Exi} {W : WX} {X : Cx} {cx : Cxt} {cm : Bool} {hd : Bool} {own : List Nat} {tg e : Expr} {ce : CE}
theorem it_stand {F : Frm} {Z : Hp} {L : List Addr} {r : Ev} {S : Store} {σ : L2.St} {H : Hp} {p : PV × Md} {u : V} {K : PV → Ev → Store → Prop} {E : Nat → List PV → Ev → Store → Prop} (B : BRel G x F Z L r S σ H) (h : VR G F Z L r σ H p.1 p.2 u) (P : Post (itE cm hd own p r S) K E) :
    ∃ Z' r', Same Z Z' ∧ BRel G x F Z' L r' S σ H ∧ K p.1 r' S ∧ Stand G x hd own Z' L r' σ (fun Z2 L2 H2 => Same Z2 H2 ∧ TopR G Z2 L2 H2 p.1 u) := by
  unfold itE at P
  cases hd with
  | true =>
    rw [if_pos rfl] at P
    obtain ⟨Z', r', s, B', R, k⟩ := B.hand h P
    exact ⟨Z', r', s, B', k, fun F2 Z2 L2 r2 S2 σ2 H2 B2 z l _ => ⟨B2.h.zs, .inl (R.up z l)⟩⟩
  | false =>
    rw [if_neg (by decide)] at P
    obtain ⟨v, m⟩ := p
    cases m with
    | sh => exact ⟨Z, r, Same.refl _, B, P, fun F2 Z2 L2 r2 S2 σ2 H2 B2 z l _ => ⟨B2.h.zs, .inl (Rep.up z l h)⟩⟩
    | fr =>
      obtain ⟨Z', s, B', R⟩ := B.shareV h
      exact ⟨Z', r, s, B', P, fun F2 Z2 L2 r2 S2 σ2 H2 B2 z l _ => ⟨B2.h.zs, .inl (R.up z l)⟩⟩
    | bo i =>
      dsimp only at P
      split at P
      · exact P.elim
      · rename_i hn
        have hn' : i ∉ own := by simpa using hn
        refine ⟨Z, r, Same.refl _, B, P, fun F2 Z2 L2 r2 S2 σ2 H2 B2 z l k => ⟨B2.h.zs, ?_⟩⟩
        obtain ⟨o1, o2⟩ := k rfl
        have e1 := o1.2 i hn'
        have e2 := o2.2 i hn'
        rw [h.2] at e1
        rw [h.1] at e2
        have hs := B2.sl i _ e1
        rw [e2] at hs
        obtain ⟨a, e, h1, _⟩ := hs
        exact .inr ⟨a, e, h1⟩
theorem walk_list {xs : List PV} {a : Addr} : Walk G (Itl G.K a) xs (fun Z L H => Same Z H ∧ TopR G Z L H (.lst xs) (.ref a)) where
  go := fun i Z L H ⟨z, t⟩ hi => by
    obtain ⟨b, vs, e, h1, h2⟩ := t.lst z
    cases e
    obtain ⟨v, hv, _⟩ := h2.get (List.getElem?_eq_getElem hi)
    exact ⟨vs, v, h1, hv⟩
  stop := fun i Z L H ⟨z, t⟩ hi => by
    obtain ⟨b, vs, e, h1, h2⟩ := t.lst z
    cases e
    exact ⟨vs, h1, by rw [← h2.length]; exact hi⟩
  yld := fun i Z L H u H' v ⟨z, t⟩ hv ⟨e, k⟩ => by
    obtain ⟨b, vs, e', h1, h2⟩ := t.lst z
    cases e'
    obtain ⟨w, hw, hr⟩ := h2.get hv
    have := k vs h1
    rw [hw] at this; cases this
    exact .inl ⟨e, hr⟩
theorem walk_tup {xs : List PV} {a : Addr} : Walk G (Itt G.K a) xs (fun Z L H => Same Z H ∧ TopR G Z L H (.tup xs) (.ref a)) where
  go := fun i Z L H ⟨z, t⟩ hi => by
    obtain ⟨b, vs, e, h1, h2⟩ := t.tup
    cases e
    obtain ⟨v, hv, _⟩ := h2.get (List.getElem?_eq_getElem hi)
    exact ⟨vs, v, SqT.up z h1, hv⟩
  stop := fun i Z L H ⟨z, t⟩ hi => by
    obtain ⟨b, vs, e, h1, h2⟩ := t.tup
    cases e
    exact ⟨vs, SqT.up z h1, by rw [← h2.length]; exact hi⟩
  yld := fun i Z L H u H' v ⟨z, t⟩ hv ⟨e, k⟩ => by
    obtain ⟨b, vs, e', h1, h2⟩ := t.tup
    cases e'
    obtain ⟨w, hw, hr⟩ := h2.get hv
    have := k vs (SqT.up z h1)
    rw [hw] at this; cases this
    exact .inl ⟨e, hr⟩
theorem walk_str {y : Str} : Walk G (Its y) (chars y) (fun Z L H => Same Z H ∧ TopR G Z L H (.str y) (.str y)) where
  go := fun i Z L H ⟨z, t⟩ hi => by
    have : i < y.cps.size := by simpa [chars] using hi
    exact this
  stop := fun i Z L H ⟨z, t⟩ hi => by
    have : y.cps.size ≤ i := by simpa [chars] using hi
    exact this
  yld := fun i Z L H u H' v ⟨z, t⟩ hv ⟨e, c, hc, k⟩ => by
    obtain ⟨_, h1, h2⟩ := t.str
    subst k
    refine .inl ⟨e, ?_⟩
    unfold chars at hv
    rw [List.getElem?_map] at hv
    have hc' : y.cps.toList[i]? = some c := by simpa using hc
    rw [hc'] at hv
    cases hv
    refine .str _ (strOk_one h1 (List.mem_of_getElem? hc')) ?_
    show 1 ≤ sizeLine
    rw [sizeLine_eq]; decide
theorem _root_.L2.PI.imp {X : Cx} {tg e : Expr} {t t' : TI} (h : PI X tg e t) (k : ∀ σ H R, t' σ H R → t σ H R) : PI X tg e t' := ⟨fun pins s σ H R I w => h.run pins s σ H R I (k σ H R w)⟩
/-- what an expression gives is walked -/
theorem pi_ex (hK : X.K = G.K) (he : PE X e (tE G x W (ev cx cm ce))) : PI X tg e (tI G x W hd own (evIt cx cm hd own (.ex ce))) := ⟨fun pins s σ H R I ⟨F, Z, L, r, S, B, P⟩ => by
  unfold evIt at P
  rw [post_bind] at P
  cases q : ev cx cm ce r S with
  | bad w => rw [q] at P; exact P.elim
  | exc c vs r1 S1 => rw [q] at P; exact (pi_list (pe_len he)).run pins s σ H R I ⟨F, Z, L, r, S, B, by rw [q]; exact P⟩
  | ok p r1 S1 =>
    rw [q] at P
    have P1 : Post ((itE cm hd own p r1 S1).bind _) _ _ := P
    rw [post_bind] at P1
    obtain ⟨v, m⟩ := p
    cases v with
    | lst xs =>
      refine (pi_list (pe_len he)).run pins s σ H R I ⟨F, Z, L, r, S, B, by
        rw [q]
        intro Z1 L1 H1 u B1 V1 hL
        obtain ⟨Z2, r2, s2, B2, K2, St⟩ := it_stand B1 V1 P1
        have t := V1.top B1
        obtain ⟨a, vs, rfl, h1, h2⟩ := t.lst B1.h.zs
        exact ⟨a, rfl, ⟨vs, by rw [hK]; exact h1⟩, by rw [hK]; exact K2 Z2 L1 H1 _ _ B2 St walk_list (by rw [h2.length]; exact hL a vs rfl (.inl (by rw [hK]; exact h1)))⟩⟩
    | tup xs =>
      refine (pi_tup (pe_len he)).run pins s σ H R I ⟨F, Z, L, r, S, B, by
        rw [q]
        intro Z1 L1 H1 u B1 V1 hL
        obtain ⟨Z2, r2, s2, B2, K2, St⟩ := it_stand B1 V1 P1
        have t := V1.top B1
        obtain ⟨a, vs, rfl, h1, h2⟩ := t.tup
        exact ⟨a, rfl, ⟨vs, by rw [hK]; exact SqT.up B1.h.zs h1⟩, by rw [hK]; exact K2 Z2 L1 H1 _ _ B2 St walk_tup (by rw [h2.length]; exact hL a vs rfl (.inr (by rw [hK]; exact SqT.up B1.h.zs h1)))⟩⟩
    | str y =>
      refine (pi_str he).run pins s σ H R I ⟨F, Z, L, r, S, B, by
        rw [q]
        intro Z1 L1 H1 u B1 V1
        obtain ⟨Z2, r2, s2, B2, K2, St⟩ := it_stand B1 V1 P1
        have t := V1.top B1
        obtain ⟨rfl, _, hy⟩ := t.str
        exact ⟨y, rfl, K2 Z2 L1 H1 _ _ B2 St walk_str (by rw [show (chars y).length = y.cps.size by simp [chars]]; exact hy)⟩⟩
    | dct kvs =>
      refine (pi_list (pe_len he)).run pins s σ H R I ⟨F, Z, L, r, S, B, by
        rw [q]
        intro Z1 L1 H1 u B1 V1 hL
        obtain ⟨Z2, r2, s2, B2, K2, St⟩ := it_stand B1 V1 P1
        exact K2.elim⟩
    | _ =>
      refine (pi_list (pe_len he)).run pins s σ H R I ⟨F, Z, L, r, S, B, by
        rw [q]
        intro Z1 L1 H1 u B1 V1 hL
        obtain ⟨Z2, r2, s2, B2, K2, St⟩ := it_stand B1 V1 P1
        exact K2.elim⟩⟩
/-! ### range -/
theorem walk_rng {lo : Int} {n : Nat} : Walk G (Itr lo n) (rngL lo 1 n) (fun _ _ _ => True) where
  go := fun i Z L H _ hi => by
    have : i < n := by simpa [rngL] using hi
    exact this
  stop := fun i Z L H _ hi => by
    have : n ≤ i := by simpa [rngL] using hi
    exact this
  yld := fun i Z L H u H' v _ hv ⟨e, k⟩ => by
    subst k
    unfold rngL at hv
    rw [List.getElem?_map] at hv
    cases q : (List.range n)[i]? with
    | none => rw [q] at hv; cases hv
    | some j =>
      rw [q] at hv
      obtain ⟨hj, e2⟩ := List.getElem?_eq_some_iff.mp q
      rw [List.getElem_range] at e2
      subst e2
      cases hv
      exact .inl ⟨e, by dsimp only; rw [Int.mul_one]; exact .int _⟩
theorem walk_rngC {lo c : Int} {n : Nat} : Walk G (Itc lo c n) (rngL lo c n) (fun _ _ _ => True) where
  go := fun i Z L H _ hi => by
    have : i < n := by simpa [rngL] using hi
    exact this
  stop := fun i Z L H _ hi => by
    have : n ≤ i := by simpa [rngL] using hi
    exact this
  yld := fun i Z L H u H' v _ hv ⟨e, k⟩ => by
    subst k
    unfold rngL at hv
    rw [List.getElem?_map] at hv
    cases q : (List.range n)[i]? with
    | none => rw [q] at hv; cases hv
    | some j =>
      rw [q] at hv
      obtain ⟨hj, e2⟩ := List.getElem?_eq_some_iff.mp q
      rw [List.getElem_range] at e2
      subst e2
      cases hv
      exact .inl ⟨e, .int _⟩
theorem stand_true {hd : Bool} {own : List Nat} {Z : Hp} {L : List Addr} {r : Ev} {σ : L2.St} : Stand G x hd own Z L r σ (fun _ _ _ => True) := fun _ _ _ _ _ _ _ _ _ _ _ => trivial
theorem rng_len {vs xs : List PV} (e : rngOf vs = some xs) : xs.length ≤ sizeLine := by
  have hb : 16777216 ≤ sizeLine := by rw [sizeLine_eq]; exact Nat.le_refl _
  unfold rngOf at e
  split at e
  · split at e
    · rename_i h
      cases e
      simp only [Bool.and_eq_true, decide_eq_true_eq] at h
      simp only [rngL, List.length_map, List.length_range]
      omega
    · cases e
  · split at e
    · rename_i h
      cases e
      simp only [Bool.and_eq_true, decide_eq_true_eq] at h
      simp only [rngL, List.length_map, List.length_range]
      omega
    · cases e
  · split at e
    · rename_i a b c h
      cases e
      simp only [Bool.and_eq_true, decide_eq_true_eq] at h
      simp only [rngL, List.length_map, List.length_range]
      unfold rngN
      split
      · have : (b - a + c - 1) / c ≤ 3000000 := by
          rw [show (3000000 : Int) = 3000000 by rfl]
          have : (b - a + c - 1) / c < 3000001 := Int.ediv_lt_of_lt_mul (by omega) (by omega)
          omega
        omega
      · split
        · have : (a - b + -c - 1) / -c < 3000001 := Int.ediv_lt_of_lt_mul (by omega) (by omega)
          omega
        · omega
    · cases e
  · cases e
/-- arguments that are read and resolved -/
theorem tAr_rd {m : Ev → Store → Out (List (PV × Md))} {K : List PV → Ev → Store → Prop} {E : Nat → List PV → Ev → Store → Prop} {r : Ev} {S : Store} (P : Post (rdB (m r S)) K E) : Post (m r S) (fun ps r' S' => ∃ vs, resA r' ps = some vs ∧ K vs r' S') E := by
  unfold rdB at P
  rw [post_bind] at P
  refine P.imp (fun ps r1 S1 P1 => ?_) fun _ _ _ _ E => E
  cases e : resA r1 ps with
  | none => rw [e] at P1; exact P1.elim
  | some vs => rw [e] at P1; exact ⟨vs, rfl, P1⟩
theorem tI_rng {ces : List CE} {σ : L2.St} {H : Hp} {R : It → Hp → Prop} (h : tI G x W hd own (evIt cx cm hd own (.rng ces)) σ H R) : tAr G x W (evr cx cm ces) σ H fun us H1 => ∃ vs xs, rngOf vs = some xs ∧ us = vs.map (fun v => match v with | .int i => V.int i | _ => .non) ∧
    ∀ J, Walk G J xs (fun _ _ _ => True) → R J H1 := by
  obtain ⟨F, Z, L, r, S, B, P⟩ := h
  unfold evIt at P
  rw [post_bind] at P
  refine ⟨F, Z, L, r, S, B, (tAr_rd P).imp (fun ps r1 S1 ⟨vs, hr, P1⟩ Z1 L1 H1 us B1 V1 => ?_) fun _ _ _ _ E => E⟩
  have T1 := B1.resolveA V1 hr
  cases e : rngOf vs with
  | none => rw [e] at P1; exact P1.elim
  | some xs =>
    rw [e] at P1
    refine ⟨vs, xs, e, ?_, fun J wk => P1 Z1 L1 H1 J _ B1 stand_true wk (rng_len e)⟩
    unfold rngOf at e
    split at e
    · cases T1 with
      | cons t ts => cases ts; cases t.int; rfl
    · cases T1 with
      | cons t ts => cases ts with
        | cons t2 ts => cases ts; cases t.int; cases t2.int; rfl
    · cases T1 with
      | cons t ts => cases ts with
        | cons t2 ts => cases ts with
          | cons t3 ts => cases ts; cases t.int; cases t2.int; cases t3.int; rfl
    · cases e
theorem pow62 : (2 : Int) ^ 62 = 4611686018427387904 := by decide
theorem evr_len : ∀ (ces : List CE) (r : Ev) (S : Store) (ps : List (PV × Md)) (r' : Ev) (S' : Store), evr cx cm ces r S = .ok ps r' S' → ps.length = ces.length
  | [], r, S, vs, r', S', h => by unfold evr at h; cases h; rfl
  | c :: cs, r, S, vs, r', S', h => by
    unfold evr at h
    cases e1 : ev cx cm c r S with
    | bad w => rw [e1] at h; cases h
    | exc c vs r S => rw [e1] at h; cases h
    | ok p r1 S1 =>
      rw [e1] at h
      simp only [Out.bind] at h
      cases e3 : evr cx cm cs r1 S1 with
      | bad w => rw [e3] at h; cases h
      | exc c vs r S => rw [e3] at h; cases h
      | ok ws r3 S3 =>
        rw [e3] at h
        simp only [Out.bind] at h
        cases h
        simp [evr_len cs _ _ _ _ _ e3]
theorem VWs.length {Z : Hp} {L : List Addr} {σ : L2.St} : ∀ {ps : List (PV × Md)} {us : List V}, VWs G Z L σ ps us → ps.length = us.length
  | _, _, .nil => rfl
  | _, _, .cons _ t => by simp [VWs.length t]
/-- .. with the number of arguments -/
theorem tI_rngL {ces : List CE} {σ : L2.St} {H : Hp} {R : It → Hp → Prop} (h : tI G x W hd own (evIt cx cm hd own (.rng ces)) σ H R) : tAr G x W (evr cx cm ces) σ H fun us H1 => ∃ vs xs, vs.length = ces.length ∧ rngOf vs = some xs ∧ us = vs.map (fun v => match v with | .int i => V.int i | _ => .non) ∧
    ∀ J, Walk G J xs (fun _ _ _ => True) → R J H1 := by
  obtain ⟨F, Z, L, r, S, B, P⟩ := tI_rng h
  refine ⟨F, Z, L, r, S, B, ?_⟩
  cases e : evr cx cm ces r S with
  | bad w => rw [e] at P; exact P
  | exc _ _ _ _ => rw [e] at P; exact P
  | ok ps r1 S1 =>
    rw [e] at P
    intro Z1 L1 H1 us B1 V1
    obtain ⟨vs, xs, h1, h2, h3⟩ := P Z1 L1 H1 us B1 V1
    refine ⟨vs, xs, ?_, h1, h2, h3⟩
    rw [← evr_len _ _ _ _ _ _ e, V1.length, h2, List.length_map]
theorem tAr_imp {m : Ev → Store → Out (List (PV × Md))} {σ : L2.St} {H : Hp} {Q Q' : List V → Hp → Prop} (h : tAr G x W m σ H Q) (k : ∀ us H, Q us H → Q' us H) : tAr G x W m σ H Q' := by
  obtain ⟨F, Z, L, r, S, B, P⟩ := h
  exact ⟨F, Z, L, r, S, B, P.imp (fun ps r1 S1 P1 Z1 L1 H1 us B1 V1 => k _ _ (P1 Z1 L1 H1 us B1 V1)) fun _ _ _ _ E => E⟩
theorem pi_rng1 (hg : Gl X "range") (hm : X.mg "range" = none) {a : Expr} {c : CE} {p q : Pos} (ha : PA X [a] (tAr G x W (evr cx cm [c]))) (hs : notStar a = true) : PI X tg (.Call (.Name "range" p) [a] [] q) (tI G x W hd own (evIt cx cm hd own (.rng [c]))) := by
  refine (pi_range1 hg hm ha (star_cons hs [] X.env)).imp fun σ H R w => tAr_imp (tI_rngL w) fun us H1 ⟨vs, xs, hl, h1, h2, h3⟩ => ?_
  match vs, hl with
  | [v], _ =>
    cases v with
    | int n =>
      unfold rngOf at h1
      simp only at h1
      split at h1
      · rename_i hn
        cases h1
        simp only [Bool.and_eq_true, decide_eq_true_eq] at hn
        exact ⟨n, h2, by rw [pow62]; omega, by rw [pow62]; omega, h3 _ walk_rng⟩
      · cases h1
    | _ => simp [rngOf] at h1
theorem pi_rng2 (hg : Gl X "range") (hm : X.mg "range" = none) {a b : Expr} {c d : CE} {p q : Pos} (ha : PA X [a, b] (tAr G x W (evr cx cm [c, d]))) (hs : notStar a = true) (hs2 : notStar b = true) : PI X tg (.Call (.Name "range" p) [a, b] [] q) (tI G x W hd own (evIt cx cm hd own (.rng [c, d]))) := by
  refine (pi_range2 hg hm ha (by rw [star_cons hs, star_cons hs2]; rfl) (star_cons hs2 [] X.env)).imp fun σ H R w => tAr_imp (tI_rngL w) fun us H1 ⟨vs, xs, hl, h1, h2, h3⟩ => ?_
  match vs, hl with
  | [v, w], _ =>
    cases v with
    | int n =>
      cases w with
      | int m =>
        unfold rngOf at h1
        simp only at h1
        split at h1
        · rename_i hn
          cases h1
          simp only [Bool.and_eq_true, decide_eq_true_eq] at hn
          exact ⟨n, m, h2, by rw [pow62]; omega, h3 _ walk_rng⟩
        · cases h1
      | _ => simp [rngOf] at h1
    | _ => simp [rngOf] at h1
theorem rngN_eq (a b c : Int) (hc : c ≠ 0) : Builtin.Range.rangeSize a b c = (rngN a b c : Nat) := by
  unfold Builtin.Range.rangeSize rngN
  by_cases h : 0 < c
  · rw [if_pos h, if_pos h]
    by_cases k : a < b
    · rw [if_pos k]
      have e : (b - a + c - 1) / c = (b - a - 1) / c + 1 := by
        rw [show b - a + c - 1 = b - a - 1 + 1 * c by omega, Int.add_mul_ediv_right _ _ hc]
      rw [e]
      have : 0 ≤ (b - a - 1) / c := Int.ediv_nonneg (by omega) (by omega)
      omega
    · rw [if_neg k]
      have e : (b - a + c - 1) / c < 1 := Int.ediv_lt_of_lt_mul h (by omega)
      omega
  · have h' : c < 0 := by omega
    rw [if_neg h, if_neg h, if_pos h']
    by_cases k : a > b
    · rw [if_pos k]
      have e : (a - b + -c - 1) / (-c) = (a - b - 1) / (-c) + 1 := by
        rw [show a - b + -c - 1 = a - b - 1 + 1 * (-c) by omega, Int.add_mul_ediv_right _ _ (by omega)]
      rw [e]
      have : 0 ≤ (a - b - 1) / (-c) := Int.ediv_nonneg (by omega) (by omega)
      omega
    · rw [if_neg k]
      have e : (a - b + -c - 1) / (-c) < 1 := Int.ediv_lt_of_lt_mul (by omega) (by omega)
      omega
end
end Ci
/-! enumerate of a tuple -/
namespace PySem.CiLib
open PySem PySem.AutoSeq1
theorem meets_enumerate_newT (l : Addr) (items : Array Value) (n : Nat) (dct : Option Addr) (sl : Array (Option Value)) :
    Meets (Builtin.«enumerate.__new__» ⟨[.type "enumerate", .ref l], []⟩) (fun _ R s => s.heap.get? l = some { cls := .type "tuple", dict := dct, data := .seq items n, slots := sl } ∧
      R (.ok (.ret (.ref (s.heap.push { cls := .type "tuple_iterator", data := .fields #[.ref l, .int 0 0] }).objs.size)))
        { s with heap := (s.heap.push { cls := .type "tuple_iterator", data := .fields #[.ref l, .int 0 0] }).push { cls := .type "enumerate", data := .fields #[.none, .bool false, .ref s.heap.objs.size, rawInt 0, .none, .none] } }) :=
  .of_wp fun prog w A R s h => by
    obtain ⟨hp, g, d, tk, os⟩ := s; obtain ⟨hl, h⟩ := h
    have hsub := sub_enumerate
    have hL : Heap.IsTuple (Shared.heap ⟨hp, g, d, tk, os⟩) l items := ⟨_, hl, rfl, n, rfl⟩
    wp_walk using wpAny_loadPart' hl
    refine wpAny_stack_any fun st => wpAny_pure ?_
    split
    · rename_i c _ _ _ _ _
      cases (c == Value.type "enumerate")
      · wp_walk using wpAny_loadPart' hl, wpAny_pyIter_tuple hL
        exact ⟨_, rfl, h⟩
      · wp_walk using wpAny_loadPart' hl, wpAny_pyIter_tuple hL
        exact ⟨_, rfl, h⟩
    · wp_walk using wpAny_loadPart' hl, wpAny_pyIter_tuple hL
      exact ⟨_, rfl, h⟩
section
variable {prog : Program} {w : World} {A : Around} {E : Value → Shared → Prop} {s : Shared}
theorem call_enumerate_tuple {l : Addr} {items : Array Value} {Q : Value → Shared → Prop} (hL : s.heap.IsTuple l items)
    (h : ∀ h', IsEnum h' (s.heap.objs.size + 1) s.heap.objs.size 0 .none → h'.IsTupleIter s.heap.objs.size l 0 → h'.objs.size = s.heap.objs.size + 2 →
      (∀ b o, s.heap.get? b = some o → h'.get? b = some o) → Q (.ref (s.heap.objs.size + 1)) { s with heap := h' }) :
    wpAny (model prog w) A (call (.type "enumerate") [.ref l]) Q E s := by
  obtain ⟨⟨c, dct, dt, sl⟩, hl, hc, n, hd⟩ := hL
  replace hc : c = .type "tuple" := hc
  replace hd : dt = .seq items n := hd
  subst hc hd
  refine callType_new F.called_enumerate (by decide) (F.typeCall_enumerate_1 _) (F.newCall_enumerate_1 _) (fun obj => F.args_object_init_2 obj _) F.entry_enumerate_new
    (meets_enumerate_newT l items n dct sl) ⟨hl, ?_⟩
  have hz : (s.heap.push { cls := .type "tuple_iterator", data := .fields #[.ref l, .int 0 0] }).objs.size = s.heap.objs.size + 1 := Heap.size_push ..
  show _ ∧ _
  rw [hz]
  have he : IsEnum ((s.heap.push { cls := .type "tuple_iterator", data := .fields #[.ref l, .int 0 0] }).push
      { cls := .type "enumerate", data := .fields #[.none, .bool false, .ref s.heap.objs.size, rawInt 0, .none, .none] }) (s.heap.objs.size + 1) s.heap.objs.size 0 .none := by
    have := Heap.get?_push_size (s.heap.push { cls := .type "tuple_iterator", data := .fields #[.ref l, .int 0 0] })
      (o := { cls := .type "enumerate", data := .fields #[.none, .bool false, .ref s.heap.objs.size, rawInt 0, .none, .none] }) rfl
    rw [hz] at this; exact this
  refine ⟨⟨_, he, rfl⟩, h _ he ⟨_, Heap.get?_push_of_some _ (Heap.get?_push_size _ rfl), rfl, rfl⟩ (by rw [Heap.size_push, hz]) fun b o x => Heap.get?_push_of_some _ (Heap.get?_push_of_some _ x)⟩
end
/-- a tuple's iterator draws -/
theorem draws_tuple {prog : Program} {w : World} {A : Around} (hh : A.handled = none) (it l : Addr) (hne : l ≠ it) (items : Array Value) :
    Draws prog w A it [it, l] items.size (fun i v => items[i]? = some v) (fun i h => h.IsTupleIter it l i ∧ h.IsTuple l items) where
  live := fun _ _ st => let ⟨o, ho, _⟩ := st.1; ⟨o, ho⟩
  frame := fun _ _ _ st hk => ⟨st.1.at fun o e => hk it (by simp) o e, let ⟨o, ho, r⟩ := st.2; ⟨o, hk l (by simp) o ho, r⟩⟩
  item := fun i s Q E hi st hQ => by
    refine RZ.nextOf_tuple_item st.1 st.2 (x := items[i]) (by simp [hi]) fun h' hit' hs' => ?_
    exact hQ _ h' s.toks (by simp [hi]) ⟨hit', st.2.extBut hs'.extBut hne⟩ hs'
  done := fun s Q E st hE => RZ.nextOf_tuple_end hh st.1 st.2 (by simp) hE
end PySem.CiLib
namespace Ci
open PySem L2 PyProof.Rows PySem.CiLib
/-- the tuple at a, each item in a new pair -/
def IteT (K : PySem.W.Frag) (a : Addr) : It :=
  ⟨fun i H => ∃ (xs : List V) (x : V), SqT K H a xs ∧ xs[i]? = some x, fun i H v H' => ∃ T x, v = .ref T ∧ H T = none ∧ H' = upd H T (.tup [.int (i : Nat), x]) ∧ ∀ xs, SqT K H a xs → xs[i]? = some x, fun i H => ∃ xs : List V, SqT K H a xs ∧ xs.length ≤ i⟩
theorem turn_enumT {P : Program} {w : World} {K : PySem.W.Frag} {elts : List Expr} {kk : Nat} {tpos : Pos} (a e it : Addr) :
    Turn P w K (.Tuple elts kk tpos) (IteT K a) [e, it] e (fun i h => (∃ old, IsEnum h e it ((i : Nat) : Int) old) ∧ h.IsTupleIter it a i ∧ e ≠ it) where
  mem := by simp
  obj := fun i h st b hb => by
    obtain ⟨⟨old, he⟩, ⟨o, ho, hc, hd⟩, _⟩ := st
    have e' : b = e ∨ b = it := by simpa using hb
    rcases e' with z | z
    · rw [z]; exact ⟨_, he, fun v q => nomatch q⟩
    · rw [z]; exact ⟨o, ho, fun v q => by rw [hd] at q; cases q⟩
  keep := fun i h h' st k => let ⟨⟨old, he⟩, hi, hne⟩ := st; ⟨⟨old, k e (by simp) _ he⟩, hi.at fun o q => k it (by simp) o q, hne⟩
  item := by
    intro X hP hw hK hc i pins s σ H E I hf st hg
    subst hP hw hK
    obtain ⟨⟨old, he⟩, hit, hne⟩ := st
    obtain ⟨xs, x, hq, hx⟩ := hg
    obtain ⟨its, rv, p, hz⟩ := I.tuple hq
    obtain ⟨u, hu, ru⟩ := rv.get hx
    have p' : s.heap.IsTuple a its.toArray := p
    have hel : e < s.heap.objs.size := Heap.lt_size he
    have hil : it < s.heap.objs.size := by obtain ⟨_, q, _⟩ := hit; exact Heap.lt_size q
    have hai : a ≠ it := fun z => by
      obtain ⟨o, ho, hc, _⟩ := p'
      obtain ⟨o2, ho2, hc2, _⟩ := hit
      rw [z] at ho
      rw [ho] at ho2; cases ho2
      rw [hc] at hc2
      injection hc2 with q
      exact absurd q (by decide)
    have hae : e ≠ a := fun z => by
      obtain ⟨o, ho, hc, _⟩ := p'
      rw [← z] at ho
      have he2 : s.heap.get? e = some _ := he
      rw [ho] at he2
      have q1 := congrArg Obj.cls (Option.some.inj he2)
      rw [hc] at q1
      injection q1 with q
      exact absurd q (by decide)
    have hi' : i < its.toArray.size := by
      have := (List.getElem?_eq_some_iff.mp hu).1
      simpa using this
    refine wpAny_pyNext_enum_itemD (draws_tuple (A := X.A.in1) (I.ok.hd hc) it a hai its.toArray) he ⟨hit, p'⟩ hi' hne (by simp [hne, hae]) fun x' h' tk hP ho hit' hT hsz hk => ?_
    have hxu : x' = u := by
      have : its[i]? = some x' := by simpa using hP
      rw [hu] at this; exact (Option.some.inj this).symm
    subst hxu
    refine ⟨_, rfl, wpAny_letOwnedTupleGo_enum (s := { s with heap := h', toks := tk + 1 }) ho fun h'' he' sb => ?_⟩
    have hT2 : h''.get? s.heap.objs.size = some { cls := .type "tuple", data := .seq #[.int i tk, x'] } := (sb.2 _ (Nat.ne_of_gt hel)).trans hT
    have new : ObjOk X.prog X.w (upd H s.heap.objs.size (.tup [.int (i : Nat), x])) h'' s.heap.objs.size (.tup [.int (i : Nat), x]) :=
      ⟨by show 2 ≤ sizeLine; decide, [.int i tk, x'], .cons ⟨_, rfl⟩ (.cons ru .nil), ⟨_, hT2, rfl, _, rfl⟩⟩
    have I1 : Inv X pins σ (upd H s.heap.objs.size (.tup [.int (i : Nat), x])) { s with heap := h'', toks := tk + 1 } :=
      I.turnedNew (ch := [e, it]) (fun b ob hb q => (sb.2 b (fun z => hb (by simp [z]))).trans (hk b ob (fun z => hb (by simp [z])) (fun z => hb (by simp [z])) q)) hf (Nat.le_refl _) new
    refine ⟨.ref s.heap.objs.size, _, I1, rfl, ⟨_, x, rfl, I.hok.fresh (Nat.le_refl _), rfl, fun ys hy => by rw [I.tuple_inj hy hq]; exact hx⟩, ⟨⟨x', ?_⟩, hit'.1.at fun o q => (sb.2 it (Ne.symm hne)).trans q, hne⟩, fun b hb => ?_⟩
    · have e1 : ((i + 1 : Nat) : Int) = (i : Int) + 1 := by omega
      rw [e1]; exact he'
    · have hb' : b < s.heap.objs.size := by
        have e' : b = e ∨ b = it := by simpa using hb
        rcases e' with z | z
        · rw [z]; exact hel
        · rw [z]; exact hil
      rw [upd_ne (Nat.ne_of_lt hb')]
      exact (hf b hb).1
  done := by
    intro X hP hw hK hc i pins s σ H E I hf st hg
    subst hP hw hK
    obtain ⟨⟨old, he⟩, hit, hne⟩ := st
    obtain ⟨xs, hq, hx⟩ := hg
    obtain ⟨its, rv, p, hz⟩ := I.tuple hq
    obtain ⟨f0, f1, f2, f3, f4, f5⟩ := hf it (by simp)
    have hl := rv.length
    have p' : s.heap.IsTuple a its.toArray := p
    have hai : a ≠ it := fun z => by
      obtain ⟨o, ho, hc, _⟩ := p'
      obtain ⟨o2, ho2, hc2, _⟩ := hit
      rw [z] at ho
      rw [ho] at ho2; cases ho2
      rw [hc] at hc2
      injection hc2 with q
      exact absurd q (by decide)
    have hT : s.TypeIs (.ref e) "enumerate" := ⟨_, he, rfl⟩
    unfold pyNext
    refine wpAny_bind (wpAny_attempt (wpAny_callSpecial?_slot (name := Str.ofString "__next__") hT PySem.F.slot_enumerate_next
      (wpAny_call_entry PySem.F.slot_enumerate_next hT PySem.F.entry_enumerate_next ?_ (PySem.F.args_enumerate_next_1 _))))
    show wpAny _ _ (field (.ref e) 2 >>= _) _ _ _
    refine wpAny_bind (wpAny_field he rfl (x := .ref it) rfl ?_)
    refine wpAny_bind (RZ.nextOf_tuple_end (I.ok.hd hc) hit p' (by simp; omega) fun h' x eb hx' => ?_)
    obtain ⟨o, ho, hc⟩ := hx'
    refine wpAny_bind (wpAny_isInstance (T := "StopIteration") (b := true) ⟨o, ho, hc⟩ isSubtype_stop ?_)
    exact wpAny_pure ⟨rfl, I.turned (t' := s.toks) (fun b o hb q => eb b o hb q) f0 f1 f3 f4 f5⟩
  self := fun A i s Q E st h => let ⟨⟨_, he⟩, _⟩ := st; wpAny_pyIter_enum he h
def iEnumB (K : PySem.W.Frag) (ta : TA) : TI := fun σ H R => ta σ H fun vs H1 => ∃ a, vs = [.ref a] ∧ ((∃ xs, SqL K H1 a xs ∧ R (Ite K a) H1) ∨ ∃ xs, SqT K H1 a xs ∧ R (IteT K a) H1)
theorem pi_enumB {X : Cx} {e : Expr} {ta : TA} {p pos tpos : Pos} {elts : List Expr} {kk : Nat} (hg : Gl X "enumerate") (hm : X.mg "enumerate" = none) (ha : PA X [e] ta) (hs : starEach [e] X.env = [(false, eval e X.env)]) :
    PI X (.Tuple elts kk tpos) (.Call (.Name "enumerate" p) [e] [] pos) (iEnumB X.K ta) := by
  refine ⟨fun pins s σ H R I h => ?_⟩
  refine Call_ (ld_blt I hg hm boot_enumerate (PyProof.Rows.callWith_type1 (thn (ha.run pos pins s σ H _ I h) fun us s1 ⟨vs, H1, I1, r1, q1⟩ => ?_) hs rfl))
  obtain ⟨a, ex, q⟩ := q1
  subst ex
  cases r1 with
  | cons r rr =>
    cases rr
    cases r
    have fp : ∀ b ∈ [s1.heap.objs.size + 1, s1.heap.objs.size], s1.heap.objs.size ≤ b := fun b hb => by
      have e' : b = s1.heap.objs.size + 1 ∨ b = s1.heap.objs.size := by simpa using hb
      rcases e' with z | z
      · rw [z]; exact Nat.le_add_right _ _
      · rw [z]; exact Nat.le_refl _
    rcases q with ⟨xs, hq, q⟩ | ⟨xs, hq, q⟩
    · obtain ⟨its, rv, p', hz⟩ := I1.list hq
      refine call_enumerate_list p'.isList fun h' he hit hsz hk => wpAny_pyIter_enum he ?_
      have I2 : Inv X pins σ H1 { s1 with heap := h' } := I1.kept (t' := s1.toks) hk
      exact ⟨s1.heap.objs.size + 1, [s1.heap.objs.size + 1, s1.heap.objs.size], _, _, H1, rfl, I2, turn_enum a (s1.heap.objs.size + 1) s1.heap.objs.size, ⟨⟨.none, he⟩, hit, Nat.succ_ne_self _⟩, fun b hb => I1.fpOk (fp b hb) (I1.hok.fresh (fp b hb)), q⟩
    · obtain ⟨its, rv, p', hz⟩ := I1.tuple hq
      refine call_enumerate_tuple (show s1.heap.IsTuple a its.toArray from p') fun h' he hit hsz hk => wpAny_pyIter_enum he ?_
      have I2 : Inv X pins σ H1 { s1 with heap := h' } := I1.kept (t' := s1.toks) hk
      exact ⟨s1.heap.objs.size + 1, [s1.heap.objs.size + 1, s1.heap.objs.size], _, _, H1, rfl, I2, turn_enumT a (s1.heap.objs.size + 1) s1.heap.objs.size, ⟨⟨.none, he⟩, hit, Nat.succ_ne_self _⟩, fun b hb => I1.fpOk (fp b hb) (I1.hok.fresh (fp b hb)), q⟩
end Ci
namespace Ci
open PySem L2 PyProof.Rows
section
variable {G : Gm} {x : Exi} {W : WX} {X : Cx} {cx : Cxt} {cm : Bool} {hd : Bool} {own : List Nat} {e : Expr} {ce : CE}
theorem enumV_len : ∀ xs : List PV, (enumV xs).length = xs.length := fun xs => by simp [enumV]
theorem enumV_get {xs : List PV} {i : Nat} {v : PV} (h : (enumV xs)[i]? = some v) : ∃ y, xs[i]? = some y ∧ v = .tup [.int (i : Nat), y] := by
  have hl : i < xs.length := by
    have := (List.getElem?_eq_some_iff.mp h).1
    rwa [enumV_len] at this
  refine ⟨xs[i], List.getElem?_eq_getElem hl, ?_⟩
  obtain ⟨h1, h2⟩ := List.getElem?_eq_some_iff.mp h
  rw [← h2]
  simp [enumV]
theorem walk_enmL {xs : List PV} {a : Addr} : Walk G (Ite G.K a) (enumV xs) (fun Z L H => Same Z H ∧ TopR G Z L H (.lst xs) (.ref a)) where
  go := fun i Z L H ⟨z, t⟩ hi => by
    obtain ⟨b, vs, e, h1, h2⟩ := t.lst z
    cases e
    rw [enumV_len] at hi
    obtain ⟨v, hv, _⟩ := h2.get (List.getElem?_eq_getElem hi)
    exact ⟨vs, v, h1, hv⟩
  stop := fun i Z L H ⟨z, t⟩ hi => by
    obtain ⟨b, vs, e, h1, h2⟩ := t.lst z
    cases e
    rw [enumV_len] at hi
    exact ⟨vs, h1, by rw [← h2.length]; exact hi⟩
  yld := fun i Z L H u H' v ⟨z, t⟩ hv ⟨p, y, e1, e2, e3, k⟩ => by
    obtain ⟨b, vs, e', h1, h2⟩ := t.lst z
    cases e'
    obtain ⟨w, hw, rfl⟩ := enumV_get hv
    obtain ⟨w', hw', hr⟩ := h2.get hw
    have := k vs h1
    rw [hw'] at this; cases this
    exact .inr ⟨p, _, _, e2, e3, e1, rfl, .cons (.int _) (.cons hr .nil)⟩
theorem walk_enmT {xs : List PV} {a : Addr} : Walk G (IteT G.K a) (enumV xs) (fun Z L H => Same Z H ∧ TopR G Z L H (.tup xs) (.ref a)) where
  go := fun i Z L H ⟨z, t⟩ hi => by
    obtain ⟨b, vs, e, h1, h2⟩ := t.tup
    cases e
    rw [enumV_len] at hi
    obtain ⟨v, hv, _⟩ := h2.get (List.getElem?_eq_getElem hi)
    exact ⟨vs, v, SqT.up z h1, hv⟩
  stop := fun i Z L H ⟨z, t⟩ hi => by
    obtain ⟨b, vs, e, h1, h2⟩ := t.tup
    cases e
    rw [enumV_len] at hi
    exact ⟨vs, SqT.up z h1, by rw [← h2.length]; exact hi⟩
  yld := fun i Z L H u H' v ⟨z, t⟩ hv ⟨p, y, e1, e2, e3, k⟩ => by
    obtain ⟨b, vs, e', h1, h2⟩ := t.tup
    cases e'
    obtain ⟨w, hw, rfl⟩ := enumV_get hv
    obtain ⟨w', hw', hr⟩ := h2.get hw
    have := k vs (SqT.up z h1)
    rw [hw'] at this; cases this
    exact .inr ⟨p, _, _, e2, e3, e1, rfl, .cons (.int _) (.cons hr .nil)⟩
theorem pi_enm (hK : X.K = G.K) {elts : List Expr} {kk : Nat} {tpos p q : Pos} (hg : Gl X "enumerate") (hm : X.mg "enumerate" = none) (hs : notStar e = true) (he : PE X e (tE G x W (ev cx cm ce))) :
    PI X (.Tuple elts kk tpos) (.Call (.Name "enumerate" p) [e] [] q) (tI G x W hd own (evIt cx cm hd own (.enm ce))) := by
  refine (pi_enumB hg hm (pa_cons (pe_len he) pa_nil (star_cons hs _ _)) (star_cons hs [] X.env)).imp fun σ H R ⟨F, Z, L, r, S, B, P⟩ => ?_
  unfold evIt at P
  rw [post_bind] at P
  refine ⟨F, Z, L, r, S, B, P.imp (fun p r1 S1 P1 Z1 L1 H1 u B1 V1 hL => ?_) fun _ _ _ _ E => E⟩
  rw [post_bind] at P1
  obtain ⟨Z2, r2, s2, B2, K2, St⟩ := it_stand B1 V1 P1
  obtain ⟨v, m⟩ := p
  have t := V1.top B1
  cases v with
  | lst xs =>
    obtain ⟨a, vs, rfl, h1, h2⟩ := t.lst B1.h.zs
    exact ⟨a, rfl, .inl ⟨vs, by rw [hK]; exact h1, by rw [hK]; exact K2 Z2 L1 H1 _ _ B2 St walk_enmL (by rw [enumV_len, h2.length]; exact hL a vs rfl (.inl (by rw [hK]; exact h1)))⟩⟩
  | tup xs =>
    obtain ⟨a, vs, rfl, h1, h2⟩ := t.tup
    have h1' := SqT.up B1.h.zs h1
    exact ⟨a, rfl, .inr ⟨vs, by rw [hK]; exact h1', by rw [hK]; exact K2 Z2 L1 H1 _ _ B2 St walk_enmT (by rw [enumV_len, h2.length]; exact hL a vs rfl (.inr (by rw [hK]; exact h1')))⟩⟩
  | _ => exact K2.elim
end
end Ci
namespace Ci
open PySem L2
section
variable {G : Gm} {x : Exi} {F : Frm} {Z Z' : Hp} {L L' : List Addr} {r : Ev} {S S' : Store} {σ : L2.St} {H H' : Hp}
/-- others hold one more thing, which nobody here knows -/
theorem BRel.hold {a : Addr} {o : HO} (B : BRel G x F Z L r S σ H) (h : H a = some o) (hz : Z a = none) (hf : F.Fm a = none) (hl : a ∉ L) (hn : ∀ (i : Nat) (s : Sl), r[i]? = some s → isOw s = true → σ[i]? ≠ some (some (V.ref a))) : BRel G x (F.hold a o) Z L r S σ H := by
  refine ⟨⟨B.h.z0, B.h.l0, B.h.zs, fun b u e => ?_, B.h.ln, B.h.nd, B.h.ce, fun b hb => ⟨(B.h.lz b hb).1, ?_⟩, fun b u e => ?_⟩, B.len, fun i s e => (B.sl i s e).mono (Same.refl _) (List.prefix_refl _) fun b o' hb hs hu => ?_, B.sp⟩
  · have e : upd F.Fm a o b = some u := e
    by_cases q : b = a
    · subst q; rw [upd_same] at e; cases e; exact h
    · rw [upd_ne q] at e; exact B.h.fs b u e
  · show upd F.Fm a o b = none
    rw [upd_ne (fun q => hl (by rw [← q]; exact hb))]; exact (B.h.lz b hb).2
  · show upd F.Fm a o b = none
    rw [upd_ne (fun q => by rw [q, hz] at e; cases e)]; exact B.h.zf b u e
  · have hsl := B.sl i s e
    cases s with
    | ow v =>
      rw [hu] at hsl
      obtain ⟨c, e1, _, k2, k3, k4⟩ := hsl
      cases e1
      refine ⟨hb, k2, ?_, k4⟩
      show upd F.Fm a o b = none
      rw [upd_ne]; exact k3
      intro q
      subst q
      refine hn i _ e rfl ?_
      cases q3 : σ[i]? with
      | none => rw [q3] at hu; cases hu
      | some w2 => rw [q3] at hu; exact congrArg some hu
    | _ => cases hs
/-- what others hold stands -/
theorem BRel.held {a : Addr} {o : HO} (B : BRel G x (F.hold a o) Z L r S σ H) : H a = some o ∧ Z a = none ∧ a ∉ L ∧ ∀ (i : Nat) (s : Sl), r[i]? = some s → isOw s = true → σ[i]? ≠ some (some (V.ref a)) := by
  have e : (F.hold a o).Fm a = some o := upd_same
  refine ⟨B.h.fs a o e, ?_, fun hl => ?_, fun i s e1 hs q => ?_⟩
  · cases q : Z a with
    | none => rfl
    | some u => have := B.h.zf a u q; rw [e] at this; cases this
  · have := (B.h.lz a hl).2; rw [e] at this; cases this
  · have hsl := B.sl i s e1
    cases s with
    | ow v =>
      rw [q] at hsl
      obtain ⟨c, e2, _, _, k3, _⟩ := hsl
      cases e2
      rw [e] at k3; cases k3
    | _ => cases hs
/-- .. and let go -/
theorem BRel.free1 {a : Addr} {o : HO} (B : BRel G x (F.hold a o) Z L r S σ H) (hf : F.Fm a = none) : BRel G x F Z L r S σ H := by
  have low : ∀ b, upd F.Fm a o b = none → F.Fm b = none := fun b e => by
    by_cases q : b = a
    · rw [q]; exact hf
    · rw [upd_ne q] at e; exact e
  refine ⟨⟨B.h.z0, B.h.l0, B.h.zs, fun b u e => ?_, B.h.ln, B.h.nd, B.h.ce, fun b hb => ⟨(B.h.lz b hb).1, low b (B.h.lz b hb).2⟩, fun b u e => low b (B.h.zf b u e)⟩, B.len, fun i s e => (B.sl i s e).mono (Same.refl _) (List.prefix_refl _) fun b o' hb hs hu => ?_, B.sp⟩
  · refine B.h.fs b u ?_
    show upd F.Fm a o b = some u
    rw [upd_ne (fun q => by rw [q, hf] at e; cases e)]; exact e
  · have hsl := B.sl i s e
    cases s with
    | ow v =>
      rw [hu] at hsl
      obtain ⟨c, e1, _, k2, k3, k4⟩ := hsl
      cases e1
      exact ⟨hb, k2, low b k3, k4⟩
    | _ => cases hs
/-- what stands but at a -/
theorem OwnAt.but {a b : Addr} {o : HO} {v : PV} (h : OwnAt G Z L H b v) (hb : b ≠ a) : OwnAt G Z L (upd H a o) b v := by
  cases v with
  | lst xs => obtain ⟨vs, h1, h2⟩ := h; exact ⟨vs, by rw [upd_ne hb]; exact h1, h2⟩
  | dct xs => obtain ⟨vs, h1, h2⟩ := h; exact ⟨vs, by rw [upd_ne hb]; exact h1, h2⟩
  | obj c fs => obtain ⟨dx, vs, h1, h2⟩ := h; exact ⟨dx, vs, by rw [upd_ne hb]; exact h1, h2⟩
  | _ => exact h.elim
/-- what others hold is changed by them -/
theorem BRel.other {a : Addr} {o o' : HO} (B : BRel G x (F.hold a o) Z L r S σ H) : BRel G x (F.hold a o') Z L r S σ (upd H a o') := by
  obtain ⟨h1, h2, h3, h4⟩ := B.held
  have low : ∀ b, upd F.Fm a o b = none → upd F.Fm a o' b = none := fun b e => by
    by_cases q : b = a
    · subst q; rw [upd_same] at e; cases e
    · rw [upd_ne q] at e ⊢; exact e
  refine ⟨⟨B.h.z0, B.h.l0, fun b u e => ?_, fun b u e => ?_, B.h.ln, B.h.nd, fun n c e => ?_, fun b hb => ⟨(B.h.lz b hb).1, low b (B.h.lz b hb).2⟩, fun b u e => low b (B.h.zf b u e)⟩, B.len, fun i s e => ?_, B.sp⟩
  · rw [upd_ne (fun q => by rw [q, h2] at e; cases e)]; exact B.h.zs b u e
  · have e : upd F.Fm a o' b = some u := e
    by_cases q : b = a
    · subst q; rw [upd_same] at e ⊢; exact e
    · rw [upd_ne q] at e ⊢
      exact B.h.fs b u (by show upd F.Fm a o b = some u; rw [upd_ne q]; exact e)
  · obtain ⟨b, k1, k2⟩ := B.h.ce n c e
    refine ⟨b, k1, k2.but fun q => h3 ?_⟩
    rw [← q]
    exact List.mem_of_getElem? k1
  · have hsl := B.sl i s e
    cases s with
    | no => trivial
    | sh v => cases q : σ[i]?.join <;> (rw [q] at hsl; exact hsl)
    | ow v =>
      cases q : σ[i]?.join with
      | none => rw [q] at hsl; exact hsl.elim
      | some u =>
        rw [q] at hsl
        obtain ⟨b, e1, k1, k2, k3, k4⟩ := hsl
        subst e1
        refine ⟨b, rfl, k1.but fun z => ?_, k2, low b k3, k4⟩
        subst z
        refine h4 i _ e rfl ?_
        cases q3 : σ[i]? with
        | none => rw [q3] at q; cases q
        | some w2 => rw [q3] at q; exact congrArg some q
    | ex c vs => cases q : σ[i]?.join <;> (rw [q] at hsl; exact hsl)
/-- slots are shared -/
theorem BRel.lowS1 (i : Nat) (B : BRel G x F Z L r S σ H) : ∃ Z', Same Z Z' ∧ BRel G x F Z' L (lowS r i) S σ H := by
  unfold lowS
  split
  · rename_i v q
    obtain ⟨u, h1, h2, _⟩ := B.slot q (by intro z; cases z)
    obtain ⟨Z', s, B', _⟩ := B.low h2 h1
    exact ⟨Z', s, B'⟩
  · exact ⟨Z, Same.refl _, B⟩
theorem BRel.lowA : ∀ (l : List Nat) {Z : Hp} {r : Ev}, BRel G x F Z L r S σ H → ∃ Z', Same Z Z' ∧ BRel G x F Z' L (lowAll r l) S σ H
  | [], Z, r, B => ⟨Z, Same.refl _, B⟩
  | i :: l, Z, r, B => by
    obtain ⟨Z1, s1, B1⟩ := B.lowS1 i
    obtain ⟨Z2, s2, B2⟩ := BRel.lowA l B1
    exact ⟨Z2, s1.trans s2, B2⟩
/-- a new tuple that an iterator lays -/
theorem BRel.yld {v : PV} {u : V} (B : BRel G x F Z L r S σ H) (h : (H' = H ∧ Rep G Z L v u) ∨ ∃ p ws vs, H p = none ∧ H' = upd H p (.tup ws) ∧ u = .ref p ∧ v = .tup vs ∧ Reps G Z L vs ws) : ∃ Z', Same Z Z' ∧ BRel G x F Z' L r S σ H' ∧ Rep G Z' L v u := by
  rcases h with ⟨rfl, R⟩ | ⟨p, ws, vs, h1, rfl, rfl, rfl, R⟩
  · exact ⟨Z, Same.refl _, B, R⟩
  · obtain ⟨B', R'⟩ := B.newT h1 R
    exact ⟨_, same_upd (B.free h1).1, B', R'⟩
end

def W0 : WX := fun _ _ _ _ => False
/-- a turn of a comprehension -/
def turnF (cx : Cxt) (own : List Nat) (tgt : CT) (cond : Option CE) (elt : CE) (r : Ev) : PV → Store → Out (Option PV) := fun x S => (asgT tgt x (wipeS r own) S).bind fun _ r1 S => match cond with
  | none => (escB true (ev cx true elt r1 S)).bind fun y _ S => .ok (some y) [] S
  | some c => (ev cx true c r1 S).bind fun t _ S => (truthO S t.1 []).bind fun b _ S => if b then (escB true (ev cx true elt r1 S)).bind fun y _ S => .ok (some y) [] S else .ok none [] S
def tCond (G : Gm) (x : Exi) (cx : Cxt) : Option CE → TT
  | none => tYes
  | some c => tT G x W0 (evT cx true c)
section
variable {G : Gm} {x : Exi} {W : WX} {cx : Cxt} {cm : Bool} {own frz : List Nat} {tgt : CT} {it : CI} {cond : Option CE} {elt : CE}
theorem post_keep {α : Type} {o : Out α} {r : Ev} {K : α → Ev → Store → Prop} {E : Nat → List PV → Ev → Store → Prop} (P : Post o K E) (k : Keep o r) : Post o (fun a r' S => r' = r ∧ K a r' S) E := by
  cases o with
  | ok a r' S => exact ⟨k, P⟩
  | exc _ _ _ _ => exact P
  | bad _ => exact P
theorem ev_comp {r : Ev} {S : Store} {K : PV × Md → Ev → Store → Prop} {E : Nat → List PV → Ev → Store → Prop} (P : Post (ev cx cm (.comp own frz tgt it cond elt) r S) K E) :
    Post (evIt cx cm false own it (lowAll r frz) S) (fun xs r1 S1 => (∀ i ∈ own, isOw (getS r1 i) = false) ∧ Post (compLoop (turnF cx own tgt cond elt r1) xs S1 []) (fun ys _ S2 => K (.lst ys, .fr) r1 S2) (fun _ _ _ _ => False)) E := by
  unfold ev at P
  split at P
  · exact P.elim
  · rw [post_bind] at P
    refine P.imp (fun xs r1 S1 P1 => ?_) fun _ _ _ _ E => E
    split at P1
    · exact P1.elim
    · rename_i hn
      rw [post_bind] at P1
      refine ⟨fun i hi => ?_, ?_⟩
      · cases q : isOw (getS r1 i) with
        | false => rfl
        | true => exact absurd (List.any_eq_true.mpr ⟨i, hi, q⟩) hn
      · have P2 : Post (compLoop (turnF cx own tgt cond elt r1) xs S1 []) (fun ys _ S2 => K (.lst ys, .fr) r1 S2) E := P1
        have noexc : ∀ (f : PV → Store → Out (Option PV)) (xs : List PV) (S : Store) (acc : List PV) c vs r' S', compLoop f xs S acc ≠ .exc c vs r' S' := by
          intro f xs
          induction xs with
          | nil => intro S acc c vs r' S' h; unfold compLoop at h; cases h
          | cons y ys ih =>
            intro S acc c vs r' S' h
            unfold compLoop at h
            split at h
            · exact ih _ _ _ _ _ _ h
            · cases h
            · cases h
        cases q : compLoop (turnF cx own tgt cond elt r1) xs S1 [] with
        | ok ys r2 S2 => rw [q] at P2; exact P2
        | exc c vs r' S' => exact absurd q (noexc _ _ _ _ _ _ _ _)
        | bad w => rw [q] at P2; exact P2
theorem post_loop {f : PV → Store → Out (Option PV)} {y : PV} {ys : List PV} {S : Store} {acc : List PV} {K : List PV → Ev → Store → Prop} {E : Nat → List PV → Ev → Store → Prop} (P : Post (compLoop f (y :: ys) S acc) K E) :
    Post (f y S) (fun z _ S => Post (compLoop f ys S (match z with | some z => acc ++ [z] | none => acc)) K E) (fun _ _ _ _ => False) := by
  unfold compLoop at P
  cases q : f y S with
  | ok z r' S' => rw [q] at P; exact P
  | exc _ _ _ _ => rw [q] at P; exact P
  | bad _ => rw [q] at P; exact P
theorem ww {σ : L2.St} {vs : List Nat} : wipe (wipe σ vs) vs = wipe σ vs := wipe_off off_wipe
theorem wwS {r : Ev} {vs : List Nat} : wipeS (wipeS r vs) vs = wipeS r vs := wipeS_off off_wipeS
theorem tE_comp {σ : L2.St} {H : Hp} {Q : VK} (h : tE G x W (ev cx cm (.comp own frz tgt it cond elt)) σ H Q) :
    tLc (tI G x W false own (evIt cx cm false own it)) (gT G x own (asgT tgt)) (tCond G x cx cond) (tEe G x W0 fun r S => escB true (ev cx true elt r S)) own σ H Q := by
  obtain ⟨F, Z, L, r, S, B, P⟩ := h
  obtain ⟨Zl, sl, Bl⟩ := B.lowA frz
  refine ⟨F, Zl, L, lowAll r frz, S, Bl, (ev_comp P).imp (fun xs r1 S1 ⟨hown, P1⟩ Z1 L1 H1 J Φ B1 St wk hlen D hD => ?_) fun _ _ _ _ E => E⟩
  obtain ⟨f1, f2, f3, f4⟩ := B1.free hD
  let Wn : Nat → Nat → Hp → Prop := fun i m H => m = xs.length - i ∧ i ≤ xs.length ∧ ∃ Z2 L2 S2 acc vacc, BRel G x (F.hold D (.lst vacc)) Z2 L2 (wipeS r1 own) S2 (wipe σ own) H ∧ Same Z1 Z2 ∧ L1 <+: L2 ∧ Reps G Z2 L2 acc vacc ∧ acc.length ≤ i ∧
    Post (compLoop (turnF cx own tgt cond elt r1) (xs.drop i) S2 acc) (fun ys _ S2 => ∀ Z' L' H' u, BRel G x F Z' L' r1 S2 σ H' → VR G F Z' L' r1 σ H' (.lst ys) .fr u → Q u H') (fun _ _ _ _ => False)
  refine ⟨Wn, ⟨_, rfl, Nat.zero_le _, Z1, L1, S1, [], [], ?_, Same.refl _, List.prefix_refl _, .nil, Nat.le_refl _, P1⟩, fun i m H ⟨hm, hi, Z2, L2, S2, acc, vacc, B2, z2, l2, R2, ha, P2⟩ => ?_⟩
  · exact ((B1.newL hD .nil).1.hold upd_same f1 f2 f3 f4).wipeB own
  · have hΦ : Φ Z2 L2 H := St _ _ _ _ _ _ _ B2 z2 l2 fun _ => ⟨off_wipeS, off_wipe⟩
    by_cases hlt : i < xs.length
    · refine .inr ⟨wk.go i _ _ _ hΦ hlt, fun H' => ∃ m', m' < m ∧ Wn (i + 1) m' H', fun H' h => h, fun u H' hy => ?_⟩
      have hx : xs[i]? = some xs[i] := List.getElem?_eq_getElem hlt
      obtain ⟨Z3, s3, B3, R3⟩ := B2.yld (wk.yld i _ _ _ _ _ _ hΦ hx hy)
      rw [List.drop_eq_getElem_cons hlt] at P2
      have P3 := post_loop P2
      unfold turnF at P3
      rw [post_bind] at P3
      refine ⟨_, Z3, L2, _, S2, _, B3, R3, P3.imp (fun _ r2 S3 P4 σ2 B4 O1 O2 => ⟨by rw [wipe_off O1, ww], ?_⟩) fun _ _ _ _ E => E⟩
      have e1 : wipe σ2 own = wipe σ own := by rw [wipe_off O1, ww]
      have e2 : wipeS r2 own = wipeS r1 own := by rw [wipeS_off O2, wwS]
      -- the turn's ends
      have nil_ : ∀ {Z5 L5 S5 H5}, BRel G x (F.hold D (.lst vacc)) Z5 L5 r2 S5 σ2 H5 → Same Z3 Z5 → L2 <+: L5 → Post (compLoop (turnF cx own tgt cond elt r1) (xs.drop (i + 1)) S5 acc) (fun ys _ S2 => ∀ Z' L' H' u, BRel G x F Z' L' r1 S2 σ H' → VR G F Z' L' r1 σ H' (.lst ys) .fr u → Q u H') (fun _ _ _ _ => False) → ∃ m', m' < m ∧ Wn (i + 1) m' H5 := fun {Z5 L5 S5 H5} B5 z5 l5 P5 => by
        have B6 := B5.wipeB own
        rw [e1, e2] at B6
        exact ⟨xs.length - (i + 1), by omega, rfl, hlt, Z5, L5, S5, acc, vacc, B6, z2.trans (s3.trans z5), l2.trans l5, R2.up (s3.trans z5) l5, by omega, P5⟩
      have some_ : ∀ {Z4 L4 S4 H4 K}, BRel G x (F.hold D (.lst vacc)) Z4 L4 r2 S4 σ2 H4 → Same Z3 Z4 → L2 <+: L4 → Post ((escB true (ev cx true elt r2 S4)).bind fun y _ S => .ok (some y) [] S) K (fun _ _ _ _ => False) →
          (∀ v S5, K (some v) [] S5 → Post (compLoop (turnF cx own tgt cond elt r1) (xs.drop (i + 1)) S5 (acc ++ [v])) (fun ys _ S2 => ∀ Z' L' H' u, BRel G x F Z' L' r1 S2 σ H' → VR G F Z' L' r1 σ H' (.lst ys) .fr u → Q u H') (fun _ _ _ _ => False)) →
          tEe G x W0 (fun r S => escB true (ev cx true elt r S)) σ2 H4 fun y H4 => ∃ acc, H4 D = some (.lst acc) ∧ acc.length < sizeLine ∧ ∃ m', m' < m ∧ Wn (i + 1) m' (upd H4 D (.lst (acc ++ [y]))) := fun {Z4 L4 S4 H4 K} B4 z4 l4 P5 hK => by
        rw [post_bind] at P5
        refine ⟨(F.hold D (.lst vacc)).at Z4 L4, Z4, L4, r2, S4, B4.here, (post_keep P5 (keep_escB (keep_ev cx elt r2 S4))).imp (fun v r5 S5 ⟨er, k5⟩ Z5 L5 H5 u5 B5 R5 => ?_) fun _ _ _ _ E => E.elim⟩
        subst er
        have z5 : Same Z4 Z5 := B5.h.z0
        have l5 : L4 <+: L5 := B5.h.l0
        have B5' : BRel G x (F.hold D (.lst vacc)) Z5 L5 r5 S5 σ2 H5 := B5.back B4.z0 B4.l0
        obtain ⟨h1, h2, h3, h4⟩ := B5'.held
        have Rv := R2.up (s3.trans (z4.trans z5)) (l4.trans l5)
        refine ⟨vacc, h1, ?_, xs.length - (i + 1), by omega, rfl, hlt, Z5, L5, S5, acc ++ [v], vacc ++ [u5], ?_, z2.trans (s3.trans (z4.trans z5)), l2.trans (l4.trans l5), Rv.append (.one R5), by simp; omega, hK v S5 k5⟩
        · have := Rv.length
          omega
        · have B6 := (B5'.other (o' := .lst (vacc ++ [u5]))).wipeB own
          rw [e1, e2] at B6
          exact B6
      cases cond with
      | none =>
        exact some_ B4 (Same.refl _) (List.prefix_refl _) P4 fun v S5 k => k
      | some c =>
        show tT G x W0 (evT cx true c) σ2 H' _
        have P5 : Post ((ev cx true c r2 S3).bind fun t _ S => (truthO S t.1 []).bind fun b _ S => if b then (escB true (ev cx true elt r2 S)).bind fun y _ S => .ok (some y) [] S else .ok none [] S) _ (fun _ _ _ _ => False) := P4
        rw [post_bind] at P5
        refine ⟨(F.hold D (.lst vacc)).at Z3 L2, Z3, L2, r2, S3, B4.here, ?_⟩
        unfold evT
        rw [post_bind]
        refine (post_keep P5 (keep_ev cx c r2 S3)).imp (fun t r5 S5 ⟨er, P6⟩ => ?_) fun _ _ _ _ E => E.elim
        subst er
        unfold truthO at P6 ⊢
        cases e : truth S5 t.1 with
        | none => rw [e] at P6; exact P6.elim
        | some b =>
          rw [e] at P6
          intro Z5 L5 H5 B5
          have z5 : Same Z3 Z5 := B5.h.z0
          have l5 : L2 <+: L5 := B5.h.l0
          have B5' := B5.back B4.z0 B4.l0
          cases b with
          | true => exact some_ B5' z5 l5 P6 fun v S5 k => k
          | false => exact nil_ B5' z5 l5 P6
    · have he : i = xs.length := by omega
      refine .inl ⟨wk.stop i _ _ _ hΦ (by omega), ?_⟩
      rw [List.drop_eq_nil_of_le (by omega)] at P2
      unfold compLoop at P2
      have B3 := B1.unwipe hown B2 z2 l2
      obtain ⟨h1, h2, h3, h4⟩ := B3.held
      exact P2 Z2 L2 H _ (B3.free1 f2) ⟨D, rfl, ⟨vacc, h1, R2⟩, h2, f2, h3, h4⟩
end
end Ci
namespace Ci
open PySem L2 PyProof.Rows
/-! ### isinstance -/
def tyT (i n : Nat) : Bool := i == n || (i == 1 && n == 0)
def tyI : PV → Option Nat
  | .int _ => some 0
  | .bl _ => some 1
  | .str _ => some 2
  | .lst _ => some 3
  | .tup _ => some 4
  | .non => some 6
  | _ => none
theorem kit_tab : ((List.range 7).all fun i => (List.range 6).all fun n => decide (kitB (vtN i) (tyN n) = some (tyT i n))) = true := by decide +kernel
theorem kit_at {i n : Nat} (hi : i < 7) (hn : n < 6) : kitB (vtN i) (tyN n) = some (tyT i n) := by
  have h := kit_tab
  rw [List.all_eq_true] at h
  have h2 := h i (List.mem_range.mpr hi)
  rw [List.all_eq_true] at h2
  exact of_decide_eq_true (h2 n (List.mem_range.mpr hn))
section
variable {G : Gm} {x : Exi} {W : WX} {X : Cx} {cx : Cxt} {cm : Bool} {T : Tx} {k : Nat} {a : Expr} {ca : CE} {F : Frm} {Z : Hp} {L : List Addr} {r : Ev} {S : Store} {σ : L2.St} {H : Hp} {u : V} {v : PV}
theorem sqL_ty {b : Addr} {xs : List V} (h : SqL G.K H b xs) : TyX G.K H (.ref b) (.type "list") := by
  rcases h with (h | ⟨o, h⟩) | ⟨o, its, n, h1, h2, _⟩
  · exact .base (.lst h)
  · exact .base (.frz h)
  · exact .kList h1 h2
theorem sqT_ty {b : Addr} {xs : List V} (h : SqT G.K H b xs) : TyX G.K H (.ref b) (.type "tuple") := by
  rcases h with (h | ⟨o, h⟩) | ⟨o, its, n, h1, h2, _⟩
  · exact .base (.tup h)
  · exact .fTuple h
  · exact .kTuple h1 h2
theorem tyIs_eq {i n : Nat} (hn : n < 6) (h : tyI v = some i) : tyIs v n = tyT i n := by
  have : n = 0 ∨ n = 1 ∨ n = 2 ∨ n = 3 ∨ n = 4 ∨ n = 5 := by omega
  cases v <;> simp [tyI] at h <;> subst h <;> rcases this with rfl | rfl | rfl | rfl | rfl | rfl <;> rfl
/-- a value's class, and how it stands to the others -/
theorem TopR.ty (ik : IsiK G) (z : Same Z H) (t : TopR G Z L H v u) (h : isiOk v = true) : ∃ t, TyX G.K H u t ∧ (∀ n, n < 6 → PySem.W.kitOne G.K t (.type (tyN n)) = some (tyIs v n)) ∧ ∀ c, (G.P.init c).isSome = true → PySem.W.kitOne G.K t (.ref (G.Ca c)) = some (clIs v c) ∧ PySem.W.notFirst G.K (G.Ca c) t = true := by
  have key : ∀ i, i < 7 → tyI v = some i → (∀ n, n < 6 → PySem.W.kitOne G.K (.type (vtN i)) (.type (tyN n)) = some (tyIs v n)) ∧ ∀ c, (G.P.init c).isSome = true → PySem.W.kitOne G.K (.type (vtN i)) (.ref (G.Ca c)) = some (clIs v c) ∧ PySem.W.notFirst G.K (G.Ca c) (.type (vtN i)) = true := fun i hi ht =>
    ⟨fun n hn => by rw [tyIs_eq hn ht]; exact kit_ty (kit_at hi hn), fun c hc => by
      have : clIs v c = false := by cases v <;> first | rfl | cases ht
      rw [this]; exact ⟨ik.ty c i hc hi, ik.nf c i hc hi⟩⟩
  cases v with
  | non => cases t.non; exact ⟨.type (vtN 6), .base .non, key 6 (by decide) rfl⟩
  | bl b => cases t.bl; exact ⟨.type (vtN 1), .base (.bl b), key 1 (by decide) rfl⟩
  | int b => cases t.int; exact ⟨.type (vtN 0), .base (.int b), key 0 (by decide) rfl⟩
  | str b => obtain ⟨rfl, _⟩ := t.str; exact ⟨.type (vtN 2), .base (.str b), key 2 (by decide) rfl⟩
  | lst xs => obtain ⟨b, vs, rfl, h1, _⟩ := t.lst z; exact ⟨.type (vtN 3), sqL_ty h1, key 3 (by decide) rfl⟩
  | tup xs => obtain ⟨b, vs, rfl, h1, _⟩ := t.tup; exact ⟨.type (vtN 4), sqT_ty (SqT.up z h1), key 4 (by decide) rfl⟩
  | obj c fs =>
    obtain ⟨a, dx, vfs, rfl, e1, ⟨o1, o2⟩, e3⟩ := t.obj z
    obtain ⟨k1, k2, k3, k4, k5⟩ := ik.ins c o1
    refine ⟨.ref (G.Ca c), .base (.ins e1 k1 k2 k3 k4 k5), fun n hn => ?_, fun c' hc' => ⟨ik.oo c' c hc' o1, ik.no c' c hc' o1⟩⟩
    have : tyIs (.obj c fs) n = false := by
      have : n = 0 ∨ n = 1 ∨ n = 2 ∨ n = 3 ∨ n = 4 ∨ n = 5 := by omega
      rcases this with rfl | rfl | rfl | rfl | rfl | rfl <;> rfl
    rw [this]; exact ik.ob c n o1 hn
  | _ => cases h
theorem TyX.fresh {K : PySem.W.Frag} {p : Addr} {o : HO} {t : Value} (hp : H p = none) (h : TyX K H u t) : TyX K (upd H p o) u t := by
  have ne : ∀ {b : Addr} {q : HO}, H b = some q → upd H p o b = some q := fun {b q} e => by
    rw [upd_ne (fun z => by rw [z, hp] at e; cases e)]; exact e
  cases h with
  | base b => cases b with
    | non => exact .base .non
    | bl b => exact .base (.bl b)
    | int b => exact .base (.int b)
    | str b => exact .base (.str b)
    | flt b => exact .base (.flt b)
    | lst e => exact .base (.lst (ne e))
    | frz e => exact .base (.frz (ne e))
    | tup e => exact .base (.tup (ne e))
    | dK e => exact .base (.dK (ne e))
    | dT e => exact .base (.dT (ne e))
    | ins e cl ha hn htk hm => exact .base (.ins (ne e) cl ha hn htk hm)
  | byt b => exact .byt b
  | set e => exact .set (ne e)
  | kList e c => exact .kList e c
  | kTuple e c => exact .kTuple e c
  | kDict e c => exact .kDict e c
  | fTuple e => exact .fTuple (ne e)
  | fDict e => exact .fDict (ne e)
theorem isi_res {ts cs : List Nat} {v : PV} {Q : VK} (P : OR G x F Z L r S σ (opV (.isi ts cs) [v]) Q) : isiOk v = true ∧ OR G x F Z L r S σ (oBl (ts.any (tyIs v) || cs.any (clIs v))) Q := by
  have P' : OR G x F Z L r S σ (if isiOk v then oBl (ts.any (tyIs v) || cs.any (clIs v)) else .bad 91) Q := P
  split at P'
  · rename_i h
    exact ⟨h, P'⟩
  · exact P'.elim
def boot_ty : ∀ n, n < 6 → bootBuiltins (Str.ofString (tyN n)) = some (.type (tyN n)) := fun n hn => by
  have : n = 0 ∨ n = 1 ∨ n = 2 ∨ n = 3 ∨ n = 4 ∨ n = 5 := by omega
  rcases this with rfl | rfl | rfl | rfl | rfl | rfl <;> (with_unfolding_all rfl)
theorem tyN_ok : ∀ n, n < 6 → (Str.ofString (tyN n) ≠ "__name__") ∧ ((Str.ofString (tyN n) == ("__debug__" : Str)) = false) := fun n hn => by
  have : n = 0 ∨ n = 1 ∨ n = 2 ∨ n = 3 ∨ n = 4 ∨ n = 5 := by omega
  rcases this with rfl | rfl | rfl | rfl | rfl | rfl <;> decide
theorem pe_ty {n : Nat} (hn : n < 6) {p : Pos} (hg : Gl X (Str.ofString (tyN n))) (hm : X.mg (Str.ofString (tyN n)) = none) : PE X (.Name (Str.ofString (tyN n)) p) (tC (.ty (tyN n))) :=
  pe_bltn hg hm (boot_ty n hn) rfl (tyN_ok n hn).1 (tyN_ok n hn).2
theorem tE_rd1 (gs : GS G T cx k) {o : Op} {Q : VK} (h : tE G x W (ev cx cm (.op o [ca])) σ H Q) : tE G x W (ev cx cm ca) σ H fun u H1 => r1 G x (fun v => opV o [v]) u H1 Q := rd1 (tE_op gs h)
/-- isinstance(a, T) -/
theorem pet_isi1 (gs : GS G T cx k) (hK : X.K = G.K) {n : Nat} (hn : n < 6) {p q r : Pos} (hi : Gl X "isinstance") (mi : X.mg "isinstance" = none) (hg : Gl X (Str.ofString (tyN n))) (hm : X.mg (Str.ofString (tyN n)) = none) (hs : notStar a = true) (ha : PE X a (tE G x W (ev cx cm ca))) :
    PET G x W X cx cm (.op (.isi [n] []) [ca]) (.Call (.Name "isinstance" p) [a, .Name (Str.ofString (tyN n)) r] [] q) := by
  refine pet_plain hK ((pe_callB call_isi hi mi (by with_unfolding_all rfl) (pa_cons ha (pa_cons (pe_ty hn hg hm) pa_nil) (star_cons hs _ _)) (by decide) (by decide) (star_cons hs _ _)).imp fun σ H Q w => ?_) rfl
  have w' := tE_rd1 gs w
  obtain ⟨F, Z, L, r, S, B, P⟩ := w'
  refine ⟨F, Z, L, r, S, B, P.imp (fun pv r1 S1 P1 Z1 L1 H1 u B1 V1 => ?_) fun _ _ _ _ E => E⟩
  obtain ⟨F2, Z2, L2, r2, S2, σ2, v, B2, T2, P2⟩ := P1 Z1 L1 H1 u B1 V1
  obtain ⟨h1, P3⟩ := isi_res P2
  obtain ⟨t, hty, k1, _⟩ := T2.ty gs.isi B2.h.zs h1
  refine ⟨u, .ty (tyN n), t, .type (tyN n), _, rfl, .ty _, by rw [hK]; exact hty, by rw [hK]; exact k1 n hn, ?_⟩
  have := P3.sh_bl B2
  rw [show ([n].any (tyIs v) || ([] : List Nat).any (clIs v)) = tyIs v n by simp] at this
  exact this
/-- isinstance(a, C), an own class -/
theorem pet_isiC (gs : GS G T cx k) (hK : X.K = G.K) (hmg : X.mg = G.mg) {c : Nat} {y : Str} {p q r : Pos} (hi : Gl X "isinstance") (mi : X.mg "isinstance" = none) (hg : Gl X y) (hc : T.cnm c = some y) (hy : nmOk y = true) (hs : notStar a = true) (ha : PE X a (tE G x W (ev cx cm ca))) :
    PET G x W X cx cm (.op (.isi [] [c]) [ca]) (.Call (.Name "isinstance" p) [a, .Name y r] [] q) := by
  obtain ⟨m1, f, fd, ps, j, m2, _⟩ := gs.mak c y hc
  have pc : PE X (.Name y r) (tC (.ref (G.Ca c))) := pe_glob (v := .ref (G.Ca c)) hg (by rw [hmg]; exact m1) rfl (nmOk_ hy).1
  refine pet_plain hK ((pe_callB call_isi hi mi (by with_unfolding_all rfl) (pa_cons ha (pa_cons pc pa_nil) (star_cons hs _ _)) (by decide) (by decide) (star_cons hs _ _)).imp fun σ H Q w => ?_) rfl
  have w' := tE_rd1 gs w
  obtain ⟨F, Z, L, r, S, B, P⟩ := w'
  refine ⟨F, Z, L, r, S, B, P.imp (fun pv r1 S1 P1 Z1 L1 H1 u B1 V1 => ?_) fun _ _ _ _ E => E⟩
  obtain ⟨F2, Z2, L2, r2, S2, σ2, v, B2, T2, P2⟩ := P1 Z1 L1 H1 u B1 V1
  obtain ⟨h1, P3⟩ := isi_res P2
  obtain ⟨t, hty, _, k2⟩ := T2.ty gs.isi B2.h.zs h1
  refine ⟨u, .ref (G.Ca c), t, .ref (G.Ca c), _, rfl, .own _, by rw [hK]; exact hty, by rw [hK]; exact (k2 c (by rw [m2]; rfl)).1, ?_⟩
  have := P3.sh_bl B2
  rw [show (([] : List Nat).any (tyIs v) || [c].any (clIs v)) = clIs v c by simp] at this
  exact this
theorem kitAny_tys {K : PySem.W.Frag} {t : Value} (h : ∀ n, n < 6 → PySem.W.kitOne K t (.type (tyN n)) = some (tyIs v n)) : ∀ (ns : List Nat), (∀ n ∈ ns, n < 6) → PySem.W.kitAny K t (ns.map fun n => Value.type (tyN n)) = some (ns.any (tyIs v))
  | [], _ => kitAny_nil
  | n :: ns, hn => by
    refine kitAny_cons (h n (hn n List.mem_cons_self)) (fun e => ?_) fun e => ?_
    · rw [kitAny_tys h ns fun m hm => hn m (List.mem_cons_of_mem _ hm), List.any_cons, e]; rfl
    · rw [List.any_cons, e]; rfl
theorem paired_ty : ∀ ns : List Nat, Paired ClsV (ns.map fun n => V.ty (tyN n)) (ns.map fun n => Value.type (tyN n))
  | [] => .nil
  | n :: ns => .cons (.ty _) (paired_ty ns)
/-- isinstance(a, (T, ..)) -/
theorem pet_isiT (gs : GS G T cx k) (hK : X.K = G.K) {ns : List Nat} {es : List Expr} (hn : ∀ n ∈ ns, n < 6) (hl : ns.length ≤ 10) {p q r : Pos} {j : Nat} (hi : Gl X "isinstance") (mi : X.mg "isinstance" = none)
    (hp : PA X es (fun _ H Q => Q (ns.map fun n => V.ty (tyN n)) H)) (hs : notStar a = true) (ha : PE X a (tE G x W (ev cx cm ca))) :
    PET G x W X cx cm (.op (.isi ns []) [ca]) (.Call (.Name "isinstance" p) [a, .Tuple es j r] [] q) := by
  refine pet_plain hK ((pe_callB call_isiT hi mi (by with_unfolding_all rfl) (pa_cons ha (pa_cons (pe_tup hp) pa_nil) (star_cons hs _ _)) (by decide) (by decide) (star_cons hs _ _)).imp fun σ H Q w => ?_) rfl
  have w' := tE_rd1 gs w
  obtain ⟨F, Z, L, r, S, B, P⟩ := w'
  refine ⟨F, Z, L, r, S, B, P.imp (fun pv r1 S1 P1 Z1 L1 H1 u B1 V1 => ?_) fun _ _ _ _ E => E⟩
  obtain ⟨F2, Z2, L2, r2, S2, σ2, v, B2, T2, P2⟩ := P1 Z1 L1 H1 u B1 V1
  obtain ⟨h1, P3⟩ := isi_res P2
  obtain ⟨t, hty, k1, _⟩ := T2.ty gs.isi B2.h.zs h1
  refine ⟨by rw [List.length_map]; rw [sizeLine_eq]; omega, fun tp htp => ⟨u, tp, _, t, _, _, rfl, upd_same, ?_, by rw [hK]; exact TyX.fresh htp hty, by rw [hK]; exact kitAny_tys k1 ns hn, ?_⟩⟩
  · exact paired_ty ns
  · have := P3.sh_bl (B2.alloc (o := .tup (ns.map fun n => V.ty (tyN n))) htp)
    rw [show (ns.any (tyIs v) || ([] : List Nat).any (clIs v)) = ns.any (tyIs v) by simp] at this
    exact this
/-! ### repr -/
theorem o_repr (hK : X.K = G.K) (hg : X.A.guards = some []) (hu : X.A.units + 60 < cLine) : CallR X (.builtin "repr") (r1c G x fun v => opV .repr [v]) := by
  intro pins s σ0 H xs us Q I rv ⟨w, e, F, Z, L, r, S, σ, a, B, Ta, P⟩
  subst e
  have P' : OR G x F Z L r S σ (if isD dD a && (toD a).showable && (reprS a).length ≤ big && PyData.strOk (reprS a) then .sh (.str (reprS a)) else .bad 49) Q := P
  split at P'
  · rename_i h
    simp only [Bool.and_eq_true, decide_eq_true_eq] at h
    obtain ⟨⟨⟨h1, h2⟩, h3⟩, h4⟩ := h
    obtain ⟨u, rfl, ru⟩ := vals1 rv
    obtain ⟨d1, d2, d3⟩ := Ta.dp B.h.zs h1
    have hsz : (toD a).shown.length ≤ sizeLine := Nat.le_trans h3 big_le
    have key := P'.sh_str B h4 hsz
    obtain ⟨as, rd⟩ := Dp.reads I (toD a) w u (by rw [hK]; exact d1) ru
    have hd : (toD a).depth ≤ 40 := d3
    have fin : ∀ h' tk u, (∀ b o, s.heap.get? b = some o → h'.get? b = some o) → EP X pins σ0 Q (.str (reprS a) u) { s with heap := h', toks := tk } := fun h' tk u hk => ⟨.str (reprS a), H, I.kept hk, ⟨_, rfl⟩, key⟩
    have fin2 : ∀ {y : Str}, y = reprS a → EP X pins σ0 Q (.str y s.toks) { s with toks := s.toks + 1 } := fun {y} e => by rw [e]; exact fin s.heap _ _ fun _ _ h => h
    cases a with
    | non => cases Ta.non; cases ru; exact PySem.P.repr_of_none (fin2 rfl)
    | bl b => cases Ta.bl; cases ru; exact PySem.P.repr_of_bool (fin2 rfl)
    | int i => cases Ta.int; obtain ⟨t, rfl⟩ := ru; exact PySem.P.repr_of_int (by simpa [toD, PyData.showable] using h2) (fin2 rfl)
    | str y => obtain ⟨rfl, _⟩ := Ta.str; obtain ⟨t, rfl⟩ := ru; exact PySem.P.repr_of_str (fin2 rfl) hsz
    | lst xs =>
      obtain ⟨b, vs, rfl, _⟩ := Ta.lst B.h.zs
      cases ru
      exact repr_of_reads' rd h2 (PyData.noDict_hsm (PyData.hasDict_of_canLay _ d2)) hg (by omega) (fun _ _ h => h) (fun h' u tk hk => fin h' tk u hk) hsz
    | tup xs =>
      obtain ⟨b, vs, rfl, _⟩ := Ta.tup
      cases ru
      exact repr_of_reads' rd h2 (PyData.noDict_hsm (PyData.hasDict_of_canLay _ d2)) hg (by omega) (fun _ _ h => h) (fun h' u tk hk => fin h' tk u hk) hsz
    | _ => simp [isD] at h1
  · exact P'.elim
/-! ### max, min of a list of ints -/
theorem isI_all : ∀ {xs : List PV}, xs.all isI = true → ∃ ns : List Int, xs = ns.map .int
  | [], _ => ⟨[], rfl⟩
  | x :: xs, h => by
    rw [List.all_cons, Bool.and_eq_true] at h
    obtain ⟨ns, rfl⟩ := isI_all h.2
    cases x with
    | int n => exact ⟨n :: ns, rfl⟩
    | _ => cases h.1
theorem reps_ints {Z : Hp} {L : List Addr} : ∀ {ns : List Int} {vs : List V}, Reps G Z L (ns.map .int) vs → vs = ns.map V.int
  | [], _, h => by cases h; rfl
  | n :: ns, _, h => by
    cases h with
    | cons h1 h2 => cases h1; rw [reps_ints h2]; rfl
theorem max_fold : ∀ (ns : List Int) (m : Int), ∃ M, (ns.map PV.int).foldl (fun m y => if pyLt m y then y else m) (.int m) = .int M ∧ (M = m ∨ M ∈ ns) ∧ m ≤ M ∧ ∀ y ∈ ns, y ≤ M
  | [], m => ⟨m, rfl, .inl rfl, Int.le_refl _, fun _ h => nomatch h⟩
  | n :: ns, m => by
    by_cases h : m < n
    · obtain ⟨M, h1, h2, h3, h4⟩ := max_fold ns n
      refine ⟨M, ?_, ?_, by omega, fun y hy => ?_⟩
      · rw [List.map_cons, List.foldl_cons, show pyLt (.int m) (.int n) = true by simp [pyLt, h], if_pos rfl]; exact h1
      · rcases h2 with rfl | h2
        · exact .inr List.mem_cons_self
        · exact .inr (List.mem_cons_of_mem _ h2)
      · rcases List.mem_cons.mp hy with rfl | hy
        · exact h3
        · exact h4 y hy
    · obtain ⟨M, h1, h2, h3, h4⟩ := max_fold ns m
      refine ⟨M, ?_, ?_, h3, fun y hy => ?_⟩
      · rw [List.map_cons, List.foldl_cons, show pyLt (.int m) (.int n) = false by simp [pyLt, h], if_neg (by decide)]; exact h1
      · rcases h2 with rfl | h2
        · exact .inl rfl
        · exact .inr (List.mem_cons_of_mem _ h2)
      · rcases List.mem_cons.mp hy with rfl | hy
        · omega
        · exact h4 y hy
theorem min_fold : ∀ (ns : List Int) (m : Int), ∃ M, (ns.map PV.int).foldl (fun m y => if pyLt y m then y else m) (.int m) = .int M ∧ (M = m ∨ M ∈ ns) ∧ M ≤ m ∧ ∀ y ∈ ns, M ≤ y
  | [], m => ⟨m, rfl, .inl rfl, Int.le_refl _, fun _ h => nomatch h⟩
  | n :: ns, m => by
    by_cases h : n < m
    · obtain ⟨M, h1, h2, h3, h4⟩ := min_fold ns n
      refine ⟨M, ?_, ?_, by omega, fun y hy => ?_⟩
      · rw [List.map_cons, List.foldl_cons, show pyLt (.int n) (.int m) = true by simp [pyLt, h], if_pos rfl]; exact h1
      · rcases h2 with rfl | h2
        · exact .inr List.mem_cons_self
        · exact .inr (List.mem_cons_of_mem _ h2)
      · rcases List.mem_cons.mp hy with rfl | hy
        · exact h3
        · exact h4 y hy
    · obtain ⟨M, h1, h2, h3, h4⟩ := min_fold ns m
      refine ⟨M, ?_, ?_, h3, fun y hy => ?_⟩
      · rw [List.map_cons, List.foldl_cons, show pyLt (.int n) (.int m) = false by simp [pyLt, h], if_neg (by decide)]; exact h1
      · rcases h2 with rfl | h2
        · exact .inl rfl
        · exact .inr (List.mem_cons_of_mem _ h2)
      · rcases List.mem_cons.mp hy with rfl | hy
        · omega
        · exact h4 y hy
/-! ### sum, all, any -/
theorem sumI_ints : ∀ ns : List Int, sumI (ns.map .int) = some ns.sum
  | [] => rfl
  | n :: ns => by
    show (sumI (ns.map .int)).map (n + ·) = _
    rw [sumI_ints ns]; simp
theorem o_sum1 (hK : X.K = G.K) (hc : X.calm = true) : CallR X (.builtin "sum") (r1c G x fun v => opV .sum1 [v]) := call_of (cr_sum hc) fun us H Q ⟨u, e, F, Z, L, r, S, σ, a, B, Ta, P⟩ => by
  subst e
  have P' : OR G x F Z L r S σ (sum1V a) Q := P
  unfold sum1V at P'
  cases a with
  | lst xs =>
    simp only at P'
    split at P'
    · rename_i h
      obtain ⟨ns, rfl⟩ := isI_all h
      obtain ⟨b, vs, rfl, h1, h2⟩ := Ta.lst B.h.zs
      have hv := reps_ints h2
      subst hv
      rw [sumI_ints] at P'
      exact ⟨b, ns, rfl, by rw [hK]; exact h1, P'.sh_int B⟩
    · exact P'.elim
  | _ => exact P'.elim
theorem isBl_all : ∀ {xs : List PV}, xs.all isBl = true → ∃ bs : List Bool, xs = bs.map .bl
  | [], _ => ⟨[], rfl⟩
  | x :: xs, h => by
    rw [List.all_cons, Bool.and_eq_true] at h
    obtain ⟨bs, rfl⟩ := isBl_all h.2
    cases x <;> simp [isBl] at h
    exact ⟨_ :: bs, rfl⟩
theorem reps_bls {Z : Hp} {L : List Addr} : ∀ {bs : List Bool} {vs : List V}, Reps G Z L (bs.map .bl) vs → vs = bs.map V.bl
  | [], _, h => by cases h; rfl
  | b :: bs, _, h => by
    cases h with
    | cons h1 h2 => cases h1; rw [reps_bls h2]; rfl
theorem all_bls : ∀ bs : List Bool, (bs.map PV.bl).all isTrue' = bs.all id
  | [] => rfl
  | b :: bs => by
    rw [List.map_cons, List.all_cons, List.all_cons, all_bls bs]; rfl
theorem any_bls : ∀ bs : List Bool, (bs.map PV.bl).any isTrue' = bs.any id
  | [] => rfl
  | b :: bs => by
    rw [List.map_cons, List.any_cons, List.any_cons, any_bls bs]; rfl
theorem o_all (hK : X.K = G.K) (hc : X.calm = true) : CallR X (.builtin "all") (r1c G x fun v => opV .all [v]) := call_of (cr_all hc) fun us H Q ⟨u, e, F, Z, L, r, S, σ, a, B, Ta, P⟩ => by
  subst e
  have P' : OR G x F Z L r S σ (allV a) Q := P
  unfold allV at P'
  cases a with
  | lst xs =>
    simp only at P'
    split at P'
    · rename_i h
      obtain ⟨bs, rfl⟩ := isBl_all h
      obtain ⟨b, vs, rfl, h1, h2⟩ := Ta.lst B.h.zs
      have hv := reps_bls h2
      subst hv
      rw [all_bls] at P'
      exact ⟨b, bs, rfl, by rw [hK]; exact h1, P'.sh_bl B⟩
    · exact P'.elim
  | _ => exact P'.elim
theorem o_any (hK : X.K = G.K) (hc : X.calm = true) : CallR X (.builtin "any") (r1c G x fun v => opV .any [v]) := call_of (cr_any hc) fun us H Q ⟨u, e, F, Z, L, r, S, σ, a, B, Ta, P⟩ => by
  subst e
  have P' : OR G x F Z L r S σ (anyV a) Q := P
  unfold anyV at P'
  cases a with
  | lst xs =>
    simp only at P'
    split at P'
    · rename_i h
      obtain ⟨bs, rfl⟩ := isBl_all h
      obtain ⟨b, vs, rfl, h1, h2⟩ := Ta.lst B.h.zs
      have hv := reps_bls h2
      subst hv
      rw [any_bls] at P'
      exact ⟨b, bs, rfl, by rw [hK]; exact h1, P'.sh_bl B⟩
    · exact P'.elim
  | _ => exact P'.elim
/-! ### list(range(..)) -/
theorem rgV_eq (a b : Int) : rgV a b = (List.range (b - a).toNat).map fun i => V.int (a + (i : Nat)) := rfl
theorem reps_rg {Z : Hp} {L : List Addr} (a b : Int) : Reps G Z L (rngL a 1 (b - a).toNat) (rgV a b) := by
  unfold rngL rgV
  generalize List.range (b - a).toNat = l
  induction l with
  | nil => exact .nil
  | cons i l ih => exact .cons (by dsimp only; rw [Int.mul_one]; exact .int _) ih
theorem pet_rng1 (gs : GS G T cx k) (hK : X.K = G.K) (hc : X.calm = true) {p q p2 q2 : Pos} (hg : Gl X "list") (hm : X.mg "list" = none) (hg2 : Gl X "range") (hm2 : X.mg "range" = none) (hs : notStar a = true) (ha : PE X a (tE G x W (ev cx cm ca))) :
    PET G x W X cx cm (.op .rng [ca]) (.Call (.Name "list" p) [.Call (.Name "range" p2) [a] [] q2] [] q) := by
  refine pet_plain hK ((pe_listRg hc hg hm (prg_1 hg2 hm2 ha (star_cons hs [] X.env))).imp fun σ H Q w => ?_) rfl
  obtain ⟨F, Z, L, r, S, B, P⟩ := tE_rd1 gs w
  refine ⟨F, Z, L, r, S, B, P.imp (fun pv r1 S1 P1 Z1 L1 H1 u B1 V1 => ?_) fun _ _ _ _ E => E⟩
  obtain ⟨F2, Z2, L2, r2, S2, σ2, v, B2, T2, P2⟩ := P1 Z1 L1 H1 u B1 V1
  have P3 : OR G x F2 Z2 L2 r2 S2 σ2 (match rngOf [v] with | some l => .fr (.lst l) | none => .bad 56) Q := P2
  cases v with
  | int n =>
    cases T2.int
    have e : rngOf [.int n] = if -8000000 < n && n < 8000000 then some (rngL 0 1 n.toNat) else none := rfl
    rw [e] at P3
    split at P3
    · rename_i l hl
      split at hl
      · rename_i hn
        cases hl
        simp only [Bool.and_eq_true, decide_eq_true_eq] at hn
        refine ⟨n, rfl, ⟨by rw [pow62]; omega, by rw [pow62]; omega, by rw [pow62]; omega, by rw [pow62]; omega, by omega⟩, fun q hq => ?_⟩
        have R := reps_rg (G := G) (Z := Z2) (L := L2) 0 n
        rw [Int.sub_zero] at R
        obtain ⟨B3, V3⟩ := B2.newL hq R
        exact P3 _ _ B3 V3
      · cases hl
    · exact P3.elim
  | _ => exact P3.elim
theorem pet_rng2 (gs : GS G T cx k) (hK : X.K = G.K) (hc : X.calm = true) {b : Expr} {cb : CE} {p q p2 q2 : Pos} (hg : Gl X "list") (hm : X.mg "list" = none) (hg2 : Gl X "range") (hm2 : X.mg "range" = none) (hs : notStar a = true) (hs2 : notStar b = true) (ha : PE X a (tE G x W (ev cx cm ca))) (hb : PE X b (tE G x W (ev cx cm cb))) :
    PET G x W X cx cm (.op .rng [ca, cb]) (.Call (.Name "list" p) [.Call (.Name "range" p2) [a, b] [] q2] [] q) := by
  refine pet_plain hK ((pe_listRg hc hg hm (prg_2 hg2 hm2 ha hb (star_cons hs [b] X.env) (star_cons hs2 [] X.env) (star_any fun e he => by cases he with | head => exact hs2 | tail _ h => cases h))).imp fun σ H Q w => ?_) rfl
  obtain ⟨F, Z, L, r, S, B, P⟩ := rd2 (tE_op gs w)
  refine ⟨F, Z, L, r, S, B, P.imp (fun pv r1 S1 P1 Z1 L1 H1 u B1 V1 => ?_) fun _ _ _ _ E => E⟩
  obtain ⟨F, Z, L, r, S, B, P⟩ := P1 Z1 L1 H1 u B1 V1
  refine ⟨F, Z, L, r, S, B, P.imp (fun pv r1 S1 P1 Z1 L1 H1 u2 B1 V1 => ?_) fun _ _ _ _ E => E⟩
  obtain ⟨F2, Z2, L2, r2, S2, σ2, v, w, B2, T2, T3, P2⟩ := P1 Z1 L1 H1 u2 B1 V1
  have P3 : OR G x F2 Z2 L2 r2 S2 σ2 (match rngOf [v, w] with | some l => .fr (.lst l) | none => .bad 56) Q := P2
  cases v with
  | int n =>
    cases w with
    | int m =>
      cases T2.int
      cases T3.int
      have e : rngOf [.int n, .int m] = if -8000000 < n && n < 8000000 && -8000000 < m && m < 8000000 then some (rngL n 1 (m - n).toNat) else none := rfl
      rw [e] at P3
      split at P3
      · rename_i l hl
        split at hl
        · rename_i hn
          cases hl
          simp only [Bool.and_eq_true, decide_eq_true_eq] at hn
          refine ⟨n, m, rfl, rfl, ⟨by rw [pow62]; omega, by rw [pow62]; omega, by rw [pow62]; omega, by rw [pow62]; omega, by omega⟩, fun q hq => ?_⟩
          obtain ⟨B3, V3⟩ := B2.newL hq (reps_rg (G := G) (Z := Z2) (L := L2) n m)
          exact P3 _ _ B3 V3
        · cases hl
      · exact P3.elim
    | _ => exact P3.elim
  | _ => exact P3.elim
/-! ### slices -/
theorem pet_sl0 (gs : GS G T cx k) (hK : X.K = G.K) (hsl : L2.SlR X (rS G x)) {p p2 : Pos} (ha : PE X a (tE G x W (ev cx cm ca))) : PET G x W X cx cm (.op (.slc false false false) [ca]) (.Subscript a (.Slice none none none p2) p) :=
  pet_plain hK ((pe_slice hsl ha po_none po_none).imp fun σ H Q w => tE_rd1 gs w) rfl
theorem tE_imp {m : Ev → Store → Out (PV × Md)} {Q Q' : VK} (h : tE G x W m σ H Q) (k : ∀ u H, Q u H → Q' u H) : tE G x W m σ H Q' := by
  obtain ⟨F, Z, L, r, S, B, P⟩ := h
  exact ⟨F, Z, L, r, S, B, P.imp (fun ps r1 S1 P1 Z1 L1 H1 us B1 V1 => k _ _ (P1 Z1 L1 H1 us B1 V1)) fun _ _ _ _ E => E⟩
theorem pet_sl1 (gs : GS G T cx k) (hK : X.K = G.K) (hsl : L2.SlR X (rS G x)) {b : Expr} {cb : CE} {p p2 : Pos} (ha : PE X a (tE G x W (ev cx cm ca))) (hb : PE X b (tE G x W (ev cx cm cb))) : PET G x W X cx cm (.op (.slc true false false) [ca, cb]) (.Subscript a (.Slice (some b) none none p2) p) :=
  pet_plain hK ((pe_slice hsl ha (po_some hb) po_none).imp fun σ H Q w => tE_imp (rd2 (tE_op gs w)) fun u H1 h => tE_imp h fun w H2 ⟨F2, Z2, L2, r2, S2, σ2, v, w', B2, T2, T3, P2⟩ => by
    cases w' with
    | int i => cases T3.int; exact ⟨i, rfl, F2, Z2, L2, r2, S2, σ2, v, B2, T2, P2⟩
    | _ => exact P2.elim) rfl
theorem pet_sl2 (gs : GS G T cx k) (hK : X.K = G.K) (hsl : L2.SlR X (rS G x)) {b : Expr} {cb : CE} {p p2 : Pos} (ha : PE X a (tE G x W (ev cx cm ca))) (hb : PE X b (tE G x W (ev cx cm cb))) : PET G x W X cx cm (.op (.slc false true false) [ca, cb]) (.Subscript a (.Slice none (some b) none p2) p) :=
  pet_plain hK ((pe_slice hsl ha po_none (po_some hb)).imp fun σ H Q w => tE_imp (rd2 (tE_op gs w)) fun u H1 h => tE_imp h fun w H2 ⟨F2, Z2, L2, r2, S2, σ2, v, w', B2, T2, T3, P2⟩ => by
    cases w' with
    | int i => cases T3.int; exact ⟨i, rfl, F2, Z2, L2, r2, S2, σ2, v, B2, T2, P2⟩
    | _ => exact P2.elim) rfl
def r3 (G : Gm) (x : Exi) (f : PV → PV → PV → ORes) (u w z : V) (H : Hp) (Q : VK) : Prop := ∃ F Z L r S σ a b c, BRel G x F Z L r S σ H ∧ TopR G Z L H a u ∧ TopR G Z L H b w ∧ TopR G Z L H c z ∧ OR G x F Z L r S σ (f a b c) Q
theorem rd3 {o : Op} {a b c : CE} {σ : L2.St} {H : Hp} {Q : VK} (h : tE G x W (opM cx cm o [a, b, c]) σ H Q) : tE G x W (ev cx cm a) σ H fun u H1 => tE G x W (ev cx cm b) σ H1 fun w H2 => tE G x W (ev cx cm c) σ H2 fun z H3 => r3 G x (fun u w z => opV o [u, w, z]) u w z H3 Q := by
  obtain ⟨F, Z, L, r, S, B, P⟩ := h
  unfold opM rdB evr at P
  rw [post_bind, post_bind, post_bind] at P
  refine ⟨F.at Z L, Z, L, r, S, B.here, P.imp (fun p r1 S1 P1 Z1 L1 H1 u B1 V1 => ?_) fun c vs r1 S1 E => E.at_ B.z0 B.l0⟩
  obtain ⟨Z2, s2, B2, V2⟩ := B1.read V1
  have B3 := B2.back B.z0 B.l0
  unfold evr at P1
  rw [post_bind, post_bind] at P1
  refine ⟨F.at Z2 L1, Z2, L1, r1, S1, B3.here, P1.imp (fun q r4 S4 P4 Z4 L4 H4 w B4 V4 => ?_) fun c vs r1 S1 E => E.at_ B3.z0 B3.l0⟩
  obtain ⟨Z5, s5, B5, V5⟩ := B4.read V4
  have B6 := B5.back B3.z0 B3.l0
  unfold evr at P4
  rw [post_bind, post_bind] at P4
  refine ⟨F.at Z5 L4, Z5, L4, r4, S4, B6.here, P4.imp (fun q2 r7 S7 P7 Z7 L7 H7 z B7 V7 => ?_) fun c vs r1 S1 E => E.at_ B6.z0 B6.l0⟩
  obtain ⟨Z8, s8, B8, V8⟩ := B7.read V7
  have B9 := B8.back B6.z0 B6.l0
  unfold evr at P7
  have P2 : Post (match resA r7 [p, q, q2] with | some vs => Out.ok vs r7 S7 | none => .bad 82) _ _ := P7
  cases e : resA r7 [p, q, q2] with
  | none => rw [e] at P2; exact P2.elim
  | some vs =>
    rw [e] at P2
    have T := (B9.resolveA (.cons ((V2.up B5.z0 B5.l0).up B8.z0 B8.l0) (.cons (V5.up B8.z0 B8.l0) (.cons V8 .nil))) e)
    cases T with
    | cons t ts =>
      cases ts with
      | cons t2 ts =>
        cases ts with
        | cons t3 ts =>
          cases ts
          exact ⟨F, Z8, L7, r7, S7, σ, _, _, _, B9, t.view B9.h, t2.view B9.h, t3.view B9.h, OR.of P2⟩
theorem pe_slice3 {te tb tc : TE} {b c : Expr} {p p2 : Pos} {r : V → Option Int → Option Int → Hp → VK → Prop} (hr : L2.SlR X r) (he : PE X a te) (hl : PE X b tb) (hu : PE X c tc) : PE X (.Subscript a (.Slice (some b) (some c) none p2) p)
    (fun σ H Q => te σ H fun x H1 => tb σ H1 fun l H2 => tc σ H2 fun u H3 => ∃ i j, l = .int i ∧ u = .int j ∧ r x (some i) (some j) H3 Q) := by
  refine ⟨fun pins s σ H Q I h => ?_⟩
  refine Subscript_ (thn (he.run pins s σ H _ I h) fun v s1 ⟨x, H1, I1, r1, q1⟩ => ?_)
  refine wpAny_Slice ?_
  rw [evalPart_some]
  refine thn (hl.run pins s1 σ H1 _ I1 q1) fun vl s2 ⟨l, H2, I2, pl, q2⟩ => ?_
  rw [evalPart_some]
  refine thn (hu.run pins s2 σ H2 _ I2 q2) fun vu s3 ⟨u, H3, I3, pu, q3⟩ => ?_
  obtain ⟨i, j, rfl, rfl, q3⟩ := q3
  obtain ⟨tl, rfl⟩ := pl
  obtain ⟨tu, rfl⟩ := pu
  rw [evalPart_none]
  refine wpAny_pure ?_
  have I4 : Inv X pins σ H3 { s3 with heap := s3.heap.push { cls := .type "slice", data := .fields #[.int i tl, .int j tu, .none] } } := I3.kept (t' := s3.toks) fun b ob q => Heap.get?_push_of_some _ q
  obtain ⟨T, id, hT, ht, hg⟩ := hr pins { s3 with heap := s3.heap.push { cls := .type "slice", data := .fields #[.int i tl, .int j tu, .none] } } σ H3 x v _ _ _ _ s3.heap.objs.size Q I4 r1 (Heap.IsSliceOf.new ..) (.int i tl) (.int j tu) q3
  show wpAny (model X.prog X.w) X.A (subscriptTail a (.Slice (some b) (some c) none p2) v (.ref s3.heap.objs.size)) (EP X pins σ Q) X.xe { s3 with heap := s3.heap.push { cls := .type "slice", data := .fields #[.int i tl, .int j tu, .none] } }
  exact tail_any (ops := [.ref s3.heap.objs.size, v]) ht hT hg (by with_unfolding_all rfl)
theorem pet_sl3 (gs : GS G T cx k) (hK : X.K = G.K) (hsl : L2.SlR X (rS G x)) {b c : Expr} {cb cc : CE} {p p2 : Pos} (ha : PE X a (tE G x W (ev cx cm ca))) (hb : PE X b (tE G x W (ev cx cm cb))) (hc : PE X c (tE G x W (ev cx cm cc))) : PET G x W X cx cm (.op (.slc true true false) [ca, cb, cc]) (.Subscript a (.Slice (some b) (some c) none p2) p) :=
  pet_plain hK ((pe_slice3 hsl ha hb hc).imp fun σ H Q w => tE_imp (rd3 (tE_op gs w)) fun u H1 h => tE_imp h fun us H1 h2 => tE_imp h2 fun w H2 ⟨F2, Z2, L2, r2, S2, σ2, v, w', z', B2, T2, T3, T4, P2⟩ => by
      cases w' with
      | int j =>
        cases T3.int
        cases z' with
        | int k => cases T4.int; exact ⟨j, k, rfl, rfl, F2, Z2, L2, r2, S2, σ2, v, B2, T2, P2⟩
        | _ => exact P2.elim
      | _ => exact P2.elim) rfl
end
end Ci
/-! a list, a tuple times an int -/
namespace PySem.CiLib
open PySem PySem.AutoSeq1 PySem.AutoListH
theorem list_mul_any (l : Addr) (items : Array Value) (n : Nat) (sl : Array (Option Value)) (x : Int) (u : Tok) (hc0 : ¬(!Builtin.List.listFitsIndex x) = true) (hc1 : ¬items.size * x.toNat > (2 ^ 63 - 1) / 8) (hc2 : ¬Builtin.List.listTooLong (items.size * x.toNat) = true) :
    Meets (Builtin.«list.__mul__» ⟨[.ref l, .int x u], []⟩) (fun _ R s => s.heap.get? l = some { cls := .type "list", dict := none, data := .seq items n, slots := sl } ∧ R (.ok (.ret (Value.ref s.heap.objs.size))) { s with heap := s.heap.push { cls := Value.type "list", data := Data.seq (List.foldl (fun x1 x2 => x1 ++ x2) #[] (List.replicate (if items.isEmpty = true then 0 else x.toNat) items)) }, toks := s.toks }) :=
  .of_wp fun prog w A R s h => by
    obtain ⟨hp, g, d, tk, os⟩ := s; obtain ⟨hl, h⟩ := h
    have hsz := joined_fits hc2
    wp_walk using wpAny_loadPart' hl; refine wpAny_ite_false (decide_eq_false (Nat.not_lt.mpr hsz)) ?_; wp_walk using wpAny_loadPart' hl; exact ⟨_, rfl, h⟩
theorem int_rmul_any (a : Int) (t : Tok) (l : Addr) (items : Array Value) (n : Nat) (sl : Array (Option Value)) :
    Meets (Builtin.«int.__rmul__» ⟨[.int a t, .ref l], []⟩) (fun _ R s => s.heap.get? l = some { cls := .type "list", dict := none, data := .seq items n, slots := sl } ∧ R (.ok (.ret Value.notImplemented)) s) :=
  .of_wp fun prog w A R s h => by obtain ⟨hp, g, d, tk, os⟩ := s; obtain ⟨hl, h⟩ := h; wp_walk using wpAny_loadPart' hl; exact ⟨_, rfl, h⟩
end PySem.CiLib
namespace Ci
open PySem L2 PyProof.Rows
section
variable {G : Gm} {x : Exi} {X : Cx} {Z : Hp} {L : List Addr}
theorem Reps.repl {xs : List PV} {vs : List V} (h : Reps G Z L xs vs) : ∀ n, Reps G Z L (List.replicate n xs).flatten (List.replicate n vs).flatten
  | 0 => .nil
  | n + 1 => by
    rw [List.replicate_succ, List.replicate_succ, List.flatten_cons, List.flatten_cons]
    exact h.append (Reps.repl h n)
theorem o_rep (hK : X.K = G.K) : OpR X (binaryOp .Mult) (r2 G x repV) := by
  intro pins s σ0 H u w v v' Q I ru rw' ⟨F, Z, L, r, S, σ, a, b, B, Ta, Tb, P⟩
  unfold repV at P
  split at P
  · split at P
    · rename_i xs j hb
      obtain ⟨p, vs, rfl, h1, h2⟩ := Ta.lst B.h.zs
      cases Tb.int
      cases ru
      obtain ⟨t, rfl⟩ := rw'
      rw [← hK] at h1
      obtain ⟨its, rv, ⟨o, n, ho, hc, hd, hs⟩, hz⟩ := I.list h1
      obtain ⟨c, dd, data, sl⟩ := o
      simp only at hc hd hs
      subst hc hd hs
      unfold repOk at hb
      simp only [Bool.and_eq_true, decide_eq_true_eq] at hb
      obtain ⟨⟨b1, b2⟩, b3⟩ := hb
      have e1 := h2.length
      have e3 := rv.length
      have hlen : its.toArray.size * j.toNat ≤ sizeLine := by
        rw [List.size_toArray, ← e3, ← e1]; exact Nat.le_trans b1 big_le
      have hcap : ¬ its.toArray.size * j.toNat > (2 ^ 63 - 1) / 8 := by
        have : (sizeLine : Nat) ≤ (2 ^ 63 - 1) / 8 := by decide
        omega
      have hfit : ¬ (!Builtin.List.listFitsIndex j) = true := by
        rw [fitsIndex_both (by omega) (by omega)]
        exact Bool.false_ne_true
      have hlong : ¬ Builtin.List.listTooLong (its.toArray.size * j.toNat) = true := by
        rw [notLongL hlen]
        exact Bool.false_ne_true
      have hnew : List.foldl (fun x1 x2 => x1 ++ x2) #[] (List.replicate (if its.toArray.isEmpty = true then 0 else j.toNat) its.toArray) = (List.replicate j.toNat its).flatten.toArray := by
        have f0 : ∀ m : Nat, List.foldl (fun x1 x2 => x1 ++ x2) #[] (List.replicate m its.toArray) = (List.replicate m its).flatten.toArray := fun m => by
          have := foldl_rep its m []
          rw [List.nil_append] at this
          exact this
        rw [f0]
        cases its with
        | nil => simp
        | cons a r' => rw [if_neg (by simp)]
      refine wpAny_binaryOp_repeat_ref (T := "list") (U := "int") (by decide) ⟨_, ho, rfl⟩ (fun s' => typeIs_int s' j t) noFill_list_mul PySem.F.fills_int_mul PySem.F.slot_int_rmul repeat_list PySem.F.slot_int_index.lookup
        (call_meets PySem.F.slot_int_rmul (typeIs_int s j t) PySem.F.entry_int_rmul (PySem.F.args_int_rmul_2 _ _) (PySem.CiLib.int_rmul_any j t p its.toArray n sl)
          ⟨ho, rfl, ⟨_, ho, rfl⟩, call_meets PySem.F.slot_list_mul ⟨_, ho, rfl⟩ PySem.F.entry_list_mul (PySem.F.args_list_mul_2 _ _) (PySem.CiLib.list_mul_any p its.toArray n sl j t hfit hcap hlong) ⟨ho, ?_⟩⟩)
      rw [hnew]
      obtain ⟨B', V'⟩ := B.newL I.fresh (Reps.repl h2 j.toNat)
      refine ⟨.ref _, _, I.lnew (t' := s.toks) (rv.rep j.toNat) ?_, rfl, P _ _ B' V'⟩
      rw [PyProof.Rows.lm_len_rep_flat, Nat.mul_comm, ← e1]
      exact Nat.le_trans b1 big_le
    · exact P.elim
  · split at P
    · rename_i xs j hb
      obtain ⟨p, vs, rfl, h1, h2⟩ := Ta.tup
      cases Tb.int
      simp only [Bool.and_eq_true, decide_eq_true_eq, Bool.not_eq_true'] at hb
      obtain ⟨⟨⟨b1, b2⟩, b3⟩, b4⟩ := hb
      have e1 := h2.length
      refine op_repT pins s σ0 H _ _ v v' Q I ru rw' ⟨p, j, vs, rfl, rfl, by rw [hK]; exact SqT.up B.h.zs h1, fun e => ?_, b1, b2, by omega, fun p' hp => ?_⟩
      · subst e
        cases h2
        cases b3
      · obtain ⟨B', R'⟩ := B.newT hp (Reps.repl h2 j.toNat)
        exact P _ _ _ (same_upd (B.free hp).1) B' R'
    · exact P.elim
  · exact P.elim
end
end Ci
namespace Ci
open PySem L2
/-- built-ins by name: the number of arguments -/
def callN : Op → Option (Str × Nat)
  | .len => some ("len", 1)
  | .abs => some ("abs", 1)
  | .min1 => some ("min", 1)
  | .max1 => some ("max", 1)
  | .min2 => some ("min", 2)
  | .max2 => some ("max", 2)
  | .list => some ("list", 1)
  | .tuple => some ("tuple", 1)
  | .int => some ("int", 1)
  | .repr => some ("repr", 1)
  | .sum1 => some ("sum", 1)
  | .all => some ("all", 1)
  | .any => some ("any", 1)
  | .sorted => some ("sorted", 1)
  | _ => none
def isiTy (sc : Scope) : List Nat → List Expr → Bool
  | [], [] => true
  | n :: ns, e :: es => decide (n < 6) && (match vName e with | some y => y == Str.ofString (tyN n) && glK sc y | none => false) && isiTy sc ns es
  | _, _ => false
def isiCk (sc : Scope) (ts cs : List Nat) (y : Str) (t : Expr) : Bool := y == "isinstance" && glK sc y && cs.isEmpty && ts.length ≤ 10 && (match vTup t with
  | some es => isiTy sc ts es
  | none => ts.length == 1 && isiTy sc ts [t])
def opSp (sc : Scope) (o : Op) (e : Expr) : Option (List Expr) := match o with
  | .neg => match vUn e with
    | some (.USub, a) => some [a]
    | _ => none
  | .isN => match vCmp1 e with
    | some (a, .Is, b) => if vConst b = some .none then some [a] else none
    | _ => none
  | .ntN => match vCmp1 e with
    | some (a, .IsNot, b) => if vConst b = some .none then some [a] else none
    | _ => none
  | .idx => match vSub e with
    | some (a, b) => if notSlice b then some [a, b] else none
    | none => none
  | .slc p q r => match vSub e with
    | some (a, s) => match vSlice s with
      | some (l, u, none) => if p == l.isSome && q == u.isSome && !r then some (a :: (l.toList ++ u.toList)) else none
      | _ => none
    | none => none
  | .isi ts cs => match vCallN e with
    | some (y, [a, t]) => if isiCk sc ts cs y t then some [a] else none
    | _ => none
  | .rng => match vCallN e with
    | some (y, [c]) => match vCallN c with
      | some (z, as) => if y == "list" && glK sc y && z == "range" && glK sc z && (as.length == 1 || as.length == 2) then some as else none
      | none => none
    | _ => none
  | _ => none
def opAr (sc : Scope) (o : Op) (e : Expr) : Option (List Expr) := match binOf o with
  | some op => match vBin e with
    | some (a, op', b) => if op = op' then some [a, b] else none
    | none => none
  | none => match cmpOf o with
    | some op => match vCmp1 e with
      | some (a, op', b) => if op = op' ∧ notSet b = true then some [a, b] else none
      | none => none
    | none => match callN o with
      | some (n, m) => match vCallN e with
        | some (y, as) => if y = n ∧ glK sc y = true ∧ as.length = m then some as else none
        | none => none
      | none => opSp sc o e
section
variable {G : Gm} {x : Exi} {W : WX} {X : Cx} {cx : Cxt} {cm : Bool} {N : List Str} {k : Nat} {sc : Scope} {T : Tx} {e : Expr} {as : List Expr} {es : List CE} {o : Op}
theorem binR (hK : X.K = G.K) {bop : Operator} (h : binOf o = some bop) : OpR X (binaryOp bop) (r2 G x fun v w => opV o [v, w]) := by
  cases o <;> simp [binOf] at h <;> subst h
  · exact o_add hK
  · exact o_sub hK
  · exact o_mul hK
  · exact o_rep hK
  · exact o_fdiv hK
  · exact o_mod hK
  · exact o_pow hK
theorem cmpR (hK : X.K = G.K) (hr : X.A.units + 200 < cLine) {bop : CmpOp} (h : cmpOf o = some bop) : OpR X (compareOp bop) (r2 G x fun v w => opV o [v, w]) := by
  have h1 : X.A.units + 64 < cLine := by omega
  have h2 : X.A.units + 65 < cLine := by omega
  cases o <;> simp [cmpOf] at h <;> subst h
  · exact o_cmpI hK op_lt
  · exact o_cmpI hK op_le
  · exact o_cmpI hK op_gt
  · exact o_cmpI hK op_ge
  · exact o_eq hK h1
  · exact o_ne hK h1
  · exact o_in hK h2 false
  · exact o_in hK h2 true
theorem cmpI_bl {f : Int → Int → Bool} (v w y : PV) (h : cmpI f v w = .sh y ∨ cmpI f v w = .fr y) : ∃ b, y = .bl b := by
  unfold cmpI oBl at h
  split at h
  · rcases h with h | h <;> cases h; exact ⟨_, rfl⟩
  · rcases h with h | h <;> cases h
theorem cmpBl {bop : CmpOp} (h : cmpOf o = some bop) (v w y : PV) (hq : opV o [v, w] = .sh y ∨ opV o [v, w] = .fr y) : ∃ b, y = .bl b := by
  cases o <;> simp [cmpOf] at h
  · exact cmpI_bl _ _ _ hq
  · exact cmpI_bl _ _ _ hq
  · exact cmpI_bl _ _ _ hq
  · exact cmpI_bl _ _ _ hq
  · have hq : eqO v w = .sh y ∨ eqO v w = .fr y := hq
    unfold eqO oBl at hq
    split at hq <;> rcases hq with h | h <;> cases h; exact ⟨_, rfl⟩
  · have hq : neO v w = .sh y ∨ neO v w = .fr y := hq
    unfold neO oBl at hq
    split at hq <;> rcases hq with h | h <;> cases h; exact ⟨_, rfl⟩
  · have hq : inV false v w = .sh y ∨ inV false v w = .fr y := hq
    unfold inV oBl at hq
    (repeat' split at hq) <;> rcases hq with h | h <;> first | (cases h; done) | (cases h; exact ⟨_, rfl⟩)
  · have hq : inV true v w = .sh y ∨ inV true v w = .fr y := hq
    unfold inV oBl at hq
    (repeat' split at hq) <;> rcases hq with h | h <;> first | (cases h; done) | (cases h; exact ⟨_, rfl⟩)
theorem o_listS (hK : X.K = G.K) : CallR X (.type "list") (r1c G x fun v => opV .list [v]) := call_of (o_list hK) fun us H Q ⟨u, e, F, Z, L, r, S, σ, a, B, Ta, P⟩ => by
  refine ⟨u, e, F, Z, L, r, S, σ, a, B, Ta, ?_⟩
  have P' : OR G x F Z L r S σ (listV a) Q := P
  unfold listV at P'
  split at P'
  · rename_i xs q; dsimp only; rw [q]; exact P'
  · exact P'.elim
theorem o_intS (hK : X.K = G.K) : CallR X (.type "int") (r1c G x fun v => opV .int [v]) := call_of (o_intI hK) fun us H Q ⟨u, e, F, Z, L, r, S, σ, a, B, Ta, P⟩ => by
  refine ⟨u, e, F, Z, L, r, S, σ, a, B, Ta, ?_⟩
  have P' : OR G x F Z L r S σ (intV a) Q := P
  unfold intV at P'
  split at P'
  · exact P'
  · exact P'
  · split at P'
    · split at P'
      · rename_i h; simp [lstOn] at h
      · exact P'.elim
    · exact P'.elim
  · exact P'.elim
theorem bad1 {o : Op} {n : Str} (ho : callN o = some (n, 1)) (vs : List PV) (h : vs.length ≠ 1) : ∃ w, opV o vs = .bad w := by
  match vs, h with
  | [], _ => cases o <;> simp [callN] at ho <;> exact ⟨_, rfl⟩
  | [_], h => exact absurd rfl h
  | [a, b], _ => cases o <;> simp [callN] at ho <;> exact ⟨_, rfl⟩
  | _ :: _ :: _ :: _, _ => cases o <;> simp [callN] at ho <;> exact ⟨_, rfl⟩
theorem bad2 {o : Op} {n : Str} (ho : callN o = some (n, 2)) (vs : List PV) (h : vs.length ≠ 2) : ∃ w, opV o vs = .bad w := by
  match vs, h with
  | [], _ => cases o <;> simp [callN] at ho <;> exact ⟨_, rfl⟩
  | [_], _ => cases o <;> simp [callN] at ho <;> exact ⟨_, rfl⟩
  | [a, b], h => exact absurd rfl h
  | _ :: _ :: _ :: _, _ => cases o <;> simp [callN] at ho <;> exact ⟨_, rfl⟩
def calmOp : Op → Bool
  | .min1 => true
  | .max1 => true
  | .min2 => true
  | .max2 => true
  | .rng => true
  | .sum1 => true
  | .all => true
  | .any => true
  | _ => false
theorem pet_opC (gs : GS G T cx k) (gx : GX0 G N sc W X) (hcm : calmOp o = true → X.calm = true) {y : Str} {m : Nat} {p q : Pos} (ho : callN o = some (y, m)) (hg : glK sc y = true) (hm : as.length = m) (hl : as.length = es.length) (hst : ∀ a ∈ as, notStar a = true)
    (hp : ∀ (i : Nat) (a : Expr) (c : CE), as[i]? = some a → es[i]? = some c → PE X a (tE G x W (ev cx cm c))) : PET G x W X cx cm (.op o es) (.Call (.Name y p) as [] q) := by
  have ha := callPA (G := G) (x := x) (W := W) (cm := cm) hst hl hp
  have hg' := gx.gl y hg
  have b0 : ∀ z, z ∈ bnames → X.mg z = none := fun z hz => by rw [gx.mg]; exact gs.blt z hz
  have hu : X.A.units + 60 < cLine := by have := gx.un; omega
  have hu4 : X.A.units + 64 < cLine := by have := gx.un; omega
  cases as with
  | nil => cases o <;> simp [callN] at ho <;> (obtain ⟨_, rfl⟩ := ho; cases hm)
  | cons a as =>
    cases o <;> simp [callN] at ho <;> obtain ⟨rfl, rfl⟩ := ho
    · exact pet_callB (f := fun _ => .bad 0) gs gx.K (rN1 (o_len gx.K) (bad1 rfl)) hg' (b0 _ (by decide)) (by with_unfolding_all rfl) hst ha (by decide) (by decide)
    · exact pet_callB (f := fun _ => .bad 0) gs gx.K (rN1 (o_abs gx.K) (bad1 rfl)) hg' (b0 _ (by decide)) (by with_unfolding_all rfl) hst ha (by decide) (by decide)
    · exact pet_callB (f := fun _ => .bad 0) gs gx.K (rN1 (o_min1 gx.K (hcm rfl) hu4) (bad1 rfl)) hg' (b0 _ (by decide)) (by with_unfolding_all rfl) hst ha (by decide) (by decide)
    · exact pet_callB (f := fun _ => .bad 0) gs gx.K (rN1 (o_max1 gx.K (hcm rfl) hu4) (bad1 rfl)) hg' (b0 _ (by decide)) (by with_unfolding_all rfl) hst ha (by decide) (by decide)
    · exact pet_callB (f := fun _ => .bad 0) gs gx.K (rN2 (o_min2 gx.K (hcm rfl)) (bad2 rfl)) hg' (b0 _ (by decide)) (by with_unfolding_all rfl) hst ha (by decide) (by decide)
    · exact pet_callB (f := fun _ => .bad 0) gs gx.K (rN2 (o_max2 gx.K (hcm rfl)) (bad2 rfl)) hg' (b0 _ (by decide)) (by with_unfolding_all rfl) hst ha (by decide) (by decide)
    · exact pet_callB (f := fun _ => .bad 0) gs gx.K (rN1 (o_sum1 gx.K (hcm rfl)) (bad1 rfl)) hg' (b0 _ (by decide)) (by with_unfolding_all rfl) hst ha (by decide) (by decide)
    · exact pet_callB (f := fun _ => .bad 0) gs gx.K (rN1 (o_sorted gx.K hu4) (bad1 rfl)) hg' (b0 _ (by decide)) (by with_unfolding_all rfl) hst ha (by decide) (by decide)
    · exact pet_callTy gs gx.K (rN1 (o_listS gx.K) (bad1 rfl)) hg' (b0 _ (by decide)) (by with_unfolding_all rfl) hst ha (by decide) (by decide)
    · exact pet_callTy gs gx.K (rN1 (o_tuple gx.K) (bad1 rfl)) hg' (b0 _ (by decide)) (by with_unfolding_all rfl) hst ha (by decide) (by decide)
    · exact pet_callTy gs gx.K (rN1 (o_intS gx.K) (bad1 rfl)) hg' (b0 _ (by decide)) (by with_unfolding_all rfl) hst ha (by decide) (by decide)
    · exact pet_callB (f := fun _ => .bad 0) gs gx.K (rN1 (o_repr gx.K gx.grd hu) (bad1 rfl)) hg' (b0 _ (by decide)) (by with_unfolding_all rfl) hst ha (by decide) (by decide)
    · exact pet_callB (f := fun _ => .bad 0) gs gx.K (rN1 (o_all gx.K (hcm rfl)) (bad1 rfl)) hg' (b0 _ (by decide)) (by with_unfolding_all rfl) hst ha (by decide) (by decide)
    · exact pet_callB (f := fun _ => .bad 0) gs gx.K (rN1 (o_any gx.K (hcm rfl)) (bad1 rfl)) hg' (b0 _ (by decide)) (by with_unfolding_all rfl) hst ha (by decide) (by decide)
theorem isi_pa (gs : GS G T cx k) (gx : GX0 G N sc W X) : ∀ {ns : List Nat} {es : List Expr}, isiTy sc ns es = true → (∀ n ∈ ns, n < 6) ∧ PA X es (fun _ H Q => Q (ns.map fun n => V.ty (tyN n)) H)
  | [], [], _ => ⟨fun _ h => (nomatch h), pa_nil⟩
  | n :: ns, e :: es, h => by
    unfold isiTy at h
    simp only [Bool.and_eq_true, decide_eq_true_eq] at h
    obtain ⟨⟨h1, h2⟩, h3⟩ := h
    obtain ⟨k1, k2⟩ := isi_pa gs gx h3
    split at h2
    · rename_i y hy
      obtain ⟨p, rfl⟩ := vName_ hy
      simp only [Bool.and_eq_true] at h2
      have e : y = Str.ofString (tyN n) := by simpa using h2.1
      subst e
      have hm : X.mg (Str.ofString (tyN n)) = none := by
        rw [gx.mg]
        refine gs.blt _ ?_
        have : n = 0 ∨ n = 1 ∨ n = 2 ∨ n = 3 ∨ n = 4 ∨ n = 5 := by omega
        rcases this with rfl | rfl | rfl | rfl | rfl | rfl <;> decide
      refine ⟨fun m hm => ?_, (pa_cons (pe_ty h1 (gx.gl _ h2.2) hm) k2 (star_cons rfl _ _)).imp fun σ H Q w => w⟩
      rcases List.mem_cons.mp hm with rfl | hm
      · exact h1
      · exact k1 m hm
    · cases h2
  | [], _ :: _, h => by unfold isiTy at h; cases h
  | _ :: _, [], h => by unfold isiTy at h; cases h
theorem two_of {α : Type} {l : List α} (h : l.length = 2) : ∃ a b, l = [a, b] := by
  match l, h with
  | [a, b], _ => exact ⟨a, b, rfl⟩
theorem one_of {α : Type} {l : List α} (h : l.length = 1) : ∃ a, l = [a] := by
  match l, h with
  | [a], _ => exact ⟨a, rfl⟩
theorem three_of {α : Type} {l : List α} (h : l.length = 3) : ∃ a b c, l = [a, b, c] := by
  match l, h with
  | [a, b, c], _ => exact ⟨a, b, c, rfl⟩
theorem unS {a : Expr} {ca : CE} (gs : GS G T cx k) (hK : X.K = G.K) {uo : UnaryOp} {p : Pos} (h : UnR X (unaryOp uo) (r1 G x fun v => opV o [v])) (hn : plainT (.UnaryOp uo a p) = true) (ha : PE X a (tE G x W (ev cx cm ca))) : PET G x W X cx cm (.op o [ca]) (.UnaryOp uo a p) :=
  pet_plain hK ((pe_un h ha).imp fun σ H Q w => tE_rd1 gs w) hn
theorem op1_bl {ca : CE} {o : Op} {g : PV → Bool} (ho : ∀ v, opV o [v] = oBl (g v)) (r : Ev) (S : Store) (p : PV × Md) (r' : Ev) (S' : Store) (e : opM cx cm o [ca] r S = .ok p r' S') : ∃ b, p.1 = .bl b := by
  unfold opM at e
  cases q : rdB (evr cx cm [ca] r S) with
  | bad w => rw [q] at e; cases e
  | exc c vs r S => rw [q] at e; cases e
  | ok vs r1 S1 =>
    rw [q] at e
    have e' : ofO (opRun S1 o vs) r1 S1 = .ok p r' S' := e
    have hv : ∃ v, vs = [v] := by
      unfold rdB evr evr at q
      cases q1 : ev cx cm ca r S with
      | bad w => rw [q1] at q; cases q
      | exc c vs r S => rw [q1] at q; cases q
      | ok p1 r2 S2 =>
        rw [q1] at q
        simp only [Out.bind] at q
        unfold resA resA at q
        split at q
        · rename_i ws hw
          split at hw
          · cases hw; cases q; exact ⟨_, rfl⟩
          · cases hw
        · cases q
    obtain ⟨v, rfl⟩ := hv
    unfold opRun at e'
    rw [List.map_cons, List.map_nil, ho] at e'
    cases e'
    exact ⟨_, rfl⟩
/-- x is None -/
theorem pet_isN (gs : GS G T cx k) (hK : X.K = G.K) {cop : CmpOp} {a : Expr} {ca : CE} {g : PV → Bool} {j : Nat} {p q : Pos} (ho : ∀ v, opV o [v] = oBl (g v)) (h : OpR X (compareOp cop) (fun u w H Q => w = .non ∧ r1 G x (fun v => oBl (g v)) u H Q)) (hb : ∀ b, notSet b = true → behindInMarks cop b = false)
    (ha : PE X a (tE G x W (ev cx cm ca))) : PET G x W X cx cm (.op o [ca]) (.Compare a [cop] [.Constant .none j q] p) := by
  have f : (fun v => opV o [v]) = fun v => oBl (g v) := funext ho
  refine ⟨(pe_cmpR h ha pe_non (hb _ rfl)).imp fun σ H Q w => ?_, fun _ => (pt_cmpR h ha pe_non (hb _ rfl)).imp fun σ H Q w => ?_, fun hb => by cases hb⟩
  · have w' := tE_rd1 gs w
    rw [f] at w'
    exact tE_imp w' fun u H1 z => ⟨rfl, z⟩
  · have w' := rd1 (tT_of (tT_op gs w) fun r S p r' S' e => op1_bl ho r S p r' S' e)
    rw [f] at w'
    exact tE_imp w' fun u H1 z => ⟨rfl, z⟩
theorem pet_op (gs : GS G T cx k) (gx : GX0 G N sc W X) (hcm : calmOp o = true → X.calm = true) (ho : opAr sc o e = some as) (hl : as.length = es.length) (hst : ∀ a ∈ as, notStar a = true)
    (hp : ∀ (i : Nat) (a : Expr) (c : CE), as[i]? = some a → es[i]? = some c → PE X a (tE G x W (ev cx cm c))) : PET G x W X cx cm (.op o es) e := by
  have b0 : ∀ z, z ∈ bnames → X.mg z = none := fun z hz => by rw [gx.mg]; exact gs.blt z hz
  unfold opAr at ho
  split at ho
  · rename_i bop hb
    split at ho
    · rename_i a op' b hv
      split at ho
      · rename_i e1
        subst e1
        cases ho
        obtain ⟨p, rfl⟩ := vBin_ hv
        obtain ⟨ca, cb, rfl⟩ := two_of hl.symm
        exact pet_bin gs gx.K (binR gx.K hb) (hp 0 _ _ rfl rfl) (hp 1 _ _ rfl rfl)
      · cases ho
    · cases ho
  · split at ho
    · rename_i bop hb
      split at ho
      · rename_i a op' b hv
        split at ho
        · rename_i e1
          obtain ⟨e1, e2⟩ := e1
          subst e1
          cases ho
          obtain ⟨p, rfl⟩ := vCmp1_ hv
          obtain ⟨ca, cb, rfl⟩ := two_of hl.symm
          exact pet_cmp gs gx.K (cmpR gx.K gx.un hb) (cmpBl hb) e2 (hp 0 _ _ rfl rfl) (hp 1 _ _ rfl rfl)
        · cases ho
      · cases ho
    · split at ho
      · rename_i n m hb
        split at ho
        · rename_i y as' hv
          split at ho
          · rename_i e1
            obtain ⟨e1, e2, e3⟩ := e1
            subst e1
            cases ho
            obtain ⟨p, q, rfl⟩ := vCallN_ hv
            exact pet_opC gs gx hcm hb e2 e3 hl hst hp
          · cases ho
        · cases ho
      · unfold opSp at ho
        split at ho
        · -- neg
          split at ho
          · rename_i a hv
            cases ho
            obtain ⟨p, rfl⟩ := vUn_ hv
            obtain ⟨ca, rfl⟩ := one_of hl.symm
            exact unS gs gx.K (o_neg gx.K) rfl (hp 0 _ _ rfl rfl)
          · cases ho
        · split at ho
          · rename_i a b hv
            split at ho
            · rename_i hn
              cases ho
              obtain ⟨p, rfl⟩ := vCmp1_ hv
              obtain ⟨j, q, rfl⟩ := vConst_ hn
              obtain ⟨ca, rfl⟩ := one_of hl.symm
              exact pet_isN gs gx.K (fun v => rfl) (o_isN gx.K) (fun b hb => mark_ok hb) (hp 0 _ _ rfl rfl)
            · cases ho
          · cases ho
        · split at ho
          · rename_i a b hv
            split at ho
            · rename_i hn
              cases ho
              obtain ⟨p, rfl⟩ := vCmp1_ hv
              obtain ⟨j, q, rfl⟩ := vConst_ hn
              obtain ⟨ca, rfl⟩ := one_of hl.symm
              exact pet_isN gs gx.K (fun v => rfl) (o_ntN gx.K) (fun b hb => mark_ok hb) (hp 0 _ _ rfl rfl)
            · cases ho
          · cases ho
        · split at ho
          · rename_i a b hv
            split at ho
            · rename_i hn
              cases ho
              obtain ⟨p, rfl⟩ := vSub_ hv
              obtain ⟨ca, cb, rfl⟩ := two_of hl.symm
              exact pet_plain gx.K ((pe_ix (o_idx gx.K) (hp 0 _ _ rfl rfl) (hp 1 _ _ rfl rfl) (plainIx_ok hn)).imp fun σ H Q w => rd2 (tE_op gs w)) rfl
            · cases ho
          · cases ho
        · rename_i p q r
          split at ho
          · rename_i a s hv
            split at ho
            · rename_i l u hs
              split at ho
              · rename_i hc
                simp only [Bool.and_eq_true, Bool.not_eq_true', beq_iff_eq] at hc
                obtain ⟨⟨c1, c2⟩, c3⟩ := hc
                subst c1 c2 c3
                cases ho
                obtain ⟨ps, rfl⟩ := vSub_ hv
                obtain ⟨ps2, rfl⟩ := vSlice_ hs
                cases l with
                | none =>
                  cases u with
                  | none =>
                    obtain ⟨ca, rfl⟩ := one_of hl.symm
                    exact pet_sl0 gs gx.K (o_slc gx.K) (hp 0 _ _ rfl rfl)
                  | some u =>
                    obtain ⟨ca, cb, rfl⟩ := two_of hl.symm
                    exact pet_sl2 gs gx.K (o_slc gx.K) (hp 0 _ _ rfl rfl) (hp 1 _ _ rfl rfl)
                | some l =>
                  cases u with
                  | none =>
                    obtain ⟨ca, cb, rfl⟩ := two_of hl.symm
                    exact pet_sl1 gs gx.K (o_slc gx.K) (hp 0 _ _ rfl rfl) (hp 1 _ _ rfl rfl)
                  | some u =>
                    obtain ⟨ca, cb, cc, rfl⟩ := three_of hl.symm
                    exact pet_sl3 gs gx.K (o_slc gx.K) (hp 0 _ _ rfl rfl) (hp 1 _ _ rfl rfl) (hp 2 _ _ rfl rfl)
              · cases ho
            · cases ho
          · cases ho
        · -- isinstance
          rename_i ts cs
          split at ho
          · rename_i y a t hv
            split at ho
            · rename_i hc
              unfold isiCk at hc
              simp only [Bool.and_eq_true, beq_iff_eq, decide_eq_true_eq, List.isEmpty_iff] at hc
              obtain ⟨⟨⟨⟨c1, c2⟩, c3⟩, c4⟩, c5⟩ := hc
              subst c1 c3
              cases ho
              obtain ⟨p, q, rfl⟩ := vCallN_ hv
              obtain ⟨ca, rfl⟩ := one_of hl.symm
              split at c5
              · rename_i es ht
                obtain ⟨j, r, rfl⟩ := vTup_ ht
                obtain ⟨k1, k2⟩ := isi_pa gs gx c5
                exact pet_isiT gs gx.K k1 c4 (gx.gl _ c2) (b0 _ (by decide)) k2 (hst _ List.mem_cons_self) (hp 0 _ _ rfl rfl)
              · simp only [Bool.and_eq_true, beq_iff_eq] at c5
                obtain ⟨d1, d2⟩ := c5
                obtain ⟨n, rfl⟩ := one_of d1
                unfold isiTy isiTy at d2
                simp only [Bool.and_eq_true, decide_eq_true_eq, Bool.and_true] at d2
                obtain ⟨d2, d3⟩ := d2
                split at d3
                · rename_i y hy
                  obtain ⟨r, rfl⟩ := vName_ hy
                  simp only [Bool.and_eq_true] at d3
                  have e : y = Str.ofString (tyN n) := by simpa using d3.1
                  subst e
                  have hm : X.mg (Str.ofString (tyN n)) = none := by
                    refine b0 _ ?_
                    have : n = 0 ∨ n = 1 ∨ n = 2 ∨ n = 3 ∨ n = 4 ∨ n = 5 := by omega
                    rcases this with rfl | rfl | rfl | rfl | rfl | rfl <;> decide
                  exact pet_isi1 gs gx.K d2 (gx.gl _ c2) (b0 _ (by decide)) (gx.gl _ d3.2) hm (hst _ List.mem_cons_self) (hp 0 _ _ rfl rfl)
                · cases d3
            · cases ho
          · cases ho
        · -- list(range(..))
          split at ho
          · rename_i y c hv
            split at ho
            · rename_i z as' hv2
              split at ho
              · rename_i hc
                simp only [Bool.and_eq_true, Bool.or_eq_true, beq_iff_eq] at hc
                obtain ⟨⟨⟨⟨c1, c2⟩, c3⟩, c4⟩, c5⟩ := hc
                subst c1 c3
                cases ho
                obtain ⟨p, q, rfl⟩ := vCallN_ hv
                obtain ⟨p2, q2, rfl⟩ := vCallN_ hv2
                rcases c5 with c5 | c5
                · obtain ⟨a, rfl⟩ := one_of c5
                  obtain ⟨ca, rfl⟩ := one_of hl.symm
                  exact pet_rng1 gs gx.K (hcm rfl) (gx.gl _ c2) (b0 _ (by decide)) (gx.gl _ c4) (b0 _ (by decide)) (hst _ List.mem_cons_self) (hp 0 _ _ rfl rfl)
                · obtain ⟨a, b, rfl⟩ := two_of c5
                  obtain ⟨ca, cb, rfl⟩ := two_of hl.symm
                  exact pet_rng2 gs gx.K (hcm rfl) (gx.gl _ c2) (b0 _ (by decide)) (gx.gl _ c4) (b0 _ (by decide)) (hst _ List.mem_cons_self) (hst _ (List.mem_cons_of_mem _ List.mem_cons_self)) (hp 0 _ _ rfl rfl) (hp 1 _ _ rfl rfl)
              · cases ho
            · cases ho
          · cases ho
        · cases ho
end
end Ci
/-! the store's new places, forgotten -/
namespace Ci
open PySem L2 PyProof.Rows
section
variable {G : Gm} {Z : Hp} {L : List Addr} {n : Nat}
mutual
theorem Rep.trim : ∀ {x : PV} {v : V}, Rep G Z L x v → locB n x = true → Rep G Z (L.take n) x v
  | _, _, .non, _ => .non
  | _, _, .bl b, _ => .bl b
  | _, _, .int i, _ => .int i
  | _, _, .str x h1 h2, _ => .str x h1 h2
  | _, _, .tup h r, q => .tup h (Reps.trim r (by unfold locB at q; exact q))
  | _, _, .lst h r, q => .lst h (Reps.trim r (by unfold locB at q; exact q))
  | _, _, .dct h r, q => .dct h (RepE.trim r (by unfold locB at q; exact q))
  | _, _, .loc h, q => .loc (by
      unfold locB at q
      rw [List.getElem?_take_of_lt (by simpa using q)]; exact h)
  | _, _, .obj h o r, q => .obj h o (RepF.trim r (by unfold locB at q; exact q))
  | _, _, .fn h, _ => .fn h
theorem Reps.trim : ∀ {xs : List PV} {vs : List V}, Reps G Z L xs vs → locBs n xs = true → Reps G Z (L.take n) xs vs
  | _, _, .nil, _ => .nil
  | _, _, .cons r t, q => by
    unfold locBs at q
    rw [Bool.and_eq_true] at q
    exact .cons (Rep.trim r q.1) (Reps.trim t q.2)
theorem RepF.trim : ∀ {xs : List (Nat × PV)} {vs : List (Str × V)}, RepF G Z L xs vs → locBf n xs = true → RepF G Z (L.take n) xs vs
  | _, _, .nil, _ => .nil
  | _, _, .cons h r t, q => by
    unfold locBf at q
    rw [Bool.and_eq_true] at q
    exact .cons h (Rep.trim r q.1) (RepF.trim t q.2)
theorem RepE.trim : ∀ {xs : List (PV × PV)} {vs : List DictEntry}, RepE G Z L xs vs → locBk n xs = true → RepE G Z (L.take n) xs vs
  | _, _, .nil, _ => .nil
  | _, _, .cons r1 h1 r2 h2 hh t, q => by
    unfold locBk at q
    rw [Bool.and_eq_true, Bool.and_eq_true] at q
    exact .cons (Rep.trim r1 q.1) h1 (Rep.trim r2 q.2.1) h2 hh (RepE.trim t q.2.2)
end
theorem OwnAt.trim {H : Hp} {a : Addr} {x : PV} (h : OwnAt G Z L H a x) (q : locB n x = true) : OwnAt G Z (L.take n) H a x := by
  unfold locB at q
  cases x with
  | lst xs => obtain ⟨vs, h1, h2⟩ := h; exact ⟨vs, h1, h2.trim q⟩
  | dct xs => obtain ⟨vs, h1, h2⟩ := h; exact ⟨vs, h1, h2.trim q⟩
  | obj c fs => obtain ⟨dx, vs, h1, h0, h2⟩ := h; exact ⟨dx, vs, h1, h0, h2.trim q⟩
  | _ => exact h.elim
theorem locB_pv {c : Cell} (h : cellB n c = true) : locB n c.pv = true := by
  cases c <;> (unfold cellB at h; unfold Cell.pv locB; exact h)
variable {F : Frm} {S : Store} {H : Hp}
/-- places of the store are dropped -/
theorem HRel.cut (h : HRel G F Z L S H) (hn : F.L0.length ≤ n) (hc : (S.take n).all (cellB n) = true) : HRel G F Z (L.take n) (S.take n) H := by
  refine ⟨h.z0, ?_, h.zs, h.fs, by rw [List.length_take, List.length_take, h.ln], h.nd.sublist (List.take_sublist _ _), fun m c e => ?_, fun a ha => h.lz a (List.mem_of_mem_take ha), h.zf⟩
  · exact List.prefix_take_iff.mpr ⟨h.l0, hn⟩
  · have hm : m < n := by
      have := (List.getElem?_eq_some_iff.mp e).1
      rw [List.length_take] at this; omega
    rw [List.getElem?_take_of_lt hm] at e
    obtain ⟨a, h1, h2⟩ := h.ce m c e
    refine ⟨a, by rw [List.getElem?_take_of_lt hm]; exact h1, h2.trim (locB_pv ?_)⟩
    exact List.all_eq_true.mp hc c (List.mem_of_getElem? (i := m) (by rw [List.getElem?_take_of_lt hm]; exact e))
end
end Ci
/-! classes: fields, methods, making; defs as values -/
namespace Ci
open PySem L2 PyProof.Rows
section
variable {X : Cx} {W : WX} {m x : Str} {p pos apos : Pos} {e o : Expr} {es : List Expr} {ta : TE} {t : TA}
theorem few_okA {pos : Pos} {env : Env} : ∀ {as : List Expr}, (∀ e ∈ as, notStar e = true) → (backTo pos (starEach as env)).all (fun x => !x.1) = true
  | [], _ => rfl
  | e :: es, h => by
    rw [star_cons (h e List.mem_cons_self)]
    show (true && (backTo pos (starEach es env)).all fun x => !x.1) = true
    rw [few_okA fun e' he => h e' (List.mem_cons_of_mem _ he)]; rfl
/-- how a call of a method stands in the model, on one line -/
theorem meth_form {o : Expr} {m : Str} {as : List Expr} {apos pos : Pos} {env : Env} (ho : notSuper o = true) (hs : ∀ e ∈ as, notStar e = true) (hl : (apos.endLine == pos.line) = true) (hn : as.length < 30) :
    eval (.Call (.Attribute o m apos) as [] pos) env = (do
      let ov ← eval o env
      standAt apos.atName
      let (f, first) ← holding [ov] (getMethod ov m (plainOf o env))
      callWith pos f first (backTo pos (starEach as env)) (backToKw pos (keywordEach [] env))) := by
  have hf : methodCallForm as.length (backTo pos (starEach as env)) [] = true := by
    unfold methodCallForm
    rw [few_okA hs]
    simp; omega
  have e1 : eval (.Call (.Attribute o m apos) as [] pos) env = (do
      let ov ← attributeBase o m env (eval o env)
      standAt apos.atName
      methodCall o m apos pos env ov as.length (backTo pos (starEach as env)) []) := by
    conv => lhs; unfold eval
    rfl
  rw [e1, base_ok ho]
  simp only [mcall_line hf hl]
  rfl
/-- a def that is found while it runs -/
def CalG (X : Cx) (k : Nat) (f : Addr) (sp : Sp) : Prop := ∃ fd ps, FnG X.prog X.w X.K X.mg X.base k f fd ps sp ∧ Binds X.K fd ps []
/-- o.m(..), the class found while it runs -/
def tMethG (X : Cx) (k : Nat) (W : WX) (m : Str) (ta : TE) (t : TA) : TE := fun σ H Q => ta σ H fun x H1 => ∃ a C dx fs f sp, x = .ref a ∧ H1 a = some (.ins C dx fs) ∧ Cls X.K C ∧ Meth X.K C m f ∧ fs.lookup m = none ∧ CalG X k f sp ∧
  t σ H1 fun vs H2 => sp (x :: vs) H2 Q (WE W σ)
theorem pe_methG {k : Nat} (he : PE X o ta) (hr : Room k X.A) (hg : X.A.guards = some []) (tk : Takes X W) (ha : PA X (e :: es) t) (ho : notSuper o = true) (hs : ∀ e' ∈ e :: es, notStar e' = true) (hl : (apos.endLine == pos.line) = true) (hn : (e :: es).length < 30) :
    PE X (.Call (.Attribute o m apos) (e :: es) [] pos) (tMethG X k W m ta t) := by
  refine ⟨fun pins s σ H Q I h => ?_⟩
  refine PySem.W.methodCall_KW (pl := plainOf o X.env) (thn (he.run pins s σ H _ I h) fun u s1 ⟨x, H1, I1, rx, a, C, dx, fs, f, sp, ex, ea, c, hm, l, ⟨fd, ps, F, b⟩, q⟩ => ?_) (meth_form ho hs hl hn)
  subst ex
  obtain rfl : u = Value.ref a := rx
  refine getmeth_ok I1 ea c hm l ?_
  refine PySem.W.callWith_K (first := [.ref a]) (h₀ := X.base) I1.ok.mod.kin hm.kp (thn (ha.run pos pins s1 σ H1 _ I1 q) fun us s2 ⟨vs, H2, I2, r, q2⟩ => ⟨I2.kIn, ?_⟩) (star_cons (hs e List.mem_cons_self) es X.env) (star_any fun e' he => hs e' (List.mem_cons_of_mem _ he))
  exact run_G (us := .ref a :: us) (vs := .ref a :: vs) F hr hg b tk I2 (.cons rfl r) q2
theorem pe_methG0 {k : Nat} (he : PE X o ta) (hr : Room k X.A) (hg : X.A.guards = some []) (tk : Takes X W) (ho : notSuper o = true) (hl : (apos.endLine == pos.line) = true) :
    PE X (.Call (.Attribute o m apos) [] [] pos) (tMethG X k W m ta tNil) := by
  refine ⟨fun pins s σ H Q I h => ?_⟩
  refine PySem.W.methodCall_KW (pl := plainOf o X.env) (thn (he.run pins s σ H _ I h) fun u s1 ⟨x, H1, I1, rx, a, C, dx, fs, f, sp, ex, ea, c, hm, l, ⟨fd, ps, F, b⟩, q⟩ => ?_) (meth_form ho (fun _ h => nomatch h) hl (by decide))
  subst ex
  obtain rfl : u = Value.ref a := rx
  refine getmeth_ok I1 ea c hm l ?_
  exact PySem.W.callWith_K0 (first := [.ref a]) I1.kIn hm.kp (run_G (us := [.ref a]) (vs := [.ref a]) F hr hg b tk I1 (.cons rfl .nil) q)
/-- a name's value, called -/
def tCalG (X : Cx) (k : Nat) (i : Nat) (W : WX) (t : TA) : TE := fun σ H Q => ∃ f sp, σ[i]? = some (some (.ref f)) ∧ CalG X k f sp ∧ PySem.W.keepIn X.K (.ref f) = true ∧ t σ H fun vs H1 => sp vs H1 Q (WE W σ)
theorem pe_calG {k i : Nat} (hr : Room k X.A) (hg : X.A.guards = some []) (tk : Takes X W) (hN : X.N[i]? = some x) (hv : Vis X.env.scope x) (hn : nmOk x = true) (ha : PA X (e :: es) t) (hs : ∀ e' ∈ e :: es, notStar e' = true) :
    PE X (.Call (.Name x p) (e :: es) [] pos) (tCalG X k i W t) := by
  refine ⟨fun pins s σ H Q I ⟨f, sp, h1, ⟨fd, ps, F, b⟩, kp, h2⟩ => ?_⟩
  refine wpAny_Call_Name_kw (thn ((pe_var (pos := p) hN hv (nmOk_ hn).1 (nmOk_ hn).2).run pins s σ H (fun v H1 => v = .ref f ∧ H1 = H) I ⟨.ref f, h1, rfl, rfl⟩) fun u s1 ⟨v, H1, I1, r1, q1⟩ => ?_)
  obtain ⟨rfl, rfl⟩ := q1
  cases r1
  refine PySem.W.callWith_K (h₀ := X.base) I.ok.mod.kin kp (thn (ha.run pos pins s1 σ _ _ I1 h2) fun us s2 ⟨vs, H2, I2, r, q⟩ => ⟨I2.kIn, ?_⟩) (star_cons (hs e List.mem_cons_self) es X.env) (star_any fun e' he => hs e' (List.mem_cons_of_mem _ he))
  exact run_G F hr hg b tk I2 r q
/-! ### making -/
theorem under_guards {A : Around} {C : Addr} {us : List Value} {kw : List (Str × Value)} (h : A.guards = some []) : (A.under (.builtin "type.__call__" ⟨.ref C :: us, kw⟩)).guards = some [] := by
  first
    | exact h
    | (simp [Around.under]; exact h)
    | (unfold Around.under; simpa using h)
/-- C(..) -/
def tMkG (C : Addr) (sp : Sp) (W : WX) (t : TA) : TE := fun σ H Q => t σ H fun vs H1 => ∀ x dx, H1 x = none → H1 dx = none → dx ≠ x →
  sp (.ref x :: vs) (upd (upd H1 dx (.own x)) x (.ins C dx [])) (fun v H2 => v = .non ∧ Q (.ref x) H2) (WE W σ)
theorem run_mkG {k : Nat} {f C : Addr} {fd : FuncData} {ps : List Str} {sp : Sp} {pins : List (Addr × Obj)} {σ : L2.St} {H : Hp} {s : Shared} {Q : VK} {us : List Value} {vs : List V} (M : Mk X.K C f) (F : FnG X.prog X.w X.K X.mg X.base k f fd ps sp) (hr : Room (k + 1) X.A) (hg : X.A.guards = some []) (hb : Binds X.K fd ps [])
    (tk : Takes X W) (I : Inv X pins σ H s) (r : Vals vs us) (h : ∀ x dx, H x = none → H dx = none → dx ≠ x → sp (.ref x :: vs) (upd (upd H dx (.own x)) x (.ins C dx [])) (fun v H2 => v = .non ∧ Q (.ref x) H2) (WE W σ)) :
    wpAny (model X.prog X.w) X.A (call (.ref C) us) (EP X pins σ Q) X.xe s := by
  have hq := h (s.heap.objs.size + 1) s.heap.objs.size (I.hok.fresh (Nat.le_succ _)) (I.hok.fresh (Nat.le_refl _)) (Nat.ne_of_lt (Nat.lt_succ_self _))
  have I2 := Inv.made (C := C) I
  have r2 : Vals (V.ref (s.heap.objs.size + 1) :: vs) (Value.ref (s.heap.objs.size + 1) :: us) := .cons rfl r
  have hl : (Value.ref (s.heap.objs.size + 1) :: us ++ []).length = ps.length := by
    have e := r2.length
    rw [F.len _ _ _ _ hq] at e
    rw [List.append_nil]; exact e.symm
  have hbb := hb _ (Value.ref (s.heap.objs.size + 1) :: us) I2.kIn hl
  rw [List.append_nil] at hbb
  refine wpAny_call (make_map (f := f) I.kIn M.makes M.init (beq_iff_eq.mp M.fn) (codeAny_mono (F.run _ X.stack _ _ ⟨Value.ref (s.heap.objs.size + 1) :: us, []⟩ (Value.ref (s.heap.objs.size + 1) :: us) _ _ (WE W σ) (hr.make C us []) (under_guards hg)
    (I2.env0.make C us []) hbb r2 hq) fun r s' hq' => ?_))
  cases r with
  | error e => exact passAt tk σ pins _ _ e s' I2 hq'
  | ok fl =>
    cases fl with
    | ret u =>
      obtain ⟨v, H', I3, rv, ev, q3⟩ := I2.after hq'
      subst ev
      exact ⟨rv, ⟨V.ref (s.heap.objs.size + 1), H', I3, rfl, q3⟩⟩
    | next => exact False.elim hq'
    | brk => exact False.elim hq'
    | cont => exact False.elim hq'
theorem pe_mkG {k : Nat} {f C : Addr} {fd : FuncData} {ps : List Str} {sp : Sp} (M : Mk X.K C f) (F : FnG X.prog X.w X.K X.mg X.base k f fd ps sp) (hr : Room (k + 1) X.A) (hg : X.A.guards = some []) (hb : Binds X.K fd ps []) (tk : Takes X W) (hgl : Gl X x) (hm : X.mg x = some (.ref C)) (hn : nmOk x = true)
    (ha : PA X (e :: es) t) (hs : ∀ e' ∈ e :: es, notStar e' = true) : PE X (.Call (.Name x p) (e :: es) [] pos) (tMkG C sp W t) := by
  refine ⟨fun pins s σ H Q I h => ?_⟩
  refine wpAny_Call_Name_kw (ld_glob I hgl hm ?_ (nmOk_ hn).1)
  refine PySem.W.callWith_K (h₀ := X.base) I.ok.mod.kin M.kp (thn (ha.run pos pins s σ H _ I h) fun us s1 ⟨vs, H1, I1, r, q⟩ => ⟨I1.kIn, ?_⟩) (star_cons (hs e List.mem_cons_self) es X.env) (star_any fun e' he => hs e' (List.mem_cons_of_mem _ he))
  exact run_mkG M F hr hg hb tk I1 r q
theorem pe_mkG0 {k : Nat} {f C : Addr} {fd : FuncData} {ps : List Str} {sp : Sp} (M : Mk X.K C f) (F : FnG X.prog X.w X.K X.mg X.base k f fd ps sp) (hr : Room (k + 1) X.A) (hg : X.A.guards = some []) (hb : Binds X.K fd ps []) (tk : Takes X W) (hgl : Gl X x) (hm : X.mg x = some (.ref C)) (hn : nmOk x = true) : PE X (.Call (.Name x p) [] [] pos) (tMkG C sp W tNil) := by
  refine ⟨fun pins s σ H Q I h => ?_⟩
  refine wpAny_Call_Name_kw (ld_glob I hgl hm ?_ (nmOk_ hn).1)
  exact PySem.W.callWith_K0 I.kIn M.kp (run_mkG (us := []) M F hr hg hb tk I .nil h)
end
end Ci
namespace Ci
open PySem L2 PyProof.Rows
section
variable {G : Gm} {x : Exi} {W : WX} {X : Cx} {cx : Cxt} {cm : Bool} {N : List Str} {k : Nat} {sc : Scope} {T : Tx} {es : List Expr} {ces : List CE} {o : Expr} {co : CE}
theorem look_mem {β : Type} {a : Nat} {b : β} : ∀ {l : List (Nat × β)}, l.lookup a = some b → (a, b) ∈ l
  | [], h => by simp at h
  | (c, d) :: l, h => by
    rw [List.lookup_cons] at h
    cases e : a == c with
    | true =>
      rw [e] at h
      cases h
      have : a = c := by simpa using e
      subst this
      exact List.mem_cons_self
    | false =>
      rw [e] at h
      exact List.mem_cons_of_mem _ (look_mem h)
/-- o.f -/
theorem tE_fld (gs : GS G T cx k) (hK : X.K = G.K) {f : Nat} {m : Str} (hm : G.nms[f]? = some m) {σ : L2.St} {H : Hp} {Q : VK} (h : tE G x W (ev cx cm (.op (.fld f) [co])) σ H Q) : tFld X.K (tE G x W (ev cx cm co)) m σ H Q := by
  refine tE_imp (tE_rd1 gs h) fun u H1 ⟨F, Z, L, r, S, σ1, a, B, t, P⟩ => ?_
  have fl : f < G.nms.length := (List.getElem?_eq_some_iff.mp hm).1
  have e : G.nm f = m := by
    unfold Gm.nm
    rw [List.getD_eq_getElem?_getD, hm]; rfl
  have P1 : OR G x F Z L r S σ1 (fldV f a) Q := P
  cases a with
  | obj c fs =>
    obtain ⟨a, dx, vfs, e1, e2, ⟨o1, o2⟩, e3⟩ := t.obj B.h.zs
    unfold fldV at P1
    dsimp only at P1
    cases q : fget fs f with
    | none => rw [q] at P1; exact P1.elim
    | some v =>
      rw [q] at P1
      obtain ⟨v', q1, q2⟩ := e3.get gs.nd fl q
      have hf : f ∈ G.P.cf c := by
        have q' : fs.lookup f = some v := q
        exact o2 (f, v) (look_mem q')
      obtain ⟨c1, c2⟩ := gs.cls c o1
      rw [e] at q1
      refine ⟨a, G.Ca c, dx, vfs, v', e1, e2, by rw [hK]; exact c1, by rw [hK, ← e]; exact (c2 f hf).2, q1, P1 Z _ v' (Same.refl _) B q2⟩
  | _ => exact P1.elim
theorem pet_fld (gs : GS G T cx k) (hK : X.K = G.K) {f : Nat} {m : Str} {pos : Pos} (hm : G.nms[f]? = some m) (ho : notSuper o = true) (he : PE X o (tE G x W (ev cx cm co))) : PET G x W X cx cm (.op (.fld f) [co]) (.Attribute o m pos) :=
  pet_plain hK ((pe_fld he (base_ok ho)).imp fun σ H Q w => tE_fld gs hK hm w) rfl
/-- o.m(..) -/
theorem tE_meth (gs : GS G T cx k) (gx : GX G N k sc W X) {m : Nat} {nm : Str} (hm : G.nms[m]? = some nm) {σ : L2.St} {H : Hp} {Q : VK} (h : tE G x W (ev cx cm (.meth m co ces)) σ H Q) :
    tMethG X k W nm (tEe G x W fun r S => escB cm (ev cx cm co r S)) (tAe G x W (evs cx cm ces)) σ H Q := by
  obtain ⟨F, Z, L, r, S, B, P⟩ := h
  unfold ev at P
  rw [post_bind] at P
  have ml : m < G.nms.length := (List.getElem?_eq_some_iff.mp hm).1
  have em : G.nm m = nm := by
    unfold Gm.nm
    rw [List.getD_eq_getElem?_getD, hm]; rfl
  refine ⟨F.at Z L, Z, L, r, S, B.here, P.imp (fun v r1 S1 P1 Z1 L1 H1 u B1 R1 => ?_) fun c vs r1 S1 E => E.at_ B.z0 B.l0⟩
  have B2 := B1.back B.z0 B.l0
  have t : TopR G Z1 L1 H1 (view S1 v) u := TopR.view B2.h (.inl R1)
  split at P1
  · rename_i c fs hv
    rw [hv] at t
    obtain ⟨a, dx, vfs, e1, e2, ⟨o1, o2⟩, e3⟩ := t.obj B2.h.zs
    rw [gs.P] at P1
    split at P1
    · rename_i f hf
      obtain ⟨m1, m2, m3, fd, ps, m4, m5⟩ := gs.mth c m f o1 hf
      obtain ⟨c1, _⟩ := gs.cls c o1
      have ln : vfs.lookup nm = none := by
        refine RepF.none e3 fun g hg q => ?_
        obtain ⟨p, hp, rfl⟩ := List.mem_map.mp hg
        have hgm : p.1 ∈ G.P.cf c := o2 p hp
        have hgl := (gs.cls c o1).2 p.1 hgm
        have : p.1 = m := G.nm_inj gs.nd hgl.1 ml (by rw [q, em])
        rw [this] at hgm
        exact m2 hgm
      refine ⟨a, G.Ca c, dx, vfs, G.fa f, spF G (cx.call f), e1, e2, by rw [gx.K]; exact c1, by rw [gx.K, ← em]; exact m3, ln, ⟨fd, ps, by rw [gx.prog, gx.w, gx.K, gx.mg, gx.base]; exact m4, by rw [gx.K]; exact m5⟩, ?_⟩
      rw [post_bind] at P1
      refine ⟨F.at Z1 L1, Z1, L1, r1, S1, B2.here, P1.imp (fun vs r3 S3 P3 Z3 L3 H3 us B3 R3 => ?_) fun c vs r1 S1 E => E.at_ B2.z0 B2.l0⟩
      have B4 := B3.back B2.z0 B2.l0
      exact ⟨_, Z3, L3, S3, v :: vs, B4.callee, .cons (R1.up B3.z0 B3.l0) R3, out_ofF gx.prog B4 P3⟩
    · exact P1.elim
  · exact P1.elim
theorem pet_meth (gs : GS G T cx k) (gx : GX G N k sc W X) {m : Nat} {nm : Str} {apos pos : Pos} (hm : G.nms[m]? = some nm) (ho : notSuper o = true) (hs : ∀ e ∈ es, notStar e = true) (hln : (apos.endLine == pos.line) = true) (hn : es.length < 30) (he : PE X o (tE G x W (ev cx cm co))) (hl : es.length = ces.length)
    (ha : PA X es (tAe G x W (evs cx cm ces))) : PET G x W X cx cm (.meth m co ces) (.Call (.Attribute o nm apos) es [] pos) := by
  refine pet_plain gx.K ?_ rfl
  cases es with
  | nil =>
    have e : ces = [] := List.eq_nil_of_length_eq_zero hl.symm
    subst e
    refine (pe_methG0 (pe_esc (cm := cm) he) gx.room gx.grd gx.tk ho hln).imp fun σ H Q w => ?_
    obtain ⟨F, Z, L, r, S, B, P⟩ := tE_meth gs gx hm w
    refine ⟨F, Z, L, r, S, B, P.imp (fun v r1 S1 P1 Z1 L1 H1 u B1 R1 => ?_) fun _ _ _ _ E => E⟩
    obtain ⟨a, C, dx, fs, f, sp, k1, k2, k3, k4, k5, k6, F2, Z2, L2, r2, S2, B2, P2⟩ := P1 Z1 L1 H1 u B1 R1
    exact ⟨a, C, dx, fs, f, sp, k1, k2, k3, k4, k5, k6, P2 Z2 L2 H1 [] B2 .nil⟩
  | cons e es =>
    exact (pe_methG (pe_esc (cm := cm) he) gx.room gx.grd gx.tk ha ho hs hln hn).imp fun σ H Q w => tE_meth gs gx hm w
/-- a name's def, called -/
theorem tE_calv (gs : GS G T cx k) (gx : GX G N k sc W X) {i : Nat} {σ : L2.St} {H : Hp} {Q : VK} (h : tE G x W (ev cx cm (.callv i ces)) σ H Q) : tCalG X k i W (tAe G x W (evs cx cm ces)) σ H Q := by
  obtain ⟨F, Z, L, r, S, B, P⟩ := h
  unfold ev at P
  split at P
  · rename_i f q
    obtain ⟨u, g1, g2, g3⟩ := B.slot q (by intro z; cases z)
    cases g3 with
    | fn hf =>
      obtain ⟨⟨fd, ps, m4, m5⟩, m6⟩ := gs.fv f hf
      refine ⟨G.fa f, spF G (cx.call f), g1, ⟨fd, ps, by rw [gx.prog, gx.w, gx.K, gx.mg, gx.base]; exact m4, by rw [gx.K]; exact m5⟩, by rw [gx.K]; exact m6, ?_⟩
      rw [post_bind] at P
      refine ⟨F, Z, L, r, S, B, P.imp (fun vs r1 S1 P1 Z1 L1 H1 us B1 R1 => ?_) fun _ _ _ _ E => E⟩
      exact ⟨_, Z1, L1, S1, vs, B1.callee, R1, out_ofF gx.prog B1 P1⟩
  · exact P.elim
theorem pet_calv (gs : GS G T cx k) (gx : GX G N k sc W X) {i : Nat} {y : Str} {p pos : Pos} {e : Expr} (hN : N[i]? = some y) (hv : visK sc y = true) (hn : nmOk y = true) (hs : ∀ e' ∈ e :: es, notStar e' = true) (ha : PA X (e :: es) (tAe G x W (evs cx cm ces))) :
    PET G x W X cx cm (.callv i ces) (.Call (.Name y p) (e :: es) [] pos) :=
  pet_plain gx.K ((pe_calG gx.room gx.grd gx.tk (by rw [gx.nN]; exact hN) (gx.vis y hv) hn ha hs).imp fun σ H Q w => tE_calv gs gx w) rfl
/-! ### making -/
theorem HRel.push {F : Frm} {Z : Hp} {L : List Addr} {S : Store} {H : Hp} {c : Cell} {a : Addr} (h : HRel G F Z L S H) (own : OwnAt G Z L H a c.pv) (hz : Z a = none) (hf : F.Fm a = none) (al : a ∉ L) : HRel G F Z (L ++ [a]) (S ++ [c]) H := by
  refine ⟨h.z0, h.l0.trans (List.prefix_append _ _), h.zs, h.fs, by simp [h.ln], ?_, fun n c' e => ?_, fun b hb => ?_, h.zf⟩
  · rw [List.nodup_append]
    refine ⟨h.nd, by simp, fun b hb c hc e => ?_⟩
    rw [List.mem_singleton] at hc
    subst e; subst hc
    exact al hb
  · by_cases hn : n < S.length
    · rw [List.getElem?_append_left hn] at e
      obtain ⟨b, k1, k2⟩ := h.ce n c' e
      exact ⟨b, pre_get (List.prefix_append _ _) k1, k2.up (Same.refl _) (List.prefix_append _ _) rfl⟩
    · have hn2 : n = S.length := by
        have := (List.getElem?_eq_some_iff.mp e).1
        simp at this; omega
      subst hn2
      rw [List.getElem?_append_right (Nat.le_refl _), Nat.sub_self] at e
      cases e
      refine ⟨a, ?_, own.up (Same.refl _) (List.prefix_append _ _) rfl⟩
      rw [← h.ln, List.getElem?_append_right (Nat.le_refl _), Nat.sub_self]; rfl
  · rcases List.mem_append.mp hb with hb | hb
    · exact h.lz b hb
    · rw [List.mem_singleton] at hb
      subst hb
      exact ⟨hz, hf⟩
theorem tE_mk (gs : GS G T cx k) (gx : GX G N k sc W X) {c f : Nat} (hi : G.P.init c = some f) {σ : L2.St} {H : Hp} {Q : VK} (h : tE G x W (ev cx cm (.mk c ces)) σ H Q) :
    tMkG (G.Ca c) (spF G (cx.call f)) W (tAe G x W (evs cx cm ces)) σ H Q := by
  obtain ⟨F, Z, L, r, S, B, P⟩ := h
  unfold ev at P
  rw [post_bind] at P
  refine ⟨F, Z, L, r, S, B, P.imp (fun vs r1 S1 P1 Z1 L1 H1 us B1 R1 a dx ha hdx hne => ?_) fun _ _ _ _ E => E⟩
  rw [gs.P, hi] at P1
  have f1 := B1.free ha
  have okc : okO G c [] := ⟨by rw [hi]; rfl, fun p hp => (nomatch hp)⟩
  have hx2 : (upd H1 dx (HO.own a)) a = none := by rw [upd_ne (Ne.symm hne)]; exact ha
  have HR := (B1.callee.alloc (o := .own a) hdx).alloc (o := .ins (G.Ca c) dx []) hx2
  have own : OwnAt G Z1 L1 (upd (upd H1 dx (.own a)) a (.ins (G.Ca c) dx [])) a (.obj c []) := ⟨dx, [], upd_same, okc, .nil⟩
  have fm : (callF F Z1 L1 r1 σ H1).Fm a = none := B1.callee.fs.free ha
  have HP := HR.push (c := .ins c []) own f1.1 fm f1.2.2.1
  have at_ : (L1 ++ [a])[S1.length]? = some a := by rw [← B1.h.ln, List.getElem?_append_right (Nat.le_refl _), Nat.sub_self]; rfl
  refine ⟨_, Z1, L1 ++ [a], _, .loc S1.length :: vs, HP.here, .cons (.loc at_) (R1.up (Same.refl _) (List.prefix_append _ _)), ?_⟩
  have bk : ∀ {Z L S H}, HRel G ((callF F Z1 L1 r1 σ H1).at Z1 (L1 ++ [a])) Z L S H → HRel G (callF F Z1 L1 r1 σ H1) Z L S H ∧ L1 ++ [a] <+: L := fun h => ⟨h.back (Same.refl _) (List.prefix_append _ _), h.l0⟩
  have P2 : Post (match cx.call f (.loc S1.length :: vs) (S1 ++ [.ins c []]) with
        | .ok .non false S' => if G.P.mutc c then Out.ok (PV.loc S1.length, Md.sh) r1 S' else outL S1.length r1 S'
        | .ok _ _ _ => .bad 86
        | x => ofF x r1) _ _ := P1
  revert P2
  cases cx.call f (.loc S1.length :: vs) (S1 ++ [.ins c []]) with
  | ok v fr S' =>
    intro P2 Z2 L2 H2 u h2 hv
    obtain ⟨h3, h4⟩ := bk h2
    cases v <;> first | exact P2.elim | skip
    cases fr <;> first | exact P2.elim | skip
    cases hv
    dsimp only at P2
    by_cases hm : G.P.mutc c = true
    · rw [if_pos hm] at P2
      exact ⟨rfl, P2 Z2 L2 H2 (.ref a) (B1.ret h3) (.loc (pre_get h4 at_))⟩
    · rw [if_neg hm] at P2
      unfold outL at P2
      split at P2
      · rename_i c' fs e
        split at P2
        · rename_i hc
          rw [Bool.and_eq_true] at hc
          have hLn : S1.length ≤ L2.length := by rw [← B1.h.ln]; exact Nat.le_trans (by rw [List.length_append]; exact Nat.le_add_right _ _) h4.length_le
          have h5 : HRel G (callF F Z1 L1 r1 σ H1) Z2 (L2.take S1.length) (S'.take S1.length) H2 := h3.cut (by rw [← B1.h.ln]; exact Nat.le_refl _) hc.2
          obtain ⟨b, k1, k2⟩ := h3.ce _ _ e
          have hb : L2[S1.length]? = some a := pre_get h4 at_
          rw [hb] at k1; cases k1
          have hal : a ∈ L2 := List.mem_of_getElem? hb
          have nl : a ∉ L2.take S1.length := fun z => by
            obtain ⟨i, hi⟩ := List.mem_iff_getElem?.mp z
            have hlt : i < S1.length := by
              have := (List.getElem?_eq_some_iff.mp hi).1
              rw [List.length_take] at this; omega
            rw [List.getElem?_take_of_lt hlt] at hi
            have := nd_ix h3.nd hi hb
            omega
          have V := B1.retV (v := .obj c' fs) (fr := true) (u := .ref a) h5 ⟨a, rfl, k2.trim (by unfold Cell.pv locB; exact hc.1), (h3.lz a hal).1, (h3.lz a hal).2, nl⟩
          exact ⟨rfl, P2 Z2 _ H2 (.ref a) (B1.ret h5) V⟩
        · exact P2.elim
      · exact P2.elim
  | exc c' vs' S' => exact fun P2 Z2 L2 H2 d h2 hv => P2 Z2 L2 H2 d (B1.ret (bk h2).1) hv
  | bad w => exact fun P2 => P2
theorem pet_mk (gs : GS G T cx k) (gx : GX G N k sc W X) {c : Nat} {y : Str} {p pos : Pos} (hg : glK sc y = true) (hn : nmOk y = true) (ht : T.cnm c = some y) (hs : ∀ e ∈ es, notStar e = true) (hl : es.length = ces.length) (ha : PA X es (tAe G x W (evs cx cm ces))) : PET G x W X cx cm (.mk c ces) (.Call (.Name y p) es [] pos) := by
  refine pet_plain gx.K ?_ rfl
  obtain ⟨h1, f, fd, ps, j, h2, h3, M, b, F⟩ := gs.mak c y ht
  have F' : FnG X.prog X.w X.K X.mg X.base j (G.fa f) fd ps (spF G (cx.call f)) := by rw [gx.prog, gx.w, gx.K, gx.mg, gx.base]; exact F
  have M' : Mk X.K (G.Ca c) (G.fa f) := by rw [gx.K]; exact M
  have b' : Binds X.K fd ps [] := by rw [gx.K]; exact b
  have m' : X.mg y = some (.ref (G.Ca c)) := by rw [gx.mg]; exact h1
  cases es with
  | nil =>
    have e : ces = [] := List.eq_nil_of_length_eq_zero hl.symm
    subst e
    refine (pe_mkG0 M' F' (gx.room.mono h3) gx.grd b' gx.tk (gx.gl y hg) m' hn).imp fun σ H Q w => ?_
    obtain ⟨F, Z, L, r, S, B, P⟩ := tE_mk gs gx h2 w
    exact P Z L H [] B .nil
  | cons e es => exact (pe_mkG M' F' (gx.room.mono h3) gx.grd b' gx.tk (gx.gl y hg) m' hn ha hs).imp fun σ H Q w => tE_mk gs gx h2 w
end
end Ci
/-! chains of comparisons; stores to fields -/
namespace Ci
open PySem L2 PyProof.Rows
def cmpF : Op → Int → Int → Bool
  | .lt, i, j => decide (i < j)
  | .le, i, j => decide (i ≤ j)
  | .gt, i, j => decide (j < i)
  | .ge, i, j => decide (j ≤ i)
  | _, _, _ => false
def ordOf : Op → Option CmpOp
  | .lt => some .Lt
  | .le => some .LtE
  | .gt => some .Gt
  | .ge => some .GtE
  | _ => none
section
variable {G : Gm} {x : Exi} {W : WX} {X : Cx} {cx : Cxt} {cm : Bool} {N : List Str} {k : Nat} {sc : Scope} {T : Tx} {ca cb cc : CE} {o1 o2 : Op}
theorem ord_op {bop : CmpOp} (h : ordOf o1 = some bop) : OpR X (compareOp bop) (rI0 fun i j => .bl (cmpF o1 i j)) := by
  cases o1 <;> simp [ordOf] at h <;> subst h
  · exact op_lt
  · exact op_le
  · exact op_gt
  · exact op_ge
theorem cmpO_F {bop : CmpOp} (h : ordOf o1 = some bop) (i j : Int) : cmpO o1 i j = some (cmpF o1 i j) := by
  cases o1 <;> simp [ordOf] at h <;> rfl
theorem VR.int {F : Frm} {Z : Hp} {L : List Addr} {r : Ev} {S : Store} {σ : L2.St} {H : Hp} {i : Int} {m : Md} {u : V} (B : BRel G x F Z L r S σ H) (h : VR G F Z L r σ H (.int i) m u) : u = .int i := (h.top B).int
theorem tE_chain {b1 b2 : CmpOp} (h1 : ordOf o1 = some b1) (h2 : ordOf o2 = some b2) {σ : L2.St} {H : Hp} {Q : VK} (h : tE G x W (ev cx cm (.chain o1 o2 ca cb cc)) σ H Q) :
    tChain (rI0 fun i j => .bl (cmpF o1 i j)) (rI0 fun i j => .bl (cmpF o2 i j)) (tE G x W (ev cx cm ca)) (tE G x W (ev cx cm cb)) (tE G x W (ev cx cm cc)) σ H Q := by
  obtain ⟨F, Z, L, r, S, B, P⟩ := h
  unfold ev at P
  rw [post_bind] at P
  refine ⟨F.at Z L, Z, L, r, S, B.here, P.imp (fun p r1 S1 P1 Z1 L1 H1 u B1 V1 => ?_) fun c vs r1 S1 E => E.at_ B.z0 B.l0⟩
  have B2 := B1.back B.z0 B.l0
  rw [post_bind] at P1
  refine ⟨F.at Z1 L1, Z1, L1, r1, S1, B2.here, P1.imp (fun q r3 S3 P3 Z3 L3 H3 w B3 V3 => ?_) fun c vs r1 S1 E => E.at_ B2.z0 B2.l0⟩
  have B4 := B3.back B2.z0 B2.l0
  obtain ⟨pv, pm⟩ := p
  obtain ⟨qv, qm⟩ := q
  split at P3
  · rename_i i j e1 e2
    dsimp only at e1 e2
    subst e1 e2
    have eu : u = .int i := VR.int B1 V1
    have ew : w = .int j := VR.int B3 V3
    rw [cmpO_F h1] at P3
    refine ⟨i, j, eu, ew, cmpF o1 i j, rfl, ?_⟩
    cases q : cmpF o1 i j with
    | false =>
      rw [q] at P3
      rw [if_neg (by decide)]
      exact P3 Z3 L3 H3 _ B4 (.bl false)
    | true =>
      rw [q] at P3
      rw [if_pos rfl]
      dsimp only at P3
      rw [post_bind] at P3
      refine ⟨F.at Z3 L3, Z3, L3, r3, S3, B4.here, P3.imp (fun z r5 S5 P5 Z5 L5 H5 y B5 V5 => ?_) fun c vs r1 S1 E => E.at_ B4.z0 B4.l0⟩
      have B6 := B5.back B4.z0 B4.l0
      obtain ⟨zv, zm⟩ := z
      split at P5
      · rename_i l e3
        dsimp only at e3
        subst e3
        have ey : y = .int l := VR.int B5 V5
        rw [cmpO_F h2] at P5
        exact ⟨j, l, ew, ey, P5 Z5 L5 H5 _ B6 (.bl _)⟩
      · exact P5.elim
  · exact P3.elim
theorem bind_ok {α β : Type} {o : Out α} {f : α → Ev → Store → Out β} {p : β} {r : Ev} {S : Store} (h : o.bind f = .ok p r S) : ∃ a r1 S1, o = .ok a r1 S1 ∧ f a r1 S1 = .ok p r S := by
  cases o with
  | ok a r1 S1 => exact ⟨a, r1, S1, rfl, h⟩
  | exc _ _ _ _ => cases h
  | bad _ => cases h
theorem chain_bl {r : Ev} {S : Store} {p : PV × Md} {r' : Ev} {S' : Store} (h : ev cx cm (.chain o1 o2 ca cb cc) r S = .ok p r' S') : ∃ b, p.1 = .bl b := by
  unfold ev at h
  obtain ⟨a, r1, S1, _, h⟩ := bind_ok h
  obtain ⟨b, r2, S2, _, h⟩ := bind_ok h
  (repeat' split at h) <;> first
    | (cases h; exact ⟨_, rfl⟩)
    | (cases h; done)
    | (obtain ⟨c, r3, S3, _, h⟩ := bind_ok h
       (repeat' split at h) <;> first
         | (cases h; exact ⟨_, rfl⟩)
         | (cases h; done))
theorem pet_chain {a b c : Expr} {b1 b2 : CmpOp} {p : Pos} (h1 : ordOf o1 = some b1) (h2 : ordOf o2 = some b2) (hm : notSet c = true) (ha : PE X a (tE G x W (ev cx cm ca))) (hb : PE X b (tE G x W (ev cx cm cb))) (hc : PE X c (tE G x W (ev cx cm cc))) :
    PET G x W X cx cm (.chain o1 o2 ca cb cc) (.Compare a [b1, b2] [b, c] p) := by
  have hl : lastMarks [b1, b2] [b, c] = false := by
    show behindInMarks b2 c = false
    exact mark_ok hm
  refine ⟨(pe_chain (ord_op h1) (ord_op h2) ha hb hc hl).imp fun σ H Q w => tE_chain h1 h2 w, fun _ => ⟨fun pins s σ H Q I w => (pt_chain (ord_op h1) (ord_op h2) ha hb hc hl).run pins s σ H Q I (tE_chain h1 h2 (tT_of w fun r S p r' S' h => chain_bl h))⟩, fun hb => by cases hb⟩
end
end Ci
/-! own ==, != of instances -/
namespace PySem.W
open PySem Builtin
section
variable {prog : Program} {w : World} {A A₀ : Around} {E : Value → Shared → Prop} {s : Shared} {K : Frag} {x C L f : Addr} {h₀ : Heap} {m : Str → Option Value} {ox : Obj} {od : Option Obj} {name : Str} {b tb : Value}
theorem ifBound_Kb {M : Model} {args : List Value} {id : String} {Q : Option Value → Shared → Prop} (X : K.In s.heap) (I : InstAt s.heap x ox C od) (hs : findIn K (.ref C) name = some (some (.builtin id))) (S : Slot "object" name id)
    (h : wpAny M A (call (.builtin id) (.ref x :: args)) (fun v => Q (some v)) E s) : wpAny M A (callSpecialIfBound? (.ref x) name args) Q E s := by
  simp only [callSpecialIfBound?, bindSpecialIfBound?]
  refine wpAny_holding (wpAny_bind (wpAny_bind (wpAny_bind (I.type.here ((looks_findIn X hs).here ?_)))))
  simp only [S.bind]
  refine wpAny_bind (wpAny_askSetting (wpAny_ite ?_))
  have fin : wpAny M A (call (.builtin id) ([.ref x] ++ args) >>= fun v => pure (some v)) Q E s := wpAny_bind (wpAny_mono h (fun v s' h' => wpAny_pure h') fun _ _ h' => h')
  split
  · exact wpAny_bind (wpAny_pure (wpAny_pure fin))
  · exact wpAny_tryCatch (wpAny_bind (wpAny_pure (wpAny_pure fin)))
theorem check_slot_K {M : Model} {id owner n : String} {rest : List Value} {Q : Unit → Shared → Prop} (hk : builtinKind id = some .slot) (hs : splitId id = some (owner, n))
    (ha : argsOk id ⟨.ref x :: rest, []⟩) (X : K.In s.heap) (I : InstAt s.heap x ox C od) (hC : subIn K (.ref C) (.type owner) = some true) (hq : Q () s) :
    wpAny M A (checkBuiltinCall id ⟨.ref x :: rest, []⟩) Q E s := by
  simp only [checkBuiltinCall, hk, hs]
  refine wpAny_bind ?_
  unfold isInstance
  refine wpAny_bind (I.type.here ((looks_subIn X hC).here ?_))

  cases hsig : Manifest.signature? id with
  | none => exact wpAny_pure hq
  | some sig =>
    simp only [argsOk, hsig] at ha
    have h2 : Bind.checkArgs id sig ⟨.ref x :: rest, []⟩ = pure () := ha
    show wpAny M A (Bind.checkArgs id sig ⟨.ref x :: rest, []⟩) Q E _
    rw [h2]; exact wpAny_pure hq
theorem objNe_K (hu : A.units < cLine) (X : K.In s.heap) (I : InstAt s.heap x ox C od) (hs : findIn K (.ref C) "__eq__" = some (some (.ref f))) (hf : isFn K (.ref f) = true) {Q : Fin → Shared → Prop}
    (hcall : wpAny (model prog w) A (call (.ref f) [.ref x, b]) (fun v s' => ∃ c, v = .bool c ∧ Q (.done (.ret (.bool (!c)))) s') E s) :
    wpAny (model prog w) A (Builtin.«object.__ne__» ⟨[.ref x, b], []⟩) Q E s := by
  unfold Builtin.«object.__ne__»
  repeat (first
    | with_reducible refine wpAny_cRoomFor hu ?_
    | (refine wpAny_bind (m := callSpecialIfBound? (.ref x) (Str.ofString "__eq__") [b])
        (ifBound_K X I hs hf (wpAny_mono hcall (fun r s' hr => by
          obtain ⟨c, rfl, hq⟩ := hr
          repeat (first | exact hq | exact wpAny_pure hq | exact wpAny_truthy_bool hq | (refine wpAny_bind (m := truthy (.bool _)) (wpAny_truthy_bool ?_)) | wp_step)) fun _ _ e => e)))
    | wp_step)
theorem cmp_ne_K {Q : Value → Shared → Prop} (hu : A.units + 1 < cLine) (X : K.In s.heap) (I : InstAt s.heap x ox C od) (hb : Looks (model prog w) s.heap (typeOf b) tb) (hn : notFirst K C tb = true)
    (hN : findIn K (.ref C) "__ne__" = some (some (.builtin "object.__ne__"))) (ho : subIn K (.ref C) (.type "object") = some true)
    (hs : findIn K (.ref C) "__eq__" = some (some (.ref f))) (hf : isFn K (.ref f) = true)
    (h : wpAny (model prog w) A.in1 (call (.ref f) [.ref x, b]) (fun v s' => ∃ c, v = .bool c ∧ Q (.bool (!c)) s') E s) : wpAny (model prog w) A (richCompare .NotEq (.ref x) b) Q E s := by
  have one : wpAny (model prog w) A (tryCompare (.ref x) (cmpInfo .NotEq).2.1 b) (fun r s' => ∃ v, r = some v ∧ Q v s') E s := by
    unfold tryCompare
    refine wpAny_bind (ifBound_Kb X I hN PySem.F.cmp_object.ne (wpAny_call (codeAny_call_builtin PySem.F.cmp_object.ne.plain PySem.F.cmpEntry_ne
      (check_slot_K PySem.F.cmpKind_ne PySem.F.cmpSplit_ne (PySem.F.cmpArgs_ne _ _) X I ho
        (objNe_K (A := A.in1) hu X I hs hf (wpAny_mono h (fun v s' hv => ?_) fun _ _ e => e))))))
    obtain ⟨c, rfl, hq⟩ := hv
    first | exact ⟨c, rfl, wpAny_pure ⟨_, rfl, hq⟩⟩ | exact ⟨c, rfl, wpAny_pure (wpAny_pure ⟨_, rfl, hq⟩)⟩ | exact ⟨c, rfl, ⟨_, rfl, hq⟩⟩
  unfold richCompare
  simp only [oneThing_ref]
  refine wpAny_holding (wpAny_bind (wpAny_cRoomFor (Nat.lt_of_succ_lt hu) ?_))
  refine wpAny_bind (I.type.here (wpAny_bind (hb.here ?_)))
  split
  · rename_i q
    have e : subIn K tb (.ref C) = some false := by
      rcases Bool.or_eq_true_iff.mp hn with e | e
      · rw [beq_iff_eq.mp e] at q; simp at q
      · exact beq_iff_eq.mp e
    refine wpAny_bind ((looks_subIn X e).here ?_)
    simp only [Bool.false_eq_true, if_false]
    refine wpAny_bind (wpAny_mono one (fun r s' z => ?_) fun _ _ e => e)
    obtain ⟨v, rfl, hq⟩ := z
    exact wpAny_pure hq
  · refine wpAny_bind (wpAny_pure ?_)
    simp only [Bool.false_eq_true, if_false]
    refine wpAny_bind (wpAny_mono one (fun r s' z => ?_) fun _ _ e => e)
    obtain ⟨v, rfl, hq⟩ := z
    exact wpAny_pure hq
end
end PySem.W
namespace Ci
open PySem L2 PyProof.Rows
section
variable {X : Cx} {pins : List (Addr × Obj)} {σ : L2.St} {H : Hp} {s : Shared}
/-- a value's class, as the library sees it -/
theorem TyX.looks {x : V} {u t : Value} (I : Inv X pins σ H s) (rx : RelV x u) (ty : TyX X.K H x t) : PySem.W.Looks (model X.prog X.w) s.heap (typeOf u) t := by
  have at_ : ∀ {a : Addr} {o : Obj} {t : Value}, s.heap.get? a = some o → o.cls = t → PySem.W.Looks (model X.prog X.w) s.heap (typeOf (.ref a)) t := fun ho hc => hc ▸ (PySem.W.Looks.ld ho).andThen .now
  cases ty with
  | base b =>
    cases b with
    | non => cases (show u = Value.none from rx); exact PySem.W.Looks.of_pure rfl
    | bl y => cases (show u = Value.bool y from rx); exact PySem.W.Looks.of_pure rfl
    | int i => obtain ⟨t, q⟩ := (show ∃ t, u = Value.int i t from rx); cases q; exact PySem.W.Looks.of_pure rfl
    | str y => obtain ⟨t, q⟩ := (show ∃ t, u = Value.str y t from rx); cases q; exact PySem.W.Looks.of_pure rfl
    | flt y => obtain ⟨t, q⟩ := (show ∃ t, u = Value.float y t from rx); cases q; exact PySem.W.Looks.of_pure rfl
    | @lst a xs ea =>
      cases (show u = Value.ref a from rx)
      obtain ⟨_, _, n, _, h1⟩ := (show ObjOk X.prog X.w H s.heap a (.lst xs) from I.hok a _ ea)
      exact at_ h1 rfl
    | @frz a ob xs ea =>
      cases (show u = Value.ref a from rx)
      obtain ⟨_, _, _, n, _, h1⟩ := (show ObjOk X.prog X.w H s.heap a (.frz ob (.lst xs)) from I.hok a _ ea)
      exact at_ h1 rfl
    | @tup a xs ea =>
      cases (show u = Value.ref a from rx)
      obtain ⟨_, _, _, o, h1, h2, _⟩ := (show ObjOk X.prog X.w H s.heap a (.tup xs) from I.hok a _ ea)
      exact at_ h1 h2
    | @dK a kvs ea =>
      cases (show u = Value.ref a from rx)
      obtain ⟨_, _, vs, _, o, es, ep, h1, h2, _⟩ := (show ObjOk X.prog X.w H s.heap a (.dK kvs) from I.hok a _ ea)
      exact at_ h1 h2.1
    | @dT a kvs ea =>
      cases (show u = Value.ref a from rx)
      obtain ⟨_, _, xs, _, o, es, ep, h1, h2, _⟩ := (show ObjOk X.prog X.w H s.heap a (.dT kvs) from I.hok a _ ea)
      exact at_ h1 h2.1
    | @ins a C dx fs ea cl ha hn htk hm =>
      cases (show u = Value.ref a from rx)
      obtain ⟨mA, O, _⟩ := ins_get I.hok ea
      obtain ⟨od, J, _⟩ := O.look
      exact J.type
  | byt y => obtain ⟨t, q⟩ := (show ∃ t, u = Value.bytes y t from rx); cases q; exact PySem.W.Looks.of_pure rfl
  | @set a S n ea =>
    cases (show u = Value.ref a from rx)
    obtain ⟨o, _, _, _, e, ex, _⟩ := I.hok a _ ea
    exact at_ e ex.1
  | @kList a o e c =>
    cases (show u = Value.ref a from rx)
    exact at_ (I.kIn a o e) c
  | @kTuple a o e c =>
    cases (show u = Value.ref a from rx)
    exact at_ (I.kIn a o e) c
  | @kDict a o e c =>
    cases (show u = Value.ref a from rx)
    exact at_ (I.kIn a o e) c
  | @fTuple a ob xs ea =>
    cases (show u = Value.ref a from rx)
    obtain ⟨_, _, _, _, o, h1, h2, _⟩ := (show ObjOk X.prog X.w H s.heap a (.frz ob (.tup xs)) from I.hok a _ ea)
    exact at_ h1 h2
  | @fDict a ob kvs ea =>
    cases (show u = Value.ref a from rx)
    obtain ⟨_, _, _, vs, _, o, es, ep, h1, h2, _⟩ := (show ObjOk X.prog X.w H s.heap a (.frz ob (.dK kvs)) from I.hok a _ ea)
    exact at_ h1 h2.1
/-- an own method that answers a Bool, called by the library anywhere -/
theorem run_GA {k : Nat} {f : Addr} {fd : FuncData} {ps : List Str} {sp : Sp} {A : Around} {us : List Value} {vs : List V} {Q : Value → Shared → Prop} {E : Value → Shared → Prop} (F : FnG X.prog X.w X.K X.mg X.base k f fd ps sp) (hr : Room k A) (hg : A.guards = some []) (hf : A.frames = X.A.frames) (hb : Binds X.K fd ps [])
    (I : Inv X pins σ H s) (r : Vals vs us) (h : sp vs H (fun v H' => ∀ u s', Inv X pins σ H' s' → RelV v u → Q u s') fun _ _ _ => False) : wpAny (model X.prog X.w) A (call (.ref f) us) Q E s := by
  have hl : (us ++ ([] : List Value)).length = ps.length := by rw [List.append_nil, ← r.length]; exact F.len _ _ _ _ h
  have hbb := hb s us I.kIn hl
  rw [List.append_nil] at hbb
  have e0 : Env0 X.prog X.w X.K X.mg X.base A X.stack s H := by
    have e := I.env0
    exact ⟨by rw [hf]; exact e.frames, e.mod, e.bs, e.bsz, e.funs, e.frf, e.hok, e.bare⟩
  refine wpAny_call (codeAny_mono (F.run A X.stack s H ⟨us, []⟩ us vs _ _ hr hg e0 hbb r h) fun r s' hq => ?_)
  cases r with
  | error e =>
    obtain ⟨_, _, _, _, _, _, _, _, _, _, _, _, z⟩ := hq
    exact z.elim
  | ok fl =>
    cases fl with
    | ret u =>
      obtain ⟨z, H', I', rz, q⟩ := I.after hq
      exact q u s' I' rz
    | next => exact False.elim hq
    | brk => exact False.elim hq
    | cont => exact False.elim hq
end
end Ci

namespace Ci
open PySem L2 PyProof.Rows
section
variable {G : Gm} {x : Exi} {W : WX} {X : Cx} {cx : Cxt} {cm : Bool} {N : List Str} {k : Nat} {sc : Scope} {T : Tx} {ca cb : CE} {a b : Expr}
theorem spF_imp {f : List PV → Store → FOut} {us : List V} {H : Hp} {Q Q' : VK} {E E' : XK} (h : spF G f us H Q E) (hq : ∀ v H, Q v H → Q' v H) (he : ∀ c d H, E c d H → E' c d H) : spF G f us H Q' E' := by
  obtain ⟨F, Z, L, S, vs, h1, h2, P⟩ := h
  refine ⟨F, Z, L, S, vs, h1, h2, ?_⟩
  revert P
  cases f vs S with
  | ok v fr S => exact fun P Z L H u a b => hq _ _ (P Z L H u a b)
  | exc c vs S => exact fun P Z L H d a b => he _ _ _ (P Z L H d a b)
  | bad w => exact id
/-- own ==: how two values are compared -/
def rEq (G : Gm) (x : Exi) (cx : Cxt) (ng : Bool) : R2 := fun u w H Q => ∃ F Z L r S σ v v', BRel G x F Z L r S σ H ∧ Rep G Z L v u ∧ Rep G Z L v' w ∧
  Post (eqmO cx ng v v' r S) (fun p r' S' => ∀ Z' L' H' u', BRel G x F Z' L' r' S' σ H' → VR G F Z' L' r' σ H' p.1 p.2 u' → Q u' H') (fun _ _ _ _ => False)
theorem op_eqm (gs : GS G T cx k) (gx : GX G N k sc W X) (ng : Bool) : OpR X (compareOp (if ng then .NotEq else .Eq)) (rEq G x cx ng) := by
  intro pins s σ0 H u w u' w' Q I ru rw' ⟨F, Z, L, r, S, σ, v, v', B, Rv, Rw, P⟩
  have tv : TopR G Z L H (view S v) u := TopR.view B.h (.inl Rv)
  have tw : TopR G Z L H (view S v') w := TopR.view B.h (.inl Rw)
  have plain : (∀ c fs, view S v ≠ .obj c fs) → Post (ofO (opRun S (if ng then .ne else .eq) [v, v']) r S) (fun p r' S' => ∀ Z' L' H' u', BRel G x F Z' L' r' S' σ H' → VR G F Z' L' r' σ H' p.1 p.2 u' → Q u' H') (fun _ _ _ _ => False) →
      wpAny (model X.prog X.w) X.A (compareOp (if ng then .NotEq else .Eq) u' w') (EP X pins σ0 Q) X.xe s := fun _ P => by
    have hu : X.A.units + 64 < cLine := by have := gx.un; omega
    cases ng with
    | false => exact o_eq (G := G) (x := x) gx.K hu pins s σ0 H u w u' w' Q I ru rw' ⟨F, Z, L, r, S, σ, _, _, B, tv, tw, OR.of P⟩
    | true => exact o_ne (G := G) (x := x) gx.K hu pins s σ0 H u w u' w' Q I ru rw' ⟨F, Z, L, r, S, σ, _, _, B, tv, tw, OR.of P⟩
  unfold eqmO at P
  split at P
  · rename_i c fs hv
    rw [hv] at tv
    obtain ⟨a, dx, vfs, rfl, e2, ⟨o1, o2⟩, e3⟩ := tv.obj B.h.zs
    split at P
    · rename_i f hf
      split at P
      · rename_i hy
        rw [gs.P] at hf
        obtain ⟨M, hne, j, hj, fd, ps, F1, bd⟩ := gs.eqm c f o1 hf
        obtain ⟨t, hty, _, k2⟩ := TopR.ty gs.isi B.h.zs tw hy
        have hty' : TyX X.K H w t := by rw [gx.K]; exact hty
        cases ru
        obtain ⟨mA, J, _⟩ := ins_get I.hok e2
        obtain ⟨od, J, _⟩ := J.look
        obtain ⟨m, hF⟩ := I.fr
        have hm : PySem.W.mroIn X.K (G.Ca c) (.type "object") = some true := by rw [gx.K]; exact (gs.isi.ins c o1).2.2.2.2
        have hnf : PySem.W.notFirst X.K (G.Ca c) t = true := by rw [gx.K]; exact (k2 c o1).2
        have F1' : FnG X.prog X.w X.K X.mg X.base j (G.fa f) fd ps (spF G (cx.call f)) := by rw [gx.prog, gx.w, gx.K, gx.mg, gx.base]; exact F1
        have bd' : Binds X.K fd ps [] := by rw [gx.K]; exact bd
        have M' : Meth X.K (G.Ca c) "__eq__" (G.fa f) := by rw [gx.K]; exact M
        have sp : ∀ {Q2 : Value → Shared → Prop}, (∀ (bb : Bool) H' s', Inv X pins σ0 H' s' → (∀ u', RelV (.bl (if ng then !bb else bb)) u' → Q (.bl (if ng then !bb else bb)) H') → Q2 (.bool bb) s') →
            spF G (cx.call f) [.ref a, w] H (fun z H' => ∀ u s', Inv X pins σ0 H' s' → RelV z u → Q2 u s') fun _ _ _ => False := fun {Q2} hq => by
          refine ⟨_, Z, L, S, [v, v'], B.callee, .cons Rv (.cons Rw .nil), ?_⟩
          revert P
          cases cx.call f [v, v'] S with
          | ok z fr S' =>
            intro P
            cases z <;> first | exact P.elim | skip
            rename_i bb
            cases fr <;> first | exact P.elim | skip
            intro Z1 L1 H1 u1 h1 hv1 u s' I' rz
            cases hv1
            obtain rfl : u = Value.bool bb := rz
            exact hq bb H1 s' I' fun _ _ => P Z1 L1 H1 _ (B.ret h1) (.bl _)
          | exc c vs S' => exact fun P => P.elim
          | bad w => exact fun P => P.elim
        cases ng with
        | false =>
          show wpAny (model X.prog X.w) X.A (richCompare .Eq (.ref a) w') (EP X pins σ0 Q) X.xe s
          refine PySem.W.cmp_K (op := .Eq) (tb := t) (by have := gx.un; omega) hF I.ok.mod.kin J (TyX.looks I rw' hty') hnf M'.at_ M'.fn ?_
          exact run_GA (A := X.A) (us := [.ref a, w']) (vs := [.ref a, w]) F1' (gx.room.mono (by omega)) gx.grd rfl bd' I (.cons rfl (.cons rw' .nil)) (sp fun bb H' s' I' q => ⟨.bl bb, H', I', rfl, q (.bool bb) rfl⟩)
        | true =>
          show wpAny (model X.prog X.w) X.A (richCompare .NotEq (.ref a) w') (EP X pins σ0 Q) X.xe s
          refine PySem.W.cmp_ne_K (tb := t) (by have := gx.un; omega) I.kIn J (TyX.looks I rw' hty') hnf (by rw [gx.K]; exact hne) hm M'.at_ M'.fn ?_
          exact run_GA (A := X.A.in1) (us := [.ref a, w']) (vs := [.ref a, w]) F1' (gx.room.mono hj).in1 gx.grd rfl bd' I (.cons rfl (.cons rw' .nil)) (sp fun bb H' s' I' q => ⟨bb, rfl, .bl (!bb), H', I', rfl, q (.bool (!bb)) rfl⟩)
      · exact P.elim
    · exact P.elim
  · rename_i hv
    exact plain (fun c fs e => hv c fs e) P
theorem eqm_bl {ng : Bool} {r : Ev} {S : Store} {p : PV × Md} {r' : Ev} {S' : Store} (h : ev cx cm (.eqm ng [ca, cb]) r S = .ok p r' S') : ∃ b, p.1 = .bl b := by
  unfold ev at h
  obtain ⟨vs, r1, S1, hvs, h⟩ := bind_ok h
  have key : ∀ v v', eqmO cx ng v v' r1 S1 = .ok p r' S' → ∃ b, p.1 = .bl b := fun v v' h => by
    unfold eqmO at h
    split at h
    · split at h
      · split at h
        · split at h
          · cases h; exact ⟨_, rfl⟩
          · cases h
        · cases h
      · cases h
    · cases q : opRun S1 (if ng then .ne else .eq) [v, v'] with
      | sh z =>
        rw [q] at h; cases h
        cases ng with
        | false => exact cmpBl (o := .eq) rfl _ _ z (.inl q)
        | true => exact cmpBl (o := .ne) rfl _ _ z (.inl q)
      | fr z =>
        rw [q] at h; cases h
        cases ng with
        | false => exact cmpBl (o := .eq) rfl _ _ z (.inr q)
        | true => exact cmpBl (o := .ne) rfl _ _ z (.inr q)
      | bad w => rw [q] at h; cases h
  match vs, h with
  | [v, v'], h => exact key v v' h
  | [], h => cases h
  | [_], h => cases h
  | _ :: _ :: _ :: _, h => cases h
theorem tE_eqm {ng : Bool} {σ : L2.St} {H : Hp} {Q : VK} (h : tE G x W (ev cx cm (.eqm ng [ca, cb])) σ H Q) : tOp (rEq G x cx ng) (tEe G x W fun r S => escB cm (ev cx cm ca r S)) (tEe G x W fun r S => escB cm (ev cx cm cb r S)) σ H Q := by
  obtain ⟨F, Z, L, r, S, B, P⟩ := h
  unfold ev evs evs evs at P
  rw [post_bind, post_bind] at P
  refine ⟨F.at Z L, Z, L, r, S, B.here, ?_⟩
  show Post ((ev cx cm ca r S).bind fun x r S => esc cm x.1 x.2 r S) _ _
  rw [post_bind]
  refine P.imp (fun p0 r0 S0 P0 => ?_) fun c vs r1 S1 E => E.at_ B.z0 B.l0
  rw [post_bind] at P0
  refine P0.imp (fun v r1 S1 P1 Z1 L1 H1 u B1 R1 => ?_) fun c vs r1 S1 E => E.at_ B.z0 B.l0
  have B2 := B1.back B.z0 B.l0
  rw [post_bind, post_bind] at P1
  refine ⟨F.at Z1 L1, Z1, L1, r1, S1, B2.here, ?_⟩
  show Post ((ev cx cm cb r1 S1).bind fun x r S => esc cm x.1 x.2 r S) _ _
  rw [post_bind]
  refine P1.imp (fun p2 r2 S2 P2 => ?_) fun c vs r1 S1 E => E.at_ B2.z0 B2.l0
  rw [post_bind] at P2
  refine P2.imp (fun v' r3 S3 P3 Z3 L3 H3 w B3 R3 => ?_) fun c vs r1 S1 E => E.at_ B2.z0 B2.l0
  have B4 := B3.back B2.z0 B2.l0
  refine ⟨F, Z3, L3, r3, S3, σ, v, v', B4, R1.up B3.z0 B3.l0, R3, ?_⟩
  have P4 : Post (eqmO cx ng v v' r3 S3) _ _ := P3
  revert P4
  unfold eqmO
  (repeat' split) <;> first
    | exact id
    | (generalize opRun _ _ _ = o; cases o <;> exact id)
theorem pet_eqm (gs : GS G T cx k) (gx : GX G N k sc W X) {ng : Bool} {bop : CmpOp} {p : Pos} (ho : bop = if ng then .NotEq else .Eq) (hm : notSet b = true) (ha : PE X a (tE G x W (ev cx cm ca))) (hb : PE X b (tE G x W (ev cx cm cb))) :
    PET G x W X cx cm (.eqm ng [ca, cb]) (.Compare a [bop] [b] p) := by
  subst ho
  refine ⟨(pe_cmpR (op_eqm gs gx ng) (pe_esc (cm := cm) ha) (pe_esc (cm := cm) hb) (mark_ok hm)).imp fun σ H Q w => tE_eqm w, fun _ => ⟨fun pins s σ H Q I w => (pt_cmpR (op_eqm gs gx ng) (pe_esc (cm := cm) ha) (pe_esc (cm := cm) hb) (mark_ok hm)).run pins s σ H Q I (tE_eqm (tT_of w fun r S p r' S' h => eqm_bl h))⟩, fun hb => by cases hb⟩
end
end Ci
namespace Ci
open PySem L2
def notIf : Expr → Bool
  | .IfExp _ _ _ _ => false
  | _ => true
theorem notIf_ {e : Expr} (h : notIf e = true) : vIf e = none := by cases e <;> first | rfl | cases h
def chainOk (o : Op) : Bool := match o with
  | .lt => true
  | .le => true
  | .gt => true
  | .ge => true
  | _ => false
def blkK (N : List Str) (sc scope : Scope) (own : List Nat) : Option (List (Str × Nat)) :=
  let ow := own.filterMap fun i => N[i]?.map fun y => (y, i)
  if blkC N sc scope ow && decide (ow.map (·.2) = own) then some ow else none
def vEnm : Expr → Option (Str × Expr)
  | .Call (.Name y _) [a] [] _ => some (y, a)
  | _ => none
theorem vEnm_ {e a : Expr} {y : Str} (h : vEnm e = some (y, a)) : ∃ p q, e = .Call (.Name y p) [a] [] q := by
  unfold vEnm at h
  split at h
  · cases h; exact ⟨_, _, rfl⟩
  · cases h
def isTupE : Expr → Bool
  | .Tuple _ _ _ => true
  | _ => false
theorem isTupE_ {e : Expr} (h : isTupE e = true) : ∃ es k p, e = .Tuple es k p := by cases e <;> first | exact ⟨_, _, _, rfl⟩ | cases h
/-- enumerate feeds a pair of targets -/
def enmOk (it : CI) (tg : Expr) : Bool := match it with
  | .enm _ => isTupE tg
  | _ => true
def fldOf : Op → Option Nat
  | .fld f => some f
  | _ => none
theorem fldOf_ {o : Op} {f : Nat} (h : fldOf o = some f) : o = .fld f := by cases o <;> first | (cases h; rfl) | cases h
def isiOf : Op → Option Nat
  | .isi [] [c] => some c
  | _ => none
theorem isiOf_ {o : Op} {c : Nat} (h : isiOf o = some c) : o = .isi [] [c] := by
  unfold isiOf at h
  split at h
  · cases h; rfl
  · cases h
def vIsi : Expr → Option (Str × Expr × Str)
  | .Call (.Name y _) [a, .Name z _] [] _ => some (y, a, z)
  | _ => none
theorem vIsi_ {e a : Expr} {y z : Str} (h : vIsi e = some (y, a, z)) : ∃ p r q, e = .Call (.Name y p) [a, .Name z r] [] q := by
  unfold vIsi at h
  split at h
  · cases h; exact ⟨_, _, _, rfl⟩
  · cases h
mutual
def chkE (T : Tx) (N : List Str) (hot : Bool) : CE → Scope → Expr → Bool
  | .k v, _, e => match vConst e with
    | some c => constOk v c
    | none => false
  | .var i, sc, e => match vName e with
    | some y => decide (N[i]? = some y) && visK sc y && nmOk y
    | none => false
  | .glb g, sc, e => match vName e with
    | some y => decide (T.gnm g = some y) && glK sc y && nmOk y
    | none => false
  | .fnv f, sc, e => match vName e with
    | some y => decide (T.fnm f = some y) && glK sc y && nmOk y
    | none => false
  | .call f as, sc, e => match vCallN e with
    | some (y, es) => !hot && (decide (T.fnm f = some y) && glK sc y && nmOk y && es.all notStar && chkEs T N hot as sc es)
    | none => false
  | .op o as, sc, e => match opAr sc o e with
    | some es => !(hot && calmOp o) && (es.all notStar && chkEs T N hot as sc es)
    | none => match fldOf o with
      | some f => match vAttr e with
        | some (b, m) => decide (T.nms[f]? = some m) && notSuper b && chkEs T N hot as sc [b]
        | none => false
      | none => match isiOf o with
        | some c => match vIsi e with
          | some (y, a, z) => y == "isinstance" && glK sc y && notStar a && decide (T.cnm c = some z) && glK sc z && nmOk z && chkEs T N hot as sc [a]
          | none => false
        | none => false
  | .andE a b, sc, e => match vAnd e with
    | some (p, q) => notIf p && notIf q && chkE T N hot a sc p && chkE T N hot b sc q
    | none => false
  | .orE a b, sc, e => match vOr e with
    | some (p, q) => notIf p && notIf q && chkE T N hot a sc p && chkE T N hot b sc q
    | none => false
  | .notE a, sc, e => match vUn e with
    | some (.Not, p) => notIf p && chkE T N hot a sc p
    | _ => false
  | .ife c a b, sc, e => match vIf e with
    | some (r, p, q) => notIf r && chkE T N hot c sc r && chkE T N hot a sc p && chkE T N hot b sc q
    | none => false
  | .tupE as, sc, e => match vTup e with
    | some es => decide (as.length ≤ 100000) && es.all notStar && chkEs T N hot as sc es
    | none => false
  | .lstE as, sc, e => match vLst e with
    | some es => decide (as.length ≤ 100000) && es.all notStar && chkEs T N hot as sc es
    | none => false
  | .comp own frz tgt it cond elt, sc, e => match vComp e with
    | some (el, tg, iter, ifs, scope) => !hot && ((blkK N sc scope own).isSome && (tsl tgt).all (own.contains ·) && chkT N scope tgt tg && notSet iter && (chkI T N hot it sc iter && enmOk it tg) && chkE T N hot elt scope el &&
        (match cond, ifs with
          | none, [] => true
          | some c, [i] => notIf i && chkE T N hot c scope i
          | _, _ => false))
    | none => false
  | .nloc a, sc, e => plainT e && chkE T N hot a sc e
  | .callv i as, sc, e => match vCallN e with
    | some (y, es) => !hot && (decide (N[i]? = some y) && visK sc y && nmOk y && !es.isEmpty && es.all notStar && chkEs T N hot as sc es)
    | none => false
  | .meth m o as, sc, e => match vCallA e with
    | some (b, y, es) => !hot && (decide (T.nms[m]? = some y) && notSuper b && es.all notStar && decide (es.length < 30) && chkE T N hot o sc b && chkEs T N hot as sc es)
    | none => false
  | .mk c as, sc, e => match vCallN e with
    | some (y, es) => !hot && (decide (T.cnm c = some y) && glK sc y && nmOk y && es.all notStar && chkEs T N hot as sc es)
    | none => false
  | .eqm ng es, sc, e => match vCmp1 e with
    | some (p, o, q) => !hot && (decide (o = if ng then .NotEq else .Eq) && notSet q && chkEs T N hot es sc [p, q])
    | none => false
  | .chain o1 o2 a b c, sc, e => match vCmp2 e with
    | some (p, q1, q2, q, r) => decide (ordOf o1 = some q1) && decide (ordOf o2 = some q2) && notSet r && chkE T N hot a sc p && chkE T N hot b sc q && chkE T N hot c sc r
    | none => false
  | .exf i f, sc, e => match vAttr e with
    | some (o, m) => (match vName o with
      | some y => decide (N[i]? = some y) && visK sc y && nmOk y && decide (T.nms[f]? = some m)
      | none => false)
    | none => false
  | _, _, _ => false
def chkEs (T : Tx) (N : List Str) (hot : Bool) : List CE → Scope → List Expr → Bool
  | [], _, [] => true
  | c :: cs, sc, e :: es => chkE T N hot c sc e && chkEs T N hot cs sc es
  | _, _, _ => false
def chkI (T : Tx) (N : List Str) (hot : Bool) : CI → Scope → Expr → Bool
  | .ex c, sc, e => chkE T N hot c sc e
  | .enm c, sc, e => match vEnm e with
    | some (y, a) => y == "enumerate" && glK sc y && notStar a && chkE T N hot c sc a
    | none => false
  | .rng cs, sc, e => match vCallN e with
    | some (y, es) => y == "range" && glK sc y && es.all notStar && (es.length == 1 || es.length == 2) && chkEs T N hot cs sc es
    | none => false
  | _, _, _ => false
end
section
variable {G : Gm} {x : Exi} {W : WX} {X : Cx} {cx : Cxt} {cm : Bool} {N : List Str} {k : Nat} {sc scope : Scope} {T : Tx} {hot : Bool}
/-! ### the context of a block -/
theorem relS_free {sc : Scope} : ∀ {names : List (Str × NameKind)} {x : Str}, names.lookup x = some .free →
    (names.map fun (n, k) => if (k == NameKind.free && sc.kind == .function && sc.names.lookup n == some .cell) then (n, NameKind.cell) else (n, k)).lookup x = some .cell ∨
    (names.map fun (n, k) => if (k == NameKind.free && sc.kind == .function && sc.names.lookup n == some .cell) then (n, NameKind.cell) else (n, k)).lookup x = some .free
  | [], _, h => by simp at h
  | (n, k0) :: r, x, h => by
    have ih := @relS_free sc r x
    show List.lookup x ((if (k0 == NameKind.free && sc.kind == .function && sc.names.lookup n == some .cell) = true then (n, NameKind.cell) else (n, k0)) :: (r.map _)) = _ ∨ List.lookup x ((if (k0 == NameKind.free && sc.kind == .function && sc.names.lookup n == some .cell) = true then (n, NameKind.cell) else (n, k0)) :: (r.map _)) = _
    cases hx : x == n with
    | true =>
      simp only [List.lookup_cons, hx] at h
      cases h
      by_cases hc : (NameKind.free == NameKind.free && sc.kind == .function && sc.names.lookup n == some .cell) = true
      · rw [if_pos hc]; simp only [List.lookup_cons, hx]; exact .inl trivial
      · rw [if_neg hc]; simp only [List.lookup_cons, hx]; exact .inr trivial
    | false =>
      simp only [List.lookup_cons, hx] at h
      by_cases hc : (k0 == NameKind.free && sc.kind == .function && sc.names.lookup n == some .cell) = true
      · rw [if_pos hc]; simp only [List.lookup_cons, hx]; exact ih h
      · rw [if_neg hc]; simp only [List.lookup_cons, hx]; exact ih h
theorem visK_ {y : Str} (h : visK sc y = true) : sc.names.lookup y = some .local ∨ sc.names.lookup y = some .cell ∨ sc.names.lookup y = some .free := by
  unfold visK at h
  split at h
  · rename_i q; exact .inl q
  · rename_i q; exact .inr (.inl q)
  · rename_i q; exact .inr (.inr q)
  · cases h
theorem locK_ {y : Str} (h : locK sc y = true) : sc.names.lookup y = some .local ∨ sc.names.lookup y = some .cell := by
  unfold locK at h
  split at h
  · rename_i q; exact .inl q
  · rename_i q; exact .inr q
  · cases h
theorem glK_ {y : Str} (h : glK sc y = true) : sc.names.lookup y = some .globalImplicit := by simpa [glK] using h
/-- in a comprehension's block -/
theorem GX.blk (gx : GX G N k sc W X) (scope : Scope) (s : Shared) (H : Hp) (C : Addr) (cl : List (Str × Addr)) (fp : List Addr) : GX G N k scope W0 (X.blk s H scope (compEnvC scope cl C X.env) fp) where
  prog := gx.prog
  w := gx.w
  K := gx.K
  mg := gx.mg
  base := gx.base
  nN := gx.nN
  nd := gx.nd
  vis := fun y h => by
    show Vis (relS scope X.env.scope) y
    rcases visK_ h with h | h | h
    · exact .inl (lookup_relS_keep (by decide) h)
    · exact .inr (.inl (lookup_relS_keep (by decide) h))
    · rcases relS_free (sc := X.env.scope) h with q | q
      · exact .inr (.inl q)
      · exact .inr (.inr q)
  loc := fun y h => by
    show Loc (relS scope X.env.scope) y ∧ ((scope.names.lookup y == some .cell) = true ∨ (relS scope X.env.scope).names.lookup y = some .local)
    rcases locK_ h with h | h
    · exact ⟨.inl (lookup_relS_keep (by decide) h), .inr (lookup_relS_keep (by decide) h)⟩
    · exact ⟨.inr (lookup_relS_keep (by decide) h), .inl (by rw [h]; rfl)⟩
  gl := fun y h => by
    show (relS scope X.env.scope).names.lookup y = some .globalImplicit
    exact lookup_relS_keep (by decide) (glK_ h)
  fr := fun y h => by
    show (relS scope X.env.scope).names.lookup y = some .cell ∨ (relS scope X.env.scope).names.lookup y = some .free
    rcases h with h | h
    · exact .inl (lookup_relS_keep (by decide) h)
    · exact relS_free h
  room := gx.room
  grd := gx.grd
  un := gx.un
  calm := gx.calm
  tk := fun u s' ⟨_, _, _, _, _, _, _, _, _, _, _, _, _, _, _, _, w⟩ => w.elim
theorem blkK_ (gx : GX G N k sc W X) {own : List Nat} (h : (blkK N sc scope own).isSome = true) : ∃ ow : List (Str × Nat), ow.map (·.2) = own ∧ BlkOk X.N X.env.scope scope ow := by
  unfold blkK at h
  dsimp only at h
  split at h
  · rename_i hc
    rw [Bool.and_eq_true, decide_eq_true_eq] at hc
    refine ⟨_, hc.2, blkOk_by ?_⟩
    have hb := hc.1
    rw [gx.nN]
    unfold blkC at hb ⊢
    simp only [Bool.and_eq_true] at hb ⊢
    obtain ⟨hb1, hb2⟩ := hb
    refine ⟨hb1, ?_⟩
    rw [List.all_eq_true] at hb2 ⊢
    intro y hy
    have := hb2 y hy
    revert this
    cases y.2 with
    | free =>
      intro this
      have h1 : sc.names.lookup y.1 = some .cell ∨ sc.names.lookup y.1 = some .free := by
        dsimp only at this
        split at this
        · rename_i q; exact .inl q
        · rename_i q; exact .inr q
        · cases this
      rcases gx.fr _ h1 with q | q <;> (dsimp only; rw [q])
    | _ => intro this; exact this
  · cases h
/-! ### what has no rule of its own -/
theorem tE_nloc {ca : CE} {σ : L2.St} {H : Hp} {Q : VK} (h : tE G x W (ev cx cm (.nloc ca)) σ H Q) : tE G x W (ev cx cm ca) σ H Q := by
  obtain ⟨F, Z, L, r, S, B, P⟩ := h
  unfold ev at P
  rw [post_bind] at P
  refine ⟨F.at Z L, Z, L, r, S, B.here, P.imp (fun p r1 S1 P1 Z1 L1 H1 u B1 V1 => ?_) fun c vs r1 S1 E => E.at_ B.z0 B.l0⟩
  have B2 := B1.back B.z0 B.l0
  obtain ⟨v, m⟩ := p
  cases m with
  | fr =>
    obtain ⟨a, rfl, h1, h2, h3, h4, h5⟩ := V1
    have h1 : OwnAt G Z1 L1 H1 a v := h1
    have key : ∀ (c : Cell), c.pv = v → BRel G x F Z1 (L1 ++ [a]) r1 (S1 ++ [c]) σ H1 := fun c hc => by
      refine ⟨⟨B2.h.z0, B2.h.l0.trans (List.prefix_append _ _), B2.h.zs, B2.h.fs, by simp [B2.h.ln], ?_, fun n c' e => ?_, fun b hb => ?_, B2.h.zf⟩, B2.len, fun i s e => (B2.sl i s e).mono (Same.refl _) (List.prefix_append _ _) fun b o hb hs hu => ?_, B2.sp⟩
      · rw [List.nodup_append]
        refine ⟨B2.h.nd, by simp, fun b hb c hc e => ?_⟩
        rw [List.mem_singleton] at hc
        subst e; subst hc
        exact h4 hb
      · by_cases hn : n < S1.length
        · rw [List.getElem?_append_left hn] at e
          obtain ⟨b, k1, k2⟩ := B2.h.ce n c' e
          exact ⟨b, pre_get (List.prefix_append _ _) k1, k2.up (Same.refl _) (List.prefix_append _ _) rfl⟩
        · have hn2 : n = S1.length := by
            have := (List.getElem?_eq_some_iff.mp e).1
            simp at this; omega
          subst hn2
          rw [List.getElem?_append_right (Nat.le_refl _), Nat.sub_self] at e
          cases e
          refine ⟨a, ?_, ?_⟩
          · rw [← B2.h.ln, List.getElem?_append_right (Nat.le_refl _), Nat.sub_self]; rfl
          · rw [hc]; exact h1.up (Same.refl _) (List.prefix_append _ _) rfl
      · rcases List.mem_append.mp hb with hb | hb
        · exact B2.h.lz b hb
        · rw [List.mem_singleton] at hb
          subst hb
          exact ⟨h2, h3⟩
      · have hsl := B2.sl i s e
        cases s with
        | ow w =>
          rw [hu] at hsl
          obtain ⟨c2, e1, _, k2, k3, k4⟩ := hsl
          cases e1
          refine ⟨hb, k2, k3, fun z => ?_⟩
          rcases List.mem_append.mp z with z | z
          · exact k4 z
          · rw [List.mem_singleton] at z
            subst z
            refine h5 i _ e rfl ?_
            cases q3 : σ[i]? with
            | none => rw [q3] at hu; cases hu
            | some w2 => rw [q3] at hu; exact congrArg some hu
        | _ => cases hs
    have at_ : (L1 ++ [a])[S1.length]? = some a := by rw [← B2.h.ln, List.getElem?_append_right (Nat.le_refl _), Nat.sub_self]; rfl
    cases v with
    | lst xs => exact P1 _ _ _ _ (key (.lst xs) rfl) (.loc at_)
    | dct xs => exact P1 _ _ _ _ (key (.dct xs) rfl) (.loc at_)
    | _ => exact P1.elim
  | sh => exact P1.elim
  | bo i => exact P1.elim
/-! ### the soundness of expressions -/
theorem all_ns {es : List Expr} (h : es.all notStar = true) : ∀ e ∈ es, notStar e = true := fun e he => List.all_eq_true.mp h e he
/-- the fields of the caught error may be read -/
def XfOk (G : Gm) (x : Exi) (W : WX) (X : Cx) (cx : Cxt) (N : List Str) (sc : Scope) : Prop := ∀ (cm : Bool) (i f : Nat) (y m : Str) (p p2 : Pos), N[i]? = some y → visK sc y = true → nmOk y = true → G.nms[f]? = some m →
  PE X (.Attribute (.Name y p) m p2) (tE G x W (ev cx cm (.exf i f)))
theorem xf_none {e : Expr} {i f : Nat} : PE X e (tE G none W (ev cx cm (.exf i f))) := by
  refine PE.imp (t := fun _ _ _ => False) ⟨fun _ _ _ _ _ _ h => h.elim⟩ fun σ H Q ⟨F, Z, L, r, S, B, P⟩ => ?_
  unfold ev at P
  split at P
  · rename_i c vs q
    obtain ⟨u, h1, h2, a, d, h3, _⟩ := B.slot q (by intro z; cases z)
    cases h3
  · exact P.elim
mutual
theorem sndE (gs : GS G T cx k) : ∀ (ce : CE) (sc : Scope) (e : Expr) (W : WX) (X : Cx) (cm : Bool), GX0 G N sc W X → (hot = false → GX G N k sc W X ∧ x = none) → (hot = true → XfOk G x W X cx N sc) → T.nms = G.nms → chkE T N hot ce sc e = true → PET G x W X cx cm ce e
  | .k v, sc, e, W, X, cm, gx, gh, xo, tn, h => by
    unfold chkE at h
    split at h
    · rename_i c hc
      obtain ⟨j, p, rfl⟩ := vConst_ hc
      exact pet_const gx.K h
    · cases h
  | .var i, sc, e, W, X, cm, gx, gh, xo, tn, h => by
    unfold chkE at h
    split at h
    · rename_i y hy
      obtain ⟨p, rfl⟩ := vName_ hy
      simp only [Bool.and_eq_true, decide_eq_true_eq] at h
      exact pet_var gx.K (by rw [gx.nN]; exact h.1.1) (gx.vis _ h.1.2) h.2
    · cases h
  | .glb g, sc, e, W, X, cm, gx, gh, xo, tn, h => by
    unfold chkE at h
    split at h
    · rename_i y hy
      obtain ⟨p, rfl⟩ := vName_ hy
      simp only [Bool.and_eq_true, decide_eq_true_eq] at h
      exact pet_glb gs gx.K gx.mg (gx.gl _ h.1.2) h.1.1 h.2
    · cases h
  | .fnv f, sc, e, W, X, cm, gx, gh, xo, tn, h => by
    unfold chkE at h
    split at h
    · rename_i y hy
      obtain ⟨p, rfl⟩ := vName_ hy
      simp only [Bool.and_eq_true, decide_eq_true_eq] at h
      exact pet_fnv gs gx.K gx.mg (gx.gl _ h.1.2) h.1.1 h.2
    · cases h
  | .call f as, sc, e, W, X, cm, gx, gh, xo, tn, h => by
    unfold chkE at h
    split at h
    · rename_i y es hy
      obtain ⟨p, q, rfl⟩ := vCallN_ hy
      simp only [Bool.and_eq_true, decide_eq_true_eq, Bool.not_eq_true'] at h
      obtain ⟨hh, ⟨⟨⟨h1, h2⟩, h3⟩, h4⟩, h5⟩ := h
      obtain ⟨hl, hp⟩ := sndEs gs as sc es W X cm gx gh xo tn h5
      exact pet_call gs (gh hh).1 h2 h1 h3 (all_ns h4) hl (pa_evs hl (fun i e c a b => (hp i e c a b).v) fun e he es env => star_cons (all_ns h4 e he) es env)
    · cases h
  | .op o as, sc, e, W, X, cm, gx, gh, xo, tn, h => by
    unfold chkE at h
    split at h
    · rename_i es hy
      simp only [Bool.and_eq_true, Bool.not_eq_true', Bool.and_eq_false_iff] at h
      obtain ⟨hcm, h⟩ := h
      obtain ⟨hl, hp⟩ := sndEs gs as sc es W X cm gx gh xo tn h.2
      exact pet_op gs gx (fun e => (gh (by rcases hcm with q | q; exact q; rw [e] at q; cases q)).1.calm) hy hl (all_ns h.1) fun i e c a b => (hp i e c a b).v
    · split at h
      · rename_i f hf
        cases fldOf_ hf
        split at h
        · rename_i b m hv
          obtain ⟨p, rfl⟩ := vAttr_ hv
          simp only [Bool.and_eq_true, decide_eq_true_eq] at h
          obtain ⟨⟨h1, h2⟩, h3⟩ := h
          obtain ⟨hl, hp⟩ := sndEs gs as sc [b] W X cm gx gh xo tn h3
          obtain ⟨co, rfl⟩ := one_of hl.symm
          rw [tn] at h1
          exact pet_fld gs gx.K h1 h2 (hp 0 _ _ rfl rfl).v
        · cases h
      · split at h
        · rename_i c hc
          cases isiOf_ hc
          split at h
          · rename_i y a z hv
            obtain ⟨p, r, q, rfl⟩ := vIsi_ hv
            simp only [Bool.and_eq_true, decide_eq_true_eq, beq_iff_eq] at h
            obtain ⟨⟨⟨⟨⟨⟨h1, h2⟩, h3⟩, h4⟩, h5⟩, h6⟩, h7⟩ := h
            subst h1
            obtain ⟨hl, hp⟩ := sndEs gs as sc [a] W X cm gx gh xo tn h7
            obtain ⟨co, rfl⟩ := one_of hl.symm
            exact pet_isiC gs gx.K gx.mg (gx.gl _ h2) (by rw [gx.mg]; exact gs.blt _ (by decide)) (gx.gl _ h5) h4 h6 h3 (hp 0 _ _ rfl rfl).v
          · cases h
        · cases h
  | .andE a b, sc, e, W, X, cm, gx, gh, xo, tn, h => by
    unfold chkE at h
    split at h
    · rename_i p q hy
      simp only [Bool.and_eq_true] at h
      obtain ⟨⟨⟨h1, h2⟩, h3⟩, h4⟩ := h
      exact pet_and gx.K hy (sndE gs a sc p W X cm gx gh xo tn h3) (sndE gs b sc q W X cm gx gh xo tn h4) (notIf_ h1) (notIf_ h2)
    · cases h
  | .orE a b, sc, e, W, X, cm, gx, gh, xo, tn, h => by
    unfold chkE at h
    split at h
    · rename_i p q hy
      simp only [Bool.and_eq_true] at h
      obtain ⟨⟨⟨h1, h2⟩, h3⟩, h4⟩ := h
      exact pet_or gx.K hy (sndE gs a sc p W X cm gx gh xo tn h3) (sndE gs b sc q W X cm gx gh xo tn h4) (notIf_ h1) (notIf_ h2)
    · cases h
  | .notE a, sc, e, W, X, cm, gx, gh, xo, tn, h => by
    unfold chkE at h
    split at h
    · rename_i p hy
      simp only [Bool.and_eq_true] at h
      obtain ⟨r, rfl⟩ := vUn_ hy
      exact pet_not gx.K (sndE gs a sc p W X cm gx gh xo tn h.2) (notIf_ h.1)
    · cases h
  | .ife c a b, sc, e, W, X, cm, gx, gh, xo, tn, h => by
    unfold chkE at h
    split at h
    · rename_i r p q hy
      simp only [Bool.and_eq_true] at h
      obtain ⟨⟨⟨h1, h2⟩, h3⟩, h4⟩ := h
      obtain ⟨pp, rfl⟩ := vIf_ hy
      exact pet_ife (sndE gs c sc r W X cm gx gh xo tn h2) (notIf_ h1) (sndE gs a sc p W X cm gx gh xo tn h3) (sndE gs b sc q W X cm gx gh xo tn h4)
    · cases h
  | .tupE as, sc, e, W, X, cm, gx, gh, xo, tn, h => by
    unfold chkE at h
    split at h
    · rename_i es hy
      simp only [Bool.and_eq_true, decide_eq_true_eq] at h
      obtain ⟨j, p, rfl⟩ := vTup_ hy
      obtain ⟨hl, hp⟩ := sndEs gs as sc es W X cm gx gh xo tn h.2
      exact pet_tup gx.K h.1.1 (pa_evs hl (fun i e c a b => (hp i e c a b).v) fun e he es env => star_cons (all_ns h.1.2 e he) es env)
    · cases h
  | .lstE as, sc, e, W, X, cm, gx, gh, xo, tn, h => by
    unfold chkE at h
    split at h
    · rename_i es hy
      simp only [Bool.and_eq_true, decide_eq_true_eq] at h
      obtain ⟨p, rfl⟩ := vLst_ hy
      obtain ⟨hl, hp⟩ := sndEs gs as sc es W X cm gx gh xo tn h.2
      exact pet_lst gx.K h.1.1 (pa_evs hl (fun i e c a b => (hp i e c a b).v) fun e he es env => star_cons (all_ns h.1.2 e he) es env)
    · cases h
  | .comp own frz tgt it cond elt, sc, e, W, X, cm, gx, gh, xo, tn, h => by
    unfold chkE at h
    split at h
    · rename_i el tg iter ifs scope hy
      obtain ⟨p, rfl⟩ := vComp_ hy
      simp only [Bool.and_eq_true, Bool.not_eq_true'] at h
      obtain ⟨hh, ⟨⟨⟨⟨⟨h1, h2⟩, h3⟩, h4⟩, h5⟩, h6⟩, h7⟩ := h
      have gx0 := gx
      obtain ⟨gx, xn⟩ := gh hh
      obtain ⟨ow, ho, ok⟩ := blkK_ gx h1
      have ht : ∀ i ∈ tsl tgt, i ∈ own := fun i hi => by simpa using List.all_eq_true.mp h2 i hi
      have hi := sndI gs it sc iter W X cm tg false own gx0 gh xo tn h5.1 h5.2
      refine pet_plain gx.K ?_ rfl
      have key := pe_lc (pos := p) (elt := el) (te := tEe G x W0 fun r S => escB true (ev cx true elt r S)) (tt := tCond G x cx cond) (ifs := ifs) (g := gT G x own (asgT tgt)) gx.calm gx.nd hi ok
        (fun s H C cl fp => pg_asg (gx.blk scope s H C cl fp) tgt tg h3 ht)
        (fun s H C cl fp => by
          split at h7
          · exact pts_nil
          · rename_i c i
            rw [Bool.and_eq_true] at h7
            exact pts_one ((sndE gs c scope i W0 _ true (gx.blk scope s H C cl fp).toGX0 (fun _ => ⟨gx.blk scope s H C cl fp, xn⟩) (fun z => by rw [hh] at z; cases z) tn h7.2).t (notIf_ h7.1))
          · cases h7)
        (fun s H C cl fp => pe_esc (sndE gs elt scope el W0 _ true (gx.blk scope s H C cl fp).toGX0 (fun _ => ⟨gx.blk scope s H C cl fp, xn⟩) (fun z => by rw [hh] at z; cases z) tn h6).v)
        (fun z => folded_ok h4 z)
      rw [ho] at key
      exact key.imp fun σ H Q w => tE_comp w
    · cases h
  | .nloc a, sc, e, W, X, cm, gx, gh, xo, tn, h => by
    unfold chkE at h
    rw [Bool.and_eq_true] at h
    exact pet_plain gx.K ((sndE gs a sc e W X cm gx gh xo tn h.2).v.imp fun σ H Q w => tE_nloc w) h.1
  | .lcall _ _, _, _, _, _, _, _, _, _, _, h => by unfold chkE at h; cases h
  | .callv i as, sc, e, W, X, cm, gx, gh, xo, tn, h => by
    unfold chkE at h
    split at h
    · rename_i y es hy
      obtain ⟨p, q, rfl⟩ := vCallN_ hy
      simp only [Bool.and_eq_true, decide_eq_true_eq, Bool.not_eq_true'] at h
      obtain ⟨hh, ⟨⟨⟨⟨⟨h1, h2⟩, h3⟩, h4⟩, h5⟩, h6⟩⟩ := h
      obtain ⟨hl, hp⟩ := sndEs gs as sc es W X cm gx gh xo tn h6
      have pa := pa_evs hl (fun i e c a b => (hp i e c a b).v) fun e he es env => star_cons (all_ns h5 e he) es env
      cases es with
      | nil => cases h4
      | cons e es => exact pet_calv gs (gh hh).1 h1 h2 h3 (all_ns h5) pa
    · cases h
  | .meth m o as, sc, e, W, X, cm, gx, gh, xo, tn, h => by
    unfold chkE at h
    split at h
    · rename_i b y es hy
      obtain ⟨p, q, rfl, hln⟩ := vCallA_ hy
      simp only [Bool.and_eq_true, decide_eq_true_eq, Bool.not_eq_true'] at h
      obtain ⟨hh, ⟨⟨⟨⟨⟨h1, h2⟩, h3⟩, h4⟩, h5⟩, h6⟩⟩ := h
      obtain ⟨hl, hp⟩ := sndEs gs as sc es W X cm gx gh xo tn h6
      rw [tn] at h1
      exact pet_meth gs (gh hh).1 h1 h2 (all_ns h3) hln h4 (sndE gs o sc b W X cm gx gh xo tn h5).v hl (pa_evs hl (fun i e c a b => (hp i e c a b).v) fun e he es env => star_cons (all_ns h3 e he) es env)
    · cases h
  | .lmeth _ _ _, _, _, _, _, _, _, _, _, _, h => by unfold chkE at h; cases h
  | .mk c as, sc, e, W, X, cm, gx, gh, xo, tn, h => by
    unfold chkE at h
    split at h
    · rename_i y es hy
      obtain ⟨p, q, rfl⟩ := vCallN_ hy
      simp only [Bool.and_eq_true, decide_eq_true_eq, Bool.not_eq_true'] at h
      obtain ⟨hh, ⟨⟨⟨⟨h1, h2⟩, h3⟩, h4⟩, h5⟩⟩ := h
      obtain ⟨hl, hp⟩ := sndEs gs as sc es W X cm gx gh xo tn h5
      exact pet_mk gs (gh hh).1 h2 h3 h1 (all_ns h4) hl (pa_evs hl (fun i e c a b => (hp i e c a b).v) fun e he es env => star_cons (all_ns h4 e he) es env)
    · cases h
  | .eqm ng es, sc, e, W, X, cm, gx, gh, xo, tn, h => by
    unfold chkE at h
    split at h
    · rename_i p o q hy
      obtain ⟨pp, rfl⟩ := vCmp1_ hy
      simp only [Bool.and_eq_true, decide_eq_true_eq, Bool.not_eq_true'] at h
      obtain ⟨hh, ⟨⟨h1, h2⟩, h3⟩⟩ := h
      obtain ⟨hl, hp⟩ := sndEs gs es sc [p, q] W X cm gx gh xo tn h3
      obtain ⟨ca, cb, rfl⟩ := two_of hl.symm
      exact pet_eqm gs (gh hh).1 h1 h2 (hp 0 _ _ rfl rfl).v (hp 1 _ _ rfl rfl).v
    · cases h
  | .chain o1 o2 a b c, sc, e, W, X, cm, gx, gh, xo, tn, h => by
    unfold chkE at h
    split at h
    · rename_i p q1 q2 q r hy
      obtain ⟨pp, rfl⟩ := vCmp2_ hy
      simp only [Bool.and_eq_true, decide_eq_true_eq] at h
      obtain ⟨⟨⟨⟨⟨h1, h2⟩, h3⟩, h4⟩, h5⟩, h6⟩ := h
      exact pet_chain h1 h2 h3 (sndE gs a sc p W X cm gx gh xo tn h4).v (sndE gs b sc q W X cm gx gh xo tn h5).v (sndE gs c sc r W X cm gx gh xo tn h6).v
    · cases h
  | .dctE _, _, _, _, _, _, _, _, _, _, h => by unfold chkE at h; cases h
  | .exf i f, sc, e, W, X, cm, gx, gh, xo, tn, h => by
    unfold chkE at h
    split at h
    · rename_i o m hv
      obtain ⟨p2, rfl⟩ := vAttr_ hv
      split at h
      · rename_i y hy
        obtain ⟨p, rfl⟩ := vName_ hy
        simp only [Bool.and_eq_true, decide_eq_true_eq] at h
        obtain ⟨⟨⟨h1, h2⟩, h3⟩, h4⟩ := h
        rw [tn] at h4
        refine pet_plain gx.K ?_ rfl
        cases hh : hot with
        | true => exact xo hh cm i f y m p p2 h1 h2 h3 h4
        | false =>
          have xn := (gh hh).2
          subst xn
          exact xf_none
      · cases h
    · cases h
  | .srtk _ _, _, _, _, _, _, _, _, _, _, h => by unfold chkE at h; cases h
  | .srtm _ _ _, _, _, _, _, _, _, _, _, _, h => by unfold chkE at h; cases h
theorem sndEs (gs : GS G T cx k) : ∀ (ces : List CE) (sc : Scope) (es : List Expr) (W : WX) (X : Cx) (cm : Bool), GX0 G N sc W X → (hot = false → GX G N k sc W X ∧ x = none) → (hot = true → XfOk G x W X cx N sc) → T.nms = G.nms → chkEs T N hot ces sc es = true →
    es.length = ces.length ∧ ∀ (i : Nat) (e : Expr) (c : CE), es[i]? = some e → ces[i]? = some c → PET G x W X cx cm c e
  | [], sc, [], W, X, cm, gx, gh, xo, tn, h => ⟨rfl, fun i e c a b => by cases b⟩
  | c :: cs, sc, e :: es, W, X, cm, gx, gh, xo, tn, h => by
    unfold chkEs at h
    rw [Bool.and_eq_true] at h
    obtain ⟨hl, hp⟩ := sndEs gs cs sc es W X cm gx gh xo tn h.2
    have h0 := sndE gs c sc e W X cm gx gh xo tn h.1
    refine ⟨by simp [hl], fun i e' c' a b => ?_⟩
    cases i with
    | zero => cases a; cases b; exact h0
    | succ i => exact hp i e' c' a b
  | [], _, _ :: _, _, _, _, _, _, _, _, h => by unfold chkEs at h; cases h
  | _ :: _, _, [], _, _, _, _, _, _, _, h => by unfold chkEs at h; cases h
theorem sndI (gs : GS G T cx k) : ∀ (it : CI) (sc : Scope) (e : Expr) (W : WX) (X : Cx) (cm : Bool) (tg : Expr) (hd : Bool) (own : List Nat), GX0 G N sc W X → (hot = false → GX G N k sc W X ∧ x = none) → (hot = true → XfOk G x W X cx N sc) → T.nms = G.nms → chkI T N hot it sc e = true → enmOk it tg = true → PI X tg e (tI G x W hd own (evIt cx cm hd own it))
  | .ex c, sc, e, W, X, cm, tg, hd, own, gx, gh, xo, tn, h, _ => by
    unfold chkI at h
    exact pi_ex gx.K (sndE gs c sc e W X cm gx gh xo tn h).v
  | .rng cs, sc, e, W, X, cm, tg, hd, own, gx, gh, xo, tn, h, _ => by
    unfold chkI at h
    split at h
    · rename_i y es hy
      obtain ⟨p, q, rfl⟩ := vCallN_ hy
      simp only [Bool.and_eq_true, Bool.or_eq_true, beq_iff_eq] at h
      obtain ⟨⟨⟨⟨h1, h2⟩, h3⟩, h4⟩, h5⟩ := h
      subst h1
      obtain ⟨hl, hp⟩ := sndEs gs cs sc es W X cm gx gh xo tn h5
      have hm : X.mg "range" = none := by rw [gx.mg]; exact gs.blt _ (by decide)
      have ha := callPA (G := G) (x := x) (W := W) (cm := cm) (all_ns h3) hl fun i e c a b => (hp i e c a b).v
      rcases h4 with h4 | h4
      · obtain ⟨a, rfl⟩ := one_of h4
        obtain ⟨c, rfl⟩ := one_of hl.symm
        exact pi_rng1 (gx.gl _ h2) hm ha (all_ns h3 _ List.mem_cons_self)
      · obtain ⟨a, b, rfl⟩ := two_of h4
        obtain ⟨c, d, rfl⟩ := two_of hl.symm
        exact pi_rng2 (gx.gl _ h2) hm ha (all_ns h3 _ List.mem_cons_self) (all_ns h3 _ (List.mem_cons_of_mem _ List.mem_cons_self))
    · cases h
  | .enm c, sc, e, W, X, cm, tg, hd, own, gx, gh, xo, tn, h, ht => by
    unfold chkI at h
    split at h
    · rename_i y a hy
      obtain ⟨p, q, rfl⟩ := vEnm_ hy
      simp only [Bool.and_eq_true, beq_iff_eq] at h
      obtain ⟨⟨⟨h1, h2⟩, h3⟩, h4⟩ := h
      subst h1
      obtain ⟨elts, kk, tpos, rfl⟩ := isTupE_ ht
      exact pi_enm gx.K (gx.gl _ h2) (by rw [gx.mg]; exact gs.blt _ (by decide)) h3 (sndE gs c sc a W X cm gx gh xo tn h4).v
    · cases h
  | .items _, _, _, _, _, _, _, _, _, _, _, _, _, h, _ => by unfold chkI at h; cases h
  | .enmI _, _, _, _, _, _, _, _, _, _, _, _, _, h, _ => by unfold chkI at h; cases h
end
end
end Ci
namespace Ci
open PySem L2 PyProof.Rows
/-- what is wanted of an exception behind statements -/
def XPS (G : Gm) (x : Exi) (W : WX) (F : Frm) : Nat → List PV → Ev → Store → Prop := fun c vs r S => ∀ σ, XP G x W F σ c vs r S
/-- .. of their end -/
def FlK (G : Gm) (x : Exi) (F : Frm) (D : Ends) : Fl → Ev → Store → Prop := fun fl r' S' => match fl with
  | .nx => ∀ Z' L' H' σ', BRel G x F Z' L' r' S' σ' H' → D.nx σ' H'
  | .rt v fr => ∀ Z' L' H' u, HRel G F Z' L' S' H' → FR G F Z' L' H' v fr u → D.rt u H'
def tS (G : Gm) (x : Exi) (W : WX) (m : Ev → Store → Out Fl) : TS := fun D σ H => ∃ F Z L r S, BRel G x F Z L r S σ H ∧ Post (m r S) (FlK G x F D) (XPS G x W F)
/-- the context of statements -/
structure GXS (G : Gm) (N : List Str) (k : Nat) (sc : Scope) (W : WX) (X : Cx) : Prop extends GX G N k sc W X where
  scp : X.env.scope = sc
  kind : sc.kind = .function
  pass : PassesOwn (model X.prog X.w) X.A X.env X.xe
def NoE {α : Type} (o : Out α) : Prop := match o with
  | .exc _ _ _ _ => False
  | _ => True
theorem NoE.bind {α β : Type} {o : Out α} {f : α → Ev → Store → Out β} (h : NoE o) (k : ∀ a r S, NoE (f a r S)) : NoE (o.bind f) := by
  cases o with
  | ok a r S => exact k a r S
  | exc _ _ _ _ => exact h
  | bad _ => trivial
mutual
theorem asgT_no : ∀ (t : CT) (v : PV) (r : Ev) (S : Store), NoE (asgT t v r S)
  | .nm i, v, r, S => by unfold asgT; trivial
  | .tup ts, v, r, S => by
    unfold asgT
    split
    · split
      · exact asgTs_no ts _ r S
      · trivial
    · split
      · exact asgTs_no ts _ r S
      · trivial
    · trivial
theorem asgTs_no : ∀ (ts : List CT) (vs : List PV) (r : Ev) (S : Store), NoE (asgTs ts vs r S)
  | [], [], r, S => by unfold asgTs; trivial
  | t :: ts, v :: vs, r, S => by
    unfold asgTs
    exact (asgT_no t v r S).bind fun _ r S => asgTs_no ts vs r S
  | [], _ :: _, r, S => by unfold asgTs; trivial
  | _ :: _, [], r, S => by unfold asgTs; trivial
end
theorem Post.noE {α : Type} {o : Out α} {K : α → Ev → Store → Prop} {E E' : Nat → List PV → Ev → Store → Prop} (h : Post o K E) (n : NoE o) : Post o K E' := by
  cases o with
  | ok a r S => exact h
  | exc _ _ _ _ => exact n.elim
  | bad _ => exact h
section
variable {G : Gm} {x : Exi} {W : WX} {X : Cx} {cx : Cxt} {N : List Str} {k : Nat} {sc : Scope} {T : Tx} {e : Expr} {ce : CE} {pos : Pos} {D : Ends} {σ : L2.St} {H : Hp}
theorem XPS.at (F : Frm) {c : Nat} {vs : List PV} {r : Ev} {S : Store} (h : XPS G x W F c vs r S) : XP G x W F σ c vs r S := h σ
/-- from a statement's reading to its expression's -/
theorem tE_S {m : Ev → Store → Out (PV × Md)} {f : PV × Md → Ev → Store → Out Fl} {Q : VK} (h : tS G x W (fun r S => (m r S).bind f) D σ H)
    (k : ∀ F Z L r S H' u p, BRel G x F Z L r S σ H' → VR G F Z L r σ H' p.1 p.2 u → Post (f p r S) (FlK G x F D) (XPS G x W F) → Q u H') : tE G x W m σ H Q := by
  obtain ⟨F, Z, L, r, S, B, P⟩ := h
  rw [post_bind] at P
  exact ⟨F, Z, L, r, S, B, P.imp (fun p r1 S1 P1 Z1 L1 H1 u B1 V1 => k F Z1 L1 r1 S1 H1 u p B1 V1 P1) fun c vs r S E => E σ⟩
theorem tS_of {m m' : Ev → Store → Out Fl} (h : tS G x W m D σ H) (hm : ∀ r S K E, Post (m r S) K E → Post (m' r S) K E) : tS G x W m' D σ H := by
  obtain ⟨F, Z, L, r, S, B, P⟩ := h
  exact ⟨F, Z, L, r, S, B, hm _ _ _ _ P⟩
/-! ### swaps -/
def notComp : Expr → Bool
  | .ListComp _ _ _ _ => false
  | .SetComp _ _ _ _ => false
  | .DictComp _ _ _ _ _ => false
  | _ => true
theorem sw_no {t : Option Expr} {l : Nat} {env : Env} (h : notComp e = true) : swapsWith e t l env = pure false := by
  cases e <;> first | rfl | cases h
theorem sw_false {elt : Expr} {gs : List Comprehension} {scope : Scope} {pos py : Pos} {y : Str} {l : Nat} {env : Env} (hk : env.scope.kind = .function)
    (h : (decide (env.scope.names.lookup y = some .local) && (py.line == pos.line) && !(scope.names.any fun (n, k) => n == y && (k == .local || k == .cell))) = false) : swapsWith (.ListComp elt gs scope pos) (some (.Name y py)) l env = pure false := by
  have hb : env.blockKind = .function := by unfold Env.blockKind; rw [hk]; rfl
  unfold swapsWith
  simp only [hb, Expr.pos]
  have e1 : (env.kindOf y == some NameKind.local) = decide (env.scope.names.lookup y = some .local) := by
    show (env.scope.names.lookup y == some NameKind.local) = _
    rw [Bool.eq_iff_iff]; simp
  show pure (_ && _ && _ && _) = _
  rw [e1]
  have : ((ScopeKind.function == ScopeKind.function) && decide (env.scope.names.lookup y = some .local) && (py.line == pos.line) && !(scope.names.any fun (n, k) => n == y && (k == .local || k == .cell))) = false := by
    rw [show (ScopeKind.function == ScopeKind.function) = true from rfl, Bool.true_and]; exact h
  exact congrArg pure this
/-! ### small statements -/
theorem BRel.putFr {F : Frm} {Z : Hp} {L : List Addr} {r : Ev} {S : Store} {i : Nat} {v : PV} {u : V} (B : BRel G x F Z L r S σ H) (V1 : VR G F Z L r σ H v .fr u) : BRel G x F Z L (r.set i (.ow v)) S (σ.set i (some u)) H := by
  obtain ⟨a, rfl, h1, h2, h3, h4, h5⟩ := V1
  refine ⟨B.h, by rw [List.length_set, List.length_set]; exact B.len, fun j s e => ?_, fun j k s t b e1 o1 e2 o2 q1 q2 => ?_⟩
  · rcases set_get e with ⟨rfl, rfl, hl⟩ | ⟨hj, e'⟩
    · rw [List.getElem?_set_self (by rw [← B.len]; exact hl)]
      exact ⟨a, rfl, h1, h2, h3, h4⟩
    · rw [List.getElem?_set_ne (Ne.symm hj)]
      exact B.sl j s e'
  · rcases set_get e1 with ⟨rfl, rfl, hl1⟩ | ⟨n1, e1'⟩
    · rcases set_get e2 with ⟨rfl, rfl, _⟩ | ⟨n2, e2'⟩
      · rfl
      · rw [List.getElem?_set_self (by rw [← B.len]; exact hl1)] at q1
        rw [List.getElem?_set_ne (Ne.symm n2)] at q2
        cases q1
        exact absurd q2 (h5 k t e2' o2)
    · rcases set_get e2 with ⟨rfl, rfl, hl2⟩ | ⟨n2, e2'⟩
      · rw [List.getElem?_set_self (by rw [← B.len]; exact hl2)] at q2
        rw [List.getElem?_set_ne (Ne.symm n1)] at q1
        cases q2
        exact absurd q1 (h5 j s e1' o1)
      · rw [List.getElem?_set_ne (Ne.symm n1)] at q1
        rw [List.getElem?_set_ne (Ne.symm n2)] at q2
        exact B.sp j k s t b e1' o1 e2' o2 q1 q2
theorem BRel.putB {F : Frm} {Z : Hp} {L : List Addr} {r : Ev} {S : Store} {i : Nat} {v : PV} {m : Md} {u : V} (B : BRel G x F Z L r S σ H) (V1 : VR G F Z L r σ H v m u) : ∃ Z', Same Z Z' ∧ BRel G x F Z' L (putS v m i r) S (σ.set i (some u)) H := by
  cases m with
  | sh => exact ⟨Z, Same.refl _, B.setSh V1⟩
  | bo j =>
    obtain ⟨Z', s, B', R⟩ := B.low V1.2 V1.1
    refine ⟨Z', s, ?_⟩
    have e : lowS r j = r.set j (.sh v) := by
      unfold lowS getS
      rw [List.getD_eq_getElem?_getD, V1.2]; rfl
    show BRel G x F Z' L (setS (lowS r j) i (.sh v)) S _ H
    rw [e]
    exact B'.setSh R
  | fr => exact ⟨Z, Same.refl _, B.putFr V1⟩
theorem ps_asgS (gx : GX0 G N sc W X) {i : Nat} {y : Str} {p : Pos} (hN : N[i]? = some y) (hl : locK sc y = true) (hs : swapsWith e (some (.Name y p)) pos.line X.env = pure false) (he : PE X e (tE G x W (ev cx false ce))) :
    PS X (.Assign [.Name y p] e pos) (tS G x W (exec cx (.asg i ce))) := by
  obtain ⟨l1, l2⟩ := gx.loc y hl
  refine (ps_set gx.nd (by rw [gx.nN]; exact hN) l1 he hs l2).imp fun D σ H w => ?_
  have w' : tS G x W (fun r S => (ev cx false ce r S).bind fun x r S => .ok .nx (putS x.1 x.2 i r) S) D σ H := tS_of w fun r S K E P => by unfold exec at P; exact P
  exact tE_S w' fun F Z L r S H' u p B V1 P => by
    obtain ⟨Z', s, B'⟩ := B.putB (i := i) V1
    exact P Z' L H' _ B'
/-- name = [..] on one line -/
theorem ps_asgLc (gx : GXS G N k sc W X) {i : Nat} {y : Str} {p lp : Pos} {elt tg iter : Expr} {ifs : List Expr} {scope : Scope} {own frz : List Nat} {tgt : CT} {it : CI} {cond : Option CE} {celt : CE} (gs : GS G T cx k) (xn : x = none) (tn : T.nms = G.nms)
    (hN : N[i]? = some y) (hl : sc.names.lookup y = some .local) (hsw : swapsWith (.ListComp elt [⟨tg, iter, ifs, 0⟩] scope lp) (some (.Name y p)) pos.line X.env = pure true)
    (h : chkE T N false (.comp own frz tgt it cond celt) sc (.ListComp elt [⟨tg, iter, ifs, 0⟩] scope lp) = true) :
    PS X (.Assign [.Name y p] (.ListComp elt [⟨tg, iter, ifs, 0⟩] scope lp) pos) (tS G x W (exec cx (.asg i (.comp own frz tgt it cond celt)))) := by
  unfold chkE at h
  have hv : vComp (.ListComp elt [⟨tg, iter, ifs, 0⟩] scope lp) = some (elt, tg, iter, ifs, scope) := rfl
  rw [hv] at h
  simp only [Bool.and_eq_true] at h
  obtain ⟨_, ⟨⟨⟨⟨⟨h1, h2⟩, h3⟩, h4⟩, h5⟩, h6⟩, h7⟩ := h
  obtain ⟨ow, ho, ok⟩ := blkK_ gx.toGX h1
  have ht : ∀ i ∈ tsl tgt, i ∈ own := fun i hi => by simpa using List.all_eq_true.mp h2 i hi
  have hi := sndI gs (x := x) it sc iter W X false tg false own gx.toGX0 (fun _ => ⟨gx.toGX, xn⟩) (fun z => by cases z) tn h5.1 h5.2
  have key := ps_setLc (i := i) (py := p) (pos := lp) (spos := pos) (elt := elt) (te := tEe G x W0 fun r S => escB true (ev cx true celt r S)) (tt := tCond G x cx cond) (ifs := ifs) (g := gT G x own (asgT tgt)) gx.calm gx.nd (by rw [gx.nN]; exact hN) (by rw [gx.scp]; exact hl) hsw hi ok
    (fun s H C cl fp => pg_asg (gx.toGX.blk scope s H C cl fp) tgt tg h3 ht)
    (fun s H C cl fp => by
      split at h7
      · exact pts_nil
      · rename_i c i
        rw [Bool.and_eq_true] at h7
        exact pts_one ((sndE gs c scope i W0 _ true (gx.toGX.blk scope s H C cl fp).toGX0 (fun _ => ⟨gx.toGX.blk scope s H C cl fp, xn⟩) (fun z => by cases z) tn h7.2).t (notIf_ h7.1))
      · cases h7)
    (fun s H C cl fp => pe_esc (sndE gs celt scope elt W0 _ true (gx.toGX.blk scope s H C cl fp).toGX0 (fun _ => ⟨gx.toGX.blk scope s H C cl fp, xn⟩) (fun z => by cases z) tn h6).v)
    (fun z => folded_ok h4 z)
  rw [ho] at key
  refine key.imp fun D σ H w => ?_
  have w' : tS G x W (fun r S => (ev cx false (.comp own frz tgt it cond celt) r S).bind fun x r S => .ok .nx (putS x.1 x.2 i r) S) D σ H := tS_of w fun r S K E P => by unfold exec at P; exact P
  exact tE_comp (tE_S w' fun F Z L r S H' u p B V1 P => by
    obtain ⟨Z', s, B'⟩ := B.putB (i := i) V1
    exact P Z' L H' _ B')
theorem ps_unpS (gx : GXS G N k sc W X) {t : CT} {tg : Expr} (ht : chkT N sc t tg = true) (hs : swapsWithSole [tg] e pos.line X.env = pure false) (hw : swappedStores [tg] e X.env = pure none) (hst : notStar tg = true) (he : PE X e (tE G x W (ev cx false ce))) :
    PS X (.Assign [tg] e pos) (tS G x W (exec cx (.unp t ce))) := by
  refine (ps_asg he (pg_asg (x := x) (own := tsl t) gx.toGX t tg ht fun i hi => hi) hs hw (by rw [asgEach_cons hst]; rfl)).imp fun D σ H w => ?_
  have w' : tS G x W (fun r S => (ev cx false ce r S).bind fun x r S => (esc false x.1 x.2 r S).bind fun v r S => (asgT t v r S).bind fun _ r S => .ok .nx r S) D σ H := tS_of w fun r S K E P => by
    unfold exec escB at P
    rw [bind_bind] at P
    exact P
  exact tE_S w' fun F Z L r S H' u p B V1 P => by
    rw [post_bind] at P
    obtain ⟨Z2, r2, s2, B2, R2, K2⟩ := B.hand V1 P
    rw [post_bind] at K2
    exact ⟨F, Z2, L, r2, S, p.1, B2, R2, (K2.noE (asgT_no t p.1 r2 S)).imp (fun _ r3 S3 K3 σ' B3 _ _ => K3 _ _ _ _ B3) fun _ _ _ _ E => E⟩
theorem ps_expS (hn : notComp e = true) (he : PE X e (tE G x W (ev cx false ce))) : PS X (.Expr e pos) (tS G x W (exec cx (.exp ce))) :=
  (ps_expr he (sw_no hn)).imp fun D σ H w => by
    have w' : tS G x W (fun r S => (ev cx false ce r S).bind fun _ r S => .ok .nx r S) D σ H := tS_of w fun r S K E P => by unfold exec at P; exact P
    exact tE_S w' fun F Z L r S H' u p B V1 P => P Z L H' σ B
theorem VR.ret {F : Frm} {Z : Hp} {L : List Addr} {r : Ev} {S : Store} {v : PV} {m : Md} {u : V} (B : BRel G x F Z L r S σ H) (V1 : VR G F Z L r σ H v m u) : FR G F Z L H v (match m with | .sh => false | .fr => true | .bo _ => true) u := by
  cases m with
  | sh => exact V1
  | fr => obtain ⟨a, rfl, h1, h2, h3, h4, _⟩ := V1; exact ⟨a, rfl, h1, h2, h3, h4⟩
  | bo i =>
    have hs := B.sl i _ V1.2
    rw [V1.1] at hs
    exact hs
theorem ps_retS (he : PE X e (tE G x W (ev cx false ce))) : PS X (.Return (some e) pos) (tS G x W (exec cx (.ret ce))) :=
  (ps_ret he).imp fun D σ H w => by
    have w' : tS G x W (fun r S => (ev cx false ce r S).bind fun x r S => .ok (.rt x.1 (match x.2 with | .sh => false | .fr => true | .bo _ => true)) r S) D σ H := tS_of w fun r S K E P => by unfold exec at P; exact P
    exact tE_S w' fun F Z L r S H' u p B V1 P => by
      have := V1.ret B
      obtain ⟨v, m⟩ := p
      cases m <;> exact P Z L H' u B.h this
theorem ps_retNS : PS X (.Return none pos) (tS G x W (exec cx .retN)) :=
  ps_retN.imp fun D σ H w => by
    obtain ⟨F, Z, L, r, S, B, P⟩ := w
    unfold exec at P
    exact P Z L H .non B.h .non
theorem ps_passS : PS X (.Pass pos) (tS G x W (exec cx .pass)) :=
  ps_pass.imp fun D σ H w => by
    obtain ⟨F, Z, L, r, S, B, P⟩ := w
    unfold exec at P
    exact P Z L H σ B
theorem tT_S {m : Ev → Store → Out Bool} {f : Bool → Ev → Store → Out Fl} {Q : Bool → Hp → Prop} (h : tS G x W (fun r S => (m r S).bind f) D σ H)
    (k : ∀ F Z L r S H' b, BRel G x F Z L r S σ H' → Post (f b r S) (FlK G x F D) (XPS G x W F) → Q b H') : tT G x W m σ H Q := by
  obtain ⟨F, Z, L, r, S, B, P⟩ := h
  rw [post_bind] at P
  exact ⟨F, Z, L, r, S, B, P.imp (fun p r1 S1 P1 Z1 L1 H1 B1 => k F Z1 L1 r1 S1 H1 p B1 P1) fun c vs r S E => E σ⟩
theorem ps_ifS {c : Expr} {a b : List Stmt} {cc : CE} {ca cb : List CS} (hc : PT X c (tT G x W (evT cx false cc))) (ha : PSs X a (tS G x W (execs cx ca))) (hb : PSs X b (tS G x W (execs cx cb))) : PS X (.If c a b pos) (tS G x W (exec cx (.ife cc ca cb))) :=
  (ps_if hc ha hb).imp fun D σ H w => by
    have w' : tS G x W (fun r S => (evT cx false cc r S).bind fun t r S => if t then execs cx ca r S else execs cx cb r S) D σ H := tS_of w fun r S K E P => by
      unfold evT
      rw [bind_bind]
      unfold exec at P
      exact P
    exact tT_S w' fun F Z L r S H' t B P => by
      cases t with
      | true => exact ⟨F, Z, L, r, S, B, P⟩
      | false => exact ⟨F, Z, L, r, S, B, P⟩
theorem pss_consS {st : Stmt} {rest : List Stmt} {c : CS} {cs : List CS} (h1 : PS X st (tS G x W (exec cx c))) (h2 : PSs X rest (tS G x W (execs cx cs))) : PSs X (st :: rest) (tS G x W (execs cx (c :: cs))) :=
  (pss_cons h1 h2).imp fun D σ H ⟨F, Z, L, r, S, B, P⟩ => by
    unfold execs at P
    rw [post_bind] at P
    refine ⟨F, Z, L, r, S, B, P.imp (fun fl r1 S1 P1 => ?_) fun _ _ _ _ E => E⟩
    cases fl with
    | nx => exact fun Z1 L1 H1 σ1 B1 => ⟨F, Z1, L1, r1, S1, B1, P1⟩
    | rt v fr => exact P1
theorem pss_nilS : PSs X [] (tS G x W (execs cx [])) :=
  pss_nil.imp fun D σ H ⟨F, Z, L, r, S, B, P⟩ => by
    unfold execs at P
    exact P Z L H σ B
/-! ### loops -/
theorem ps_forS (gx : GXS G N k sc W X) {tg iter : Expr} {body : List Stmt} {kill : List Nat} {tgt : CT} {it : CI} {cb : List CS} (hi : PI X tg iter (tI G x W true [] (evIt cx false true [] it))) (ht : chkT N sc tgt tg = true) (hn : notSet iter = true)
    (hb : PSs X body (tS G x W (execs cx cb))) : PS X (.For tg iter body [] pos) (tS G x W (exec cx (.for_ kill tgt it cb))) := by
  refine (ps_for gx.pass gx.calm hi (pg_asg (x := x) (own := tsl tgt) gx.toGX tgt tg ht fun i h => h) hb fun z => folded_ok hn z).imp fun D σ H w => ?_
  obtain ⟨F, Z, L, r, S, B, P⟩ := w
  unfold exec at P
  rw [post_bind] at P
  refine ⟨F, Z, L, r, S, B, P.imp (fun xs r1 S1 P1 Z1 L1 H1 J Φ B1 St wk hlen => ?_) fun c vs r S E => E σ⟩
  let Wn : Nat → Nat → L2.St → Hp → Prop := fun i m σ H => m = xs.length - i ∧ i ≤ xs.length ∧ ∃ Z2 L2 r2 S2, BRel G x F Z2 L2 r2 S2 σ H ∧ Same Z1 Z2 ∧ L1 <+: L2 ∧
    Post (forLoop (fun x r S => (asgT tgt x (killS kill r) S).bind fun _ r S => execs cx cb r S) (killS kill) (xs.drop i) r2 S2) (FlK G x F D) (XPS G x W F)
  -- the frame as it stands at the loop's start keeps what is shared then
  have F1 : Same F.Z0 Z1 := B1.z0
  refine ⟨Wn, ⟨_, rfl, Nat.zero_le _, Z1, L1, r1, S1, B1, Same.refl _, List.prefix_refl _, P1⟩, fun i m σ H ⟨hm, hi, Z2, L2, r2, S2, B2, z2, l2, P2⟩ => ?_⟩
  have hΦ : Φ Z2 L2 H := St _ _ _ _ _ _ _ B2 z2 l2 fun h => by cases h
  by_cases hlt : i < xs.length
  · refine .inr ⟨wk.go i _ _ _ hΦ hlt, fun σ' H' => ∃ m', m' < m ∧ Wn (i + 1) m' σ' H', fun σ' H' h => h, fun u H' hy => ?_⟩
    have hx : xs[i]? = some xs[i] := List.getElem?_eq_getElem hlt
    obtain ⟨Z3, s3, B3, R3⟩ := B2.yld (wk.yld i _ _ _ _ _ _ hΦ hx hy)
    rw [List.drop_eq_getElem_cons hlt] at P2
    unfold forLoop at P2
    rw [post_bind, post_bind] at P2
    refine ⟨_, Z3, L2, _, S2, _, B3.killB kill, R3, (P2.noE (asgT_no tgt _ _ _)).imp (fun _ r4 S4 P4 σ2 B4 O1 O2 => ?_) fun _ _ _ _ E => E⟩
    have B5 := B4.here
    have c0 : Same F.Z0 Z3 := B4.z0
    have c1 : F.L0 <+: L2 := B4.l0
    refine ⟨F.at Z3 L2, Z3, L2, r4, S4, B5, P4.imp (fun fl r6 S6 P6 => ?_) fun c vs r S E σ => (E σ).at_ c0 c1⟩
    cases fl with
    | nx => exact fun Z7 L7 H7 σ7 B7 => ⟨xs.length - (i + 1), by omega, rfl, hlt, Z7, L7, r6, S6, B7.back c0 c1, z2.trans (s3.trans B7.h.z0), l2.trans B7.h.l0, P6⟩
    | rt v fr => exact fun Z7 L7 H7 u7 B7 f7 => P6 Z7 L7 H7 u7 (B7.back c0 c1) f7
  · have he : i = xs.length := by omega
    refine .inl ⟨wk.stop i _ _ _ hΦ (by omega), ?_⟩
    rw [List.drop_eq_nil_of_le (by omega)] at P2
    unfold forLoop at P2
    exact P2 _ _ _ _ (B2.killB kill)
theorem ps_whlS (gx : GXS G N k sc W X) {c : Expr} {body : List Stmt} {kill : List Nat} {cc : CE} {cb : List CS} (hc : PT X c (tT G x W (evT cx false cc))) (hb : PSs X body (tS G x W (execs cx cb))) : PS X (.While c body [] pos) (tS G x W (exec cx (.whl kill cc cb))) := by
  refine (ps_while gx.pass hc hb).imp fun D σ H ⟨F, Z, L, r, S, B, P⟩ => ?_
  unfold exec at P
  let f1 := fun r S => (ev cx false cc (killS kill r) S).bind fun x r S => truthO S x.1 r
  let Wn : Nat → L2.St → Hp → Prop := fun m σ H => ∃ Z r S L, BRel G x F Z L r S σ H ∧ Post (whlLoop f1 (fun r S => execs cx cb r S) (killS kill) m r S) (FlK G x F D) (XPS G x W F)
  refine ⟨Wn, ⟨whlMax, Z, r, S, L, B, P⟩, fun m σ H ⟨Z1, r1, S1, L1, B1, P1⟩ => ?_⟩
  cases m with
  | zero => exact P1.elim
  | succ m =>
    unfold whlLoop at P1
    rw [post_bind] at P1
    refine ⟨F, Z1, L1, killS kill r1, S1, B1.killB kill, P1.imp (fun b r2 S2 P2 Z2 L2 H2 B2 => ?_) fun c vs r S E => E σ⟩
    cases b with
    | true =>
      refine ⟨fun σ' H' => Wn m σ' H', fun σ' H' h => ⟨m, Nat.lt_succ_self m, h⟩, F, Z2, L2, r2, S2, B2, ?_⟩
      have P3 : Post ((execs cx cb r2 S2).bind _) _ _ := P2
      rw [post_bind] at P3
      refine P3.imp (fun fl r6 S6 P6 => ?_) fun _ _ _ _ E => E
      cases fl with
      | nx => exact fun Z7 L7 H7 σ7 B7 => ⟨Z7, r6, S6, L7, B7, P6⟩
      | rt v fr => exact P6
    | false => exact P2 _ _ _ _ (B2.killB kill)
end
end Ci
namespace Ci
open PySem L2 PyProof.Rows
/-- values with their modes that stand at one time -/
inductive VPs (G : Gm) (Z : Hp) (L : List Addr) (r : Ev) (σ : L2.St) (H : Hp) : Frm → List (PV × Md) → List V → Prop
  | nil {F : Frm} : VPs G Z L r σ H F [] []
  | sh {F : Frm} {v : PV} {u : V} {ps : List (PV × Md)} {us : List V} : Rep G Z L v u → VPs G Z L r σ H F ps us → VPs G Z L r σ H F ((v, .sh) :: ps) (u :: us)
  | bo {F : Frm} {v : PV} {j : Nat} {u : V} {ps : List (PV × Md)} {us : List V} : σ[j]? = some (some u) → VPs G Z L r σ H F ps us → VPs G Z L r σ H F ((v, .bo j) :: ps) (u :: us)
  | fr {F : Frm} {v : PV} {a : Addr} {o : HO} {ps : List (PV × Md)} {us : List V} : H a = some o → VR G F Z L r σ H v .fr (.ref a) → VPs G Z L r σ H (F.hold a o) ps us → VPs G Z L r σ H F ((v, .fr) :: ps) (.ref a :: us)
inductive VQs (G : Gm) (Z : Hp) (L : List Addr) (r : Ev) (σ : L2.St) (H : Hp) : Frm → List (PV × Bool) → List V → Prop
  | nil {F : Frm} : VQs G Z L r σ H F [] []
  | sh {F : Frm} {v : PV} {u : V} {ps : List (PV × Bool)} {us : List V} : Rep G Z L v u → VQs G Z L r σ H F ps us → VQs G Z L r σ H F ((v, false) :: ps) (u :: us)
  | fr {F : Frm} {v : PV} {a : Addr} {o : HO} {ps : List (PV × Bool)} {us : List V} : H a = some o → VR G F Z L r σ H v .fr (.ref a) → VQs G Z L r σ H (F.hold a o) ps us → VQs G Z L r σ H F ((v, true) :: ps) (.ref a :: us)
def tP (G : Gm) (x : Exi) (W : WX) (m : Ev → Store → Out (List (PV × Md))) : TA := fun σ H Q => ∃ F Z L r S, BRel G x F Z L r S σ H ∧
  Post (m r S) (fun ps r' S' => ∀ Z' L' H' us, BRel G x F Z' L' r' S' σ H' → VPs G Z' L' r' σ H' F ps us → Q us H') (XP G x W F σ)
theorem hold_comm {F : Frm} {a b : Addr} {o o' : HO} (h : a ≠ b) : (F.hold a o).hold b o' = (F.hold b o').hold a o := by
  unfold Frm.hold
  congr 1
  funext c
  unfold upd
  dsimp only
  by_cases h1 : c = b
  · subst h1
    rw [if_pos rfl, if_neg (fun z => h z.symm), if_pos rfl]
  · rw [if_neg h1]
    by_cases h2 : c = a
    · subst h2; rw [if_pos rfl, if_pos rfl]
    · rw [if_neg h2, if_neg h2, if_neg h1]
section
variable {G : Gm} {x : Exi} {W : WX} {X : Cx} {cx : Cxt} {N : List Str} {k : Nat} {sc : Scope} {T : Tx} {F : Frm} {Z Z' : Hp} {L L' : List Addr} {r r' : Ev} {S : Store} {σ : L2.St} {H : Hp}
/-- a fresh value is held back -/
theorem BRel.holdV {v : PV} {a : Addr} {o : HO} (B : BRel G x F Z L r S σ H) (h : VR G F Z L r σ H v .fr (.ref a)) (ho : H a = some o) : BRel G x (F.hold a o) Z L r S σ H := by
  obtain ⟨b, e, h1, h2, h3, h4, h5⟩ := h
  cases e
  exact B.hold ho h2 h3 h4 h5
/-- .. and given back -/
theorem BRel.giveV {v : PV} {a : Addr} {o : HO} {H' : Hp} {S' : Store} (h : VR G F Z L r σ H v .fr (.ref a)) (ho : H a = some o) (B : BRel G x (F.hold a o) Z' L' r' S' σ H') (z : Same Z Z') (l : L <+: L') : BRel G x F Z' L' r' S' σ H' ∧ VR G F Z' L' r' σ H' v .fr (.ref a) ∧ H' a = some o := by
  obtain ⟨b, e, h1, h2, h3, h4, h5⟩ := h
  cases e
  obtain ⟨k1, k2, k3, k4⟩ := B.held
  exact ⟨B.free1 h3, ⟨a, rfl, h1.up z l (k1.trans ho.symm), k2, h3, k3, k4⟩, k1⟩
theorem XP.hold {a : Addr} {o : HO} {c : Nat} {vs : List PV} (h : XP G x W F σ c vs r S) (hf : F.Fm a = none) : XP G x W (F.hold a o) σ c vs r S := fun Z L H d B R => h Z L H d (B.free1 hf) R
theorem VPs.fat {Z1 : Hp} {L1 : List Addr} : ∀ {ps : List (PV × Md)} {us : List V} {F F' : Frm}, F'.Fm = F.Fm → VPs G Z L r σ H F ps us → VPs G Z L r σ H F' ps us
  | _, _, _, _, _, .nil => .nil
  | _, _, _, _, e, .sh h t => .sh h (VPs.fat (Z1 := Z1) (L1 := L1) e t)
  | _, _, _, _, e, .bo h t => .bo h (VPs.fat (Z1 := Z1) (L1 := L1) e t)
  | _, _, F, F', e, .fr (a := a) (o := o) h1 h2 t => .fr h1 (by obtain ⟨b, e1, k1, k2, k3, k4⟩ := h2; exact ⟨b, e1, k1, k2, by rw [e]; exact k3, k4⟩) (VPs.fat (Z1 := Z1) (L1 := L1) (F' := F'.hold a o) (F := F.hold a o) (by show upd F'.Fm a o = upd F.Fm a o; rw [e]) t)
theorem pa_evp : ∀ {es : List Expr} {ces : List CE}, es.length = ces.length → (∀ (i : Nat) (e : Expr) (ce : CE), es[i]? = some e → ces[i]? = some ce → PE X e (tE G x W (ev cx false ce))) →
    (∀ e ∈ es, notStar e = true) → PA X es (tP G x W (evp cx ces))
  | [], [], _, _, _ => pa_nil.imp fun σ H Q ⟨F, Z, L, r, S, B, P⟩ => P Z L H [] B .nil
  | [], _ :: _, h, _, _ => by simp at h
  | _ :: _, [], h, _, _ => by simp at h
  | e :: es, ce :: ces, hl, hp, hs => by
    have ih := pa_evp (es := es) (ces := ces) (by simpa using hl) (fun i e' ce' h1 h2 => hp (i + 1) e' ce' (by simpa using h1) (by simpa using h2)) (fun e' he => hs e' (List.mem_cons_of_mem _ he))
    refine (pa_cons (hp 0 e ce (by simp) (by simp)) ih (star_cons (hs e List.mem_cons_self) es X.env)).imp fun σ H Q ⟨F, Z, L, r, S, B, P⟩ => ?_
    unfold evp at P
    rw [post_bind] at P
    refine ⟨F.at Z L, Z, L, r, S, B.here, P.imp (fun p r1 S1 P1 Z1 L1 H1 u B1 V1 => ?_) fun c vs r1 S1 E => E.at_ B.z0 B.l0⟩
    rw [post_bind] at P1
    have B2 := B1.back B.z0 B.l0
    obtain ⟨v, m⟩ := p
    cases m with
    | sh =>
      refine ⟨F.at Z1 L1, Z1, L1, r1, S1, B2.here, P1.imp (fun ps r3 S3 P3 Z3 L3 H3 us B4 V4 => ?_) fun c vs r3 S3 E => E.at_ B2.z0 B2.l0⟩
      exact P3 Z3 L3 H3 (u :: us) (B4.back B2.z0 B2.l0) (.sh (Rep.up B4.z0 B4.l0 V1) (VPs.fat (Z1 := Z) (L1 := L) (F := F.at Z1 L1) rfl V4))
    | bo j =>
      refine ⟨F.at Z1 L1, Z1, L1, r1, S1, B2.here, P1.imp (fun ps r3 S3 P3 Z3 L3 H3 us B4 V4 => ?_) fun c vs r3 S3 E => E.at_ B2.z0 B2.l0⟩
      exact P3 Z3 L3 H3 (u :: us) (B4.back B2.z0 B2.l0) (.bo V1.1 (VPs.fat (Z1 := Z) (L1 := L) (F := F.at Z1 L1) rfl V4))
    | fr =>
      have V2 : VR G F Z1 L1 r1 σ H1 v .fr u := V1
      obtain ⟨a, rfl, h1, h2, h3, h4, h5⟩ := V1
      obtain ⟨o, ho⟩ := h1.has
      have B3 := (B2.holdV V2 ho)
      refine ⟨(F.hold a o).at Z1 L1, Z1, L1, r1, S1, B3.here, P1.imp (fun ps r3 S3 P3 Z3 L3 H3 us B4 V4 => ?_) fun c vs r3 S3 E => (XP.hold E h3).at_ B2.z0 B2.l0⟩
      obtain ⟨B5, V5, ho5⟩ := BRel.giveV V2 ho (B4.back (F := F.hold a o) B2.z0 B2.l0) B4.z0 B4.l0
      exact P3 Z3 L3 H3 (.ref a :: us) B5 (.fr ho5 V5 (VPs.fat (Z1 := Z) (L1 := L) (F := (F.hold a o).at Z1 L1) rfl V4))
theorem VPs.len : ∀ {ps : List (PV × Md)} {us : List V} {F : Frm}, VPs G Z L r σ H F ps us → ps.length = us.length
  | _, _, _, .nil => rfl
  | _, _, _, .sh _ t => by simp [VPs.len t]
  | _, _, _, .bo _ t => by simp [VPs.len t]
  | _, _, _, .fr _ _ t => by simp [VPs.len t]
theorem VQs.len : ∀ {ps : List (PV × Bool)} {us : List V} {F : Frm}, VQs G Z L r σ H F ps us → ps.length = us.length
  | _, _, _, .nil => rfl
  | _, _, _, .sh _ t => by simp [VQs.len t]
  | _, _, _, .fr _ _ t => by simp [VQs.len t]
/-- what is shared meanwhile: the rest stands -/
theorem VPs.low {j : Nat} {w : PV} {b : Addr} {o' : HO} (hz : Same Z Z') (hb : ∀ a, Z a = none → a ≠ b → Z' a = none) (hj : r[j]? = some (.ow w)) (hσ : σ[j]? = some (some (.ref b))) : ∀ {ps : List (PV × Md)} {us : List V} {F : Frm}, VPs G Z L r σ H F ps us → VPs G Z' L (r.set j (.sh w)) σ H F ps us
  | _, _, _, .nil => .nil
  | _, _, _, .sh h t => .sh (Rep.up hz (List.prefix_refl _) h) (VPs.low (o' := o') hz hb hj hσ t)
  | _, _, _, .bo h t => .bo h (VPs.low (o' := o') hz hb hj hσ t)
  | _, _, _, .fr (a := a) h1 h2 t => by
    obtain ⟨c, e, k1, k2, k3, k4, k5⟩ := h2
    cases e
    have hab : a ≠ b := fun q => k5 j _ hj rfl (by rw [q]; exact hσ)
    refine .fr h1 ⟨a, rfl, k1.up hz (List.prefix_refl _) rfl, hb a k2 hab, k3, k4, fun i s e1 hs e2 => ?_⟩ (VPs.low (o' := o') hz hb hj hσ t)
    rcases set_get e1 with ⟨_, rfl, _⟩ | ⟨_, e1'⟩
    · cases hs
    · exact k5 i s e1' hs e2
theorem Same.low {a : Addr} {o : HO} : ∀ b, Z b = none → b ≠ a → upd Z a o b = none := fun b h n => by rw [upd_ne n]; exact h
theorem VPs.settle : ∀ {ps : List (PV × Md)} {us : List V} {F : Frm} {Z : Hp} {r : Ev} {ys : List (PV × Bool)} {r' : Ev}, BRel G x F Z L r S σ H → VPs G Z L r σ H F ps us → Ci.settle ps r = some (ys, r') →
    ∃ Z', Same Z Z' ∧ BRel G x F Z' L r' S σ H ∧ VQs G Z' L r' σ H F ys us
  | [], _, F, Z, r, ys, r', B, .nil, e => by cases e; exact ⟨Z, Same.refl _, B, .nil⟩
  | (v, .sh) :: ps, _, F, Z, r, ys, r', B, .sh h t, e => by
    unfold Ci.settle at e
    cases q : Ci.settle ps r with
    | none => rw [q] at e; cases e
    | some p =>
      rw [q] at e; cases e
      obtain ⟨Z', s, B', V'⟩ := VPs.settle B t q
      exact ⟨Z', s, B', .sh (Rep.up s (List.prefix_refl _) h) V'⟩
  | (v, .fr) :: ps, _, F, Z, r, ys, r', B, .fr (a := a) (o := o) h1 h2 t, e => by
    unfold Ci.settle at e
    cases q : Ci.settle ps r with
    | none => rw [q] at e; cases e
    | some p =>
      rw [q] at e; cases e
      obtain ⟨Z', s, B', V'⟩ := VPs.settle (B.holdV h2 h1) t q
      have h2' := h2
      obtain ⟨b, e1, k1, k2, k3, k4, k5⟩ := h2'
      cases e1
      obtain ⟨j1, j2, j3, j4⟩ := B'.held
      exact ⟨Z', s, B'.free1 k3, .fr h1 ⟨a, rfl, k1.up s (List.prefix_refl _) rfl, j2, k3, j3, j4⟩ V'⟩
  | (v, .bo j) :: ps, _, F, Z, r, ys, r', B, .bo (u := u) h t, e => by
    unfold Ci.settle at e
    dsimp only at e
    split at e
    · rename_i w q0
      obtain ⟨u', g1, g2, g3⟩ := B.slot q0 (by intro z; cases z)
      rw [h] at g1; cases g1
      obtain ⟨b, rfl, k1, k2, k3, k4⟩ := g3
      obtain ⟨o, ho, hr⟩ := OwnAt.frz (x := w) k1 k2
      have el : lowS r j = r.set j (.sh w) := by
        unfold lowS
        rw [q0]
      rw [el] at e
      cases q : Ci.settle ps (r.set j (.sh w)) with
      | none => rw [q] at e; cases e
      | some p =>
        rw [q] at e; cases e
        have B1 : BRel G x F (upd Z b o) L (r.set j (.sh w)) S σ H := by
          have B2 := B
          refine ⟨B.h.share ho k2 k3 k4, by rw [List.length_set]; exact B.len, fun i s e => ?_, fun i k s t b e1 o1 e2 o2 q1 q2 => ?_⟩
          · rcases set_get e with ⟨rfl, rfl, _⟩ | ⟨hj, e'⟩
            · rw [h]; exact hr
            · refine (B.sl i s e').mono (same_upd k2) (List.prefix_refl _) fun c o' hc hs hub => ?_
              have hsl := B.sl i s e'
              cases s with
              | ow w2 =>
                rw [hub] at hsl
                obtain ⟨c2, e1, _, z2, z3, z4⟩ := hsl
                cases e1
                refine ⟨hc, ?_, z3, z4⟩
                rw [upd_ne]; exact z2
                intro q
                subst q
                have q2 : σ[i]? = some (some (V.ref c)) := by
                  cases q3 : σ[i]? with
                  | none => rw [q3] at hub; cases hub
                  | some w2 => rw [q3] at hub; exact congrArg some hub
                exact hj (B.sp i j _ _ c e' rfl g2 rfl q2 h)
              | _ => cases hs
          · rcases set_get e1 with ⟨_, rfl, _⟩ | ⟨_, e1'⟩
            · cases o1
            · rcases set_get e2 with ⟨_, rfl, _⟩ | ⟨_, e2'⟩
              · cases o2
              · exact B.sp i k s t b e1' o1 e2' o2 q1 q2
        obtain ⟨Z', s, B', V'⟩ := VPs.settle B1 (VPs.low (o' := o) (same_upd k2) Same.low g2 h t) q
        exact ⟨Z', (same_upd k2).trans s, B', .sh (hr.up s (List.prefix_refl _)) V'⟩
    · rename_i w q0
      obtain ⟨u', g1, g2, g3⟩ := B.slot q0 (by intro z; cases z)
      rw [h] at g1; cases g1
      cases q : Ci.settle ps r with
      | none => rw [q] at e; cases e
      | some p =>
        rw [q] at e; cases e
        obtain ⟨Z', s, B', V'⟩ := VPs.settle B t q
        exact ⟨Z', s, B', .sh (Rep.up s (List.prefix_refl _) g3) V'⟩
    · cases e
/-- a value stored under a name -/
theorem BRel.putQ {i : Nat} {v : PV} {f : Bool} {u : V} (B : BRel G x F Z L r S σ H) (h : if f = true then VR G F Z L r σ H v .fr u else Rep G Z L v u) : BRel G x F Z L (setS r i (if f then .ow v else .sh v)) S (σ.set i (some u)) H := by
  cases f with
  | false => exact B.setSh h
  | true => exact B.putFr h
def setQ : L2.St → List Nat → List V → L2.St
  | σ, i :: is, u :: us => setQ (σ.set i (some u)) is us
  | σ, _, _ => σ
theorem VQs.setSh {i : Nat} {w : PV} {u0 : V} : ∀ {ps : List (PV × Bool)} {us : List V} {F : Frm}, VQs G Z L r σ H F ps us → VQs G Z L (r.set i (.sh w)) (σ.set i (some u0)) H F ps us
  | _, _, _, .nil => .nil
  | _, _, _, .sh h t => .sh h (VQs.setSh t)
  | _, _, _, .fr (a := a) h1 h2 t => by
    obtain ⟨c, e, k1, k2, k3, k4, k5⟩ := h2
    cases e
    refine .fr h1 ⟨a, rfl, k1, k2, k3, k4, fun j s e1 hs e2 => ?_⟩ (VQs.setSh t)
    rcases set_get e1 with ⟨_, rfl, _⟩ | ⟨n, e1'⟩
    · cases hs
    · rw [List.getElem?_set_ne (Ne.symm n)] at e2
      exact k5 j s e1' hs e2
theorem VQs.fm : ∀ {ps : List (PV × Bool)} {us : List V} {F F' : Frm}, F'.Fm = F.Fm → VQs G Z L r σ H F ps us → VQs G Z L r σ H F' ps us
  | _, _, _, _, _, .nil => .nil
  | _, _, _, _, e, .sh h t => .sh h (VQs.fm e t)
  | _, _, F, F', e, .fr (a := a) (o := o) h1 h2 t => .fr h1 (by obtain ⟨b, e1, k1, k2, k3, k4⟩ := h2; exact ⟨b, e1, k1, k2, by rw [e]; exact k3, k4⟩) (VQs.fm (F' := F'.hold a o) (F := F.hold a o) (by show upd F'.Fm a o = upd F.Fm a o; rw [e]) t)
theorem VQs.setOw {i : Nat} {w : PV} {b : Addr} {o' : HO} : ∀ {ps : List (PV × Bool)} {us : List V} {F : Frm}, F.Fm b = none → VQs G Z L r σ H (F.hold b o') ps us → VQs G Z L (r.set i (.ow w)) (σ.set i (some (.ref b))) H F ps us
  | _, _, _, _, .nil => .nil
  | _, _, _, hb, .sh h t => .sh h (VQs.setOw hb t)
  | _, _, F, hb, .fr (a := a) (o := o) h1 h2 t => by
    obtain ⟨c, e, k1, k2, k3, k4, k5⟩ := h2
    cases e
    have k3' : upd F.Fm b o' a = none := k3
    have hab : a ≠ b := fun q => by rw [q, upd_same] at k3'; cases k3'
    rw [upd_ne hab] at k3'
    refine .fr h1 ⟨a, rfl, k1, k2, k3', k4, fun j s e1 hs e2 => ?_⟩ (VQs.setOw (F := F.hold a o) (by show upd F.Fm a o b = none; rw [upd_ne (Ne.symm hab)]; exact hb) (by rw [hold_comm hab]; exact t))
    rcases set_get e1 with ⟨rfl, rfl, hl⟩ | ⟨n, e1'⟩
    · by_cases hl2 : j < σ.length
      · rw [List.getElem?_set_self hl2] at e2
        cases e2; exact hab rfl
      · rw [List.getElem?_eq_none (by simpa using hl2)] at e2; cases e2
    · rw [List.getElem?_set_ne (Ne.symm n)] at e2
      exact k5 j s e1' hs e2
theorem BRel.putAll : ∀ {ts : List Nat} {ys : List (PV × Bool)} {us : List V} {r : Ev} {σ : L2.St}, BRel G x F Z L r S σ H → VQs G Z L r σ H F ys us → ts.length = ys.length → BRel G x F Z L (putMany ts ys r) S (setQ σ ts us) H
  | [], [], _, r, σ, B, .nil, _ => B
  | i :: ts, _ :: ys, _, r, σ, B, .sh (u := u) h t, e => BRel.putAll (ts := ts) (B.putQ (i := i) (f := false) h) t.setSh (by simpa using e)
  | i :: ts, _ :: ys, _, r, σ, B, .fr (a := a) h1 h2 t, e => BRel.putAll (ts := ts) (B.putQ (i := i) (f := true) h2) (by
      obtain ⟨c, e, _, _, k3, _⟩ := h2
      cases e
      exact VQs.setOw k3 t) (by simpa using e)
  | [], _ :: _, _, _, _, _, _, e => by simp at e
  | _ :: _, [], _, _, _, _, _, e => by simp at e
theorem VQs.alloc {p : Addr} {o' : HO} (hp : H p = none) : ∀ {ps : List (PV × Bool)} {us : List V} {F : Frm}, VQs G Z L r σ H F ps us → VQs G Z L r σ (upd H p o') F ps us
  | _, _, _, .nil => .nil
  | _, _, _, .sh h t => .sh h (VQs.alloc hp t)
  | _, _, _, .fr (a := a) h1 h2 t => by
    obtain ⟨c, e, k1, k2⟩ := h2
    cases e
    have hap : a ≠ p := fun q => by rw [q, hp] at h1; cases h1
    exact .fr (by rw [upd_ne hap]; exact h1) ⟨a, rfl, k1.but hap, k2⟩ (VQs.alloc hp t)
/-! names -/
def chkNs (N : List Str) (sc : Scope) : List Nat → List Expr → Bool
  | [], [] => true
  | i :: is, e :: es => (match vName e with | some y => decide (N[i]? = some y) && locK sc y | none => false) && chkNs N sc is es
  | _, _ => false
theorem chkNs_star : ∀ {ts : List Nat} {es : List Expr}, chkNs N sc ts es = true → (∀ e ∈ es, notStar e = true) ∧ ts.length = es.length
  | [], [], _ => ⟨fun _ h => (nomatch h), rfl⟩
  | i :: is, e :: es, h => by
    unfold chkNs at h
    rw [Bool.and_eq_true] at h
    obtain ⟨k1, k2⟩ := chkNs_star h.2
    refine ⟨fun e' he => ?_, by simp [k2]⟩
    rcases List.mem_cons.mp he with rfl | he
    · cases e' <;> first | rfl | (simp [vName] at h)
    · exact k1 e' he
  | [], _ :: _, h => by unfold chkNs at h; cases h
  | _ :: _, [], h => by unfold chkNs at h; cases h
theorem pgs_ns (gx : GX G N k sc W X) : ∀ {ts : List Nat} {es : List Expr}, chkNs N sc ts es = true → PGs X es (fun us σ H Q => us.length = ts.length ∧ Q (setQ σ ts us) H)
  | [], [], _ => pgs_nil.imp fun us σ H Q ⟨h1, h2⟩ => by
    have e : us = [] := List.eq_nil_of_length_eq_zero h1
    subst e
    exact ⟨rfl, h2⟩
  | i :: is, e :: es, h => by
    have hst := (chkNs_star h).1
    unfold chkNs at h
    rw [Bool.and_eq_true] at h
    obtain ⟨h1, h2⟩ := h
    split at h1
    · rename_i y hy
      obtain ⟨p, rfl⟩ := vName_ hy
      simp only [Bool.and_eq_true, decide_eq_true_eq] at h1
      obtain ⟨l1, l2⟩ := gx.loc y h1.2
      refine (pgs_cons (pg_name gx.nd (by rw [gx.nN]; exact h1.1) l1 l2) (pgs_ns gx h2) rfl).imp fun us σ H Q ⟨k1, k2⟩ => ?_
      cases us with
      | nil => simp at k1
      | cons u us => exact ⟨u, us, rfl, by simpa using k1, k2⟩
    · cases h1
  | [], _ :: _, h => by unfold chkNs at h; cases h
  | _ :: _, [], h => by unfold chkNs at h; cases h
/-! ### a, b = x, y -/
def nmF (sc : Scope) (line : Nat) : Expr → Option Str
  | .Name id pos => if sc.names.lookup id == some .local && pos.line == line then some id else none
  | _ => none
def swK (sc : Scope) (ts vs : List Expr) : Option (Option (List Str)) :=
  if !(ts.length == 2 || ts.length == 3) || vs.length != ts.length then some none else
  if vs.any (fun | .Starred .. => true | _ => false) then some none else
  let line := (ts.head?.map (·.pos.line)).getD 0
  let names := ts.filterMap (nmF sc line)
  if names.length != ts.length || names.eraseDups.length != names.length then some none else
  if vs.all (foldedForSure 8) then some none else
  if vs.all (constantsAlone 8) then none else some (some names)
theorem swK_ {env : Env} {ts vs : List Expr} {o : Option (List Str)} {k1 k2 : Nat} {p1 p2 : Pos} (hk : env.scope.kind = .function) (h : swK env.scope ts vs = some o) : swappedStores [.Tuple ts k1 p1] (.Tuple vs k2 p2) env = pure o := by
  have hb : env.blockKind = .function := by unfold Env.blockKind; rw [hk]; rfl
  unfold swK at h
  unfold swappedStores
  simp only [hb]
  have e0 : (ScopeKind.function != ScopeKind.function) = false := by decide
  simp only [e0, Bool.or_false]
  split at h
  · rename_i q
    cases h
    exact if_pos q
  · rename_i q
    refine (if_neg q).trans ?_
    split at h
    · rename_i q
      cases h
      exact if_pos q
    · rename_i q
      refine (if_neg q).trans ?_
      dsimp only at h
      split at h
      · rename_i q
        cases h
        exact if_pos q
      · rename_i q
        refine (if_neg q).trans ?_
        split at h
        · rename_i q
          cases h
          exact if_pos q
        · rename_i q
          refine (if_neg q).trans ?_
          split at h
          · cases h
          · rename_i q
            cases h
            exact (if_neg q).trans rfl
def distinct2 : List Nat → Bool
  | [i, j] => i != j
  | [i, j, l] => i != j && i != l && j != l
  | _ => true
theorem tP_S {ts : List Nat} {ces : List CE} {D : Ends} (h : tS G x W (exec cx (.par ts ces)) D σ H) : tP G x W (evp cx ces) σ H fun us H' => us.length = ts.length ∧ ∀ H'', (H'' = H' ∨ ∃ p o, H' p = none ∧ H'' = upd H' p o) → D.nx (setQ σ ts us) H'' := by
  obtain ⟨F, Z, L, r, S, B, P⟩ := h
  unfold exec at P
  rw [post_bind] at P
  refine ⟨F, Z, L, r, S, B, P.imp (fun ps r1 S1 P1 Z1 L1 H1 us B1 V1 => ?_) fun c vs r S E => E σ⟩
  cases q : settle ps r1 with
  | none => rw [q] at P1; exact P1.elim
  | some y =>
    obtain ⟨ys, r2⟩ := y
    rw [q] at P1
    dsimp only at P1
    split at P1
    · rename_i hl
      obtain ⟨Z2, s2, B2, V2⟩ := V1.settle B1 q
      refine ⟨by rw [← V2.len, hl], fun H'' hh => ?_⟩
      rcases hh with rfl | ⟨p, o, hp, rfl⟩
      · exact P1 Z2 L1 _ _ (B2.putAll V2 hl)
      · exact P1 Z2 L1 _ _ ((B2.alloc hp).putAll (V2.alloc hp) hl)
    · exact P1.elim
theorem sw_sole {ts : List Expr} {k1 : Nat} {p1 : Pos} {vs : List Expr} {k2 l : Nat} {p2 : Pos} {env : Env} : swapsWithSole [.Tuple ts k1 p1] (.Tuple vs k2 p2) l env = pure false := rfl
theorem swK_some {ts vs : List Expr} {names : List Str} (h : swK sc ts vs = some (some names)) : (ts.length = 2 ∨ ts.length = 3) ∧ ∃ line, ts.filterMap (nmF sc line) = names ∧ names.length = ts.length := by
  unfold swK at h
  split at h
  · cases h
  · rename_i q
    split at h
    · cases h
    · dsimp only at h
      split at h
      · cases h
      · rename_i q2
        split at h
        · cases h
        · split at h
          · cases h
          · cases h
            simp only [Bool.or_eq_true, Bool.not_eq_true', bne_iff_ne, ne_eq, not_or, Bool.not_eq_false, beq_iff_eq, Decidable.not_not] at q q2
            exact ⟨q.1, _, rfl, q2.1⟩
theorem fm_all {α β : Type} {f : α → Option β} : ∀ {l : List α}, (l.filterMap f).length = l.length → ∀ a ∈ l, ∃ b, f a = some b
  | [], _, a, h => nomatch h
  | x :: l, e, a, h => by
    have hle : (l.filterMap f).length ≤ l.length := List.length_filterMap_le f l
    cases q : f x with
    | none =>
      rw [List.filterMap_cons_none q] at e
      simp at e; omega
    | some b =>
      rw [List.filterMap_cons_some q] at e
      rcases List.mem_cons.mp h with rfl | h
      · exact ⟨b, q⟩
      · exact fm_all (by simpa using e) a h
theorem ps_parS (gx : GXS G N k sc W X) {ts : List Nat} {ces : List CE} {tgs es : List Expr} {k1 k2 : Nat} {p1 p2 pos : Pos} (ht : chkNs N sc ts tgs = true) {o : Option (List Str)} (hsw : swK sc tgs es = some o) (hd : distinct2 ts = true) (hne : es.length ≤ 1000)
    (hl : es.length = ces.length) (hlt : es.length = ts.length) (hst : ∀ e ∈ es, notStar e = true) (hp : ∀ (i : Nat) (e : Expr) (ce : CE), es[i]? = some e → ces[i]? = some ce → PE X e (tE G x W (ev cx false ce))) :
    PS X (.Assign [.Tuple tgs k1 p1] (.Tuple es k2 p2) pos) (tS G x W (exec cx (.par ts ces))) := by
  have ha := pa_evp (cx := cx) (G := G) (x := x) (W := W) hl hp hst
  have hw := swK_ (k1 := k1) (k2 := k2) (p1 := p1) (p2 := p2) (env := X.env) (by rw [gx.scp]; exact gx.kind) (by rw [gx.scp]; exact hsw)
  obtain ⟨st, sl⟩ := chkNs_star ht
  cases o with
  | none =>
    obtain ⟨a1, a2⟩ := asgEach_ok (env := X.env) st
    refine (ps_asg (pe_tup ha) (pg_tup gx.calm (pgs_ns gx.toGX ht) a1 a2) sw_sole hw (by rw [asgEach_cons rfl]; rfl)).imp fun D σ H w => ?_
    obtain ⟨F, Z, L, r, S, B, P⟩ := tP_S w
    refine ⟨F, Z, L, r, S, B, P.imp (fun ps r1 S1 P1 Z1 L1 H1 us B1 V1 => ?_) fun _ _ _ _ E => E⟩
    obtain ⟨h1, h2⟩ := P1 Z1 L1 H1 us B1 V1
    refine ⟨by rw [h1, ← hlt, sizeLine_eq]; omega, fun p hp => ⟨p, us, rfl, SqT.of upd_same, by rw [h1, sl], h1, h2 _ (.inr ⟨p, _, hp, rfl⟩)⟩⟩
  | some names =>
    -- two or three plain locals, stored from the right
    obtain ⟨hk2, line, hnm, hnl⟩ := swK_some hsw
    have hloc := fm_all (by rw [hnm]; exact hnl)
    have one : ∀ {i : Nat} {t : Expr}, t ∈ tgs → (match vName t with | some y => decide (N[i]? = some y) && locK sc y | none => false) = true → ∃ y p, t = .Name y p ∧ X.N[i]? = some y ∧ X.env.scope.names.lookup y = some .local := fun {i t} hm h => by
      split at h
      · rename_i y hy
        obtain ⟨p, rfl⟩ := vName_ hy
        simp only [Bool.and_eq_true, decide_eq_true_eq] at h
        obtain ⟨b, hb⟩ := hloc _ hm
        have hb : (if sc.names.lookup y == some .local && p.line == line then some y else none) = some b := hb
        split at hb
        · rename_i q
          rw [Bool.and_eq_true] at q
          exact ⟨y, p, rfl, by rw [gx.nN]; exact h.1, by rw [gx.scp]; simpa using q.1⟩
        · cases hb
      · cases h
    have nmE : ∀ {y : Str} {p : Pos}, Expr.Name y p ∈ tgs → nmF sc line (.Name y p) = some y := fun {y p} hm => by
      obtain ⟨b, hb⟩ := hloc _ hm
      have hb : (if sc.names.lookup y == some .local && p.line == line then some y else none) = some b := hb
      show (if sc.names.lookup y == some .local && p.line == line then some y else none) = some y
      split at hb
      · rename_i q
        rw [if_pos q]
      · cases hb
    rcases hk2 with h2 | h3
    · obtain ⟨t1, t2, rfl⟩ := two_of h2
      obtain ⟨i, j, rfl⟩ := two_of (sl.trans h2)
      obtain ⟨a, b, rfl⟩ := two_of (hlt.trans (sl.trans h2))
      unfold chkNs chkNs at ht
      simp only [Bool.and_eq_true] at ht
      obtain ⟨y1, q1, rfl, n1, l1⟩ := one List.mem_cons_self ht.1
      obtain ⟨y2, q2, rfl, n2, l2⟩ := one (List.mem_cons_of_mem _ List.mem_cons_self) ht.2.1
      have hij : i ≠ j := by simpa [distinct2] using hd
      have enm : names = [y1, y2] := by
        rw [← hnm, List.filterMap_cons_some (nmE List.mem_cons_self), List.filterMap_cons_some (nmE (List.mem_cons_of_mem _ List.mem_cons_self)), List.filterMap_nil]
      subst enm
      refine (ps_par gx.calm gx.nd n1 n2 hij l1 l2 ha hw sw_sole).imp fun D σ H w => ?_
      obtain ⟨F, Z, L, r, S, B, P⟩ := tP_S w
      refine ⟨F, Z, L, r, S, B, P.imp (fun ps r1 S1 P1 Z1 L1 H1 us B1 V1 => ?_) fun _ _ _ _ E => E⟩
      obtain ⟨h1, h2⟩ := P1 Z1 L1 H1 us B1 V1
      obtain ⟨u, w, rfl⟩ := two_of h1
      exact ⟨u, w, rfl, h2 _ (.inl rfl)⟩
    · obtain ⟨t1, t2, t3, rfl⟩ := three_of h3
      obtain ⟨i, j, l, rfl⟩ := three_of (sl.trans h3)
      obtain ⟨a, b, c, rfl⟩ := three_of (hlt.trans (sl.trans h3))
      unfold chkNs chkNs chkNs at ht
      simp only [Bool.and_eq_true] at ht
      obtain ⟨y1, q1, rfl, n1, l1⟩ := one List.mem_cons_self ht.1
      obtain ⟨y2, q2, rfl, n2, l2⟩ := one (List.mem_cons_of_mem _ List.mem_cons_self) ht.2.1
      obtain ⟨y3, q3, rfl, n3, l3⟩ := one (List.mem_cons_of_mem _ (List.mem_cons_of_mem _ List.mem_cons_self)) ht.2.2.1
      have hij : (i ≠ j ∧ i ≠ l) ∧ j ≠ l := by simpa [distinct2] using hd
      have enm : names = [y1, y2, y3] := by
        rw [← hnm, List.filterMap_cons_some (nmE List.mem_cons_self), List.filterMap_cons_some (nmE (List.mem_cons_of_mem _ List.mem_cons_self)), List.filterMap_cons_some (nmE (List.mem_cons_of_mem _ (List.mem_cons_of_mem _ List.mem_cons_self))), List.filterMap_nil]
      subst enm
      refine (ps_par3 gx.calm gx.nd n1 n2 n3 hij.1.1 hij.1.2 hij.2 l1 l2 l3 ha hw sw_sole).imp fun D σ H w => ?_
      obtain ⟨F, Z, L, r, S, B, P⟩ := tP_S w
      refine ⟨F, Z, L, r, S, B, P.imp (fun ps r1 S1 P1 Z1 L1 H1 us B1 V1 => ?_) fun _ _ _ _ E => E⟩
      obtain ⟨h1, h2⟩ := P1 Z1 L1 H1 us B1 V1
      obtain ⟨u, w, z, rfl⟩ := three_of h1
      exact ⟨u, w, z, rfl, h2 _ (.inl rfl)⟩
end
end Ci
namespace Ci
open PySem L2 PyProof.Rows
section
variable {G : Gm} {x : Exi} {W : WX} {X : Cx} {cx : Cxt} {N : List Str} {k : Nat} {sc : Scope} {T : Tx} {F : Frm} {Z Z' : Hp} {L L' : List Addr} {r r' : Ev} {S : Store} {σ : L2.St} {H : Hp} {pos : Pos}
/-- what one name holds is changed -/
theorem BRel.wrOw {i : Nat} {a : Addr} {v w : PV} {o' : HO} (B : BRel G x F Z L r S σ H) (hi : r[i]? = some (.ow v)) (hσ : σ[i]? = some (some (.ref a))) (h : OwnAt G Z L (upd H a o') a w) : BRel G x F Z L (r.set i (.ow w)) S σ (upd H a o') := by
  have hs := B.sl i _ hi
  rw [hσ] at hs
  obtain ⟨b, e, h1, h2, h3, h4⟩ := hs
  cases e
  refine ⟨⟨B.h.z0, B.h.l0, fun b u e => ?_, fun b u e => ?_, B.h.ln, B.h.nd, fun n c e => ?_, B.h.lz, B.h.zf⟩, by rw [List.length_set]; exact B.len, fun j s e => ?_, fun j k s t b e1 o1 e2 o2 q1 q2 => ?_⟩
  · rw [upd_ne (fun q => by rw [q, h2] at e; cases e)]; exact B.h.zs b u e
  · rw [upd_ne (fun q => by rw [q, h3] at e; cases e)]; exact B.h.fs b u e
  · obtain ⟨b, k1, k2⟩ := B.h.ce n c e
    refine ⟨b, k1, k2.but fun q => h4 ?_⟩
    rw [← q]; exact List.mem_of_getElem? k1
  · rcases set_get e with ⟨rfl, rfl, hl⟩ | ⟨hj, e'⟩
    · rw [hσ]; exact ⟨a, rfl, h, h2, h3, h4⟩
    · have hsl := B.sl j s e'
      cases s with
      | no => trivial
      | sh v => cases q : σ[j]?.join <;> (rw [q] at hsl; exact hsl)
      | ex c vs => cases q : σ[j]?.join <;> (rw [q] at hsl; exact hsl)
      | ow v2 =>
        cases q : σ[j]?.join with
        | none => rw [q] at hsl; exact hsl.elim
        | some u =>
          rw [q] at hsl
          obtain ⟨b, e1, k1, k2, k3, k4⟩ := hsl
          subst e1
          have q3 : σ[j]? = some (some (V.ref b)) := by
            cases q3 : σ[j]? with
            | none => rw [q3] at q; cases q
            | some w2 => rw [q3] at q; exact congrArg some q
          exact ⟨b, rfl, k1.but fun z => hj (B.sp j i _ _ b e' rfl hi rfl q3 (by rw [z]; exact hσ)), k2, k3, k4⟩
  · rcases set_get e1 with ⟨rfl, rfl, _⟩ | ⟨n1, e1'⟩
    · rcases set_get e2 with ⟨rfl, rfl, _⟩ | ⟨n2, e2'⟩
      · rfl
      · exact B.sp j k _ t b hi rfl e2' o2 q1 q2
    · rcases set_get e2 with ⟨rfl, rfl, _⟩ | ⟨n2, e2'⟩
      · exact B.sp j k s _ b e1' o1 hi rfl q1 q2
      · exact B.sp j k s t b e1' o1 e2' o2 q1 q2
/-- a place of the store is changed -/
theorem BRel.wrLoc {n : Nat} {a : Addr} {c : Cell} {o' : HO} (B : BRel G x F Z L r S σ H) (hn : L[n]? = some a) (h : OwnAt G Z L (upd H a o') a c.pv) : BRel G x F Z L r (S.set n c) σ (upd H a o') := by
  have ha : a ∈ L := List.mem_of_getElem? hn
  obtain ⟨h2, h3⟩ := B.h.lz a ha
  refine ⟨⟨B.h.z0, B.h.l0, fun b u e => ?_, fun b u e => ?_, by rw [List.length_set]; exact B.h.ln, B.h.nd, fun m c' e => ?_, B.h.lz, B.h.zf⟩, B.len, fun j s e => ?_, B.sp⟩
  · rw [upd_ne (fun q => by rw [q, h2] at e; cases e)]; exact B.h.zs b u e
  · rw [upd_ne (fun q => by rw [q, h3] at e; cases e)]; exact B.h.fs b u e
  · rcases set_get e with ⟨rfl, rfl, hl⟩ | ⟨hj, e'⟩
    · exact ⟨a, hn, h⟩
    · obtain ⟨b, k1, k2⟩ := B.h.ce m c' e'
      exact ⟨b, k1, k2.but fun q => hj (nd_ix B.h.nd k1 (by rw [q]; exact hn))⟩
  · have hsl := B.sl j s e
    cases s with
    | no => trivial
    | sh v => cases q : σ[j]?.join <;> (rw [q] at hsl; exact hsl)
    | ex c vs => cases q : σ[j]?.join <;> (rw [q] at hsl; exact hsl)
    | ow v2 =>
      cases q : σ[j]?.join with
      | none => rw [q] at hsl; exact hsl.elim
      | some u =>
        rw [q] at hsl
        obtain ⟨b, e1, k1, k2, k3, k4⟩ := hsl
        subst e1
        exact ⟨b, rfl, k1.but fun z => k4 (by rw [z]; exact ha), k2, k3, k4⟩
/-- a list under a name, at a place -/
theorem BRel.lsAt_ (B : BRel G x F Z L r S σ H) {i : Nat} (h : lsAt i r S = true) : ∃ a xs vs, σ[i]? = some (some (.ref a)) ∧ H a = some (.lst vs) ∧ Reps G Z L xs vs := by
  unfold lsAt at h
  split at h
  · rename_i xs q
    obtain ⟨u, h1, h2, b, rfl, k1, _⟩ := B.slot q (by intro z; cases z)
    obtain ⟨vs, k1, k2⟩ := k1
    exact ⟨b, xs, vs, h1, k1, k2⟩
  · rename_i n q
    split at h
    · rename_i xs hs
      obtain ⟨u, h1, h2, h3⟩ := B.slot q (by intro z; cases z)
      cases h3 with
      | loc hl =>
        obtain ⟨b, k1, vs, k2, k3⟩ := B.h.ce _ _ hs
        rw [hl] at k1; cases k1
        exact ⟨_, xs, vs, h1, k2, k3⟩
    · cases h
  · cases h
/-- a list under a name is changed -/
theorem BRel.upd1 {i : Nat} {u : V} {f : PV → Option PV} {K : Unit → Ev → Store → Prop} {E : Nat → List PV → Ev → Store → Prop} (B : BRel G x F Z L r S σ H) (hu : σ[i]? = some (some u)) (hf : ∀ v w, f v = some w → ∃ xs ys, v = .lst xs ∧ w = .lst ys) (P : Post (updS i r S f) K E) :
    ∃ a xs ys vs, u = .ref a ∧ H a = some (.lst vs) ∧ Reps G Z L xs vs ∧ f (.lst xs) = some (.lst ys) ∧ ∀ ws, Reps G Z L ys ws → ∃ r' S', BRel G x F Z L r' S' σ (upd H a (.lst ws)) ∧ K () r' S' := by
  unfold updS at P
  split at P
  · rename_i v q
    obtain ⟨u', h1, h2, b, rfl, k1, _⟩ := B.slot q (by intro z; cases z)
    rw [hu] at h1; cases h1
    split at P
    · rename_i w hw
      obtain ⟨xs, ys, rfl, rfl⟩ := hf v w hw
      obtain ⟨vs, k1, k2⟩ := k1
      exact ⟨b, xs, ys, vs, rfl, k1, k2, hw, fun ws hws => ⟨_, _, B.wrOw (w := .lst ys) h2 hu ⟨ws, upd_same, hws⟩, P⟩⟩
    · exact P.elim
  · rename_i n q
    obtain ⟨u', h1, h2, h3⟩ := B.slot q (by intro z; cases z)
    rw [hu] at h1; cases h1
    unfold updS.updL at P
    cases h3 with
    | loc hl =>
      split at P
      · rename_i xs hs
        obtain ⟨b, k1, vs, k2, k3⟩ := B.h.ce _ _ hs
        rw [hl] at k1; cases k1
        split at P
        · rename_i ys hw
          exact ⟨_, xs, ys, vs, rfl, k2, k3, hw, fun ws hws => ⟨_, _, B.wrLoc (c := .lst ys) hl ⟨ws, upd_same, hws⟩, P⟩⟩
        · exact P.elim
      · rename_i xs hs
        split at P
        · rename_i ys hw
          obtain ⟨_, _, e, _⟩ := hf _ _ hw
          cases e
        · exact P.elim
      · rename_i c xs hs
        split at P
        · rename_i c2 ys hw
          obtain ⟨_, _, e, _⟩ := hf _ _ hw
          cases e
        · exact P.elim
      · exact P.elim
  · exact P.elim
theorem post_noE_updS {i : Nat} {f : PV → Option PV} : NoE (updS i r S f) := by
  unfold updS
  split
  · split <;> trivial
  · unfold updS.updL
    (repeat' split) <;> trivial
  · trivial
theorem BRel.hasV_ (B : BRel G x F Z L r S σ H) {i : Nat} (h : hasV i r = true) : ∃ u, σ[i]? = some (some u) := by
  unfold hasV at h
  split at h
  · rename_i v q
    obtain ⟨u, h1, _⟩ := B.slot q (by intro z; cases z)
    exact ⟨u, h1⟩
  · rename_i v q
    obtain ⟨u, h1, _⟩ := B.slot q (by intro z; cases z)
    exact ⟨u, h1⟩
  · cases h
theorem ixOf_eq (n : Nat) (i : Int) : ixOf n i = ixN n i := rfl
theorem setV_ls {ix v : PV} (a b : PV) (h : setV ix v a = some b) : ∃ xs ys, a = .lst xs ∧ b = .lst ys := by
  unfold setV at h
  split at h
  · split at h
    · split at h
      · cases h; exact ⟨_, _, rfl, rfl⟩
      · cases h
    · cases h
  · split at h
    · rename_i q; simp [dctOn] at q
    · cases h
  · cases h
theorem sw1 {t e : Expr} {l : Nat} {env : Env} : swapsWithSole [t] e l env = swapsWith e (some t) l env := rfl
/-- name[ix] = e -/
theorem ps_setIsS (gx : GXS G N k sc W X) {i : Nat} {y : Str} {p sp : Pos} {ix e : Expr} {cix ce : CE} (hN : N[i]? = some y) (hv : visK sc y = true) (hn : nmOk y = true) (hc : notComp e = true) (hsl : notSlice ix = true)
    (he : PE X e (tE G x W (ev cx false ce))) (hix : PE X ix (tE G x W (ev cx false cix))) : PS X (.Assign [.Subscript (.Name y p) ix sp] e pos) (tS G x W (exec cx (.setIs i cix ce))) := by
  refine (ps_asg (pe_esc (cm := false) he) (pg_sub (pe_var (by rw [gx.nN]; exact hN) (gx.vis y hv) (nmOk_ hn).1 (nmOk_ hn).2) (pe_esc (cm := false) hix) set_list (fun v => by cases ix <;> first | rfl | cases hsl)) (by rw [sw1]; exact sw_no hc) (by cases e <;> rfl) (by rfl)).imp fun D σ H w => ?_
  obtain ⟨F, Z, L, r, S, B, P⟩ := w
  unfold exec at P
  split at P
  · exact P.elim
  · rename_i hh
    have hh' : hasV i r = true := by simpa using hh
    obtain ⟨o, ho⟩ := B.hasV_ hh'
    rw [post_bind] at P
    refine ⟨F.at Z L, Z, L, r, S, B.here, P.imp (fun v r1 S1 P1 Z1 L1 H1 u B1 R1 => ?_) fun c vs r S E => (E σ).at_ B.z0 B.l0⟩
    have B2 := B1.back B.z0 B.l0
    rw [post_bind] at P1
    refine ⟨o, ho, F.at Z1 L1, Z1, L1, r1, S1, B2.here, P1.imp (fun kv r3 S3 P3 Z3 L3 H3 w B3 R3 => ?_) fun c vs r S E => (E σ).at_ B2.z0 B2.l0⟩
    have B4 := B3.back B2.z0 B2.l0
    rw [post_bind] at P3
    obtain ⟨a, xs, ys, vs, rfl, e1, e2, e3, e4⟩ := B4.upd1 ho setV_ls P3
    unfold setV at e3
    dsimp only at e3
    split at e3
    · rename_i j
      cases R3
      split at e3
      · rename_i m hm
        cases e3
        obtain ⟨r5, S5, B5, K5⟩ := e4 _ (e2.set (R1.up B3.z0 B3.l0) m)
        refine ⟨a, vs, j, m, rfl, rfl, e1, ?_, K5 _ _ _ _ B5⟩
        rw [← e2.length, ← ixOf_eq]; exact hm
      · cases e3
    · cases e3
/-! ### methods of lists -/
theorem few_ok {cpos : Pos} {env : Env} : ∀ {es : List Expr}, (∀ e ∈ es, notStar e = true) → (backTo cpos (starEach es env)).all (fun x => !x.1) = true
  | [], _ => rfl
  | e :: es, h => by
    rw [star_cons (h e List.mem_cons_self)]
    show (true && (backTo cpos (starEach es env)).all fun x => !x.1) = true
    rw [few_ok fun e' he => h e' (List.mem_cons_of_mem _ he)]; rfl
theorem ps_appS (gx : GXS G N k sc W X) {i : Nat} {y : Str} {p ap cp : Pos} {e : Expr} {ce : CE} (hN : N[i]? = some y) (hv : visK sc y = true) (hn : nmOk y = true) (hst : notStar e = true) (hline : (ap.endLine == cp.line) = true)
    (he : PE X e (tE G x W (ev cx false ce))) : PS X (.Expr (.Call (.Attribute (.Name y p) "append" ap) [e] [] cp) pos) (tS G x W (exec cx (.app i ce))) := by
  refine (ps_expr (pe_bm PySem.F.plainAttrs_list PySem.F.slot_list_append PySem.F.type_list_append mt_append (pe_var (by rw [gx.nN]; exact hN) (gx.vis y hv) (nmOk_ hn).1 (nmOk_ hn).2) (pa_cons (pe_esc (cm := false) he) pa_nil (star_cons hst _ _))
    rfl (by rw [few_ok (fun e' h => by cases h with | head => exact hst | tail _ h => cases h)]; rfl) hline (star_cons hst _ _) (by rfl)) rfl).imp fun D σ H w => ?_
  obtain ⟨F, Z, L, r, S, B, P⟩ := w
  unfold exec at P
  split at P
  · exact P.elim
  · rename_i hh
    obtain ⟨a, xs0, vs0, ho, hH, _⟩ := B.lsAt_ (by simpa using hh)
    rw [post_bind] at P
    refine ⟨.ref a, ho, .inl ⟨rfl, vs0, SqL.of hH⟩, F.at Z L, Z, L, r, S, B.here, P.imp (fun v r1 S1 P1 Z1 L1 H1 u B1 R1 => ?_) fun c vs r S E => (E σ).at_ B.z0 B.l0⟩
    have B2 := B1.back B.z0 B.l0
    rw [post_bind] at P1
    obtain ⟨a', xs, ys, vs, ea, e1, e2, e3, e4⟩ := B2.upd1 ho (fun a b h => by
      unfold appV at h
      split at h
      · split at h
        · cases h; exact ⟨_, _, rfl, rfl⟩
        · cases h
      · cases h) P1
    cases ea
    unfold appV at e3
    dsimp only at e3
    split at e3
    · rename_i hl
      cases e3
      obtain ⟨r5, S5, B5, K5⟩ := e4 _ (e2.append (.one R1))
      refine ⟨a, vs, u, rfl, rfl, e1, ?_, K5 _ _ _ _ B5⟩
      rw [← e2.length]
      have := big_le
      have h2 : xs.length < big := by simpa using hl
      omega
    · cases e3
theorem ps_insS (gx : GXS G N k sc W X) {i : Nat} {y : Str} {p ap cp : Pos} {e1 e2 : Expr} {c1 c2 : CE} (hN : N[i]? = some y) (hv : visK sc y = true) (hn : nmOk y = true) (hst : notStar e1 = true) (hst2 : notStar e2 = true) (hline : (ap.endLine == cp.line) = true)
    (h1 : PE X e1 (tE G x W (ev cx false c1))) (h2 : PE X e2 (tE G x W (ev cx false c2))) : PS X (.Expr (.Call (.Attribute (.Name y p) "insert" ap) [e1, e2] [] cp) pos) (tS G x W (exec cx (.ins i c1 c2))) := by
  refine (ps_expr (pe_bm PySem.F.plainAttrs_list PySem.F.slot_list_insert PySem.F.type_list_insert mt_insert (pe_var (by rw [gx.nN]; exact hN) (gx.vis y hv) (nmOk_ hn).1 (nmOk_ hn).2) (pa_cons h1 (pa_cons (pe_esc (cm := false) h2) pa_nil (star_cons hst2 _ _)) (star_cons hst _ _))
    rfl (by rw [few_ok (fun e' h => by cases h with | head => exact hst | tail _ h => cases h with | head => exact hst2 | tail _ h => cases h)]; rfl) hline (star_cons hst _ _) (star_any fun e' h => by cases h with | head => exact hst2 | tail _ h => cases h)) rfl).imp fun D σ H w => ?_
  obtain ⟨F, Z, L, r, S, B, P⟩ := w
  unfold exec at P
  split at P
  · exact P.elim
  · rename_i hh
    obtain ⟨a, xs0, vs0, ho, hH, _⟩ := B.lsAt_ (by simpa using hh)
    rw [post_bind] at P
    refine ⟨.ref a, ho, .inl ⟨rfl, vs0, SqL.of hH⟩, F.at Z L, Z, L, r, S, B.here, P.imp (fun kv r1 S1 P1 Z1 L1 H1 u B1 V1 => ?_) fun c vs r S E => (E σ).at_ B.z0 B.l0⟩
    have B2 := B1.back B.z0 B.l0
    rw [post_bind] at P1
    obtain ⟨Z1', s1', B1', V1'⟩ := B2.read V1
    refine ⟨F.at Z1' L1, Z1', L1, r1, S1, B1'.here, P1.imp (fun v r3 S3 P3 Z3 L3 H3 w B3 R3 => ?_) fun c vs r S E => (E σ).at_ B1'.z0 B1'.l0⟩
    have B4 := B3.back B1'.z0 B1'.l0
    split at P3
    · rename_i j hk
      have hu : u = .int j := by
        have t := V1.top B2
        rw [hk] at t
        exact t.int
      subst hu
      rw [post_bind] at P3
      obtain ⟨a', xs, ys, vs, ea, e1, e2, e3, e4⟩ := B4.upd1 ho (fun a b h => by
        unfold insV at h
        split at h
        · split at h
          · cases h; exact ⟨_, _, rfl, rfl⟩
          · cases h
        · cases h) P3
      cases ea
      unfold insV at e3
      dsimp only at e3
      split at e3
      · rename_i hl
        cases e3
        simp only [Bool.and_eq_true, decide_eq_true_eq] at hl
        obtain ⟨⟨l1, l2⟩, l3⟩ := hl
        obtain ⟨r5, S5, B5, K5⟩ := e4 _ (((e2.take j.toNat).append (.one R3)).append (e2.drop j.toNat))
        have hb := big_le
        have hz : xs.length = vs.length := e2.length
        refine ⟨a, vs, j, w, rfl, rfl, e1, by omega, l2, ?_, K5 _ _ _ _ B5⟩
        unfold big at l1
        omega
      · cases e3
    · exact P3.elim
end
end Ci
/-! stores to fields -/
namespace Ci
open PySem L2 PyProof.Rows
section
variable {G : Gm} {x : Exi} {W : WX} {X : Cx} {cx : Cxt} {N : List Str} {k : Nat} {sc : Scope} {T : Tx} {F : Frm} {Z Z' : Hp} {L L' : List Addr} {r r' : Ev} {S : Store} {σ : L2.St} {H : Hp} {pos : Pos}
theorem fput_mem : ∀ {fs : List (Nat × PV)} {f : Nat} {v : PV} {p : Nat × PV}, p ∈ fput fs f v → p.1 = f ∨ p ∈ fs
  | [], f, v, p, h => by
    have h : p ∈ [(f, v)] := h
    rw [List.mem_singleton] at h
    exact .inl (by rw [h])
  | (a, b) :: r, f, v, p, h => by
    unfold fput at h
    split at h
    · rename_i e
      rcases List.mem_cons.mp h with h | h
      · exact .inl (by rw [h]; exact e)
      · exact .inr (List.mem_cons_of_mem _ h)
    · rcases List.mem_cons.mp h with h | h
      · exact .inr (by rw [h]; exact List.mem_cons_self)
      · rcases fput_mem h with h | h
        · exact .inl h
        · exact .inr (List.mem_cons_of_mem _ h)
theorem okO.put {c f : Nat} {fs : List (Nat × PV)} {v : PV} (h : okO G c fs) (hf : f ∈ G.P.cf c) : okO G c (fput fs f v) :=
  ⟨h.1, fun p hp => (fput_mem hp).elim (fun e => by rw [e]; exact hf) fun e => h.2 p e⟩
theorem RepF.len : ∀ {fs : List (Nat × PV)} {vfs : List (Str × V)}, RepF G Z L fs vfs → vfs.length = fs.length
  | _, _, .nil => rfl
  | _, _, .cons _ _ t => by simp [RepF.len t]
theorem setFV_ {f : Nat} {v a b : PV} (h : setFV G.P f v a = some b) : ∃ c fs, a = .obj c fs ∧ b = .obj c (fput fs f v) ∧ f ∈ G.P.cf c ∧ fs.length < 1000 := by
  unfold setFV at h
  split at h
  · rename_i c fs
    split at h
    · rename_i q
      simp only [Bool.and_eq_true, List.contains_iff_mem, decide_eq_true_eq] at q
      cases h
      exact ⟨c, fs, rfl, rfl, q.1, q.2⟩
    · cases h
  · cases h
/-- a field of what stands under a name is stored -/
theorem BRel.updF {i f : Nat} {v : PV} {K : Unit → Ev → Store → Prop} {E : Nat → List PV → Ev → Store → Prop} (nd : G.nms.Nodup) (hfl : f < G.nms.length) (B : BRel G x F Z L r S σ H) (P : Post (updS i r S (setFV G.P f v)) K E) :
    ∃ a c dx vfs, σ[i]? = some (some (.ref a)) ∧ H a = some (.ins (G.Ca c) dx vfs) ∧ f ∈ G.P.cf c ∧ vfs.length < 1000 ∧ (G.P.init c).isSome = true ∧ ∀ u, Rep G Z L v u → ∃ r' S', BRel G x F Z L r' S' σ (upd H a (.ins (G.Ca c) dx (putF (G.nm f) u vfs))) ∧ K () r' S' := by
  unfold updS at P
  split at P
  · rename_i o q
    obtain ⟨u', h1, h2, b, rfl, k1, _⟩ := B.slot q (by intro z; cases z)
    split at P
    · rename_i w hw
      obtain ⟨c, fs, rfl, rfl, hf, hl⟩ := setFV_ hw
      obtain ⟨dx, vfs, k1, k2, k3⟩ := k1
      exact ⟨b, c, dx, vfs, h1, k1, hf, by rw [k3.len]; exact hl, k2.1, fun u hu => ⟨_, _, B.wrOw (w := .obj c (fput fs f v)) h2 h1 ⟨dx, _, upd_same, k2.put hf, RepF.put nd hfl hu k3⟩, P⟩⟩
    · exact P.elim
  · rename_i n q
    obtain ⟨u', h1, h2, h3⟩ := B.slot q (by intro z; cases z)
    unfold updS.updL at P
    cases h3 with
    | loc hl =>
      split at P
      · rename_i xs hs
        split at P
        · rename_i ys hw
          obtain ⟨_, _, e, _⟩ := setFV_ hw
          cases e
        · exact P.elim
      · rename_i xs hs
        split at P
        · rename_i ys hw
          obtain ⟨_, _, e, _⟩ := setFV_ hw
          cases e
        · exact P.elim
      · rename_i c fs hs
        obtain ⟨b, k1, dx, vfs, k2, k3, k4⟩ := B.h.ce _ _ hs
        rw [hl] at k1; cases k1
        split at P
        · rename_i c2 ys hw
          obtain ⟨c', fs', e1, e2, hf, hl2⟩ := setFV_ hw
          cases e1; cases e2
          exact ⟨_, c, dx, vfs, h1, k2, hf, by rw [k4.len]; exact hl2, k3.1, fun u hu => ⟨_, _, B.wrLoc (c := .ins c (fput fs f v)) hl ⟨dx, _, upd_same, k3.put hf, RepF.put nd hfl hu k4⟩, P⟩⟩
        · exact P.elim
      · exact P.elim
  · exact P.elim
/-- name.f = e -/
theorem ps_setFsS (gs : GS G T cx k) (gx : GXS G N k sc W X) {i f : Nat} {y m : Str} {p ap : Pos} {e : Expr} {ce : CE} (hN : N[i]? = some y) (hv : visK sc y = true) (hn : nmOk y = true) (hm : G.nms[f]? = some m) (hc : notComp e = true)
    (he : PE X e (tE G x W (ev cx false ce))) : PS X (.Assign [.Attribute (.Name y p) m ap] e pos) (tS G x W (exec cx (.setFs i f ce))) := by
  refine (ps_fld (pe_var (by rw [gx.nN]; exact hN) (gx.vis y hv) (nmOk_ hn).1 (nmOk_ hn).2) (pe_esc (cm := false) he) (sw_no hc)).imp fun D σ H w => ?_
  obtain ⟨F, Z, L, r, S, B, P⟩ := w
  have fl : f < G.nms.length := (List.getElem?_eq_some_iff.mp hm).1
  have em : G.nm f = m := by
    unfold Gm.nm
    rw [List.getD_eq_getElem?_getD, hm]; rfl
  unfold exec at P
  rw [post_bind] at P
  refine ⟨F.at Z L, Z, L, r, S, B.here, P.imp (fun v r1 S1 P1 Z1 L1 H1 u B1 R1 => ?_) fun c vs r S E => (E σ).at_ B.z0 B.l0⟩
  have B2 := B1.back B.z0 B.l0
  rw [post_bind, gs.P] at P1
  obtain ⟨a, c, dx, vfs, k1, k2, k3, k4, k5, k6⟩ := B2.updF gs.nd fl P1
  obtain ⟨c1, c2⟩ := gs.cls c k5
  obtain ⟨r5, S5, B5, K5⟩ := k6 u R1
  rw [em] at B5
  exact ⟨.ref a, k1, a, _, dx, vfs, rfl, k2, by rw [gx.K]; exact c1, by rw [gx.K, ← em]; exact (c2 f k3).2, k4, K5 _ _ _ _ B5⟩
end
end Ci
namespace Ci
open PySem PySem.W PySem.Calls L2 PyProof.Rows PySem.OEX
section
variable {X : Cx} {pins : List (Addr × Obj)} {σ : L2.St} {H : Hp} {s : Shared}
theorem PyInv.pin1 {q : Addr} {o : Obj} (I : Inv X pins σ H s) (ho : s.heap.get? q = some o) (hn : H q = none) (hl : q ≠ X.env.locals) (hf : q ∉ X.fs) (hc : ∀ v, o.data ≠ .cell v) : Inv X ((q, o) :: pins) σ H s := I.pins_of fun p hp => by
  rcases List.mem_cons.mp hp with rfl | hp
  · exact ⟨ho, hn, hl, hf, hc⟩
  · exact I.pin p (List.mem_append_right _ hp)
theorem PyInv.unpin1 {q : Addr × Obj} (I : Inv X (q :: pins) σ H s) : Inv X pins σ H s := I.pins_of fun p hp => I.pin p (List.mem_append_right _ (List.mem_cons_of_mem _ hp))
end
/-- the facts of a def whose first word is super().__init__ -/
structure SupOk (X : Cx) (C : Addr) (ar : Arg) : Prop where
  T : OexC X.K C
  hks : X.env.kindOf "super" = some .globalImplicit
  hkc : X.env.kindOf "__class__" = some .free
  fn : ∃ (f : Addr) (of : Obj) (fd : FuncData), X.env.func = some f ∧ X.K.lookup f = some of ∧ of.data = .func fd ∧ (fd.params.posonlyargs ++ fd.params.args).head? = some ar
  code : ∃ (cc : Addr) (oc : Obj) (vs : Array Value) (file : Str) (tf : Tok), X.env.code = .ref cc ∧ X.K.lookup cc = some oc ∧ oc.data = .fields vs ∧ vs[2]? = some (.str file tf) ∧ ((X.prog.main.file : Str) == file) = true
  htop : (X.prog.main.scope.names.lookup ("super" : Str)).isSome = false
  hsuper : X.mg "super" = none
  cell : ∃ (cc : Addr) (cl : Value) (cld : Option Addr) (csl : Array (Option Value)), X.env.cells.lookup ("__class__" : Str) = some cc ∧ X.K.lookup cc = some ⟨cl, cld, .cell (some (.ref C)), csl⟩
  hcd : ∃ cd, clsIn X.K C = some cd
  ho : nsIn X.K cStatics "thirdparty.any" = some none
  hm : ks_superIn X.K C C "__init__" = some (some (.builtin "ValueError.__init__"))
  hB : subIn X.K (.ref C) (.type "ValueError") = some true
  hsub : mroIn X.K C (.ref C) = some true
  self : X.N[0]? = some ar.arg ∧ X.env.kindOf ar.arg = some .local
theorem super_init {X : Cx} {C a : Addr} {ar : Arg} {body : List Stmt} {pins : List (Addr × Obj)} {σ : L2.St} {H : Hp} {s : Shared} {D : Ends} {e : Expr} {es : List Expr} {ta : TA} {p0 p1 ap cp pos : Pos} (U : SupOk X C ar) (I : Inv X pins σ H s)
    (hσ : σ[0]? = some (some (.ref a))) (ea : H a = some (exo a C none)) (ha : PA X (e :: es) ta) (h : ta σ H fun vs H1 => vs.length ≤ 1000 ∧ H1 a = some (exo a C none) ∧ D.nx σ H1)
    (hs : starEach (e :: es) X.env = (false, eval e X.env) :: starEach es X.env) (hpl : (backTo cp (starEach es X.env)).any (·.1) = false) {pl : Sem Bool}
    (hc : eval (.Call (.Attribute (.Call (.Name "super" p0) [] [] p1) "__init__" ap) (e :: es) [] cp) X.env = (do
      let ov ← attributeBase (.Call (.Name "super" p0) [] [] p1) "__init__" X.env (eval (.Call (.Name "super" p0) [] [] p1) X.env)
      standAt ap.atName
      let (f, first) ← holding [ov] (getMethod ov "__init__" pl)
      callWith cp f first (backTo cp (starEach (e :: es) X.env)) [])) :
    PySem.wpAt (model X.prog X.w) X.A (.func body X.env) (PySem.exec (.Expr (.Call (.Attribute (.Call (.Name "super" p0) [] [] p1) "__init__" ap) (e :: es) [] cp) pos) X.env) (SP X pins D) X.xe s := by
  obtain ⟨f, of, fd, f1, f2, f3, f4⟩ := U.fn
  obtain ⟨cc2, oc, vs, file, tf, c1, c2, c3, c4, c5⟩ := U.code
  obtain ⟨cc, cl, cld, csl, l1, l2⟩ := U.cell
  obtain ⟨cd, hcd⟩ := U.hcd
  have KX := I.kIn
  obtain ⟨oD, hD1, hD2⟩ : ∃ oD, s.heap.get? C = some oD ∧ oD.data = .cls cd := by
    unfold clsIn at hcd
    split at hcd
    · rename_i c d cd' sl ho
      cases hcd
      exact ⟨_, KX _ _ ho, rfl⟩
    · cases hcd
  obtain ⟨t1, hobj⟩ := exo_at I.hok ea
  refine ks_wpAt_Expr_any ?_ I.quiet
  refine ks_wpAt_MethodCall ?_ hc
  obtain ⟨m, hn, hlk⟩ := id I.loc
  obtain ⟨u0, ru0, lu0⟩ := hlk 0 ar.arg _ U.self.1 hσ (.inl U.self.2)
  cases ru0
  have hself : m ar.arg = some (.ref a) := by
    rcases lu0 with ⟨_, e⟩ | ⟨k, _⟩
    · exact e
    · rw [U.self.2] at k; rcases k with k | k <;> cases k
  refine ks_wpAt_super_base U.hks U.hkc (by decide) f1 (KX _ _ f2) f3 f4 c1 (KX _ _ c2) c3 c4 c5 U.htop ?_
  have hbl := I.ok.mod.blt
  have hlast : ∀ {Q : Value → Shared → Prop}, (∀ s', Inv X pins σ H s' → (∃ so, s'.heap.get? so = some (ks_superObj C a C) ∧ s.heap.objs.size ≤ so) → ∀ so, s'.heap.get? so = some (ks_superObj C a C) → s.heap.objs.size ≤ so → Q (.ref so) s') →
      wpAny (model X.prog X.w) X.A (loadName X.env "super") (fun g s₁ => g = .type "super" ∧ wpAny (model X.prog X.w) X.A (loadName X.env "__class__") (fun cls s₂ => wpAny (model X.prog X.w) X.A (loadName X.env ar.arg) (fun self s₃ =>
      wpAny (model X.prog X.w) X.A (isType cls) (fun b s₄ => b = true ∧ wpAny (model X.prog X.w) X.A (call (.type "super") [cls, self]) Q X.xe s₄) X.xe s₃) X.xe s₂) X.xe s₁) X.xe s := by
    intro Q hq
    obtain ⟨mb, hb1, hb2⟩ := hbl
    refine ks_loadName_global I.ok.kind U.hks (loadGlobal_builtin (env := X.env) (mb := mb) ?_ U.hsuper ?_ ?_ ⟨rfl, ?_⟩)
    · rw [I.ok.glob]; exact I.ok.mod.glob.keeps I.bk
    · rw [I.ok.blt]; exact hb1.keeps I.bk
    · exact (hb2 _ (by decide)).trans (by with_unfolding_all rfl)
    refine wpAny_loadName_free I.ok.kind U.hkc l1 ⟨_, KX _ _ l2, rfl⟩ ?_
    refine wpAny_loadName_local I.ok.kind U.self.2 hn hself ?_
    refine ks_wpAny_isType_cls hD1 hD2 ⟨rfl, ?_⟩
    obtain ⟨hh, g, d, t, os⟩ := s
    refine ks_wpAny_call_super hD1 hD2 hobj rfl (fun c e => by cases e) (looks_mroIn KX U.hsub) (fun h' e k => ?_)
    exact hq _ (I.kept (t' := t) k) ⟨_, e, Nat.le_refl _⟩ _ e (Nat.le_refl _)
  refine hlast fun s2 I2 _ so hso hge => ?_
  obtain ⟨h2, g2, d2, t2, os2⟩ := s2
  have KX2 : X.K.In h2 := I2.kIn
  obtain ⟨t2', hobj2⟩ := exo_at I2.hok ea
  have hxC : a ≠ C := fun q => by
    have z : s.heap.get? a = some oD := by rw [q]; exact hD1
    rw [hobj] at z; cases z; cases hD2
  refine kxs_getMethod (B := "ValueError") (i := "ValueError.__init__") (K := X.K) kxs_ValueError hso (looks_opaque KX2 U.ho) (l₀ := cd.mro) (l := (cd.mro.dropWhile (· != .ref C)).drop 1) ?_ rfl KX2 ?_ ?_ hxC (by decide) ?_
  · exact fun A Q E s k q => wpAny_bind ((looks_clsIn KX2 hcd) A _ E s k (wpAny_pure q))
  · have hm := U.hm
    unfold ks_superIn at hm
    rw [hcd] at hm
    exact hm
  · have LT : Looks (model X.prog X.w) h2 (typeOf (.ref a)) (.ref C) := fun A Q E s k q => wpAny_typeOf_ref (k _ _ hobj2) q
    exact LT.andThen (looks_subIn KX2 U.hB)
  have hq : (h2.push (kxs_mw "ValueError.__init__" a)).get? h2.objs.size = some (kxs_mw "ValueError.__init__" a) := Heap.get?_push_size _ rfl
  have I3 : L2.Inv X pins σ H ⟨h2.push (kxs_mw "ValueError.__init__" a), g2, d2, t2 + 1, os2⟩ := I2.kept (t' := t2 + 1) fun b o e => Heap.get?_push_of_some _ e
  have nH : H h2.objs.size = none := I2.hok.fresh (Nat.le_refl _)
  have nL : h2.objs.size ≠ X.env.locals := fun z => by
    have := I2.lt
    rw [← z] at this
    exact absurd this (Nat.lt_irrefl _)
  have I4 := PyInv.pin1 I3 hq nH nL (I2.nofs (Nat.le_refl _)) (fun v z => by cases z)
  dsimp only
  rw [hs]
  refine kxs_callWith (i := "ValueError.__init__") (x := a) (by show (false || (backTo cp (starEach es X.env)).any (·.1)) = false; rw [hpl]; rfl) ?_
  refine evalArgs_plain ?_
  have hrun := ha.run cp _ _ σ H _ I4 h
  rw [hs] at hrun
  refine thn hrun fun us s5 ⟨vs5, H5, I5, r5, z5, e5, q5⟩ => ?_
  obtain ⟨k5, _⟩ := I5.pin (_, _) (List.mem_append_right _ List.mem_cons_self)
  refine ⟨k5, ?_⟩
  obtain ⟨nm, q, N, bs, bm, sn, sub, ab, col, dd, k0, k1, k2, k3, k9, hC, hbm⟩ := U.T.cls
  obtain ⟨t6, hobj5⟩ := exo_at I5.hok e5
  have hlen : us.length ≤ sizeLine := by rw [← r5.length, sizeLine_eq]; omega
  have KC := I5.kIn _ _ hC
  have fin : ∀ h', (∀ b o, b ≠ a → s5.heap.get? b = some o → h'.get? b = some o) → (∃ t7, h'.get? a = some ({ cls := .ref C, dict := none, data := .fields #[.ref t7, .none, .none, .none, .bool false, .none] } : Obj)) → SP X pins D .next { s5 with heap := h' } := fun h' k ⟨t7, e'⟩ => by
    have J := I5.write (t' := s5.toks) (x := a) (e := a) (o := exo a C none) (by rw [e5]; exact True.intro) (.inl rfl) k ⟨_, e'⟩ (exo_ok e')
    have eu : upd H5 a (exo a C none) = H5 := by
      funext b
      by_cases hb : b = a
      · rw [hb, upd_same, e5]
      · rw [upd_ne hb]
    rw [eu] at J
    exact ⟨σ, H5, PyInv.unpin1 J, q5⟩
  obtain ⟨hh, g, d, tk, os⟩ := s5
  refine wpAny_call (codeAny_of_tree ?_)
  show wpAny _ X.A.in1 (callAny (.ref h2.objs.size) ⟨us, []⟩) _ _ _
  simp only [callAny]
  refine wpAny_bind (wpAny_load k5 ?_)
  simp only [kxs_mw, show (Value.type "method-wrapper" == Value.type "method" || Value.type "method-wrapper" == Value.type "builtin_function_or_method" || Value.type "method-wrapper" == Value.type "method-wrapper") = true by decide, if_true]
  refine KFB.if_so (by decide) ?_
  refine wpAny_bind (check_bound_init F.excBase_ValueError.toExcCallFacts KC hobj5 rfl ?_)
  refine wpAny_bind (wpAny_pure (wpAny_pure ?_))
  refine ⟨plainId_quiet F.excBase_ValueError.init.plain _, codeAny_builtin F.excBase_ValueError.initEntry ?_⟩
  exact exc_init_tree (cls := .ref C) (t0 := t6) (dv := none) (c2 := .none) (c3 := .none) (b4 := .bool false) hobj5 hlen fun h' k e' _ => fin h' k ⟨_, e'⟩
/-- the context of an own error's __init__ -/
def cxE (P : Program) (w : World) (K : PySem.W.Frag) (mg : Str → Option Value) (base : Heap) (N : List Str) (qual : Str) (scope : Scope) (f cc : Addr) (cd : Value) (A : Around) (outer : List Env) (s : Shared) (H : Hp) (E : XK) : Cx where
  prog := P
  w := w
  K := K
  mg := mg
  base := base
  A := A.deeper (envX qual scope s.heap.objs.size f cd [("__class__", cc)])
  N := N
  s_0 := s
  H_0 := H
  env := envX qual scope s.heap.objs.size f cd [("__class__", cc)]
  outer := outer
  stack := envX qual scope s.heap.objs.size f cd [("__class__", cc)] :: outer
  ex := []
  calm := true
  fn := fun _ => false
  pn := []
  xe := fun e s' => wpAny (model P w) (A.deeper (envX qual scope s.heap.objs.size f cd [("__class__", cc)])) (leaving (envX qual scope s.heap.objs.size f cd [("__class__", cc)]) e) (fun _ s'' => L2.CX P w outer H s E e s'') (fun e' s'' => L2.CX P w outer H s E e' s'') s'
theorem zip_lookup {α : Type} : ∀ {ps : List Str} {us : List α} {i : Nat} {y : Str} {u : α}, ps.Nodup → ps[i]? = some y → us[i]? = some u → (ps.zip us).reverse.lookup y = some u
  | [], _, _, _, _, _, h, _ => by simp at h
  | _ :: _, [], _, _, _, _, _, h => by simp at h
  | p :: ps, v :: us, i, y, u, nd, h1, h2 => by
    rw [List.zip_cons_cons, List.reverse_cons, List.lookup_append]
    cases i with
    | zero =>
      simp at h1 h2; subst h1; subst h2
      have : (ps.zip us).reverse.lookup p = none := by
        rw [List.lookup_eq_none_iff]
        intro q hq
        have hm : q ∈ ps.zip us := List.mem_reverse.mp hq
        have := (List.of_mem_zip (a := q.1) (b := q.2) hm).1
        cases hz : (p == q.1) with
        | false => simpa using hz
        | true =>
          have e : p = q.1 := by simpa using hz
          exact absurd (by rw [e]; exact this) (List.nodup_cons.mp nd).1
      rw [this]; simp [List.lookup_cons]
    | succ i =>
      rw [zip_lookup (List.nodup_cons.mp nd).2 (by simpa using h1) (by simpa using h2)]; rfl
structure ErrFn (K : PySem.W.Frag) (prog : Program) (mg : Str → Option Value) (C f cc cda : Addr) (qual : Str) (params : Arguments) (scope : Scope) (ps : List Str) : Prop where
  T : OexC K C
  kind : scope.kind = .function
  co : scope.isCoroutine = false
  gen : scope.isGenerator = false
  nd : ps.Nodup
  loc : ∀ y ∈ ps, scope.names.lookup y = some .local
  fr : ∀ y, (scope.names.lookup y = some .cell ∨ scope.names.lookup y = some .free) → y = "__class__"
  nocell : ∀ x ∈ scope.names, x.2 ≠ .cell
  hks : scope.names.lookup ("super" : Str) = some .globalImplicit
  hkc : scope.names.lookup ("__class__" : Str) = some .free
  ar : ∃ ar : Arg, (params.posonlyargs ++ params.args).head? = some ar ∧ ps[0]? = some ar.arg
  code : ∃ (oc : Obj) (vs : Array Value) (file : Str) (tf : Tok), K.lookup cda = some oc ∧ oc.data = .fields vs ∧ vs[2]? = some (.str file tf) ∧ ((prog.main.file : Str) == file) = true
  htop : (prog.main.scope.names.lookup ("super" : Str)).isSome = false
  hsuper : mg "super" = none
  cell : ∃ (cl : Value) (cld : Option Addr) (csl : Array (Option Value)), K.lookup cc = some ⟨cl, cld, .cell (some (.ref C)), csl⟩
  hcd : ∃ cd, clsIn K C = some cd
  ho : nsIn K cStatics "thirdparty.any" = some none
  hm : ks_superIn K C C "__init__" = some (some (.builtin "ValueError.__init__"))
  hB : subIn K (.ref C) (.type "ValueError") = some true
  hsub : mroIn K C (.ref C) = some true
theorem inv_err {P : Program} {w : World} {K : PySem.W.Frag} {mg : Str → Option Value} {base : Heap} {ps : List Str} {qual : Str} {params : Arguments} {scope : Scope} {C f cc cda : Addr} {A : Around} {outer : List Env} {s : Shared} {h₀ : Heap} {tk : Nat} {H : Hp} {E : XK} {us : List Value} {vs : List V}
    (S : ErrFn K P mg C f cc cda qual params scope ps) (hd : A.handled = none) (e0 : Env0 P w K mg base A outer s H) (hl : vs.length = ps.length) (r : Vals vs us) (hns : h₀.Ns s.heap.objs.size (fun x => (ps.zip us).reverse.lookup x)) (hk : ∀ b o, s.heap.get? b = some o → h₀.get? b = some o) :
    L2.Inv (cxE P w K mg base ps qual scope f cc (.ref cda) A outer s H E) [] (vs.map some) H { s with heap := h₀, toks := tk } := by
  have noA : ∀ b : Addr, b ∉ (cxE P w K mg base ps qual scope f cc (.ref cda) A outer s H E).ex := fun b z => absurd (show b ∈ ([] : List Addr) from z) (by simp)
  have cl : ∀ {y c}, List.lookup y ([(("__class__" : Str), cc)] : List (Str × Addr)) = some c → y = "__class__" ∧ c = cc := fun {y c} h => by
    rw [List.lookup_cons] at h
    cases q : (y == ("__class__" : Str)) with
    | true => rw [q] at h; cases h; exact ⟨by simpa using q, rfl⟩
    | false => rw [q] at h; cases h
  obtain ⟨c1, c2, c3, hcc⟩ := S.cell
  have hcb : base.get? cc = some ⟨c1, c2, .cell (some (.ref C)), c3⟩ := e0.mod.kin _ _ hcc
  refine ⟨⟨e0.mod, S.kind, rfl, rfl, Nat.le_refl _, fun y z c h1 h2 => ?_, fun y hy => ?_, fun y c h _ => (nomatch h), fun _ => hd, Around.frames_deeper e0.frames, .inr ⟨rfl, rfl⟩, fun b z => absurd z (noA b), e0.bs, e0.bsz, fun b _ _ => noA b, fun b z => absurd z (noA b), e0.funs, e0.frf⟩,
    rfl, e0.bare, Un.kept hk, ⟨_, hns, fun i y v h1 h2 h3 => ?_⟩, fun y c h => ?_, e0.hok.fresh (Nat.le_refl _), fun y c h => ?_, fun p hp => absurd (show p ∈ ([] : List (Addr × Obj)) from hp) (by simp), e0.hok.kept hk, ?_⟩
  · rw [(cl h1).1, (cl h2).1]
  · have : y = "__class__" := S.fr y hy
    subst this
    exact ⟨cc, rfl⟩
  · have hv : vs[i]? = some v := by
      rw [List.getElem?_map] at h2
      cases e : vs[i]? with
      | none => rw [e] at h2; cases h2
      | some a => rw [e] at h2; cases h2; rfl
    obtain ⟨u, hu, rv⟩ := r.get hv
    have h1 : ps[i]? = some y := h1
    exact ⟨u, rv, .inl ⟨S.loc y (List.mem_of_getElem? h1), zip_lookup S.nd h1 hu⟩⟩
  · obtain ⟨rfl, rfl⟩ := cl h
    exact ⟨some (.ref C), _, hk _ _ (e0.bs _ _ hcb).1, rfl⟩
  · obtain ⟨rfl, rfl⟩ := cl h
    exact (e0.bs _ _ hcb).2
  · show (vs.map some).length = ps.length
    rw [List.length_map, hl]
theorem fn_err {P : Program} {w : World} {K : PySem.W.Frag} {mg : Str → Option Value} {base : Heap} {k : Nat} {ps : List Str} {name qual : Str} {params : Arguments} {scope : Scope} {dV kV doc pm ct oc : Value} {an od : Option Addr} {osl : Array (Option Value)} {C f cc cda : Addr}
    {e : Expr} {es : List Expr} {p0 p1 ap cp pos : Pos} {rest : List Stmt} {sp : Sp} (S : ErrFn K P mg C f cc cda qual params scope ps)
    (lk : K.lookup f = some ⟨oc, od, .func (fnX name qual params (.Expr (.Call (.Attribute (.Call (.Name "super" p0) [] [] p1) "__init__" ap) (e :: es) [] cp) pos :: rest) scope [("__class__", cc)] dV kV doc pm an (.ref cda) ct), osl⟩) (hcd : codeIn K (.ref cda) qual = true)
    (len : ∀ vs H Q E, sp vs H Q E → vs.length = ps.length)
    (hbody : ∀ (A : Around) (outer : List Env) (s : Shared) (H : Hp) (vs : List V) (Q : VK) (E : XK), sp vs H Q E →
      ∃ a ws ta t, vs = .ref a :: ws ∧ H a = some (exo a C none) ∧ PA (cxE P w K mg base ps qual scope f cc (.ref cda) A outer s H E) (e :: es) ta ∧ PSs (cxE P w K mg base ps qual scope f cc (.ref cda) A outer s H E) rest t ∧
        ta (vs.map some) H fun vs1 H1 => vs1.length ≤ 1000 ∧ H1 a = some (exo a C none) ∧ t { nx := fun _ H' => Q .non H', rt := Q } (vs.map some) H1)
    (hs : ∀ env, starEach (e :: es) env = (false, eval e env) :: starEach es env) (hpl : ∀ env, (backTo cp (starEach es env)).any (·.1) = false) {pl : Sem Bool}
    (hc : ∀ env, eval (.Call (.Attribute (.Call (.Name "super" p0) [] [] p1) "__init__" ap) (e :: es) [] cp) env = (do
      let ov ← attributeBase (.Call (.Name "super" p0) [] [] p1) "__init__" env (eval (.Call (.Name "super" p0) [] [] p1) env)
      standAt ap.atName
      let (f, first) ← holding [ov] (getMethod ov "__init__" pl)
      callWith cp f first (backTo cp (starEach (e :: es) env)) [])) :
    FnOk P w K mg base (L2.CX P w) (k + 1) f (fnX name qual params (.Expr (.Call (.Attribute (.Call (.Name "super" p0) [] [] p1) "__init__" ap) (e :: es) [] cp) pos :: rest) scope [("__class__", cc)] dV kV doc pm an (.ref cda) ct) ps sp := by
  refine ⟨len, fun A outer s H args us vs Q E hr e0 hb r hsp => ?_⟩
  have hl := len _ _ _ _ hsp
  have KX : K.In s.heap := e0.mod.kin.keeps fun b o e => (e0.bs b o e).1
  have lim : s.heap.NoLimit := e0.mod.nolimit.keeps fun b o e => (e0.bs b o e).1
  obtain ⟨ar, ar1, ar2⟩ := S.ar
  refine ks_codeAny_call_defAt hr.depth (KX _ _ lk) rfl lim (codeRec_of KX hcd) rfl hb S.nocell (fun ⟨n, v⟩ hy => S.loc n (List.of_mem_zip hy).1) (fun h₀ hns hk => ?_) S.co S.gen S.kind
  obtain ⟨a, ws, ta, t, rfl, ea, ha, ht, hw⟩ := hbody A outer s H vs Q E hsp
  have I := inv_err (E := E) (w := w) (base := base) (tk := s.toks + (ps.zip us).length) S hr.hd e0 hl r hns hk
  obtain ⟨oc2, vs2, file, tf, c2, c3, c4, c5⟩ := S.code
  obtain ⟨d1, d2, d3, d4⟩ := S.cell
  have U : SupOk (cxE P w K mg base ps qual scope f cc (.ref cda) A outer s H E) C ar :=
    ⟨S.T, S.hks, S.hkc, ⟨f, _, _, rfl, lk, rfl, ar1⟩, ⟨cda, oc2, vs2, file, tf, rfl, c2, c3, c4, c5⟩, S.htop, S.hsuper, ⟨cc, d1, d2, d3, rfl, d4⟩, S.hcd, S.ho, S.hm, S.hB, S.hsub, ar2, S.loc _ (List.mem_of_getElem? ar2)⟩
  refine ks_wpAt_execs_cons ?_
  have key := super_init (body := (.Expr (.Call (.Attribute (.Call (.Name "super" p0) [] [] p1) "__init__" ap) (e :: es) [] cp) pos :: rest)) (D := { nx := fun σ H' => t { nx := fun _ H' => Q .non H', rt := Q } σ H', rt := fun _ _ => False }) (p0 := p0) (p1 := p1) (ap := ap) (cp := cp) (pos := pos) U I rfl ea ha hw (hs _) (hpl _) (hc _)
  have fin : ∀ {σ' : L2.St} {H' : Hp} {v : V} {u : Value} {s' : Shared}, L2.Inv (cxE P w K mg base ps qual scope f cc (.ref cda) A outer s H E) [] σ' H' s' → RelV v u → Q v H' → L2.CE outer P w H s Q u s' :=
    fun {σ' H' v u s'} J rv q => ⟨v, H', J.os, J.bare, J.base, J.hok, rv, q⟩
  refine ks_wpAt_mono key (fun fl s' hh => ?_) fun _ _ y => y
  cases fl with
  | next =>
    obtain ⟨σ', H', J, q⟩ := hh
    refine wpAt_of_wpAny (wpAny_mono (ht.run [] s' σ' H' _ J q) (fun fl s' hs => ?_) fun e s' hs => hs)
    cases fl with
    | ret u =>
      obtain ⟨v, σ', H', J, rv, q⟩ := hs
      exact fin J rv q
    | next =>
      obtain ⟨σ', H', J, q⟩ := hs
      exact fin (v := V.non) (u := Value.none) J rfl q
    | brk => obtain ⟨_, _, _, q⟩ := hs; exact False.elim q
    | cont => obtain ⟨_, _, _, q⟩ := hs; exact False.elim q
  | ret u => obtain ⟨_, _, _, _, _, q⟩ := hh; exact False.elim q
  | brk => obtain ⟨_, _, _, q⟩ := hh; exact False.elim q
  | cont => obtain ⟨_, _, _, q⟩ := hh; exact False.elim q
end Ci
namespace Ci
open PySem L2 PyProof.Rows PySem.OEX
/-- the promise of an own error's __init__ -/
def spE (G : Gm) (c : Nat) : Sp := fun vs H Q E => ∃ a ws, vs = .ref a :: ws ∧ ws.length = (G.P.xf c).length ∧ 0 < ws.length ∧ ws.length ≤ 100 ∧ H a = some (exo a (G.Xa c) none) ∧
  ∀ dx, H dx = none → dx ≠ a → Q .non (upd (upd H dx (exd dx (((G.P.xf c).map G.nm).zip ws))) a (exo a (G.Xa c) (some dx)))
structure ErrOk (G : Gm) (c : Nat) (nm : Str) : Prop where
  mg : G.mg nm = some (.ref (G.Xa c))
  T : OexC G.K (G.Xa c)
  nd : ((G.P.xf c).map G.nm).Nodup
  lt : ∀ f ∈ G.P.xf c, f < G.nms.length
  fn : ∃ (fI : Addr) (fd : FuncData) (ps : List Str), PySem.W.findIn G.K (.ref (G.Xa c)) "__init__" = some (some (.ref fI)) ∧ PySem.W.typeIn G.K (.ref fI) = some (.type "function") ∧ FnOk G.prog G.w G.K G.mg G.base (L2.CX G.prog G.w) 1 fI fd ps (spE G c) ∧ Binds G.K fd ps []
section
variable {G : Gm} {x : Exi} {W : WX} {X : Cx} {cx : Cxt} {N : List Str} {k : Nat} {sc : Scope} {T : Tx} {pos : Pos}
theorem del_upd {H : Hp} {a d : Addr} {o o1 o2 o3 : HO} (ha : H a = none) (hd : d ≠ a) : upd (del (upd (upd (upd H a o) d o1) a o2) a) d o3 = upd H d o3 := by
  funext b
  by_cases h1 : b = d
  · subst h1; rw [upd_same, upd_same]
  · rw [upd_ne h1, upd_ne h1]
    by_cases h2 : b = a
    · subst h2; rw [del_same, ha]
    · rw [del_ne h2, upd_ne h2, upd_ne h1, upd_ne h2]
theorem repF_zip {Z : Hp} {L : List Addr} : ∀ {fs : List Nat} {vs : List PV} {us : List V}, (∀ f ∈ fs, f < G.nms.length) → fs.length = vs.length → Reps G Z L vs us → RepF G Z L (fs.zip vs) ((fs.map G.nm).zip us)
  | [], [], _, _, _, .nil => .nil
  | f :: fs, _ :: vs, _, h, e, .cons r t => .cons (h f List.mem_cons_self) r (repF_zip (fun g hg => h g (List.mem_cons_of_mem _ hg)) (by simpa using e) t)
  | [], _ :: _, _, _, e, _ => by simp at e
  | _ :: _, [], _, _, e, _ => by simp at e
theorem ps_rseS (gx : GXS G N k sc W X) (hk : 2 ≤ k) (hP : cx.P = G.P) {c : Nat} {y : Str} (E : ErrOk G c y) {p q : Pos} {e : Expr} {es : List Expr} {ces : List CE} (hg : glK sc y = true) (hn : nmOk y = true) (hs : ∀ e' ∈ e :: es, notStar e' = true) (ha : PA X (e :: es) (tAe G x W (evs cx false ces))) :
    PS X (.Raise (some (.Call (.Name y p) (e :: es) [] q)) none pos) (tS G x W (exec cx (.rse c ces))) := by
  obtain ⟨fI, fd, ps, i1, i2, F1, b1⟩ := E.fn
  have F1' : FnOk X.prog X.w X.K X.mg X.base (L2.CX X.prog X.w) 1 fI fd ps (spE G c) := by rw [gx.prog, gx.w, gx.K, gx.mg, gx.base]; exact F1
  have mk := pmk_oex (X := X) (x := y) (p := p) (pos := q) (e := e) (es := es) (by rw [gx.K]; exact E.T) (by rw [gx.K]; exact i1) (by rw [gx.K]; exact i2) F1' (gx.room.mono hk) (by rw [gx.K]; exact b1) .nil (passes_call gx.tk fun _ _ _ _ z => z.elim) (gx.gl y hg) (by rw [gx.mg]; exact E.mg) ha (nmOk_ hn).1 (star_cons (hs e List.mem_cons_self) es X.env) (star_any fun e' he => hs e' (List.mem_cons_of_mem _ he))
  refine (ps_raise gx.calm gx.tk mk).imp fun D σ H ⟨F, Z, L, r, S, B, P⟩ => ?_
  unfold exec at P
  rw [post_bind] at P
  refine ⟨F, Z, L, r, S, B, P.imp (fun vs r1 S1 P1 Z1 L1 H1 us B1 R1 => ?_) fun c vs r S E => E σ⟩
  split at P1
  · rename_i hc
    simp only [Bool.and_eq_true, decide_eq_true_eq] at hc
    obtain ⟨⟨h1, h2⟩, h3⟩ := hc
    rw [hP] at h1
    have hl := R1.length
    refine ⟨by omega, fun a haN => ⟨a, us, by rw [List.append_nil], by omega, by omega, by omega, upd_same, fun dx hdx hne => ?_⟩⟩
    rw [upd_ne hne] at hdx
    refine ⟨rfl, dx, _, upd_same, by rw [upd_ne hne, upd_same], hdx, ?_⟩
    rw [del_upd haN hne]
    have B2 := B1.alloc (o := .xd (((G.P.xf c).map G.nm).zip us)) hdx
    obtain ⟨f1, f2, f3, f4⟩ := B1.free hdx
    have B3 := B2.share upd_same f1 f2 f3 f4
    exact P1 σ _ _ _ dx B3 ⟨_, upd_same, repF_zip E.lt h1.symm (R1.up (same_upd f1) (List.prefix_refl _)), h1.symm, fun z => by rw [z] at h2; simp at h2⟩
  · exact P1.elim
end
end Ci
namespace Ci
open PySem L2 PyProof.Rows PySem.OEX
/-! ### the body of an own error's __init__ -/
def tNm : List Nat → TA
  | [] => tNil
  | j :: js => tCons (tVar j) (tNm js)
def tFls (K : PySem.W.Frag) : Nat → List Str → TS
  | _, [] => tNext
  | i, f :: fs => tSeq (tOst K f (tVar 0) (tVar (i + 1))) (tFls K (i + 1) fs)
/-- names of parameters -/
def nmIx (ps : List Str) : List Expr → Option (List Nat)
  | [] => some []
  | e :: es => match vName e with
    | some y => if nmOk y then (match nmIx ps es with | some l => some (ps.idxOf y :: l) | none => none) else none
    | none => none
def flOk (ps : List Str) : Nat → List Str → List Stmt → Bool
  | _, [], [] => true
  | i, f :: fs, .Assign [.Attribute (.Name s _) g _] (.Name y _) _ :: st => g == f && decide (ps[0]? = some s) && nmOk s && decide (ps[i + 1]? = some y) && nmOk y && flOk ps (i + 1) fs st
  | _, _, _ => false
theorem tNm_ok {σ : L2.St} {H : Hp} {Q : List V → Hp → Prop} : ∀ {js : List Nat}, (∀ j ∈ js, ∃ v, σ[j]? = some (some v)) → (∀ us, us.length = js.length → Q us H) → tNm js σ H Q
  | [], _, q => q [] rfl
  | j :: js, h, q => by
    obtain ⟨v, hv⟩ := h j List.mem_cons_self
    exact ⟨v, hv, tNm_ok (fun i hi => h i (List.mem_cons_of_mem _ hi)) fun us hu => q (v :: us) (by simp [hu])⟩
theorem fls_old {K : PySem.W.Frag} {C a dx : Addr} {σ : L2.St} {D : Ends} (T : OexC K C) (h0 : σ[0]? = some (some (.ref a))) (hne : dx ≠ a) : ∀ {fl : List Str} {us : List V} {i : Nat} {H : Hp} {fs : List (Str × V)}, (∀ f ∈ fl, PySem.W.findIn K (.ref C) f = some none) → us.length = fl.length →
    (∀ (j : Nat) (u : V), us[j]? = some u → σ[i + 1 + j]? = some (some u)) → H a = some (exo a C (some dx)) → H dx = some (exd dx fs) → fs.length + fl.length ≤ 900 → D.nx σ (upd H dx (exd dx ((fl.zip us).reverse ++ fs))) → tFls K i fl D σ H
  | [], [], i, H, fs, _, _, _, _, ed, _, q => by
    have e : upd H dx (exd dx ((([] : List Str).zip ([] : List V)).reverse ++ fs)) = H := by
      funext b
      by_cases hb : b = dx
      · rw [hb, upd_same, ed]; rfl
      · rw [upd_ne hb]
    rw [e] at q
    exact q
  | f :: fl, u :: us, i, H, fs, hf, hl, hσ, ea, ed, hn, q => by
    refine ⟨u, by simpa using hσ 0 u rfl, .ref a, h0, a, C, rfl, T, hf f List.mem_cons_self, .inr ⟨dx, fs, ea, ed, by simp at hn; omega, ?_⟩⟩
    refine fls_old T h0 hne (fl := fl) (us := us) (i := i + 1) (fs := (f, u) :: fs) (fun g hg => hf g (List.mem_cons_of_mem _ hg)) (by simpa using hl) (fun j w hj => ?_) (by rw [upd_ne (Ne.symm hne)]; exact ea) upd_same (by simp at hn ⊢; omega) ?_
    · have := hσ (j + 1) w (by simpa using hj)
      rw [show i + 1 + 1 + j = i + 1 + (j + 1) by omega]; exact this
    · rw [upd_upd]
      simpa using q
  | [], _ :: _, _, _, _, _, hl, _, _, _, _, _ => by simp at hl
  | _ :: _, [], _, _, _, _, hl, _, _, _, _, _ => by simp at hl
theorem fls_new {K : PySem.W.Frag} {C a : Addr} {σ : L2.St} {D : Ends} (T : OexC K C) (h0 : σ[0]? = some (some (.ref a))) {f : Str} {fl : List Str} {u : V} {us : List V} {H : Hp} (hf : ∀ g ∈ f :: fl, PySem.W.findIn K (.ref C) g = some none) (hl : us.length = fl.length)
    (hσ : ∀ (j : Nat) (w : V), (u :: us)[j]? = some w → σ[1 + j]? = some (some w)) (ea : H a = some (exo a C none)) (hn : fl.length ≤ 100)
    (q : ∀ dx, H dx = none → dx ≠ a → D.nx σ (upd (upd H dx (exd dx (((f :: fl).zip (u :: us)).reverse))) a (exo a C (some dx)))) : tFls K 0 (f :: fl) D σ H := by
  refine ⟨u, by simpa using hσ 0 u rfl, .ref a, h0, a, C, rfl, T, hf f List.mem_cons_self, .inl ⟨ea, fun dx hdx hne => ?_⟩⟩
  refine fls_old T h0 hne (fl := fl) (us := us) (i := 1) (fs := [(f, u)]) (fun g hg => hf g (List.mem_cons_of_mem _ hg)) hl (fun j w hj => ?_) upd_same (by rw [upd_ne hne, upd_same]) (by simp; omega) ?_
  · have := hσ (j + 1) w (by simpa using hj)
    rw [show 1 + 1 + j = 1 + (j + 1) by omega]; exact this
  · have e : upd (upd (upd H dx (exd dx [(f, u)])) a (exo a C (some dx))) dx (exd dx ((fl.zip us).reverse ++ [(f, u)])) = upd (upd H dx (exd dx (((f :: fl).zip (u :: us)).reverse))) a (exo a C (some dx)) := by
      funext b
      by_cases h1 : b = dx
      · subst h1; rw [upd_same, upd_ne hne, upd_same]; simp
      · rw [upd_ne h1]
        by_cases h2 : b = a
        · subst h2; rw [upd_same, upd_same]
        · rw [upd_ne h2, upd_ne h2, upd_ne h1, upd_ne h1]
    rw [e]
    exact q dx hdx hne
theorem lookup_rev {α : Type} : ∀ {ks : List Str} {us : List α} (f : Str), ks.Nodup → (ks.zip us).reverse.lookup f = (ks.zip us).lookup f
  | [], _, f, _ => by simp
  | _ :: _, [], f, _ => by simp
  | k :: ks, u :: us, f, nd => by
    rw [List.zip_cons_cons, List.reverse_cons, List.lookup_append, lookup_rev f (List.nodup_cons.mp nd).2]
    cases hb : f == k with
    | true =>
      have e : f = k := by simpa using hb
      subst e
      have : (ks.zip us).lookup f = none := by
        rw [List.lookup_eq_none_iff]
        intro q hq
        have := (List.of_mem_zip (a := q.1) (b := q.2) hq).1
        cases hz : (f == q.1) with
        | false => simpa using hz
        | true =>
          have e : f = q.1 := by simpa using hz
          exact absurd (by rw [e]; exact this) (List.nodup_cons.mp nd).1
      rw [this]; simp [List.lookup_cons, hb]
    | false =>
      simp only [List.lookup_cons, hb]
      cases (ks.zip us).lookup f <;> simp
theorem exd_eq {dx : Addr} {fs gs : List (Str × V)} (h : ∀ f, fs.lookup f = gs.lookup f) : exd dx fs = exd dx gs := by
  unfold exd
  congr 1
  funext h'
  congr 1
  funext mA
  congr 1
  apply propext
  exact ⟨fun k f => by rw [← h f]; exact k f, fun k f => by rw [h f]; exact k f⟩
section
variable {G : Gm} {c : Nat} {f cc cda : Addr} {qual : Str} {params : Arguments} {scope : Scope} {ps : List Str}
theorem pe_par {X : Cx} {i : Nat} {y : Str} {p : Pos} (hN : X.N = ps) (hl : ∀ z ∈ ps, X.env.scope.names.lookup z = some .local) (h : ps[i]? = some y) (hn : nmOk y = true) : PE X (.Name y p) (tVar i) :=
  pe_var (by rw [hN]; exact h) (.inl (hl y (List.mem_of_getElem? h))) (nmOk_ hn).1 (nmOk_ hn).2
theorem idxOf_get : ∀ {ps : List Str} {y : Str}, ps.idxOf y < ps.length → ps[ps.idxOf y]? = some y
  | [], y, h => by simp at h
  | p :: ps, y, h => by
    by_cases e : p = y
    · subst e; simp
    · have e2 : (p :: ps).idxOf y = ps.idxOf y + 1 := by
        rw [List.idxOf_cons]
        have : (p == y) = false := beq_eq_false_iff_ne.mpr e
        rw [this]; rfl
      rw [e2] at h ⊢
      simpa using idxOf_get (ps := ps) (by simpa using h)
theorem pa_nm {X : Cx} (hN : X.N = ps) (hl : ∀ z ∈ ps, X.env.scope.names.lookup z = some .local) : ∀ {es : List Expr} {js : List Nat}, nmIx ps es = some js → (∀ j ∈ js, j < ps.length) → PA X es (tNm js) ∧ ∀ e ∈ es, notStar e = true
  | [], js, h, _ => by cases h; exact ⟨pa_nil, fun _ h => (nomatch h)⟩
  | e :: es, js, h, hj => by
    unfold nmIx at h
    split at h
    · rename_i y hy
      obtain ⟨p, rfl⟩ := vName_ hy
      split at h
      · rename_i hn
        split at h
        · rename_i l hl2
          cases h
          obtain ⟨k1, k2⟩ := pa_nm hN hl hl2 fun j hj2 => hj j (List.mem_cons_of_mem _ hj2)
          refine ⟨pa_cons (pe_par hN hl (idxOf_get (hj _ List.mem_cons_self)) hn) k1 (star_cons rfl _ _), fun e he => ?_⟩
          rcases List.mem_cons.mp he with rfl | he
          · rfl
          · exact k2 e he
        · cases h
      · cases h
    · cases h
theorem pss_fl {X : Cx} (hN : X.N = ps) (hl : ∀ z ∈ ps, X.env.scope.names.lookup z = some .local) : ∀ {fs : List Str} {st : List Stmt} {i : Nat}, flOk ps i fs st = true → PSs X st (tFls X.K i fs)
  | [], [], i, _ => pss_nil
  | f :: fs, s :: st, i, h => by
    unfold flOk at h
    split at h
    · rename_i q1 q2
      cases q1
    · rename_i i' f' fs' sn p1 g p2 y p3 p4 st' q1 q2
      cases q1; cases q2
      simp only [Bool.and_eq_true, decide_eq_true_eq, beq_iff_eq] at h
      obtain ⟨⟨⟨⟨⟨h1, h2⟩, h3⟩, h4⟩, h5⟩, h6⟩ := h
      subst h1
      exact pss_cons (ps_ost (pe_par hN hl h2 h3) (pe_par hN hl h4 h5) rfl) (pss_fl hN hl h6)
    · cases h
  | [], _ :: _, _, h => by unfold flOk at h; cases h
  | _ :: _, [], _, h => by unfold flOk at h; cases h
/-- an own error's __init__ keeps its promise -/
theorem err_fn {name : Str} {dV kV doc pm ct oc : Value} {an od : Option Addr} {osl : Array (Option Value)} {e : Expr} {es : List Expr} {p0 p1 ap cp pos : Pos} {rest : List Stmt} (S : ErrFn G.K G.prog G.mg (G.Xa c) f cc cda qual params scope ps)
    (lk : G.K.lookup f = some ⟨oc, od, .func (PySem.W.fnX name qual params (.Expr (.Call (.Attribute (.Call (.Name "super" p0) [] [] p1) "__init__" ap) (e :: es) [] cp) pos :: rest) scope [("__class__", cc)] dV kV doc pm an (.ref cda) ct), osl⟩) (hcd : PySem.W.codeIn G.K (.ref cda) qual = true)
    (hps : ps.length = (G.P.xf c).length + 1) (hnd : ((G.P.xf c).map G.nm).Nodup) {js : List Nat} (hjs : nmIx ps (e :: es) = some js) (hlt : ∀ j ∈ js, j < ps.length) (hj3 : js.length ≤ 1000) (hfl : flOk ps 0 ((G.P.xf c).map G.nm) rest = true) (hfi : ∀ g ∈ (G.P.xf c).map G.nm, PySem.W.findIn G.K (.ref (G.Xa c)) g = some none)
    {pl : Sem Bool}
    (hc : ∀ env, eval (.Call (.Attribute (.Call (.Name "super" p0) [] [] p1) "__init__" ap) (e :: es) [] cp) env = (do
      let ov ← attributeBase (.Call (.Name "super" p0) [] [] p1) "__init__" env (eval (.Call (.Name "super" p0) [] [] p1) env)
      standAt ap.atName
      let (f, first) ← holding [ov] (getMethod ov "__init__" pl)
      callWith cp f first (backTo cp (starEach (e :: es) env)) [])) :
    FnOk G.prog G.w G.K G.mg G.base (L2.CX G.prog G.w) 1 f (PySem.W.fnX name qual params (.Expr (.Call (.Attribute (.Call (.Name "super" p0) [] [] p1) "__init__" ap) (e :: es) [] cp) pos :: rest) scope [("__class__", cc)] dV kV doc pm an (.ref cda) ct) ps (spE G c) := by
  have hst : ∀ e' ∈ e :: es, notStar e' = true := by
    have : ∀ {es : List Expr} {js : List Nat}, nmIx ps es = some js → ∀ e ∈ es, notStar e = true := by
      intro es
      induction es with
      | nil => intro js _ e h; cases h
      | cons a l ih =>
        intro js h e he
        unfold nmIx at h
        split at h
        · rename_i y hy
          obtain ⟨p, rfl⟩ := vName_ hy
          split at h
          · split at h
            · rename_i l2 hl2
              rcases List.mem_cons.mp he with rfl | he
              · rfl
              · exact ih hl2 e he
            · cases h
          · cases h
        · cases h
    exact this hjs
  refine fn_err (k := 0) S lk hcd (fun vs H Q E ⟨a, ws, e1, e2, _⟩ => by rw [e1, hps]; simp [e2]) (fun A outer s H vs Q E ⟨a, ws, e1, e2, e3, e4, e5, e6⟩ => ?_) (fun env => star_cons (hst e List.mem_cons_self) es env) (fun env => star_any fun e' he => hst e' (List.mem_cons_of_mem _ he)) hc
  subst e1
  refine ⟨a, ws, tNm js, tFls G.K 0 ((G.P.xf c).map G.nm), rfl, e5, (pa_nm rfl S.loc hjs hlt).1, pss_fl rfl S.loc hfl, ?_⟩
  refine tNm_ok (fun j hj => ?_) fun us hu => ⟨by omega, e5, ?_⟩
  · have hjl : j < (V.ref a :: ws).length := by simp; rw [e2]; have := hlt j hj; omega
    exact ⟨_, by rw [List.getElem?_map, List.getElem?_eq_getElem hjl]; rfl⟩
  · cases hx : (G.P.xf c).map G.nm with
    | nil =>
      have : (G.P.xf c).length = 0 := by rw [← List.length_map (f := G.nm), hx]; rfl
      omega
    | cons g gs =>
      cases ws with
      | nil => simp at e3
      | cons u us2 =>
        have hlen : us2.length = gs.length := by
          have h1 : (G.P.xf c).length = gs.length + 1 := by rw [← List.length_map (f := G.nm), hx]; rfl
          simp at e2; omega
        rw [hx] at hfi e6 hnd
        refine fls_new (u := u) S.T rfl hfi hlen (fun j w hj => ?_) e5 (by simp at e4; omega) fun dx hdx hne => ?_
        · rw [show 1 + j = j + 1 by omega, List.getElem?_map, List.getElem?_cons_succ, hj]; rfl
        · have := e6 dx hdx hne
          rw [exd_eq (fs := ((g :: gs).zip (u :: us2)).reverse) (gs := (g :: gs).zip (u :: us2)) fun f => lookup_rev f hnd]
          exact this
end
end Ci
/-! several except clauses, named or not -/
namespace Ci
open PySem PySem.Spec L2 PyProof.Rows
abbrev Cla := Value × Option Nat × (Addr → Value → Option Addr → TS)
def endsAt (D : Ends) : Option Nat → Ends
  | none => D
  | some i => { nx := fun s h => D.nx (s.set i none) h, rt := D.rt, bk := fun s h => D.bk (s.set i none) h, ct := fun s h => D.ct (s.set i none) h }
def slotAt (σ : L2.St) (a : Addr) : Option Nat → L2.St
  | none => σ
  | some i => σ.set i (some (.ref a))
def wMix (K : PySem.W.Frag) (Wn : WX) (D : Ends) : List Cla → WX
  | [] => Wn
  | (c, i, ts) :: r => fun cls d σ H => ∃ b, PySem.W.exmOne K cls c = some b ∧ (b = true → ∀ a, H a = none → ts a cls d (endsAt D i) (slotAt σ a i) H) ∧ (b = false → wMix K Wn D r cls d σ H)
inductive HdsX (X : Cx) : List ExceptHandler → List Cla → Prop
  | nil : HdsX X [] []
  | as {y n : Str} {c : Value} {i : Nat} {ts : Addr → Value → Option Addr → TS} {b0 : Stmt} {su : List Stmt} {p1 p2 : Pos} {hl : List ExceptHandler} {cl : List Cla} (hi : X.N[i]? = some n) (hln : X.env.kindOf n = some .local) (hc : Names X y c)
      (hsu : ∀ (a : Addr) (ob : Obj) (cls : Value) (d : Option Addr) (pl : List (Addr × Obj)), Zc cls d ob → (∃ fl, ob.data = .fields fl) → PSs (X.suite a ((a, ob) :: pl)) (b0 :: su) (ts a cls d)) (r : HdsX X hl cl) :
      HdsX X (.ExceptHandler (some (.Name y p1)) (some n) (b0 :: su) p2 :: hl) ((c, some i, ts) :: cl)
  | no {y : Str} {c : Value} {ts : Addr → Value → Option Addr → TS} {b0 : Stmt} {su : List Stmt} {p1 p2 : Pos} {hl : List ExceptHandler} {cl : List Cla} (hc : Names X y c)
      (hsu : ∀ (a : Addr) (ob : Obj) (cls : Value) (d : Option Addr) (pl : List (Addr × Obj)), Zc cls d ob → (∃ fl, ob.data = .fields fl) → PSs (X.suite a ((a, ob) :: pl)) (b0 :: su) (ts a cls d)) (r : HdsX X hl cl) :
      HdsX X (.ExceptHandler (some (.Name y p1)) none (b0 :: su) p2 :: hl) ((c, none, ts) :: cl)
section
variable {X : Cx} {bd : List Stmt} {hd : ExceptHandler} {hl : List ExceptHandler} {cl : List Cla} {pos : Pos} {tb : WX → TS} {Wn : WX}
theorem ps_tryX (h1 : X.stack = X.env :: X.outer) (h2 : X.env.frame = some X.env.locals) (hN : X.N.Nodup) (tk : Takes X Wn)
    (hb : ∀ (W : WX) (pl : List (Addr × Obj)) (xe : Value → Shared → Prop), Takes (X.tr pl xe) W → PassesOwn (model X.prog X.w) X.A X.env xe → PSs (X.tr pl xe) bd (tb W))
    (hh : HdsX X (hd :: hl) cl) : PS X (.Try bd (hd :: hl) [] [] pos) (fun D σ H => tb (wMix X.K Wn D cl) D σ H) := by
  refine ⟨fun pins s σ H D I h => wpAny_Try_except ?_⟩
  have okk := I.ok
  have hfr : X.A.frames = some (X.env :: X.outer) := by rw [okk.frames, h1]
  refine wpAny_mono ((hb (wMix X.K Wn D cl) (X.pn ++ pins)
    (fun e t₁ => wpAny (model X.prog X.w) X.A (noteFrame e X.env) (fun _ t₂ => wpAny (model X.prog X.w) X.A (setFlight e none) (fun _ t₃ => wpAny (model X.prog X.w) X.A (handleBy e X.env (hd :: hl)) (SP X pins D) X.xe t₃) X.xe t₂) X.xe t₁)
    (fun u s' xx => ?_) PassesOwn.looking).run [] s σ H D (I.toTry _) h) (fun fw s1 q => ?_) (fun _ _ he => he)
  · obtain ⟨a, B, sI, pns, τ, Hc, cls, d, rfl, J0, nb, up, sky0, na, os, ag, w⟩ := xx
    have J : Inv X pins τ Hc sI := J0.ofTry okk
    have sky : Sky B (X.env :: X.outer) a (Zc cls d) X.env.locals s'.heap := by rw [← h1]; exact sky0
    show wpAny (model X.prog X.w) X.A (noteFrame (.ref a) X.env) _ _ _
    refine Sky.land Zc.steady hfr h2 sky fun hp fl hup => ?_
    have J3 : Inv X pins τ Hc { s' with heap := hp } := J.landed nb fl.1 (up.trans hup) os ag
    obtain ⟨ob, fv, e1, e2, e3⟩ := fl.there
    have nfr : a ∉ frs (X.env :: X.outer) := fun hm => by
      obtain ⟨_, o', k1, k2⟩ := fl.2.2.1.mem hm
      rw [e1] at k1; cases k1
      exact k2 _ e3
    have nL : a ≠ X.env.locals := fun z => nfr (List.mem_filterMap.mpr ⟨X.env, List.mem_cons_self, by rw [h2, z]⟩)
    have nF : a ∉ X.fs := fun hm => by
      obtain ⟨e, he, q⟩ := List.mem_filterMap.mp hm
      exact nfr (List.mem_filterMap.mpr ⟨e, List.mem_cons_of_mem _ he, q⟩)
    have S3 := J3.suite e1 e3 na nL nF
    have LT : PySem.W.Looks (model X.prog X.w) hp (typeOf (.ref a)) cls := fun A Q E s k q => wpAny_typeOf_ref (k _ _ e1) (by rw [e2.1]; exact q)
    have tst : ∀ {y : Str} {c : Value} {p1 : Pos} {Q E : Value → Shared → Prop}, Names X y c → Q c { s' with heap := hp } → wpAny (model X.prog X.w) (X.A.mark (some (.ref a))) (eval (.Name y p1) X.env) Q E { s' with heap := hp } := fun {y c p1 Q E} hc q => by
      obtain ⟨g1, g2, g3 | ⟨g3, g4, g5⟩⟩ := hc
      · exact ld_glob (X := X.suite a ((a, ob) :: (X.pn ++ pins))) S3 g1 g3 q g2
      · exact ld_blt (X := X.suite a ((a, ob) :: (X.pn ++ pins))) S3 g1 g3 g4 q g5 g2
    have go : ∀ {hs : List ExceptHandler} {cs : List Cla}, HdsX X hs cs → wMix X.K Wn D cs cls d τ Hc → wpAny (model X.prog X.w) X.A (handleBy (.ref a) X.env hs) (SP X pins D) X.xe { s' with heap := hp } := by
      intro hs cs hk
      induction hk with
      | nil =>
        intro w
        refine wpAny_handleBy_nil ?_
        obtain ⟨_, _, _, ox, vx, T, oT, tx, k1, _, k3, k4, _⟩ := id fl
        unfold PySem.passOn
        refine wpAny_bind (wpAny_field k1 k3 k4 ?_)
        rw [if_neg (show ¬ ((Value.ref T == Value.none) = true) from by simp)]
        have fin : wpAny (model X.prog X.w) X.A (setFlight (.ref a) X.env.frame) (fun _ t => wpAny (model X.prog X.w) X.A (throw (.ref a) : Sem Flow) (SP X pins D) X.xe t) X.xe { s' with heap := hp } := by
          rw [h2]
          refine HandSPX.setFlight_upZ fl fun hq hhq upq => wpAny_throw (tk _ _ ?_)
          exact ⟨a, B, sI, pins, τ, Hc, cls, d, rfl, J, nb, (up.trans hup).trans upq, .inr (.inr (by rw [h1]; exact hhq)), na, os, ag, w⟩
        first
          | exact wpAny_bind (wpAny_pure (wpAny_bind fin))
          | exact wpAny_bind fin
      | @as y n c i ts b0 su p1 p2 hs2 cs2 hi hln hc hsu r ih =>
        intro w
        obtain ⟨b, w1, w2, w3⟩ := w
        refine wpAny_handleBy_cons (codeAny_handlers_test ?_) (by intro q; cases q)
        refine tst hc ((PySem.W.exm_one (M := model X.prog X.w) (J3.kIn) LT w1).here ?_)
        cases b with
        | false => exact ih (w3 rfl)
        | true =>
          refine codeAny_handlers_suite_as (HandSPX.lands_againZ fl fun h4 fl4 up4 => ?_)
          obtain ⟨ob4, fv4, k1, k2, k3⟩ := fl4.there
          have S4 := (J.landed nb fl4.1 ((up.trans hup).trans up4) os ag : Inv X pins τ Hc { s' with heap := h4 }).suite k1 k3 na nL nF
          refine store_ok (X := X.suite a ((a, ob4) :: (X.pn ++ pins))) (v := .ref a) S4 hN hi (.inl hln) rfl (fun s5 S5 => ?_) (.inr hln)
          refine wpAny_mono ((hsu a ob4 cls d (X.pn ++ pins) k2 ⟨_, k3⟩).run [] s5 _ Hc _ S5 (w2 rfl a na)) (fun fw s6 q => ?_) (fun _ _ z => z.elim)
          have gone : ∀ {τ6 : L2.St} {H6 : Hp} {Q : Shared → Prop}, Inv (X.suite a ((a, ob4) :: (X.pn ++ pins))) [] τ6 H6 s6 → (∀ s7, Inv X pins (τ6.set i none) H6 s7 → Q s7) →
              wpAny (model X.prog X.w) X.A (do bindName X.env n .none; unbindBehindTheSuite X.env n p2) (fun _ s7 => Q s7) X.xe s6 := fun S6 hq => gone_ok (S6.unsuite okk) hN hi hln hq
          cases fw with
          | ret u =>
            obtain ⟨v6, τ6, H6, S6, r6, q6⟩ := q
            exact gone S6 fun s7 J7 => ⟨_, _, _, J7, r6, q6⟩
          | _ =>
            obtain ⟨τ6, H6, S6, q6⟩ := q
            exact gone S6 fun s7 J7 => ⟨_, _, J7, q6⟩
      | @no y c ts b0 su p1 p2 hs2 cs2 hc hsu r ih =>
        intro w
        obtain ⟨b, w1, w2, w3⟩ := w
        refine wpAny_handleBy_cons (codeAny_handlers_test ?_) (by intro q; cases q)
        refine tst hc ((PySem.W.exm_one (M := model X.prog X.w) (J3.kIn) LT w1).here ?_)
        cases b with
        | false => exact ih (w3 rfl)
        | true =>
          refine codeAny_handlers_suite (HandSPX.lands_againZ fl fun h4 fl4 up4 => ?_)
          obtain ⟨ob4, fv4, k1, k2, k3⟩ := fl4.there
          have S4 := (J.landed nb fl4.1 ((up.trans hup).trans up4) os ag : Inv X pins τ Hc { s' with heap := h4 }).suite k1 k3 na nL nF
          refine wpAny_mono ((hsu a ob4 cls d (X.pn ++ pins) k2 ⟨_, k3⟩).run [] _ _ Hc _ S4 (w2 rfl a na)) (fun fw s6 q => ?_) (fun _ _ z => z.elim)
          cases fw with
          | ret u =>
            obtain ⟨v6, τ6, H6, S6, r6, q6⟩ := q
            exact ⟨_, _, _, S6.unsuite okk, r6, q6⟩
          | _ =>
            obtain ⟨τ6, H6, S6, q6⟩ := q
            exact ⟨_, _, S6.unsuite okk, q6⟩
    exact go hh w
  · cases fw with
    | next =>
      obtain ⟨τ, Hc, J, q⟩ := q
      exact wpAny_execs_nil ⟨τ, Hc, J.ofTry okk, q⟩
    | ret u =>
      obtain ⟨v, τ, Hc, J, r, q⟩ := q
      exact ⟨v, τ, Hc, J.ofTry okk, r, q⟩
    | _ =>
      obtain ⟨τ, Hc, J, q⟩ := q
      exact ⟨τ, Hc, J.ofTry okk, q⟩
end
end Ci
namespace Ci
open PySem L2 PyProof.Rows
section
variable {G : Gm} {x : Exi} {W : WX} {X : Cx} {cx : Cxt} {N : List Str} {k : Nat} {sc : Scope} {T : Tx} {pos : Pos}
/-- in an except suite the caught error's fields are read -/
theorem xf_suite {a dd : Addr} {c : Nat} {oe : Obj} {pn : List (Addr × Obj)} (hP : cx.P = G.P) (hK : X.K = G.K) (hN : X.N = N) (hv : ∀ y, visK sc y = true → Vis X.env.scope y) (nd : G.nms.Nodup) (XF : XfC G.K (G.Xa c)) (hno : ∀ m ∈ G.nms, PySem.W.findIn G.K (.ref (G.Xa c)) m = some none)
    (hz : Zc (.ref (G.Xa c)) (some dd) oe) (hf : ∃ vs, oe.data = .fields vs) : XfOk G (some (a, c, dd)) W (X.suite a ((a, oe) :: pn)) cx N sc := fun cm i f y m p p2 h1 h2 h3 h4 => by
  have hm : m ∈ G.nms := List.mem_of_getElem? h4
  have hv' : PE (X.suite a ((a, oe) :: pn)) (.Name y p) (tVar i) := pe_var (by rw [← hN] at h1; exact h1) (hv y h2) (nmOk_ h3).1 (nmOk_ h3).2
  refine (pe_xf (X := X) (a := a) (C := G.Xa c) (oe := oe) (cls := .ref (G.Xa c)) (d := some dd) (pn := pn) (n := m) (by rw [hK]; exact XF) (by rw [hK]; exact hno m hm) hz hf hv' rfl).imp fun σ H Q ⟨F, Z, L, r, S, B, P⟩ => ?_
  unfold ev at P
  split at P
  · rename_i c' vs q
    obtain ⟨u, g1, g2, a', d', g3, g4, vfs, g5, g6, g7⟩ := B.slot q (by intro z; cases z)
    cases g3
    subst g4
    have fl : f < G.nms.length := (List.getElem?_eq_some_iff.mp h4).1
    split at P
    · rename_i v hl
      rw [hP] at hl
      obtain ⟨u, k1, k2⟩ := RepF.get nd g6 fl hl
      have e : G.nm f = m := by
        unfold Gm.nm
        rw [List.getD_eq_getElem?_getD, h4]; rfl
      rw [e] at k1
      exact ⟨_, g1, rfl, rfl, dd, vfs, u, rfl, B.h.zs _ _ g5, k1, P Z L H u B k2⟩
    · exact P.elim
  · exact P.elim
/-- a name gets the caught error -/
theorem BRel.setEx {F : Frm} {Z : Hp} {L : List Addr} {r : Ev} {S : Store} {σ : L2.St} {H : Hp} {i c : Nat} {vs : List PV} {a d : Addr} (B : BRel G none F Z L r S σ H) (R : RepX G Z L c vs d) : BRel G (some (a, c, d)) F Z L (r.set i (.ex c vs)) S (σ.set i (some (.ref a))) H := by
  refine ⟨B.h, by rw [List.length_set, List.length_set]; exact B.len, fun j s e => ?_, fun j k s t b e1 o1 e2 o2 q1 q2 => ?_⟩
  · rcases set_get e with ⟨rfl, rfl, hl⟩ | ⟨hj, e'⟩
    · rw [List.getElem?_set_self (by rw [← B.len]; exact hl)]
      exact ⟨a, d, rfl, rfl, R⟩
    · rw [List.getElem?_set_ne (Ne.symm hj)]
      have := B.sl j s e'
      cases s with
      | no => trivial
      | sh v => cases q : σ[j]?.join <;> (rw [q] at this; exact this)
      | ow v => cases q : σ[j]?.join <;> (rw [q] at this; exact this)
      | ex c2 vs2 =>
        cases q : σ[j]?.join with
        | none => rw [q] at this; exact this.elim
        | some u => rw [q] at this; obtain ⟨_, _, z, _⟩ := this; cases z
  · rcases set_get e1 with ⟨rfl, rfl, _⟩ | ⟨n1, e1'⟩
    · cases o1
    · rcases set_get e2 with ⟨rfl, rfl, _⟩ | ⟨n2, e2'⟩
      · cases o2
      · rw [List.getElem?_set_ne (Ne.symm n1)] at q1
        rw [List.getElem?_set_ne (Ne.symm n2)] at q2
        exact B.sp j k s t b e1' o1 e2' o2 q1 q2
/-- .. and loses it -/
theorem BRel.unEx {F : Frm} {Z : Hp} {L : List Addr} {r : Ev} {S : Store} {σ : L2.St} {H : Hp} {i : Nat} (B : BRel G x F Z L r S σ H) (hn : (r.set i .no).any isEx = false) : BRel G none F Z L (r.set i .no) S (σ.set i none) H := by
  refine ⟨B.h, by rw [List.length_set, List.length_set]; exact B.len, fun j s e => ?_, fun j k s t b e1 o1 e2 o2 q1 q2 => ?_⟩
  · have hx : isEx s = false := by
      cases q : isEx s with
      | false => rfl
      | true =>
        have := List.any_eq_true.mpr ⟨s, List.mem_of_getElem? e, q⟩
        rw [hn] at this; cases this
    rcases set_get e with ⟨rfl, rfl, hl⟩ | ⟨hj, e'⟩
    · trivial
    · rw [List.getElem?_set_ne (Ne.symm hj)]
      have := B.sl j s e'
      cases s with
      | no => trivial
      | sh v => cases q : σ[j]?.join <;> (rw [q] at this; exact this)
      | ow v => cases q : σ[j]?.join <;> (rw [q] at this; exact this)
      | ex c2 vs2 => cases hx
  · rcases set_get e1 with ⟨rfl, rfl, _⟩ | ⟨n1, e1'⟩
    · cases o1
    · rcases set_get e2 with ⟨rfl, rfl, _⟩ | ⟨n2, e2'⟩
      · cases o2
      · rw [List.getElem?_set_ne (Ne.symm n1)] at q1
        rw [List.getElem?_set_ne (Ne.symm n2)] at q2
        exact B.sp j k s t b e1' o1 e2' o2 q1 q2
/-! ### try with its clauses -/
def xiOf (i : Option Nat) (a : Addr) (c : Nat) (d : Addr) : Exi := match i with
  | some _ => some (a, c, d)
  | none => none
def tsOf (G : Gm) (cx : Cxt) (i : Option Nat) (cs : List CS) : Addr → Value → Option Addr → TS := fun a cls d => fun D σ H => ∃ c dd, G.P.xf c ≠ [] ∧ cls = .ref (G.Xa c) ∧ d = some dd ∧ tS G (xiOf i a c dd) W0 (execs cx cs) D σ H
def claOf (G : Gm) (cx : Cxt) : List (List Nat × Option Nat × List CS) → List Cla
  | [] => []
  | (l, i, cs) :: r => (.ref (G.Xa (l.headD 0)), i, tsOf G cx i cs) :: claOf G cx r
theorem BRel.noEx {F : Frm} {Z : Hp} {L : List Addr} {r : Ev} {S : Store} {σ : L2.St} {H : Hp} (B : BRel G x F Z L r S σ H) (hn : r.any isEx = false) (y : Exi) : BRel G y F Z L r S σ H := by
  refine ⟨B.h, B.len, fun j s e => ?_, B.sp⟩
  have hx : isEx s = false := by
    cases q : isEx s with
    | false => rfl
    | true =>
      have := List.any_eq_true.mpr ⟨s, List.mem_of_getElem? e, q⟩
      rw [hn] at this; cases this
  have := B.sl j s e
  cases s with
  | no => trivial
  | sh v => cases q : σ[j]?.join <;> (rw [q] at this; exact this)
  | ow v => cases q : σ[j]?.join <;> (rw [q] at this; exact this)
  | ex c2 vs2 => cases hx
theorem hand_mix {F : Frm} {Z : Hp} {L : List Addr} {r : Ev} {S : Store} {σ : L2.St} {H : Hp} {D : Ends} {c : Nat} {vs : List PV} {d : Addr} (hP : cx.P = G.P) (hne : G.P.xf c ≠ []) (B : BRel G none F Z L r S σ H) (R : RepX G Z L c vs d) : ∀ {hs : List (List Nat × Option Nat × List CS)},
    (∀ h ∈ hs, ∃ c', h.1 = [c'] ∧ PySem.W.exmOne G.K (.ref (G.Xa c)) (.ref (G.Xa c')) = some (G.P.xsub c c')) → Post (hand cx hs c vs r S) (FlK G none F D) (XPS G none W F) →
    wMix G.K W D (claOf G cx hs) (.ref (G.Xa c)) (some d) σ H
  | [], _, P => by
    unfold hand at P
    exact P σ Z L H d B R
  | (l, i, cs) :: hs, hx, P => by
    obtain ⟨c', e, hex⟩ := hx _ List.mem_cons_self
    dsimp only at e
    subst e
    unfold hand at P
    have ea : [c'].any (cx.P.xsub c) = G.P.xsub c c' := by rw [hP]; simp
    rw [ea] at P
    refine ⟨G.P.xsub c c', hex, fun hb a ha => ?_, fun hb => ?_⟩
    · rw [if_pos hb] at P
      cases i with
      | some i =>
        refine ⟨c, d, hne, rfl, rfl, F, Z, L, _, S, B.setEx R, ?_⟩
        dsimp only at P
        cases q2 : execs cx cs (setS r i (.ex c vs)) S with
        | bad w => rw [q2] at P; exact P.elim
        | exc _ _ _ _ => rw [q2] at P; exact P.elim
        | ok fl r2 S2 =>
          rw [q2] at P
          have q3 : execs cx cs (r.set i (.ex c vs)) S = .ok fl r2 S2 := q2
          rw [q3]
          cases fl with
          | nx =>
            dsimp only at P
            split at P
            · exact P.elim
            · rename_i hx
              exact fun Z3 L3 H3 σ3 B3 => P _ _ _ _ (B3.unEx (by simpa [setS] using hx))
          | rt v fr => exact P
      | none =>
        refine ⟨c, d, hne, rfl, rfl, F, Z, L, _, S, B, ?_⟩
        dsimp only at P
        cases q2 : execs cx cs r S with
        | bad w => rw [q2] at P; exact P.elim
        | exc _ _ _ _ => rw [q2] at P; exact P.elim
        | ok fl r2 S2 =>
          rw [q2] at P
          cases fl with
          | nx =>
            dsimp only at P
            split at P
            · exact P.elim
            · exact fun Z3 L3 H3 σ3 B3 => P _ _ _ _ B3
          | rt v fr => exact P
    · rw [if_neg (by rw [hb]; decide)] at P
      exact hand_mix hP hne B R (fun h hh => hx h (List.mem_cons_of_mem _ hh)) P
theorem ps_tryS (gx : GXS G N k sc W X) (hst : X.stack = X.env :: X.outer) (hfr : X.env.frame = some X.env.locals) (hP : cx.P = G.P) {body : List Stmt} {hd : ExceptHandler} {hl : List ExceptHandler} {cb : List CS} {hs : List (List Nat × Option Nat × List CS)}
    (hxm : ∀ h ∈ hs, ∃ c', h.1 = [c'] ∧ ∀ c, G.P.xf c ≠ [] → PySem.W.exmOne G.K (.ref (G.Xa c)) (.ref (G.Xa c')) = some (G.P.xsub c c'))
    (hb : ∀ (W' : WX) (pn : List (Addr × Obj)) (xe : Value → Shared → Prop), Takes (X.tr pn xe) W' → PassesOwn (model X.prog X.w) X.A X.env xe → PSs (X.tr pn xe) body (tS G none W' (execs cx cb)))
    (hh : HdsX X (hd :: hl) (claOf G cx hs)) :
    PS X (.Try body (hd :: hl) [] [] pos) (tS G none W (exec cx (.try_ cb hs))) := by
  refine (ps_tryX (tb := fun W' => tS G none W' (execs cx cb)) hst hfr gx.nd gx.tk hb hh).imp fun D σ H ⟨F, Z, L, r, S, B, P⟩ => ?_
  refine ⟨F, Z, L, r, S, B, ?_⟩
  unfold exec at P
  cases q : execs cx cb r S with
  | bad w => rw [q] at P; exact P
  | ok fl r1 S1 => rw [q] at P; exact P
  | exc c vs r1 S1 =>
    rw [q] at P
    intro σ1 Z1 L1 H1 d B1 R1
    have hne : G.P.xf c ≠ [] := fun z => by
      obtain ⟨_, _, _, h1, h2⟩ := R1
      rw [z] at h1
      exact h2 (List.eq_nil_of_length_eq_zero h1.symm)
    rw [gx.K]
    exact hand_mix hP hne B1 R1 (fun h hh => by
      obtain ⟨c', e1, e2⟩ := hxm h hh
      exact ⟨c', e1, e2 c hne⟩) P
end
end Ci
namespace Ci
open PySem L2 PyProof.Rows
def swB (sc : Scope) (y : Str) (p lp : Pos) (scope : Scope) : Bool := decide (sc.names.lookup y = some .local) && (p.line == lp.line) && !(scope.names.any fun (n, k) => n == y && (k == .local || k == .cell))
def notTup : Expr → Bool
  | .Tuple _ _ _ => false
  | _ => true
def vHd : ExceptHandler → Option (Str × Option Str × Stmt × List Stmt)
  | .ExceptHandler (some (.Name xn _)) n (b0 :: suite) _ => some (xn, n, b0, suite)
  | _ => none
theorem vHd_ {h : ExceptHandler} {xn : Str} {n : Option Str} {b0 : Stmt} {suite : List Stmt} (e : vHd h = some (xn, n, b0, suite)) : ∃ p q, h = .ExceptHandler (some (.Name xn p)) n (b0 :: suite) q := by
  unfold vHd at e
  split at e
  · cases e; exact ⟨_, _, rfl⟩
  · cases e
def isComp : CE → Bool
  | .comp _ _ _ _ _ _ => true
  | _ => false
mutual
def chkS (T : Tx) (N : List Str) (hot : Bool) : CS → Scope → Stmt → Bool
  | .asg i e, sc, st => match st with
    | .Assign [.Name y p] ex _ => decide (N[i]? = some y) && locK sc y && chkE T N hot e sc ex && (notComp ex || (!hot && isComp e))
    | _ => false
  | .par ts es, sc, st => match st with
    | .Assign [.Tuple tgs _ _] (.Tuple vs _ _) _ => !hot && chkNs N sc ts tgs && (swK sc tgs vs).isSome && distinct2 ts && decide (vs.length ≤ 1000) && decide (vs.length = ts.length) && vs.all notStar && chkEs T N hot es sc vs
    | _ => false
  | .unp t e, sc, st => match st with
    | .Assign [tg] ex _ => !hot && chkT N sc t tg && notStar tg && notTup ex && notComp ex && chkE T N hot e sc ex
    | _ => false
  | .exp e, sc, st => match st with
    | .Expr ex _ => notComp ex && chkE T N hot e sc ex
    | _ => false
  | .ret e, sc, st => match st with
    | .Return (some ex) _ => chkE T N hot e sc ex
    | _ => false
  | .retN, _, st => match st with
    | .Return none _ => true
    | _ => false
  | .pass, _, st => match st with
    | .Pass _ => true
    | _ => false
  | .ife c a b, sc, st => match st with
    | .If ex p q _ => notIf ex && chkE T N hot c sc ex && chkSs T N hot a sc p && chkSs T N hot b sc q
    | _ => false
  | .for_ kill t it cb, sc, st => match st with
    | .For tg iter body [] _ => !hot && chkT N sc t tg && notSet iter && (chkI T N hot it sc iter && enmOk it tg) && chkSs T N hot cb sc body
    | _ => false
  | .whl kill c cb, sc, st => match st with
    | .While ex body [] _ => !hot && notIf ex && chkE T N hot c sc ex && chkSs T N hot cb sc body
    | _ => false
  | .setIs i ix e, sc, st => match st with
    | .Assign [.Subscript (.Name y _) xe _] ex _ => !hot && decide (N[i]? = some y) && visK sc y && nmOk y && notComp ex && notSlice xe && chkE T N hot e sc ex && chkE T N hot ix sc xe
    | _ => false
  | .setFs i f e, sc, st => match st with
    | .Assign [.Attribute (.Name y _) m _] ex _ => !hot && decide (N[i]? = some y) && visK sc y && nmOk y && decide (T.nms[f]? = some m) && notComp ex && chkE T N hot e sc ex
    | _ => false
  | .app i e, sc, st => match st with
    | .Expr (.Call (.Attribute (.Name y _) m ap) [ex] [] cp) _ => !hot && m == "append" && decide (N[i]? = some y) && visK sc y && nmOk y && notStar ex && (ap.endLine == cp.line) && chkE T N hot e sc ex
    | _ => false
  | .ins i a b, sc, st => match st with
    | .Expr (.Call (.Attribute (.Name y _) m ap) [e1, e2] [] cp) _ => !hot && m == "insert" && decide (N[i]? = some y) && visK sc y && nmOk y && notStar e1 && notStar e2 && (ap.endLine == cp.line) && chkE T N hot a sc e1 && chkE T N hot b sc e2
    | _ => false
  | .rse c es, sc, st => match st with
    | .Raise (some (.Call (.Name y _) (e :: as) [] _)) none _ => !hot && decide (T.xnm c = some y) && glK sc y && nmOk y && (e :: as).all notStar && chkEs T N hot es sc (e :: as)
    | _ => false
  | .try_ cb hs, sc, st => match st with
    | .Try body (hd :: hl) [] [] _ => !hot && chkSs T N false cb sc body && chkHs T N hs sc (hd :: hl)
    | _ => false
  | _, _, _ => false
def chkSs (T : Tx) (N : List Str) (hot : Bool) : List CS → Scope → List Stmt → Bool
  | [], _, [] => true
  | c :: cs, sc, s :: ss => chkS T N hot c sc s && chkSs T N hot cs sc ss
  | _, _, _ => false
def chkHs (T : Tx) (N : List Str) : List (List Nat × Option Nat × List CS) → Scope → List ExceptHandler → Bool
  | [], _, [] => true
  | (l, i, cs) :: hs, sc, h :: hl => match vHd h with
    | none => false
    | some (xn, n, b0, suite) => (match l with
      | [c'] => decide (T.xnm c' = some xn) && glK sc xn && nmOk xn
      | _ => false) && (match i, n with
      | some i, some n => decide (N[i]? = some n) && decide (sc.names.lookup n = some .local)
      | none, none => true
      | _, _ => false) && chkSs T N true cs sc (b0 :: suite) && chkHs T N hs sc hl
  | _, _, _ => false
end
end Ci
namespace Ci
open PySem L2 PyProof.Rows
/-- the facts of the own errors -/
structure GE (G : Gm) (T : Tx) (k : Nat) : Prop where
  k2 : 2 ≤ k
  nd : G.nms.Nodup
  tn : T.nms = G.nms
  errs : ∀ c y, T.xnm c = some y → ErrOk G c y
  xm : ∀ c c' y, G.P.xf c ≠ [] → T.xnm c' = some y → PySem.W.exmOne G.K (.ref (G.Xa c)) (.ref (G.Xa c')) = some (G.P.xsub c c')
  xfc : ∀ c, G.P.xf c ≠ [] → XfC G.K (G.Xa c) ∧ ∀ m ∈ G.nms, PySem.W.findIn G.K (.ref (G.Xa c)) m = some none
structure GXD (G : Gm) (N : List Str) (k : Nat) (sc : Scope) (W : WX) (X : Cx) : Prop extends GXS G N k sc W X where
  stk : X.stack = X.env :: X.outer
  frm : X.env.frame = some X.env.locals
section
variable {G : Gm} {x : Exi} {W : WX} {X : Cx} {cx : Cxt} {N : List Str} {k : Nat} {sc : Scope} {T : Tx} {hot : Bool}
theorem GXD.tr (gx : GXD G N k sc W X) {W' : WX} {pn : List (Addr × Obj)} {xe : Value → Shared → Prop} (tk : Takes (X.tr pn xe) W') (pa : PassesOwn (model X.prog X.w) X.A X.env xe) : GXD G N k sc W' (X.tr pn xe) where
  prog := gx.prog
  w := gx.w
  K := gx.K
  mg := gx.mg
  base := gx.base
  nN := gx.nN
  nd := gx.nd
  vis := gx.vis
  loc := gx.loc
  gl := gx.gl
  fr := gx.fr
  grd := gx.grd
  un := gx.un
  tk := tk
  room := gx.room
  calm := gx.calm
  scp := gx.scp
  kind := gx.kind
  pass := pa
  stk := gx.stk
  frm := gx.frm
theorem GXD.suite (gx : GXD G N k sc W X) {a : Addr} {pn : List (Addr × Obj)} : GX0 G N sc W0 (X.suite a pn) where
  prog := gx.prog
  w := gx.w
  K := gx.K
  mg := gx.mg
  base := gx.base
  nN := gx.nN
  nd := gx.nd
  vis := gx.vis
  loc := gx.loc
  gl := gx.gl
  fr := gx.fr
  grd := gx.grd
  un := gx.un
  tk := fun u s' ⟨_, _, _, _, _, _, _, _, _, _, _, _, _, _, _, _, w⟩ => w.elim
mutual
theorem sndS (gs : GS G T cx k) (ge : GE G T k) (hk : sc.kind = .function) : ∀ (hot : Bool) (c : CS) (st : Stmt) (x : Exi) (W : WX) (X : Cx), GX0 G N sc W X → (hot = false → GXD G N k sc W X ∧ x = none) → (hot = true → XfOk G x W X cx N sc) → chkS T N hot c sc st = true → PS X st (tS G x W (exec cx c))
  | hot, .asg i e, st, x, W, X, gx, gh, xo, h => by
    unfold chkS at h
    split at h
    · rename_i y p ex pos
      simp only [Bool.and_eq_true, Bool.or_eq_true, decide_eq_true_eq] at h
      obtain ⟨⟨⟨h1, h2⟩, h3⟩, h4⟩ := h
      have he := (sndE (x := x) gs e sc ex W X false gx (fun z => ⟨(gh z).1.toGX, (gh z).2⟩) xo ge.tn h3).v
      rcases h4 with h4 | h4
      · exact ps_asgS gx h1 h2 (sw_no h4) he
      · rw [Bool.not_eq_true'] at h4
        obtain ⟨gd, xn⟩ := gh h4.1
        cases e with
        | comp own frz tgt it cond celt =>
          have h3' := h3
          unfold chkE at h3'
          split at h3'
          · rename_i el tg iter ifs scope hv
            obtain ⟨lp, rfl⟩ := vComp_ hv
            by_cases hb : swB sc y p lp scope = true
            · unfold swB at hb
              simp only [Bool.and_eq_true, decide_eq_true_eq] at hb
              obtain ⟨⟨b1, b2⟩, b3⟩ := hb
              rw [h4.1] at h3
              exact ps_asgLc gd.toGXS gs xn ge.tn h1 b1 (sw_true (by rw [gd.scp]; exact gd.kind) (by rw [gd.scp]; exact b1) b2 (by simpa using b3)) h3
            · refine ps_asgS gx h1 h2 (sw_false (by rw [gd.scp]; exact gd.kind) ?_) he
              rw [gd.scp]
              have hb2 : swB sc y p lp scope = false := by simpa using hb
              exact hb2
          · cases h3'
        | _ => exact absurd h4.2 (by simp [isComp])
    · cases h
  | hot, .exp e, st, x, W, X, gx, gh, xo, h => by
    unfold chkS at h
    split at h
    · rename_i ex pos
      simp only [Bool.and_eq_true] at h
      exact ps_expS h.1 (sndE (x := x) gs e sc ex W X false gx (fun z => ⟨(gh z).1.toGX, (gh z).2⟩) xo ge.tn h.2).v
    · cases h
  | hot, .unp t e, st, x, W, X, gx, gh, xo, h => by
    unfold chkS at h
    split at h
    · rename_i tg ex pos
      simp only [Bool.and_eq_true, Bool.not_eq_true'] at h
      obtain ⟨⟨⟨⟨⟨h1, h2⟩, h3⟩, h4⟩, h5⟩, h6⟩ := h
      obtain ⟨gd, xn⟩ := gh h1
      exact ps_unpS gd.toGXS h2 (by rw [sw1]; exact sw_no h5) (by cases ex <;> first | (simp [notTup] at h4; done) | (cases tg <;> rfl)) h3 (sndE (x := x) gs e sc ex W X false gx (fun z => ⟨(gh z).1.toGX, (gh z).2⟩) xo ge.tn h6).v
    · cases h
  | hot, .ret e, st, x, W, X, gx, gh, xo, h => by
    unfold chkS at h
    split at h
    · exact ps_retS (sndE (x := x) gs e sc _ W X false gx (fun z => ⟨(gh z).1.toGX, (gh z).2⟩) xo ge.tn h).v
    · cases h
  | hot, .retN, st, x, W, X, gx, gh, xo, h => by
    unfold chkS at h
    split at h
    · exact ps_retNS
    · cases h
  | hot, .pass, st, x, W, X, gx, gh, xo, h => by
    unfold chkS at h
    split at h
    · exact ps_passS
    · cases h
  | hot, .ife c a b, st, x, W, X, gx, gh, xo, h => by
    unfold chkS at h
    split at h
    · rename_i ex p q pos
      simp only [Bool.and_eq_true] at h
      exact ps_ifS ((sndE (x := x) gs c sc ex W X false gx (fun z => ⟨(gh z).1.toGX, (gh z).2⟩) xo ge.tn h.1.1.2).t (notIf_ h.1.1.1)) (sndSs gs ge hk hot a p x W X gx gh xo h.1.2) (sndSs gs ge hk hot b q x W X gx gh xo h.2)
    · cases h
  | hot, .for_ kill tt it cb, st, x, W, X, gx, gh, xo, h => by
    unfold chkS at h
    split at h
    · rename_i tg iter body pos
      simp only [Bool.and_eq_true, Bool.not_eq_true'] at h
      obtain ⟨⟨⟨⟨h1, h2⟩, h3⟩, h4⟩, h5⟩ := h
      obtain ⟨gd, xn⟩ := gh h1
      exact ps_forS gd.toGXS (sndI (x := x) gs it sc iter W X false tg true [] gx (fun z => ⟨(gh z).1.toGX, (gh z).2⟩) xo ge.tn h4.1 h4.2) h2 h3 (sndSs gs ge hk hot cb body x W X gx gh xo h5)
    · cases h
  | hot, .whl kill c cb, st, x, W, X, gx, gh, xo, h => by
    unfold chkS at h
    split at h
    · rename_i ex body pos
      simp only [Bool.and_eq_true, Bool.not_eq_true'] at h
      obtain ⟨⟨⟨h1, h2⟩, h3⟩, h4⟩ := h
      obtain ⟨gd, xn⟩ := gh h1
      exact ps_whlS gd.toGXS ((sndE (x := x) gs c sc ex W X false gx (fun z => ⟨(gh z).1.toGX, (gh z).2⟩) xo ge.tn h3).t (notIf_ h2)) (sndSs gs ge hk hot cb body x W X gx gh xo h4)
    · cases h
  | hot, .rse c es, st, x, W, X, gx, gh, xo, h => by
    unfold chkS at h
    split at h
    · rename_i y p e as q pos
      simp only [Bool.and_eq_true, Bool.not_eq_true', decide_eq_true_eq] at h
      obtain ⟨⟨⟨⟨⟨h1, h2⟩, h3⟩, h4⟩, h5⟩, h6⟩ := h
      obtain ⟨gd, xn⟩ := gh h1
      obtain ⟨hl, hp⟩ := sndEs (x := x) gs es sc (e :: as) W X false gx (fun z => ⟨(gh z).1.toGX, (gh z).2⟩) xo ge.tn h6
      exact ps_rseS gd.toGXS ge.k2 gs.P (ge.errs c y h2) h3 h4 (all_ns h5) (pa_evs hl (fun i e c a b => (hp i e c a b).v) fun e' he es env => star_cons (all_ns h5 e' he) es env)
    · cases h
  | hot, .setIs i ix e, st, x, W, X, gx, gh, xo, h => by
    unfold chkS at h
    split at h
    · rename_i y p xe sp ex pos
      simp only [Bool.and_eq_true, Bool.not_eq_true', decide_eq_true_eq] at h
      obtain ⟨⟨⟨⟨⟨⟨⟨h1, h2⟩, h3⟩, h4⟩, h5⟩, h6⟩, h7⟩, h8⟩ := h
      obtain ⟨gd, xn⟩ := gh h1
      exact ps_setIsS gd.toGXS h2 h3 h4 h5 h6 (sndE (x := x) gs e sc ex W X false gx (fun z => ⟨(gh z).1.toGX, (gh z).2⟩) xo ge.tn h7).v (sndE (x := x) gs ix sc xe W X false gx (fun z => ⟨(gh z).1.toGX, (gh z).2⟩) xo ge.tn h8).v
    · cases h
  | hot, .app i e, st, x, W, X, gx, gh, xo, h => by
    unfold chkS at h
    split at h
    · rename_i y p m ap ex cp pos
      simp only [Bool.and_eq_true, Bool.not_eq_true', decide_eq_true_eq, beq_iff_eq] at h
      obtain ⟨⟨⟨⟨⟨⟨⟨h1, h2⟩, h3⟩, h4⟩, h5⟩, h6⟩, h7⟩, h8⟩ := h
      subst h2
      obtain ⟨gd, xn⟩ := gh h1
      exact ps_appS gd.toGXS h3 h4 h5 h6 (by simpa using h7) (sndE (x := x) gs e sc ex W X false gx (fun z => ⟨(gh z).1.toGX, (gh z).2⟩) xo ge.tn h8).v
    · cases h
  | hot, .ins i a b, st, x, W, X, gx, gh, xo, h => by
    unfold chkS at h
    split at h
    · rename_i y p m ap e1 e2 cp pos
      simp only [Bool.and_eq_true, Bool.not_eq_true', decide_eq_true_eq, beq_iff_eq] at h
      obtain ⟨⟨⟨⟨⟨⟨⟨⟨⟨h1, h2⟩, h3⟩, h4⟩, h5⟩, h6⟩, h7⟩, h8⟩, h9⟩, h10⟩ := h
      subst h2
      obtain ⟨gd, xn⟩ := gh h1
      exact ps_insS gd.toGXS h3 h4 h5 h6 h7 (by simpa using h8) (sndE (x := x) gs a sc e1 W X false gx (fun z => ⟨(gh z).1.toGX, (gh z).2⟩) xo ge.tn h9).v (sndE (x := x) gs b sc e2 W X false gx (fun z => ⟨(gh z).1.toGX, (gh z).2⟩) xo ge.tn h10).v
    · cases h
  | hot, .par ts es, st, x, W, X, gx, gh, xo, h => by
    unfold chkS at h
    split at h
    · rename_i tgs k1 p1 vs k2 p2 pos
      simp only [Bool.and_eq_true, Bool.not_eq_true', decide_eq_true_eq] at h
      obtain ⟨⟨⟨⟨⟨⟨⟨h1, h2⟩, h3⟩, h4⟩, h5⟩, h6⟩, h7⟩, h8⟩ := h
      obtain ⟨gd, xn⟩ := gh h1
      obtain ⟨hl, hp⟩ := sndEs (x := x) gs es sc vs W X false gx (fun z => ⟨(gh z).1.toGX, (gh z).2⟩) xo ge.tn h8
      obtain ⟨o, ho⟩ := Option.isSome_iff_exists.mp h3
      exact ps_parS gd.toGXS h2 ho h4 h5 hl h6 (all_ns h7) fun i e c a b => (hp i e c a b).v
    · cases h
  | hot, .try_ cb hs, st, x, W, X, gx, gh, xo, h => by
    unfold chkS at h
    split at h
    · rename_i body hd hl pos
      simp only [Bool.and_eq_true, Bool.not_eq_true'] at h
      obtain ⟨⟨h1, h2⟩, h3⟩ := h
      obtain ⟨gd, xe⟩ := gh h1
      subst xe
      obtain ⟨k1, k2⟩ := sndHs gs ge hk hs (hd :: hl) W X gd h3
      exact ps_tryS gd.toGXS gd.stk gd.frm gs.P k2 (fun W' pn xe tk pa => sndSs gs ge hk false cb body none W' _ (gd.tr tk pa).toGX0 (fun _ => ⟨gd.tr tk pa, rfl⟩) (fun z => by cases z) h2) k1
    · cases h
  | _, .parF _ _ _, _, _, _, _, _, _, _, h => by unfold chkS at h; cases h
  | _, .setI _ _ _, _, _, _, _, _, _, _, h => by unfold chkS at h; cases h
  | _, .setF _ _ _, _, _, _, _, _, _, _, h => by unfold chkS at h; cases h
  | hot, .setFs i f e, st, x, W, X, gx, gh, xo, h => by
    unfold chkS at h
    split at h
    · rename_i y p m ap ex pos
      simp only [Bool.and_eq_true, Bool.not_eq_true', decide_eq_true_eq] at h
      obtain ⟨⟨⟨⟨⟨⟨h1, h2⟩, h3⟩, h4⟩, h5⟩, h6⟩, h7⟩ := h
      obtain ⟨gd, xn⟩ := gh h1
      rw [ge.tn] at h5
      exact ps_setFsS gs gd.toGXS h2 h3 h4 h5 h6 (sndE (x := x) gs e sc ex W X false gx (fun z => ⟨(gh z).1.toGX, (gh z).2⟩) xo ge.tn h7).v
    · cases h
  | _, .parI _ _, _, _, _, _, _, _, _, h => by unfold chkS at h; cases h
  | _, .appA _ _, _, _, _, _, _, _, _, h => by unfold chkS at h; cases h
  | _, .ext _ _, _, _, _, _, _, _, _, h => by unfold chkS at h; cases h
  | _, .pop _ _ _ _, _, _, _, _, _, _, _, h => by unfold chkS at h; cases h
  | _, .aug _ _ _, _, _, _, _, _, _, _, h => by unfold chkS at h; cases h
  | _, .augF _ _ _ _, _, _, _, _, _, _, _, h => by unfold chkS at h; cases h
  | _, .augS _ _ _ _, _, _, _, _, _, _, _, h => by unfold chkS at h; cases h
  | _, .rers, _, _, _, _, _, _, _, h => by unfold chkS at h; cases h
theorem sndSs (gs : GS G T cx k) (ge : GE G T k) (hk : sc.kind = .function) : ∀ (hot : Bool) (cs : List CS) (st : List Stmt) (x : Exi) (W : WX) (X : Cx), GX0 G N sc W X → (hot = false → GXD G N k sc W X ∧ x = none) → (hot = true → XfOk G x W X cx N sc) → chkSs T N hot cs sc st = true → PSs X st (tS G x W (execs cx cs))
  | hot, [], [], x, W, X, gx, gh, xo, h => pss_nilS
  | hot, c :: cs, s :: ss, x, W, X, gx, gh, xo, h => by
    unfold chkSs at h
    rw [Bool.and_eq_true] at h
    exact pss_consS (sndS gs ge hk hot c s x W X gx gh xo h.1) (sndSs gs ge hk hot cs ss x W X gx gh xo h.2)
  | _, [], _ :: _, _, _, _, _, _, _, h => by unfold chkSs at h; cases h
  | _, _ :: _, [], _, _, _, _, _, _, h => by unfold chkSs at h; cases h
theorem sndHs (gs : GS G T cx k) (ge : GE G T k) (hk : sc.kind = .function) : ∀ (hs : List (List Nat × Option Nat × List CS)) (hl : List ExceptHandler) (W : WX) (X : Cx), GXD G N k sc W X → chkHs T N hs sc hl = true →
    HdsX X hl (claOf G cx hs) ∧ ∀ h ∈ hs, ∃ c', h.1 = [c'] ∧ ∀ c, G.P.xf c ≠ [] → PySem.W.exmOne G.K (.ref (G.Xa c)) (.ref (G.Xa c')) = some (G.P.xsub c c')
  | [], [], W, X, gd, h => ⟨.nil, fun _ h => (nomatch h)⟩
  | (l, i, cs) :: hs, hd :: hl, W, X, gd, h => by
    unfold chkHs at h
    split at h
    · cases h
    rename_i xn n b0 suite hv
    obtain ⟨np, pos, rfl⟩ := vHd_ hv
    simp only [Bool.and_eq_true] at h
    obtain ⟨⟨⟨h1, h2⟩, h3⟩, h4⟩ := h
    obtain ⟨k1, k2⟩ := sndHs gs ge hk hs hl W X gd h4
    split at h1
    · rename_i c'
      simp only [Bool.and_eq_true, decide_eq_true_eq] at h1
      obtain ⟨⟨h1, h5⟩, h6⟩ := h1
      have hc : Names X xn (.ref (G.Xa c')) := ⟨gd.gl _ h5, (nmOk_ h6).1, .inl (by rw [gd.mg]; exact (ge.errs c' xn h1).mg)⟩
      refine ⟨?_, fun h hm => ?_⟩
      · cases i with
        | some i =>
          cases n with
          | some n =>
            simp only [Bool.and_eq_true, decide_eq_true_eq] at h2
            refine .as (by rw [gd.nN]; exact h2.1) (by show X.env.scope.names.lookup n = _; rw [gd.scp]; exact h2.2) hc (fun a oe cls d pn hz hf => ⟨fun pins s σ H D I ⟨c, dd, e0, e1, e2, w⟩ => ?_⟩) k1
            subst e1; subst e2
            exact (sndSs gs ge hk true cs (b0 :: suite) (some (a, c, dd)) W0 _ gd.suite (fun z => by cases z) (fun _ => xf_suite gs.P gd.K gd.nN gd.vis ge.nd (ge.xfc c e0).1 (ge.xfc c e0).2 hz hf) h3).run pins s σ H D I w
          | none => cases h2
        | none =>
          cases n with
          | some n => cases h2
          | none =>
            refine .no hc (fun a oe cls d pn hz hf => ⟨fun pins s σ H D I ⟨c, dd, e0, e1, e2, w⟩ => ?_⟩) k1
            exact (sndSs gs ge hk true cs (b0 :: suite) none W0 _ gd.suite (fun z => by cases z) (fun _ _ _ _ _ _ _ _ _ _ _ _ => xf_none) h3).run pins s σ H D I w
      · rcases List.mem_cons.mp hm with rfl | hm
        · exact ⟨c', rfl, fun c hc => ge.xm c c' xn hc h1⟩
        · exact k2 h hm
    · cases h1
  | [], _ :: _, _, _, _, h => by unfold chkHs at h; cases h
  | _ :: _, [], _, _, _, h => by unfold chkHs at h; cases h
end
end
end Ci
/-! a def's call; the table of defs; the law's end -/
namespace Ci
open PySem L2 PyProof.Rows
section
variable {G : Gm} {Z : Hp} {L : List Addr} {n : Nat}
variable {F : Frm} {S : Store} {H : Hp}
/-- the store's new places are forgotten -/
theorem HRel.trunc {vs : List PV} (h : HRel G F Z L S H) (hn : F.L0.length ≤ n) : ∃ L', HRel G F Z L' (trunc n vs S) H ∧ (L' = L ∨ (L' = L.take n ∧ locBs n vs = true)) := by
  unfold Ci.trunc
  split
  · exact ⟨L, h, .inl rfl⟩
  · split
    · rename_i hc
      rw [Bool.and_eq_true] at hc
      exact ⟨L.take n, h.cut hn hc.2, .inr ⟨rfl, hc.1⟩⟩
    · exact ⟨L, h, .inl rfl⟩
theorem RepX.trim {c : Nat} {vs : List PV} {d : Addr} (h : RepX G Z L c vs d) (q : locBs n vs = true) : RepX G Z (L.take n) c vs d := by
  obtain ⟨vfs, h1, h2, h3, h4⟩ := h
  refine ⟨vfs, h1, ?_, h3, h4⟩
  have : ∀ {fs : List Nat} {vs : List PV} {us : List (Str × V)}, locBs n vs = true → RepF G Z L (fs.zip vs) us → RepF G Z (L.take n) (fs.zip vs) us := by
    intro fs
    induction fs with
    | nil => intro vs us _ r; cases r; exact .nil
    | cons f fs ih =>
      intro vs us q r
      cases vs with
      | nil => cases r; exact .nil
      | cons v vs =>
        unfold locBs at q
        rw [Bool.and_eq_true] at q
        cases r with
        | cons h1 h2 h3 => exact .cons h1 (h2.trim q.1) (ih q.2 h3)
  exact this q h2
theorem FR.trim {v : PV} {fr : Bool} {u : V} {L' : List Addr} {vs : List PV} (h : FR G F Z L H v fr u) (hl : L' = L ∨ (L' = L.take n ∧ locBs n [v] = true)) : FR G F Z L' H v fr u := by
  rcases hl with rfl | ⟨rfl, q⟩
  · exact h
  · have q' : locB n v = true := by unfold locBs at q; rw [Bool.and_eq_true] at q; exact q.1
    cases fr with
    | false => exact Rep.trim h q'
    | true =>
      obtain ⟨a, e, h1, h2, h3, h4⟩ := h
      exact ⟨a, e, h1.trim q', h2, h3, fun z => h4 (List.mem_of_mem_take z)⟩
end

/-! ### a def that is no __init__ -/
theorem reps_get {G : Gm} {Z : Hp} {L : List Addr} {vs : List PV} {us : List V} {i : Nat} {v : PV} (h : Reps G Z L vs us) (e : vs[i]? = some v) : ∃ u, us[i]? = some u ∧ Rep G Z L v u := h.get e
theorem BRel.start {G : Gm} {F : Frm} {Z : Hp} {L : List Addr} {S : Store} {H : Hp} {d : FnDef} {vs : List PV} {us : List V} {N : List Str} (h : HRel G F Z L S H) (R : Reps G Z L vs us) (hi : d.ini = none) (hn : N.length = d.ns) (hp : vs.length = d.np) : BRel G none F Z L (env0 d vs) S (L2.start N us) H := by
  have e0 : env0 d vs = vs.map .sh ++ List.replicate (d.ns - d.np) .no := by unfold env0; rw [hi]; rfl
  have hl := R.length
  have notOw : ∀ (i : Nat) (s : Sl), (env0 d vs)[i]? = some s → isOw s = true → False := fun i s e hs => by
    rw [e0] at e
    rcases List.mem_append.mp (List.mem_of_getElem? e) with m | m
    · obtain ⟨v, _, rfl⟩ := List.mem_map.mp m; cases hs
    · rw [List.eq_of_mem_replicate m] at hs; cases hs
  refine ⟨h, ?_, fun i s e => ?_, fun i j s t a e1 o1 _ _ _ _ => (notOw i s e1 o1).elim⟩
  · rw [e0]; unfold L2.start
    rw [List.length_append, List.length_append, List.length_map, List.length_map, List.length_replicate, List.length_replicate, hn]
    omega
  · rw [e0] at e
    by_cases hi : i < vs.length
    · rw [List.getElem?_append_left (by simpa using hi), List.getElem?_map] at e
      cases q : vs[i]? with
      | none => rw [q] at e; cases e
      | some v =>
        rw [q] at e
        cases e
        obtain ⟨u, h1, h2⟩ := R.get q
        unfold L2.start
        rw [List.getElem?_append_left (by rw [List.length_map]; omega), List.getElem?_map, h1]
        exact h2
    · rw [List.getElem?_append_right (by simpa using hi)] at e
      rw [List.eq_of_mem_replicate (List.mem_of_getElem? e)]
      trivial
/-- what is asked of a def's text -/
structure DefC (T : Tx) (d : FnDef) (st : Stmt) (N ps : List Str) : Prop where
  S : FnScope N ps (defScope st)
  ch : chkSs T N false d.body (defScope st) (defBody st) = true
  np : ps.length = d.np
  ns : N.length = d.ns
  ini : d.ini = none
theorem visK_of {N ps : List Str} {sc : Scope} (S : FnScope N ps sc) {y : Str} (h : visK sc y = true) : sc.names.lookup y = some .local ∨ sc.names.lookup y = some .cell := by
  rcases visK_ h with h | h | h
  · exact .inl h
  · exact .inr h
  · exact absurd rfl (S.nofree _ (PySem.mem_of_lookup h))
theorem runB {P : Prog} {k f : Nat} {d : FnDef} {vs : List PV} {S : Store} (hf : P.fns f = some d) (hi : d.ini = none) : run P (k + 1) f vs S = if vs.length = d.np then fin d S.length (execs ⟨P, run P k⟩ d.body (env0 d vs) S) else .bad 123 := by
  rw [run_succ]
  rw [hf]
  dsimp only
  rw [hi]
theorem fnG_of {G : Gm} {T : Tx} {k m f : Nat} {d : FnDef} {st : Stmt} {N ps : List Str} {x qual : Str} {fd : FuncData} (gs : GS G T ⟨G.P, run G.P m⟩ k) (ge : GE G T k) (Fn : Fun G.K x qual st (G.fa f) fd) (hf : G.P.fns f = some d) (D : DefC T d st N ps) :
    FnG G.prog G.w G.K G.mg G.base (k + 1) (G.fa f) fd ps (spF G (run G.P (m + 1) f)) := by
  obtain ⟨oc, od, kV, doc, pm, an, cdv, ct, osl, rfl, lk, hcd⟩ := Fn.ex
  have len : ∀ vs H Q E, spF G (run G.P (m + 1) f) vs H Q E → vs.length = ps.length := fun us H Q E ⟨F, Z, L, S, vs, h, R, P⟩ => by
    rw [runB hf D.ini] at P
    split at P
    · rename_i hl
      rw [D.np, ← hl]; exact R.length.symm
    · exact P.elim
  refine ⟨len, fun A outer s H args us vs Q E hr hg e0 hb r hsp => ?_⟩
  have KX : G.K.In s.heap := e0.mod.kin.keeps fun b o e => (e0.bs b o e).1
  have lim : s.heap.NoLimit := e0.mod.nolimit.keeps fun b o e => (e0.bs b o e).1
  have hl := len _ _ _ _ hsp
  have S := D.S
  have hkd : ∀ y ∈ ps.zip us, (defScope st).names.lookup y.1 = some .local ∨ ((defScope st).names.lookup y.1 = some .cell ∧ ((cellsFrom (s.heap.objs.size + 1) (defScope st).names []).lookup y.1).isSome = true) := fun ⟨n, v⟩ hy => by
    rcases S.par n (List.of_mem_zip hy).1 with q | q
    · exact .inl q
    · exact .inr ⟨q, PySem.W.cellsFrom_some _ _ _ (.inl q)⟩
  refine codeAny_call_function hr.depth (KX _ _ lk) rfl S.co S.gen rfl (PySem.W.codeRec_of KX hcd) (hb _ _ _ _ ?_)
  refine wpAny_newFunctionEnv_cells S.kind hkd fun env he s1 xx => ?_
  subst he
  refine ⟨lim.keeps xx.toInCall.keep, codeAny_func ?_⟩
  obtain ⟨F, Z, L, St, pvs, hR, R, P⟩ := hsp
  let X : Cx := cxOf (L2.CX G.prog G.w) G.prog G.w G.K G.mg G.base N qual (defScope st) (G.fa f) cdv A outer s H E
  have I : Inv X [] (start N vs) H s1 := inv_start S hr.hd e0 hl r xx
  have gx : GXD G N k (defScope st) (fun cls d _ H => E cls d H) X :=
    { prog := rfl, w := rfl, K := rfl, mg := rfl, base := rfl, nN := rfl, nd := S.nd
      vis := fun y hy => by
        rcases visK_of S hy with h | h
        · exact .inl h
        · exact .inr (.inl h)
      loc := fun y hy => by
        rcases locK_ hy with h | h
        · exact ⟨.inl h, .inl rfl⟩
        · exact ⟨.inr h, .inl rfl⟩
      gl := fun y hy => glK_ hy
      fr := fun y hy => hy
      grd := hg
      un := by have := hr.un; show A.units + 3 + 200 < _; omega
      tk := takes_of rfl rfl rfl rfl
      room := hr.deeper _
      calm := rfl
      scp := rfl
      kind := S.kind
      pass := passes_of rfl
      stk := rfl
      frm := rfl }
  have hs := sndSs gs ge S.kind false d.body (defBody st) none (fun cls d _ H => E cls d H) X gx.toGX0 (fun _ => ⟨gx, rfl⟩) (fun z => by cases z) D.ch
  have vl : pvs.length = d.np := by rw [← D.np, ← hl]; exact R.length
  have hL0 : F.L0.length ≤ St.length := by rw [← hR.ln]; exact hR.l0.length_le
  have hq : tS G none (fun cls d _ H => E cls d H) (execs ⟨G.P, run G.P m⟩ d.body) { nx := fun _ H' => Q .non H', rt := Q } (start N vs) H := by
    refine ⟨F, Z, L, env0 d pvs, St, BRel.start hR R D.ini D.ns vl, ?_⟩
    rw [runB hf D.ini, if_pos vl] at P
    unfold fin at P
    rw [D.ini] at P
    cases q : execs ⟨G.P, run G.P m⟩ d.body (env0 d pvs) St with
    | bad w => rw [q] at P; exact P
    | exc c ws r1 S1 =>
      rw [q] at P
      intro σ1 Z1 L1 H1 dd B1 R1
      obtain ⟨L', h', hl'⟩ := B1.h.trunc (vs := ws) hL0
      refine P Z1 L' H1 dd h' ?_
      rcases hl' with rfl | ⟨rfl, q⟩
      · exact R1
      · exact R1.trim q
    | ok fl r1 S1 =>
      rw [q] at P
      cases fl with
      | nx =>
        intro Z1 L1 H1 σ1 B1
        obtain ⟨L', h', hl'⟩ := B1.h.trunc (vs := []) hL0
        exact P Z1 L' H1 .non h' .non
      | rt v fr =>
        intro Z1 L1 H1 u h1 f1
        obtain ⟨L', h', hl'⟩ := h1.trunc (vs := [v]) hL0
        exact P Z1 L' H1 u h' (f1.trim (vs := []) hl')
  refine wpAny_mono (hs.run [] s1 (start N vs) H _ I hq) (fun fl s' hs => ?_) fun e s' hs => hs
  have fin : ∀ {σ' : L2.St} {H' : Hp} {v : V} {u : Value}, Inv X [] σ' H' s' → RelV v u → Q v H' → L2.CE outer G.prog G.w H s Q u s' := fun {σ' H' v u} J rv q => ⟨v, H', J.os, J.bare, J.base, J.hok, rv, q⟩
  cases fl with
  | ret u =>
    obtain ⟨v, σ', H', J, rv, q⟩ := hs
    exact fin J rv q
  | next =>
    obtain ⟨σ', H', J, q⟩ := hs
    exact fin (v := V.non) (u := Value.none) J rfl q
  | brk =>
    obtain ⟨_, _, _, q⟩ := hs
    exact False.elim q
  | cont =>
    obtain ⟨_, _, _, q⟩ := hs
    exact False.elim q
end Ci
namespace Ci
open PySem L2 PyProof.Rows
/-! ### the end of a law -/
theorem end_call {P : Program} {w : World} {K : PySem.W.Frag} {mg mb : Str → Option Value} {fa a : Addr} {t : Shared} {vs : List Value} {ns : List Int}
    (KX : K.In t.heap) (h1 : t.heap.Ns mainGlobals mg) (h2 : t.heap.Ns builtinsNs mb) (h3 : ∀ y : Str, y ≠ "__name__" → mb y = bootBuiltins y) (h4 : t.heap.NoLimit) (h5 : t.gens = #[])
    (ha : t.heap.get? a = some { cls := .type "list", data := .seq vs.toArray }) (hi : IntsAre vs ns) (hl : ns.length ≤ sizeLine)
    (RN : ∀ (base : Heap) (H : Hp), K.In base → base.Ns mainGlobals mg → Env0 P w K mg base callerA [] t H → Only H → SqL K H a (ns.map V.int) →
      codeAny (model P w) callerA (.call (.ref fa) ⟨[.ref a], []⟩) (CR (L2.CX P w) [] P w H t (fun v _ => v = .bl true) fun _ _ _ => False) t) :
    codeAny (model P w) callerA (.call (.ref fa) ⟨[.ref a], []⟩) (fun r s' => r = .ok (.ret (.bool true)) ∧ OldK t.heap s'.heap ∧ s'.os = t.os ∧ AllBare s'.gens) t := by
  have rv := vals_ints hi
  have key : ∀ H : Hp, Only H → SqL K H a (ns.map V.int) → HOk P w H t.heap → (∀ b, H b ≠ none → b = a) → (H a ≠ none → K.lookup a = none) →
      codeAny (model P w) callerA (.call (.ref fa) ⟨[.ref a], []⟩) (fun r s' => r = .ok (.ret (.bool true)) ∧ OldK t.heap s'.heap ∧ s'.os = t.os ∧ AllBare s'.gens) t := by
    intro H hO hS hok hA hK
    have at_ : ∀ {b : Addr}, (b = a → False) → H b = none := fun {b} n => by
      cases q : H b with
      | none => rfl
      | some u => exact (n (hA b (by rw [q]; simp))).elim
    have nsK : ∀ {b : Addr} {m : Str → Option Value}, t.heap.Ns b m → (hidT t.heap H).Ns b m := fun {b m} ⟨o, es, ep, e, d, r⟩ => by
      refine ⟨o, es, ep, hidT_get e (at_ fun z => ?_), d, r⟩
      subst z
      rw [ha] at e; cases e
      have d' : Data.seq vs.toArray _ = Data.dict es ep := d
      cases d'
    have hKb : K.In (hidT t.heap H) := fun b o e => hidT_get (KX b o e) (by
      cases q : H b with
      | none => rfl
      | some u =>
        have z : b = a := hA b (by rw [q]; simp)
        subst z
        rw [hK (by rw [q]; simp)] at e; cases e)
    have hM : Mod K mg (hidT t.heap H) := ⟨hKb, nsK h1, ⟨mb, nsK h2, h3⟩, let ⟨mc, q1, q2⟩ := h4; ⟨mc, nsK q1, q2⟩⟩
    have e0 : Env0 P w K mg (hidT t.heap H) callerA [] t H := ⟨rfl, hM, fun b o e => of_hidT e, Nat.le_of_eq (hidT_size _ _), trivial, (fun b hb => absurd (show b ∈ ([] : List Addr) from hb) (by simp)), hok, .of_eq h5⟩
    refine codeAny_mono (RN _ H hKb (nsK h1) e0 hO hS) fun r s' h => ?_
    match r, h with
    | .error e, h =>
      obtain ⟨_, _, _, _, _, _, _, _, _, _, _, _, z⟩ := h
      exact z.elim
    | .ok .next, h => exact False.elim h
    | .ok .brk, h => exact False.elim h
    | .ok .cont, h => exact False.elim h
    | .ok (.ret u), h =>
      obtain ⟨v, H', os, bare, un, hok', r', q⟩ := h
      obtain rfl : v = .bl true := q
      obtain rfl : u = Value.bool true := r'
      refine ⟨rfl, OldK.of_keep fun b o e => ?_, os, bare⟩
      cases q : H b with
      | none => exact un.keep b o e q (fun z => absurd (show b ∈ ([] : List Addr) from z) (by simp)) (by simp)
      | some u =>
        rcases hO b with z | ⟨ob, xs, z⟩
        · rw [q] at z; cases z
        · obtain ⟨e1, _⟩ := hok b _ z
          obtain ⟨e2, _⟩ := hok' b _ (un.frzs b ob _ z)
          rw [e] at e1; cases e1
          exact e2
  have lv := hi.length
  cases hk : K.lookup a with
  | some o =>
    have e := KX a o hk
    rw [ha] at e
    cases e
    exact key (fun _ => none) (fun _ => .inl rfl) (.inr ⟨_, vs.toArray, _, hk, rfl, rfl, rfl, by rw [List.size_toArray, lv]; exact hl, by simpa using rv⟩) (fun b u z => by cases z) (fun b z => absurd rfl z) fun z => absurd rfl z
  | none =>
    refine key (fun b => if b = a then some (.frz { cls := .type "list", data := .seq vs.toArray } (.lst (ns.map V.int))) else none) (fun b => ?_) (.inl (.inr ⟨{ cls := .type "list", data := .seq vs.toArray }, if_pos rfl⟩)) (fun b u z => ?_) (fun b z => ?_) fun _ => hk
    · by_cases hb : b = a
      · exact .inr ⟨_, _, if_pos hb⟩
      · exact .inl (if_neg hb)
    · by_cases hb : b = a
      · have z' := (if_pos hb).symm.trans z
        cases z'
        subst hb
        exact ⟨ha, by rw [List.length_map]; exact hl, vs, _, rv, ha⟩
      · have z' := (if_neg hb).symm.trans z
        cases z'
    · by_cases hb : b = a
      · exact hb
      · exact absurd (if_neg hb) z
/-- the law's run by the interpreter, for every script -/
def LawRun (P : Prog) (M f n : Nat) : Prop := ∀ ns : List Int, ns.length ≤ n → ∃ fr S', run P M f [.lst (ns.map .int)] [] = .ok (.bl true) fr S'
theorem spF_law {G : Gm} {M f n : Nat} {H : Hp} {a : Addr} {ns : List Int} (L : LawRun G.P M f n) (hl : ns.length ≤ n) (hS : SqL G.K H a (ns.map V.int)) : spF G (run G.P M f) [.ref a] H (fun v _ => v = .bl true) fun _ _ _ => False := by
  obtain ⟨fr, S', e⟩ := L ns hl
  have hints : ∀ ns : List Int, Reps G H [] (ns.map .int) (ns.map V.int) := fun ns => by
    induction ns with
    | nil => exact .nil
    | cons n ns ih => exact .cons (.int n) ih
  refine ⟨⟨fun _ => none, fun _ => none, []⟩, H, [], [], [.lst (ns.map .int)], ⟨(fun _ _ z => by cases z), List.prefix_refl _, Same.refl _, (fun _ _ z => by cases z), rfl, List.nodup_nil, (fun n c z => by simp at z), (fun b z => by cases z), fun _ _ _ => rfl⟩, .cons (.lst hS (hints ns)) .nil, ?_⟩
  rw [e]
  intro Z L H' u h r
  cases fr with
  | false => cases r; rfl
  | true =>
    obtain ⟨b, _, k, _⟩ := r
    exact k.elim
theorem walk_ci {l : PySem.W.OpenLaw} {n k : Nat} {q : Program} {loose : List Str} {XP : (Str → Option Value) → Heap → Prop} {YP : World → Heap → Prop} {d : DefRec} {K : Params → PySem.W.Frag} {y : Str}
    (hn : l.most = some n) (hn2 : n ≤ sizeLine) (hdf : d.params.defaults = []) (hr : Room k callerA)
    (hY : ∀ (w : World) (h : Heap), YP w h → (K w.params).In h)
    (F : ∀ (w : World) (mg : Str → Option Value) (fa : Addr) (h : Heap), (K w.params).In h → h.Ns mainGlobals mg → mg d.name = some (.ref fa) →
      ∃ fd : FuncData, (∀ (s : Shared) (u : Value), BindsTo s fd ⟨[u], []⟩ [(y, u)]) ∧
        ∀ base : Heap, (K w.params).In base → base.Ns mainGlobals mg → ∃ sp, FnG l.prog w (K w.params) mg base k fa fd [y] sp ∧ ∀ (H : Hp) (a : Addr) (ns : List Int), ns.length ≤ n → SqL (K w.params) H a (ns.map V.int) → sp [.ref a] H (fun v _ => v = .bl true) fun _ _ _ => False) :
    PySem.W.WalkO q loose XP YP l.row.toRowW d [] (fun f vs => PySem.call f vs) := by
  refine Att.attach_call hn hdf fun w s₀ s₁ mg mb fa o pm cd doc a vs ns G Y ho hd hcd hmg hobj hints hlen hg => ?_
  have KX := hY w _ Y
  obtain ⟨fd, hb, hF⟩ := F w mg fa _ KX G.T.g hmg
  refine end_call KX G.T.g G.T.b G.T.builtins G.T.nolimit hg hobj hints (Nat.le_trans hlen hn2) fun base H k1 k2 e0 hO hS => ?_
  obtain ⟨sp, f1, f2⟩ := hF base k1 k2
  exact f1.run callerA [] s₁ H ⟨[.ref a], []⟩ [.ref a] [.ref a] _ _ hr rfl e0 (hb s₁ (.ref a)) (.cons rfl .nil) (f2 H a ns hlen hS)

/-! ### the table of defs -/
def DefT (G : Gm) (T : Tx) (f : Nat) : Prop := ∃ (d : FnDef) (st : Stmt) (N ps : List Str) (x qual : Str) (fd : FuncData), G.P.fns f = some d ∧ Fun G.K x qual st (G.fa f) fd ∧ DefC T d st N ps ∧ Binds G.K fd ps []
structure TabOk (G : Gm) (T : Tx) : Prop where
  blt : ∀ b ∈ bnames, G.mg b = none
  lenm : ∀ c, G.P.lenm c = none
  gls : ∀ g nm v, T.gnm g = some nm → G.P.glob g = some v → ∃ u vv, G.mg nm = some u ∧ RelV vv u ∧ ∀ Z L, Rep G Z L v vv
  fns : ∀ f, G.P.fv f = true → DefT G T f
  fnm : ∀ f nm, T.fnm f = some nm → G.P.fv f = true ∧ G.mg nm = some (.ref (G.fa f))
  cls : ∀ c, (G.P.init c).isSome = true → Cls G.K (G.Ca c) ∧ ∀ f ∈ G.P.cf c, f < G.nms.length ∧ NoAttr G.K (G.Ca c) (G.nm f)
  mth : ∀ c m f, (G.P.init c).isSome = true → G.P.mth c m = some f → m < G.nms.length ∧ m ∉ G.P.cf c ∧ Meth G.K (G.Ca c) (G.nm m) (G.fa f) ∧ G.P.fv f = true
  isi : IsiK G
  eqm : ∀ c f, (G.P.init c).isSome = true → G.P.eqm c = some f → Meth G.K (G.Ca c) "__eq__" (G.fa f) ∧ PySem.W.findIn G.K (.ref (G.Ca c)) "__ne__" = some (some (.builtin "object.__ne__")) ∧ G.P.fv f = true
  mak : ∀ c y, T.cnm c = some y → G.mg y = some (.ref (G.Ca c)) ∧ ∃ f, G.P.init c = some f ∧ Mk G.K (G.Ca c) (G.fa f) ∧ G.P.fv f = true
  ge : GE G T 2
theorem GE.up {G : Gm} {T : Tx} {j k : Nat} (g : GE G T j) (h : j ≤ k) : GE G T k := ⟨Nat.le_trans g.k2 h, g.nd, g.tn, g.errs, g.xm, g.xfc⟩
theorem FnG.up {P : Program} {w : World} {K : PySem.W.Frag} {mg : Str → Option Value} {base : Heap} {j k : Nat} {fa : Addr} {fd : FuncData} {ps : List Str} {sp : Sp} (F : FnG P w K mg base j fa fd ps sp) (h : j ≤ k) : FnG P w K mg base k fa fd ps sp :=
  ⟨F.len, fun A outer s H args us vs Q E hr => F.run A outer s H args us vs Q E (hr.mono h)⟩
/-- what a def keeps -/
def KeepT (G : Gm) (call : Nat → List PV → Store → FOut) (j f : Nat) : Prop := ∃ fd ps, FnG G.prog G.w G.K G.mg G.base j (G.fa f) fd ps (spF G (call f)) ∧ Binds G.K fd ps [] ∧ PySem.W.keepIn G.K (.ref (G.fa f)) = true
theorem gs_of {G : Gm} {T : Tx} {call : Nat → List PV → Store → FOut} {j k : Nat} (t : TabOk G T) (hj : j + 1 ≤ k) (h : ∀ f, G.P.fv f = true → KeepT G call j f) : GS G T ⟨G.P, call⟩ k where
  P := rfl
  blt := t.blt
  lenm := t.lenm
  fns := fun f nm hf => by
    obtain ⟨h1, h2⟩ := t.fnm f nm hf
    obtain ⟨fd, ps, k1, k2, k3⟩ := h f h1
    exact ⟨fd, ps, FnG.up k1 (by omega), h2, k3, k2⟩
  fv := fun f hf => by
    obtain ⟨fd, ps, k1, k2, k3⟩ := h f hf
    exact ⟨⟨fd, ps, FnG.up k1 (by omega), k2⟩, k3⟩
  fvT := fun f nm hf => (t.fnm f nm hf).1
  gls := t.gls
  tn := t.ge.tn
  nd := t.ge.nd
  cls := t.cls
  isi := t.isi
  eqm := fun c f h1 h2 => by
    obtain ⟨k1, k2, k3⟩ := t.eqm c f h1 h2
    obtain ⟨fd, ps, q1, q2, q3⟩ := h f k3
    exact ⟨k1, k2, j, hj, fd, ps, q1, q2⟩
  mth := fun c m f h1 h2 => by
    obtain ⟨k1, k2, k3, k4⟩ := t.mth c m f h1 h2
    obtain ⟨fd, ps, q1, q2, q3⟩ := h f k4
    exact ⟨k1, k2, k3, fd, ps, FnG.up q1 (by omega), q2⟩
  mak := fun c y hy => by
    obtain ⟨h1, f, h2, h3, h4⟩ := t.mak c y hy
    obtain ⟨fd, ps, q1, q2, q3⟩ := h f h4
    exact ⟨h1, f, fd, ps, j, h2, hj, h3, q2, q1⟩
theorem keep_all {G : Gm} {T : Tx} {m k f : Nat} (t : TabOk G T) (g : GS G T ⟨G.P, run G.P m⟩ k) (hk : 2 ≤ k) (hf : G.P.fv f = true) : KeepT G (run G.P (m + 1)) (k + 1) f := by
  obtain ⟨d, st, N, ps, x, qual, fd, h1, h2, h3, h4⟩ := t.fns f hf
  exact ⟨fd, ps, fnG_of g (t.ge.up hk) h2 h1 h3, h4, h2.kp⟩
theorem gs_all {G : Gm} {T : Tx} (t : TabOk G T) : ∀ m, GS G T ⟨G.P, run G.P m⟩ (2 * m + 2)
  | 0 => gs_of (j := 1) t (Nat.le_refl _) fun f hf => by
      obtain ⟨d, st, N, ps, x, qual, fd, h1, h2, h3, h4⟩ := t.fns f hf
      refine ⟨fd, ps, ⟨fun vs H Q E ⟨_, _, _, _, _, _, _, P⟩ => ?_, fun A outer s H args us vs Q E _ _ _ _ _ ⟨_, _, _, _, _, _, _, P⟩ => ?_⟩, h4, h2.kp⟩
      · change FPost G _ (run G.P 0 f _ _) _ _ at P; rw [run_zero] at P; exact P.elim
      · change FPost G _ (run G.P 0 f _ _) _ _ at P; rw [run_zero] at P; exact P.elim
  | m + 1 => gs_of (j := 2 * m + 3) t (by omega) fun f hf => keep_all t (gs_all t m) (by omega) hf
end Ci
/-! what the top leaves, looked through by one Bool -/
namespace Ci
open PySem L2 PyProof.Rows He
open PySem.W (Frag nsIn findIn subIn typeIn keepIn clsIn mroIn codeIn exmOne ks_superIn)
/-! ### own errors -/
structure ErrD where
  nm : Str
  q : Str
  st : Stmt
def fnE (K : Frag) (y : Str) : FnW := match K.lookup (ma K (ga K y) "__init__") with
  | some ⟨_, _, .func fd, _⟩ => some (fd.name, fd.qualname, fd.params, fd.body, fd.scope, fd.globals, [], fd.builtins)
  | _ => none
def ErrD.val (e : ErrD) : FnW := some ("__init__", e.q, defArgs e.st, .stmts (defBody e.st), defScope e.st, mainGlobals, [], builtinsNs)
def codeFB (K : Frag) (cda : Addr) (file : Str) : Bool := match K.lookup cda with
  | some ⟨_, _, .fields vs, _⟩ => (match (vs[2]? : Option Value) with
    | some (.str fl _) => file == fl
    | _ => false)
  | _ => false
def cellCB (K : Frag) (cc C : Addr) : Bool := match K.lookup cc with
  | some ⟨_, _, .cell (some (.ref D)), _⟩ => D == C
  | _ => false
def fnEB (K : Frag) (file : Str) (C : Addr) (q : Str) (fd : FuncData) : Bool := match fd.closure, fd.code, fd.defaults with
  | [(c, cc)], .ref cda, .none => c == "__class__" && (codeIn K fd.code q && (codeFB K cda file && cellCB K cc C))
  | _, _, _ => false
def excClsB (K : Frag) (C : Addr) : Bool := match K.lookup C with
  | some ⟨.type "type", _, .cls cd, sl⟩ => (match cd.mro, sl.toList with
    | .ref C' :: bm, [_, _, _, _, some (.builtin n), _] => C' == C && (n == "ValueError.__new__" && (!cd.hasDel && (cd.hasDict && PySem.HandSPX.refsVE bm)))
    | _, _ => false)
  | _ => false
def errB1 (K : Frag) (C f : Addr) (y : Str) : Bool :=
  He.eqO (nsIn K mainGlobals y) (some (some (.ref C))) && (excClsB K C && (He.eqO (findIn K (.ref C) "__setattr__") (some (some (.builtin "object.__setattr__"))) && (decide (subIn K (.ref C) (.type "BaseException") = some true) && (decide (typeIn K (.ref C) = some (.type "type")) && keepIn K (.ref C)))))
def errB2 (K : Frag) (file : Str) (C f : Addr) (q : Str) : Bool :=
  He.eqO (findIn K (.ref C) "__init__") (some (some (.ref f))) && (decide (typeIn K (.ref f) = some (.type "function")) && ((match K.lookup f with
    | some ⟨_, _, .func fd, _⟩ => fnEB K file C q fd
    | _ => false) && ((clsIn K C).isSome && (He.eqO (nsIn K cStatics "thirdparty.any") (some none) && (He.eqO (ks_superIn K C C "__init__") (some (some (.builtin "ValueError.__init__"))) && (decide (subIn K (.ref C) (.type "ValueError") = some true) && (decide (mroIn K C (.ref C) = some true) && (xfB K C && He.eqO (nsIn K mainGlobals "super") (some none)))))))))
def errB (K : Frag) (file : Str) (e : ErrD) : Bool := errB1 K (ga K e.nm) (ma K (ga K e.nm) "__init__") e.nm && errB2 K file (ga K e.nm) (ma K (ga K e.nm) "__init__") e.q
/-- super().__init__(..) ahead -/
def vSup : List Stmt → Option (Expr × List Expr × List Stmt)
  | .Expr (.Call (.Attribute (.Call (.Name s p0) [] [] p1) m ap) (e :: es) [] cp) pos :: rest => if s == "super" && m == "__init__" && (ap.endLine == cp.line) then some (e, es, rest) else none
  | _ => none
theorem vSup_ {l : List Stmt} {e : Expr} {es : List Expr} {rest : List Stmt} (h : vSup l = some (e, es, rest)) : ∃ p0 p1 ap cp pos, l = .Expr (.Call (.Attribute (.Call (.Name "super" p0) [] [] p1) "__init__" ap) (e :: es) [] cp) pos :: rest ∧ (ap.endLine == cp.line) = true := by
  unfold vSup at h
  split at h
  · split at h
    · rename_i hc
      simp only [Bool.and_eq_true, beq_iff_eq] at hc
      obtain ⟨⟨h1, h2⟩, h3⟩ := hc
      subst h1; subst h2
      cases h
      exact ⟨_, _, _, _, _, rfl, by simpa using h3⟩
    · cases h
  · cases h
def nodB : List Str → Bool
  | [] => true
  | x :: xs => !xs.contains x && nodB xs
theorem nodB_ : ∀ {l : List Str}, nodB l = true → l.Nodup
  | [], _ => List.nodup_nil
  | x :: xs, h => by
    unfold nodB at h
    rw [Bool.and_eq_true] at h
    exact List.nodup_cons.mpr ⟨fun z => by simp [z] at h, nodB_ h.2⟩
def parN (st : Stmt) : List Str := (defArgs st).args.map (·.arg)
structure ErrS (st : Stmt) (fs : List Str) : Prop where
  kind : (defScope st).kind = .function
  co : (defScope st).isCoroutine = false
  gen : (defScope st).isGenerator = false
  nd : (parN st).Nodup
  loc : ∀ y ∈ parN st, (defScope st).names.lookup y = some .local
  fr : ∀ y, ((defScope st).names.lookup y = some .cell ∨ (defScope st).names.lookup y = some .free) → y = "__class__"
  nocell : ∀ x ∈ (defScope st).names, x.2 ≠ .cell
  hks : (defScope st).names.lookup ("super" : Str) = some .globalImplicit
  hkc : (defScope st).names.lookup ("__class__" : Str) = some .free
  pl : (parN st).length = fs.length + 1
  po : (defArgs st).posonlyargs = []
  fnd : fs.Nodup
  body : ∃ e es rest js, vSup (defBody st) = some (e, es, rest) ∧ nmIx (parN st) (e :: es) = some js ∧ (∀ j ∈ js, j < (parN st).length) ∧ js.length ≤ 1000 ∧ flOk (parN st) 0 fs rest = true ∧ (∀ a ∈ e :: es, notStar a = true) ∧ (e :: es).length < 30
def errS (st : Stmt) (fs : List Str) : Bool :=
  decide ((defScope st).kind = .function) && (!(defScope st).isCoroutine && (!(defScope st).isGenerator && (nodB (parN st) && ((parN st).all (fun y => decide ((defScope st).names.lookup y = some .local)) && ((defScope st).names.all (fun x => decide (x.2 ≠ .cell) && (decide (x.2 ≠ .free) || x.1 == "__class__")) && (decide ((defScope st).names.lookup ("super" : Str) = some .globalImplicit) &&
  (decide ((defScope st).names.lookup ("__class__" : Str) = some .free) && (decide ((parN st).length = fs.length + 1) && ((defArgs st).posonlyargs.isEmpty && (nodB fs && (match vSup (defBody st) with
    | some (e, es, rest) => (match nmIx (parN st) (e :: es) with
      | some js => js.all (fun j => decide (j < (parN st).length)) && (decide (js.length ≤ 1000) && (flOk (parN st) 0 fs rest && ((e :: es).all notStar && decide ((e :: es).length < 30))))
      | none => false)
    | none => false)))))))))))
theorem errS_ {st : Stmt} {fs : List Str} (h : errS st fs = true) : ErrS st fs := by
  unfold errS at h
  simp only [Bool.and_eq_true, decide_eq_true_eq, Bool.not_eq_true'] at h
  obtain ⟨h1, h2, h3, h4, h5, h6, h7, h8, h9, h10, h11, h12⟩ := h
  have q6 := fun x hx => List.all_eq_true.mp h6 x hx
  refine ⟨h1, h2, h3, nodB_ h4, fun y hy => by simpa using List.all_eq_true.mp h5 y hy, fun y hy => ?_, fun x hx => by have := q6 x hx; simp at this; exact this.1, h7, h8, h9, List.isEmpty_iff.mp h10, nodB_ h11, ?_⟩
  · rcases hy with hy | hy
    · have := q6 _ (PySem.mem_of_lookup hy); simp at this
    · have := q6 _ (PySem.mem_of_lookup hy); simpa using this
  · split at h12
    · rename_i e es rest he
      split at h12
      · rename_i js hj
        simp only [Bool.and_eq_true, decide_eq_true_eq] at h12
        exact ⟨e, es, rest, js, he, hj, fun j hj2 => by simpa using List.all_eq_true.mp h12.1 j hj2, h12.2.1, h12.2.2.1, fun a ha => List.all_eq_true.mp h12.2.2.2.1 a ha, h12.2.2.2.2⟩
      · cases h12
    · cases h12
/-- how arguments bind where there are no defaults -/
def BindN (params : Arguments) (ps : List Str) : Prop := ∀ (name qual : Str) (body : List Stmt) (sc : Scope) (cl : List (Str × Addr)) (kV doc pm : Value) (an : Option Addr) (cdv ct : Value) (us : List Value), us.length = ps.length → bindArgs (PySem.W.fnX name qual params body sc cl .none kV doc pm an cdv ct) ⟨us, []⟩ = pure (ps.zip us)
theorem excCls_ {K : Frag} {C : Addr} (h : excClsB K C = true) : ∃ nm q N bs bm sn sub ab col dd k0 k1 k2 k3 k5, K.lookup C = some (excClassObj nm q C N bs bm true sn sub ab col dd k0 k1 k2 k3 k5 "ValueError.__new__") ∧ PySem.HandSPX.refsVE bm = true := by
  unfold excClsB at h
  split at h
  · rename_i dd cd sl ho
    split at h
    · rename_i C' bm k0 k1 k2 k3 n k5 hm hs
      simp only [Bool.and_eq_true, beq_iff_eq, Bool.not_eq_true'] at h
      obtain ⟨rfl, rfl, h1, h2, h3⟩ := h
      obtain ⟨nm, bs, mro, ns, qn, hd, sn, sub, ab, col, dl⟩ := cd
      dsimp only at hm h1 h2
      subst hm h1 h2
      have hsl : sl = #[k0, k1, k2, k3, some (.builtin "ValueError.__new__"), k5] := by
        obtain ⟨l⟩ := sl
        simp only at hs
        rw [hs]
      subst hsl
      exact ⟨nm, qn, ns, bs, bm, sn, sub, ab, col, dd, k0, k1, k2, k3, k5, ho, h3⟩
    · cases h
  · cases h
theorem errB_ok {G : Gm} {c : Nat} {e : ErrD} {h : Heap} (X : G.K.In h) (N : h.Ns mainGlobals G.mg) (q : errB G.K G.prog.main.file e = true) (hv : fnE G.K e.nm = e.val) (hx : G.Xa c = ga G.K e.nm) (hS : ErrS e.st ((G.P.xf c).map G.nm)) (hlt : ∀ f ∈ G.P.xf c, f < G.nms.length)
    (hno : ∀ m ∈ G.nms, findIn G.K (.ref (G.Xa c)) m = some none) (htop : (G.prog.main.scope.names.lookup ("super" : Str)).isSome = false) (hb : BindN (defArgs e.st) (parN e.st)) : ErrOk G c e.nm ∧ XfC G.K (G.Xa c) := by
  unfold errB at q
  rw [← hx] at q
  rw [Bool.and_eq_true] at q
  obtain ⟨q1, q2⟩ := q
  unfold errB1 at q1
  unfold errB2 at q2
  simp only [Bool.and_eq_true, decide_eq_true_eq] at q1 q2
  obtain ⟨a1, a2, a3, a4, a5, a6⟩ := q1
  obtain ⟨b1, b2, b3, b4, b5, b6, b7, b8, b9, b10⟩ := q2
  have T : OexC G.K (G.Xa c) := ⟨excCls_ a2, He.eqO_ok a3, a4, a5, a6⟩
  refine ⟨⟨PySem.W.mg_of X N (He.eqO_ok a1), T, hS.fnd, hlt, ?_⟩, xfB_ok b9⟩
  unfold fnE at hv
  rw [← hx] at hv
  generalize hf : ma G.K (G.Xa c) "__init__" = f at *
  cases hk : G.K.lookup f with
  | none => rw [hk] at b3; cases b3
  | some o =>
    obtain ⟨oc, od, dt, osl⟩ := o
    rw [hk] at b3 hv
    cases dt with
    | func fd =>
      have b3' : fnEB G.K G.prog.main.file (G.Xa c) e.q fd = true := b3
      obtain ⟨n1, n2, n3, n4, n5, n6, n7, n8, n9, n10, n11, n12, n13, n14, n15⟩ := fd
      have e2 : (some (n1, n2, n3, n4, n5, n6, ([] : List (Str × Addr)), n15) : FnW) = some (("__init__" : Str), e.q, defArgs e.st, FuncBody.stmts (defBody e.st), defScope e.st, mainGlobals, [], builtinsNs) := hv
      simp only [Option.some.injEq, Prod.mk.injEq] at e2
      obtain ⟨h1, h2, h3, h4, h5, h6, _, h8⟩ := e2
      subst h1 h2 h3 h4 h5 h6 h8
      unfold fnEB at b3'
      split at b3'
      · rename_i cn cc cda w1 w2 w3
        dsimp only at w1 w2 w3
        subst w1 w2 w3
        simp only [Bool.and_eq_true, beq_iff_eq] at b3'
        obtain ⟨c1, c2, c3, c4⟩ := b3'
        subst c1
        obtain ⟨e0, es, rest, js, s1, s2, s3, s4, s5, s8, s9⟩ := hS.body
        obtain ⟨p0, p1, ap, cp, pos, s6, s7⟩ := vSup_ s1
        have code : ∃ (oc : Obj) (vs : Array Value) (file : Str) (tf : Tok), G.K.lookup cda = some oc ∧ oc.data = .fields vs ∧ vs[2]? = some (.str file tf) ∧ ((G.prog.main.file : Str) == file) = true := by
          unfold codeFB at c3
          split at c3
          · rename_i x1 x2 vs x3 x4
            split at c3
            · rename_i fl tf x5
              exact ⟨_, vs, fl, tf, x4, rfl, x5, c3⟩
            · cases c3
          · cases c3
        have cell : ∃ (cl : Value) (cld : Option Addr) (csl : Array (Option Value)), G.K.lookup cc = some ⟨cl, cld, .cell (some (.ref (G.Xa c))), csl⟩ := by
          unfold cellCB at c4
          split at c4
          · rename_i x1 x2 D x3 x4
            rw [beq_iff_eq] at c4
            subst c4
            exact ⟨_, _, _, x4⟩
          · cases c4
        have arg : ∃ ar : Arg, ((defArgs e.st).posonlyargs ++ (defArgs e.st).args).head? = some ar ∧ (parN e.st)[0]? = some ar.arg := by
          rw [hS.po, List.nil_append]
          have hl := hS.pl
          unfold parN at hl ⊢
          cases q : (defArgs e.st).args with
          | nil => rw [q] at hl; simp at hl
          | cons a r => exact ⟨a, rfl, rfl⟩
        have S : ErrFn G.K G.prog G.mg (G.Xa c) f cc cda e.q (defArgs e.st) (defScope e.st) (parN e.st) :=
          ⟨T, hS.kind, hS.co, hS.gen, hS.nd, hS.loc, hS.fr, hS.nocell, hS.hks, hS.hkc, arg, code, htop, PySem.W.mg_none_of X N (He.eqO_ok b10), cell, Option.isSome_iff_exists.mp b4, He.eqO_ok b5, He.eqO_ok b6, b7, b8⟩
        have hc : ∀ env, eval (.Call (.Attribute (.Call (.Name "super" p0) [] [] p1) "__init__" ap) (e0 :: es) [] cp) env = (do
            let ov ← attributeBase (.Call (.Name "super" p0) [] [] p1) "__init__" env (eval (.Call (.Name "super" p0) [] [] p1) env)
            standAt ap.atName
            let (f, first) ← holding [ov] (getMethod ov "__init__" (plainOf (.Call (.Name "super" p0) [] [] p1) env))
            callWith cp f first (backTo cp (starEach (e0 :: es) env)) []) := fun env => by
          have hf : methodCallForm (e0 :: es).length (backTo cp (starEach (e0 :: es) env)) [] = true := by
            unfold methodCallForm
            rw [few_ok s8]
            have : (e0 :: es).length < 30 := s9
            simp at this ⊢; omega
          have e1 : eval (.Call (.Attribute (.Call (.Name "super" p0) [] [] p1) "__init__" ap) (e0 :: es) [] cp) env = (do
              let ov ← attributeBase (.Call (.Name "super" p0) [] [] p1) "__init__" env (eval (.Call (.Name "super" p0) [] [] p1) env)
              standAt ap.atName
              methodCall (.Call (.Name "super" p0) [] [] p1) "__init__" ap cp env ov (e0 :: es).length (backTo cp (starEach (e0 :: es) env)) []) := by
            conv => lhs; unfold eval
            rfl
          rw [e1]
          simp only [mcall_line hf s7]
        rw [s6] at hk
        have key := err_fn (G := G) (c := c) S hk c2 (by have := hS.pl; rw [List.length_map] at this; exact this) hS.fnd s2 s3 s4 s5 (fun g hg => by
          obtain ⟨f', hf', rfl⟩ := List.mem_map.mp hg
          refine hno _ ?_
          have := hlt f' hf'
          unfold Gm.nm
          rw [List.getD_eq_getElem?_getD, List.getElem?_eq_getElem this]
          exact List.getElem_mem _) hc
        exact ⟨f, _, _, eqO_ok b1, b2, key, .all fun us hl => hb _ _ _ _ _ _ _ _ _ _ _ us hl⟩
      · cases b3'
    | _ => cases b3

/-! ### the constants of the top -/
mutual
def gvB (K : Frag) : PV → Value → Bool
  | .non, .none => true
  | .bl b, .bool c => b == c
  | .int i, .int j _ => decide (i = j)
  | .str x, .str y _ => decide (x = y) && (PyData.strOk x && decide (x.length ≤ big))
  | .tup xs, .ref a => (match K.lookup a with
    | some ⟨.type c, _, .seq its _, _⟩ => decide (c = "tuple") && (decide (its.size ≤ big) && gvBs K xs its.toList)
    | _ => false)
  | _, _ => false
def gvBs (K : Frag) : List PV → List Value → Bool
  | [], [] => true
  | x :: xs, v :: vs => gvB K x v && gvBs K xs vs
  | _, _ => false
end
mutual
theorem gvB_ {G : Gm} : ∀ {x : PV} {v : Value}, gvB G.K x v = true → ∃ u, RelV u v ∧ ∀ Z L, Rep G Z L x u
  | .non, v, h => by
    cases v <;> first | exact ⟨.non, rfl, fun _ _ => .non⟩ | (unfold gvB at h; cases h)
  | .bl b, v, h => by
    cases v with
    | bool c =>
      unfold gvB at h
      have e : b = c := by simpa using h
      subst e
      exact ⟨.bl b, rfl, fun _ _ => .bl b⟩
    | _ => unfold gvB at h; cases h
  | .int i, v, h => by
    cases v with
    | int j t =>
      unfold gvB at h
      have e : i = j := of_decide_eq_true h
      subst e
      exact ⟨.int i, ⟨t, rfl⟩, fun _ _ => .int i⟩
    | _ => unfold gvB at h; cases h
  | .str x, v, h => by
    cases v with
    | str y t =>
      unfold gvB at h
      simp only [Bool.and_eq_true, decide_eq_true_eq] at h
      obtain ⟨rfl, h2, h3⟩ := h
      exact ⟨.str x, ⟨t, rfl⟩, fun _ _ => .str x h2 (Nat.le_trans h3 big_le)⟩
    | _ => unfold gvB at h; cases h
  | .tup xs, v, h => by
    cases v with
    | ref a =>
      unfold gvB at h
      split at h
      · rename_i c x1 its n x2 lk
        simp only [Bool.and_eq_true, decide_eq_true_eq] at h
        obtain ⟨rfl, h2, h3⟩ := h
        obtain ⟨us, k1, k2⟩ := gvBs_ h3
        exact ⟨.ref a, rfl, fun Z L => .tup (.inr ⟨_, its, n, lk, rfl, rfl, Nat.le_trans h2 big_le, k1⟩) (k2 Z L)⟩
      · cases h
    | _ => unfold gvB at h; cases h
  | .lst _, v, h => by unfold gvB at h; cases h
  | .dct _, v, h => by unfold gvB at h; cases h
  | .loc _, v, h => by unfold gvB at h; cases h
  | .obj _ _, v, h => by unfold gvB at h; cases h
  | .fn _, v, h => by unfold gvB at h; cases h
theorem gvBs_ {G : Gm} : ∀ {xs : List PV} {vs : List Value}, gvBs G.K xs vs = true → ∃ us, Vals us vs ∧ ∀ Z L, Reps G Z L xs us
  | [], [], _ => ⟨[], .nil, fun _ _ => .nil⟩
  | x :: xs, v :: vs, h => by
    unfold gvBs at h
    rw [Bool.and_eq_true] at h
    obtain ⟨u, h1, h2⟩ := gvB_ h.1
    obtain ⟨us, k1, k2⟩ := gvBs_ h.2
    exact ⟨u :: us, .cons h1 k1, fun Z L => .cons (h2 Z L) (k2 Z L)⟩
  | [], _ :: _, h => by unfold gvBs at h; cases h
  | _ :: _, [], h => by unfold gvBs at h; cases h
end
def glB (K : Frag) (nm : Str) (v : PV) : Bool := match nsIn K mainGlobals nm with
  | some (some u) => gvB K v u
  | _ => false
/-! ### the text as data -/
structure DefI where
  nm : Str
  q : Str
  cl : Option Str
  st : Stmt
  N : List Str
  ps : List Str
  d : FnDef
structure ClsD where
  nm : Str
  ini : Nat
  eq : Option Nat
  cf : List Nat
  mth : List (Nat × Nat)
structure Hd where
  P : Prog
  file : Str
  defs : List DefI
  cls : List ClsD
  errs : List (Option ErrD)
  nms : List Str
  gnm : List Str
def DefI.at_ (d : DefI) : Str × Option Str := match d.cl with
  | none => (d.nm, none)
  | some c => (c, some d.nm)
def DefI.D (d : DefI) : DefD := ⟨d.at_, d.nm, d.q, defArgs d.st, defBody d.st, defScope d.st, [], []⟩
def Hd.errB (h : Hd) (K : Frag) (c : Nat) (e : ErrD) : Bool := Ci.errB K h.file e && (h.nms.all (fun m => He.eqO (findIn K (.ref (ga K e.nm)) m) (some none)) && (List.range h.errs.length).all fun c' => match h.errs[c']? with
  | some (some e') => decide (exmOne K (.ref (ga K e.nm)) (.ref (ga K e'.nm)) = some (h.P.xsub c c'))
  | _ => true)
def Hd.nm (h : Hd) (f : Nat) : Str := h.nms.getD f Str.empty
/-- how an own class stands to the others -/
def Hd.isiB (h : Hd) (K : Frag) (y : Str) : Bool := He.eqO (findIn K (.ref (ga K y)) "__class__") (some (some (.builtin "object.__class__"))) && (He.eqO (PySem.W.specialIn K (.builtin "object.__class__") "__get__") (some (some (.builtin "getset_descriptor.__get__"))) &&
  (decide (PySem.W.takesIn K (.builtin "object.__class__") = some true) && (decide (mroIn K (ga K y) (.type "object") = some true) && ((List.range 7).all (fun i => decide (PySem.W.kitOne K (.type (vtN i)) (.ref (ga K y)) = some false)) && ((List.range 6).all (fun n => decide (PySem.W.kitOne K (.ref (ga K y)) (.type (tyN n)) = some false)) &&
  (List.range h.cls.length).all fun c => match h.cls[c]? with
    | some d => decide (PySem.W.kitOne K (.ref (ga K y)) (.ref (ga K d.nm)) = some (d.nm == y)) && (PySem.W.notFirst K (ga K y) (.ref (ga K d.nm)) && (List.range 7).all fun i => PySem.W.notFirst K (ga K y) (.type (vtN i)))
    | none => true)))))
def eqB (K : Frag) (y : Str) : Bool := (Fa.meth y "__eq__").ok K && He.eqO (findIn K (.ref (ga K y)) "__ne__") (some (some (.builtin "object.__ne__")))
def Hd.clsK (h : Hd) (K : Frag) (d : ClsD) : Bool := (Fa.glo d.nm).ok K && ((Fa.cls d.nm).ok K && ((Fa.mkr d.nm).ok K && (d.cf.all (fun f => (Fa.noat d.nm (h.nm f)).ok K) && (d.mth.all (fun p => (Fa.meth d.nm (h.nm p.1)).ok K) && (h.isiB K d.nm && (d.eq.isNone || eqB K d.nm))))))
def Hd.ok (h : Hd) (K : Frag) : Bool := bnames.all (fun b => He.eqO (nsIn K mainGlobals b) (some none)) && (h.defs.all (fun d => d.D.ok K && (d.cl.isSome || He.eqO (nsIn K mainGlobals d.nm) (some (some (.ref (fAd K (d.nm, none))))))) &&
  ((List.range h.errs.length).all (fun c => match h.errs[c]? with
    | some (some e) => h.errB K c e
    | _ => true) && ((List.range h.gnm.length).all (fun g => match h.gnm[g]?, h.P.glob g with
    | some nm, some v => glB K nm v
    | _, _ => true) && h.cls.all (h.clsK K))))
def Hd.es (h : Hd) : List ErrD := h.errs.filterMap id
abbrev AlC : Type := Bool × List FnW
def Hd.obs (h : Hd) (K : Frag) : AlC := (h.ok K, h.defs.map (fun d => fnW K d.at_) ++ h.es.map fun e => fnE K e.nm)
def Hd.val (h : Hd) : AlC := (true, h.defs.map (fun d => d.D.val) ++ h.es.map ErrD.val)
def Hd.obsG (h : Hd) (n : Nat) (g : Addr → Option Obj) : AlC := h.obs (frG g (cStatics :: asD g n))
def Hd.hook (h : Hd) (n : Nat) : PySem.W.Hook where
  α := AlC
  obs := fun s => h.obsG n s.heap.get?
  val := fun _ => h.val
  says := fun _ hp => ∃ K : Frag, K.In hp ∧ h.obs K = h.val
  of := fun _ _ e => ⟨_, frG_in, e⟩
  keeps := fun _ _ _ ⟨K, hK, c⟩ k => ⟨K, PySem.W.Frag.In.keeps hK k, c⟩
theorem Hd.obsG_eq {h : Hd} {n : Nat} {g : Addr → Option Obj} {s : Shared} (q : ∀ a, g a = s.heap.get? a) : h.obsG n g = (h.hook n).obs s := by
  have e : g = s.heap.get? := funext q
  rw [e] <;> rfl
def Hd.T (h : Hd) : Tx := ⟨fun f => h.defs[f]?.bind fun d => if d.cl.isSome then none else some d.nm, fun c => h.cls[c]?.map (·.nm), fun c => (h.errs[c]?.join).map (·.nm), fun g => h.gnm[g]?, h.nms⟩
def Hd.G (h : Hd) (prog : Program) (w : World) (K : Frag) (mg : Str → Option Value) (base : Heap) : Gm :=
  ⟨prog, w, K, mg, base, h.P, fun f => fAd K ((h.defs[f]?.map (·.at_)).getD (Str.empty, none)), fun c => ga K ((h.cls[c]?.map (·.nm)).getD Str.empty), fun c => ga K (((h.errs[c]?.join).map (·.nm)).getD Str.empty), h.nms⟩
def Hd.atB (h : Hd) (f : Nat) (y m : Str) : Bool := match h.defs[f]? with
  | some d => decide (d.cl = some y) && decide (d.nm = m)
  | none => false
def Hd.clsB (h : Hd) (d : ClsD) : Bool := d.cf.all (fun f => decide (f < h.nms.length)) && (h.atB d.ini d.nm "__init__" && ((match d.eq with | some f => h.atB f d.nm "__eq__" | none => true) && d.mth.all fun p => decide (p.1 < h.nms.length) && (!d.cf.contains p.1 && h.atB p.2 d.nm (h.nm p.1))))
/-- what is asked of the text (no heap) -/
structure Hd.Txt (h : Hd) (prog : Program) : Prop where
  file : prog.main.file = h.file
  top : (prog.main.scope.names.lookup ("super" : Str)).isSome = false
  fns : ∀ (f : Nat) (d : DefI), h.defs[f]? = some d → h.P.fns f = some d.d ∧ DefC h.T d.d d.st d.N d.ps ∧ BindN (defArgs d.st) d.ps
  errs : ∀ (c : Nat) (e : ErrD), h.errs[c]? = some (some e) → (∀ f ∈ h.P.xf c, f < h.nms.length) ∧ errS e.st ((h.P.xf c).map fun f => h.nms.getD f Str.empty) = true ∧ BindN (defArgs e.st) (parN e.st)
  xf : ∀ c, h.P.xf c ≠ [] → ∃ e, h.errs[c]? = some (some e)
  nd : h.nms.Nodup
  lenm : ∀ c, h.P.lenm c = none
  fv : ∀ f, h.P.fv f = decide (f < h.defs.length)
  clsN : ∀ c, h.P.init c = h.cls[c]?.map (·.ini)
  cnd : ∀ (c c' : Nat) (d d' : ClsD), h.cls[c]? = some d → h.cls[c']? = some d' → d.nm = d'.nm → c = c'
  cls : ∀ (c : Nat) (d : ClsD), h.cls[c]? = some d → h.clsB d = true ∧ h.P.cf c = d.cf ∧ (∀ m, h.P.mth c m = d.mth.lookup m) ∧ h.P.eqm c = d.eq
theorem cnd_of {l : List ClsD} (h : (l.map (·.nm)).Nodup) (c c' : Nat) (d d' : ClsD) (e : l[c]? = some d) (e' : l[c']? = some d') (q : d.nm = d'.nm) : c = c' :=
  L2.nd_ix h (x := d.nm) (by rw [List.getElem?_map, e]; rfl) (by rw [List.getElem?_map, e', q]; rfl)
theorem Hd.atB_ {h : Hd} {f : Nat} {y m : Str} (q : h.atB f y m = true) : ∃ d, h.defs[f]? = some d ∧ d.at_ = (y, some m) := by
  unfold Hd.atB at q
  split at q
  · rename_i d e
    simp only [Bool.and_eq_true, decide_eq_true_eq] at q
    exact ⟨d, e, by unfold DefI.at_; rw [q.1, q.2]⟩
  · cases q
theorem Hd.tab {h : Hd} {prog : Program} {w : World} {K : Frag} {mg : Str → Option Value} {base hp : Heap} (t : h.Txt prog) (X : K.In hp) (N : hp.Ns mainGlobals mg) (c : h.obs K = h.val) : TabOk (h.G prog w K mg base) h.T := by
  have c1 : h.ok K = true := congrArg (fun z : AlC => z.1) c
  have c2 : h.defs.map (fun d => fnW K d.at_) ++ h.es.map (fun e => fnE K e.nm) = h.defs.map (fun d => d.D.val) ++ h.es.map ErrD.val := congrArg (fun z : AlC => z.2) c
  obtain ⟨c3, c4⟩ := List.append_inj c2 (by simp)
  unfold Hd.ok at c1
  simp only [Bool.and_eq_true] at c1
  obtain ⟨o1, o2, o3, o4, o5⟩ := c1
  have hfn : ∀ {d : DefI}, d ∈ h.defs → fnW K d.at_ = d.D.val := fun {d} hd => List.map_inj_left.mp c3 d hd
  have hen : ∀ {e : ErrD}, e ∈ h.es → fnE K e.nm = e.val := fun {e} he => List.map_inj_left.mp c4 e he
  have hno : ∀ {k : Nat} {e : ErrD}, h.errs[k]? = some (some e) → h.errB K k e = true := fun {k e} he => by
    have := List.all_eq_true.mp o3 k (List.mem_range.mpr (List.getElem?_eq_some_iff.mp he).1)
    simp only [he] at this
    exact this
  have errs : ∀ {k : Nat} {e : ErrD}, h.errs[k]? = some (some e) → ErrOk (h.G prog w K mg base) k e.nm ∧ XfC K (ga K e.nm) ∧ (∀ m ∈ h.nms, findIn K (.ref (ga K e.nm)) m = some none) := fun {k e} he => by
    have q := hno he
    unfold Hd.errB at q
    simp only [Bool.and_eq_true] at q
    obtain ⟨q1, q2, q3⟩ := q
    obtain ⟨t1, t2, t3⟩ := t.errs k e he
    have hX : (h.G prog w K mg base).Xa k = ga K e.nm := by
      show ga K (((h.errs[k]?.join).map (·.nm)).getD Str.empty) = _
      rw [he]; rfl
    have hm : ∀ m ∈ h.nms, findIn K (.ref (ga K e.nm)) m = some none := fun m hm => He.eqO_ok (List.all_eq_true.mp q2 m hm)
    have key := errB_ok (G := h.G prog w K mg base) (c := k) (e := e) X N (by show Ci.errB K prog.main.file e = true; rw [t.file]; exact q1) (hen (List.mem_filterMap.mpr ⟨some e, List.mem_of_getElem? he, rfl⟩)) hX (errS_ t2) t1 (fun m hm' => by rw [hX]; exact hm m hm') t.top t3
    rw [hX] at key
    exact ⟨key.1, key.2, hm⟩
  have xn : ∀ {k : Nat} {y : Str}, h.T.xnm k = some y → ∃ e, h.errs[k]? = some (some e) ∧ e.nm = y := fun {k y} hy => by
    have hy' : (h.errs[k]?.join).map (·.nm) = some y := hy
    cases q : h.errs[k]? with
    | none => rw [q] at hy'; cases hy'
    | some o =>
      rw [q] at hy'
      cases o with
      | none => cases hy'
      | some e => exact ⟨e, rfl, Option.some.inj hy'⟩
  have fat : ∀ {f : Nat} {d : DefI}, h.defs[f]? = some d → (h.G prog w K mg base).fa f = fAd K d.at_ := fun {f d} q => by
    show fAd K ((h.defs[f]?.map (·.at_)).getD (Str.empty, none)) = _
    rw [q]; rfl
  have cat : ∀ {c : Nat} {d : ClsD}, h.cls[c]? = some d → (h.G prog w K mg base).Ca c = ga K d.nm := fun {c d} q => by
    show ga K ((h.cls[c]?.map (·.nm)).getD Str.empty) = _
    rw [q]; rfl
  have fvt : ∀ {f : Nat} {d : DefI}, h.defs[f]? = some d → h.P.fv f = true := fun {f d} q => by
    rw [t.fv]; exact decide_eq_true (List.getElem?_eq_some_iff.mp q).1
  have cof : ∀ {c : Nat}, (h.P.init c).isSome = true → ∃ d, h.cls[c]? = some d ∧ h.clsB d = true ∧ h.clsK K d = true ∧ h.P.cf c = d.cf ∧ (∀ m, h.P.mth c m = d.mth.lookup m) ∧ h.P.eqm c = d.eq := fun {c} hi => by
    rw [t.clsN] at hi
    cases q : h.cls[c]? with
    | none => rw [q] at hi; cases hi
    | some d =>
      obtain ⟨k1, k2, k3⟩ := t.cls c d q
      exact ⟨d, rfl, k1, List.all_eq_true.mp o5 d (List.mem_of_getElem? q), k2, k3⟩
  have isb : ∀ {c : Nat}, (h.P.init c).isSome = true → ∃ d, h.cls[c]? = some d ∧ (h.G prog w K mg base).Ca c = ga K d.nm ∧ Cls K (ga K d.nm) ∧ h.isiB K d.nm = true := fun {c} hi => by
    obtain ⟨d, q, k1, k2, k3, k4⟩ := cof hi
    unfold Hd.clsK at k2
    simp only [Bool.and_eq_true] at k2
    obtain ⟨_, c2, _, _, _, c6, _⟩ := k2
    exact ⟨d, q, cat q, cls_ok c2, c6⟩
  have isk : IsiK (h.G prog w K mg base) := by
    have nfa : ∀ {c c' : Nat}, (h.P.init c).isSome = true → (h.P.init c').isSome = true → PySem.W.notFirst K ((h.G prog w K mg base).Ca c) (.ref ((h.G prog w K mg base).Ca c')) = true ∧ ∀ i, i < 7 → PySem.W.notFirst K ((h.G prog w K mg base).Ca c) (.type (vtN i)) = true := fun {c c'} hi hi' => by
      obtain ⟨d, q, e, c1, c2⟩ := isb hi
      obtain ⟨d', q', e', c1', c2'⟩ := isb hi'
      unfold Hd.isiB at c2
      simp only [Bool.and_eq_true] at c2
      have := List.all_eq_true.mp c2.2.2.2.2.2.2 c' (List.mem_range.mpr (List.getElem?_eq_some_iff.mp q').1)
      simp only [q', Bool.and_eq_true] at this
      rw [e, e']
      exact ⟨this.2.1, fun i hi => List.all_eq_true.mp this.2.2 i (List.mem_range.mpr hi)⟩
    refine ⟨fun c hi => ?_, fun c i hi h7 => ?_, fun c n hi h6 => ?_, fun c i hi h7 => (nfa hi hi).2 i h7, fun c c' hi hi' => (nfa hi hi').1, fun c c' hi hi' => ?_⟩
    · obtain ⟨d, q, e, c1, c2⟩ := isb hi
      unfold Hd.isiB at c2
      simp only [Bool.and_eq_true, decide_eq_true_eq] at c2
      rw [e]
      exact ⟨c1, He.eqO_ok c2.1, He.eqO_ok c2.2.1, c2.2.2.1, c2.2.2.2.1⟩
    · obtain ⟨d, q, e, c1, c2⟩ := isb hi
      unfold Hd.isiB at c2
      simp only [Bool.and_eq_true, decide_eq_true_eq] at c2
      rw [e]
      exact of_decide_eq_true (List.all_eq_true.mp c2.2.2.2.2.1 i (List.mem_range.mpr h7))
    · obtain ⟨d, q, e, c1, c2⟩ := isb hi
      unfold Hd.isiB at c2
      simp only [Bool.and_eq_true, decide_eq_true_eq] at c2
      rw [e]
      exact of_decide_eq_true (List.all_eq_true.mp c2.2.2.2.2.2.1 n (List.mem_range.mpr h6))
    · obtain ⟨d, q, e, c1, c2⟩ := isb hi
      obtain ⟨d', q', e', c1', c2'⟩ := isb hi'
      unfold Hd.isiB at c2'
      simp only [Bool.and_eq_true, decide_eq_true_eq] at c2'
      rw [e, e']
      have := List.all_eq_true.mp c2'.2.2.2.2.2.2 c (List.mem_range.mpr (List.getElem?_eq_some_iff.mp q).1)
      simp only [q, decide_eq_true_eq, Bool.and_eq_true] at this
      refine Eq.trans this.1 ?_
      congr 1
      by_cases hcc : c' = c
      · subst hcc
        rw [q] at q'; cases q'
        simp
      · have hne : d.nm ≠ d'.nm := fun z => hcc (t.cnd c' c d' d q' q z.symm)
        rw [beq_eq_false_iff_ne.mpr hne, beq_eq_false_iff_ne.mpr hcc]
  refine ⟨fun b hb => PySem.W.mg_none_of X N (He.eqO_ok (List.all_eq_true.mp o1 b hb)), t.lenm, fun g nm v h1 h2 => ?_, fun f hf => ?_, fun f nm hf => ?_, fun c hi => ?_, fun c m f hi hm => ?_, isk, fun c f hi he => ?_, fun c y hy => ?_, ⟨Nat.le_refl _, t.nd, rfl, fun k y hy => ?_, fun k k' y hk hy => ?_, fun k hk => ?_⟩⟩
  · have h1' : h.gnm[g]? = some nm := h1
    have h2' : h.P.glob g = some v := h2
    have := List.all_eq_true.mp o4 g (List.mem_range.mpr (List.getElem?_eq_some_iff.mp h1').1)
    simp only [h1', h2'] at this
    unfold glB at this
    split at this
    · rename_i u hu
      obtain ⟨vv, k1, k2⟩ := gvB_ (G := h.G prog w K mg base) this
      exact ⟨u, vv, PySem.W.mg_of X N hu, k1, k2⟩
    · cases this
  · have hf' : h.P.fv f = true := hf
    rw [t.fv] at hf'
    have hlt : f < h.defs.length := of_decide_eq_true hf'
    obtain ⟨d, q⟩ : ∃ d, h.defs[f]? = some d := ⟨_, List.getElem?_eq_getElem hlt⟩
    have hd := List.mem_of_getElem? q
    have k0 := List.all_eq_true.mp o2 d hd
    rw [Bool.and_eq_true] at k0
    obtain ⟨fd, FD⟩ := DefD.funD (d := d.D) (hfn hd) k0.1
    obtain ⟨t1, t2, t3⟩ := t.fns f d q
    obtain ⟨oc, od, dV, kV, doc, pm, an, cdv, ct, osl, e1, e2, e3, e4, e5⟩ := FD.ex
    have hdV : dV = .none := by
      rcases e4 with ⟨_, e4⟩ | ⟨e4, _⟩
      · exact e4
      · exact absurd rfl e4
    subst hdV
    refine ⟨d.d, d.st, d.N, d.ps, d.nm, d.q, fd, t1, ?_, t2, ?_⟩
    · rw [fat q]
      exact ⟨⟨oc, od, kV, doc, pm, an, cdv, ct, osl, e1, e2, e3⟩, FD.kp⟩
    · rw [e1]
      exact .all fun us hl => t3 _ _ _ _ _ _ _ _ _ _ _ us hl
  · have hf' : (h.defs[f]?.bind fun d => if d.cl.isSome then none else some d.nm) = some nm := hf
    cases q : h.defs[f]? with
    | none => rw [q] at hf'; cases hf'
    | some d =>
      rw [q] at hf'
      have hf2 : (if d.cl.isSome then none else some d.nm) = some nm := hf'
      split at hf2
      · cases hf2
      · rename_i hc
        cases hf2
        have k0 := List.all_eq_true.mp o2 d (List.mem_of_getElem? q)
        rw [Bool.and_eq_true, Bool.or_eq_true] at k0
        refine ⟨fvt q, ?_⟩
        have hat : d.at_ = (d.nm, none) := by
          unfold DefI.at_
          cases e : d.cl with
          | none => rfl
          | some c => rw [e] at hc; exact absurd rfl hc
        rw [fat q, hat]
        exact PySem.W.mg_of X N (He.eqO_ok (k0.2.resolve_left hc))
  · obtain ⟨d, q, k1, k2, k3, k4⟩ := cof hi
    unfold Hd.clsK at k2
    unfold Hd.clsB at k1
    simp only [Bool.and_eq_true] at k1 k2
    obtain ⟨_, c2, _, c4, _⟩ := k2
    rw [cat q]
    refine ⟨cls_ok c2, fun f hf => ?_⟩
    have hf' : f ∈ h.P.cf c := hf
    rw [k3] at hf'
    exact ⟨of_decide_eq_true (List.all_eq_true.mp k1.1 f hf'), noat_ok (List.all_eq_true.mp c4 f hf')⟩
  · obtain ⟨d, q, k1, k2, k3, k4⟩ := cof hi
    unfold Hd.clsK at k2
    unfold Hd.clsB at k1
    simp only [Bool.and_eq_true] at k1 k2
    obtain ⟨_, _, _, _, c5, _⟩ := k2
    have hm' : h.P.mth c m = some f := hm
    rw [k4.1] at hm'
    have hmem := look_mem hm'
    have w1 := List.all_eq_true.mp k1.2.2.2 _ hmem
    simp only [Bool.and_eq_true, decide_eq_true_eq, Bool.not_eq_true'] at w1
    obtain ⟨w1, w2, w3⟩ := w1
    obtain ⟨di, e1, e2⟩ := Hd.atB_ w3
    refine ⟨w1, fun z => ?_, ?_, fvt e1⟩
    · have z' : m ∈ h.P.cf c := z
      rw [k3] at z'
      rw [List.contains_eq_mem, decide_eq_false_iff_not] at w2
      exact w2 z'
    · rw [cat q, fat e1, e2]
      exact meth_ok (List.all_eq_true.mp c5 _ hmem)
  · obtain ⟨d, q, k1, k2, k3, k4, k5⟩ := cof hi
    unfold Hd.clsK at k2
    unfold Hd.clsB at k1
    simp only [Bool.and_eq_true] at k1 k2
    obtain ⟨_, _, _, _, _, _, c7⟩ := k2
    have he' : h.P.eqm c = some f := he
    rw [k5] at he'
    have e3 := k1.2.2.1
    rw [he'] at c7 e3
    have c8 : eqB K d.nm = true := by simpa using c7
    unfold eqB at c8
    rw [Bool.and_eq_true] at c8
    obtain ⟨di, e1, e2⟩ := Hd.atB_ e3
    refine ⟨?_, ?_, fvt e1⟩
    · rw [cat q, fat e1, e2]
      exact meth_ok c8.1
    · rw [cat q]
      exact He.eqO_ok c8.2
  · have hy' : h.cls[c]?.map (·.nm) = some y := hy
    cases q : h.cls[c]? with
    | none => rw [q] at hy'; cases hy'
    | some d =>
      rw [q] at hy'
      obtain rfl : d.nm = y := Option.some.inj hy'
      have k2 := List.all_eq_true.mp o5 d (List.mem_of_getElem? q)
      have k1 := (t.cls c d q).1
      unfold Hd.clsK at k2
      unfold Hd.clsB at k1
      simp only [Bool.and_eq_true] at k1 k2
      obtain ⟨c1, _, c3, _⟩ := k2
      obtain ⟨di, e1, e2⟩ := Hd.atB_ k1.2.1
      rw [cat q]
      refine ⟨glo_ok X N c1, d.ini, ?_, ?_, fvt e1⟩
      · show h.P.init c = _
        rw [t.clsN, q]; rfl
      · rw [fat e1, e2]
        exact mkr_ok c3
  · obtain ⟨e, he, rfl⟩ := xn hy
    exact (errs he).1
  · obtain ⟨e, he⟩ := t.xf k hk
    obtain ⟨e', he', rfl⟩ := xn hy
    have q := hno he
    unfold Hd.errB at q
    simp only [Bool.and_eq_true] at q
    have := List.all_eq_true.mp q.2.2 k' (List.mem_range.mpr (List.getElem?_eq_some_iff.mp he').1)
    simp only [he'] at this
    show exmOne K (.ref (ga K (((h.errs[k]?.join).map (·.nm)).getD Str.empty))) (.ref (ga K (((h.errs[k']?.join).map (·.nm)).getD Str.empty))) = _
    rw [he, he']
    exact of_decide_eq_true this
  · obtain ⟨e, he⟩ := t.xf k hk
    show XfC K (ga K (((h.errs[k]?.join).map (·.nm)).getD Str.empty)) ∧ ∀ m ∈ h.nms, findIn K (.ref (ga K (((h.errs[k]?.join).map (·.nm)).getD Str.empty))) m = some none
    rw [he]
    exact ⟨(errs he).2.1, (errs he).2.2⟩
/-- the law of a text -/
theorem Hd.walk {h : Hd} {l : PySem.W.OpenLaw} {q : Program} {loose : List Str} {XP : (Str → Option Value) → Heap → Prop} {YP : World → Heap → Prop} {d : DefRec} {M f : Nat} {y : Str} {di : DefI} (t : h.Txt l.prog) (hn : l.most = some 63) (hdf : d.params.defaults = []) (hr : Room (2 * M + 3) callerA)
    (hY : ∀ w hp, YP w hp → ∃ K : Frag, K.In hp ∧ h.obs K = h.val) (hf : h.defs[f]? = some di) (hcl : di.cl = none) (hd : d.name = di.nm) (hps : di.ps = [y]) (L : LawRun h.P (M + 1) f 63) :
    PySem.W.WalkO q loose XP YP l.row.toRowW d [] (fun f vs => PySem.call f vs) := by
  refine Att.attach_call hn hdf fun w s₀ s₁ mg mb fa o pm cd doc a vs ns G Y ho hdd hcd hmg hobj hints hlen hg => ?_
  obtain ⟨K, KX, c⟩ := hY w _ Y
  refine end_call KX G.T.g G.T.b G.T.builtins G.T.nolimit hg hobj hints (Nat.le_trans hlen (by rw [sizeLine_eq]; decide)) fun base H k1 k2 e0 hO hS => ?_
  have tb := Hd.tab (w := w) (base := base) t k1 k2 c
  obtain ⟨hfv, hmg2⟩ := tb.fnm f di.nm (by show (h.defs[f]?.bind fun d => if d.cl.isSome then none else some d.nm) = _; rw [hf]; show (if di.cl.isSome then none else some di.nm) = _; rw [hcl]; rfl)
  have hfa : fa = (h.G l.prog w K mg base).fa f := by
    have e : mg di.nm = some (.ref fa) := by rw [← hd]; exact hmg
    have this' : mg di.nm = some (.ref ((h.G l.prog w K mg base).fa f)) := hmg2
    rw [e] at this'
    cases this'; rfl
  obtain ⟨d', st, N, ps, x, qual, fd, q1, q2, q3, q4⟩ := tb.fns f hfv
  have F := fnG_of (gs_all tb M) (tb.ge.up (by omega)) q2 q1 q3
  have hl1 : ps.length = 1 := by
    obtain ⟨t1, t2, t3⟩ := t.fns f di hf
    have e : some d' = some di.d := q1.symm.trans t1
    cases e
    rw [q3.np, ← t2.np, hps]; rfl
  obtain ⟨p, rfl⟩ : ∃ p, ps = [p] := by
    match ps, hl1 with
    | [p], _ => exact ⟨p, rfl⟩
  have KXs : K.In s₁.heap := KX
  rw [hfa]
  have hb := q4 s₁ [.ref a] KXs (by simp)
  rw [List.append_nil] at hb
  exact F.run callerA [] s₁ H ⟨[.ref a], []⟩ [.ref a] [.ref a] _ _ hr rfl e0 hb (.cons rfl .nil) (spF_law L hlen hS)
end Ci
/-! running the core: rules -/
namespace Ci
open PySem
def Ok {α : Type} (o : Out α) (Q : α → Ev → Store → Prop) : Prop := match o with
  | .ok a r S => Q a r S
  | _ => False
def FOk (o : FOut) (Q : PV → Bool → Store → Prop) : Prop := match o with
  | .ok v fr S => Q v fr S
  | _ => False
theorem ok_ok {α : Type} {a : α} {r : Ev} {S : Store} {Q : α → Ev → Store → Prop} : Ok (.ok a r S) Q = Q a r S := rfl
theorem fok_ok {v : PV} {fr : Bool} {S : Store} {Q : PV → Bool → Store → Prop} : FOk (.ok v fr S) Q = Q v fr S := rfl
theorem ok_bind {α β : Type} {x : Out α} {f : α → Ev → Store → Out β} {Q : β → Ev → Store → Prop} : Ok (x.bind f) Q = Ok x (fun a r S => Ok (f a r S) Q) := by cases x <;> rfl
theorem ok_ofF {x : FOut} {r : Ev} {Q : PV × Md → Ev → Store → Prop} : Ok (ofF x r) Q = FOk x (fun v fr S => Q (v, if fr then .fr else .sh) r S) := by cases x <;> rfl
theorem Ok.imp {α : Type} {o : Out α} {Q R : α → Ev → Store → Prop} (h : Ok o Q) (k : ∀ a r S, Q a r S → R a r S) : Ok o R := by cases o <;> first | exact k _ _ _ h | exact h
theorem FOk.imp {o : FOut} {Q R : PV → Bool → Store → Prop} (h : FOk o Q) (k : ∀ v fr S, Q v fr S → R v fr S) : FOk o R := by cases o <;> first | exact k _ _ _ h | exact h
theorem FOk.eq {o : FOut} {Q : PV → Bool → Store → Prop} (h : FOk o Q) : ∃ v fr S, o = .ok v fr S ∧ Q v fr S := by
  cases o with
  | ok v fr S => exact ⟨v, fr, S, rfl, h⟩
  | _ => exact h.elim
theorem ok_ite {α : Type} {c : Prop} [Decidable c] {a b : Out α} {Q : α → Ev → Store → Prop} : Ok (if c then a else b) Q = if c then Ok a Q else Ok b Q := by split <;> rfl
theorem ok_bad {α : Type} {w : Nat} {Q : α → Ev → Store → Prop} : Ok (.bad w) Q = False := rfl
theorem trunc_same {n : Nat} {vs : List PV} {S : Store} (h : S.length = n) : trunc n vs S = S := by unfold trunc; rw [if_pos h]
/-! ### loops -/
theorem ok_for {f : PV → Ev → Store → Out Fl} {fn : Ev → Ev} {Q : Fl → Ev → Store → Prop} (Inv : List PV → List PV → Ev → Store → Prop) : ∀ (xs done : List PV) (r : Ev) (S : Store), Inv done xs r S →
    (∀ done x rest r S, Inv done (x :: rest) r S → Ok (f x r S) fun fl r S => match fl with
      | .nx => Inv (done ++ [x]) rest r S
      | .rt v fr => Q (.rt v fr) r S) → (∀ done r S, Inv done [] r S → Q .nx (fn r) S) → Ok (forLoop f fn xs r S) Q
  | [], done, r, S, h, _, k => by unfold forLoop; exact k done r S h
  | x :: xs, done, r, S, h, s, k => by
    unfold forLoop
    rw [ok_bind]
    refine (s done x xs r S h).imp fun fl r1 S1 h1 => ?_
    cases fl with
    | nx => exact ok_for Inv xs (done ++ [x]) r1 S1 h1 s k
    | rt v fr => exact h1
theorem ok_comp {f : PV → Store → Out (Option PV)} {Q : List PV → Ev → Store → Prop} (Inv : List PV → List PV → Store → List PV → Prop) : ∀ (xs done : List PV) (S : Store) (acc : List PV), Inv done xs S acc →
    (∀ done x rest S acc, Inv done (x :: rest) S acc → Ok (f x S) fun y _ S => Inv (done ++ [x]) rest S (match y with | some y => acc ++ [y] | none => acc)) → (∀ done S acc, Inv done [] S acc → Q acc [] S) → Ok (compLoop f xs S acc) Q
  | [], done, S, acc, h, _, k => by unfold compLoop; exact k done S acc h
  | x :: xs, done, S, acc, h, s, k => by
    unfold compLoop
    have := s done x xs S acc h
    cases q : f x S with
    | ok y r1 S1 =>
      rw [q] at this
      exact ok_comp Inv xs (done ++ [x]) S1 _ this s k
    | _ => rw [q] at this; exact this.elim
/-- a comprehension that computes -/
theorem comp_map {f : PV → Store → Out (Option PV)} {S : Store} {g : PV → Option PV} : ∀ (xs acc : List PV), (∀ x ∈ xs, f x S = .ok (g x) [] S) → compLoop f xs S acc = .ok (acc ++ xs.filterMap g) [] S
  | [], acc, _ => by unfold compLoop; simp
  | x :: xs, acc, h => by
    unfold compLoop
    rw [h x List.mem_cons_self]
    dsimp only
    rw [comp_map xs _ fun y hy => h y (List.mem_cons_of_mem _ hy)]
    cases q : g x <;> simp [List.filterMap_cons, q]
theorem ok_whl {c : Ev → Store → Out Bool} {f : Ev → Store → Out Fl} {fn : Ev → Ev} {Q : Fl → Ev → Store → Prop} (Inv : Nat → Ev → Store → Prop) (hc : ∀ m r S, Inv m r S → Ok (c r S) fun b r S => if b = true then Ok (f r S) (fun fl r S => match fl with
      | .nx => ∃ m', m' < m ∧ Inv m' r S
      | .rt v fr => Q (.rt v fr) r S) else Q .nx (fn r) S) : ∀ (n m : Nat) (r : Ev) (S : Store), m < n → Inv m r S → Ok (whlLoop c f fn n r S) Q
  | 0, m, r, S, h, _ => by omega
  | n + 1, m, r, S, h, i => by
    unfold whlLoop
    rw [ok_bind]
    refine (hc m r S i).imp fun b r1 S1 h1 => ?_
    cases b with
    | false => exact h1
    | true =>
      have h2 : Ok (f r1 S1) _ := h1
      show Ok ((f r1 S1).bind _) Q
      rw [ok_bind]
      refine h2.imp fun fl r2 S2 h3 => ?_
      cases fl with
      | nx =>
        obtain ⟨m', hm, i'⟩ := h3
        exact ok_whl Inv hc n m' r2 S2 (by omega) i'
      | rt v fr => exact h3
/-- a while that steps a state -/
theorem whl_eq {c : Ev → Store → Out Bool} {f : Ev → Store → Out Fl} {fn : Ev → Ev} (n : Nat) (r r1 r2 : Ev) (S S1 S2 : Store) (b : Bool) (h : c r S = .ok b r1 S1) (hf : b = true → f r1 S1 = .ok .nx r2 S2) : whlLoop c f fn (n + 1) r S = if b = true then whlLoop c f fn n r2 S2 else .ok .nx (fn r1) S1 := by
  conv => lhs; unfold whlLoop
  rw [h]
  cases b with
  | false => rfl
  | true =>
    show ((f r1 S1).bind _) = _
    rw [hf rfl]; rfl
end Ci
/-! the core's runs as conditions, in the order of the run (each stop is a structure) -/
namespace Ci
open PySem
abbrev KQ (α : Type) := α → Ev → Store → Prop
abbrev XQ := Nat → List PV → Ev → Store → Prop
def Po {α : Type} (o : Out α) (Q : KQ α) (E : XQ) : Prop := match o with
  | .ok a r S => Q a r S
  | .exc c vs r S => E c vs r S
  | .bad _ => False
def FPo (o : FOut) (Q : PV → Bool → Store → Prop) (E : Nat → List PV → Store → Prop) : Prop := match o with
  | .ok v fr S => Q v fr S
  | .exc c vs S => E c vs S
  | .bad _ => False
theorem po_bind {α β : Type} {x : Out α} {f : α → Ev → Store → Out β} {Q : KQ β} {E : XQ} : Po (x.bind f) Q E = Po x (fun a r S => Po (f a r S) Q E) E := by cases x <;> rfl
theorem Po.imp {α : Type} {o : Out α} {Q R : KQ α} {E E' : XQ} (h : Po o Q E) (k : ∀ a r S, Q a r S → R a r S) (e : ∀ c vs r S, E c vs r S → E' c vs r S) : Po o R E' := by
  cases o with
  | ok a r S => exact k _ _ _ h
  | exc c vs r S => exact e _ _ _ _ h
  | bad w => exact h
theorem Po.mono {α : Type} {o : Out α} {Q R : KQ α} {E : XQ} (h : Po o Q E) (k : ∀ a r S, Q a r S → R a r S) : Po o R E := h.imp k fun _ _ _ _ z => z
/-! ### stops -/
structure Call (o : FOut) (Q : PV → Bool → Store → Prop) (E : Nat → List PV → Store → Prop) : Prop where
  h : FPo o Q E
theorem Call.ok {o : FOut} {v : PV} {fr : Bool} {S : Store} {Q : PV → Bool → Store → Prop} {E : Nat → List PV → Store → Prop} (h : o = .ok v fr S) (k : Q v fr S) : Call o Q E := ⟨by rw [h]; exact k⟩
theorem Call.exc {o : FOut} {c : Nat} {vs : List PV} {S : Store} {Q : PV → Bool → Store → Prop} {E : Nat → List PV → Store → Prop} (h : o = .exc c vs S) (k : E c vs S) : Call o Q E := ⟨by rw [h]; exact k⟩
theorem Call.by {o : FOut} {R Q : PV → Bool → Store → Prop} {E : Nat → List PV → Store → Prop} (h : FOk o R) (k : ∀ v fr S, R v fr S → Q v fr S) : Call o Q E := ⟨by
  cases o <;> first | exact k _ _ _ h | exact h.elim⟩
structure If (t : Bool) (A B : Prop) : Prop where
  yes : t = true → A
  no : t = false → B
theorem If.tt {t : Bool} {A B : Prop} (h : t = true) (k : A) : If t A B := ⟨fun _ => k, (fun e => by rw [h] at e; cases e)⟩
theorem If.ff {t : Bool} {A B : Prop} (h : t = false) (k : B) : If t A B := ⟨(fun e => by rw [h] at e; cases e), fun _ => k⟩
structure Get {α : Type} (o : Option α) (k : α → Prop) : Prop where
  h : ∃ v, o = some v ∧ k v
theorem Get.mk' {α : Type} {o : Option α} {v : α} {k : α → Prop} (h : o = some v) (q : k v) : Get o k := ⟨⟨v, h, q⟩⟩
structure Opr (x : ORes) (k : PV → Md → Prop) : Prop where
  h : match x with
    | .sh v => k v .sh
    | .fr v => k v .fr
    | .bad _ => False
theorem Opr.sh {x : ORes} {v : PV} {k : PV → Md → Prop} (h : x = .sh v) (q : k v .sh) : Opr x k := ⟨by rw [h]; exact q⟩
theorem Opr.fr {x : ORes} {v : PV} {k : PV → Md → Prop} (h : x = .fr v) (q : k v .fr) : Opr x k := ⟨by rw [h]; exact q⟩
/-- nothing told: the run itself -/
structure Raw {α : Type} (o : Out α) (Q : KQ α) (E : XQ) : Prop where
  h : Po o Q E
/-! ### environments -/
def fE : Ev → (Ev → Prop) → Prop
  | [], k => k []
  | s :: r, k => match s with
    | .no => fE r fun r' => k (.no :: r')
    | .sh v => fE r fun r' => k (.sh v :: r')
    | .ow v => fE r fun r' => k (.ow v :: r')
    | .ex c vs => fE r fun r' => k (.ex c vs :: r')
theorem fE_ : ∀ {r : Ev} {k : Ev → Prop}, fE r k → k r
  | [], _, h => h
  | .no :: r, k, h => fE_ (r := r) (k := fun r' => k (.no :: r')) h
  | .sh v :: r, k, h => fE_ (r := r) (k := fun r' => k (.sh v :: r')) h
  | .ow v :: r, k, h => fE_ (r := r) (k := fun r' => k (.ow v :: r')) h
  | .ex c vs :: r, k, h => fE_ (r := r) (k := fun r' => k (.ex c vs :: r')) h
def wSl (s : Sl) (i : Nat) (k : PV × Md → Prop) : Prop := match s with
  | .sh v => k (v, .sh)
  | .ow v => k (v, .bo i)
  | _ => False
/-- a place is looked through -/
def wVw (S : Store) (v : PV) (k : PV → Prop) : Prop := match v with
  | .loc n => Get S[n]? fun c => match c with
    | .lst xs => k (.lst xs)
    | .dct kvs => k (.dct kvs)
    | .ins c fs => k (.obj c fs)
  | .non => k .non
  | .bl b => k (.bl b)
  | .int i => k (.int i)
  | .str x => k (.str x)
  | .tup xs => k (.tup xs)
  | .lst xs => k (.lst xs)
  | .dct kvs => k (.dct kvs)
  | .obj c fs => k (.obj c fs)
  | .fn f => k (.fn f)
theorem wVw_ {S : Store} {v : PV} {k : PV → Prop} (h : wVw S v k) : k (view S v) := by
  cases v <;> first | exact h | skip
  rename_i n
  obtain ⟨c, e, q⟩ := Get.h h
  unfold view
  dsimp only
  rw [e]
  cases c <;> exact q
def wVws (S : Store) : List PV → (List PV → Prop) → Prop
  | [], k => k []
  | v :: vs, k => wVw S v fun x => wVws S vs fun xs => k (x :: xs)
theorem wVws_ {S : Store} : ∀ {vs : List PV} {k : List PV → Prop}, wVws S vs k → k (vs.map (view S))
  | [], _, h => h
  | v :: vs, k, h => wVws_ (vs := vs) (k := fun xs => k (view S v :: xs)) (wVw_ (k := fun x => wVws S vs fun xs => k (x :: xs)) h)
def wT (S : Store) (v : PV) (k : Bool → Prop) : Prop := wVw S v fun v => match v with
  | .non => k false
  | .bl b => k b
  | .int i => k (i != 0)
  | .str x => k (x.length != 0)
  | .tup xs => k (!xs.isEmpty)
  | .lst xs => k (!xs.isEmpty)
  | _ => False
theorem wT_ {S : Store} {v : PV} {k : Bool → Prop} (h : wT S v k) : ∃ b, truth S v = some b ∧ k b := by
  have h' := wVw_ h
  unfold truth
  revert h'
  cases view S v <;> intro h' <;> first | exact ⟨_, rfl, h'⟩ | exact False.elim h'
/-! ### operations -/
def wIx (xs : List PV) (i : Int) (k : PV → Md → Prop) : Prop := Get (atI xs i) fun v => k v .sh
def w2 (o : Op) (a b : PV) (k : PV → Md → Prop) : Prop := match o with
  | .add => (match a, b with
    | .int i, .int j => k (.int (i + j)) .sh
    | .lst x, .lst y => x.length + y.length ≤ big ∧ k (.lst (x ++ y)) .fr
    | .tup x, .tup y => x.length + y.length ≤ big ∧ k (.tup (x ++ y)) .sh
    | .str x, .str y => x.length + y.length ≤ big ∧ k (.str (x ++ y)) .sh
    | _, _ => False)
  | .sub => (match a, b with
    | .int i, .int j => k (.int (i - j)) .sh
    | _, _ => False)
  | .mul => (match a, b with
    | .int i, .int j => mulOk i j = true ∧ k (.int (i * j)) .sh
    | _, _ => False)
  | .fdiv => (match a, b with
    | .int i, .int j => (0 < j ∧ j < 1073741824) ∧ k (.int (i / j)) .sh
    | _, _ => False)
  | .mod => (match a, b with
    | .int i, .int j => 0 < j ∧ k (.int (i % j)) .sh
    | _, _ => False)
  | .lt => (match a, b with
    | .int i, .int j => k (.bl (decide (i < j))) .sh
    | _, _ => False)
  | .le => (match a, b with
    | .int i, .int j => k (.bl (decide (i ≤ j))) .sh
    | _, _ => False)
  | .gt => (match a, b with
    | .int i, .int j => k (.bl (decide (j < i))) .sh
    | _, _ => False)
  | .ge => (match a, b with
    | .int i, .int j => k (.bl (decide (j ≤ i))) .sh
    | _, _ => False)
  | .eq => (match a, b with
    | .int i, .int j => k (.bl (i == j)) .sh
    | .bl i, .bl j => k (.bl (i == j)) .sh
    | .str i, .str j => k (.bl (i == j)) .sh
    | a, b => (isD dD a && isD dD b) = true ∧ k (.bl (pyEq a b)) .sh)
  | .ne => (match a, b with
    | .int i, .int j => k (.bl (!(i == j))) .sh
    | .bl i, .bl j => k (.bl (!(i == j))) .sh
    | .str i, .str j => k (.bl (!(i == j))) .sh
    | a, b => (isD dD a && isD dD b) = true ∧ k (.bl (!pyEq a b)) .sh)
  | .idx => (match a, b with
    | .lst xs, .int i => wIx xs i k
    | .tup xs, .int i => wIx xs i k
    | a, b => Opr (idxV a b) k)
  | .min2 => (match a, b with
    | .int i, .int j => k (.int (if j < i then j else i)) .sh
    | _, _ => False)
  | .max2 => (match a, b with
    | .int i, .int j => k (.int (if j > i then j else i)) .sh
    | _, _ => False)
  | o => Opr (op2 o a b) k
theorem w2_ {o : Op} {a b : PV} {k : PV → Md → Prop} (h : w2 o a b k) : Opr (op2 o a b) k := by
  cases o
  case add =>
    cases a <;> cases b <;> first | exact ⟨h⟩ | exact False.elim h | skip
    all_goals
      obtain ⟨h1, h2⟩ := h
      first
        | exact Opr.sh (by simp only [op2, addV]; rw [if_pos h1]) h2
        | exact Opr.fr (by simp only [op2, addV]; rw [if_pos h1]) h2
  case mul =>
    cases a <;> cases b <;> first | exact False.elim h | skip
    obtain ⟨h1, h2⟩ := h
    exact Opr.sh (by simp only [op2, mulV]; rw [if_pos h1]; rfl) h2
  case fdiv =>
    cases a <;> cases b <;> first | exact False.elim h | skip
    obtain ⟨⟨h1, h1'⟩, h2⟩ := h
    exact Opr.sh (by simp only [op2, fdivV]; rw [if_pos (by simp [h1, h1'])]; rfl) h2
  case mod =>
    cases a <;> cases b <;> first | exact False.elim h | skip
    obtain ⟨h1, h2⟩ := h
    exact Opr.sh (by simp only [op2, modV]; rw [if_pos h1]; rfl) h2
  case eq =>
    cases a <;> cases b <;> first
      | exact ⟨h⟩
      | (obtain ⟨h1, h2⟩ := h; exact Opr.sh (by simp only [op2, eqO]; rw [if_pos h1]; rfl) h2)
  case ne =>
    cases a <;> cases b <;> first
      | exact ⟨h⟩
      | (obtain ⟨h1, h2⟩ := h; exact Opr.sh (by simp only [op2, neO]; rw [if_pos h1]; rfl) h2)
  case idx =>
    cases a <;> first | exact h | skip
    all_goals
      cases b <;> first | exact h | skip
      obtain ⟨v, h1, h2⟩ := Get.h h
      exact Opr.sh (by simp only [op2, idxV]; rw [h1]) h2
  all_goals first
    | exact h
    | (cases a <;> cases b <;> first | exact ⟨h⟩ | exact False.elim h)
def w1 (o : Op) (a : PV) (k : PV → Md → Prop) : Prop := match o with
  | .neg => (match a with
    | .int i => k (.int (-i)) .sh
    | _ => False)
  | .isN => k (.bl (isNV a)) .sh
  | .ntN => k (.bl (!isNV a)) .sh
  | .len => (match a with
    | .lst xs => k (.int xs.length) .sh
    | .tup xs => k (.int xs.length) .sh
    | .str xs => k (.int xs.length) .sh
    | a => Opr (lenV a) k)
  | .list => (match a with
    | .lst xs => k (.lst xs) .fr
    | .tup xs => k (.lst xs) .fr
    | a => Opr (listV a) k)
  | .tuple => (match a with
    | .lst xs => k (.tup xs) .sh
    | .tup xs => k (.tup xs) .sh
    | a => Opr (tupleV a) k)
  | .int => (match a with
    | .int i => k (.int i) .sh
    | a => Opr (intV a) k)
  | o => Opr (op1 o a) k
theorem w1_ {o : Op} {a : PV} {k : PV → Md → Prop} (h : w1 o a k) : Opr (op1 o a) k := by
  cases o
  all_goals first
    | exact h
    | exact ⟨h⟩
    | (cases a <;> first | exact ⟨h⟩ | exact h | exact False.elim h)
def wOp (o : Op) (vs : List PV) (k : PV → Md → Prop) : Prop := match o with
  | .slc a b c => Opr (opV (.slc a b c) vs) k
  | .rng => Opr (opV .rng vs) k
  | .fmt => Opr (opV .fmt vs) k
  | .get2 => Opr (opV .get2 vs) k
  | o => match vs with
    | [a] => w1 o a k
    | [a, b] => w2 o a b k
    | _ => False
theorem wOp_ {o : Op} {vs : List PV} {k : PV → Md → Prop} (h : wOp o vs k) : Opr (opV o vs) k := by
  cases o
  all_goals first
    | exact h
    | (match vs, h with
      | [a], h => unfold wOp at h; dsimp only at h; exact w1_ h
      | [a, b], h => unfold wOp at h; dsimp only at h; exact w2_ h
      | [], h => exact False.elim h
      | _ :: _ :: _ :: _, h => exact False.elim h)
theorem opr_po {o : ORes} {r : Ev} {S : Store} {Q : KQ (PV × Md)} {E : XQ} (h : Opr o fun v m => Q (v, m) r S) : Po (ofO o r S) Q E := by
  have := h.h
  cases o <;> exact this
/-! ### expressions -/
def wRes (r : Ev) : List (PV × Md) → (List PV → Prop) → Prop
  | [], k => k []
  | (v, m) :: xs, k => match m with
    | .sh => wRes r xs fun vs => k (v :: vs)
    | .fr => wRes r xs fun vs => k (v :: vs)
    | .bo i => (match getS r i with
      | .ow v => wRes r xs fun vs => k (v :: vs)
      | .sh v => wRes r xs fun vs => k (v :: vs)
      | _ => False)
theorem wRes_ {r : Ev} : ∀ {xs : List (PV × Md)} {k : List PV → Prop}, wRes r xs k → ∃ vs, resA r xs = some vs ∧ k vs
  | [], k, h => ⟨[], rfl, h⟩
  | (v, m) :: xs, k, h => by
    unfold resA res1
    unfold wRes at h
    cases m with
    | sh => obtain ⟨vs, e, q⟩ := wRes_ h; exact ⟨v :: vs, by simp [e], q⟩
    | fr => obtain ⟨vs, e, q⟩ := wRes_ h; exact ⟨v :: vs, by simp [e], q⟩
    | bo i =>
      dsimp only at h ⊢
      split at h
      · rename_i w e1
        obtain ⟨vs, e, q⟩ := wRes_ h; exact ⟨w :: vs, by simp [e, e1], q⟩
      · rename_i w e1
        obtain ⟨vs, e, q⟩ := wRes_ h; exact ⟨w :: vs, by simp [e, e1], q⟩
      · exact h.elim
/-- handed on -/
def wEsc (cm : Bool) (v : PV) (m : Md) (r : Ev) (k : Ev → Prop) : Prop := match m with
  | .bo i => (match cm with
    | true => False
    | false => fE (lowS r i) k)
  | .sh => k r
  | .fr => k r
theorem wEsc_ {cm : Bool} {v : PV} {m : Md} {r : Ev} {S : Store} {Q : KQ PV} {E : XQ} (h : wEsc cm v m r fun r => Q v r S) : Po (esc cm v m r S) Q E := by
  cases m with
  | bo i => cases cm with
    | true => exact False.elim h
    | false => exact fE_ (k := fun r => Q v r S) h
  | _ => exact h
mutual
def wAsg : CT → PV → Ev → Store → (Ev → Prop) → Prop
  | .nm i, v, r, _, k => fE (setS r i (.sh v)) k
  | .tup ts, v, r, S, k => wVw S v fun v => match v with
    | .tup xs => (match Nat.beq xs.length ts.length with
      | true => wAsgs ts xs r S k
      | false => False)
    | .lst xs => (match Nat.beq xs.length ts.length with
      | true => wAsgs ts xs r S k
      | false => False)
    | _ => False
def wAsgs : List CT → List PV → Ev → Store → (Ev → Prop) → Prop
  | [], [], r, _, k => k r
  | t :: ts, x :: xs, r, S, k => wAsg t x r S fun r => wAsgs ts xs r S k
  | _, _, _, _, _ => False
end
mutual
theorem wAsg_ : ∀ {t : CT} {v : PV} {r : Ev} {S : Store} {k : Ev → Prop} {Q : KQ Unit} {E : XQ}, wAsg t v r S k → (∀ r, k r → Q () r S) → Po (asgT t v r S) Q E
  | .nm i, v, r, S, k, Q, E, h, q => by
    unfold wAsg at h
    unfold asgT
    exact q _ (fE_ h)
  | .tup ts, v, r, S, k, Q, E, h, q => by
    unfold wAsg at h
    have h' := wVw_ h
    unfold asgT
    revert h'
    cases view S v <;> intro h' <;> first | exact False.elim h' | skip
    all_goals
      dsimp only at h' ⊢
      split at h'
      · rename_i e
        rw [if_pos (Nat.eq_of_beq_eq_true e)]
        exact wAsgs_ h' q
      · exact h'.elim
theorem wAsgs_ : ∀ {ts : List CT} {xs : List PV} {r : Ev} {S : Store} {k : Ev → Prop} {Q : KQ Unit} {E : XQ}, wAsgs ts xs r S k → (∀ r, k r → Q () r S) → Po (asgTs ts xs r S) Q E
  | [], [], r, S, k, Q, E, h, q => by
    unfold wAsgs at h
    unfold asgTs
    exact q _ h
  | t :: ts, x :: xs, r, S, k, Q, E, h, q => by
    unfold wAsgs at h
    unfold asgTs
    rw [po_bind]
    exact wAsg_ (k := fun r => wAsgs ts xs r S k) h fun r h => wAsgs_ h q
  | [], _ :: _, r, S, k, Q, E, h, q => by unfold wAsgs at h; exact h.elim
  | _ :: _, [], r, S, k, Q, E, h, q => by unfold wAsgs at h; exact h.elim
end
end Ci
namespace Ci
open PySem
def mdF (fr : Bool) : Md := match fr with
  | true => .fr
  | false => .sh
theorem mdF_ (fr : Bool) : (if fr then Md.fr else Md.sh) = mdF fr := by cases fr <;> rfl
theorem call_po {x : FOut} {r : Ev} {Q : KQ (PV × Md)} {E : XQ} (h : Call x (fun v fr S => Q (v, mdF fr) r S) fun c vs S => E c vs r S) : Po (ofF x r) Q E := by
  have := h.h
  cases x with
  | ok v fr S => show Q (v, if fr then .fr else .sh) r S; rw [mdF_]; exact this
  | exc c vs S => exact this
  | bad w => exact this
/-! ### loops -/
def cmpW (b : PV → Store → (Option PV → Store → Prop) → Prop) : List PV → Store → List PV → (List PV → Store → Prop) → Prop
  | [], S, acc, Q => Q acc S
  | x :: xs, S, acc, Q => b x S fun y S => cmpW b xs S (match y with | some y => acc ++ [y] | none => acc) Q
structure Cmp (b : PV → Store → (Option PV → Store → Prop) → Prop) (xs : List PV) (S : Store) (Q : List PV → Store → Prop) : Prop where
  h : cmpW b xs S [] Q
theorem cmp_po {b : PV → Store → (Option PV → Store → Prop) → Prop} {f : PV → Store → Out (Option PV)} (hf : ∀ x S k, b x S k → Po (f x S) (fun y _ S => k y S) fun _ _ _ _ => False) : ∀ {xs : List PV} {S : Store} {acc : List PV} {Q : List PV → Store → Prop} {E : XQ}, cmpW b xs S acc Q → Po (compLoop f xs S acc) (fun ys _ S => Q ys S) E
  | [], S, acc, Q, E, h => by unfold compLoop; exact h
  | x :: xs, S, acc, Q, E, h => by
    unfold compLoop
    have := hf _ _ _ h
    cases q : f x S with
    | ok y r1 S1 => rw [q] at this; exact cmp_po hf this
    | exc c vs r1 S1 => rw [q] at this; exact this.elim
    | bad w => rw [q] at this; exact this
def forW (b : PV → Ev → Store → KQ Fl → Prop) (fn : Ev → Ev) : List PV → Ev → Store → KQ Fl → Prop
  | [], r, S, Q => fE (fn r) fun r => Q .nx r S
  | x :: xs, r, S, Q => b x r S fun fl r S => match fl with
    | .nx => forW b fn xs r S Q
    | .rt v fr => Q (.rt v fr) r S
structure For (b : PV → Ev → Store → KQ Fl → Prop) (fn : Ev → Ev) (xs : List PV) (r : Ev) (S : Store) (Q : KQ Fl) : Prop where
  h : forW b fn xs r S Q
theorem for_po {b : PV → Ev → Store → KQ Fl → Prop} {fn : Ev → Ev} {f : PV → Ev → Store → Out Fl} {E : XQ} (hf : ∀ x r S k, b x r S k → Po (f x r S) k E) : ∀ {xs : List PV} {r : Ev} {S : Store} {Q : KQ Fl}, forW b fn xs r S Q → Po (forLoop f fn xs r S) Q E
  | [], r, S, Q, h => by unfold forLoop; exact fE_ (k := fun r => Q .nx r S) h
  | x :: xs, r, S, Q, h => by
    unfold forLoop
    rw [po_bind]
    refine (hf _ _ _ _ h).mono fun fl r1 S1 h1 => ?_
    cases fl with
    | nx => exact for_po hf h1
    | rt v fr => exact h1
def whlW (c : Ev → Store → (Bool → Ev → Store → Prop) → Prop) (b : Ev → Store → KQ Fl → Prop) (fn : Ev → Ev) : Nat → Ev → Store → KQ Fl → Prop
  | 0, _, _, _ => False
  | n + 1, r, S, Q => c r S fun t r S => If t (b r S fun fl r S => match fl with
    | .nx => whlW c b fn n r S Q
    | .rt v fr => Q (.rt v fr) r S) (fE (fn r) fun r => Q .nx r S)
structure Whl (c : Ev → Store → (Bool → Ev → Store → Prop) → Prop) (b : Ev → Store → KQ Fl → Prop) (fn : Ev → Ev) (n : Nat) (r : Ev) (S : Store) (Q : KQ Fl) : Prop where
  h : whlW c b fn n r S Q
theorem whl_po {c : Ev → Store → (Bool → Ev → Store → Prop) → Prop} {b : Ev → Store → KQ Fl → Prop} {fn : Ev → Ev} {fc : Ev → Store → Out Bool} {f : Ev → Store → Out Fl} {E : XQ} (hc : ∀ r S k, c r S k → Po (fc r S) k E) (hf : ∀ r S k, b r S k → Po (f r S) k E) : ∀ {n : Nat} {r : Ev} {S : Store} {Q : KQ Fl}, whlW c b fn n r S Q → Po (whlLoop fc f fn n r S) Q E
  | 0, r, S, Q, h => h.elim
  | n + 1, r, S, Q, h => by
    unfold whlLoop
    rw [po_bind]
    refine (hc _ _ _ h).mono fun t r1 S1 h1 => ?_
    cases t with
    | false => exact fE_ (k := fun r => Q .nx r S1) (h1.no rfl)
    | true =>
      show Po ((f r1 S1).bind _) Q E
      rw [po_bind]
      refine (hf _ _ _ (h1.yes rfl)).mono fun fl r2 S2 h2 => ?_
      cases fl with
      | nx => exact whl_po hc hf h2
      | rt v fr => exact h2
/-! ### expressions -/
def wIt (cm hd : Bool) (own : List Nat) (x : PV × Md) (r : Ev) (k : Ev → Prop) : Prop := match hd with
  | true => wEsc cm x.1 x.2 r k
  | false => (match x.2 with
    | .bo i => (match own.contains i with
      | true => False
      | false => k r)
    | .sh => k r
    | .fr => k r)
theorem wIt_ {cm hd : Bool} {own : List Nat} {x : PV × Md} {r : Ev} {S : Store} {Q : KQ PV} {E : XQ} (h : wIt cm hd own x r fun r => Q x.1 r S) : Po (itE cm hd own x r S) Q E := by
  obtain ⟨v, m⟩ := x
  unfold itE
  cases hd with
  | true => exact wEsc_ h
  | false =>
    cases m with
    | bo i =>
      unfold wIt at h
      dsimp only at h ⊢
      revert h
      cases own.contains i <;> intro h <;> first | exact h | exact False.elim h
    | _ => exact h
def wSeq (v : PV) (k : List PV → Prop) : Prop := match v with
  | .tup xs => k xs
  | .lst xs => k xs
  | .str x => k (chars x)
  | _ => False
def wOpE (cx : Cxt) (o : Op) (vs : List PV) (r : Ev) (S : Store) (Q : KQ (PV × Md)) (E : XQ) : Prop := wVws S vs fun ws => match o, vs, ws with
  | .len, [v], [.obj c _] => Get (cx.P.lenm c) fun f => Call (cx.call f [v] S) (fun v fr S => Q (v, mdF fr) r S) fun c vs S => E c vs r S
  | o, _, ws => wOp o ws fun v m => Q (v, m) r S
/-- the items of a list, a tuple -/
def wLs (v : PV) (Q : List PV → Prop) : Prop := match v with
  | .lst xs => Q xs
  | .tup xs => Q xs
  | _ => False
/-- a new object, taken out of the store -/
def wOut (n : Nat) (r : Ev) (S : Store) (Q : PV × Md → Ev → Store → Prop) : Prop := match S[n]? with
  | some (.ins c fs) => locBf n fs = true ∧ (S.take n).all (cellB n) = true ∧ Q (.obj c fs, .fr) r (S.take n)
  | _ => False
mutual
def wE (cx : Cxt) (cm : Bool) : CE → Ev → Store → KQ (PV × Md) → XQ → Prop
  | .k v, r, S, Q, _ => Q (v, .sh) r S
  | .var i, r, S, Q, _ => wSl (getS r i) i fun x => Q x r S
  | .glb g, r, S, Q, _ => Get (cx.P.glob g) fun v => Q (v, .sh) r S
  | .fnv f, r, S, Q, _ => Q (.fn f, .sh) r S
  | .call f as, r, S, Q, E => wEs cx cm as r S (fun vs r S => Call (cx.call f vs S) (fun v fr S => Q (v, mdF fr) r S) fun c vs S => E c vs r S) E
  | .callv i as, r, S, Q, E => (match getS r i with
    | .sh (.fn f) => wEs cx cm as r S (fun vs r S => Call (cx.call f vs S) (fun v fr S => Q (v, mdF fr) r S) fun c vs S => E c vs r S) E
    | _ => False)
  | .meth m o as, r, S, Q, E => wE cx cm o r S (fun x r S => wEsc cm x.1 x.2 r fun r => wVw S x.1 fun w => match w with
    | .obj c _ => Get (cx.P.mth c m) fun f => wEs cx cm as r S (fun vs r S => Call (cx.call f (x.1 :: vs) S) (fun v fr S => Q (v, mdF fr) r S) fun c vs S => E c vs r S) E
    | _ => False) E
  | .mk c as, r, S, Q, E => wEs cx cm as r S (fun vs r S => Get (cx.P.init c) fun f => Call (cx.call f (.loc S.length :: vs) (S ++ [.ins c []])) (fun v fr S' => match v, fr with
      | .non, false => (match cx.P.mutc c with
        | true => Q (.loc S.length, .sh) r S'
        | false => wOut S.length r S' Q)
      | _, _ => False) fun c vs S => E c vs r S) E
  | .op o es, r, S, Q, E => wRs cx cm es r S (fun xs r S => wRes r xs fun vs => wOpE cx o vs r S Q E) E
  | .eqm ng es, r, S, Q, E => wEs cx cm es r S (fun vs r S => match vs with
    | [x, y] => wVw S x fun w => (match w with
      | .obj c _ => Get (cx.P.eqm c) fun f => wVw S y fun z => isiOk z = true ∧ Call (cx.call f [x, y] S) (fun v fr S' => match v, fr with
        | .bl b, false => Q (.bl (if ng then !b else b), .sh) r S'
        | _, _ => False) fun _ _ _ => False
      | _ => wVws S [x, y] fun ws => wOp (if ng then .ne else .eq) ws fun v m => Q (v, m) r S)
    | _ => False) E
  | .chain o1 o2 a b c, r, S, Q, E => wE cx cm a r S (fun x r S => wE cx cm b r S (fun y r S => match x.1, y.1 with
    | .int i, .int j => Get (cmpO o1 i j) fun t => If t (wE cx cm c r S (fun z r S => match z.1 with
      | .int k => Get (cmpO o2 j k) fun t => Q (.bl t, .sh) r S
      | _ => False) E) (Q (.bl false, .sh) r S)
    | _, _ => False) E) E
  | .andE a b, r, S, Q, E => wE cx cm a r S (fun x r S => wT S x.1 fun t => If t (wE cx cm b r S Q E) (Q x r S)) E
  | .orE a b, r, S, Q, E => wE cx cm a r S (fun x r S => wT S x.1 fun t => If t (Q x r S) (wE cx cm b r S Q E)) E
  | .notE a, r, S, Q, E => wE cx cm a r S (fun x r S => wT S x.1 fun t => Q (.bl (!t), .sh) r S) E
  | .ife c a b, r, S, Q, E => wE cx cm c r S (fun x r S => wT S x.1 fun t => If t (wE cx cm a r S Q E) (wE cx cm b r S Q E)) E
  | .tupE es, r, S, Q, E => wEs cx cm es r S (fun vs r S => Q (.tup vs, .sh) r S) E
  | .lstE es, r, S, Q, E => wEs cx cm es r S (fun vs r S => Q (.lst vs, .fr) r S) E
  | .comp own frz tgt it cond elt, r, S, Q, E => (match cm && !frz.isEmpty with
    | true => False
    | false => fE (lowAll r frz) fun r => wI cx cm false own it r S (fun xs r S => match own.any (fun i => isOw (getS r i)) with
      | true => False
      | false => Cmp (fun x S k => fE (wipeS r own) fun r => wAsg tgt x r S fun r1 => wC cx cond r1 S (fun b r1 S => If b (wE cx true elt r1 S (fun y r2 S => wEsc true y.1 y.2 r2 fun _ => k (some y.1) S) fun _ _ _ _ => False) (k none S))) xs S fun ys S => Q (.lst ys, .fr) r S) E)
  | .exf i f, r, S, Q, _ => (match getS r i with
    | .ex c vs => Get (((cx.P.xf c).zip vs).lookup f) fun v => Q (v, .sh) r S
    | _ => False)
  | .nloc e, r, S, Q, E => wE cx cm e r S (fun x r S => match x.2 with
    | .fr => (match x.1 with
      | .lst xs => Q (.loc S.length, .sh) r (S ++ [.lst xs])
      | .dct xs => Q (.loc S.length, .sh) r (S ++ [.dct xs])
      | _ => False)
    | _ => False) E
  | e, r, S, Q, E => Raw (ev cx cm e r S) Q E
def wC (cx : Cxt) : Option CE → Ev → Store → (Bool → Ev → Store → Prop) → Prop
  | none, r, S, k => k true r S
  | some c, r, S, k => wE cx true c r S (fun x r1 S => wT S x.1 fun t => k t r S) fun _ _ _ _ => False
def wEs (cx : Cxt) (cm : Bool) : List CE → Ev → Store → KQ (List PV) → XQ → Prop
  | [], r, S, Q, _ => Q [] r S
  | e :: es, r, S, Q, E => wE cx cm e r S (fun x r S => wEsc cm x.1 x.2 r fun r => wEs cx cm es r S (fun vs r S => Q (x.1 :: vs) r S) E) E
def wRs (cx : Cxt) (cm : Bool) : List CE → Ev → Store → KQ (List (PV × Md)) → XQ → Prop
  | [], r, S, Q, _ => Q [] r S
  | e :: es, r, S, Q, E => wE cx cm e r S (fun x r S => wRs cx cm es r S (fun xs r S => Q (x :: xs) r S) E) E
def wI (cx : Cxt) (cm hd : Bool) (own : List Nat) : CI → Ev → Store → KQ (List PV) → XQ → Prop
  | .ex e, r, S, Q, E => wE cx cm e r S (fun x r S => wIt cm hd own x r fun r => wSeq x.1 fun xs => Q xs r S) E
  | .rng es, r, S, Q, E => wRs cx cm es r S (fun xs r S => wRes r xs fun vs => Get (rngOf vs) fun ys => Q ys r S) E
  | .enm e, r, S, Q, E => wE cx cm e r S (fun x r S => wIt cm hd own x r fun r => wLs x.1 fun xs => Q (enumV xs) r S) E
  | it, r, S, Q, E => Raw (evIt cx cm hd own it r S) Q E
end
end Ci
namespace Ci
open PySem
theorem seq_ {v : PV} {k : List PV → Prop} (h : wSeq v k) : ∃ xs, seqOf v = some xs ∧ k xs ∧ (∀ kvs, v ≠ .dct kvs) := by
  cases v <;> first | exact ⟨_, rfl, h, fun _ q => (nomatch q)⟩ | exact False.elim h
theorem opE_po {cx : Cxt} {o : Op} {vs : List PV} {r : Ev} {S : Store} {Q : KQ (PV × Md)} {E : XQ} (h : wOpE cx o vs r S Q E) : Po (match o, vs with
    | .len, [v] => match view S v with
      | .obj c _ => match cx.P.lenm c with
        | some f => ofF (cx.call f [v] S) r
        | none => .bad 64
      | _ => ofO (opRun S o vs) r S
    | _, _ => ofO (opRun S o vs) r S) Q E := by
  have h1 := wVws_ h
  have gen : (wOp o (vs.map (view S)) fun v m => Q (v, m) r S) → Po (ofO (opRun S o vs) r S) Q E := fun h => opr_po (wOp_ h)
  split
  · rename_i v
    simp only [List.map_cons, List.map_nil] at h1 gen
    split
    · rename_i c fs e
      rw [e] at h1
      obtain ⟨f, e1, q⟩ := Get.h h1
      rw [e1]
      exact call_po q
    · rename_i hne
      refine gen ?_
      revert h1 hne
      cases view S v <;> intro h1 hne <;> first | exact h1 | exact (hne _ _ rfl).elim
  · rename_i hne
    refine gen ?_
    revert h1
    cases o
    case len =>
      cases vs with
      | nil => exact id
      | cons v vs => cases vs with
        | nil => exact (hne v rfl rfl).elim
        | cons _ _ => exact id
    all_goals exact id
theorem wEsc_q {cm : Bool} {v : PV} {m : Md} {r : Ev} {S : Store} {k : Ev → Prop} {Q : KQ PV} {E : XQ} (h : wEsc cm v m r k) (q : ∀ r, k r → Q v r S) : Po (esc cm v m r S) Q E := by
  cases m with
  | bo i => cases cm with
    | true => exact False.elim h
    | false => exact q _ (fE_ h)
  | _ => exact q _ h
theorem wIt_q {cm hd : Bool} {own : List Nat} {x : PV × Md} {r : Ev} {S : Store} {k : Ev → Prop} {Q : KQ PV} {E : XQ} (h : wIt cm hd own x r k) (q : ∀ r, k r → Q x.1 r S) : Po (itE cm hd own x r S) Q E := by
  obtain ⟨v, m⟩ := x
  unfold itE
  cases hd with
  | true => exact wEsc_q h q
  | false =>
    cases m with
    | bo i =>
      unfold wIt at h
      dsimp only at h ⊢
      revert h
      cases own.contains i <;> intro h <;> first | exact q _ h | exact False.elim h
    | _ => exact q _ h
theorem wT_po {S : Store} {v : PV} {r : Ev} {k : Bool → Prop} {Q : KQ Bool} {E : XQ} (h : wT S v k) (q : ∀ b, k b → Q b r S) : Po (truthO S v r) Q E := by
  obtain ⟨b, e, h⟩ := wT_ h
  unfold truthO
  rw [e]
  exact q b h
mutual
theorem wE_ {cx : Cxt} : ∀ {e : CE} {cm : Bool} {r : Ev} {S : Store} {Q : KQ (PV × Md)} {E : XQ}, wE cx cm e r S Q E → Po (ev cx cm e r S) Q E
  | .k v, cm, r, S, Q, E, h => by unfold wE at h; unfold ev; exact h
  | .var i, cm, r, S, Q, E, h => by
    unfold wE wSl at h; unfold ev
    revert h
    cases getS r i <;> intro h <;> first | exact h | exact False.elim h
  | .glb g, cm, r, S, Q, E, h => by
    unfold wE at h; unfold ev
    obtain ⟨v, e, q⟩ := Get.h h
    rw [e]; exact q
  | .fnv f, cm, r, S, Q, E, h => by unfold wE at h; unfold ev; exact h
  | .call f as, cm, r, S, Q, E, h => by
    unfold wE at h; unfold ev
    rw [po_bind]
    exact (wEs_ h).mono fun vs r S h => call_po h
  | .callv i as, cm, r, S, Q, E, h => by
    unfold wE at h; unfold ev
    revert h
    cases getS r i <;> intro h <;> first | exact False.elim h | skip
    rename_i v
    revert h
    cases v <;> intro h <;> first | exact False.elim h | skip
    show Po (Out.bind _ _) Q E
    rw [po_bind]
    exact (wEs_ h).mono fun vs r S h => call_po h
  | .meth m o as, cm, r, S, Q, E, h => by
    unfold wE at h; unfold ev escB
    rw [po_bind, po_bind]
    refine (wE_ h).mono fun x r S h => wEsc_q h fun r h => ?_
    have h' := wVw_ h
    revert h'
    cases view S x.1 <;> intro h' <;> first | exact False.elim h' | skip
    obtain ⟨f, e, q⟩ := Get.h h'
    dsimp only
    rw [e]
    dsimp only
    rw [po_bind]
    exact (wEs_ q).mono fun vs r S h => call_po h
  | .mk c as, cm, r, S, Q, E, h => by
    unfold wE at h; unfold ev
    rw [po_bind]
    refine (wEs_ h).mono fun vs r S h => ?_
    obtain ⟨f, e, q⟩ := Get.h h
    rw [e]
    have q' := Call.h q
    dsimp only
    revert q'
    cases cx.call f (.loc S.length :: vs) (S ++ [.ins c []]) with
    | ok v fr S' =>
      intro q'
      cases v <;> first | exact False.elim q' | skip
      cases fr <;> first | exact False.elim q' | skip
      dsimp only at q' ⊢
      revert q'
      cases cx.P.mutc c with
      | true => exact id
      | false =>
        intro q'
        rw [if_neg (by decide)]
        have q2 : wOut S.length r S' Q := q'
        unfold wOut at q2
        unfold outL
        split at q2
        · rename_i c' fs e
          obtain ⟨h1, h2, h3⟩ := q2
          have e' : (S')[S.length]? = some (Cell.ins c' fs) := e
          (try rw [e'])
          show Po (if (locBf S.length fs && (S'.take S.length).all (cellB S.length)) = true then _ else _) Q E
          rw [h1, h2]
          exact h3
        · exact q2.elim
    | exc c' vs' S' => exact id
    | bad w => exact id
  | .op o es, cm, r, S, Q, E, h => by
    unfold wE at h; unfold ev rdB
    rw [po_bind, po_bind]
    refine (wRs_ h).mono fun xs r S h => ?_
    obtain ⟨vs, e, q⟩ := wRes_ h
    rw [e]
    exact opE_po q
  | .eqm ng es, cm, r, S, Q, E, h => by
    unfold wE at h; unfold ev
    rw [po_bind]
    refine (wEs_ h).mono fun vs r S q => ?_
    revert q
    show _ → Po (match vs with
      | [x, y] => _
      | _ => _) Q E
    split
    · rename_i x y
      intro q
      have h' := wVw_ q
      revert h'
      unfold eqmO
      cases hv : view S x <;> intro h'
      case obj c fs =>
        obtain ⟨f, e, q⟩ := Get.h h'
        have q := wVw_ q
        obtain ⟨q1, q⟩ := q
        have q := Call.h q
        simp only [hv, e, q1, if_true]
        revert q
        cases cx.call f [x, y] S with
        | ok v fr S' =>
          intro q
          cases v <;> first | exact False.elim q | skip
          cases fr <;> first | exact False.elim q | exact q
        | exc c vs S' => exact False.elim
        | bad w => exact id
      all_goals
        have h2 := wVws_ h'
        simp only [hv]
        exact opr_po (wOp_ h2)
    · intro q; exact q.elim
  | .chain o1 o2 a b c, cm, r, S, Q, E, h => by
    unfold wE at h; unfold ev
    rw [po_bind]
    refine (wE_ h).mono fun x r S h => ?_
    rw [po_bind]
    refine (wE_ h).mono fun y r S h => ?_
    revert h
    obtain ⟨x, mx⟩ := x
    obtain ⟨y, my⟩ := y
    dsimp only
    split
    · intro h
      obtain ⟨t, e, q⟩ := Get.h h
      simp only [e]
      cases t with
      | false => exact q.no rfl
      | true =>
        dsimp only
        rw [po_bind]
        refine (wE_ (q.yes rfl)).mono fun z r S h => ?_
        obtain ⟨z, mz⟩ := z
        revert h
        cases z <;> intro h <;> first | exact False.elim h | skip
        obtain ⟨t, e, q⟩ := Get.h h
        dsimp only
        rw [e]; exact q
    · intro h; exact h.elim
  | .andE a b, cm, r, S, Q, E, h => by
    unfold wE at h; unfold ev
    rw [po_bind]
    refine (wE_ h).mono fun x r S h => ?_
    rw [po_bind]
    refine wT_po h fun t q => ?_
    cases t with
    | true => exact wE_ (q.yes rfl)
    | false => exact q.no rfl
  | .orE a b, cm, r, S, Q, E, h => by
    unfold wE at h; unfold ev
    rw [po_bind]
    refine (wE_ h).mono fun x r S h => ?_
    rw [po_bind]
    refine wT_po h fun t q => ?_
    cases t with
    | true => exact q.yes rfl
    | false => exact wE_ (q.no rfl)
  | .notE a, cm, r, S, Q, E, h => by
    unfold wE at h; unfold ev
    rw [po_bind]
    refine (wE_ h).mono fun x r S h => ?_
    rw [po_bind]
    exact wT_po h fun t q => q
  | .ife c a b, cm, r, S, Q, E, h => by
    unfold wE at h; unfold ev
    rw [po_bind]
    refine (wE_ h).mono fun x r S h => ?_
    rw [po_bind]
    refine wT_po h fun t q => ?_
    cases t with
    | true => exact wE_ (q.yes rfl)
    | false => exact wE_ (q.no rfl)
  | .tupE es, cm, r, S, Q, E, h => by
    unfold wE at h; unfold ev
    rw [po_bind]
    exact wEs_ h
  | .lstE es, cm, r, S, Q, E, h => by
    unfold wE at h; unfold ev
    rw [po_bind]
    exact wEs_ h
  | .comp own frz tgt it cond elt, cm, r, S, Q, E, h => by
    unfold wE at h; unfold ev
    split at h
    · exact h.elim
    · rename_i hc
      rw [if_neg (by rw [hc]; decide), po_bind]
      refine (wI_ (fE_ h)).mono fun xs r S h => ?_
      split at h
      · exact h.elim
      · rename_i ho
        rw [if_neg (by rw [ho]; decide), po_bind]
        refine cmp_po (fun x S k h => ?_) h.h
        rw [po_bind]
        refine wAsg_ (fE_ h) fun r1 h => ?_
        cases cond with
        | none =>
          unfold wC at h
          dsimp only
          unfold escB
          rw [po_bind, po_bind]
          refine (wE_ (h.yes rfl)).mono fun y r2 S h => ?_
          exact wEsc_q h fun _ h => h
        | some c =>
          unfold wC at h
          dsimp only
          rw [po_bind]
          refine (wE_ h).mono fun t r2 S h => ?_
          rw [po_bind]
          refine wT_po h fun b q => ?_
          cases b with
          | true =>
            rw [if_pos rfl]
            unfold escB
            rw [po_bind, po_bind]
            refine (wE_ (q.yes rfl)).mono fun y r2 S h => ?_
            exact wEsc_q h fun _ h => h
          | false => exact q.no rfl
  | .exf i f, cm, r, S, Q, E, h => by
    unfold wE at h; unfold ev
    revert h
    cases getS r i <;> intro h <;> first | exact False.elim h | skip
    obtain ⟨v, e, q⟩ := Get.h h
    dsimp only
    rw [e]; exact q
  | .nloc e, cm, r, S, Q, E, h => by
    unfold wE at h; unfold ev
    rw [po_bind]
    refine (wE_ h).mono fun x r S h => ?_
    obtain ⟨x, m⟩ := x
    cases m <;> first | exact False.elim h | skip
    cases x <;> first | exact False.elim h | exact h
  | .lcall _ _, cm, r, S, Q, E, h => by unfold wE at h; exact h.h
  | .lmeth _ _ _, cm, r, S, Q, E, h => by unfold wE at h; exact h.h
  | .dctE _, cm, r, S, Q, E, h => by unfold wE at h; exact h.h
  | .srtk _ _, cm, r, S, Q, E, h => by unfold wE at h; exact h.h
  | .srtm _ _ _, cm, r, S, Q, E, h => by unfold wE at h; exact h.h
theorem wEs_ {cx : Cxt} : ∀ {es : List CE} {cm : Bool} {r : Ev} {S : Store} {Q : KQ (List PV)} {E : XQ}, wEs cx cm es r S Q E → Po (evs cx cm es r S) Q E
  | [], cm, r, S, Q, E, h => by unfold wEs at h; unfold evs; exact h
  | e :: es, cm, r, S, Q, E, h => by
    unfold wEs at h; unfold evs
    rw [po_bind]
    refine (wE_ h).mono fun x r S h => ?_
    rw [po_bind]
    refine wEsc_q h fun r h => ?_
    rw [po_bind]
    exact wEs_ h
theorem wRs_ {cx : Cxt} : ∀ {es : List CE} {cm : Bool} {r : Ev} {S : Store} {Q : KQ (List (PV × Md))} {E : XQ}, wRs cx cm es r S Q E → Po (evr cx cm es r S) Q E
  | [], cm, r, S, Q, E, h => by unfold wRs at h; unfold evr; exact h
  | e :: es, cm, r, S, Q, E, h => by
    unfold wRs at h; unfold evr
    rw [po_bind]
    refine (wE_ h).mono fun x r S h => ?_
    rw [po_bind]
    exact wRs_ h
theorem wI_ {cx : Cxt} : ∀ {it : CI} {cm hd : Bool} {own : List Nat} {r : Ev} {S : Store} {Q : KQ (List PV)} {E : XQ}, wI cx cm hd own it r S Q E → Po (evIt cx cm hd own it r S) Q E
  | .ex e, cm, hd, own, r, S, Q, E, h => by
    unfold wI at h; unfold evIt
    rw [po_bind]
    refine (wE_ h).mono fun x r S h => ?_
    rw [po_bind]
    refine wIt_q h fun r h => ?_
    obtain ⟨xs, e1, q, nd⟩ := seq_ h
    split
    · rename_i kvs hk; exact (nd _ hk).elim
    · rw [e1]; exact q
  | .rng es, cm, hd, own, r, S, Q, E, h => by
    unfold wI at h; unfold evIt rdB
    rw [po_bind, po_bind]
    refine (wRs_ h).mono fun xs r S h => ?_
    obtain ⟨vs, e, q⟩ := wRes_ h
    rw [e]
    obtain ⟨ys, e, q⟩ := Get.h q
    show Po (match rngOf vs with
      | some xs => .ok xs r S
      | none => .bad 76) Q E
    rw [e]; exact q
  | .enm e, cm, hd, own, r, S, Q, E, h => by
    unfold wI at h; unfold evIt
    rw [po_bind]
    refine (wE_ h).mono fun x r S h => ?_
    rw [po_bind]
    refine wIt_q h fun r h => ?_
    revert h
    cases x.1 <;> intro h <;> first | exact h | exact False.elim h
  | .items _, cm, hd, own, r, S, Q, E, h => by unfold wI at h; exact h.h
  | .enmI _, cm, hd, own, r, S, Q, E, h => by unfold wI at h; exact h.h
end
end Ci
namespace Ci
open PySem
def wPut (v : PV) (m : Md) (i : Nat) (r : Ev) (k : Ev → Prop) : Prop := match m with
  | .fr => fE (setS r i (.ow v)) k
  | .sh => fE (setS r i (.sh v)) k
  | .bo j => fE (setS (lowS r j) i (.sh v)) k
theorem wPut_ {v : PV} {m : Md} {i : Nat} {r : Ev} {k : Ev → Prop} (h : wPut v m i r k) : k (putS v m i r) := by cases m <;> exact fE_ h
/-- where a name's thing is changed -/
def wUpd (i : Nat) (r : Ev) (S : Store) (f : PV → Option PV) (k : Ev → Store → Prop) : Prop := match getS r i with
  | .ow v => Get (f v) fun w => fE (setS r i (.ow w)) fun r => k r S
  | .sh v => (match v with
    | .loc n => Get S[n]? fun c => (match c with
      | .lst xs => Get (f (.lst xs)) fun w => (match w with
        | .lst ys => k r (S.set n (.lst ys))
        | _ => False)
      | .dct xs => Get (f (.dct xs)) fun w => (match w with
        | .dct ys => k r (S.set n (.dct ys))
        | _ => False)
      | .ins c xs => Get (f (.obj c xs)) fun w => (match w with
        | .obj _ ys => k r (S.set n (.ins c ys))
        | _ => False))
    | _ => False)
  | _ => False
theorem wUpd_ {i : Nat} {r : Ev} {S : Store} {f : PV → Option PV} {k : Ev → Store → Prop} {Q : KQ Unit} {E : XQ} (h : wUpd i r S f k) (q : ∀ r S, k r S → Q () r S) : Po (updS i r S f) Q E := by
  unfold wUpd at h
  unfold updS
  revert h
  cases getS r i <;> intro h <;> first | exact False.elim h | skip
  case ow v =>
    obtain ⟨w, e, h⟩ := Get.h h
    dsimp only
    rw [e]
    exact q _ _ (fE_ (k := fun r => k r S) h)
  case sh v =>
    revert h
    cases v <;> intro h <;> first | exact False.elim h | skip
    rename_i n
    obtain ⟨c, e, h⟩ := Get.h h
    show Po (updS.updL n r S f) Q E
    unfold updS.updL
    rw [e]
    cases c with
    | lst xs =>
      obtain ⟨w, e, h⟩ := Get.h h
      dsimp only
      rw [e]
      revert h
      cases w <;> intro h <;> first | exact False.elim h | exact q _ _ h
    | dct xs =>
      obtain ⟨w, e, h⟩ := Get.h h
      dsimp only
      rw [e]
      revert h
      cases w <;> intro h <;> first | exact False.elim h | exact q _ _ h
    | ins c xs =>
      obtain ⟨w, e, h⟩ := Get.h h
      dsimp only
      rw [e]
      revert h
      cases w <;> intro h <;> first | exact False.elim h | exact q _ _ h
mutual
def wS (cx : Cxt) : CS → Ev → Store → KQ Fl → XQ → Prop
  | .asg i e, r, S, Q, E => wE cx false e r S (fun x r S => wPut x.1 x.2 i r fun r => Q .nx r S) E
  | .par ts es, r, S, Q, E => wRs cx false es r S (fun xs r S => Get (settle xs r) fun p => match Nat.beq ts.length p.1.length with
    | true => fE (putMany ts p.1 p.2) fun r => Q .nx r S
    | false => False) E
  | .unp t e, r, S, Q, E => wE cx false e r S (fun x r S => wEsc false x.1 x.2 r fun r => wAsg t x.1 r S fun r => Q .nx r S) E
  | .exp e, r, S, Q, E => wE cx false e r S (fun _ r S => Q .nx r S) E
  | .ret e, r, S, Q, E => wE cx false e r S (fun x r S => Q (.rt x.1 (match x.2 with | .sh => false | .fr => true | .bo _ => true)) r S) E
  | .retN, r, S, Q, E => Q (.rt .non false) r S
  | .pass, r, S, Q, E => Q .nx r S
  | .ife c a b, r, S, Q, E => wE cx false c r S (fun x r S => wT S x.1 fun t => If t (wSs cx a r S Q E) (wSs cx b r S Q E)) E
  | .for_ kill tgt it body, r, S, Q, E => wI cx false true [] it r S (fun xs r S => For (fun x r S k => fE (killS kill r) fun r => wAsg tgt x r S fun r => wSs cx body r S k E) (killS kill) xs r S Q) E
  | .whl kill c body, r, S, Q, E => Whl (fun r S k => fE (killS kill r) fun r => wE cx false c r S (fun x r S => wT S x.1 fun t => k t r S) E) (fun r S k => wSs cx body r S k E) (killS kill) whlMax r S Q
  | .rse c es, r, S, Q, E => wEs cx false es r S (fun vs r S => (decide (vs.length = (cx.P.xf c).length) && decide (0 < vs.length) && decide (vs.length ≤ 100)) = true ∧ E c vs r S) E
  | .setIs i ix e, r, S, Q, E => (match hasV i r with
    | true => wE cx false e r S (fun x r S => wEsc false x.1 x.2 r fun r => wE cx false ix r S (fun y r S => wEsc false y.1 y.2 r fun r => wUpd i r S (setV y.1 x.1) fun r S => Q .nx r S) E) E
    | false => False)
  | .setFs i f e, r, S, Q, E => wE cx false e r S (fun x r S => wEsc false x.1 x.2 r fun r => wUpd i r S (setFV cx.P f x.1) fun r S => Q .nx r S) E
  | .app i e, r, S, Q, E => lsAt i r S = true ∧ wE cx false e r S (fun x r S => wEsc false x.1 x.2 r fun r => wUpd i r S (appV x.1) fun r S => Q .nx r S) E
  | .ext i e, r, S, Q, E => lsAt i r S = true ∧ wE cx false e r S (fun x r S => wEsc false x.1 x.2 r fun r => wVw S x.1 fun w => wSeq w fun ys => wUpd i r S (extV ys) fun r S => Q .nx r S) E
  | .ins i a b, r, S, Q, E => lsAt i r S = true ∧ wE cx false a r S (fun k r S => wE cx false b r S (fun x r S => wEsc false x.1 x.2 r fun r => match k.1 with
    | .int k => wUpd i r S (insV k x.1) fun r S => Q .nx r S
    | _ => False) E) E
  | .aug i ng e, r, S, Q, E => wE cx false e r S (fun x r S => match getS r i with
    | .sh old => wOp (if ng then .sub else .add) [old, x.1] fun z m => (match m with
      | .sh => fE (setS r i (.sh z)) fun r => Q .nx r S
      | _ => False)
    | _ => False) E
  | .try_ body hs, r, S, Q, E => wSs cx body r S Q fun c vs r S => wH cx hs c vs r S Q E
  | s, r, S, Q, E => Raw (exec cx s r S) Q E
def wSs (cx : Cxt) : List CS → Ev → Store → KQ Fl → XQ → Prop
  | [], r, S, Q, _ => Q .nx r S
  | s :: ss, r, S, Q, E => wS cx s r S (fun fl r S => match fl with
    | .nx => wSs cx ss r S Q E
    | .rt v fr => Q (.rt v fr) r S) E
def wH (cx : Cxt) : List (List Nat × Option Nat × List CS) → Nat → List PV → Ev → Store → KQ Fl → XQ → Prop
  | [], c, vs, r, S, _, E => E c vs r S
  | (l, n, b) :: hs, c, vs, r, S, Q, E => (match l.any (cx.P.xsub c) with
    | true => fE (match n with | some i => setS r i (.ex c vs) | none => r) fun r => wSs cx b r S (fun fl r S => match fl with
      | .nx => fE (match n with | some i => setS r i .no | none => r) fun r => (match r.any isEx with
        | true => False
        | false => Q .nx r S)
      | .rt v fr => Q (.rt v fr) r S) fun _ _ _ _ => False
    | false => wH cx hs c vs r S Q E)
end
mutual
theorem wS_ {cx : Cxt} : ∀ {s : CS} {r : Ev} {S : Store} {Q : KQ Fl} {E : XQ}, wS cx s r S Q E → Po (exec cx s r S) Q E
  | .asg i e, r, S, Q, E, h => by
    unfold wS at h; unfold exec
    rw [po_bind]
    exact (wE_ h).mono fun x r S h => wPut_ (k := fun r => Q .nx r S) h
  | .par ts es, r, S, Q, E, h => by
    unfold wS at h; unfold exec
    have ee : ∀ (es : List CE) (r : Ev) (S : Store), evp cx es r S = evr cx false es r S := fun es => by
      induction es with
      | nil => intro r S; unfold evp evr; rfl
      | cons e es ih =>
        intro r S; unfold evp evr
        congr 1; funext x r S; rw [ih]
    rw [ee, po_bind]
    refine (wRs_ h).mono fun xs r S h => ?_
    obtain ⟨p, e, h⟩ := Get.h h
    simp only [e]
    split at h
    · rename_i hl
      obtain ⟨ys, r'⟩ := p
      rw [if_pos (Nat.eq_of_beq_eq_true hl)]
      exact fE_ (k := fun r => Q .nx r S) h
    · exact h.elim
  | .unp t e, r, S, Q, E, h => by
    unfold wS at h; unfold exec escB
    rw [po_bind, po_bind]
    refine (wE_ h).mono fun x r S h => wEsc_q h fun r h => ?_
    rw [po_bind]
    exact wAsg_ h fun r h => h
  | .exp e, r, S, Q, E, h => by
    unfold wS at h; unfold exec
    rw [po_bind]
    exact wE_ h
  | .ret e, r, S, Q, E, h => by
    unfold wS at h; unfold exec
    rw [po_bind]
    exact wE_ h
  | .retN, r, S, Q, E, h => by unfold wS at h; unfold exec; exact h
  | .pass, r, S, Q, E, h => by unfold wS at h; unfold exec; exact h
  | .ife c a b, r, S, Q, E, h => by
    unfold wS at h; unfold exec
    rw [po_bind]
    refine (wE_ h).mono fun x r S h => ?_
    rw [po_bind]
    refine wT_po h fun t q => ?_
    cases t with
    | true => exact wSs_ (q.yes rfl)
    | false => exact wSs_ (q.no rfl)
  | .for_ kill tgt it body, r, S, Q, E, h => by
    unfold wS at h; unfold exec
    rw [po_bind]
    refine (wI_ h).mono fun xs r S h => ?_
    refine for_po (fun x r S k h => ?_) h.h
    rw [po_bind]
    exact wAsg_ (fE_ h) fun r h => wSs_ h
  | .whl kill c body, r, S, Q, E, h => by
    unfold wS at h; unfold exec
    refine whl_po (fun r S k h => ?_) (fun r S k h => wSs_ h) h.h
    rw [po_bind]
    exact (wE_ (fE_ h)).mono fun x r S h => wT_po h fun t q => q
  | .rse c es, r, S, Q, E, h => by
    unfold wS at h; unfold exec
    rw [po_bind]
    refine (wEs_ h).mono fun vs r S h => ?_
    rw [if_pos (by have := h.1; simpa using this)]
    exact h.2
  | .setIs i ix e, r, S, Q, E, h => by
    unfold wS at h; unfold exec
    split at h
    · rename_i hh
      rw [if_neg (by rw [hh]; decide)]
      unfold escB
      rw [po_bind, po_bind]
      refine (wE_ h).mono fun x r S h => wEsc_q h fun r h => ?_
      rw [po_bind, po_bind]
      refine (wE_ h).mono fun y r S h => wEsc_q h fun r h => ?_
      rw [po_bind]
      exact wUpd_ h fun r S h => h
    · exact h.elim
  | .setFs i f e, r, S, Q, E, h => by
    unfold wS at h; unfold exec escB
    rw [po_bind, po_bind]
    refine (wE_ h).mono fun x r S h => wEsc_q h fun r h => ?_
    rw [po_bind]
    exact wUpd_ h fun r S h => h
  | .app i e, r, S, Q, E, h => by
    unfold wS at h; unfold exec escB
    rw [if_neg (by rw [h.1]; decide), po_bind, po_bind]
    refine (wE_ h.2).mono fun x r S h => wEsc_q h fun r h => ?_
    rw [po_bind]
    exact wUpd_ h fun r S h => h
  | .ext i e, r, S, Q, E, h => by
    unfold wS at h; unfold exec escB
    rw [if_neg (by rw [h.1]; decide), po_bind, po_bind]
    refine (wE_ h.2).mono fun x r S h => wEsc_q h fun r h => ?_
    obtain ⟨ys, e1, h, _⟩ := seq_ (wVw_ h)
    rw [e1]
    dsimp only
    rw [po_bind]
    exact wUpd_ h fun r S h => h
  | .ins i a b, r, S, Q, E, h => by
    unfold wS at h; unfold exec
    rw [if_neg (by rw [h.1]; decide), po_bind]
    refine (wE_ h.2).mono fun k r S h => ?_
    unfold escB
    rw [po_bind, po_bind]
    refine (wE_ h).mono fun x r S h => wEsc_q h fun r h => ?_
    obtain ⟨k, mk⟩ := k
    revert h
    cases k <;> intro h <;> first | exact False.elim h | skip
    dsimp only
    rw [po_bind]
    exact wUpd_ h fun r S h => h
  | .aug i ng e, r, S, Q, E, h => by
    unfold wS at h; unfold exec
    rw [po_bind]
    refine (wE_ h).mono fun x r S h => ?_
    revert h
    cases getS r i <;> intro h <;> first | exact False.elim h | skip
    have h := (wOp_ h).h
    revert h
    dsimp only
    cases opV (if ng then Op.sub else .add) [_, x.1] <;> intro h <;> first | exact False.elim h | skip
    exact fE_ (k := fun r => Q .nx r S) h
  | .try_ body hs, r, S, Q, E, h => by
    unfold wS at h; unfold exec
    have := wSs_ h
    revert this
    cases execs cx body r S with
    | ok fl r1 S1 => exact id
    | bad w => exact id
    | exc c vs r1 S1 => intro h; exact wH_ h
  | .parF _ _ _, r, S, Q, E, h => by unfold wS at h; exact h.h
  | .setI _ _ _, r, S, Q, E, h => by unfold wS at h; exact h.h
  | .setF _ _ _, r, S, Q, E, h => by unfold wS at h; exact h.h
  | .parI _ _, r, S, Q, E, h => by unfold wS at h; exact h.h
  | .appA _ _, r, S, Q, E, h => by unfold wS at h; exact h.h
  | .pop _ _ _ _, r, S, Q, E, h => by unfold wS at h; exact h.h
  | .augF _ _ _ _, r, S, Q, E, h => by unfold wS at h; exact h.h
  | .augS _ _ _ _, r, S, Q, E, h => by unfold wS at h; exact h.h
  | .rers, r, S, Q, E, h => by unfold wS at h; exact h.h
theorem wSs_ {cx : Cxt} : ∀ {ss : List CS} {r : Ev} {S : Store} {Q : KQ Fl} {E : XQ}, wSs cx ss r S Q E → Po (execs cx ss r S) Q E
  | [], r, S, Q, E, h => by unfold wSs at h; unfold execs; exact h
  | s :: ss, r, S, Q, E, h => by
    unfold wSs at h; unfold execs
    rw [po_bind]
    refine (wS_ h).mono fun fl r S h => ?_
    cases fl with
    | nx => exact wSs_ h
    | rt v fr => exact h
theorem wH_ {cx : Cxt} : ∀ {hs : List (List Nat × Option Nat × List CS)} {c : Nat} {vs : List PV} {r : Ev} {S : Store} {Q : KQ Fl} {E : XQ}, wH cx hs c vs r S Q E → Po (hand cx hs c vs r S) Q E
  | [], c, vs, r, S, Q, E, h => by unfold wH at h; unfold hand; exact h
  | (l, n, b) :: hs, c, vs, r, S, Q, E, h => by
    unfold wH at h; unfold hand
    split at h
    · rename_i hl
      rw [if_pos hl]
      have h := wSs_ (fE_ h)
      cases n with
      | none =>
        dsimp only at h ⊢
        revert h
        cases execs cx b r S with
        | bad w => exact id
        | exc c vs r S => exact False.elim
        | ok fl r S =>
          cases fl with
          | rt v fr => exact id
          | nx =>
            intro h
            have h := fE_ h
            dsimp only at h ⊢
            split at h
            · exact h.elim
            · rename_i hx
              rw [if_neg (by rw [hx]; decide)]
              exact h
      | some i =>
        dsimp only at h ⊢
        revert h
        cases execs cx b (setS r i (.ex c vs)) S with
        | bad w => exact id
        | exc c vs r S => exact False.elim
        | ok fl r S =>
          cases fl with
          | rt v fr => exact id
          | nx =>
            intro h
            have h := fE_ h
            dsimp only at h ⊢
            split at h
            · exact h.elim
            · rename_i hx
              rw [if_neg (by rw [hx]; decide)]
              exact h
    · rename_i hl
      rw [if_neg (by rw [hl]; decide)]
      exact wH_ h
end
/-! ### a def's run -/
theorem run_po {P : Prog} {k f : Nat} {d : FnDef} {vs : List PV} {S : Store} {Q : PV → Bool → Store → Prop} {E : Nat → List PV → Store → Prop} (hf : P.fns f = some d) (hi : d.ini = none) (hl : vs.length = d.np)
    (h : wSs ⟨P, run P k⟩ d.body (env0 d vs) S (fun fl _ S' => match fl with
      | .nx => Q .non false (trunc S.length [] S')
      | .rt v fr => Q v fr (trunc S.length [v] S')) fun c vs _ S' => E c vs (trunc S.length vs S')) : FPo (run P (k + 1) f vs S) Q E := by
  have h := wSs_ h
  rw [run_succ]
  rw [hf]
  dsimp only
  rw [hi]
  dsimp only
  rw [if_pos hl]
  unfold fin
  rw [hi]
  revert h
  cases execs ⟨P, run P k⟩ d.body (env0 d vs) S with
  | ok fl r S' => cases fl <;> exact id
  | exc c vs r S' => exact id
  | bad w => exact id
theorem mulR {i j : Int} (h1 : -18446744073709551616 < j) (h2 : j < 18446744073709551616) : mulOk i j = true := by
  unfold mulOk
  rw [Bool.or_eq_true]
  right
  rw [Bool.and_eq_true, decide_eq_true_eq, decide_eq_true_eq]
  exact ⟨h1, h2⟩
theorem mulL {i j : Int} (h1 : -18446744073709551616 < i) (h2 : i < 18446744073709551616) : mulOk i j = true := by
  unfold mulOk
  rw [Bool.or_eq_true]
  left
  rw [Bool.and_eq_true, decide_eq_true_eq, decide_eq_true_eq]
  exact ⟨h1, h2⟩
/-- what is to come out -/
structure Res (v : PV) (fr : Bool) (S : Store) (v' : PV) (fr' : Bool) (S' : Store) : Prop where
  v : v' = v
  fr : fr' = fr
  S : S' = S
structure ResX (c : Nat) (vs : List PV) (S : Store) (c' : Nat) (vs' : List PV) (S' : Store) : Prop where
  c : c' = c
  vs : vs' = vs
  S : S' = S
theorem fpo_eq {o : FOut} {v : PV} {fr : Bool} {S : Store} (h : FPo o (fun v' fr' S' => Res v fr S v' fr' S') fun _ _ _ => False) : o = .ok v fr S := by
  cases o with
  | ok v' fr' S' => obtain ⟨rfl, rfl, rfl⟩ := h; rfl
  | exc c vs S' => exact h.elim
  | bad w => exact h.elim
theorem fpo_exc {o : FOut} {c : Nat} {vs : List PV} {S : Store} (h : FPo o (fun _ _ _ => False) (fun c' vs' S' => ResX c vs S c' vs' S')) : o = .exc c vs S := by
  cases o with
  | ok v' fr' S' => exact h.elim
  | exc c' vs' S' => obtain ⟨rfl, rfl, rfl⟩ := h; rfl
  | bad w => exact h.elim
theorem fpo_fok {o : FOut} {Q : PV → Bool → Store → Prop} (h : FPo o Q fun _ _ _ => False) : FOk o Q := by cases o <;> exact h
end Ci
namespace Ci
open PySem
local macro_rules | `(tactic| array_mem_dec) => `(tactic| first | rfl | with_reducible assumption | ((with_reducible apply decide_eq_true); first | with_reducible assumption | omega) | ((with_reducible apply decide_eq_false); first | with_reducible assumption | omega) | (with_reducible exact beq_self_eq_true _) | (rw [beq_self_eq_true]; rfl) | ((with_reducible apply beq_iff_eq.mpr); omega) | ((with_reducible apply mulR) <;> omega) | ((with_reducible apply mulL) <;> omega) | omega)
local macro_rules | `(tactic| infer_instance) => `(tactic| first | ((with_reducible apply Get.mk'); (first | with_reducible assumption | with_unfolding_all rfl | exact List.getElem?_set_self (by first | assumption | (simp only [List.length_set]; assumption)))) | ((with_reducible refine If.tt ?_ ?_); array_mem_dec) | ((with_reducible refine If.ff ?_ ?_); array_mem_dec) | ((with_reducible apply Opr.sh); with_unfolding_all rfl) | ((with_reducible apply Opr.fr); with_unfolding_all rfl) | ((with_reducible refine And.intro ?_ ?_); array_mem_dec) | (with_reducible exact Res.mk (by with_unfolding_all rfl) (by with_unfolding_all rfl) (trunc_same (by with_unfolding_all rfl))) | (with_reducible exact ResX.mk (by with_unfolding_all rfl) (by with_unfolding_all rfl) (trunc_same (by with_unfolding_all rfl))))
local macro_rules | `(tactic| array_get_dec) => `(tactic| ((conv => whnf); repeat (infer_instance; try (conv => whnf))))
/-! ### loops by induction -/
theorem Cmp.ind {b : PV → Store → (Option PV → Store → Prop) → Prop} {Q : List PV → Store → Prop} (Inv : List PV → Store → List PV → Prop)
    (hs : ∀ x xs S acc, (∀ S' acc', Inv xs S' acc' → cmpW b xs S' acc' Q) → Inv (x :: xs) S acc → b x S fun y S => cmpW b xs S (match y with | some y => acc ++ [y] | none => acc) Q) (h0 : ∀ S acc, Inv [] S acc → Q acc S) {xs : List PV} {S : Store} (h : Inv xs S []) : Cmp b xs S Q := by
  have key : ∀ (xs : List PV) (S : Store) (acc : List PV), Inv xs S acc → cmpW b xs S acc Q := fun xs => by
    induction xs with
    | nil => exact fun S acc h => h0 S acc h
    | cons x xs ih => exact fun S acc h => hs x xs S acc ih h
  exact ⟨key xs S [] h⟩
theorem cmpW_map {b : PV → Store → (Option PV → Store → Prop) → Prop} {Q : List PV → Store → Prop} {S : Store} (g : PV → Option PV) : ∀ {xs acc : List PV}, (∀ x ∈ xs, ∀ k : Option PV → Store → Prop, k (g x) S → b x S k) → Q (acc ++ xs.filterMap g) S → cmpW b xs S acc Q
  | [], acc, _, q => by simpa [cmpW] using q
  | x :: xs, acc, hb, q => by
    unfold cmpW
    refine hb x List.mem_cons_self _ ?_
    refine cmpW_map g (fun y hy => hb y (List.mem_cons_of_mem _ hy)) ?_
    cases e : g x with
    | none => simpa [List.filterMap_cons, e] using q
    | some y => simpa [List.filterMap_cons, e] using q
theorem Cmp.map {b : PV → Store → (Option PV → Store → Prop) → Prop} {Q : List PV → Store → Prop} {S : Store} {xs : List PV} (g : PV → Option PV) (hb : ∀ x ∈ xs, ∀ k : Option PV → Store → Prop, k (g x) S → b x S k) (q : Q (xs.filterMap g) S) : Cmp b xs S Q := ⟨cmpW_map g hb (by simpa using q)⟩
theorem For.ind {b : PV → Ev → Store → KQ Fl → Prop} {fn : Ev → Ev} {Q : KQ Fl} (Inv : List PV → Ev → Store → Prop)
    (hs : ∀ x xs r S, (∀ r' S', Inv xs r' S' → forW b fn xs r' S' Q) → Inv (x :: xs) r S → forW b fn (x :: xs) r S Q) (h0 : ∀ r S, Inv [] r S → forW b fn [] r S Q) {xs : List PV} {r : Ev} {S : Store} (h : Inv xs r S) : For b fn xs r S Q := by
  have key : ∀ (xs : List PV) (r : Ev) (S : Store), Inv xs r S → forW b fn xs r S Q := fun xs => by
    induction xs with
    | nil => exact fun r S h => h0 r S h
    | cons x xs ih => exact fun r S h => hs x xs r S ih h
  exact ⟨key xs r S h⟩
theorem Whl.ind {c : Ev → Store → (Bool → Ev → Store → Prop) → Prop} {b : Ev → Store → KQ Fl → Prop} {fn : Ev → Ev} {Q : KQ Fl} (Inv : Nat → Ev → Store → Prop)
    (hs : ∀ n r S, (∀ r' S', Inv n r' S' → whlW c b fn n r' S' Q) → Inv (n + 1) r S → whlW c b fn (n + 1) r S Q) (h0 : ∀ r S, ¬ Inv 0 r S) {n : Nat} {r : Ev} {S : Store} (h : Inv n r S) : Whl c b fn n r S Q := by
  have key : ∀ (n : Nat) (r : Ev) (S : Store), Inv n r S → whlW c b fn n r S Q := fun n => by
    induction n with
    | zero => exact fun r S h => (h0 r S h).elim
    | succ n ih => exact fun r S h => hs n r S ih h
  exact ⟨key n r S h⟩
theorem For.lst {b : PV → Ev → Store → KQ Fl → Prop} {fn : Ev → Ev} {Q : KQ Fl} {xs : List PV} {r : Ev} {S : Store} (Inv : Nat → Ev → Store → Prop) (h : Inv 0 r S)
    (hs : ∀ (i : Nat) (x : PV) (r : Ev) (S : Store) (K : Ev → Store → Prop), xs[i]? = some x → Inv i r S → (∀ r' S', Inv (i + 1) r' S' → K r' S') → b x r S fun fl r S => match fl with
      | .nx => K r S
      | .rt v fr => Q (.rt v fr) r S) (h0 : ∀ r S, Inv xs.length r S → fE (fn r) fun r => Q .nx r S) : For b fn xs r S Q := by
  have key : ∀ (m i : Nat) (r : Ev) (S : Store), m = xs.length - i → i ≤ xs.length → Inv i r S → forW b fn (xs.drop i) r S Q := fun m => by
    induction m with
    | zero =>
      intro i r S hm hi h
      obtain rfl : i = xs.length := by omega
      rw [List.drop_length]
      exact h0 r S h
    | succ m ih =>
      intro i r S hm hi h
      have hl : i < xs.length := by omega
      rw [List.drop_eq_getElem_cons hl]
      exact hs i _ r S _ (List.getElem?_eq_getElem hl) h fun r' S' h' => ih (i + 1) r' S' (by omega) hl h'
  exact ⟨key _ 0 r S rfl (Nat.zero_le _) h⟩
theorem Cmp.lst {b : PV → Store → (Option PV → Store → Prop) → Prop} {Q : List PV → Store → Prop} {xs : List PV} {S : Store} (Inv : Nat → Store → List PV → Prop) (h : Inv 0 S [])
    (hs : ∀ (i : Nat) (x : PV) (S : Store) (acc : List PV) (K : Store → List PV → Prop), xs[i]? = some x → Inv i S acc → (∀ S' acc', Inv (i + 1) S' acc' → K S' acc') → b x S fun y S => K S (match y with | some y => acc ++ [y] | none => acc)) (h0 : ∀ S acc, Inv xs.length S acc → Q acc S) : Cmp b xs S Q := by
  have key : ∀ (m i : Nat) (S : Store) (acc : List PV), m = xs.length - i → i ≤ xs.length → Inv i S acc → cmpW b (xs.drop i) S acc Q := fun m => by
    induction m with
    | zero =>
      intro i S acc hm hi h
      obtain rfl : i = xs.length := by omega
      rw [List.drop_length]
      exact h0 S acc h
    | succ m ih =>
      intro i S acc hm hi h
      have hl : i < xs.length := by omega
      rw [List.drop_eq_getElem_cons hl]
      exact hs i _ S acc (fun S acc => cmpW b (xs.drop (i + 1)) S acc Q) (List.getElem?_eq_getElem hl) h fun S' acc' h' => ih (i + 1) S' acc' (by omega) hl h'
  exact ⟨key _ 0 S [] rfl (Nat.zero_le _) h⟩
/-! ### the laws' own defs -/
def takenD : FnDef := ⟨2, 4, none, [
    .ife (.op .gt [(.op .idx [(.var 0), (.k (.int 3))]), (.k (.int 0))]) [
      .asg 2 (.op .mod [(.op .int [(.op .idx [(.var 0), (.k (.int 3))])]), (.var 1)]),
      .setIs 0 (.k (.int 3)) (.op .fdiv [(.op .idx [(.var 0), (.k (.int 3))]), (.var 1)]),
      .ret (.var 2)] [],
    .setIs 0 (.k (.int 1)) (.op .add [(.op .idx [(.var 0), (.k (.int 1))]), (.k (.int 1))]),
    .ife (.op .gt [(.op .idx [(.var 0), (.k (.int 1))]), (.op .len [(.op .idx [(.var 0), (.k (.int 0))])])]) [
      .setIs 0 (.k (.int 2)) (.op .mod [(.op .int [(.op .add [(.op .mul [(.op .idx [(.var 0), (.k (.int 2))]), (.k (.int 48271))]), (.k (.int 11))])]), (.k (.int 2147483647))]),
      .ret (.op .mod [(.op .int [(.op .fdiv [(.op .idx [(.var 0), (.k (.int 2))]), (.k (.int 7))])]), (.var 1)])] [],
    .asg 3 (.op .idx [(.op .idx [(.var 0), (.k (.int 0))]), (.op .sub [(.op .idx [(.var 0), (.k (.int 1))]), (.k (.int 1))])]),
    .setIs 0 (.k (.int 2)) (.op .mod [(.op .int [(.op .add [(.op .add [(.op .mul [(.op .idx [(.var 0), (.k (.int 2))]), (.k (.int 48271))]), (.var 3)]), (.k (.int 11))])]), (.k (.int 2147483647))]),
    .ife (.op .ge [(.var 3), (.op .pow [(.k (.int 10)), (.k (.int 18))])]) [
      .setIs 0 (.k (.int 3)) (.op .fdiv [(.var 3), (.var 1)])] [],
    .ret (.op .mod [(.op .int [(.var 3)]), (.var 1)])]⟩
/-- where the draws stand -/
structure Dst where
  scr : List Int
  i : Nat
  s : Int
  c : Int
def cellD (d : Dst) : Cell := .lst [.lst (d.scr.map .int), .int d.i, .int d.s, .int d.c]
def draw (d : Dst) (m : Int) : Int × Dst :=
  if 0 < d.c then (d.c % m, { d with c := d.c / m })
  else match d.scr[d.i]? with
    | none => (((d.s * 48271 + 11) % 2147483647) / 7 % m, { d with i := d.i + 1, s := (d.s * 48271 + 11) % 2147483647 })
    | some x => (x % m, { d with i := d.i + 1, s := (d.s * 48271 + x + 11) % 2147483647, c := if 1000000000000000000 ≤ x then x / m else d.c })
theorem draw_nonneg {d : Dst} {m : Int} (h : 0 < m) : 0 ≤ (draw d m).1 := by
  unfold draw
  split
  · exact Int.emod_nonneg _ (by omega)
  · split <;> exact Int.emod_nonneg _ (by omega)
theorem draw_lt {d : Dst} {m : Int} (h : 0 < m) : (draw d m).1 < m := by
  unfold draw
  split
  · exact Int.emod_lt_of_pos _ h
  · split <;> exact Int.emod_lt_of_pos _ h
theorem r_taken {P : Prog} {k f n : Nat} {S : Store} {d : Dst} {m : Int} (hf : P.fns f = some takenD) (hS : S[n]? = some (cellD d)) (h0 : 0 < m) (h1 : m < 1073741824) :
    run P (k + 1) f [.loc n, .int m] S = .ok (.int (draw d m).1) false (S.set n (cellD (draw d m).2)) := by
  have hn : n < S.length := (List.getElem?_eq_some_iff.mp hS).1
  refine fpo_eq (run_po hf rfl rfl ?_)
  by_cases c : 0 < d.c
  · array_get_dec
    refine ⟨by simp [draw, c], rfl, ?_⟩
    simp [draw, c, cellD, trunc]
  · cases e : d.scr[d.i]? with
    | none =>
      have hi : d.scr.length ≤ d.i := List.getElem?_eq_none_iff.mp e
      have hi2 : (((d.scr.map PV.int).length : Nat) : Int) < d.i + 1 := by simp; omega
      array_get_dec
      refine ⟨by simp [draw, c, e], rfl, ?_⟩
      simp [draw, c, cellD, trunc, e]
    | some x =>
      have hi : d.i < d.scr.length := (List.getElem?_eq_some_iff.mp e).1
      have hi2 : ¬ (((d.scr.map PV.int).length : Nat) : Int) < d.i + 1 := by simp; omega
      have ha : atI (d.scr.map PV.int) ((d.i : Int) + 1 - 1) = some (.int x) := by
        have e2 : ((d.i : Int) + 1 - 1) = d.i := by omega
        rw [e2]; unfold atI; simp [e]
      by_cases hx : 1000000000000000000 ≤ x
      · have hx' : (10 : Int) ^ (18 : Int).toNat ≤ x := hx
        array_get_dec
        refine ⟨by simp [draw, c, e], rfl, ?_⟩
        simp [draw, c, cellD, trunc, e, hx]
      · have hx' : ¬ (10 : Int) ^ (18 : Int).toNat ≤ x := hx
        array_get_dec
        refine ⟨by simp [draw, c, e], rfl, ?_⟩
        simp [draw, c, cellD, trunc, e, hx]
def alikeD (f : Nat) : FnDef := ⟨2, 3, none, [
    .ife (.op (.isi [4, 3] []) [(.var 1)]) [
      .ife (.orE (.notE (.op (.isi [4, 3] []) [(.var 0)])) (.op .ne [(.op (.isi [3] []) [(.var 0)]), (.op (.isi [3] []) [(.var 1)])])) [
        .ret (.k (.bl false))] [],
      .ife (.op .ne [(.op .len [(.var 0)]), (.op .len [(.var 1)])]) [
        .ret (.k (.bl false))] [],
      .ret (.op .eq [(.comp [2] [] (.nm 2) (.rng [(.op .len [(.var 1)])]) (some (.notE (.call f [(.op .idx [(.var 0), (.var 2)]), (.op .idx [(.var 1), (.var 2)])]))) (.var 2)), (.lstE [])])] [],
    .ife (.orE (.op .isN [(.var 1)]) (.op (.isi [2] []) [(.var 1)])) [
      .ret (.andE (.op .eq [(.var 0), (.var 1)]) (.op .eq [(.op (.isi [2] []) [(.var 0)]), (.op (.isi [2] []) [(.var 1)])]))] [],
    .ret (.andE (.op (.isi [0] []) [(.var 0)]) (.andE (.op .eq [(.op (.isi [1] []) [(.var 0)]), (.op (.isi [1] []) [(.var 1)])]) (.op .eq [(.var 0), (.var 1)])))]⟩
theorem rng_all {n : Nat} (h : n < 8000000) : rngOf [.int (n : Int)] = some ((List.range n).map fun (i : Nat) => PV.int (i : Int)) := by
  have e : rngOf [.int (n : Int)] = if -8000000 < (n : Int) && (n : Int) < 8000000 then some (rngL 0 1 (n : Int).toNat) else none := rfl
  rw [e, if_pos (by simp; omega)]
  simp [rngL]
/-- data of small sequences -/
def small : Nat → PV → Bool
  | _, .non => true
  | _, .bl _ => true
  | _, .int _ => true
  | _, .str _ => true
  | n + 1, .tup xs => decide (xs.length < 8000000) && xs.all (small n)
  | n + 1, .lst xs => decide (xs.length < 8000000) && xs.all (small n)
  | _, _ => false
theorem atI_at {α : Type} {xs : List α} {i : Nat} {x : α} (h : xs[i]? = some x) : atI xs (i : Int) = some x := by
  unfold atI
  rw [if_pos (by omega)]
  simpa using h
theorem alike_comp {xs : List PV} {S : Store} {Q : List PV → Store → Prop} {b : PV → Store → (Option PV → Store → Prop) → Prop} (hb : ∀ (i : Nat), i < xs.length → ∀ k : Option PV → Store → Prop, k none S → b (.int (i : Int)) S k) (q : Q [] S) :
    Cmp b ((List.range xs.length).map fun (i : Nat) => PV.int (i : Int)) S Q := by
  refine Cmp.map (fun _ => none) (fun x hx k hk => ?_) (by
    have e : ∀ l : List PV, l.filterMap (fun _ => (none : Option PV)) = [] := fun l => by induction l <;> simp_all
    rw [e]; exact q)
  obtain ⟨i, hi, rfl⟩ := List.mem_map.mp hx
  exact hb i (List.mem_range.mp hi) k hk
theorem r_alike {P : Prog} {f : Nat} (hf : P.fns f = some (alikeD f)) : ∀ (n k : Nat) (v : PV) (S : Store), n ≤ k → small n v = true → run P (k + 1) f [v, v] S = .ok (.bl true) false S := by
  intro n
  induction n with
  | zero =>
    intro k v S _ h
    refine fpo_eq (run_po hf rfl rfl ?_)
    cases v <;> first | (simp [small] at h; done) | (array_get_dec <;> exact ⟨by simp, rfl, trunc_same rfl⟩)
  | succ n ih =>
    intro k v S hk h
    obtain ⟨k, rfl⟩ : ∃ k', k = k' + 1 := ⟨k - 1, by omega⟩
    refine fpo_eq (run_po hf rfl rfl ?_)
    cases v <;> first | (simp [small] at h; done) | skip
    case tup xs =>
      have hl : xs.length < 8000000 := by simp [small] at h; exact h.1
      have hx : ∀ x ∈ xs, small n x = true := by simp [small] at h; exact h.2
      have hr := rng_all hl
      array_get_dec
      refine alike_comp (fun i hi k' hk2 => ?_) ?_
      · have hi2 : atI xs (i : Int) = some xs[i] := atI_at (List.getElem?_eq_getElem hi)
        have e := ih k xs[i] S (by omega) (hx _ (List.getElem_mem hi))
        array_get_dec
        refine Call.ok e ?_
        array_get_dec
        exact hk2
      · array_get_dec
    case lst xs =>
      have hl : xs.length < 8000000 := by simp [small] at h; exact h.1
      have hx : ∀ x ∈ xs, small n x = true := by simp [small] at h; exact h.2
      have hr := rng_all hl
      array_get_dec
      refine alike_comp (fun i hi k' hk2 => ?_) ?_
      · have hi2 : atI xs (i : Int) = some xs[i] := atI_at (List.getElem?_eq_getElem hi)
        have e := ih k xs[i] S (by omega) (hx _ (List.getElem_mem hi))
        array_get_dec
        refine Call.ok e ?_
        array_get_dec
        exact hk2
      · array_get_dec
    all_goals (array_get_dec <;> exact ⟨by simp, rfl, trunc_same rfl⟩)
def truthD : FnDef := ⟨2, 2, none, [
    .ret (.andE (.op (.isi [1] []) [(.var 0)]) (.op .eq [(.var 0), (.var 1)]))]⟩
theorem r_truth {P : Prog} {f k : Nat} {b : Bool} {S : Store} (hf : P.fns f = some truthD) : run P (k + 1) f [.bl b, .bl b] S = .ok (.bl true) false S := by
  refine fpo_eq (run_po hf rfl rfl ?_)
  array_get_dec
  exact ⟨by simp, rfl, trunc_same rfl⟩
end Ci
/-! more rules for the laws: loops over encoded lists, ranges, draws -/
namespace Ci
open PySem
local macro_rules | `(tactic| array_mem_dec) => `(tactic| first | rfl | with_reducible assumption | ((with_reducible apply decide_eq_true); first | with_reducible assumption | omega) | ((with_reducible apply decide_eq_false); first | with_reducible assumption | omega) | (with_reducible exact beq_self_eq_true _) | (rw [beq_self_eq_true]; rfl) | ((with_reducible apply beq_iff_eq.mpr); omega) | ((with_reducible apply mulR) <;> omega) | ((with_reducible apply mulL) <;> omega) | omega)
local macro_rules | `(tactic| infer_instance) => `(tactic| first | ((with_reducible apply Get.mk'); (first | with_reducible assumption | with_unfolding_all rfl | exact List.getElem?_set_self (by first | assumption | (simp only [List.length_set]; assumption)))) | ((with_reducible refine If.tt ?_ ?_); array_mem_dec) | ((with_reducible refine If.ff ?_ ?_); array_mem_dec) | ((with_reducible apply Opr.sh); with_unfolding_all rfl) | ((with_reducible apply Opr.fr); with_unfolding_all rfl) | ((with_reducible refine And.intro ?_ ?_); array_mem_dec) | (with_reducible exact Res.mk (by with_unfolding_all rfl) (by with_unfolding_all rfl) (trunc_same (by with_unfolding_all rfl))) | (with_reducible exact ResX.mk (by with_unfolding_all rfl) (by with_unfolding_all rfl) (trunc_same (by with_unfolding_all rfl))))
local macro_rules | `(tactic| array_get_dec) => `(tactic| ((conv => whnf); repeat (infer_instance; try (conv => whnf))))
theorem cmpW_enc {α : Type} {b : PV → Store → (Option PV → Store → Prop) → Prop} {Q : List PV → Store → Prop} {S : Store} (e : α → PV) (g : α → Option PV) : ∀ {l : List α} {acc : List PV}, (∀ x ∈ l, ∀ k : Option PV → Store → Prop, k (g x) S → b (e x) S k) → Q (acc ++ l.filterMap g) S → cmpW b (l.map e) S acc Q
  | [], acc, _, q => by simpa [cmpW] using q
  | x :: xs, acc, hb, q => by
    rw [List.map_cons]
    unfold cmpW
    refine hb x List.mem_cons_self _ ?_
    refine cmpW_enc e g (fun y hy => hb y (List.mem_cons_of_mem _ hy)) ?_
    cases e : g x with
    | none => simpa [List.filterMap_cons, e] using q
    | some y => simpa [List.filterMap_cons, e] using q
/-- a comprehension over an encoded list, what it gives told by g -/
theorem Cmp.enc {α : Type} {b : PV → Store → (Option PV → Store → Prop) → Prop} {Q : List PV → Store → Prop} {S : Store} {l : List α} (e : α → PV) (g : α → Option PV) (hb : ∀ x ∈ l, ∀ k : Option PV → Store → Prop, k (g x) S → b (e x) S k) (q : Q (l.filterMap g) S) : Cmp b (l.map e) S Q := ⟨cmpW_enc e g hb (by simpa using q)⟩
/-- without a test -/
theorem Cmp.encM {α β : Type} {b : PV → Store → (Option PV → Store → Prop) → Prop} {Q : List PV → Store → Prop} {S : Store} {l : List α} (e : α → PV) (h : α → β) (e' : β → PV) (hb : ∀ x ∈ l, ∀ k : Option PV → Store → Prop, k (some (e' (h x))) S → b (e x) S k) (q : Q ((l.map h).map e') S) : Cmp b (l.map e) S Q :=
  Cmp.enc e (fun x => some (e' (h x))) hb (by
    have : ∀ l : List α, l.filterMap (fun x => some (e' (h x))) = (l.map h).map e' := fun l => by
      induction l with
      | nil => rfl
      | cons x l ih => rw [List.filterMap_cons, ih]; rfl
    rw [this]; exact q)
theorem filterMap_if {α β : Type} (p : α → Bool) (h : α → β) (e' : β → PV) : ∀ l : List α, l.filterMap (fun x => if p x then some (e' (h x)) else none) = ((l.filter p).map h).map e'
  | [] => rfl
  | x :: l => by
    rw [List.filterMap_cons, List.filter_cons]
    cases p x <;> simp [filterMap_if p h e' l]
/-- with a test -/
theorem Cmp.encF {α β : Type} {b : PV → Store → (Option PV → Store → Prop) → Prop} {Q : List PV → Store → Prop} {S : Store} {l : List α} (e : α → PV) (p : α → Bool) (h : α → β) (e' : β → PV) (hb : ∀ x ∈ l, ∀ k : Option PV → Store → Prop, (p x = true → k (some (e' (h x))) S) → (p x = false → k none S) → b (e x) S k) (q : Q (((l.filter p).map h).map e') S) : Cmp b (l.map e) S Q :=
  Cmp.enc e (fun x => if p x then some (e' (h x)) else none) (fun x hx k hk => hb x hx k (fun hp => by simpa [hp] using hk) (fun hp => by simpa [hp] using hk)) (by rw [filterMap_if]; exact q)
/-- the items themselves, those that pass -/
theorem Cmp.encT {α : Type} {b : PV → Store → (Option PV → Store → Prop) → Prop} {Q : List PV → Store → Prop} {S : Store} {l : List α} (e : α → PV) (p : α → Bool) (hb : ∀ x ∈ l, ∀ k : Option PV → Store → Prop, (p x = true → k (some (e x)) S) → (p x = false → k none S) → b (e x) S k) (q : Q ((l.filter p).map e) S) : Cmp b (l.map e) S Q :=
  Cmp.encF e p id e hb (by rw [List.map_id]; exact q)
/-- a comprehension that changes the store (draws): an invariant over what was made -/
theorem Cmp.inv {α : Type} {b : PV → Store → (Option PV → Store → Prop) → Prop} {Q : List PV → Store → Prop} {l : List α} {S : Store} (e : α → PV) (Inv : List α → Store → List PV → Prop) (h : Inv [] S [])
    (hs : ∀ (done : List α) (x : α) (rest : List α) (S : Store) (acc : List PV) (K : Store → List PV → Prop), l = done ++ x :: rest → Inv done S acc → (∀ S' acc', Inv (done ++ [x]) S' acc' → K S' acc') → b (e x) S fun y S => K S (match y with | some y => acc ++ [y] | none => acc)) (h0 : ∀ S acc, Inv l S acc → Q acc S) : Cmp b (l.map e) S Q := by
  have key : ∀ (rest done : List α) (S : Store) (acc : List PV), l = done ++ rest → Inv done S acc → cmpW b (rest.map e) S acc Q := fun rest => by
    induction rest with
    | nil =>
      intro done S acc hl hi
      rw [List.append_nil] at hl
      subst hl
      exact h0 S acc hi
    | cons x rest ih =>
      intro done S acc hl hi
      rw [List.map_cons]
      exact hs done x rest S acc (fun S acc => cmpW b (rest.map e) S acc Q) hl hi fun S' acc' h' => ih (done ++ [x]) S' acc' (by simp [hl]) h'
  exact ⟨key l [] S [] rfl h⟩
/-- a for over an encoded list -/
theorem For.enc {α : Type} {b : PV → Ev → Store → KQ Fl → Prop} {fn : Ev → Ev} {Q : KQ Fl} {l : List α} {r : Ev} {S : Store} (e : α → PV) (Inv : List α → Ev → Store → Prop) (h : Inv [] r S)
    (hs : ∀ (done : List α) (x : α) (rest : List α) (r : Ev) (S : Store) (K : Ev → Store → Prop), l = done ++ x :: rest → Inv done r S → (∀ r' S', Inv (done ++ [x]) r' S' → K r' S') → b (e x) r S fun fl r S => match fl with
      | .nx => K r S
      | .rt v fr => Q (.rt v fr) r S) (h0 : ∀ r S, Inv l r S → fE (fn r) fun r => Q .nx r S) : For b fn (l.map e) r S Q := by
  have key : ∀ (rest done : List α) (r : Ev) (S : Store), l = done ++ rest → Inv done r S → forW b fn (rest.map e) r S Q := fun rest => by
    induction rest with
    | nil =>
      intro done r S hl hi
      rw [List.append_nil] at hl
      subst hl
      exact h0 r S hi
    | cons x rest ih =>
      intro done r S hl hi
      rw [List.map_cons]
      exact hs done x rest r S _ hl hi fun r' S' h' => ih (done ++ [x]) r' S' (by simp [hl]) h'
  exact ⟨key l [] r S rfl h⟩
/-- numbers from a up to b, without b -/
def rI (a b : Int) : List Int := (List.range (b - a).toNat).map fun (k : Nat) => a + (k : Int)
theorem mem_rI {a b x : Int} : x ∈ rI a b ↔ a ≤ x ∧ x < b := by
  unfold rI
  rw [List.mem_map]
  constructor
  · rintro ⟨k, hk, rfl⟩
    have := List.mem_range.mp hk
    omega
  · rintro ⟨h1, h2⟩
    exact ⟨(x - a).toNat, List.mem_range.mpr (by omega), by omega⟩
theorem rI_len {a b : Int} : (rI a b).length = (b - a).toNat := by simp [rI]
theorem rI_get {a b : Int} {i : Nat} (h : i < (b - a).toNat) : (rI a b)[i]? = some (a + (i : Int)) := by
  unfold rI
  rw [List.getElem?_map, List.getElem?_range h]; rfl
theorem rI_nil {a b : Int} (h : b ≤ a) : rI a b = [] := by
  unfold rI
  rw [show (b - a).toNat = 0 by omega]; rfl
theorem rI_cons {a b : Int} (h : a < b) : rI a b = a :: rI (a + 1) b := by
  unfold rI
  rw [show (b - a).toNat = (b - (a + 1)).toNat + 1 by omega, List.range_succ_eq_map, List.map_cons, List.map_map]
  congr 1
  · simp
  · apply List.map_congr_left; intro k _; simp only [Function.comp]; omega
theorem rI_snoc {a b : Int} (h : a ≤ b) : rI a (b + 1) = rI a b ++ [b] := by
  unfold rI
  rw [show (b + 1 - a).toNat = (b - a).toNat + 1 by omega, List.range_succ, List.map_append]
  congr 1
  simp; omega
theorem rI_app {a b c : Int} (h : a ≤ b) (h2 : b ≤ c) : rI a c = rI a b ++ rI b c := by
  have key : ∀ n : Nat, rI a (b + n) = rI a b ++ rI b (b + n) := fun n => by
    induction n with
    | zero => rw [show b + ((0 : Nat) : Int) = b by simp, rI_nil (Int.le_refl b), List.append_nil]
    | succ n ih => rw [show b + ((n + 1 : Nat) : Int) = (b + n) + 1 by omega, rI_snoc (by omega), rI_snoc (by omega), ih, List.append_assoc]
  have := key (c - b).toNat
  rwa [show b + (((c - b).toNat : Nat) : Int) = c by omega] at this
/-- where the list of a range stands split, what was done is a range too -/
theorem rI_split {a b : Int} {done rest : List Int} {x : Int} (h : rI a b = done ++ x :: rest) : done = rI a x ∧ rest = rI (x + 1) b ∧ a ≤ x ∧ x < b := by
  have hm : x ∈ rI a b := by rw [h]; simp
  obtain ⟨h1, h2⟩ := mem_rI.mp hm
  have hl : done.length < (b - a).toNat := by
    have := congrArg List.length h
    rw [rI_len] at this; simp at this; omega
  have hx : x = a + (done.length : Int) := by
    have e := rI_get (a := a) (b := b) hl
    rw [h] at e
    simp at e
    exact e
  have e2 : rI a b = rI a x ++ (x :: rI (x + 1) b) := by
    rw [rI_app h1 (Int.le_of_lt h2), rI_cons h2]
  rw [e2] at h
  have hlen : (rI a x).length = done.length := by rw [rI_len]; omega
  obtain ⟨q1, q2⟩ := List.append_inj h hlen
  have q3 := (List.cons.inj q2).2
  exact ⟨q1.symm, q3.symm, h1, h2⟩
theorem rng1 {n : Int} (h0 : -8000000 < n) (h : n < 8000000) : rngOf [.int n] = some ((rI 0 n).map PV.int) := by
  have e : rngOf [.int n] = if -8000000 < n && n < 8000000 then some (rngL 0 1 n.toNat) else none := rfl
  rw [e, if_pos (by simp; omega)]
  simp [rngL, rI]
theorem rng2 {a b : Int} (h0 : -8000000 < a) (h1 : a < 8000000) (h2 : -8000000 < b) (h3 : b < 8000000) : rngOf [.int a, .int b] = some ((rI a b).map PV.int) := by
  have e : rngOf [.int a, .int b] = if -8000000 < a && a < 8000000 && -8000000 < b && b < 8000000 then some (rngL a 1 (b - a).toNat) else none := rfl
  rw [e, if_pos (by simp; omega)]
  simp [rngL, rI]
theorem atI_map {α : Type} (e : α → PV) {l : List α} {i : Int} {x : α} (h0 : 0 ≤ i) (h : l[i.toNat]? = some x) : atI (l.map e) i = some (e x) := by
  unfold atI
  rw [if_pos h0, List.getElem?_map, h]; rfl
theorem atI_pos {α : Type} {xs : List α} {i : Int} {x : α} (h0 : 0 ≤ i) (h : xs[i.toNat]? = some x) : atI xs i = some x := by
  unfold atI; rw [if_pos h0, h]
theorem atI_last {α : Type} {xs : List α} {x : α} : atI (xs ++ [x]) (-1) = some x := by
  unfold atI
  rw [if_neg (by decide), if_pos (by simp; omega)]
  have : ((-1 : Int) + ((xs ++ [x]).length : Nat)).toNat = xs.length := by simp; omega
  rw [this]
  simp
/-- a draw -/
theorem r_drw {P : Prog} {k f n : Nat} {S : Store} {d : Dst} {m : Int} (hf : P.fns f = some takenD) (hS : S[n]? = some (cellD d)) (h0 : 0 < m) (h1 : m < 1073741824) : ∃ (v : Int) (d' : Dst), run P (k + 1) f [.loc n, .int m] S = .ok (.int v) false (S.set n (cellD d')) ∧ 0 ≤ v ∧ v < m :=
  ⟨(draw d m).1, (draw d m).2, r_taken hf hS h0 h1, draw_nonneg h0, draw_lt h0⟩
/-- draws, each as the first of the store -/
theorem r_dr {P : Prog} {k f : Nat} (d : Dst) (m : Int) (hf : P.fns f = some takenD) (h0 : 0 < m) (h1 : m < 1073741824) : ∃ (v : Int) (d' : Dst), run P (k + 1) f [.loc 0, .int m] [cellD d] = .ok (.int v) false [cellD d'] ∧ 0 ≤ v ∧ v < m :=
  ⟨(draw d m).1, (draw d m).2, r_taken hf rfl h0 h1, draw_nonneg h0, draw_lt h0⟩
def pickD (f : Nat) : FnDef := ⟨2, 2, none, [
    .ret (.op .idx [(.var 1), (.call f [(.var 0), (.op .len [(.var 1)])])])]⟩
theorem r_pick {P : Prog} {k f g : Nat} (d : Dst) (xs : List PV) (hf : P.fns f = some takenD) (hg : P.fns g = some (pickD f)) (h0 : 0 < xs.length) (h1 : xs.length < 1073741824) : ∃ (i : Nat) (v : PV) (d' : Dst), run P (k + 2) g [.loc 0, .lst xs] [cellD d] = .ok v false [cellD d'] ∧ xs[i]? = some v := by
  obtain ⟨v, d', e, l, u⟩ := r_dr (P := P) (k := k) d ((xs.length : Nat) : Int) hf (by omega) (by omega)
  obtain ⟨x, hx⟩ : ∃ x, xs[v.toNat]? = some x := ⟨_, List.getElem?_eq_getElem (by omega)⟩
  refine ⟨v.toNat, x, d', fpo_eq (run_po hg rfl rfl ?_), hx⟩
  have ha := atI_pos l hx
  array_get_dec
  refine Call.ok e ?_
  array_get_dec
def mixedD (f : Nat) : FnDef := ⟨2, 2, none, [
    .ife (.op .eq [(.call f [(.var 0), (.k (.int 2))]), (.k (.int 0))]) [
      .ret (.op .list [(.var 1)])] [],
    .ret (.op .tuple [(.var 1)])]⟩
theorem r_mixed {P : Prog} {k f g : Nat} (d : Dst) (xs : List PV) (v : PV) (hv : v = .lst xs ∨ v = .tup xs) (hf : P.fns f = some takenD) (hg : P.fns g = some (mixedD f)) : ∃ (d' : Dst), run P (k + 2) g [.loc 0, v] [cellD d] = .ok (.lst xs) true [cellD d'] ∨ run P (k + 2) g [.loc 0, v] [cellD d] = .ok (.tup xs) false [cellD d'] := by
  obtain ⟨t, d', e, l, u⟩ := r_dr (P := P) (k := k) d 2 hf (by omega) (by omega)
  refine ⟨d', ?_⟩
  by_cases h : t = 0
  · left
    subst h
    rcases hv with rfl | rfl <;>
    · refine fpo_eq (run_po hg rfl rfl ?_)
      array_get_dec
      refine Call.ok e ?_
      array_get_dec
  · right
    rcases hv with rfl | rfl <;>
    · refine fpo_eq (run_po hg rfl rfl ?_)
      array_get_dec
      refine Call.ok e ?_
      have hb : (t == 0) = false := by simpa using h
      array_get_dec
theorem sum1_ints {l : List Int} : op1 .sum1 (.lst (l.map .int)) = .sh (.int l.sum) := by
  have h1 : (l.map PV.int).all isI = true := by rw [List.all_eq_true]; intro x hx; obtain ⟨i, _, rfl⟩ := List.mem_map.mp hx; rfl
  have h2 : ∀ l : List Int, sumI (l.map .int) = some l.sum := fun l => by
    induction l with
    | nil => rfl
    | cons n l ih => show (sumI (l.map .int)).map (n + ·) = _; rw [ih]; simp
  show (if (l.map PV.int).all isI then (match sumI (l.map PV.int) with | some i => oInt i | none => .bad 38) else .bad 38) = _
  rw [if_pos h1, h2]; rfl
end Ci
namespace Lk24
open PySem Ci
/-- 0 is_whole: value 0 -/
def f_is_whole : FnDef := ⟨1, 1, none, [
    .ret (.andE (.op (.isi [0] []) [(.var 0)]) (.notE (.op (.isi [1] []) [(.var 0)])))]⟩
/-- 1 is_number: value 0 least 1 most 2 -/
def f_is_number : FnDef := ⟨3, 3, none, [
    .ret (.andE (.call 0 [(.var 0)]) (.chain .le .le (.var 1) (.var 0) (.var 2)))]⟩
/-- 2 is_row: value 0 -/
def f_is_row : FnDef := ⟨1, 1, none, [
    .ret (.op (.isi [3, 4] []) [(.var 0)])]⟩
/-- 3 frozen: value 0 part 1 -/
def f_frozen : FnDef := ⟨1, 2, none, [
    .ife (.op (.isi [3, 4] []) [(.var 0)]) [
      .ret (.op .tuple [(.comp [1] [] (.nm 1) (.ex (.var 0)) none (.call 3 [(.var 1)]))])] [],
    .ret (.var 0)]⟩
/-- 4 want_number: value 0 least 1 most 2 -/
def f_want_number : FnDef := ⟨3, 3, none, [
    .ife (.notE (.call 1 [(.var 0), (.var 1), (.var 2)])) [
      .rse 1 [(.var 0)]] [],
    .ret (.var 0)]⟩
/-- 5 want_row: value 0 is_item 1 most 2 index 3 item 4 -/
def f_want_row : FnDef := ⟨3, 5, none, [
    .ife (.notE (.call 2 [(.var 0)])) [
      .rse 2 [(.k .non)]] [],
    .for_ [3, 4] (.tup [(.nm 3), (.nm 4)]) (.enm (.var 0)) [
      .ife (.notE (.callv 1 [(.var 4)])) [
        .rse 2 [(.var 3)]] []],
    .ife (.op .gt [(.op .len [(.var 0)]), (.var 2)]) [
      .rse 3 [(.var 2)]] [],
    .ret (.call 3 [(.var 0)])]⟩
/-- 6 reduced: top 0 bottom 1 one 2 other 3 -/
def f_reduced : FnDef := ⟨2, 4, none, [
    .par [2, 3] [(.op .abs [(.var 0)]), (.var 1)],
    .whl [] (.op .gt [(.var 3), (.k (.int 0))]) [
      .par [2, 3] [(.var 3), (.op .mod [(.var 2), (.var 3)])]],
    .ret (.ife (.op .gt [(.var 2), (.k (.int 0))]) (.tupE [(.op .fdiv [(.var 0), (.var 2)]), (.op .fdiv [(.var 1), (.var 2)])]) (.tupE [(.k (.int 0)), (.k (.int 1))]))]⟩
/-- 7 is_less: one 0 other 1 -/
def f_is_less : FnDef := ⟨2, 2, none, [
    .ret (.op .lt [(.op .mul [(.op .idx [(.var 0), (.k (.int 0))]), (.op .idx [(.var 1), (.k (.int 1))])]), (.op .mul [(.op .idx [(.var 1), (.k (.int 0))]), (.op .idx [(.var 0), (.k (.int 1))])])])]⟩
/-- 8 is_cost: value 0 -/
def f_is_cost : FnDef := ⟨1, 1, none, [
    .ret (.andE (.call 2 [(.var 0)]) (.andE (.op .eq [(.op .len [(.var 0)]), (.k (.int 2))]) (.andE (.call 1 [(.op .idx [(.var 0), (.k (.int 0))]), (.k (.int 0)), (.k (.int 9999))]) (.call 1 [(.op .idx [(.var 0), (.k (.int 1))]), (.k (.int 0)), (.k (.int 9999))]))))]⟩
/-- 9 Tool.__init__: self 0 price 1 years 2 -/
def f_Tool_init : FnDef := ⟨3, 3, none, [
    .setFs 0 0 (.call 4 [(.var 1), (.k (.int 1)), (.k (.int 9999))]),
    .setFs 0 1 (.call 5 [(.var 2), (.fnv 8), (.glb 0)]),
    .ife (.op .eq [(.op .len [(.op (.fld 1) [(.var 0)])]), (.k (.int 0))]) [
      .rse 2 [(.k .non)]] []]⟩
/-- 10 Tool.__eq__: self 0 other 1 -/
def f_Tool_eq : FnDef := ⟨2, 2, none, [
    .ret (.andE (.op (.isi [] [0]) [(.var 1)]) (.op .eq [(.tupE [(.op (.fld 0) [(.var 0)]), (.op (.fld 1) [(.var 0)])]), (.tupE [(.op (.fld 0) [(.var 1)]), (.op (.fld 1) [(.var 1)])])]))]⟩
/-- 11 Tool.kept: self 0 age 1 upkeep 2 price 3 -/
def f_Tool_kept : FnDef := ⟨2, 4, none, [
    .ret (.op .sub [(.op .add [(.op (.fld 0) [(.var 0)]), (.op .sum1 [(.comp [2, 3] [] (.tup [(.nm 2), (.nm 3)]) (.ex (.op (.slc false true false) [(.op (.fld 1) [(.var 0)]), (.var 1)])) none (.var 2))])]), (.op .idx [(.op .idx [(.op (.fld 1) [(.var 0)]), (.op .sub [(.var 1), (.k (.int 1))])]), (.k (.int 1))])])]⟩
/-- 12 Tool.yearly: self 0 age 1 -/
def f_Tool_yearly : FnDef := ⟨2, 2, none, [
    .ret (.call 6 [(.meth 2 (.var 0) [(.var 1)]), (.var 1)])]⟩
/-- 13 Tool.best_age: self 0 best 1 age 2 -/
def f_Tool_best_age : FnDef := ⟨1, 3, none, [
    .asg 1 (.k (.int 1)),
    .for_ [2] (.nm 2) (.rng [(.k (.int 2)), (.op .add [(.op .len [(.op (.fld 1) [(.var 0)])]), (.k (.int 1))])]) [
      .ife (.call 7 [(.meth 3 (.var 0) [(.var 2)]), (.meth 3 (.var 0) [(.var 1)])]) [
        .asg 1 (.var 2)] []],
    .ret (.var 1)]⟩
/-- 14 Tool.plan: self 0 years 1 table 2 left 3 rows 4 age 5 cost 6 ages 7 one 8 -/
def f_Tool_plan : FnDef := ⟨2, 9, none, [
    .asg 2 (.lstE [(.tupE [(.k (.int 0)), (.tupE [])])]),
    .for_ [3, 4, 5, 6, 7] (.nm 3) (.rng [(.k (.int 1)), (.op .add [(.var 1), (.k (.int 1))])]) [
      .asg 4 (.lstE []),
      .for_ [5, 6, 7] (.nm 5) (.rng [(.k (.int 1)), (.op .add [(.op .min2 [(.var 3), (.op .len [(.op (.fld 1) [(.var 0)])])]), (.k (.int 1))])]) [
        .unp (.tup [(.nm 6), (.nm 7)]) (.op .idx [(.var 2), (.op .sub [(.var 3), (.var 5)])]),
        .app 4 (.tupE [(.op .add [(.meth 2 (.var 0) [(.var 5)]), (.var 6)]), (.op .tuple [(.comp [8] [5] (.nm 8) (.ex (.op .add [(.tupE [(.var 5)]), (.var 7)])) none (.op .neg [(.var 8)]))])])],
      .unp (.tup [(.nm 6), (.nm 7)]) (.op .min1 [(.var 4)]),
      .app 2 (.tupE [(.var 6), (.op .tuple [(.comp [8] [] (.nm 8) (.ex (.var 7)) none (.op .neg [(.var 8)]))])])],
    .ret (.op .idx [(.var 2), (.var 1)])]⟩
/-- 15 Tool.costs: self 0 ages 1 age 2 -/
def f_Tool_costs : FnDef := ⟨2, 3, none, [
    .ret (.op .sum1 [(.comp [2] [0] (.nm 2) (.ex (.var 1)) none (.meth 2 (.var 0) [(.var 2)]))])]⟩
/-- 16 Tool.worth_mending: self 0 age 1 repair 2 more 3 last 4 rows 5 cost 6 year 7 upkeep 8 price 9 -/
def f_Tool_worth_mending : FnDef := ⟨4, 10, none, [
    .asg 4 (.op .idx [(.op (.fld 1) [(.var 0)]), (.op .neg [(.k (.int 1))])]),
    .asg 5 (.comp [7] [4] (.nm 7) (.rng [(.var 1), (.op .add [(.var 1), (.var 3)])]) none (.ife (.op .lt [(.var 7), (.op .len [(.op (.fld 1) [(.var 0)])])]) (.op .idx [(.op (.fld 1) [(.var 0)]), (.var 7)]) (.var 4))),
    .asg 6 (.op .sub [(.op .add [(.op .add [(.var 2), (.op .sum1 [(.comp [8, 9] [] (.tup [(.nm 8), (.nm 9)]) (.ex (.var 5)) none (.var 8))])]), (.meth 4 (.var 0) [(.var 1)])]), (.op .idx [(.op .idx [(.var 5), (.op .neg [(.k (.int 1))])]), (.k (.int 1))])]),
    .ret (.notE (.call 7 [(.meth 3 (.var 0) [(.meth 5 (.var 0) [])]), (.call 6 [(.var 6), (.var 3)])]))]⟩
/-- 17 Tool.worth: self 0 age 1 -/
def f_Tool_worth : FnDef := ⟨2, 2, none, [
    .ret (.ife (.op .eq [(.var 1), (.k (.int 0))]) (.op (.fld 0) [(.var 0)]) (.op .idx [(.op .idx [(.op (.fld 1) [(.var 0)]), (.op .sub [(.op .min2 [(.var 1), (.op .len [(.op (.fld 1) [(.var 0)])])]), (.k (.int 1))])]), (.k (.int 1))]))]⟩
/-- 18 Tool.break_even: self 0 other 1 years 2 more 3 -/
def f_Tool_break_even : FnDef := ⟨2, 4, none, [
    .for_ [2] (.nm 2) (.rng [(.op .add [(.glb 0), (.k (.int 1))])]) [
      .ife (.op .all [(.comp [3] [0, 1] (.nm 3) (.rng [(.var 2), (.op .add [(.glb 0), (.k (.int 1))])]) none (.op .le [(.op .idx [(.meth 6 (.var 1) [(.var 3)]), (.k (.int 0))]), (.op .idx [(.meth 6 (.var 0) [(.var 3)]), (.k (.int 0))])]))]) [
        .ret (.var 2)] []],
    .ret (.k .non)]⟩
/-- 19 Tool.with_price: self 0 price 1 -/
def f_Tool_with_price : FnDef := ⟨2, 2, none, [
    .ret (.mk 0 [(.var 1), (.op (.fld 1) [(.var 0)])])]⟩
/-- 20 is_age: value 0 -/
def f_is_age : FnDef := ⟨1, 1, none, [
    .ret (.call 1 [(.var 0), (.k (.int 1)), (.glb 0)])]⟩
/-- 21 _law_taken: row 0 many 1 found 2 cell 3 -/
def f__law_taken : FnDef := ⟨2, 4, none, [
    .ife (.op .gt [(.op .idx [(.var 0), (.k (.int 3))]), (.k (.int 0))]) [
      .asg 2 (.op .mod [(.op .int [(.op .idx [(.var 0), (.k (.int 3))])]), (.var 1)]),
      .setIs 0 (.k (.int 3)) (.op .fdiv [(.op .idx [(.var 0), (.k (.int 3))]), (.var 1)]),
      .ret (.var 2)] [],
    .setIs 0 (.k (.int 1)) (.op .add [(.op .idx [(.var 0), (.k (.int 1))]), (.k (.int 1))]),
    .ife (.op .gt [(.op .idx [(.var 0), (.k (.int 1))]), (.op .len [(.op .idx [(.var 0), (.k (.int 0))])])]) [
      .setIs 0 (.k (.int 2)) (.op .mod [(.op .int [(.op .add [(.op .mul [(.op .idx [(.var 0), (.k (.int 2))]), (.k (.int 48271))]), (.k (.int 11))])]), (.k (.int 2147483647))]),
      .ret (.op .mod [(.op .int [(.op .fdiv [(.op .idx [(.var 0), (.k (.int 2))]), (.k (.int 7))])]), (.var 1)])] [],
    .asg 3 (.op .idx [(.op .idx [(.var 0), (.k (.int 0))]), (.op .sub [(.op .idx [(.var 0), (.k (.int 1))]), (.k (.int 1))])]),
    .setIs 0 (.k (.int 2)) (.op .mod [(.op .int [(.op .add [(.op .add [(.op .mul [(.op .idx [(.var 0), (.k (.int 2))]), (.k (.int 48271))]), (.var 3)]), (.k (.int 11))])]), (.k (.int 2147483647))]),
    .ife (.op .ge [(.var 3), (.op .pow [(.k (.int 10)), (.k (.int 18))])]) [
      .setIs 0 (.k (.int 3)) (.op .fdiv [(.var 3), (.var 1)])] [],
    .ret (.op .mod [(.op .int [(.var 3)]), (.var 1)])]⟩
/-- 22 _law_pick: row 0 kinds 1 -/
def f__law_pick : FnDef := ⟨2, 2, none, [
    .ret (.op .idx [(.var 1), (.call 21 [(.var 0), (.op .len [(.var 1)])])])]⟩
/-- 23 _law_alike: found 0 due 1 k 2 -/
def f__law_alike : FnDef := ⟨2, 3, none, [
    .ife (.op (.isi [4, 3] []) [(.var 1)]) [
      .ife (.orE (.notE (.op (.isi [4, 3] []) [(.var 0)])) (.op .ne [(.op (.isi [3] []) [(.var 0)]), (.op (.isi [3] []) [(.var 1)])])) [
        .ret (.k (.bl false))] [],
      .ife (.op .ne [(.op .len [(.var 0)]), (.op .len [(.var 1)])]) [
        .ret (.k (.bl false))] [],
      .ret (.op .eq [(.comp [2] [] (.nm 2) (.rng [(.op .len [(.var 1)])]) (some (.notE (.call 23 [(.op .idx [(.var 0), (.var 2)]), (.op .idx [(.var 1), (.var 2)])]))) (.var 2)), (.lstE [])])] [],
    .ife (.orE (.op .isN [(.var 1)]) (.op (.isi [2] []) [(.var 1)])) [
      .ret (.andE (.op .eq [(.var 0), (.var 1)]) (.op .eq [(.op (.isi [2] []) [(.var 0)]), (.op (.isi [2] []) [(.var 1)])]))] [],
    .ret (.andE (.op (.isi [0] []) [(.var 0)]) (.andE (.op .eq [(.op (.isi [1] []) [(.var 0)]), (.op (.isi [1] []) [(.var 1)])]) (.op .eq [(.var 0), (.var 1)])))]⟩
/-- 24 _law_mixed: row 0 value 1 -/
def f__law_mixed : FnDef := ⟨2, 2, none, [
    .ife (.op .eq [(.call 21 [(.var 0), (.k (.int 2))]), (.k (.int 0))]) [
      .ret (.op .list [(.var 1)])] [],
    .ret (.op .tuple [(.var 1)])]⟩
/-- 25 _law_truth: found 0 due 1 -/
def f__law_truth : FnDef := ⟨2, 2, none, [
    .ret (.andE (.op (.isi [1] []) [(.var 0)]) (.op .eq [(.var 0), (.var 1)]))]⟩
/-- 26 _law_low3: top 0 bottom 1 one 2 other 3 -/
def f__law_low3 : FnDef := ⟨2, 4, none, [
    .par [2, 3] [(.var 0), (.var 1)],
    .whl [] (.op .ne [(.op .mod [(.var 2), (.var 3)]), (.k (.int 0))]) [
      .par [2, 3] [(.var 3), (.op .mod [(.var 2), (.var 3)])]],
    .ret (.tupE [(.op .fdiv [(.var 0), (.var 3)]), (.op .fdiv [(.var 1), (.var 3)])])]⟩
/-- 27 _law_kept: price 0 years 1 age 2 one 3 -/
def f__law_kept : FnDef := ⟨3, 4, none, [
    .ret (.op .sub [(.op .add [(.var 0), (.op .sum1 [(.comp [3] [] (.nm 3) (.ex (.op (.slc false true false) [(.var 1), (.var 2)])) none (.op .idx [(.var 3), (.k (.int 0))]))])]), (.op .idx [(.op .idx [(.var 1), (.op .sub [(.var 2), (.k (.int 1))])]), (.k (.int 1))])])]⟩
/-- 28 _law_ways: years 0 most 1 found 2 age 3 rest 4 -/
def f__law_ways : FnDef := ⟨2, 5, none, [
    .ife (.op .eq [(.var 0), (.k (.int 0))]) [
      .ret (.lstE [(.tupE [])])] [],
    .asg 2 (.lstE []),
    .for_ [3] (.nm 3) (.rng [(.k (.int 1)), (.op .add [(.op .min2 [(.var 0), (.var 1)]), (.k (.int 1))])]) [
      .asg 2 (.op .add [(.comp [4] [1, 3] (.nm 4) (.ex (.call 28 [(.op .sub [(.var 0), (.var 3)]), (.var 1)])) none (.op .add [(.tupE [(.var 3)]), (.var 4)])), (.var 2)])],
    .ret (.var 2)]⟩
/-- 29 _law_tool: row 0 price 1 left 2 years 3 k 4 -/
def f__law_tool : FnDef := ⟨1, 5, none, [
    .par [1, 2] [(.op .add [(.k (.int 1)), (.call 21 [(.var 0), (.k (.int 60))])]), (.call 21 [(.var 0), (.k (.int 60))])],
    .asg 3 (.lstE []),
    .for_ [4] (.nm 4) (.rng [(.op .add [(.k (.int 1)), (.call 21 [(.var 0), (.k (.int 4))])])]) [
      .app 3 (.tupE [(.call 21 [(.var 0), (.k (.int 30))]), (.var 2)]),
      .asg 2 (.op .max2 [(.k (.int 0)), (.op .sub [(.var 2), (.call 21 [(.var 0), (.k (.int 20))])])])],
    .ret (.tupE [(.var 1), (.op .tuple [(.var 3)])])]⟩
/-- 30 law: script 0 row 1 price 2 years 3 made 4 costs 5 best 6 k 7 cost 8 many 9 ways 10 ages 11 worths 12 age 13 repair 14 more 15 late 16 told 17 other 18 never 19 bad 20 number 21 turn 22 e 23 one 24 year 25 -/
def f_law : FnDef := ⟨1, 26, none, [
    .asg 1 (.nloc (.lstE [(.var 0), (.k (.int 0)), (.k (.int 79)), (.k (.int 0))])),
    .unp (.tup [(.nm 2), (.nm 3)]) (.call 29 [(.var 1)]),
    .asg 4 (.mk 0 [(.var 2), (.call 24 [(.var 1), (.comp [24] [1] (.nm 24) (.ex (.var 3)) none (.call 24 [(.var 1), (.var 24)]))])]),
    .ife (.orE (.notE (.call 23 [(.tupE [(.op (.fld 0) [(.var 4)]), (.op (.fld 1) [(.var 4)])]), (.tupE [(.var 2), (.var 3)])])) (.orE (.eqm true [(.var 4), (.mk 0 [(.var 2), (.var 3)])]) (.orE (.eqm false [(.var 4), (.var 3)]) (.eqm true [(.meth 7 (.var 4) [(.op .add [(.var 2), (.k (.int 1))])]), (.mk 0 [(.op .add [(.var 2), (.k (.int 1))]), (.var 3)])])))) [
      .ret (.k (.bl false))] [],
    .asg 5 (.comp [13] [2, 3] (.nm 13) (.rng [(.k (.int 1)), (.op .add [(.op .len [(.var 3)]), (.k (.int 1))])]) none (.call 27 [(.var 2), (.var 3), (.var 13)])),
    .asg 6 (.k (.int 1)),
    .for_ [7, 8] (.tup [(.nm 7), (.nm 8)]) (.enm (.var 5)) [
      .ife (.notE (.call 23 [(.tupE [(.meth 2 (.var 4) [(.op .add [(.var 7), (.k (.int 1))])]), (.meth 3 (.var 4) [(.op .add [(.var 7), (.k (.int 1))])])]), (.tupE [(.var 8), (.call 26 [(.var 8), (.op .add [(.var 7), (.k (.int 1))])])])])) [
        .ret (.k (.bl false))] [],
      .ife (.op .lt [(.op .mul [(.var 8), (.var 6)]), (.op .mul [(.op .idx [(.var 5), (.op .sub [(.var 6), (.k (.int 1))])]), (.op .add [(.var 7), (.k (.int 1))])])]) [
        .asg 6 (.op .add [(.var 7), (.k (.int 1))])] []],
    .ife (.notE (.call 23 [(.meth 5 (.var 4) []), (.var 6)])) [
      .ret (.k (.bl false))] [],
    .for_ [8, 9, 10, 11] (.nm 9) (.rng [(.k (.int 7))]) [
      .asg 10 (.comp [24] [9] (.nm 24) (.ex (.call 28 [(.var 9), (.op .len [(.var 3)])])) none (.tupE [(.op .sum1 [(.comp [13] [] (.nm 13) (.ex (.var 24)) none (.op .idx [(.var 5), (.op .sub [(.var 13), (.k (.int 1))])]))]), (.comp [13] [] (.nm 13) (.ex (.var 24)) none (.op .neg [(.var 13)]))])),
      .unp (.tup [(.nm 8), (.nm 11)]) (.op .min1 [(.var 10)]),
      .ife (.orE (.notE (.call 23 [(.meth 6 (.var 4) [(.var 9)]), (.tupE [(.var 8), (.op .tuple [(.comp [13] [] (.nm 13) (.ex (.var 11)) none (.op .neg [(.var 13)]))])])])) (.op .ne [(.meth 8 (.var 4) [(.op .idx [(.meth 6 (.var 4) [(.var 9)]), (.k (.int 1))])]), (.var 8)])) [
        .ret (.k (.bl false))] []],
    .asg 12 (.op .add [(.op .add [(.lstE [(.var 2)]), (.comp [24] [] (.nm 24) (.ex (.var 3)) none (.op .idx [(.var 24), (.k (.int 1))]))]), (.op .rep [(.lstE [(.op .idx [(.op .idx [(.var 3), (.op .neg [(.k (.int 1))])]), (.k (.int 1))])]), (.k (.int 20))])]),
    .for_ [13] (.nm 13) (.rng [(.k (.int 8))]) [
      .ife (.notE (.call 23 [(.meth 4 (.var 4) [(.var 13)]), (.op .idx [(.var 12), (.var 13)])])) [
        .ret (.k (.bl false))] []],
    .par [13, 14, 15] [(.call 21 [(.var 1), (.k (.int 6))]), (.call 21 [(.var 1), (.k (.int 60))]), (.op .add [(.k (.int 1)), (.call 21 [(.var 1), (.k (.int 4))])])],
    .asg 16 (.comp [25] [] (.nm 25) (.rng [(.var 13), (.op .add [(.var 13), (.var 15)])]) none (.op .idx [(.op .add [(.var 3), (.op .rep [(.tupE [(.op .idx [(.var 3), (.op .neg [(.k (.int 1))])])]), (.k (.int 20))])]), (.var 25)])),
    .asg 8 (.op .sub [(.op .add [(.op .add [(.var 14), (.op .sum1 [(.comp [24] [] (.nm 24) (.ex (.var 16)) none (.op .idx [(.var 24), (.k (.int 0))]))])]), (.op .idx [(.var 12), (.var 13)])]), (.op .idx [(.op .idx [(.var 16), (.op .neg [(.k (.int 1))])]), (.k (.int 1))])]),
    .ife (.notE (.call 25 [(.meth 9 (.var 4) [(.var 13), (.var 14), (.var 15)]), (.op .le [(.op .mul [(.var 8), (.var 6)]), (.op .mul [(.op .idx [(.var 5), (.op .sub [(.var 6), (.k (.int 1))])]), (.var 15)])])])) [
      .ret (.k (.bl false))] [],
    .asg 17 (.call 29 [(.var 1)]),
    .asg 18 (.mk 0 [(.op .idx [(.var 17), (.k (.int 0))]), (.op .idx [(.var 17), (.k (.int 1))])]),
    .asg 19 (.comp [3] [4, 18] (.nm 3) (.rng [(.k (.int 13))]) (some (.op .eq [(.comp [15] [] (.nm 15) (.rng [(.var 3), (.k (.int 13))]) (some (.op .gt [(.op .idx [(.meth 6 (.var 18) [(.var 15)]), (.k (.int 0))]), (.op .idx [(.meth 6 (.var 4) [(.var 15)]), (.k (.int 0))])])) (.var 15)), (.lstE [])])) (.var 3)),
    .ife (.orE (.op .ne [(.meth 10 (.var 4) [(.var 18)]), (.op .idx [(.op .add [(.var 19), (.lstE [(.k .non)])]), (.k (.int 0))])]) (.op .ne [(.meth 10 (.var 4) [(.var 4)]), (.k (.int 0))])) [
      .ret (.k (.bl false))] [],
    .par [20, 21] [(.call 22 [(.var 1), (.lstE [(.tupE [(.op .neg [(.k (.int 1))]), (.k (.int 1))]), (.tupE [(.k (.int 1)), (.k (.int 10000))]), (.tupE [(.k (.int 1))]), (.k .non), (.tupE [(.k (.bl true)), (.k (.int 1))]), (.tupE [(.k (.int 1)), (.op .neg [(.k (.int 1))])])])]), (.call 22 [(.var 1), (.lstE [(.k (.int 0)), (.k (.int 10000)), (.k (.bl true)), (.k .non)])])],
    .for_ [22] (.nm 22) (.rng [(.k (.int 5))]) [
      .try_ [
        .ife (.op .eq [(.var 22), (.k (.int 0))]) [
          .exp (.mk 0 [(.var 21), (.k .non)])] [
          .ife (.op .eq [(.var 22), (.k (.int 1))]) [
            .exp (.mk 0 [(.k (.int 1)), (.op .add [(.var 3), (.tupE [(.var 20)])])])] [
            .ife (.op .eq [(.var 22), (.k (.int 2))]) [
              .exp (.mk 0 [(.k (.int 1)), (.tupE [])])] [
              .ife (.op .eq [(.var 22), (.k (.int 3))]) [
                .exp (.mk 0 [(.k (.int 1)), (.k .non)])] [
                .exp (.mk 0 [(.k (.int 1)), (.op .rep [(.lstE [(.tupE [(.k (.int 1)), (.k (.int 1))])]), (.k (.int 13))])])]]]],
        .ret (.k (.bl false))] [([1], (some 23), [
        .ife (.orE (.op .ne [(.var 22), (.k (.int 0))]) (.op .ne [(.op .repr [(.exf 23 11)]), (.op .repr [(.var 21)])])) [
          .ret (.k (.bl false))] []]), ([2], (some 23), [
        .ife (.orE (.op .nin [(.var 22), (.tupE [(.k (.int 1)), (.k (.int 2)), (.k (.int 3))])]) (.op .ne [(.exf 23 12), (.op .idx [(.lstE [(.k (.int 0)), (.op .len [(.var 3)]), (.k .non), (.k .non)]), (.var 22)])])) [
          .ret (.k (.bl false))] []]), ([3], (some 23), [
        .ife (.orE (.op .ne [(.var 22), (.k (.int 4))]) (.op .ne [(.exf 23 13), (.k (.int 12))])) [
          .ret (.k (.bl false))] []])]],
    .ret (.andE (.call 20 [(.k (.int 12))]) (.notE (.call 20 [(.k (.int 0))])))]⟩
def fns : List FnDef := [f_is_whole, f_is_number, f_is_row, f_frozen, f_want_number, f_want_row, f_reduced, f_is_less, f_is_cost, f_Tool_init, f_Tool_eq, f_Tool_kept, f_Tool_yearly, f_Tool_best_age, f_Tool_plan, f_Tool_costs, f_Tool_worth_mending, f_Tool_worth, f_Tool_break_even, f_Tool_with_price, f_is_age, f__law_taken, f__law_pick, f__law_alike, f__law_mixed, f__law_truth, f__law_low3, f__law_kept, f__law_ways, f__law_tool, f_law]
def globs : List PV := [(.int 12)]
/-- classes: Tool 0; names: price 0 years 1 kept 2 yearly 3 worth 4 best_age 5 plan 6 with_price 7 costs 8 worth_mending 9 break_even 10 value 11 index 12 limit 13; errors: LendError 0 BadNumber 1 BadItem 2 TooMany 3; globals: MOST_YEARS 0 -/
def mutL : List Bool := [false]
def initL : List (Option Nat) := [some 9]
def eqL : List (Option Nat) := [some 10]
def lenL : List (Option Nat) := [none]
def mthL : List (List (Nat × Nat)) := [[(2, 11), (3, 12), (5, 13), (6, 14), (8, 15), (9, 16), (4, 17), (10, 18), (7, 19)]]
def cfL : List (List Nat) := [[0, 1]]
def xfL : List (List Nat) := [[], [11], [12], [13]]
def xsL : List (List Bool) := [[true, false, false, false], [true, true, false, false], [true, false, true, false], [true, false, false, true]]
def prog : Prog := { fns := fun i => fns[i]?, glob := fun i => globs[i]?, mutc := fun c => mutL.getD c false, init := fun c => initL.getD c none, mth := fun c m => (mthL.getD c []).lookup m, eqm := fun c => eqL.getD c none, lenm := fun c => lenL.getD c none, xf := fun c => xfL.getD c [], xsub := fun a b => (xsL.getD a []).getD b false, cf := fun c => cfL.getD c [], fv := fun f => decide (f < 31) }
def lawId : Nat := 30
end Lk24
namespace Lk24
open PySem Ci
local macro_rules | `(tactic| array_mem_dec) => `(tactic| first | rfl | with_reducible assumption | ((with_reducible apply decide_eq_true); first | with_reducible assumption | omega) | ((with_reducible apply decide_eq_false); first | with_reducible assumption | omega) | (with_reducible exact beq_self_eq_true _) | (rw [beq_self_eq_true]; rfl) | ((with_reducible apply beq_iff_eq.mpr); omega) | ((with_reducible apply mulR) <;> omega) | ((with_reducible apply mulL) <;> omega) | omega)
local macro_rules | `(tactic| infer_instance) => `(tactic| first | ((with_reducible apply Get.mk'); (first | with_reducible assumption | with_unfolding_all rfl | exact List.getElem?_set_self (by first | assumption | (simp only [List.length_set]; assumption)))) | ((with_reducible refine If.tt ?_ ?_); array_mem_dec) | ((with_reducible refine If.ff ?_ ?_); array_mem_dec) | ((with_reducible apply Opr.sh); with_unfolding_all rfl) | ((with_reducible apply Opr.fr); with_unfolding_all rfl) | ((with_reducible refine And.intro ?_ ?_); array_mem_dec) | (with_reducible exact Res.mk (by with_unfolding_all rfl) (by with_unfolding_all rfl) (trunc_same (by with_unfolding_all rfl))) | (with_reducible exact ResX.mk (by with_unfolding_all rfl) (by with_unfolding_all rfl) (trunc_same (by with_unfolding_all rfl))))
local macro_rules | `(tactic| array_get_dec) => `(tactic| ((conv => whnf); repeat (infer_instance; try (conv => whnf))))
def yv (y : Int × Int) : PV := .tup [.int y.1, .int y.2]
def yl (y : Int × Int) : PV := .lst [.int y.1, .int y.2]
def pY (ys : List (Int × Int)) : PV := .tup (ys.map yv)
def tl (p : Int) (ys : List (Int × Int)) : PV := .obj 0 [(0, .int p), (1, pY ys)]
theorem r_whole_int {k : Nat} {S : Store} {i : Int} : run prog (k + 1) 0 [.int i] S = .ok (.bl true) false S := by
  refine fpo_eq (run_po rfl rfl rfl ?_)
  array_get_dec
theorem r_num {k : Nat} {S : Store} {v a b : Int} : run prog (k + 2) 1 [.int v, .int a, .int b] S = .ok (.bl (decide (a ≤ v) && decide (v ≤ b))) false S := by
  refine fpo_eq (run_po rfl rfl rfl ?_)
  array_get_dec
  refine Call.ok r_whole_int ?_
  array_get_dec
  refine ⟨fun h => ?_, fun h => ?_⟩
  · array_get_dec
    refine ⟨?_, rfl, trunc_same rfl⟩
    rw [h]; rfl
  · array_get_dec
    refine ⟨?_, rfl, trunc_same rfl⟩
    rw [h]; rfl
theorem r_row_tup {k : Nat} {S : Store} {xs : List PV} : run prog (k + 1) 2 [.tup xs] S = .ok (.bl true) false S := by
  refine fpo_eq (run_po rfl rfl rfl ?_)
  array_get_dec
theorem r_row_lst {k : Nat} {S : Store} {xs : List PV} : run prog (k + 1) 2 [.lst xs] S = .ok (.bl true) false S := by
  refine fpo_eq (run_po rfl rfl rfl ?_)
  array_get_dec
def okC (y : Int × Int) : Prop := 0 ≤ y.1 ∧ y.1 ≤ 9999 ∧ 0 ≤ y.2 ∧ y.2 ≤ 9999
theorem r_cost {k : Nat} {S : Store} {y : Int × Int} (h : okC y) (v : PV) (hv : v = yl y ∨ v = yv y) : run prog (k + 3) 8 [v] S = .ok (.bl true) false S := by
  obtain ⟨h1, h2, h3, h4⟩ := h
  have b1 : (decide (0 ≤ y.1) && decide (y.1 ≤ 9999)) = true := by simp [h1, h2]
  have b2 : (decide (0 ≤ y.2) && decide (y.2 ≤ 9999)) = true := by simp [h3, h4]
  rcases hv with rfl | rfl
  · refine fpo_eq (run_po rfl rfl rfl ?_)
    array_get_dec
    refine Call.ok r_row_lst ?_
    array_get_dec
    refine Call.ok r_num ?_
    rw [b1]
    array_get_dec
    refine Call.ok r_num ?_
    rw [b2]
    array_get_dec
  · refine fpo_eq (run_po rfl rfl rfl ?_)
    array_get_dec
    refine Call.ok r_row_tup ?_
    array_get_dec
    refine Call.ok r_num ?_
    rw [b1]
    array_get_dec
    refine Call.ok r_num ?_
    rw [b2]
    array_get_dec
theorem r_frozen_int {k : Nat} {S : Store} {i : Int} : run prog (k + 1) 3 [.int i] S = .ok (.int i) false S := by
  refine fpo_eq (run_po rfl rfl rfl ?_)
  array_get_dec
theorem r_frozen_pair {k : Nat} {S : Store} {y : Int × Int} (v : PV) (hv : v = yl y ∨ v = yv y) : run prog (k + 2) 3 [v] S = .ok (yv y) false S := by
  rcases hv with rfl | rfl <;>
  · refine fpo_eq (run_po rfl rfl rfl ?_)
    array_get_dec
    refine Cmp.mk ?_
    array_get_dec
    refine Call.ok r_frozen_int ?_
    array_get_dec
    refine Call.ok r_frozen_int ?_
    array_get_dec
/-- years, each as a list or a tuple -/
abbrev Yr := Int × Int
def mx (m : Yr × Bool) : PV := match m.2 with
  | true => yl m.1
  | false => yv m.1
theorem mx_or (m : Yr × Bool) : mx m = yl m.1 ∨ mx m = yv m.1 := by obtain ⟨y, b⟩ := m; cases b <;> simp [mx]
theorem mx_yv (ys : List Yr) : (ys.map fun y => (y, false)).map mx = ys.map yv := by rw [List.map_map]; rfl
theorem r_frozen {k : Nat} {S : Store} {ms : List (Yr × Bool)} {v : PV} (hv : v = .lst (ms.map mx) ∨ v = .tup (ms.map mx)) : run prog (k + 3) 3 [v] S = .ok (pY (ms.map (·.1))) false S := by
  rcases hv with rfl | rfl <;>
  · refine fpo_eq (run_po rfl rfl rfl ?_)
    array_get_dec
    refine Cmp.encM mx (·.1) yv (fun m hm k' hk => ?_) ?_
    · array_get_dec
      refine Call.ok (r_frozen_pair _ (mx_or m)) ?_
      exact hk
    · array_get_dec
theorem r_wantnum {k : Nat} {S : Store} {v a b : Int} (h : a ≤ v ∧ v ≤ b) : run prog (k + 3) 4 [.int v, .int a, .int b] S = .ok (.int v) false S := by
  refine fpo_eq (run_po rfl rfl rfl ?_)
  array_get_dec
  refine Call.ok r_num ?_
  rw [show (decide (a ≤ v) && decide (v ≤ b)) = true by simp [h]]
  array_get_dec
theorem r_wantrow {k : Nat} {S : Store} {ms : List (Yr × Bool)} {v : PV} (hv : v = .lst (ms.map mx) ∨ v = .tup (ms.map mx)) (hm : ∀ m ∈ ms, okC m.1) (hl : ms.length ≤ 12) : run prog (k + 4) 5 [v, .fn 8, .int 12] S = .ok (pY (ms.map (·.1))) false S := by
  have hen : ∀ (i : Nat) (x : PV), (enumV (ms.map mx))[i]? = some x → ∃ m, m ∈ ms ∧ x = PV.tup [.int (i : Int), mx m] := fun i x e => by
    unfold enumV at e
    rw [List.getElem?_zipWith] at e
    rw [List.getElem?_map] at e
    cases q : ms[i]? with
    | none => rw [q] at e; simp at e
    | some m =>
      have hi : i < ms.length := (List.getElem?_eq_some_iff.mp q).1
      rw [q, List.length_map, List.getElem?_range hi] at e
      simp at e
      exact ⟨m, List.mem_of_getElem? q, e.symm⟩
  have hlen : ((((ms.map mx).length : Nat) : Int)) ≤ 12 := by simp; omega
  have hlen2 : ¬ (12 : Int) < (((ms.map mx).length : Nat) : Int) := by omega
  rcases hv with rfl | rfl
  · refine fpo_eq (run_po rfl rfl rfl ?_)
    array_get_dec
    refine Call.ok r_row_lst ?_
    array_get_dec
    refine For.lst (fun i r S' => ∃ a b, r = [.sh (.lst (ms.map mx)), .sh (.fn 8), .sh (.int 12), a, b] ∧ S' = S) ⟨_, _, rfl, rfl⟩ ?_ ?_
    · rintro i x r S' K hx ⟨a, b, rfl, rfl⟩ hK
      obtain ⟨m, hm1, rfl⟩ := hen i x hx
      array_get_dec
      refine Call.ok (r_cost (hm m hm1) _ (mx_or m)) ?_
      array_get_dec
      exact hK _ _ ⟨_, _, rfl, rfl⟩
    · rintro r S' ⟨a, b, rfl, rfl⟩
      array_get_dec
      refine Call.ok (r_frozen (.inl rfl)) ?_
      array_get_dec
  · refine fpo_eq (run_po rfl rfl rfl ?_)
    array_get_dec
    refine Call.ok r_row_tup ?_
    array_get_dec
    refine For.lst (fun i r S' => ∃ a b, r = [.sh (.tup (ms.map mx)), .sh (.fn 8), .sh (.int 12), a, b] ∧ S' = S) ⟨_, _, rfl, rfl⟩ ?_ ?_
    · rintro i x r S' K hx ⟨a, b, rfl, rfl⟩ hK
      obtain ⟨m, hm1, rfl⟩ := hen i x hx
      array_get_dec
      refine Call.ok (r_cost (hm m hm1) _ (mx_or m)) ?_
      array_get_dec
      exact hK _ _ ⟨_, _, rfl, rfl⟩
    · rintro r S' ⟨a, b, rfl, rfl⟩
      array_get_dec
      refine Call.ok (r_frozen (.inr rfl)) ?_
      array_get_dec
/-- a tool that is made -/
theorem r_init {k : Nat} {c : Cell} {p : Int} {ms : List (Yr × Bool)} {v : PV} (hv : v = .lst (ms.map mx) ∨ v = .tup (ms.map mx)) (hm : ∀ m ∈ ms, okC m.1) (hl : ms.length ≤ 12) (h0 : 1 ≤ p ∧ p ≤ 9999) (hn : ms ≠ []) :
    run prog (k + 5) 9 [.loc 1, .int p, v] [c, .ins 0 []] = .ok .non false [c, .ins 0 [(0, .int p), (1, pY (ms.map (·.1)))]] := by
  have hb : (((((ms.map (·.1)).map yv).length : Nat) : Int) == 0) = false := by
    cases ms with
    | nil => exact absurd rfl hn
    | cons m ms => simp; omega
  refine fpo_eq (run_po rfl rfl rfl ?_)
  array_get_dec
  refine Call.ok (r_wantnum h0) ?_
  array_get_dec
  refine Call.ok (r_wantrow hv hm hl) ?_
  array_get_dec
end Lk24
namespace Lk24
open PySem Ci
local macro_rules | `(tactic| array_mem_dec) => `(tactic| first | rfl | with_reducible assumption | ((with_reducible apply decide_eq_true); first | with_reducible assumption | omega) | ((with_reducible apply decide_eq_false); first | with_reducible assumption | omega) | (with_reducible exact beq_self_eq_true _) | (rw [beq_self_eq_true]; rfl) | ((with_reducible apply beq_iff_eq.mpr); omega) | ((with_reducible apply mulR) <;> omega) | ((with_reducible apply mulL) <;> omega) | omega)
local macro_rules | `(tactic| infer_instance) => `(tactic| first | ((with_reducible apply Get.mk'); (first | with_reducible assumption | with_unfolding_all rfl | exact List.getElem?_set_self (by first | assumption | (simp only [List.length_set]; assumption)))) | ((with_reducible refine If.tt ?_ ?_); array_mem_dec) | ((with_reducible refine If.ff ?_ ?_); array_mem_dec) | ((with_reducible apply Opr.sh); with_unfolding_all rfl) | ((with_reducible apply Opr.fr); with_unfolding_all rfl) | ((with_reducible refine And.intro ?_ ?_); array_mem_dec) | (with_reducible exact Res.mk (by with_unfolding_all rfl) (by with_unfolding_all rfl) (trunc_same (by with_unfolding_all rfl))) | (with_reducible exact ResX.mk (by with_unfolding_all rfl) (by with_unfolding_all rfl) (trunc_same (by with_unfolding_all rfl))))
local macro_rules | `(tactic| array_get_dec) => `(tactic| ((conv => whnf); repeat (infer_instance; try (conv => whnf))))
def keptV (p : Int) (ys : List Yr) (a : Int) : Int := p + ((ys.take a.toNat).map (·.1)).sum - (ys.getD (a.toNat - 1) (0, 0)).2
theorem cut_pre {α : Type} {xs : List α} {a : Int} (h : 0 ≤ a) : cut xs none (some a) = xs.take a.toNat := by
  unfold cut nSl
  simp only [List.drop_zero, Nat.sub_zero]
  rw [if_neg (by omega)]
  by_cases h2 : a.toNat ≤ xs.length
  · rw [Nat.min_eq_left h2]
  · rw [Nat.min_eq_right (by omega), List.take_of_length_le (Nat.le_refl _), List.take_of_length_le (by omega)]
theorem at_yr {ys : List Yr} {a : Int} (h0 : 1 ≤ a) (h1 : a ≤ ys.length) : atI (ys.map yv) (a - 1) = some (yv (ys.getD (a.toNat - 1) (0, 0))) := by
  refine atI_map yv (by omega) ?_
  rw [show (a - 1).toNat = a.toNat - 1 by omega, List.getD_eq_getElem?_getD, List.getElem?_eq_getElem (by omega)]
  rfl
theorem r_kept {k : Nat} {S : Store} {p a : Int} {ys : List Yr} (h0 : 1 ≤ a) (h1 : a ≤ ys.length) : run prog (k + 1) 11 [tl p ys, .int a] S = .ok (.int (keptV p ys a)) false S := by
  have hc : cut (ys.map yv) none (some a) = (ys.take a.toNat).map yv := by rw [cut_pre (by omega), List.map_take]
  have ha := at_yr h0 h1
  refine fpo_eq (run_po rfl rfl rfl ?_)
  array_get_dec
  rw [hc]
  refine Cmp.encM yv (·.1) PV.int (fun m hm k' hk => ?_) ?_
  · array_get_dec
    exact hk
  · array_get_dec
    refine Opr.sh sum1_ints ?_
    array_get_dec
theorem r_lkept {k : Nat} {S : Store} {p a : Int} {ys : List Yr} (h0 : 1 ≤ a) (h1 : a ≤ ys.length) : run prog (k + 1) 27 [.int p, pY ys, .int a] S = .ok (.int (keptV p ys a)) false S := by
  have hc : cut (ys.map yv) none (some a) = (ys.take a.toNat).map yv := by rw [cut_pre (by omega), List.map_take]
  have ha := at_yr h0 h1
  refine fpo_eq (run_po rfl rfl rfl ?_)
  array_get_dec
  rw [hc]
  refine Cmp.encM yv (·.1) PV.int (fun m hm k' hk => ?_) ?_
  · array_get_dec
    exact hk
  · array_get_dec
    refine Opr.sh sum1_ints ?_
    array_get_dec
def redu (t b : Int) : PV := .tup [.int (t / Int.gcd t b), .int (b / Int.gcd t b)]
theorem gcd_step {a b : Int} : Int.gcd b (a % b) = Int.gcd a b := by
  rw [Int.emod_def, Int.gcd_sub_mul_left_right, Int.gcd_comm]
theorem gcd_pos_of {a b : Int} (h : 0 < b) : 0 < Int.gcd a b := Int.gcd_pos_of_ne_zero_right _ (by omega)
theorem gcd_le_of {a b : Int} (h : 0 < b) : (Int.gcd a b : Int) ≤ b := Int.le_of_dvd h (Int.gcd_dvd_right ..)
theorem r_reduced {k : Nat} {S : Store} {t b : Int} (h0 : 0 < b) (h1 : b < 1000000000) : run prog (k + 1) 6 [.int t, .int b] S = .ok (redu t b) false S := by
  refine fpo_eq (run_po rfl rfl rfl ?_)
  array_get_dec
  refine Whl.ind (fun n r S' => ∃ x y : Int, 0 ≤ x ∧ 0 ≤ y ∧ y < n ∧ Int.gcd x y = Int.gcd t b ∧ r = [.sh (.int t), .sh (.int b), .sh (.int x), .sh (.int y)] ∧ S' = S) ?_ ?_ ⟨_, b, ?_, ?_, ?_, ?_, rfl, rfl⟩
  · rintro n r S' ih ⟨x, y, hx, hy, hn, hg, rfl, rfl⟩
    by_cases h : 0 < y
    · array_get_dec
      refine ih _ _ ⟨y, x % y, hy, Int.emod_nonneg _ (by omega), ?_, by rw [gcd_step, hg], rfl, rfl⟩
      have := Int.emod_lt_of_pos x h
      omega
    · obtain rfl : y = 0 := by omega
      have hx2 : x = Int.gcd t b := by rw [← hg, Int.gcd_zero_right]; omega
      have p := gcd_pos_of (a := t) h0
      have q := gcd_le_of (a := t) h0
      have hx3 : 0 < x := by omega
      have hx4 : x < 1073741824 := by omega
      array_get_dec
      exact ⟨by rw [hx2]; rfl, rfl, trunc_same rfl⟩
  · rintro r S' ⟨x, y, hx, hy, hn, _⟩
    omega
  · split <;> omega
  · omega
  · unfold whlMax; omega
  · split
    · rw [Int.neg_gcd]
    · rfl
theorem r_low3 {k : Nat} {S : Store} {t b : Int} (h0 : 0 < b) (h1 : b < 1000000000) : run prog (k + 1) 26 [.int t, .int b] S = .ok (redu t b) false S := by
  refine fpo_eq (run_po rfl rfl rfl ?_)
  array_get_dec
  refine Whl.ind (fun n r S' => ∃ x y : Int, 0 < y ∧ y < n ∧ Int.gcd x y = Int.gcd t b ∧ r = [.sh (.int t), .sh (.int b), .sh (.int x), .sh (.int y)] ∧ S' = S) ?_ ?_ ⟨t, b, ?_, ?_, rfl, rfl, rfl⟩
  · rintro n r S' ih ⟨x, y, hy, hn, hg, rfl, rfl⟩
    have hlt := Int.emod_lt_of_pos x hy
    have hge := Int.emod_nonneg x (b := y) (by omega)
    by_cases h : x % y = 0
    · have hb : (!(x % y == 0)) = false := by simp [h]
      have hx2 : y = Int.gcd t b := by
        rw [← hg, ← gcd_step, h, Int.gcd_zero_right]; omega
      have p := gcd_pos_of (a := t) h0
      have q := gcd_le_of (a := t) h0
      have hx4 : y < 1073741824 := by omega
      array_get_dec
      exact ⟨by rw [hx2]; rfl, rfl, trunc_same rfl⟩
    · have hb : (!(x % y == 0)) = true := by simp [h]
      array_get_dec
      exact ih _ _ ⟨y, x % y, by omega, by omega, by rw [gcd_step, hg], rfl, rfl⟩
  · rintro r S' ⟨x, y, hy, hn, _⟩
    omega
  · omega
  · unfold whlMax; omega
theorem lows {t b : Int} (h0 : 0 < b) : 0 < b / (Int.gcd t b : Int) ∧ b / (Int.gcd t b : Int) ≤ b := by
  have p := gcd_pos_of (a := t) h0
  have q := gcd_le_of (a := t) h0
  have d : (Int.gcd t b : Int) ∣ b := Int.gcd_dvd_right ..
  refine ⟨Int.ediv_pos_of_pos_of_dvd h0 (by omega) d, ?_⟩
  exact Int.ediv_le_self _ (by omega)
theorem less_redu {t b u d : Int} (h0 : 0 < b) (h1 : 0 < d) : (t / (Int.gcd t b : Int) * (d / (Int.gcd u d : Int)) < u / (Int.gcd u d : Int) * (b / (Int.gcd t b : Int))) ↔ t * d < u * b := by
  have p1 := gcd_pos_of (a := t) h0
  have p2 := gcd_pos_of (a := u) h1
  have e1 : t / (Int.gcd t b : Int) * (Int.gcd t b : Int) = t := Int.ediv_mul_cancel (Int.gcd_dvd_left ..)
  have e2 : b / (Int.gcd t b : Int) * (Int.gcd t b : Int) = b := Int.ediv_mul_cancel (Int.gcd_dvd_right ..)
  have e3 : u / (Int.gcd u d : Int) * (Int.gcd u d : Int) = u := Int.ediv_mul_cancel (Int.gcd_dvd_left ..)
  have e4 : d / (Int.gcd u d : Int) * (Int.gcd u d : Int) = d := Int.ediv_mul_cancel (Int.gcd_dvd_right ..)
  generalize t / (Int.gcd t b : Int) = t' at *
  generalize b / (Int.gcd t b : Int) = b' at *
  generalize u / (Int.gcd u d : Int) = u' at *
  generalize d / (Int.gcd u d : Int) = d' at *
  have q1 : 0 < (Int.gcd t b : Int) := by omega
  have q2 : 0 < (Int.gcd u d : Int) := by omega
  generalize (Int.gcd t b : Int) = g at *
  generalize (Int.gcd u d : Int) = h at *
  have hgh : 0 < g * h := Int.mul_pos q1 q2
  have a1 : t * d = t' * d' * (g * h) := by rw [← e1, ← e4]; simp only [Int.mul_assoc, Int.mul_left_comm, Int.mul_comm]
  have a2 : u * b = u' * b' * (g * h) := by rw [← e2, ← e3]; simp only [Int.mul_assoc, Int.mul_left_comm, Int.mul_comm]
  rw [a1, a2]
  exact (Int.mul_lt_mul_right hgh).symm
theorem r_less0 {k : Nat} {S : Store} {t b u d : Int} (h0 : 0 < b) (h1 : 0 < d) (h2 : b < 1000000) (h3 : d < 1000000) : run prog (k + 1) 7 [.tup [.int t, .int b], .tup [.int u, .int d]] S = .ok (.bl (decide (t * d < u * b))) false S := by
  refine fpo_eq (run_po rfl rfl rfl ?_)
  array_get_dec
theorem r_less {k : Nat} {S : Store} {t b u d : Int} (h0 : 0 < b) (h1 : 0 < d) (h2 : b < 1000000) (h3 : d < 1000000) : run prog (k + 1) 7 [redu t b, redu u d] S = .ok (.bl (decide (t * d < u * b))) false S := by
  have l1 := lows (t := t) h0
  have l2 := lows (t := u) h1
  have key := less_redu (t := t) (u := u) h0 h1
  have e := r_less0 (k := k) (S := S) (t := t / (Int.gcd t b : Int)) (b := b / (Int.gcd t b : Int)) (u := u / (Int.gcd u d : Int)) (d := d / (Int.gcd u d : Int)) l1.1 l2.1 (by omega) (by omega)
  rw [decide_eq_decide.mpr key] at e
  exact e
theorem r_yearly {k : Nat} {S : Store} {p a : Int} {ys : List Yr} (h0 : 1 ≤ a) (h1 : a ≤ ys.length) (h2 : ys.length < 1000000) : run prog (k + 2) 12 [tl p ys, .int a] S = .ok (redu (keptV p ys a) a) false S := by
  refine fpo_eq (run_po rfl rfl rfl ?_)
  array_get_dec
  refine Call.ok (r_kept h0 h1) ?_
  array_get_dec
  refine Call.ok (r_reduced (by omega) (by omega)) ?_
  array_get_dec
/-- the best age among the first ones -/
def bestU (p : Int) (ys : List Yr) (l : List Int) : Int := l.foldl (fun b a => if keptV p ys a * b < keptV p ys b * a then a else b) 1
theorem bestU_in {p : Int} {ys : List Yr} {n : Int} (hn : 1 ≤ n) : ∀ l : List Int, (∀ a ∈ l, 1 ≤ a ∧ a ≤ n) → 1 ≤ bestU p ys l ∧ bestU p ys l ≤ n := by
  have key : ∀ (l : List Int) (b : Int), 1 ≤ b → b ≤ n → (∀ a ∈ l, 1 ≤ a ∧ a ≤ n) → 1 ≤ l.foldl (fun b a => if keptV p ys a * b < keptV p ys b * a then a else b) b ∧ l.foldl (fun b a => if keptV p ys a * b < keptV p ys b * a then a else b) b ≤ n := fun l => by
    induction l with
    | nil => exact fun b h1 h2 _ => ⟨h1, h2⟩
    | cons x l ih =>
      intro b h1 h2 h
      have hx := h x List.mem_cons_self
      have hl := fun a ha => h a (List.mem_cons_of_mem _ ha)
      rw [List.foldl_cons]
      split
      · exact ih x hx.1 hx.2 hl
      · exact ih b h1 h2 hl
  exact fun l h => key l 1 (Int.le_refl _) hn h
theorem r_best {k : Nat} {S : Store} {p : Int} {ys : List Yr} (hn : ys ≠ []) (h2 : ys.length < 1000) : run prog (k + 3) 13 [tl p ys] S = .ok (.int (bestU p ys (rI 2 (ys.length + 1)))) false S := by
  have hl : 1 ≤ ys.length := by cases ys with | nil => exact absurd rfl hn | cons _ _ => simp
  have hr := rng2 (a := 2) (b := ((((ys.map yv).length : Nat) : Int)) + 1) (by omega) (by omega) (by omega) (by simp; omega)
  refine fpo_eq (run_po rfl rfl rfl ?_)
  array_get_dec
  rw [List.length_map]
  refine For.enc PV.int (fun done r S' => ∃ a, r = [.sh (tl p ys), .sh (.int (bestU p ys done)), a] ∧ S' = S) ⟨_, rfl, rfl⟩ ?_ ?_
  · rintro done x rest r S' K he ⟨a, rfl, rfl⟩ hK
    obtain ⟨rfl, _, hx1, hx2⟩ := rI_split he
    obtain ⟨b1, b2⟩ := bestU_in (p := p) (ys := ys) (n := ys.length) (by omega) (rI 2 x) (fun a ha => by have := mem_rI.mp ha; omega)
    have hs : bestU p ys (rI 2 x ++ [x]) = if keptV p ys x * bestU p ys (rI 2 x) < keptV p ys (bestU p ys (rI 2 x)) * x then x else bestU p ys (rI 2 x) := by unfold bestU; rw [List.foldl_append]; rfl
    rw [hs] at hK
    generalize bestU p ys (rI 2 x) = b at *
    array_get_dec
    refine Call.ok (r_yearly (by omega) (by omega) (by omega)) ?_
    array_get_dec
    refine Call.ok (r_yearly (by omega) (by omega) (by omega)) ?_
    array_get_dec
    refine Call.ok (r_less (by omega) (by omega) (by omega) (by omega)) ?_
    array_get_dec
    refine ⟨fun h => ?_, fun h => ?_⟩
    · rw [if_pos (of_decide_eq_true h)] at hK
      array_get_dec
      exact hK _ _ ⟨_, rfl, rfl⟩
    · rw [if_neg (of_decide_eq_false h)] at hK
      array_get_dec
      exact hK _ _ ⟨_, rfl, rfl⟩
  · rintro r S' ⟨a, rfl, rfl⟩
    array_get_dec
end Lk24
namespace Lk24
open PySem Ci
local macro_rules | `(tactic| array_mem_dec) => `(tactic| first | rfl | with_reducible assumption | ((with_reducible apply decide_eq_true); first | with_reducible assumption | omega) | ((with_reducible apply decide_eq_false); first | with_reducible assumption | omega) | (with_reducible exact beq_self_eq_true _) | (rw [beq_self_eq_true]; rfl) | ((with_reducible apply beq_iff_eq.mpr); omega) | ((with_reducible apply mulR) <;> omega) | ((with_reducible apply mulL) <;> omega) | omega)
local macro_rules | `(tactic| infer_instance) => `(tactic| first | ((with_reducible apply Get.mk'); (first | with_reducible assumption | with_unfolding_all rfl | exact List.getElem?_set_self (by first | assumption | (simp only [List.length_set]; assumption)))) | ((with_reducible refine If.tt ?_ ?_); array_mem_dec) | ((with_reducible refine If.ff ?_ ?_); array_mem_dec) | ((with_reducible apply Opr.sh); with_unfolding_all rfl) | ((with_reducible apply Opr.fr); with_unfolding_all rfl) | ((with_reducible refine And.intro ?_ ?_); array_mem_dec) | (with_reducible exact Res.mk (by with_unfolding_all rfl) (by with_unfolding_all rfl) (trunc_same (by with_unfolding_all rfl))) | (with_reducible exact ResX.mk (by with_unfolding_all rfl) (by with_unfolding_all rfl) (trunc_same (by with_unfolding_all rfl))))
local macro_rules | `(tactic| array_get_dec) => `(tactic| ((conv => whnf); repeat (infer_instance; try (conv => whnf))))
/-! ### rows (cost, ages), the least -/
abbrev Rw := Int × List Int
def ltL : List Int → List Int → Bool
  | [], [] => false
  | [], _ :: _ => true
  | _ :: _, [] => false
  | x :: xs, y :: ys => if x = y then ltL xs ys else decide (x < y)
def ltR (a b : Rw) : Bool := if a.1 = b.1 then ltL a.2 b.2 else decide (a.1 < b.1)
def re (r : Rw) : PV := .tup [.int r.1, .tup (r.2.map .int)]
def rl (r : Rw) : PV := .tup [.int r.1, .lst (r.2.map .int)]
theorem pyEqs_ints : ∀ xs ys : List Int, pyEqs (xs.map .int) (ys.map .int) = decide (xs = ys)
  | [], [] => by simp [pyEqs]
  | [], _ :: _ => by simp [pyEqs]
  | _ :: _, [] => by simp [pyEqs]
  | x :: xs, y :: ys => by
    simp only [List.map_cons, pyEqs, pyEq, pyEqs_ints xs ys]
    by_cases h : x = y <;> by_cases h2 : xs = ys <;> simp [h, h2]
theorem pyLts_ints : ∀ xs ys : List Int, pyLts (xs.map .int) (ys.map .int) = ltL xs ys
  | [], [] => by simp [pyLts, ltL]
  | [], _ :: _ => by simp [pyLts, ltL]
  | _ :: _, [] => by simp [pyLts, ltL]
  | x :: xs, y :: ys => by
    simp only [List.map_cons, pyLts, pyEq, pyLt, pyLts_ints xs ys, ltL]
    by_cases h : x = y <;> simp [h]
theorem lt_re (a b : Rw) : pyLt (re a) (re b) = ltR a b := by
  unfold re ltR
  simp only [pyLt, pyLts, pyEq, pyLts_ints, pyEqs_ints]
  by_cases h : a.1 = b.1
  · by_cases h2 : a.2 = b.2
    · have : ∀ l, ltL l l = false := fun l => by induction l <;> simp_all [ltL]
      simp [h, h2, this]
    · simp [h, h2]
  · simp [h]
theorem lt_rl (a b : Rw) : pyLt (rl a) (rl b) = ltR a b := by
  unfold rl ltR
  simp only [pyLt, pyLts, pyEq, pyLts_ints, pyEqs_ints]
  by_cases h : a.1 = b.1
  · by_cases h2 : a.2 = b.2
    · have : ∀ l, ltL l l = false := fun l => by induction l <;> simp_all [ltL]
      simp [h, h2, this]
    · simp [h, h2]
  · simp [h]
theorem ltL_irr : ∀ l, ltL l l = false
  | [] => rfl
  | x :: l => by simp [ltL, ltL_irr l]
/-- not greater -/
def leL (a b : List Int) : Bool := !ltL b a
theorem ltL_conn : ∀ a b, ltL a b = false → ltL b a = false → a = b
  | [], [], _, _ => rfl
  | [], _ :: _, h, _ => by simp [ltL] at h
  | _ :: _, [], _, h => by simp [ltL] at h
  | x :: xs, y :: ys, h1, h2 => by
    unfold ltL at h1 h2
    by_cases e : x = y
    · subst e
      simp at h1 h2
      rw [ltL_conn xs ys h1 h2]
    · rw [if_neg e] at h1
      rw [if_neg (Ne.symm e)] at h2
      simp at h1 h2
      omega
theorem ltL_tr : ∀ a b c, ltL b a = false → ltL c b = false → ltL c a = false
  | [], _, [], _, _ => rfl
  | [], [], _ :: _, _, h => h
  | [], _ :: _, _ :: _, _, _ => by simp [ltL]
  | _ :: _, [], _, h, _ => by simp [ltL] at h
  | _ :: _, _ :: _, [], _, h => by simp [ltL] at h
  | x :: xs, y :: ys, z :: zs, h1, h2 => by
    unfold ltL at h1 h2 ⊢
    by_cases e1 : y = x
    · subst e1
      by_cases e2 : z = y
      · subst e2
        simp at h1 h2 ⊢
        exact ltL_tr xs ys zs h1 h2
      · rw [if_neg e2] at h2 ⊢
        exact h2
    · rw [if_neg e1] at h1
      by_cases e2 : z = y
      · subst e2
        rw [if_neg e1]
        exact h1
      · rw [if_neg e2] at h2
        simp at h1 h2
        have : z ≠ x := by omega
        rw [if_neg this]
        simp; omega
theorem ltR_irr (a : Rw) : ltR a a = false := by unfold ltR; rw [if_pos rfl]; exact ltL_irr _
theorem ltR_conn {a b : Rw} (h1 : ltR a b = false) (h2 : ltR b a = false) : a = b := by
  obtain ⟨x, l⟩ := a
  obtain ⟨y, m⟩ := b
  unfold ltR at h1 h2
  dsimp only at h1 h2
  by_cases e : x = y
  · subst e
    rw [if_pos rfl] at h1 h2
    rw [ltL_conn l m h1 h2]
  · rw [if_neg e] at h1
    rw [if_neg (Ne.symm e)] at h2
    simp at h1 h2
    omega
theorem ltR_tr {a b c : Rw} (h1 : ltR b a = false) (h2 : ltR c b = false) : ltR c a = false := by
  obtain ⟨x, l⟩ := a
  obtain ⟨y, m⟩ := b
  obtain ⟨z, n⟩ := c
  unfold ltR at h1 h2 ⊢
  dsimp only at h1 h2 ⊢
  by_cases e1 : y = x
  · subst e1
    by_cases e2 : z = y
    · subst e2
      rw [if_pos rfl] at h1 h2 ⊢
      exact ltL_tr l m n h1 h2
    · rw [if_neg e2] at h2 ⊢
      exact h2
  · rw [if_neg e1] at h1
    by_cases e2 : z = y
    · subst e2
      rw [if_neg e1]; exact h1
    · rw [if_neg e2] at h2
      simp at h1 h2
      have : z ≠ x := by omega
      rw [if_neg this]
      simp; omega
def IsMin (l : List Rw) (m : Rw) : Prop := m ∈ l ∧ ∀ y ∈ l, ltR y m = false
theorem IsMin.uniq {l : List Rw} {m n : Rw} (h : IsMin l m) (k : IsMin l n) : m = n := ltR_conn (k.2 m h.1) (h.2 n k.1)
def minF (x : Rw) (l : List Rw) : Rw := l.foldl (fun m y => if ltR y m then y else m) x
theorem minF_is : ∀ (l : List Rw) (x : Rw), IsMin (x :: l) (minF x l)
  | [], x => ⟨List.mem_cons_self, fun y hy => by
    rw [List.mem_singleton.mp hy]; exact ltR_irr x⟩
  | y :: l, x => by
    unfold minF
    rw [List.foldl_cons]
    cases h : ltR y x with
    | true =>
      rw [if_pos rfl]
      obtain ⟨h1, h2⟩ := minF_is l y
      refine ⟨List.mem_cons_of_mem _ h1, fun z hz => ?_⟩
      rcases List.mem_cons.mp hz with rfl | hz
      · have hyx : ltR z y = false := by
          cases q : ltR z y with
          | false => rfl
          | true =>
            exfalso
            -- y below z and z below y
            have a1 := h
            have a2 := q
            unfold ltR at a1 a2
            by_cases e : z.1 = y.1
            · rw [if_pos e.symm] at a1
              rw [if_pos e] at a2
              have asym : ∀ a b, ltL a b = true → ltL b a = true → False := fun a => by
                induction a with
                | nil => intro b h1 h2; cases b <;> simp [ltL] at h2
                | cons x xs ih =>
                  intro b h1 h2
                  cases b with
                  | nil => simp [ltL] at h1
                  | cons y ys =>
                    unfold ltL at h1 h2
                    by_cases e : x = y
                    · subst e; simp at h1 h2; exact ih _ h1 h2
                    · rw [if_neg e] at h1; rw [if_neg (Ne.symm e)] at h2; simp at h1 h2; omega
              exact asym _ _ a1 a2
            · rw [if_neg (Ne.symm e)] at a1
              rw [if_neg e] at a2
              simp at a1 a2; omega
        exact ltR_tr (h2 y List.mem_cons_self) hyx
      · exact h2 z hz
    | false =>
      rw [if_neg (by decide)]
      obtain ⟨h1, h2⟩ := minF_is l x
      refine ⟨?_, fun z hz => ?_⟩
      · rcases List.mem_cons.mp h1 with e | h1
        · rw [show List.foldl (fun m y => if ltR y m = true then y else m) x l = minF x l from rfl, e]; exact List.mem_cons_self
        · exact List.mem_cons_of_mem _ (List.mem_cons_of_mem _ h1)
      · rcases List.mem_cons.mp hz with rfl | hz
        · exact h2 _ List.mem_cons_self
        · rcases List.mem_cons.mp hz with rfl | hz
          · exact ltR_tr (h2 x List.mem_cons_self) h
          · exact h2 z (List.mem_cons_of_mem _ hz)
theorem isD_ints {n : Nat} (l : List Int) : (l.map PV.int).all (isD n) = true := by
  rw [List.all_eq_true]
  intro x hx
  obtain ⟨i, _, rfl⟩ := List.mem_map.mp hx
  cases n <;> rfl
theorem alikes_ints : ∀ a b : List Int, alikes (a.map .int) (b.map .int) = true
  | [], _ => by simp [alikes]
  | _ :: _, [] => by simp [alikes]
  | x :: a, y :: b => by simp [alikes, alike, alikes_ints a b]
theorem srt_of {α : Type} {e : α → PV} (h1 : ∀ a, isD dD (e a) = true) (h2 : ∀ a b, alike (e a) (e b) = true) (h3 : ∀ a, tup1 (e a) = true) (l : List α) : srtOk (l.map e) = true := by
  unfold srtOk
  have key : ∀ p : PV → Bool, (∀ a, p (e a) = true) → (l.map e).all p = true := fun p hp => by
    rw [List.all_eq_true]
    intro x hx
    obtain ⟨i, _, rfl⟩ := List.mem_map.mp hx
    exact hp i
  rw [key _ h1, key _ fun a => key _ (h2 a), key _ h3]
  rfl
theorem fold_map {α : Type} {e : α → PV} {lt : α → α → Bool} (h : ∀ a b, pyLt (e a) (e b) = lt a b) : ∀ (l : List α) (x : α), (l.map e).foldl (fun m y => if pyLt y m then y else m) (e x) = e (l.foldl (fun m y => if lt y m then y else m) x)
  | [], x => rfl
  | y :: l, x => by
    rw [List.map_cons, List.foldl_cons, List.foldl_cons, h]
    cases lt y x <;> simp [fold_map h l]
theorem min_enc {e : Rw → PV} (h : ∀ a b, pyLt (e a) (e b) = ltR a b) (h1 : ∀ a, isD dD (e a) = true) (h2 : ∀ a b, alike (e a) (e b) = true) (h3 : ∀ a, tup1 (e a) = true) {l : List Rw} (hl : l ≠ []) : ∃ m, IsMin l m ∧ op1 .min1 (.lst (l.map e)) = .sh (e m) := by
  cases l with
  | nil => exact absurd rfl hl
  | cons x l =>
    refine ⟨minF x l, minF_is l x, ?_⟩
    show (if (minOn || ((x :: l).map e).all isI) && srtOk ((x :: l).map e) then (match minOf ((x :: l).map e) with | some x => ORes.sh x | none => .bad 35) else .bad 36) = _
    rw [srt_of h1 h2 h3, if_pos (by rw [Bool.and_true, Bool.or_eq_true]; exact .inl rfl)]
    show ORes.sh ((l.map e).foldl (fun m y => if pyLt y m then y else m) (e x)) = _
    rw [fold_map h]; rfl
theorem re_isD (a : Rw) : isD dD (re a) = true := by
  show (isD 39 (.int a.1) && (isD 39 (.tup (a.2.map .int)) && true)) = true
  have : isD 39 (.tup (a.2.map .int)) = true := isD_ints (n := 38) a.2
  rw [this]; rfl
theorem rl_isD (a : Rw) : isD dD (rl a) = true := by
  show (isD 39 (.int a.1) && (isD 39 (.lst (a.2.map .int)) && true)) = true
  have : isD 39 (.lst (a.2.map .int)) = true := isD_ints (n := 38) a.2
  rw [this]; rfl
theorem re_alk (a b : Rw) : alike (re a) (re b) = true := by simp [re, alike, alikes, alikes_ints]
theorem rl_alk (a b : Rw) : alike (rl a) (rl b) = true := by simp [rl, alike, alikes, alikes_ints]
theorem min_re {l : List Rw} (hl : l ≠ []) : ∃ m, IsMin l m ∧ op1 .min1 (.lst (l.map re)) = .sh (re m) := min_enc lt_re re_isD re_alk (fun _ => rfl) hl
theorem min_rl {l : List Rw} (hl : l ≠ []) : ∃ m, IsMin l m ∧ op1 .min1 (.lst (l.map rl)) = .sh (rl m) := min_enc lt_rl rl_isD rl_alk (fun _ => rfl) hl
end Lk24
namespace Lk24
open PySem Ci
local macro_rules | `(tactic| array_mem_dec) => `(tactic| first | rfl | with_reducible assumption | ((with_reducible apply decide_eq_true); first | with_reducible assumption | omega) | ((with_reducible apply decide_eq_false); first | with_reducible assumption | omega) | (with_reducible exact beq_self_eq_true _) | (rw [beq_self_eq_true]; rfl) | ((with_reducible apply beq_iff_eq.mpr); omega) | ((with_reducible apply mulR) <;> omega) | ((with_reducible apply mulL) <;> omega) | omega)
local macro_rules | `(tactic| infer_instance) => `(tactic| first | ((with_reducible apply Get.mk'); (first | with_reducible assumption | with_unfolding_all rfl | exact List.getElem?_set_self (by first | assumption | (simp only [List.length_set]; assumption)))) | ((with_reducible refine If.tt ?_ ?_); array_mem_dec) | ((with_reducible refine If.ff ?_ ?_); array_mem_dec) | ((with_reducible apply Opr.sh); with_unfolding_all rfl) | ((with_reducible apply Opr.fr); with_unfolding_all rfl) | ((with_reducible refine And.intro ?_ ?_); array_mem_dec) | (with_reducible exact Res.mk (by with_unfolding_all rfl) (by with_unfolding_all rfl) (trunc_same (by with_unfolding_all rfl))) | (with_reducible exact ResX.mk (by with_unfolding_all rfl) (by with_unfolding_all rfl) (trunc_same (by with_unfolding_all rfl))))
local macro_rules | `(tactic| array_get_dec) => `(tactic| ((conv => whnf); repeat (infer_instance; try (conv => whnf))))
def negL (l : List Int) : List Int := l.map fun a => -a
theorem negL_negL (l : List Int) : negL (negL l) = l := by
  unfold negL
  rw [List.map_map]
  conv => rhs; rw [← List.map_id l]
  exact List.map_congr_left fun a _ => by simp
def costV (p : Int) (ys : List Yr) (w : List Int) : Int := (w.map (keptV p ys)).sum
def Way (n : Int) (m : Int) (w : List Int) : Prop := (∀ a ∈ w, 1 ≤ a ∧ a ≤ n) ∧ w.sum = m
/-- the best way for m years -/
structure Good (p : Int) (ys : List Yr) (m : Int) (r : Rw) : Prop where
  way : Way ys.length m r.2
  cost : r.1 = costV p ys r.2
  least : ∀ w, Way ys.length m w → ltR (costV p ys w, negL w) (r.1, negL r.2) = false
theorem Good.uniq {p m : Int} {ys : List Yr} {r s : Rw} (h : Good p ys m r) (k : Good p ys m s) : r = s := by
  have a := h.least s.2 k.way
  have b := k.least r.2 h.way
  rw [← k.cost] at a
  rw [← h.cost] at b
  have e := ltR_conn a b
  have e1 := congrArg Prod.fst e
  have e2 := congrArg negL (congrArg Prod.snd e)
  simp only [negL_negL] at e2
  exact (Prod.ext (show s.1 = r.1 from e1) e2).symm
theorem way_nonneg {n m : Int} : ∀ {w : List Int}, Way n m w → (w.length : Int) ≤ m
  | [], h => by have := h.2; simp at this; simp; omega
  | a :: w, h => by
    have h1 := h.1 a List.mem_cons_self
    have h2 : Way n (m - a) w := ⟨fun b hb => h.1 b (List.mem_cons_of_mem _ hb), by have := h.2; simp at this; omega⟩
    have := way_nonneg h2
    simp; omega
theorem ltR_shift {k x y a : Int} {l m : List Int} : ltR (k + x, a :: l) (k + y, a :: m) = ltR (x, l) (y, m) := by
  unfold ltR
  dsimp only
  by_cases e : x = y
  · rw [if_pos (by omega), if_pos e]
    simp [ltL]
  · rw [if_neg (by omega), if_neg e]
    have : (k + x < k + y) ↔ x < y := by omega
    simp [this]
theorem app_ok {v : PV} {xs : List PV} (h : xs.length < 4000000) : appV v (.lst xs) = some (.lst (xs ++ [v])) := by
  show (if xs.length < big then _ else _) = _
  exact if_pos h
def rowF (p : Int) (ys : List Yr) (T : List Rw) (left age : Int) : Rw := (keptV p ys age + (T.getD (left - age).toNat (0, [])).1, negL (age :: (T.getD (left - age).toNat (0, [])).2))
theorem good_zero {p : Int} {ys : List Yr} : Good p ys 0 (0, []) := ⟨⟨fun _ h => (nomatch h), rfl⟩, rfl, fun w hw => by
  have := way_nonneg hw
  cases w with
  | nil => exact ltR_irr _
  | cons _ _ => simp at this; omega⟩
theorem good_step {p : Int} {ys : List Yr} {T : List Rw} {left : Int} {m : Rw} (h0 : 0 < left) (hT : ∀ i : Int, 0 ≤ i → i < left → Good p ys i (T.getD i.toNat (0, []))) (hm : IsMin ((rI 1 (min left ys.length + 1)).map (rowF p ys T left)) m) : Good p ys left (m.1, negL m.2) := by
  obtain ⟨h1, h2⟩ := hm
  obtain ⟨age, ha, rfl⟩ := List.mem_map.mp h1
  obtain ⟨a1, a2⟩ := mem_rI.mp ha
  have g := hT (left - age) (by omega) (by omega)
  refine ⟨⟨fun a hq => ?_, ?_⟩, ?_, fun w hw => ?_⟩
  · unfold rowF at hq
    rw [negL_negL] at hq
    rcases List.mem_cons.mp hq with rfl | hq
    · omega
    · exact g.way.1 a hq
  · unfold rowF
    rw [negL_negL, List.sum_cons, g.way.2]; omega
  · unfold rowF
    rw [negL_negL]
    show _ = (List.map _ (_ :: _)).sum
    rw [List.map_cons, List.sum_cons, g.cost]; rfl
  · cases w with
    | nil => have := hw.2; simp at this; omega
    | cons b w =>
      have hb := hw.1 b List.mem_cons_self
      have hw' : Way ys.length (left - b) w := ⟨fun c hc => hw.1 c (List.mem_cons_of_mem _ hc), by have := hw.2; simp at this; omega⟩
      have hl := way_nonneg hw'
      have g2 := hT (left - b) (by omega) (by omega)
      have q1 := g2.least w hw'
      have q2 : ltR (costV p ys (b :: w), negL (b :: w)) (rowF p ys T left b) = false := by
        unfold rowF
        have e : costV p ys (b :: w) = keptV p ys b + costV p ys w := by unfold costV; rw [List.map_cons, List.sum_cons]
        rw [e]
        show ltR (_, -b :: negL w) (_, -b :: negL _) = false
        rw [ltR_shift]; exact q1
      have q3 := h2 (rowF p ys T left b) (List.mem_map.mpr ⟨b, mem_rI.mpr ⟨hb.1, by omega⟩, rfl⟩)
      rw [negL_negL]
      exact ltR_tr q3 q2
theorem r_plan0 {k : Nat} {S : Store} {p m : Int} {ys : List Yr} (hn : ys ≠ []) (h2 : ys.length < 1000) (m0 : 0 ≤ m) (m1 : m ≤ 1000) : ∃ r, Good p ys m r ∧ run prog (k + 2) 14 [tl p ys, .int m] S = .ok (re r) false S := by
  have hl : 1 ≤ ys.length := by cases ys with | nil => exact absurd rfl hn | cons _ _ => simp
  have main : FPo (run prog (k + 2) 14 [tl p ys, .int m] S) (fun v fr S' => ∃ r, Good p ys m r ∧ Res (re r) false S v fr S') fun _ _ _ => False := by
    refine run_po rfl rfl rfl ?_
    have hr := rng2 (a := 1) (b := m + 1) (by omega) (by omega) (by omega) (by omega)
    array_get_dec
    refine For.enc PV.int (fun done r S' => ∃ (T : List Rw) (a b c d e : Sl), r = [.sh (tl p ys), .sh (.int m), .ow (.lst (T.map re)), a, b, c, d, e, .no] ∧ S' = S ∧ T.length = done.length + 1 ∧ ∀ i : Int, 0 ≤ i → i ≤ done.length → Good p ys i (T.getD i.toNat (0, []))) ?_ ?_ ?_
    · refine ⟨[(0, [])], _, _, _, _, _, rfl, rfl, rfl, fun i h0 h1 => ?_⟩
      simp at h1
      obtain rfl : i = 0 := by omega
      exact good_zero
    · rintro done x rest r S' K he ⟨T, a, b, c, d, e, rfl, rfl, hT, hG⟩ hK
      obtain ⟨rfl, _, hx1, hx2⟩ := rI_split he
      rw [rI_len] at hT
      have hlen : (((rI 1 x).length : Nat) : Int) = x - 1 := by rw [rI_len]; omega
      rw [hlen] at hG
      have hr2 := rng2 (a := 1) (b := (if ((((ys.map yv).length : Nat) : Int)) < x then ((((ys.map yv).length : Nat) : Int)) else x) + 1) (by omega) (by omega) (by split <;> omega) (by split <;> omega)
      array_get_dec
      refine For.enc PV.int (fun done2 r S2 => ∃ (a b c : Sl), r = [.sh (tl p ys), .sh (.int m), .ow (.lst (T.map re)), .sh (.int x), .ow (.lst ((done2.map (rowF p ys T x)).map re)), a, b, c, .no] ∧ S2 = S') ⟨_, _, _, rfl, rfl⟩ ?_ ?_
      · rintro done2 y rest2 r S' K2 he2 ⟨a, b, c, rfl, rfl⟩ hK2
        obtain ⟨e2, _, hy1, hy2⟩ := rI_split he2
        have hy3 : y ≤ x ∧ y ≤ ys.length := by
          rw [List.length_map] at hy2
          split at hy2 <;> omega
        obtain ⟨q, hq⟩ : ∃ q, T[(x - y).toNat]? = some q := ⟨_, List.getElem?_eq_getElem (by omega)⟩
        have hq2 : T.getD (x - y).toNat (0, []) = q := by rw [List.getD_eq_getElem?_getD, hq]; rfl
        have g := hG (x - y) (by omega) (by omega)
        rw [hq2] at g
        have gl := way_nonneg g.way
        have ha : atI (T.map re) (x - y) = some (re q) := atI_map re (by omega) hq
        array_get_dec
        refine Call.ok (r_kept hy1 hy3.2) ?_
        (conv => whnf)
        refine ⟨?_, ?_⟩
        · show 1 + (q.2.map PV.int).length ≤ 4000000
          simp; omega
        (conv => whnf)
        show Cmp _ ((y :: q.2).map PV.int) _ _
        refine Cmp.encM PV.int (fun a => -a) PV.int (fun z hz k' hk => ?_) ?_
        · array_get_dec
          exact hk
        · (conv => whnf)
          have hdl : done2.length < 4000000 := by rw [e2, rI_len]; omega
          refine Get.mk' (app_ok (by rw [List.length_map, List.length_map]; exact hdl)) ?_
          array_get_dec
          refine hK2 _ _ ⟨.sh (.int y), .sh (.int q.1), .sh (.tup (q.2.map .int)), ?_, rfl⟩
          have e3 : rowF p ys T x y = (keptV p ys y + q.1, negL (y :: q.2)) := by unfold rowF; rw [hq2]
          rw [List.map_append, List.map_append, show [y].map (rowF p ys T x) = [(keptV p ys y + q.1, negL (y :: q.2))] from congrArg (fun z => [z]) e3]
          rfl
      · rintro r S' ⟨a, b, c, rfl, rfl⟩
        have hmin : (if ((((ys.map yv).length : Nat) : Int)) < x then ((((ys.map yv).length : Nat) : Int)) else x) + 1 = min x ys.length + 1 := by
          rw [List.length_map]; split <;> omega
        rw [hmin]
        have hne : (rI 1 (min x ys.length + 1)).map (rowF p ys T x) ≠ [] := by
          rw [rI_cons (by omega)]; simp
        obtain ⟨mm, hm1, hm2⟩ := min_re hne
        have gs := good_step (by omega) (fun i h0 h1 => hG i h0 (by omega)) hm1
        array_get_dec
        refine Opr.sh hm2 ?_
        array_get_dec
        refine Cmp.encM PV.int (fun a => -a) PV.int (fun z hz k' hk => ?_) ?_
        · array_get_dec
          exact hk
        · (conv => whnf)
          refine Get.mk' (app_ok (by rw [List.length_map]; omega)) ?_
          array_get_dec
          refine hK _ _ ⟨T ++ [(mm.1, negL mm.2)], .sh (.int x), .ow (.lst (((rI 1 (min x ys.length + 1)).map (rowF p ys T x)).map re)), .no, .sh (.int mm.1), .sh (.tup (mm.2.map .int)), ?_, rfl, ?_, fun i h0 h1 => ?_⟩
          · rw [List.map_append]; rfl
          · rw [List.length_append, List.length_append, hT, rI_len]; simp
          · rw [List.length_append, rI_len] at h1
            simp at h1
            by_cases hi : i < x
            · have := hG i h0 (by omega)
              rw [List.getD_eq_getElem?_getD] at this ⊢
              rw [List.getElem?_append_left (by omega)]
              exact this
            · obtain rfl : i = x := by omega
              rw [List.getD_eq_getElem?_getD, List.getElem?_append_right (by omega), show i.toNat - T.length = 0 by omega]
              exact gs
    · rintro r S' ⟨T, a, b, c, d, e, rfl, rfl, hT, hG⟩
      rw [rI_len] at hT
      have hlen : (((rI 1 (m + 1)).length : Nat) : Int) = m := by rw [rI_len]; omega
      rw [hlen] at hG
      obtain ⟨q, hq⟩ : ∃ q, T[m.toNat]? = some q := ⟨_, List.getElem?_eq_getElem (by omega)⟩
      have hq2 : T.getD m.toNat (0, []) = q := by rw [List.getD_eq_getElem?_getD, hq]; rfl
      have g := hG m m0 (Int.le_refl _)
      rw [hq2] at g
      have ha : atI (T.map re) m = some (re q) := atI_map re m0 hq
      array_get_dec
      exact ⟨q, g, rfl, rfl, trunc_same rfl⟩
  revert main
  cases run prog (k + 2) 14 [tl p ys, .int m] S with
  | ok v fr S' =>
    rintro ⟨r, g, h⟩
    obtain ⟨rfl, rfl, rfl⟩ := h
    exact ⟨r, g, rfl⟩
  | exc c vs S' => exact False.elim
  | bad w => exact False.elim
end Lk24
namespace Lk24
open PySem Ci
local macro_rules | `(tactic| array_mem_dec) => `(tactic| first | rfl | with_reducible assumption | ((with_reducible apply decide_eq_true); first | with_reducible assumption | omega) | ((with_reducible apply decide_eq_false); first | with_reducible assumption | omega) | (with_reducible exact beq_self_eq_true _) | (rw [beq_self_eq_true]; rfl) | ((with_reducible apply beq_iff_eq.mpr); omega) | ((with_reducible apply mulR) <;> omega) | ((with_reducible apply mulL) <;> omega) | omega)
local macro_rules | `(tactic| infer_instance) => `(tactic| first | ((with_reducible apply Get.mk'); (first | with_reducible assumption | with_unfolding_all rfl | exact List.getElem?_set_self (by first | assumption | (simp only [List.length_set]; assumption)))) | ((with_reducible refine If.tt ?_ ?_); array_mem_dec) | ((with_reducible refine If.ff ?_ ?_); array_mem_dec) | ((with_reducible apply Opr.sh); with_unfolding_all rfl) | ((with_reducible apply Opr.fr); with_unfolding_all rfl) | ((with_reducible refine And.intro ?_ ?_); array_mem_dec) | (with_reducible exact Res.mk (by with_unfolding_all rfl) (by with_unfolding_all rfl) (trunc_same (by with_unfolding_all rfl))) | (with_reducible exact ResX.mk (by with_unfolding_all rfl) (by with_unfolding_all rfl) (trunc_same (by with_unfolding_all rfl))))
local macro_rules | `(tactic| array_get_dec) => `(tactic| ((conv => whnf); repeat (infer_instance; try (conv => whnf))))
noncomputable def PR (p : Int) (ys : List Yr) (m : Int) : Rw := Classical.epsilon (Good p ys m)
theorem PR_good {p m : Int} {ys : List Yr} (hn : ys ≠ []) (h2 : ys.length < 1000) (m0 : 0 ≤ m) (m1 : m ≤ 1000) : Good p ys m (PR p ys m) := by
  obtain ⟨r, g, _⟩ := r_plan0 (k := 0) (S := []) (p := p) hn h2 m0 m1
  exact Classical.epsilon_spec (p := Good p ys m) ⟨r, g⟩
theorem r_plan {k : Nat} {S : Store} {p m : Int} {ys : List Yr} (hn : ys ≠ []) (h2 : ys.length < 1000) (m0 : 0 ≤ m) (m1 : m ≤ 1000) : run prog (k + 2) 14 [tl p ys, .int m] S = .ok (re (PR p ys m)) false S := by
  obtain ⟨r, g, e⟩ := r_plan0 (k := k) (S := S) (p := p) hn h2 m0 m1
  rw [e, g.uniq (PR_good hn h2 m0 m1)]
theorem r_costs {k : Nat} {S : Store} {p : Int} {ys : List Yr} {w : List Int} (hw : ∀ a ∈ w, 1 ≤ a ∧ a ≤ ys.length) : run prog (k + 2) 15 [tl p ys, .tup (w.map .int)] S = .ok (.int (costV p ys w)) false S := by
  refine fpo_eq (run_po rfl rfl rfl ?_)
  array_get_dec
  refine Cmp.encM PV.int (keptV p ys) PV.int (fun a ha k' hk => ?_) ?_
  · array_get_dec
    refine Call.ok (r_kept (hw a ha).1 (hw a ha).2) ?_
    exact hk
  · array_get_dec
    refine Opr.sh sum1_ints ?_
    array_get_dec
def wf (n : Int) : Nat → Int → List (List Int)
  | 0, _ => [[]]
  | f + 1, m => if m = 0 then [[]] else (rI 1 (min m n + 1)).foldl (fun found age => (wf n f (m - age)).map (fun w => age :: w) ++ found) []
theorem mem_fold {β : Type} (g : Int → List β) (w : β) : ∀ (l : List Int) (acc : List β), w ∈ l.foldl (fun found age => g age ++ found) acc ↔ w ∈ acc ∨ ∃ a ∈ l, w ∈ g a
  | [], acc => by simp
  | a :: l, acc => by
    rw [List.foldl_cons, mem_fold g w l]
    simp only [List.mem_append, List.mem_cons, exists_eq_or_imp]
    constructor
    · rintro ((h | h) | h)
      · exact .inr (.inl h)
      · exact .inl h
      · exact .inr (.inr h)
    · rintro (h | h | h)
      · exact .inl (.inr h)
      · exact .inl (.inl h)
      · exact .inr h
theorem mem_wf {n : Int} : ∀ (f : Nat) (m : Int) (w : List Int), 0 ≤ m → m ≤ f → (w ∈ wf n f m ↔ Way n m w)
  | 0, m, w, h0, h1 => by
    obtain rfl : m = 0 := by simp at h1; omega
    simp only [wf, List.mem_singleton]
    constructor
    · rintro rfl; exact ⟨fun _ h => (nomatch h), rfl⟩
    · intro h
      have := way_nonneg h
      cases w with
      | nil => rfl
      | cons _ _ => simp at this; omega
  | f + 1, m, w, h0, h1 => by
    unfold wf
    by_cases hm : m = 0
    · subst hm
      rw [if_pos rfl, List.mem_singleton]
      constructor
      · rintro rfl; exact ⟨fun _ h => (nomatch h), rfl⟩
      · intro h
        have := way_nonneg h
        cases w with
        | nil => rfl
        | cons _ _ => simp at this; omega
    · rw [if_neg hm, mem_fold (fun age => (wf n f (m - age)).map fun w => age :: w)]
      constructor
      · rintro (h | ⟨a, ha, h⟩)
        · cases h
        · obtain ⟨v, hv, rfl⟩ := List.mem_map.mp h
          obtain ⟨a1, a2⟩ := mem_rI.mp ha
          have g := (mem_wf f (m - a) v (by omega) (by omega)).mp hv
          refine ⟨fun b hb => ?_, ?_⟩
          · rcases List.mem_cons.mp hb with rfl | hb
            · omega
            · exact g.1 b hb
          · rw [List.sum_cons, g.2]; omega
      · intro h
        right
        cases w with
        | nil => have := h.2; simp at this; omega
        | cons a v =>
          have ha := h.1 a List.mem_cons_self
          have g : Way n (m - a) v := ⟨fun b hb => h.1 b (List.mem_cons_of_mem _ hb), by have := h.2; simp at this; omega⟩
          have hl := way_nonneg g
          exact ⟨a, mem_rI.mpr ⟨ha.1, by omega⟩, List.mem_map.mpr ⟨v, (mem_wf f (m - a) v (by omega) (by omega)).mpr g, rfl⟩⟩
theorem len_fold {β : Type} (g : Int → List β) (c : Nat) (hg : ∀ a, (g a).length ≤ c) : ∀ (l : List Int) (acc : List β), (l.foldl (fun found age => g age ++ found) acc).length ≤ acc.length + l.length * c
  | [], acc => by simp
  | a :: l, acc => by
    rw [List.foldl_cons]
    have h := len_fold g c hg l (g a ++ acc)
    have h2 := hg a
    rw [List.length_append] at h
    rw [List.length_cons, Nat.add_mul, Nat.one_mul]
    omega
theorem wf_len {n : Int} (hn : n ≤ 4) : ∀ (f : Nat) (m : Int), (wf n f m).length ≤ 4 ^ f
  | 0, m => by simp [wf]
  | f + 1, m => by
    unfold wf
    split
    · have : 0 < 4 ^ (f + 1) := Nat.pos_of_ne_zero (by simp)
      simp; omega
    · have h := len_fold (fun age => (wf n f (m - age)).map fun w => age :: w) (4 ^ f) (fun a => by rw [List.length_map]; exact wf_len hn f (m - a)) (rI 1 (min m n + 1)) []
      have hl : (rI 1 (min m n + 1)).length ≤ 4 := by rw [rI_len]; omega
      have h2 : (rI 1 (min m n + 1)).length * 4 ^ f ≤ 4 * 4 ^ f := Nat.mul_le_mul_right _ hl
      rw [Nat.pow_succ]
      rw [List.length_nil] at h
      omega
def wE (w : List Int) : PV := .tup (w.map .int)
theorem r_ways {n : Int} (h0 : 0 ≤ n) (hn : n ≤ 4) : ∀ (f k : Nat) (m : Int) (S : Store), 0 ≤ m → m ≤ f → f ≤ 8 → run prog (k + f + 1) 28 [.int m, .int n] S = .ok (.lst ((wf n f m).map wE)) true S := by
  have base : ∀ (f k : Nat) (S : Store), run prog (k + f + 1) 28 [.int 0, .int n] S = .ok (.lst [wE []]) true S := fun f k S => by
    refine fpo_eq (run_po rfl rfl rfl ?_)
    array_get_dec
  intro f
  induction f with
  | zero =>
    intro k m S m0 m1 _
    obtain rfl : m = 0 := by simp at m1; omega
    exact base 0 k S
  | succ f ih =>
    intro k m S m0 m1 hf
    by_cases hm : m = 0
    · subst hm
      rw [base]
      show _ = FOut.ok (.lst ((if (0 : Int) = 0 then [[]] else _ : List (List Int)).map wE)) true S
      rw [if_pos rfl]; rfl
    · have hb : (m == 0) = false := by simpa using hm
      have hr := rng2 (a := 1) (b := (if n < m then n else m) + 1) (by omega) (by omega) (by split <;> omega) (by split <;> omega)
      have hmin : (if n < m then n else m) + 1 = min m n + 1 := by split <;> omega
      have e : wf n (f + 1) m = (rI 1 (min m n + 1)).foldl (fun found age => (wf n f (m - age)).map (fun w => age :: w) ++ found) [] := by
        show (if m = 0 then _ else _) = _
        rw [if_neg hm]
      rw [e]
      refine fpo_eq (run_po rfl rfl rfl ?_)
      array_get_dec
      rw [hmin]
      refine For.enc PV.int (fun done r S' => ∃ a, r = [.sh (.int m), .sh (.int n), .ow (.lst ((done.foldl (fun found age => (wf n f (m - age)).map (fun w => age :: w) ++ found) []).map wE)), a, .no] ∧ S' = S) ⟨_, rfl, rfl⟩ ?_ ?_
      · rintro done x rest r S' K he ⟨a, rfl, rfl⟩ hK
        obtain ⟨e2, _, hx1, hx2⟩ := rI_split he
        rw [List.foldl_append] at hK
        have hlen := len_fold (fun age => (wf n f (m - age)).map fun w => age :: w) (4 ^ f) (fun a => by rw [List.length_map]; exact wf_len hn f (m - a)) done []
        have hl2 : done.length ≤ 4 := by rw [e2, rI_len]; omega
        have hpow : 4 ^ f ≤ 4 ^ 7 := Nat.pow_le_pow_right (by decide) (by omega)
        have hl3 : done.length * 4 ^ f ≤ 4 * 4 ^ 7 := Nat.mul_le_mul hl2 hpow
        have hw := wf_len hn f (m - x)
        rw [List.length_nil] at hlen
        generalize (done.foldl (fun found age => (wf n f (m - age)).map (fun w => age :: w) ++ found) []) = F at *
        array_get_dec
        refine Call.ok (ih k (m - x) S' (by omega) (by omega) (by omega)) ?_
        (conv => whnf)
        refine Cmp.encM wE (fun w => x :: w) wE (fun w hw k' hk => ?_) ?_
        · have g := (mem_wf f (m - x) w (by omega) (by omega)).mp hw
          have gl := way_nonneg g
          (conv => whnf)
          refine If.tt rfl ?_
          (conv => whnf)
          refine ⟨?_, ?_⟩
          · show 1 + (w.map PV.int).length ≤ 4000000
            simp; omega
          · (conv => whnf)
            exact hk
        · (conv => whnf)
          refine ⟨?_, ?_⟩
          · show ((List.map (fun w => x :: w) (wf n f (m - x))).map wE).length + (F.map wE).length ≤ 4000000
            simp only [List.length_map]
            omega
          · array_get_dec
            refine hK _ _ ⟨.sh (.int x), ?_, rfl⟩
            rw [List.foldl_cons, List.foldl_nil, List.map_append]
      · rintro r S' ⟨a, rfl, rfl⟩
        array_get_dec
end Lk24
namespace Lk24
open PySem Ci
local macro_rules | `(tactic| array_mem_dec) => `(tactic| first | rfl | with_reducible assumption | ((with_reducible apply decide_eq_true); first | with_reducible assumption | omega) | ((with_reducible apply decide_eq_false); first | with_reducible assumption | omega) | (with_reducible exact beq_self_eq_true _) | (rw [beq_self_eq_true]; rfl) | ((with_reducible apply beq_iff_eq.mpr); omega) | ((with_reducible apply mulR) <;> omega) | ((with_reducible apply mulL) <;> omega) | omega)
local macro_rules | `(tactic| infer_instance) => `(tactic| first | ((with_reducible apply Get.mk'); (first | with_reducible assumption | with_unfolding_all rfl | exact List.getElem?_set_self (by first | assumption | (simp only [List.length_set]; assumption)))) | ((with_reducible refine If.tt ?_ ?_); array_mem_dec) | ((with_reducible refine If.ff ?_ ?_); array_mem_dec) | ((with_reducible apply Opr.sh); with_unfolding_all rfl) | ((with_reducible apply Opr.fr); with_unfolding_all rfl) | ((with_reducible refine And.intro ?_ ?_); array_mem_dec) | (with_reducible exact Res.mk (by with_unfolding_all rfl) (by with_unfolding_all rfl) (trunc_same (by with_unfolding_all rfl))) | (with_reducible exact ResX.mk (by with_unfolding_all rfl) (by with_unfolding_all rfl) (trunc_same (by with_unfolding_all rfl))))
local macro_rules | `(tactic| array_get_dec) => `(tactic| ((conv => whnf); repeat (infer_instance; try (conv => whnf))))
def lastY (ys : List Yr) : Yr := ys.getD (ys.length - 1) (0, 0)
theorem at_last {ys : List Yr} (hn : ys ≠ []) : atI (ys.map yv) (-1) = some (yv (lastY ys)) := by
  have hl : 1 ≤ ys.length := by cases ys with | nil => exact absurd rfl hn | cons _ _ => simp
  unfold atI
  rw [if_neg (by decide), if_pos (by rw [List.length_map]; omega)]
  have e : ((-1 : Int) + (((ys.map yv).length : Nat) : Int)).toNat = ys.length - 1 := by rw [List.length_map]; omega
  rw [e, List.getElem?_map]
  have : ys[ys.length - 1]? = some (lastY ys) := by
    unfold lastY
    rw [List.getD_eq_getElem?_getD, List.getElem?_eq_getElem (by omega)]; rfl
  rw [this]; rfl
def worthV (p : Int) (ys : List Yr) (a : Int) : Int := if a = 0 then p else (ys.getD ((min a ys.length) - 1).toNat (0, 0)).2
theorem r_worth {k : Nat} {S : Store} {p a : Int} {ys : List Yr} (hn : ys ≠ []) (h0 : 0 ≤ a) : run prog (k + 1) 17 [tl p ys, .int a] S = .ok (.int (worthV p ys a)) false S := by
  have hl : 1 ≤ ys.length := by cases ys with | nil => exact absurd rfl hn | cons _ _ => simp
  by_cases ha : a = 0
  · subst ha
    refine fpo_eq (run_po rfl rfl rfl ?_)
    array_get_dec
  · have hb : (a == 0) = false := by simpa using ha
    have hx : ys[((min a ys.length) - 1).toNat]? = some (ys.getD ((min a ys.length) - 1).toNat (0, 0)) := by
      rw [List.getD_eq_getElem?_getD, List.getElem?_eq_getElem (by omega)]; rfl
    have hat : atI (ys.map yv) ((if ((((ys.map yv).length : Nat) : Int)) < a then ((((ys.map yv).length : Nat) : Int)) else a) - 1) = some (yv (ys.getD ((min a ys.length) - 1).toNat (0, 0))) := by
      have e : (if ((((ys.map yv).length : Nat) : Int)) < a then ((((ys.map yv).length : Nat) : Int)) else a) = min a ys.length := by rw [List.length_map]; split <;> omega
      rw [e]
      exact atI_map yv (by omega) hx
    have hw : worthV p ys a = (ys.getD ((min a ys.length) - 1).toNat (0, 0)).2 := by unfold worthV; rw [if_neg ha]
    rw [hw]
    refine fpo_eq (run_po rfl rfl rfl ?_)
    array_get_dec
def yrAt (ys : List Yr) (y : Int) : Yr := if y < ys.length then ys.getD y.toNat (0, 0) else lastY ys
def lateL (ys : List Yr) (a m : Int) : List Yr := (rI a (a + m)).map (yrAt ys)
def mendV (p : Int) (ys : List Yr) (a r m : Int) : Int := r + ((lateL ys a m).map (·.1)).sum + worthV p ys a - (yrAt ys (a + m - 1)).2
theorem late_last {ys : List Yr} {a m : Int} (hm : 1 ≤ m) : atI ((lateL ys a m).map yv) (-1) = some (yv (yrAt ys (a + m - 1))) := by
  have e := rI_snoc (a := a) (b := a + m - 1) (by omega)
  rw [show a + m - 1 + 1 = a + m by omega] at e
  unfold lateL
  rw [e, List.map_append, List.map_append]
  exact atI_last
theorem r_mend {k : Nat} {S : Store} {p a r m : Int} {ys : List Yr} (hn : ys ≠ []) (h2 : ys.length < 1000) (a0 : 0 ≤ a) (a1 : a ≤ 100) (m0 : 1 ≤ m) (m1 : m ≤ 100) :
    run prog (k + 4) 16 [tl p ys, .int a, .int r, .int m] S = .ok (.bl (!decide (keptV p ys (bestU p ys (rI 2 (ys.length + 1))) * m < mendV p ys a r m * bestU p ys (rI 2 (ys.length + 1))))) false S := by
  have hl : 1 ≤ ys.length := by cases ys with | nil => exact absurd rfl hn | cons _ _ => simp
  have hr := rng2 (a := a) (b := a + m) (by omega) (by omega) (by omega) (by omega)
  have hlast := at_last hn
  have hl2 := late_last (ys := ys) (a := a) m0
  obtain ⟨b1, b2⟩ := bestU_in (p := p) (ys := ys) (n := ys.length) (by omega) (rI 2 (ys.length + 1)) (fun a ha => by have := mem_rI.mp ha; omega)
  refine fpo_eq (run_po rfl rfl rfl ?_)
  array_get_dec
  refine Cmp.encM PV.int (yrAt ys) yv (fun y hy k' hk => ?_) ?_
  · obtain ⟨y1, y2⟩ := mem_rI.mp hy
    by_cases hyl : y < ys.length
    · have hyl' : y < ((((ys.map yv).length : Nat) : Int)) := by rw [List.length_map]; exact hyl
      have e : yrAt ys y = ys.getD y.toNat (0, 0) := by unfold yrAt; rw [if_pos hyl]
      have hat : atI (ys.map yv) y = some (yv (ys.getD y.toNat (0, 0))) := atI_map yv (by omega) (by rw [List.getD_eq_getElem?_getD, List.getElem?_eq_getElem (by omega)]; rfl)
      rw [e] at hk
      array_get_dec
      exact hk
    · have hyl' : ¬ y < ((((ys.map yv).length : Nat) : Int)) := by rw [List.length_map]; exact hyl
      have e : yrAt ys y = lastY ys := by unfold yrAt; rw [if_neg hyl]
      rw [e] at hk
      array_get_dec
      exact hk
  · rw [show (rI a (a + m)).map (yrAt ys) = lateL ys a m from rfl]
    array_get_dec
    refine Cmp.encM yv (·.1) PV.int (fun y hy k' hk => ?_) ?_
    · array_get_dec
      exact hk
    · array_get_dec
      refine Opr.sh sum1_ints ?_
      array_get_dec
      refine Call.ok (r_worth hn a0) ?_
      array_get_dec
      refine Call.ok (r_best hn h2) ?_
      array_get_dec
      refine Call.ok (r_yearly b1 b2 (by omega)) ?_
      array_get_dec
      refine Call.ok (r_reduced (by omega) (by omega)) ?_
      array_get_dec
      refine Call.ok (r_less (by omega) (by omega) (by omega) (by omega)) ?_
      array_get_dec
/-- never dearer from so many years on -/
noncomputable def ndr (p : Int) (ys : List Yr) (p2 : Int) (ys2 : List Yr) (y : Int) : Bool := (rI y 13).all fun m => decide ((PR p2 ys2 m).1 ≤ (PR p ys m).1)
noncomputable def beV (p : Int) (ys : List Yr) (p2 : Int) (ys2 : List Yr) : PV := match (rI 0 13).find? (ndr p ys p2 ys2) with
  | some y => .int y
  | none => .non
theorem r_even {k : Nat} {S : Store} {p p2 : Int} {ys ys2 : List Yr} (hn : ys ≠ []) (h2 : ys.length < 1000) (hn2 : ys2 ≠ []) (h3 : ys2.length < 1000) : run prog (k + 3) 18 [tl p ys, tl p2 ys2] S = .ok (beV p ys p2 ys2) false S := by
  have hr := rng1 (n := 13) (by decide) (by decide)
  refine fpo_eq (run_po rfl rfl rfl ?_)
  array_get_dec
  show For _ _ ((rI 0 13).map PV.int) _ _ _
  refine For.enc PV.int (fun done r S' => ∃ a, r = [.sh (tl p ys), .sh (tl p2 ys2), a, .no] ∧ S' = S ∧ ∀ y ∈ done, ndr p ys p2 ys2 y = false) ⟨_, rfl, rfl, fun _ h => (nomatch h)⟩ ?_ ?_
  · rintro done x rest r S' K he ⟨a, rfl, rfl, hd⟩ hK
    obtain ⟨e2, _, hx1, hx2⟩ := rI_split he
    have hr2 := rng2 (a := x) (b := (12 : Int) + 1) (by omega) (by omega) (by decide) (by decide)
    array_get_dec
    show Cmp _ ((rI x 13).map PV.int) _ _
    refine Cmp.encM PV.int (fun m => decide ((PR p2 ys2 m).1 ≤ (PR p ys m).1)) PV.bl (fun m hm k' hk => ?_) ?_
    · obtain ⟨m1, m2⟩ := mem_rI.mp hm
      array_get_dec
      refine Call.ok (r_plan hn2 h3 (by omega) (by omega)) ?_
      array_get_dec
      refine Call.ok (r_plan hn h2 (by omega) (by omega)) ?_
      array_get_dec
      exact hk
    · have hall : op1 .all (.lst (((rI x 13).map fun m => decide ((PR p2 ys2 m).1 ≤ (PR p ys m).1)).map PV.bl)) = .sh (.bl (ndr p ys p2 ys2 x)) := by
        have h1 : ∀ l : List Bool, (l.map PV.bl).all isBl = true := fun l => by induction l <;> simp_all [isBl]
        have h2 : ∀ l : List Bool, (l.map PV.bl).all isTrue' = l.all id := fun l => by induction l <;> simp_all [isTrue']
        show (if _ then oBl _ else _) = _
        rw [if_pos (h1 _), h2]
        unfold ndr oBl
        rw [List.all_map]; rfl
      array_get_dec
      refine Opr.sh hall ?_
      array_get_dec
      refine ⟨fun h => ?_, fun h => ?_⟩
      · array_get_dec
        refine ⟨?_, rfl, trunc_same rfl⟩
        have hf : (rI 0 13).find? (ndr p ys p2 ys2) = some x := by
          rw [he, List.find?_append]
          have : done.find? (ndr p ys p2 ys2) = none := List.find?_eq_none.mpr fun y hy => by simp [hd y hy]
          rw [this, List.find?_cons, h]; rfl
        unfold beV
        rw [hf]
      · array_get_dec
        refine hK _ _ ⟨_, rfl, rfl, fun y hy => ?_⟩
        rcases List.mem_append.mp hy with hy | hy
        · exact hd y hy
        · rw [List.mem_singleton.mp hy]; exact h
  · rintro r S' ⟨a, rfl, rfl, hd⟩
    array_get_dec
    refine ⟨?_, rfl, trunc_same rfl⟩
    unfold beV
    rw [List.find?_eq_none.mpr fun y hy => by simp [hd y hy]]
theorem r_age {k : Nat} {S : Store} {a : Int} : run prog (k + 3) 20 [.int a] S = .ok (.bl (decide (1 ≤ a) && decide (a ≤ 12))) false S := by
  refine fpo_eq (run_po rfl rfl rfl ?_)
  array_get_dec
  refine Call.ok r_num ?_
  array_get_dec
/-- a tool that the law draws -/
theorem r_tool {k : Nat} (d : Dst) : ∃ (p : Int) (ys : List Yr) (d' : Dst), run prog (k + 2) 29 [.loc 0] [cellD d] = .ok (.tup [.int p, pY ys]) false [cellD d'] ∧ 1 ≤ p ∧ p ≤ 60 ∧ ys ≠ [] ∧ ys.length ≤ 4 ∧ ∀ y ∈ ys, 0 ≤ y.1 ∧ y.1 < 30 ∧ 0 ≤ y.2 ∧ y.2 < 60 := by
  have main : FPo (run prog (k + 2) 29 [.loc 0] [cellD d]) (fun v fr S' => ∃ (p : Int) (ys : List Yr) (d' : Dst), Res (.tup [.int p, pY ys]) false [cellD d'] v fr S' ∧ 1 ≤ p ∧ p ≤ 60 ∧ ys ≠ [] ∧ ys.length ≤ 4 ∧ ∀ y ∈ ys, 0 ≤ y.1 ∧ y.1 < 30 ∧ 0 ≤ y.2 ∧ y.2 < 60) fun _ _ _ => False := by
    obtain ⟨v1, d1, e1, l1, u1⟩ := r_dr (P := prog) (f := 21) (k := k) d 60 rfl (by decide) (by decide)
    obtain ⟨v2, d2, e2, l2, u2⟩ := r_dr (P := prog) (f := 21) (k := k) d1 60 rfl (by decide) (by decide)
    obtain ⟨v3, d3, e3, l3, u3⟩ := r_dr (P := prog) (f := 21) (k := k) d2 4 rfl (by decide) (by decide)
    have hr := rng1 (n := 1 + v3) (by omega) (by omega)
    refine run_po rfl rfl rfl ?_
    array_get_dec
    refine Call.ok e1 ?_
    array_get_dec
    refine Call.ok e2 ?_
    array_get_dec
    refine Call.ok e3 ?_
    array_get_dec
    refine For.enc PV.int (fun done r S' => ∃ (ys : List Yr) (d : Dst) (left : Int) (a : Sl), r = [.sh (.loc 0), .sh (.int (1 + v1)), .sh (.int left), .ow (.lst (ys.map yv)), a] ∧ S' = [cellD d] ∧ ys.length = done.length ∧ 0 ≤ left ∧ left < 60 ∧ ∀ y ∈ ys, 0 ≤ y.1 ∧ y.1 < 30 ∧ 0 ≤ y.2 ∧ y.2 < 60) ⟨[], d3, v2, _, rfl, rfl, rfl, l2, u2, fun _ h => (nomatch h)⟩ ?_ ?_
    · rintro done x rest r S' K he ⟨ys, dd, left, a, rfl, rfl, hlen, hl0, hl1, hy⟩ hK
      obtain ⟨e4, _, hx1, hx2⟩ := rI_split he
      obtain ⟨w1, dd1, q1, l4, u4⟩ := r_dr (P := prog) (f := 21) (k := k) dd 30 rfl (by decide) (by decide)
      obtain ⟨w2, dd2, q2, l5, u5⟩ := r_dr (P := prog) (f := 21) (k := k) dd1 20 rfl (by decide) (by decide)
      have hdl : (ys.map yv).length < 4000000 := by rw [List.length_map, hlen, e4, rI_len]; omega
      array_get_dec
      refine Call.ok q1 ?_
      (conv => whnf)
      refine Get.mk' (app_ok hdl) ?_
      array_get_dec
      refine Call.ok q2 ?_
      array_get_dec
      refine hK _ _ ⟨ys ++ [(w1, left)], dd2, if left - w2 > 0 then left - w2 else 0, .sh (.int x), ?_, rfl, ?_, ?_, ?_, fun y hq => ?_⟩
      · rw [List.map_append]; rfl
      · rw [List.length_append, List.length_append, hlen]; rfl
      · split <;> omega
      · split <;> omega
      · rcases List.mem_append.mp hq with hq | hq
        · exact hy y hq
        · rw [List.mem_singleton.mp hq]; exact ⟨l4, u4, hl0, hl1⟩
    · rintro r S' ⟨ys, dd, left, a, rfl, rfl, hlen, hl0, hl1, hy⟩
      rw [rI_len] at hlen
      array_get_dec
      refine ⟨1 + v1, ys, dd, ⟨rfl, rfl, trunc_same rfl⟩, by omega, by omega, fun h => ?_, by omega, hy⟩
      rw [h] at hlen; simp at hlen; omega
  revert main
  cases run prog (k + 2) 29 [.loc 0] [cellD d] with
  | ok v fr S' =>
    rintro ⟨p, ys, d', h, h1, h2, h3⟩
    obtain ⟨rfl, rfl, rfl⟩ := h
    exact ⟨p, ys, d', rfl, h1, h2, h3⟩
  | exc c vs S' => exact False.elim
  | bad w => exact False.elim
end Lk24
namespace Lk24
open PySem Ci
local macro_rules | `(tactic| array_mem_dec) => `(tactic| first | rfl | with_reducible assumption | ((with_reducible apply decide_eq_true); first | with_reducible assumption | omega) | ((with_reducible apply decide_eq_false); first | with_reducible assumption | omega) | (with_reducible exact beq_self_eq_true _) | (rw [beq_self_eq_true]; rfl) | ((with_reducible apply beq_iff_eq.mpr); omega) | ((with_reducible apply mulR) <;> omega) | ((with_reducible apply mulL) <;> omega) | omega)
local macro_rules | `(tactic| infer_instance) => `(tactic| first | ((with_reducible apply Get.mk'); (first | with_reducible assumption | with_unfolding_all rfl | exact List.getElem?_set_self (by first | assumption | (simp only [List.length_set]; assumption)))) | ((with_reducible refine If.tt ?_ ?_); array_mem_dec) | ((with_reducible refine If.ff ?_ ?_); array_mem_dec) | ((with_reducible apply Opr.sh); with_unfolding_all rfl) | ((with_reducible apply Opr.fr); with_unfolding_all rfl) | ((with_reducible refine And.intro ?_ ?_); array_mem_dec) | (with_reducible exact Res.mk (by with_unfolding_all rfl) (by with_unfolding_all rfl) (trunc_same (by with_unfolding_all rfl))) | (with_reducible exact ResX.mk (by with_unfolding_all rfl) (by with_unfolding_all rfl) (trunc_same (by with_unfolding_all rfl))))
local macro_rules | `(tactic| array_get_dec) => `(tactic| ((conv => whnf); repeat (infer_instance; try (conv => whnf))))
/-! ### tools that are refused -/
structure Exc (o : FOut) (c : Nat) (vs : List PV) : Prop where
  h : FPo o (fun _ _ _ => False) fun c' vs' _ => c' = c ∧ vs' = vs
theorem Exc.call {o : FOut} {c : Nat} {vs : List PV} {Q : PV → Bool → Store → Prop} {E : Nat → List PV → Store → Prop} (h : Exc o c vs) (k : ∀ S, E c vs S) : Call o Q E := ⟨by
  have := h.h
  cases o with
  | exc c' vs' S' => obtain ⟨rfl, rfl⟩ := this; exact k S'
  | ok v fr S' => exact this.elim
  | bad w => exact this⟩
theorem Exc.of {o : FOut} {c : Nat} {vs : List PV} {S : Store} (h : o = .exc c vs S) : Exc o c vs := ⟨by rw [h]; exact ⟨rfl, rfl⟩⟩
theorem set_get {S : Store} {c : Cell} : (S ++ [c])[S.length]? = some c := by simp
theorem set_get2 {S : Store} {c d : Cell} : ((S ++ [c]).set S.length d)[S.length]? = some d := by simp
theorem nots_num {k : Nat} {S : Store} {v : PV} (hv : v = .int 0 ∨ v = .int 10000 ∨ v = .bl true ∨ v = .non) : run prog (k + 3) 4 [v, .int 1, .int 9999] S = .exc 1 [v] S := by
  rcases hv with rfl | rfl | rfl | rfl
  · refine fpo_exc (run_po rfl rfl rfl ?_)
    array_get_dec
    refine Call.ok r_num ?_
    array_get_dec
  · refine fpo_exc (run_po rfl rfl rfl ?_)
    array_get_dec
    refine Call.ok r_num ?_
    array_get_dec
  · have e : run prog (k + 2) 1 [.bl true, .int 1, .int 9999] S = .ok (.bl false) false S := by
      have e0 : run prog (k + 1) 0 [.bl true] S = .ok (.bl false) false S := by
        refine fpo_eq (run_po rfl rfl rfl ?_)
        array_get_dec
      refine fpo_eq (run_po rfl rfl rfl ?_)
      array_get_dec
      refine Call.ok e0 ?_
      array_get_dec
    refine fpo_exc (run_po rfl rfl rfl ?_)
    array_get_dec
    refine Call.ok e ?_
    array_get_dec
  · have e : run prog (k + 2) 1 [.non, .int 1, .int 9999] S = .ok (.bl false) false S := by
      have e0 : run prog (k + 1) 0 [.non] S = .ok (.bl false) false S := by
        refine fpo_eq (run_po rfl rfl rfl ?_)
        array_get_dec
      refine fpo_eq (run_po rfl rfl rfl ?_)
      array_get_dec
      refine Call.ok e0 ?_
      array_get_dec
    refine fpo_exc (run_po rfl rfl rfl ?_)
    array_get_dec
    refine Call.ok e ?_
    array_get_dec
theorem x_num {k : Nat} {S : Store} {v : PV} (hv : v = .int 0 ∨ v = .int 10000 ∨ v = .bl true ∨ v = .non) : Exc (run prog (k + 5) 9 [.loc S.length, v, .non] (S ++ [.ins 0 []])) 1 [v] := ⟨by
  refine run_po rfl rfl rfl ?_
  (conv => whnf)
  refine Call.exc (nots_num hv) ?_
  exact ⟨rfl, rfl⟩⟩
/-- where the row is refused -/
theorem x_row {k : Nat} {S : Store} {v : PV} {c : Nat} {vs : List PV} (h : ∀ S, Exc (run prog (k + 4) 5 [v, .fn 8, .int 12] S) c vs) : Exc (run prog (k + 5) 9 [.loc S.length, .int 1, v] (S ++ [.ins 0 []])) c vs := ⟨by
  have hg := set_get (S := S) (c := .ins 0 [])
  refine run_po rfl rfl rfl ?_
  array_get_dec
  refine Call.ok (r_wantnum (by omega)) ?_
  array_get_dec
  exact (h _).call fun S' => ⟨rfl, rfl⟩⟩
theorem w_none {k : Nat} {S : Store} : run prog (k + 4) 5 [.non, .fn 8, .int 12] S = .exc 2 [.non] S := by
  have e : run prog (k + 3) 2 [.non] S = .ok (.bl false) false S := by
    refine fpo_eq (run_po rfl rfl rfl ?_)
    array_get_dec
  refine fpo_exc (run_po rfl rfl rfl ?_)
  array_get_dec
  refine Call.ok e ?_
  array_get_dec
theorem w_empty {k : Nat} {S : Store} : Exc (run prog (k + 5) 9 [.loc S.length, .int 1, .tup []] (S ++ [.ins 0 []])) 2 [.non] := ⟨by
  have hg := set_get (S := S) (c := .ins 0 [])
  have hg2 := fun d => set_get2 (S := S) (c := .ins 0 []) (d := d)
  refine run_po rfl rfl rfl ?_
  array_get_dec
  refine Call.ok (r_wantnum (by omega)) ?_
  array_get_dec
  refine Call.ok (r_wantrow (ms := []) (.inr rfl) (fun _ h => (nomatch h)) (by decide)) ?_
  (conv => whnf)
  refine Get.mk' (hg2 _) ?_
  (conv => whnf)
  refine Get.mk' rfl ?_
  (conv => whnf)
  have hg3 : ∀ d d', (((S ++ [Cell.ins 0 []]).set S.length d).set S.length d')[S.length]? = some d' := fun d d' => by simp
  refine Get.mk' (hg3 _ _) ?_
  array_get_dec⟩
def badY : List PV := [.tup [.int (-1), .int 1], .tup [.int 1, .int 10000], .tup [.int 1], .non, .tup [.bl true, .int 1], .tup [.int 1, .int (-1)]]
theorem bad_cost {k : Nat} {v : PV} (hv : v ∈ badY) (S : Store) : run prog (k + 3) 8 [v] S = .ok (.bl false) false S := by
  unfold badY at hv
  simp only [List.mem_cons, List.not_mem_nil, or_false] at hv
  rcases hv with rfl | rfl | rfl | rfl | rfl | rfl
  · refine fpo_eq (run_po rfl rfl rfl ?_)
    array_get_dec
    refine Call.ok r_row_tup ?_
    array_get_dec
    refine Call.ok r_num ?_
    array_get_dec
  · refine fpo_eq (run_po rfl rfl rfl ?_)
    array_get_dec
    refine Call.ok r_row_tup ?_
    array_get_dec
    refine Call.ok r_num ?_
    array_get_dec
    refine Call.ok r_num ?_
    array_get_dec
  · refine fpo_eq (run_po rfl rfl rfl ?_)
    array_get_dec
    refine Call.ok r_row_tup ?_
    array_get_dec
  · have e : run prog (k + 2) 2 [.non] S = .ok (.bl false) false S := by
      refine fpo_eq (run_po rfl rfl rfl ?_)
      array_get_dec
    refine fpo_eq (run_po rfl rfl rfl ?_)
    array_get_dec
    refine Call.ok e ?_
    array_get_dec
  · have e : run prog (k + 2) 1 [.bl true, .int 0, .int 9999] S = .ok (.bl false) false S := by
      have e0 : run prog (k + 1) 0 [.bl true] S = .ok (.bl false) false S := by
        refine fpo_eq (run_po rfl rfl rfl ?_)
        array_get_dec
      refine fpo_eq (run_po rfl rfl rfl ?_)
      array_get_dec
      refine Call.ok e0 ?_
      array_get_dec
    refine fpo_eq (run_po rfl rfl rfl ?_)
    array_get_dec
    refine Call.ok r_row_tup ?_
    array_get_dec
    refine Call.ok e ?_
    array_get_dec
  · refine fpo_eq (run_po rfl rfl rfl ?_)
    array_get_dec
    refine Call.ok r_row_tup ?_
    array_get_dec
    refine Call.ok r_num ?_
    array_get_dec
    refine Call.ok r_num ?_
    array_get_dec
theorem enum_at {xs : List PV} {i : Nat} {x : PV} (h : (enumV xs)[i]? = some x) : ∃ y, xs[i]? = some y ∧ x = .tup [.int (i : Int), y] := by
  unfold enumV at h
  rw [List.getElem?_zipWith] at h
  cases q : xs[i]? with
  | none => rw [q] at h; simp at h
  | some y =>
    have hi : i < xs.length := (List.getElem?_eq_some_iff.mp q).1
    rw [q, List.getElem?_range hi] at h
    simp at h
    exact ⟨y, rfl, h.symm⟩
theorem w_bad {k : Nat} {S : Store} {ys : List Yr} {b : PV} (hm : ∀ y ∈ ys, okC y) (hb : b ∈ badY) : run prog (k + 4) 5 [.tup (ys.map yv ++ [b]), .fn 8, .int 12] S = .exc 2 [.int ys.length] S := by
  refine fpo_exc (run_po rfl rfl rfl ?_)
  array_get_dec
  refine Call.ok r_row_tup ?_
  array_get_dec
  refine For.lst (fun i r S' => i ≤ ys.length ∧ ∃ x y, r = [.sh (.tup (ys.map yv ++ [b])), .sh (.fn 8), .sh (.int 12), x, y] ∧ S' = S) ⟨Nat.zero_le _, _, _, rfl, rfl⟩ ?_ ?_
  · rintro i x r S' K hx ⟨hi, a1, a2, rfl, rfl⟩ hK
    obtain ⟨y, hy, rfl⟩ := enum_at hx
    by_cases hl : i < ys.length
    · rw [List.getElem?_append_left (by rw [List.length_map]; exact hl), List.getElem?_map] at hy
      cases q : ys[i]? with
      | none => rw [q] at hy; cases hy
      | some z =>
        rw [q] at hy
        cases hy
        array_get_dec
        refine Call.ok (r_cost (hm z (List.mem_of_getElem? q)) _ (.inr rfl)) ?_
        array_get_dec
        exact hK _ _ ⟨hl, _, _, rfl, rfl⟩
    · obtain rfl : i = ys.length := by omega
      rw [List.getElem?_append_right (by rw [List.length_map]; omega), List.length_map, Nat.sub_self] at hy
      cases hy
      array_get_dec
      refine Call.ok (bad_cost hb S') ?_
      array_get_dec
  · rintro r S' ⟨hi, _⟩
    exfalso
    have hen : ∀ xs : List PV, (enumV xs).length = xs.length := fun xs => by simp [enumV]
    rw [hen, List.length_append, List.length_map] at hi
    simp at hi
    omega
theorem w_many {k : Nat} {S : Store} : run prog (k + 4) 5 [.lst ((List.replicate 13 ((1, 1), false)).map mx), .fn 8, .int 12] S = .exc 3 [.int 12] S := by
  refine fpo_exc (run_po rfl rfl rfl ?_)
  array_get_dec
  refine Call.ok r_row_lst ?_
  array_get_dec
  refine For.lst (fun i r S' => ∃ x y, r = [.sh (.lst ((List.replicate 13 ((1, 1), false)).map mx)), .sh (.fn 8), .sh (.int 12), x, y] ∧ S' = S) ⟨_, _, rfl, rfl⟩ ?_ ?_
  · rintro i x r S' K hx ⟨a1, a2, rfl, rfl⟩ hK
    obtain ⟨y, hy, rfl⟩ := enum_at hx
    obtain ⟨m, hm, rfl⟩ := List.mem_map.mp (List.mem_of_getElem? hy)
    obtain rfl := List.eq_of_mem_replicate hm
    array_get_dec
    refine Call.ok (r_cost (y := (1, 1)) (by unfold okC; decide) _ (.inr rfl)) ?_
    array_get_dec
    exact hK _ _ ⟨_, _, rfl, rfl⟩
  · rintro r S' ⟨a1, a2, rfl, rfl⟩
    array_get_dec
end Lk24
namespace Lk24
open PySem Ci
local macro_rules | `(tactic| array_mem_dec) => `(tactic| first | rfl | with_reducible assumption | ((with_reducible apply decide_eq_true); first | with_reducible assumption | omega) | ((with_reducible apply decide_eq_false); first | with_reducible assumption | omega) | (with_reducible exact beq_self_eq_true _) | (rw [beq_self_eq_true]; rfl) | ((with_reducible apply beq_iff_eq.mpr); omega) | ((with_reducible apply mulR) <;> omega) | ((with_reducible apply mulL) <;> omega) | omega)
local macro_rules | `(tactic| infer_instance) => `(tactic| first | ((with_reducible apply Get.mk'); (first | with_reducible assumption | with_unfolding_all rfl | exact List.getElem?_set_self (by first | assumption | (simp only [List.length_set]; assumption)))) | ((with_reducible refine If.tt ?_ ?_); array_mem_dec) | ((with_reducible refine If.ff ?_ ?_); array_mem_dec) | ((with_reducible apply Opr.sh); with_unfolding_all rfl) | ((with_reducible apply Opr.fr); with_unfolding_all rfl) | ((with_reducible refine And.intro ?_ ?_); array_mem_dec) | (with_reducible exact Res.mk (by with_unfolding_all rfl) (by with_unfolding_all rfl) (trunc_same (by with_unfolding_all rfl))) | (with_reducible exact ResX.mk (by with_unfolding_all rfl) (by with_unfolding_all rfl) (trunc_same (by with_unfolding_all rfl))))
local macro_rules | `(tactic| array_get_dec) => `(tactic| ((conv => whnf); repeat (infer_instance; try (conv => whnf))))
theorem alike2 {k : Nat} {v : PV} {S : Store} (h : small 3 v = true) : run prog (k + 4) 23 [v, v] S = .ok (.bl true) false S := r_alike rfl 3 (k + 3) v S (by omega) h
theorem all_map {α : Type} {e : α → PV} {p : PV → Bool} (h : ∀ a, p (e a) = true) (l : List α) : (l.map e).all p = true := by
  rw [List.all_eq_true]
  intro x hx
  obtain ⟨i, _, rfl⟩ := List.mem_map.mp hx
  exact h i
theorem pY_small {ys : List Yr} (h : ys.length < 1000) : small 2 (pY ys) = true := by
  show (decide ((ys.map yv).length < 8000000) && (ys.map yv).all (small 1)) = true
  rw [all_map (fun a => rfl), List.length_map]
  simp; omega
theorem locBs_map {α : Type} {e : α → PV} {n : Nat} (h : ∀ a, locB n (e a) = true) : ∀ l : List α, locBs n (l.map e) = true
  | [] => by simp [locBs]
  | x :: l => by simp [locBs, h x, locBs_map h l]
theorem new_ok {p : Int} {ys : List Yr} {n : Nat} : locBf n [(0, .int p), (1, pY ys)] = true := by
  have h : locB n (pY ys) = true := by
    unfold pY
    simp only [locB]
    exact locBs_map (fun a => by simp [yv, locB, locBs]) ys
  simp [locBf, locB, h]
theorem dst_ok {d : Dst} {n : Nat} : cellB n (cellD d) = true := by
  unfold cellD cellB
  have := locBs_map (e := PV.int) (n := n) (fun a => by simp [locB]) d.scr
  simp [locBs, locB, this]
theorem dst_all {d : Dst} {n : Nat} {c : Cell} : (List.take 1 [cellD d, c]).all (cellB n) = true := by simp [dst_ok]
theorem pyEq_pY (ys : List Yr) : pyEq (pY ys) (pY ys) = true := by
  unfold pY
  simp only [pyEq]
  induction ys with
  | nil => simp [pyEqs]
  | cons y ys ih => simp [pyEqs, pyEq, yv, ih]
theorem isD_pY {n : Nat} (ys : List Yr) : isD (n + 2) (pY ys) = true := by
  show (ys.map yv).all (isD (n + 1)) = true
  exact all_map (fun a => by cases n <;> rfl) ys
theorem r_eq_same {k : Nat} {S : Store} {p : Int} {ys : List Yr} : run prog (k + 1) 10 [tl p ys, tl p ys] S = .ok (.bl true) false S := by
  refine fpo_eq (run_po rfl rfl rfl ?_)
  array_get_dec
  have hd : isD dD (.tup [.int p, pY ys]) = true := by
    show (isD 39 (.int p) && (isD 39 (pY ys) && true)) = true
    rw [isD_pY (n := 37)]; rfl
  have he : pyEq (.tup [.int p, pY ys]) (.tup [.int p, pY ys]) = true := by
    simp only [pyEq, pyEqs, pyEq_pY]; simp
  refine ⟨?_, ?_⟩
  · show (isD dD (.tup [.int p, pY ys]) && isD dD (.tup [.int p, pY ys])) = true
    rw [hd]; rfl
  · (conv => whnf)
    refine ⟨?_, rfl, trunc_same rfl⟩
    show PV.bl (pyEq (.tup [.int p, pY ys]) (.tup [.int p, pY ys])) = _
    rw [he]
theorem r_eq_row {k : Nat} {S : Store} {p : Int} {ys : List Yr} : run prog (k + 1) 10 [tl p ys, pY ys] S = .ok (.bl false) false S := by
  refine fpo_eq (run_po rfl rfl rfl ?_)
  array_get_dec
theorem tl_isi {p : Int} {ys : List Yr} : isiOk (tl p ys) = true := rfl
/-- a tool made of drawn things, the row's cell alone in the store -/
theorem r_price {k : Nat} {d : Dst} {p q : Int} {ys : List Yr} (hm : ∀ y ∈ ys, okC y) (hl : ys.length ≤ 12) (h0 : 1 ≤ q ∧ q ≤ 9999) (hn : ys ≠ []) : run prog (k + 6) 19 [tl p ys, .int q] [cellD d] = .ok (tl q ys) true [cellD d] := by
  have e := r_init (k := k) (c := cellD d) (p := q) (ms := ys.map fun y => (y, false)) (v := pY ys) (.inr (by rw [mx_yv]; rfl)) (fun m h => by obtain ⟨y, hy, rfl⟩ := List.mem_map.mp h; exact hm y hy) (by rw [List.length_map]; exact hl) h0 (by simpa using hn)
  rw [List.map_map, show (fun x : Yr × Bool => x.1) ∘ (fun y : Yr => (y, false)) = id from rfl, List.map_id] at e
  refine fpo_eq (run_po rfl rfl rfl ?_)
  array_get_dec
  refine Call.ok e ?_
  (conv => whnf)
  refine ⟨new_ok, dst_all, ?_⟩
  array_get_dec
end Lk24
namespace Lk24
open PySem Ci
local macro_rules | `(tactic| array_mem_dec) => `(tactic| first | rfl | with_reducible assumption | ((with_reducible apply decide_eq_true); first | with_reducible assumption | omega) | ((with_reducible apply decide_eq_false); first | with_reducible assumption | omega) | (with_reducible exact beq_self_eq_true _) | (rw [beq_self_eq_true]; rfl) | ((with_reducible apply beq_iff_eq.mpr); omega) | ((with_reducible apply mulR) <;> omega) | ((with_reducible apply mulL) <;> omega) | omega)
local macro_rules | `(tactic| infer_instance) => `(tactic| first | ((with_reducible apply Get.mk'); (first | with_reducible assumption | with_unfolding_all rfl | exact List.getElem?_set_self (by first | assumption | (simp only [List.length_set]; assumption)))) | ((with_reducible refine If.tt ?_ ?_); array_mem_dec) | ((with_reducible refine If.ff ?_ ?_); array_mem_dec) | ((with_reducible apply Opr.sh); with_unfolding_all rfl) | ((with_reducible apply Opr.fr); with_unfolding_all rfl) | ((with_reducible refine And.intro ?_ ?_); array_mem_dec) | (with_reducible exact Res.mk (by with_unfolding_all rfl) (by with_unfolding_all rfl) (trunc_same (by with_unfolding_all rfl))) | (with_reducible exact ResX.mk (by with_unfolding_all rfl) (by with_unfolding_all rfl) (trunc_same (by with_unfolding_all rfl))))
local macro_rules | `(tactic| array_get_dec) => `(tactic| ((conv => whnf); repeat (infer_instance; try (conv => whnf))))
theorem r_initY {k : Nat} {c : Cell} {p : Int} {ys : List Yr} (hm : ∀ y ∈ ys, okC y) (hl : ys.length ≤ 12) (h0 : 1 ≤ p ∧ p ≤ 9999) (hn : ys ≠ []) : run prog (k + 5) 9 [.loc 1, .int p, pY ys] [c, .ins 0 []] = .ok .non false [c, .ins 0 [(0, .int p), (1, pY ys)]] := by
  have e := r_init (k := k) (c := c) (p := p) (ms := ys.map fun y => (y, false)) (v := pY ys) (.inr (by rw [mx_yv]; rfl)) (fun m h => by obtain ⟨y, hy, rfl⟩ := List.mem_map.mp h; exact hm y hy) (by rw [List.length_map]; exact hl) h0 (by simpa using hn)
  rw [List.map_map, show (fun x : Yr × Bool => x.1) ∘ (fun y : Yr => (y, false)) = id from rfl, List.map_id] at e
  exact e
theorem pair_small {p : Int} {ys : List Yr} (h : ys.length < 1000) : small 3 (.tup [.int p, pY ys]) = true := by
  show (decide (2 < 8000000) && (small 2 (.int p) && (small 2 (pY ys) && true))) = true
  rw [pY_small h]; rfl
abbrev Kq : Cxt := ⟨prog, run prog 60⟩
/-- the costs by ages -/
def costL (p : Int) (ys : List Yr) : List Int := (rI 1 (ys.length + 1)).map (keptV p ys)
theorem costL_at {p a : Int} {ys : List Yr} (h0 : 1 ≤ a) (h1 : a ≤ ys.length) : atI ((costL p ys).map PV.int) (a - 1) = some (.int (keptV p ys a)) := by
  refine atI_map PV.int (by omega) ?_
  unfold costL
  rw [List.getElem?_map, rI_get (by omega)]
  show some _ = some _
  congr 2; omega
def okR (a : PV) : Bool := isD dD a && (toD a).showable && (reprS a).length ≤ big && PyData.strOk (reprS a)
theorem r_repr {a : PV} (h : okR a = true) : op1 .repr a = .sh (.str (reprS a)) := by
  show (if isD dD a && (toD a).showable && (reprS a).length ≤ big && PyData.strOk (reprS a) then ORes.sh (.str (reprS a)) else .bad 49) = _
  unfold okR at h
  rw [if_pos h]
theorem w_bad' {k : Nat} {ys : List Yr} {b : PV} (hm : ∀ y ∈ ys, okC y) (hb : b ∈ badY) (S : Store) : Exc (run prog (k + 4) 5 [.tup (ys.map yv ++ [b]), .fn 8, .int 12] S) 2 [.int ((ys.map yv).length : Nat)] := by
  rw [List.length_map]; exact .of (w_bad hm hb)
theorem nums_ok {v : PV} (hv : v = .int 0 ∨ v = .int 10000 ∨ v = .bl true ∨ v = .non) : okR v = true := by
  rcases hv with rfl | rfl | rfl | rfl <;> decide +kernel
/-- the last part: refused tools -/
theorem law9 {Q : KQ Fl} {E : XQ} (hQ : ∀ fr r S', Q (.rt (.bl true) fr) r S') {w0 w2 : PV} {ys : List Yr} (hm : ∀ y ∈ ys, okC y) (hl : ys.length ≤ 11) {w4 w5 w6 w8 w12 w13 w14 w15 w16 w17 w18 w19 : PV} {d : Dst} :
    wSs Kq (f_law.body.drop 19) [.sh w0, .sh (.loc 0), .sh w2, .sh (pY ys), .sh w4, .sh w5, .sh w6, .no, .sh w8, .no, .no, .no, .ow w12, .sh w13, .sh w14, .sh w15, .ow w16, .sh w17, .sh w18, .ow w19, .no, .no, .no, .no, .no, .no] [cellD d] Q E := by
  obtain ⟨i1, bad, d1, e1, hb⟩ := r_pick (P := prog) (f := 21) (g := 22) (k := 58) d badY rfl rfl (by decide) (by decide)
  obtain ⟨i2, num, d2, e2, hnum⟩ := r_pick (P := prog) (f := 21) (g := 22) (k := 58) d1 [.int 0, .int 10000, .bl true, .non] rfl rfl (by decide) (by decide)
  have hb := List.mem_of_getElem? hb
  have hnum : num = .int 0 ∨ num = .int 10000 ∨ num = .bl true ∨ num = .non := by simpa using List.mem_of_getElem? hnum
  have hrep := nums_ok hnum
  array_get_dec
  refine Call.ok e1 ?_
  array_get_dec
  refine Call.ok e2 ?_
  array_get_dec
  show For _ _ ((rI 0 5).map PV.int) _ _ _
  refine For.enc PV.int (fun done r S' => ∃ a, r = [.sh w0, .sh (.loc 0), .sh w2, .sh (pY ys), .sh w4, .sh w5, .sh w6, .no, .sh w8, .no, .no, .no, .ow w12, .sh w13, .sh w14, .sh w15, .ow w16, .sh w17, .sh w18, .ow w19, .sh bad, .sh num, a, .no, .no, .no]) ⟨_, rfl⟩ ?_ ?_
  · rintro done x rest r S' K he ⟨a, rfl⟩ hK
    obtain ⟨_, _, hx1, hx2⟩ := rI_split he
    have hx : x = 0 ∨ x = 1 ∨ x = 2 ∨ x = 3 ∨ x = 4 := by omega
    rcases hx with rfl | rfl | rfl | rfl | rfl
    · rcases hnum with rfl | rfl | rfl | rfl
      all_goals
        array_get_dec
        refine (x_num (by simp)).call fun S2 => ?_
        (conv => whnf)
        refine If.ff rfl ?_
        (conv => whnf)
        refine Get.mk' rfl ?_
        (conv => whnf)
        refine Opr.sh (r_repr hrep) ?_
        (conv => whnf)
        refine Opr.sh (r_repr hrep) ?_
        array_get_dec
        exact hK _ _ ⟨_, rfl⟩
    · array_get_dec
      refine ⟨?_, ?_⟩
      · show (ys.map yv).length + 1 ≤ 4000000
        rw [List.length_map]; omega
      (conv => whnf)
      refine Get.mk' rfl ?_
      (conv => whnf)
      refine (x_row (k := 55) (fun S => w_bad' hm hb S)).call fun S2 => ?_
      array_get_dec
      exact hK _ _ ⟨_, rfl⟩
    · array_get_dec
      refine w_empty.call fun S2 => ?_
      array_get_dec
      exact hK _ _ ⟨_, rfl⟩
    · array_get_dec
      refine (x_row (k := 55) (fun S => .of w_none)).call fun S2 => ?_
      array_get_dec
      exact hK _ _ ⟨_, rfl⟩
    · array_get_dec
      refine (x_row (k := 55) (fun S => .of w_many)).call fun S2 => ?_
      array_get_dec
      exact hK _ _ ⟨_, rfl⟩
  · rintro r S' ⟨a, rfl⟩
    array_get_dec
    refine Call.ok r_age ?_
    array_get_dec
    refine Call.ok r_age ?_
    array_get_dec
    exact hQ _ _ _
/-- tools of other prices: which is never dearer -/
theorem law8 {Q : KQ Fl} {E : XQ} (hQ : ∀ fr r S', Q (.rt (.bl true) fr) r S') {w0 : PV} {p : Int} {ys : List Yr} (hm : ∀ y ∈ ys, okC y) (hl : ys.length ≤ 4) (hn : ys ≠ []) {w5 w6 w8 w12 w13 w14 w15 w16 : PV} {d : Dst} :
    wSs Kq (f_law.body.drop 15) [.sh w0, .sh (.loc 0), .sh (.int p), .sh (pY ys), .sh (tl p ys), .sh w5, .sh w6, .no, .sh w8, .no, .no, .no, .ow w12, .sh w13, .sh w14, .sh w15, .ow w16, .no, .no, .no, .no, .no, .no, .no, .no, .no] [cellD d] Q E := by
  obtain ⟨p2, ys2, d1, e1, q0, q1, hn2, hl2, hy2⟩ := r_tool (k := 58) d
  have hm2 : ∀ y ∈ ys2, okC y := fun y h => by have := hy2 y h; unfold okC; omega
  have hr := rng1 (n := 13) (by decide) (by decide)
  array_get_dec
  refine Call.ok e1 ?_
  array_get_dec
  refine Call.ok (r_initY hm2 (by omega) (by omega) hn2) ?_
  (conv => whnf)
  refine ⟨new_ok, dst_all, ?_⟩
  array_get_dec
  show Cmp _ ((rI 0 13).map PV.int) _ _
  refine Cmp.encT PV.int (ndr p ys p2 ys2) (fun y hy k' hk1 hk2 => ?_) ?_
  · obtain ⟨y1, y2⟩ := mem_rI.mp hy
    have hr2 := rng2 (a := y) (b := 13) (by omega) (by omega) (by decide) (by decide)
    array_get_dec
    refine Cmp.encT PV.int (fun m => decide ((PR p ys m).1 < (PR p2 ys2 m).1)) (fun m hm' k2 hk3 hk4 => ?_) ?_
    · obtain ⟨m1, m2⟩ := mem_rI.mp hm'
      array_get_dec
      refine Call.ok (r_plan hn2 (by omega) (by omega) (by omega)) ?_
      array_get_dec
      refine Call.ok (r_plan hn (by omega) (by omega) (by omega)) ?_
      array_get_dec
      refine ⟨fun h => ?_, fun h => ?_⟩
      · array_get_dec
        exact hk3 h
      · exact hk4 h
    · generalize hf : (rI y 13).filter (fun m => decide ((PR p ys m).1 < (PR p2 ys2 m).1)) = F
      have hF : ndr p ys p2 ys2 y = F.isEmpty := by
        rw [← hf, Bool.eq_iff_iff, List.isEmpty_iff, List.filter_eq_nil_iff]
        unfold ndr
        simp only [List.all_eq_true, decide_eq_true_eq]
        constructor
        · intro h a ha q; have := h a ha; omega
        · intro h a ha; have := h a ha; omega
      cases F with
      | nil =>
        array_get_dec
        exact hk1 hF
      | cons a F =>
        array_get_dec
        refine ⟨?_, ?_⟩
        · show (isD dD (.lst ((a :: F).map PV.int)) && isD dD (.lst [])) = true
          have : isD dD (.lst ((a :: F).map PV.int)) = true := isD_ints (n := 39) (a :: F)
          rw [this]; rfl
        array_get_dec
        exact hk2 hF
  · have hlen : ((rI 0 13).filter (ndr p ys p2 ys2)).length ≤ 13 := by
      have := List.length_filter_le (ndr p ys p2 ys2) (rI 0 13)
      rw [rI_len] at this; exact this
    have hf : ((rI 0 13).filter (ndr p ys p2 ys2)).head? = (rI 0 13).find? (ndr p ys p2 ys2) := List.head?_filter ..
    have hbe : atI (((rI 0 13).filter (ndr p ys p2 ys2)).map PV.int ++ [.non]) 0 = some (beV p ys p2 ys2) := by
      unfold beV
      rw [← hf]
      cases (rI 0 13).filter (ndr p ys p2 ys2) <;> rfl
    have hbo : isD dD (beV p ys p2 ys2) = true ∧ pyEq (beV p ys p2 ys2) (beV p ys p2 ys2) = true := by
      unfold beV
      split
      · exact ⟨rfl, by simp [pyEq]⟩
      · exact ⟨rfl, by simp [pyEq]⟩
    have hself : beV p ys p ys = .int 0 := by
      unfold beV
      have h0 : ndr p ys p ys 0 = true := by
        unfold ndr
        rw [List.all_eq_true]
        intro m _
        exact decide_eq_true (Int.le_refl _)
      rw [rI_cons (by decide), List.find?_cons, h0]
    generalize (rI 0 13).filter (ndr p ys p2 ys2) = F at *
    array_get_dec
    refine Call.ok (r_even hn (by omega) hn2 (by omega)) ?_
    (conv => whnf)
    refine ⟨?_, ?_⟩
    · show (F.map PV.int).length + 1 ≤ 4000000
      rw [List.length_map]; omega
    (conv => whnf)
    refine Get.mk' hbe ?_
    have hv : (∃ y, beV p ys p2 ys2 = .int y) ∨ beV p ys p2 ys2 = .non := by
      unfold beV
      split
      · exact .inl ⟨_, rfl⟩
      · exact .inr rfl
    generalize beV p ys p2 ys2 = v at *
    have e2 := r_even (k := 57) (S := [cellD d1]) (p := p) (p2 := p) hn (by omega) hn (by omega)
    rw [hself] at e2
    rcases hv with ⟨y, rfl⟩ | rfl
    · array_get_dec
      refine Call.ok e2 ?_
      array_get_dec
      exact law9 hQ hm (by omega)
    · array_get_dec
      refine Call.ok e2 ?_
      array_get_dec
      exact law9 hQ hm (by omega)
end Lk24
namespace Lk24
open PySem Ci
local macro_rules | `(tactic| array_mem_dec) => `(tactic| first | rfl | with_reducible assumption | ((with_reducible apply decide_eq_true); first | with_reducible assumption | omega) | ((with_reducible apply decide_eq_false); first | with_reducible assumption | omega) | (with_reducible exact beq_self_eq_true _) | (rw [beq_self_eq_true]; rfl) | ((with_reducible apply beq_iff_eq.mpr); omega) | ((with_reducible apply mulR) <;> omega) | ((with_reducible apply mulL) <;> omega) | omega)
local macro_rules | `(tactic| infer_instance) => `(tactic| first | ((with_reducible apply Get.mk'); (first | with_reducible assumption | with_unfolding_all rfl | exact List.getElem?_set_self (by first | assumption | (simp only [List.length_set]; assumption)))) | ((with_reducible refine If.tt ?_ ?_); array_mem_dec) | ((with_reducible refine If.ff ?_ ?_); array_mem_dec) | ((with_reducible apply Opr.sh); with_unfolding_all rfl) | ((with_reducible apply Opr.fr); with_unfolding_all rfl) | ((with_reducible refine And.intro ?_ ?_); array_mem_dec) | (with_reducible exact Res.mk (by with_unfolding_all rfl) (by with_unfolding_all rfl) (trunc_same (by with_unfolding_all rfl))) | (with_reducible exact ResX.mk (by with_unfolding_all rfl) (by with_unfolding_all rfl) (trunc_same (by with_unfolding_all rfl))))
local macro_rules | `(tactic| array_get_dec) => `(tactic| ((conv => whnf); repeat (infer_instance; try (conv => whnf))))
theorem flat_rep {α : Type} (x : α) : ∀ n : Nat, (List.replicate n [x]).flatten = List.replicate n x
  | 0 => rfl
  | n + 1 => by rw [List.replicate_succ, List.flatten_cons, flat_rep x n]; rfl
theorem lastY_get {ys : List Yr} (hn : ys ≠ []) : ys[ys.length - 1]? = some (lastY ys) := by
  have hl : 1 ≤ ys.length := by cases ys with | nil => exact absurd rfl hn | cons _ _ => simp
  unfold lastY
  rw [List.getD_eq_getElem?_getD, List.getElem?_eq_getElem (by omega)]; rfl
theorem worths_at {p : Int} {ys : List Yr} (hn : ys ≠ []) {a : Int} (h0 : 0 ≤ a) (h1 : a < 20) : atI (([.int p] ++ (ys.map (·.2)).map PV.int) ++ (List.replicate (Int.toNat 20) [PV.int (lastY ys).2]).flatten) a = some (.int (worthV p ys a)) := by
  have hl : 1 ≤ ys.length := by cases ys with | nil => exact absurd rfl hn | cons _ _ => simp
  refine atI_pos h0 ?_
  rw [flat_rep]
  by_cases ha : a = 0
  · subst ha; rfl
  · have hw : worthV p ys a = (ys.getD ((min a ys.length) - 1).toNat (0, 0)).2 := by unfold worthV; rw [if_neg ha]
    rw [hw]
    by_cases hb : a ≤ ys.length
    · rw [List.getElem?_append_left (by simp; omega), List.getElem?_append_right (by simp; omega), List.map_map, List.getElem?_map, show a.toNat - [PV.int p].length = a.toNat - 1 by simp, Int.min_eq_left hb, show (a - 1).toNat = a.toNat - 1 by omega, List.getD_eq_getElem?_getD, List.getElem?_eq_getElem (by omega)]
      rfl
    · rw [List.getElem?_append_right (by simp; omega), Int.min_eq_right (by omega), show ((ys.length : Int) - 1).toNat = ys.length - 1 by omega, List.getD_eq_getElem?_getD, lastY_get hn, List.getElem?_replicate, if_pos (by simp; omega)]
      rfl
theorem late_at {ys : List Yr} (hn : ys ≠ []) {a : Int} (h0 : 0 ≤ a) (h1 : a < 20) : atI (ys.map yv ++ (List.replicate (Int.toNat 20) [yv (lastY ys)]).flatten) a = some (yv (yrAt ys a)) := by
  refine atI_pos h0 ?_
  rw [flat_rep]
  by_cases hb : a < ys.length
  · rw [List.getElem?_append_left (by simp; omega), List.getElem?_map]
    unfold yrAt
    rw [if_pos hb, List.getD_eq_getElem?_getD, List.getElem?_eq_getElem (by omega)]; rfl
  · rw [List.getElem?_append_right (by simp; omega), List.getElem?_replicate, if_pos (by simp; omega)]
    unfold yrAt
    rw [if_neg hb]
theorem law7b {Q : KQ Fl} {E : XQ} (hQ : ∀ fr r S', Q (.rt (.bl true) fr) r S') {w0 : PV} {p : Int} {ys : List Yr} (hm : ∀ y ∈ ys, okC y) (hl : ys.length ≤ 4) (hn : ys ≠ []) {W : List PV} (hw : ∀ a : Int, 0 ≤ a → a < 20 → atI W a = some (.int (worthV p ys a))) {d : Dst} :
    wSs Kq (f_law.body.drop 10) [.sh w0, .sh (.loc 0), .sh (.int p), .sh (pY ys), .sh (tl p ys), .sh (.lst ((costL p ys).map .int)), .sh (.int (bestU p ys (rI 2 (ys.length + 1)))), .no, .no, .no, .no, .no, .ow (.lst W), .no, .no, .no, .no, .no, .no, .no, .no, .no, .no, .no, .no, .no] [cellD d] Q E := by
  have hlast := at_last hn
  have hl1 : 1 ≤ ys.length := by cases ys with | nil => exact absurd rfl hn | cons _ _ => simp
  obtain ⟨b1, b2⟩ := bestU_in (p := p) (ys := ys) (n := ys.length) (by omega) (rI 2 (ys.length + 1)) (fun a ha => by have := mem_rI.mp ha; omega)
  have hbest := costL_at (p := p) b1 b2
  array_get_dec
  show For _ _ ((rI 0 8).map PV.int) _ _ _
  refine For.enc PV.int (fun done r S' => ∃ a, r = [.sh w0, .sh (.loc 0), .sh (.int p), .sh (pY ys), .sh (tl p ys), .sh (.lst ((costL p ys).map .int)), .sh (.int (bestU p ys (rI 2 (ys.length + 1)))), .no, .no, .no, .no, .no, .ow (.lst W), a, .no, .no, .no, .no, .no, .no, .no, .no, .no, .no, .no, .no] ∧ S' = [cellD d]) ⟨_, rfl, rfl⟩ ?_ ?_
  · rintro done x rest r S' K he ⟨a, rfl, rfl⟩ hK
    obtain ⟨_, _, hx1, hx2⟩ := rI_split he
    have hx := hw x hx1 (by omega)
    array_get_dec
    refine Call.ok (r_worth hn hx1) ?_
    array_get_dec
    refine Call.ok (alike2 rfl) ?_
    array_get_dec
    exact hK _ _ ⟨_, rfl, rfl⟩
  rintro r S' ⟨a, rfl, rfl⟩
  obtain ⟨v1, d1, e1, l1, u1⟩ := r_dr (P := prog) (f := 21) (k := 59) d 6 rfl (by decide) (by decide)
  obtain ⟨v2, d2, e2, l2, u2⟩ := r_dr (P := prog) (f := 21) (k := 59) d1 60 rfl (by decide) (by decide)
  obtain ⟨v3, d3, e3, l3, u3⟩ := r_dr (P := prog) (f := 21) (k := 59) d2 4 rfl (by decide) (by decide)
  have hr := rng2 (a := v1) (b := v1 + (1 + v3)) (by omega) (by omega) (by omega) (by omega)
  array_get_dec
  refine Call.ok e1 ?_
  array_get_dec
  refine Call.ok e2 ?_
  array_get_dec
  refine Call.ok e3 ?_
  array_get_dec
  refine Cmp.encM PV.int (yrAt ys) yv (fun y hy k' hk => ?_) ?_
  · obtain ⟨y1, y2⟩ := mem_rI.mp hy
    have hla := late_at hn (a := y) (by omega) (by omega)
    array_get_dec
    refine ⟨?_, ?_⟩
    · show (ys.map yv).length + 20 ≤ 4000000
      rw [List.length_map]; omega
    (conv => whnf)
    refine Get.mk' hla ?_
    exact hk
  rw [show (rI v1 (v1 + (1 + v3))).map (yrAt ys) = lateL ys v1 (1 + v3) from rfl]
  have hw1 := hw v1 l1 (by omega)
  have hl2 := late_last (ys := ys) (a := v1) (m := 1 + v3) (by omega)
  array_get_dec
  refine Cmp.encM yv (·.1) PV.int (fun y hy k' hk => ?_) ?_
  · array_get_dec
    exact hk
  array_get_dec
  refine Opr.sh sum1_ints ?_
  array_get_dec
  refine Call.ok (r_mend hn (by omega) l1 (by omega) (by omega) (by omega)) ?_
  array_get_dec
  have hbb : (!decide (keptV p ys (bestU p ys (rI 2 (ys.length + 1))) * (1 + v3) < mendV p ys v1 v2 (1 + v3) * bestU p ys (rI 2 (ys.length + 1)))) = decide (mendV p ys v1 v2 (1 + v3) * bestU p ys (rI 2 (ys.length + 1)) ≤ keptV p ys (bestU p ys (rI 2 (ys.length + 1))) * (1 + v3)) := by
    rw [← decide_not, decide_eq_decide]; omega
  rw [hbb]
  refine Call.ok (r_truth rfl) ?_
  array_get_dec
  exact law8 hQ hm hl hn
theorem law7 {Q : KQ Fl} {E : XQ} (hQ : ∀ fr r S', Q (.rt (.bl true) fr) r S') {w0 : PV} {p : Int} {ys : List Yr} (hm : ∀ y ∈ ys, okC y) (hl : ys.length ≤ 4) (hn : ys ≠ []) {d : Dst} :
    wSs Kq (f_law.body.drop 9) [.sh w0, .sh (.loc 0), .sh (.int p), .sh (pY ys), .sh (tl p ys), .sh (.lst ((costL p ys).map .int)), .sh (.int (bestU p ys (rI 2 (ys.length + 1)))), .no, .no, .no, .no, .no, .no, .no, .no, .no, .no, .no, .no, .no, .no, .no, .no, .no, .no, .no] [cellD d] Q E := by
  have hlast := at_last hn
  have hl1 : 1 ≤ ys.length := by cases ys with | nil => exact absurd rfl hn | cons _ _ => simp
  obtain ⟨b1, b2⟩ := bestU_in (p := p) (ys := ys) (n := ys.length) (by omega) (rI 2 (ys.length + 1)) (fun a ha => by have := mem_rI.mp ha; omega)
  have hbest := costL_at (p := p) b1 b2
  array_get_dec
  refine Cmp.encM yv (·.2) PV.int (fun y hy k' hk => ?_) ?_
  · array_get_dec
    exact hk
  (conv => whnf)
  refine ⟨?_, ?_⟩
  · show 1 + ((ys.map (·.2)).map PV.int).length ≤ 4000000
    rw [List.length_map, List.length_map]; omega
  array_get_dec
  refine ⟨?_, ?_⟩
  · show ([PV.int p] ++ (ys.map (·.2)).map PV.int).length + 20 ≤ 4000000
    rw [List.length_append, List.length_map, List.length_map]; simp; omega
  have hw := fun a h0 h1 => worths_at (p := p) hn (a := a) h0 h1
  exact law7b hQ hm hl hn hw
end Lk24
namespace Lk24
open PySem Ci
local macro_rules | `(tactic| array_mem_dec) => `(tactic| first | rfl | with_reducible assumption | ((with_reducible apply decide_eq_true); first | with_reducible assumption | omega) | ((with_reducible apply decide_eq_false); first | with_reducible assumption | omega) | (with_reducible exact beq_self_eq_true _) | (rw [beq_self_eq_true]; rfl) | ((with_reducible apply beq_iff_eq.mpr); omega) | ((with_reducible apply mulR) <;> omega) | ((with_reducible apply mulL) <;> omega) | omega)
local macro_rules | `(tactic| infer_instance) => `(tactic| first | ((with_reducible apply Get.mk'); (first | with_reducible assumption | with_unfolding_all rfl | exact List.getElem?_set_self (by first | assumption | (simp only [List.length_set]; assumption)))) | ((with_reducible refine If.tt ?_ ?_); array_mem_dec) | ((with_reducible refine If.ff ?_ ?_); array_mem_dec) | ((with_reducible apply Opr.sh); with_unfolding_all rfl) | ((with_reducible apply Opr.fr); with_unfolding_all rfl) | ((with_reducible refine And.intro ?_ ?_); array_mem_dec) | (with_reducible exact Res.mk (by with_unfolding_all rfl) (by with_unfolding_all rfl) (trunc_same (by with_unfolding_all rfl))) | (with_reducible exact ResX.mk (by with_unfolding_all rfl) (by with_unfolding_all rfl) (trunc_same (by with_unfolding_all rfl))))
local macro_rules | `(tactic| array_get_dec) => `(tactic| ((conv => whnf); repeat (infer_instance; try (conv => whnf))))
theorem best_one {p : Int} {ys : List Yr} {n : Int} (h : 1 ≤ n) : bestU p ys (rI 1 (n + 1)) = bestU p ys (rI 2 (n + 1)) := by
  rw [rI_cons (by omega)]
  unfold bestU
  rw [List.foldl_cons, if_neg (by omega)]; rfl
theorem law_plan {Q : KQ Fl} {E : XQ} (hQ : ∀ fr r S', Q (.rt (.bl true) fr) r S') {w0 : PV} {p : Int} {ys : List Yr} (hm : ∀ y ∈ ys, okC y) (hl : ys.length ≤ 4) (hn : ys ≠ []) {d : Dst} :
    wSs Kq (f_law.body.drop 7) [.sh w0, .sh (.loc 0), .sh (.int p), .sh (pY ys), .sh (tl p ys), .sh (.lst ((costL p ys).map .int)), .sh (.int (bestU p ys (rI 2 (ys.length + 1)))), .no, .no, .no, .no, .no, .no, .no, .no, .no, .no, .no, .no, .no, .no, .no, .no, .no, .no, .no] [cellD d] Q E := by
  have hl1 : 1 ≤ ys.length := by cases ys with | nil => exact absurd rfl hn | cons _ _ => simp
  array_get_dec
  refine Call.ok (r_best hn (by omega)) ?_
  array_get_dec
  refine Call.ok (alike2 rfl) ?_
  array_get_dec
  show For _ _ ((rI 0 7).map PV.int) _ _ _
  refine For.enc PV.int (fun done r S' => ∃ a b c e, r = [.sh w0, .sh (.loc 0), .sh (.int p), .sh (pY ys), .sh (tl p ys), .sh (.lst ((costL p ys).map .int)), .sh (.int (bestU p ys (rI 2 (ys.length + 1)))), .no, a, b, c, e, .no, .no, .no, .no, .no, .no, .no, .no, .no, .no, .no, .no, .no, .no] ∧ S' = [cellD d]) ⟨_, _, _, _, rfl, rfl⟩ ?_ ?_
  · rintro done x rest r S' K he ⟨a, b, c, e, rfl, rfl⟩ hK
    obtain ⟨_, _, hx1, hx2⟩ := rI_split he
    have hlen : ((((ys.map yv).length : Nat) : Int)) = (ys.length : Int) := by rw [List.length_map]
    have hways := r_ways (n := ys.length) (by omega) (by omega) 7 52 x [cellD d] hx1 (by omega) (by omega)
    rw [← hlen] at hways
    array_get_dec
    refine Call.ok hways ?_
    rw [hlen]
    (conv => whnf)
    refine Cmp.encM wE (fun w => ((costV p ys w, negL w) : Rw)) rl (fun w hw k' hk => ?_) ?_
    · have g := (mem_wf 7 x w hx1 (by omega)).mp hw
      array_get_dec
      refine Cmp.encM PV.int (keptV p ys) PV.int (fun a ha k2 hk2 => ?_) ?_
      · have hc := costL_at (p := p) (g.1 a ha).1 (g.1 a ha).2
        array_get_dec
        exact hk2
      array_get_dec
      refine Opr.sh sum1_ints ?_
      (conv => whnf)
      refine Cmp.encM PV.int (fun a => -a) PV.int (fun a ha k2 hk2 => ?_) ?_
      · array_get_dec
        exact hk2
      · (conv => whnf)
        exact hk
    · have hG := PR_good (p := p) (m := x) hn (by omega) hx1 (by omega)
      have hne : (wf (ys.length : Int) 7 x).map (fun w => ((costV p ys w, negL w) : Rw)) ≠ [] := by
        intro h
        have := (mem_wf 7 x _ hx1 (by omega)).mpr hG.way
        rw [List.map_eq_nil_iff.mp h] at this
        cases this
      obtain ⟨mm, hm1, hm2⟩ := min_rl hne
      obtain ⟨w, hw, hwe⟩ := List.mem_map.mp hm1.1
      have g := (mem_wf 7 x w hx1 (by omega)).mp hw
      have hPR : PR p ys x = (costV p ys w, w) := by
        refine hG.uniq ⟨g, rfl, fun v hv => ?_⟩
        have := hm1.2 (costV p ys v, negL v) (List.mem_map.mpr ⟨v, (mem_wf 7 x v hx1 (by omega)).mpr hv, rfl⟩)
        rw [← hwe] at this
        exact this
      subst hwe
      have hpl := r_plan (k := 58) (S := [cellD d]) (p := p) (m := x) hn (by omega) hx1 (by omega)
      rw [hPR] at hpl
      have hsm : small 3 (re (costV p ys w, w)) = true := by
        have gl := way_nonneg g
        show (decide (2 < 8000000) && (true && ((decide ((w.map PV.int).length < 8000000) && (w.map PV.int).all (small 1)) && true))) = true
        rw [all_map (fun a => rfl), List.length_map]
        simp; omega
      have hnn : (negL w).map (fun a => -a) = w := negL_negL w
      array_get_dec
      refine Opr.sh hm2 ?_
      array_get_dec
      refine Call.ok hpl ?_
      array_get_dec
      refine Cmp.encM PV.int (fun a => -a) PV.int (fun a ha k2 hk2 => ?_) ?_
      · array_get_dec
        exact hk2
      rw [hnn]
      array_get_dec
      refine Call.ok (alike2 hsm) ?_
      array_get_dec
      refine Call.ok hpl ?_
      array_get_dec
      refine Call.ok (r_costs g.1) ?_
      array_get_dec
      exact hK _ _ ⟨_, _, _, _, rfl, rfl⟩
  rintro r S' ⟨a, b, c, e, rfl, rfl⟩
  array_get_dec
  exact law7 hQ hm hl hn
theorem law_start {Q : KQ Fl} {E : XQ} (hQ : ∀ fr r S', Q (.rt (.bl true) fr) r S') {w0 : PV} {p : Int} {ys : List Yr} (hm : ∀ y ∈ ys, okC y) (hl : ys.length ≤ 4) (hn : ys ≠ []) (p0 : 1 ≤ p) (p1 : p ≤ 60) {d : Dst} :
    wSs Kq (f_law.body.drop 3) [.sh w0, .sh (.loc 0), .sh (.int p), .sh (pY ys), .ow (tl p ys), .no, .no, .no, .no, .no, .no, .no, .no, .no, .no, .no, .no, .no, .no, .no, .no, .no, .no, .no, .no, .no] [cellD d] Q E := by
  have hl1 : 1 ≤ ys.length := by cases ys with | nil => exact absurd rfl hn | cons _ _ => simp
  array_get_dec
  refine Call.ok (alike2 (pair_small (by omega))) ?_
  array_get_dec
  refine Call.ok (r_initY hm (by omega) (by omega) hn) ?_
  (conv => whnf)
  refine ⟨new_ok, dst_all, ?_⟩
  array_get_dec
  refine Call.ok r_eq_same ?_
  array_get_dec
  refine Call.ok r_eq_row ?_
  array_get_dec
  refine Call.ok (r_price hm (by omega) (by omega) hn) ?_
  array_get_dec
  refine Call.ok (r_initY hm (by omega) (by omega) hn) ?_
  (conv => whnf)
  refine ⟨new_ok, dst_all, ?_⟩
  array_get_dec
  refine Call.ok r_eq_same ?_
  have hr := rng2 (a := 1) (b := ((((ys.map yv).length : Nat) : Int)) + 1) (by omega) (by omega) (by omega) (by rw [List.length_map]; omega)
  array_get_dec
  rw [List.length_map]
  refine Cmp.encM PV.int (keptV p ys) PV.int (fun a ha k2 hk2 => ?_) ?_
  · obtain ⟨a1, a2⟩ := mem_rI.mp ha
    array_get_dec
    refine Call.ok (r_lkept a1 (by omega)) ?_
    array_get_dec
    exact hk2
  rw [show (rI 1 (ys.length + 1)).map (keptV p ys) = costL p ys from rfl]
  have hcl : (costL p ys).length = ys.length := by unfold costL; rw [List.length_map, rI_len]; omega
  array_get_dec
  refine For.lst (fun i r S' => i ≤ ys.length ∧ ∃ a b, r = [.sh w0, .sh (.loc 0), .sh (.int p), .sh (pY ys), .sh (tl p ys), .sh (.lst ((costL p ys).map .int)), .sh (.int (bestU p ys (rI 1 (i + 1)))), a, b, .no, .no, .no, .no, .no, .no, .no, .no, .no, .no, .no, .no, .no, .no, .no, .no, .no] ∧ S' = [cellD d]) ⟨Nat.zero_le _, _, _, rfl, rfl⟩ ?_ ?_
  · rintro i x r S' K hx ⟨hi, a, b, rfl, rfl⟩ hK
    obtain ⟨y, hy, rfl⟩ := enum_at hx
    rw [List.getElem?_map] at hy
    have hil : i < ys.length := by
      cases q : (costL p ys)[i]? with
      | none => rw [q] at hy; cases hy
      | some z => have := (List.getElem?_eq_some_iff.mp q).1; omega
    have hyv : y = .int (keptV p ys (i + 1)) := by
      unfold costL at hy
      rw [List.getElem?_map, rI_get (by omega)] at hy
      cases hy
      show PV.int (keptV p ys (1 + (i : Int))) = _
      rw [Int.add_comm]
    subst hyv
    obtain ⟨b1, b2⟩ := bestU_in (p := p) (ys := ys) (n := ys.length) (by omega) (rI 1 (i + 1)) (fun a ha => by have := mem_rI.mp ha; omega)
    have hs : bestU p ys (rI 1 (((i + 1 : Nat) : Int) + 1)) = if keptV p ys (i + 1) * bestU p ys (rI 1 (i + 1)) < keptV p ys (bestU p ys (rI 1 (i + 1))) * (i + 1) then (i + 1 : Int) else bestU p ys (rI 1 (i + 1)) := by
      rw [show (((i + 1 : Nat) : Int) + 1) = ((i : Int) + 1) + 1 by omega, rI_snoc (by omega)]
      unfold bestU
      rw [List.foldl_append]; rfl
    rw [hs] at hK
    generalize bestU p ys (rI 1 (i + 1)) = bb at *
    have hc := costL_at (p := p) b1 b2
    array_get_dec
    refine Call.ok (r_kept (by omega) (by omega)) ?_
    array_get_dec
    refine Call.ok (r_yearly (by omega) (by omega) (by omega)) ?_
    array_get_dec
    refine Call.ok (r_low3 (by omega) (by omega)) ?_
    array_get_dec
    refine Call.ok (alike2 rfl) ?_
    array_get_dec
    refine ⟨fun h => ?_, fun h => ?_⟩
    · rw [if_pos (of_decide_eq_true h)] at hK
      array_get_dec
      exact hK _ _ ⟨hil, _, _, rfl, rfl⟩
    · rw [if_neg (of_decide_eq_false h)] at hK
      array_get_dec
      exact hK _ _ ⟨hil, _, _, rfl, rfl⟩
  rintro r S' ⟨hi, a, b, rfl, rfl⟩
  have hel : (enumV ((costL p ys).map PV.int)).length = ys.length := by simp [enumV, hcl]
  rw [hel, best_one (by omega)]
  (conv => whnf)
  exact law_plan (E := E) (w0 := w0) (p := p) (d := d) hQ hm hl hn
theorem LawRun_ok : ∀ ns : List Int, FOk (run prog 61 lawId [.lst (ns.map .int)] []) fun v _ _ => v = .bl true := by
  intro ns
  obtain ⟨p, ys, d1, e1, p0, p1, hn, hl, hy⟩ := r_tool (k := 58) ⟨ns, 0, 79, 0⟩
  have hm : ∀ y ∈ ys, okC y := fun y h => by have := hy y h; unfold okC; omega
  refine fpo_fok (run_po rfl rfl rfl ?_)
  array_get_dec
  refine Call.ok e1 ?_
  array_get_dec
  refine Cmp.inv yv (fun done S acc => ∃ (ms : List (Yr × Bool)) (d : Dst), S = [cellD d] ∧ acc = ms.map mx ∧ ms.map (·.1) = done) ⟨[], d1, rfl, rfl, rfl⟩ ?_ ?_
  · rintro done x rest S acc K he ⟨ms, d, rfl, rfl, hd⟩ hK
    obtain ⟨d', e⟩ := r_mixed (P := prog) (f := 21) (g := 24) (k := 58) d [.int x.1, .int x.2] (yv x) (.inr rfl) rfl rfl
    rcases e with e | e
    · array_get_dec
      refine Call.ok e ?_
      array_get_dec
      exact hK _ _ ⟨ms ++ [(x, true)], d', rfl, by rw [List.map_append]; rfl, by rw [List.map_append, hd]; rfl⟩
    · array_get_dec
      refine Call.ok e ?_
      array_get_dec
      exact hK _ _ ⟨ms ++ [(x, false)], d', rfl, by rw [List.map_append]; rfl, by rw [List.map_append, hd]; rfl⟩
  rintro S acc ⟨ms, d2, rfl, rfl, hms⟩
  have hme : ∀ m ∈ ms, okC m.1 := fun m h => hm m.1 (by rw [← hms]; exact List.mem_map.mpr ⟨m, h, rfl⟩)
  have hml : ms.length ≤ 12 := by have := congrArg List.length hms; rw [List.length_map] at this; omega
  have hmn : ms ≠ [] := fun h => by rw [h] at hms; exact hn hms.symm
  obtain ⟨d3, e2⟩ := r_mixed (P := prog) (f := 21) (g := 24) (k := 58) d2 (ms.map mx) (.lst (ms.map mx)) (.inl rfl) rfl rfl
  rcases e2 with e2 | e2
  · array_get_dec
    refine Call.ok e2 ?_
    array_get_dec
    have e3 := r_init (k := 55) (c := cellD d3) (p := p) (.inl rfl) hme hml (by omega) hmn
    rw [hms] at e3
    refine Call.ok e3 ?_
    (conv => whnf)
    refine ⟨new_ok, dst_all, ?_⟩
    exact law_start (fun _ _ _ => rfl) hm hl hn p0 p1
  · array_get_dec
    refine Call.ok e2 ?_
    array_get_dec
    have e3 := r_init (k := 55) (c := cellD d3) (p := p) (.inr rfl) hme hml (by omega) hmn
    rw [hms] at e3
    refine Call.ok e3 ?_
    (conv => whnf)
    refine ⟨new_ok, dst_all, ?_⟩
    exact law_start (fun _ _ _ => rfl) hm hl hn p0 p1
theorem lawRun : LawRun prog 61 lawId 63 := fun ns _ => by
  obtain ⟨v, fr, S, e, h⟩ := FOk.eq (LawRun_ok ns)
  rw [h] at e
  exact ⟨fr, S, e⟩
end Lk24
namespace Lk24
open PySem Ci L2 PyProof.Rows He

abbrev pw : Program := PySem.Challenge.pw_lenttools_k24_whole_wears
abbrev rw_ : PySem.W.OpenLaw := PySem.Challenge.rw_lenttools_k24_whole_wears
def top (i : Nat) : Stmt := pw.main.body.getD i (.Pass ⟨0, 0, 0, 0⟩)
def d_0 : DefI := ⟨"is_whole", "is_whole", none, top 6, ["value"], ["value"], f_is_whole⟩
def d_1 : DefI := ⟨"is_number", "is_number", none, top 7, ["value", "least", "most"], ["value", "least", "most"], f_is_number⟩
def d_2 : DefI := ⟨"is_row", "is_row", none, top 8, ["value"], ["value"], f_is_row⟩
def d_3 : DefI := ⟨"frozen", "frozen", none, top 9, ["value", "part"], ["value"], f_frozen⟩
def d_4 : DefI := ⟨"want_number", "want_number", none, top 10, ["value", "least", "most"], ["value", "least", "most"], f_want_number⟩
def d_5 : DefI := ⟨"want_row", "want_row", none, top 11, ["value", "is_item", "most", "index", "item"], ["value", "is_item", "most"], f_want_row⟩
def d_6 : DefI := ⟨"reduced", "reduced", none, top 13, ["top", "bottom", "one", "other"], ["top", "bottom"], f_reduced⟩
def d_7 : DefI := ⟨"is_less", "is_less", none, top 14, ["one", "other"], ["one", "other"], f_is_less⟩
def d_8 : DefI := ⟨"is_cost", "is_cost", none, top 17, ["value"], ["value"], f_is_cost⟩
def d_9 : DefI := ⟨"__init__", "Tool.__init__", some "Tool", inClass (top 18) 0, ["self", "price", "years"], ["self", "price", "years"], f_Tool_init⟩
def d_10 : DefI := ⟨"__eq__", "Tool.__eq__", some "Tool", inClass (top 18) 1, ["self", "other"], ["self", "other"], f_Tool_eq⟩
def d_11 : DefI := ⟨"kept", "Tool.kept", some "Tool", inClass (top 18) 2, ["self", "age", "upkeep", "price"], ["self", "age"], f_Tool_kept⟩
def d_12 : DefI := ⟨"yearly", "Tool.yearly", some "Tool", inClass (top 18) 3, ["self", "age"], ["self", "age"], f_Tool_yearly⟩
def d_13 : DefI := ⟨"best_age", "Tool.best_age", some "Tool", inClass (top 18) 4, ["self", "best", "age"], ["self"], f_Tool_best_age⟩
def d_14 : DefI := ⟨"plan", "Tool.plan", some "Tool", inClass (top 18) 5, ["self", "years", "table", "left", "rows", "age", "cost", "ages", "one"], ["self", "years"], f_Tool_plan⟩
def d_15 : DefI := ⟨"costs", "Tool.costs", some "Tool", inClass (top 18) 6, ["self", "ages", "age"], ["self", "ages"], f_Tool_costs⟩
def d_16 : DefI := ⟨"worth_mending", "Tool.worth_mending", some "Tool", inClass (top 18) 7, ["self", "age", "repair", "more", "last", "rows", "cost", "year", "upkeep", "price"], ["self", "age", "repair", "more"], f_Tool_worth_mending⟩
def d_17 : DefI := ⟨"worth", "Tool.worth", some "Tool", inClass (top 18) 8, ["self", "age"], ["self", "age"], f_Tool_worth⟩
def d_18 : DefI := ⟨"break_even", "Tool.break_even", some "Tool", inClass (top 18) 9, ["self", "other", "years", "more"], ["self", "other"], f_Tool_break_even⟩
def d_19 : DefI := ⟨"with_price", "Tool.with_price", some "Tool", inClass (top 18) 10, ["self", "price"], ["self", "price"], f_Tool_with_price⟩
def d_20 : DefI := ⟨"is_age", "is_age", none, top 19, ["value"], ["value"], f_is_age⟩
def d_21 : DefI := ⟨"_law_taken", "_law_taken", none, top 21, ["row", "many", "found", "cell"], ["row", "many"], f__law_taken⟩
def d_22 : DefI := ⟨"_law_pick", "_law_pick", none, top 22, ["row", "kinds"], ["row", "kinds"], f__law_pick⟩
def d_23 : DefI := ⟨"_law_alike", "_law_alike", none, top 23, ["found", "due", "k"], ["found", "due"], f__law_alike⟩
def d_24 : DefI := ⟨"_law_mixed", "_law_mixed", none, top 24, ["row", "value"], ["row", "value"], f__law_mixed⟩
def d_25 : DefI := ⟨"_law_truth", "_law_truth", none, top 25, ["found", "due"], ["found", "due"], f__law_truth⟩
def d_26 : DefI := ⟨"_law_low3", "_law_low3", none, top 26, ["top", "bottom", "one", "other"], ["top", "bottom"], f__law_low3⟩
def d_27 : DefI := ⟨"_law_kept", "_law_kept", none, top 27, ["price", "years", "age", "one"], ["price", "years", "age"], f__law_kept⟩
def d_28 : DefI := ⟨"_law_ways", "_law_ways", none, top 28, ["years", "most", "found", "age", "rest"], ["years", "most"], f__law_ways⟩
def d_29 : DefI := ⟨"_law_tool", "_law_tool", none, top 29, ["row", "price", "left", "years", "k"], ["row"], f__law_tool⟩
def d_30 : DefI := ⟨"law", "law", none, top 30, ["script", "row", "price", "years", "made", "costs", "best", "k", "cost", "many", "ways", "ages", "worths", "age", "repair", "more", "late", "told", "other", "never", "bad", "number", "turn", "e", "one", "year"], ["script"], f_law⟩
def defs : List DefI := [d_0, d_1, d_2, d_3, d_4, d_5, d_6, d_7, d_8, d_9, d_10, d_11, d_12, d_13, d_14, d_15, d_16, d_17, d_18, d_19, d_20, d_21, d_22, d_23, d_24, d_25, d_26, d_27, d_28, d_29, d_30]
def errs : List (Option ErrD) := [none, some ⟨"BadNumber", "BadNumber.__init__", inClass (top 2) 0⟩, some ⟨"BadItem", "BadItem.__init__", inClass (top 3) 0⟩, some ⟨"TooMany", "TooMany.__init__", inClass (top 4) 0⟩]
def cls : List ClsD := [⟨"Tool", 9, some 10, [0, 1], [(2, 11), (3, 12), (5, 13), (6, 14), (8, 15), (9, 16), (4, 17), (10, 18), (7, 19)]⟩]
def hd : Hd := ⟨prog, pw.main.file, defs, cls, errs, ["price", "years", "kept", "yearly", "worth", "best_age", "plan", "with_price", "costs", "worth_mending", "break_even", "value", "index", "limit"], ["MOST_YEARS"]⟩
theorem dc_0 : DefC hd.T d_0.d d_0.st d_0.N d_0.ps := ⟨⟨rfl, rfl, rfl, by decide +kernel, rfl, by decide +kernel, by decide +kernel⟩, by decide +kernel, rfl, rfl, rfl⟩
theorem dc_1 : DefC hd.T d_1.d d_1.st d_1.N d_1.ps := ⟨⟨rfl, rfl, rfl, by decide +kernel, rfl, by decide +kernel, by decide +kernel⟩, by decide +kernel, rfl, rfl, rfl⟩
theorem dc_2 : DefC hd.T d_2.d d_2.st d_2.N d_2.ps := ⟨⟨rfl, rfl, rfl, by decide +kernel, rfl, by decide +kernel, by decide +kernel⟩, by decide +kernel, rfl, rfl, rfl⟩
theorem dc_3 : DefC hd.T d_3.d d_3.st d_3.N d_3.ps := ⟨⟨rfl, rfl, rfl, by decide +kernel, rfl, by decide +kernel, by decide +kernel⟩, by decide +kernel, rfl, rfl, rfl⟩
theorem dc_4 : DefC hd.T d_4.d d_4.st d_4.N d_4.ps := ⟨⟨rfl, rfl, rfl, by decide +kernel, rfl, by decide +kernel, by decide +kernel⟩, by decide +kernel, rfl, rfl, rfl⟩
theorem dc_5 : DefC hd.T d_5.d d_5.st d_5.N d_5.ps := ⟨⟨rfl, rfl, rfl, by decide +kernel, rfl, by decide +kernel, by decide +kernel⟩, by decide +kernel, rfl, rfl, rfl⟩
theorem dc_6 : DefC hd.T d_6.d d_6.st d_6.N d_6.ps := ⟨⟨rfl, rfl, rfl, by decide +kernel, rfl, by decide +kernel, by decide +kernel⟩, by decide +kernel, rfl, rfl, rfl⟩
theorem dc_7 : DefC hd.T d_7.d d_7.st d_7.N d_7.ps := ⟨⟨rfl, rfl, rfl, by decide +kernel, rfl, by decide +kernel, by decide +kernel⟩, by decide +kernel, rfl, rfl, rfl⟩
theorem dc_8 : DefC hd.T d_8.d d_8.st d_8.N d_8.ps := ⟨⟨rfl, rfl, rfl, by decide +kernel, rfl, by decide +kernel, by decide +kernel⟩, by decide +kernel, rfl, rfl, rfl⟩
theorem dc_9 : DefC hd.T d_9.d d_9.st d_9.N d_9.ps := ⟨⟨rfl, rfl, rfl, by decide +kernel, rfl, by decide +kernel, by decide +kernel⟩, by decide +kernel, rfl, rfl, rfl⟩
theorem dc_10 : DefC hd.T d_10.d d_10.st d_10.N d_10.ps := ⟨⟨rfl, rfl, rfl, by decide +kernel, rfl, by decide +kernel, by decide +kernel⟩, by decide +kernel, rfl, rfl, rfl⟩
theorem dc_11 : DefC hd.T d_11.d d_11.st d_11.N d_11.ps := ⟨⟨rfl, rfl, rfl, by decide +kernel, rfl, by decide +kernel, by decide +kernel⟩, by decide +kernel, rfl, rfl, rfl⟩
theorem dc_12 : DefC hd.T d_12.d d_12.st d_12.N d_12.ps := ⟨⟨rfl, rfl, rfl, by decide +kernel, rfl, by decide +kernel, by decide +kernel⟩, by decide +kernel, rfl, rfl, rfl⟩
theorem dc_13 : DefC hd.T d_13.d d_13.st d_13.N d_13.ps := ⟨⟨rfl, rfl, rfl, by decide +kernel, rfl, by decide +kernel, by decide +kernel⟩, by decide +kernel, rfl, rfl, rfl⟩
theorem dc_14 : DefC hd.T d_14.d d_14.st d_14.N d_14.ps := ⟨⟨rfl, rfl, rfl, by decide +kernel, rfl, by decide +kernel, by decide +kernel⟩, by decide +kernel, rfl, rfl, rfl⟩
theorem dc_15 : DefC hd.T d_15.d d_15.st d_15.N d_15.ps := ⟨⟨rfl, rfl, rfl, by decide +kernel, rfl, by decide +kernel, by decide +kernel⟩, by decide +kernel, rfl, rfl, rfl⟩
theorem dc_16 : DefC hd.T d_16.d d_16.st d_16.N d_16.ps := ⟨⟨rfl, rfl, rfl, by decide +kernel, rfl, by decide +kernel, by decide +kernel⟩, by decide +kernel, rfl, rfl, rfl⟩
theorem dc_17 : DefC hd.T d_17.d d_17.st d_17.N d_17.ps := ⟨⟨rfl, rfl, rfl, by decide +kernel, rfl, by decide +kernel, by decide +kernel⟩, by decide +kernel, rfl, rfl, rfl⟩
theorem dc_18 : DefC hd.T d_18.d d_18.st d_18.N d_18.ps := ⟨⟨rfl, rfl, rfl, by decide +kernel, rfl, by decide +kernel, by decide +kernel⟩, by decide +kernel, rfl, rfl, rfl⟩
theorem dc_19 : DefC hd.T d_19.d d_19.st d_19.N d_19.ps := ⟨⟨rfl, rfl, rfl, by decide +kernel, rfl, by decide +kernel, by decide +kernel⟩, by decide +kernel, rfl, rfl, rfl⟩
theorem dc_20 : DefC hd.T d_20.d d_20.st d_20.N d_20.ps := ⟨⟨rfl, rfl, rfl, by decide +kernel, rfl, by decide +kernel, by decide +kernel⟩, by decide +kernel, rfl, rfl, rfl⟩
theorem dc_21 : DefC hd.T d_21.d d_21.st d_21.N d_21.ps := ⟨⟨rfl, rfl, rfl, by decide +kernel, rfl, by decide +kernel, by decide +kernel⟩, by decide +kernel, rfl, rfl, rfl⟩
theorem dc_22 : DefC hd.T d_22.d d_22.st d_22.N d_22.ps := ⟨⟨rfl, rfl, rfl, by decide +kernel, rfl, by decide +kernel, by decide +kernel⟩, by decide +kernel, rfl, rfl, rfl⟩
theorem dc_23 : DefC hd.T d_23.d d_23.st d_23.N d_23.ps := ⟨⟨rfl, rfl, rfl, by decide +kernel, rfl, by decide +kernel, by decide +kernel⟩, by decide +kernel, rfl, rfl, rfl⟩
theorem dc_24 : DefC hd.T d_24.d d_24.st d_24.N d_24.ps := ⟨⟨rfl, rfl, rfl, by decide +kernel, rfl, by decide +kernel, by decide +kernel⟩, by decide +kernel, rfl, rfl, rfl⟩
theorem dc_25 : DefC hd.T d_25.d d_25.st d_25.N d_25.ps := ⟨⟨rfl, rfl, rfl, by decide +kernel, rfl, by decide +kernel, by decide +kernel⟩, by decide +kernel, rfl, rfl, rfl⟩
theorem dc_26 : DefC hd.T d_26.d d_26.st d_26.N d_26.ps := ⟨⟨rfl, rfl, rfl, by decide +kernel, rfl, by decide +kernel, by decide +kernel⟩, by decide +kernel, rfl, rfl, rfl⟩
theorem dc_27 : DefC hd.T d_27.d d_27.st d_27.N d_27.ps := ⟨⟨rfl, rfl, rfl, by decide +kernel, rfl, by decide +kernel, by decide +kernel⟩, by decide +kernel, rfl, rfl, rfl⟩
theorem dc_28 : DefC hd.T d_28.d d_28.st d_28.N d_28.ps := ⟨⟨rfl, rfl, rfl, by decide +kernel, rfl, by decide +kernel, by decide +kernel⟩, by decide +kernel, rfl, rfl, rfl⟩
theorem dc_29 : DefC hd.T d_29.d d_29.st d_29.N d_29.ps := ⟨⟨rfl, rfl, rfl, by decide +kernel, rfl, by decide +kernel, by decide +kernel⟩, by decide +kernel, rfl, rfl, rfl⟩
theorem dc_30 : DefC hd.T d_30.d d_30.st d_30.N d_30.ps := ⟨⟨rfl, rfl, rfl, by decide +kernel, rfl, by decide +kernel, by decide +kernel⟩, by decide +kernel, rfl, rfl, rfl⟩
theorem fns_ok : ∀ (f : Nat) (d : DefI), defs[f]? = some d → prog.fns f = some d.d ∧ DefC hd.T d.d d.st d.N d.ps ∧ BindN (defArgs d.st) d.ps
  | 0, _, rfl => ⟨rfl, dc_0, fun _ _ _ _ _ _ _ _ _ _ _ us hl => match us, hl with | [_], _ => rfl⟩
  | 1, _, rfl => ⟨rfl, dc_1, fun _ _ _ _ _ _ _ _ _ _ _ us hl => match us, hl with | [_, _, _], _ => rfl⟩
  | 2, _, rfl => ⟨rfl, dc_2, fun _ _ _ _ _ _ _ _ _ _ _ us hl => match us, hl with | [_], _ => rfl⟩
  | 3, _, rfl => ⟨rfl, dc_3, fun _ _ _ _ _ _ _ _ _ _ _ us hl => match us, hl with | [_], _ => rfl⟩
  | 4, _, rfl => ⟨rfl, dc_4, fun _ _ _ _ _ _ _ _ _ _ _ us hl => match us, hl with | [_, _, _], _ => rfl⟩
  | 5, _, rfl => ⟨rfl, dc_5, fun _ _ _ _ _ _ _ _ _ _ _ us hl => match us, hl with | [_, _, _], _ => rfl⟩
  | 6, _, rfl => ⟨rfl, dc_6, fun _ _ _ _ _ _ _ _ _ _ _ us hl => match us, hl with | [_, _], _ => rfl⟩
  | 7, _, rfl => ⟨rfl, dc_7, fun _ _ _ _ _ _ _ _ _ _ _ us hl => match us, hl with | [_, _], _ => rfl⟩
  | 8, _, rfl => ⟨rfl, dc_8, fun _ _ _ _ _ _ _ _ _ _ _ us hl => match us, hl with | [_], _ => rfl⟩
  | 9, _, rfl => ⟨rfl, dc_9, fun _ _ _ _ _ _ _ _ _ _ _ us hl => match us, hl with | [_, _, _], _ => rfl⟩
  | 10, _, rfl => ⟨rfl, dc_10, fun _ _ _ _ _ _ _ _ _ _ _ us hl => match us, hl with | [_, _], _ => rfl⟩
  | 11, _, rfl => ⟨rfl, dc_11, fun _ _ _ _ _ _ _ _ _ _ _ us hl => match us, hl with | [_, _], _ => rfl⟩
  | 12, _, rfl => ⟨rfl, dc_12, fun _ _ _ _ _ _ _ _ _ _ _ us hl => match us, hl with | [_, _], _ => rfl⟩
  | 13, _, rfl => ⟨rfl, dc_13, fun _ _ _ _ _ _ _ _ _ _ _ us hl => match us, hl with | [_], _ => rfl⟩
  | 14, _, rfl => ⟨rfl, dc_14, fun _ _ _ _ _ _ _ _ _ _ _ us hl => match us, hl with | [_, _], _ => rfl⟩
  | 15, _, rfl => ⟨rfl, dc_15, fun _ _ _ _ _ _ _ _ _ _ _ us hl => match us, hl with | [_, _], _ => rfl⟩
  | 16, _, rfl => ⟨rfl, dc_16, fun _ _ _ _ _ _ _ _ _ _ _ us hl => match us, hl with | [_, _, _, _], _ => rfl⟩
  | 17, _, rfl => ⟨rfl, dc_17, fun _ _ _ _ _ _ _ _ _ _ _ us hl => match us, hl with | [_, _], _ => rfl⟩
  | 18, _, rfl => ⟨rfl, dc_18, fun _ _ _ _ _ _ _ _ _ _ _ us hl => match us, hl with | [_, _], _ => rfl⟩
  | 19, _, rfl => ⟨rfl, dc_19, fun _ _ _ _ _ _ _ _ _ _ _ us hl => match us, hl with | [_, _], _ => rfl⟩
  | 20, _, rfl => ⟨rfl, dc_20, fun _ _ _ _ _ _ _ _ _ _ _ us hl => match us, hl with | [_], _ => rfl⟩
  | 21, _, rfl => ⟨rfl, dc_21, fun _ _ _ _ _ _ _ _ _ _ _ us hl => match us, hl with | [_, _], _ => rfl⟩
  | 22, _, rfl => ⟨rfl, dc_22, fun _ _ _ _ _ _ _ _ _ _ _ us hl => match us, hl with | [_, _], _ => rfl⟩
  | 23, _, rfl => ⟨rfl, dc_23, fun _ _ _ _ _ _ _ _ _ _ _ us hl => match us, hl with | [_, _], _ => rfl⟩
  | 24, _, rfl => ⟨rfl, dc_24, fun _ _ _ _ _ _ _ _ _ _ _ us hl => match us, hl with | [_, _], _ => rfl⟩
  | 25, _, rfl => ⟨rfl, dc_25, fun _ _ _ _ _ _ _ _ _ _ _ us hl => match us, hl with | [_, _], _ => rfl⟩
  | 26, _, rfl => ⟨rfl, dc_26, fun _ _ _ _ _ _ _ _ _ _ _ us hl => match us, hl with | [_, _], _ => rfl⟩
  | 27, _, rfl => ⟨rfl, dc_27, fun _ _ _ _ _ _ _ _ _ _ _ us hl => match us, hl with | [_, _, _], _ => rfl⟩
  | 28, _, rfl => ⟨rfl, dc_28, fun _ _ _ _ _ _ _ _ _ _ _ us hl => match us, hl with | [_, _], _ => rfl⟩
  | 29, _, rfl => ⟨rfl, dc_29, fun _ _ _ _ _ _ _ _ _ _ _ us hl => match us, hl with | [_], _ => rfl⟩
  | 30, _, rfl => ⟨rfl, dc_30, fun _ _ _ _ _ _ _ _ _ _ _ us hl => match us, hl with | [_], _ => rfl⟩
  | n + 31, d, h => by simp [defs] at h
theorem errs_ok : ∀ (c : Nat) (e : ErrD), errs[c]? = some (some e) → (∀ f ∈ prog.xf c, f < hd.nms.length) ∧ errS e.st ((prog.xf c).map fun f => hd.nms.getD f Str.empty) = true ∧ BindN (defArgs e.st) (parN e.st)
  | 0, _, h => by cases h
  | 1, _, rfl => ⟨by decide +kernel, by decide +kernel, fun _ _ _ _ _ _ _ _ _ _ _ us hl => match us, hl with | [_, _], _ => rfl⟩
  | 2, _, rfl => ⟨by decide +kernel, by decide +kernel, fun _ _ _ _ _ _ _ _ _ _ _ us hl => match us, hl with | [_, _], _ => rfl⟩
  | 3, _, rfl => ⟨by decide +kernel, by decide +kernel, fun _ _ _ _ _ _ _ _ _ _ _ us hl => match us, hl with | [_, _], _ => rfl⟩
  | n + 4, d, h => by simp [errs] at h
theorem xf_ok : ∀ c, prog.xf c ≠ [] → ∃ e, errs[c]? = some (some e)
  | 0, h => absurd rfl h
  | 1, _ => ⟨_, rfl⟩
  | 2, _ => ⟨_, rfl⟩
  | 3, _ => ⟨_, rfl⟩
  | n + 4, h => absurd rfl h
theorem lenm_ok : ∀ c, prog.lenm c = none
  | 0 => rfl
  | _ + 1 => rfl
theorem clsN_ok : ∀ c, prog.init c = cls[c]?.map (·.ini)
  | 0 => rfl
  | _ + 1 => rfl
theorem cls_ok : ∀ (c : Nat) (d : ClsD), cls[c]? = some d → hd.clsB d = true ∧ prog.cf c = d.cf ∧ (∀ m, prog.mth c m = d.mth.lookup m) ∧ prog.eqm c = d.eq
  | 0, _, rfl => ⟨by decide +kernel, rfl, fun _ => rfl, rfl⟩
  | n + 1, d, h => by simp [cls] at h
theorem txt : hd.Txt pw := ⟨rfl, by decide +kernel, fns_ok, errs_ok, xf_ok, by decide +kernel, lenm_ok, fun _ => rfl, clsN_ok, cnd_of (by decide +kernel), cls_ok⟩
/-! ### the head -/
abbrev R : PySem.W.OpenRow := PySem.W.OpenLaw.row rw_
def ob (s : PySem.W.SharedT) : AlC := hd.obsG 6 (HandSHeadRun.getT s)
theorem ob_eq (s : PySem.W.SharedT) : ob s = (hd.hook 6).obs s.abs := Hd.obsG_eq (HandSHeadRun.getT_eq s)
abbrev loose : List Str := ["__name__", "LendError", "BadNumber", "BadItem", "TooMany", "is_whole", "is_number", "is_row", "frozen", "want_number", "want_row", "reduced", "is_less", "MOST_YEARS", "is_cost", "Tool", "is_age", "_law_taken", "_law_pick", "_law_alike", "_law_mixed", "_law_truth", "_law_low3", "_law_kept", "_law_ways", "_law_tool"]
theorem run_ (w : World) : HandSHeadRun.RunEq R (PySem.W.view R.prog [30]) (hd.hook 6) ob 4000 loose w := by
  intro os
  kernel_rfl
end Lk24
open PySem PySem.W PySem.Calls PyProof.Rows in
/-! ### the law -/
theorem PySem.Challenge.cw_lenttools_k24_whole_wears_holds' (L : Ci.LawRun Lk24.prog 61 Lk24.lawId 63) : PySem.Challenge.rw_lenttools_k24_whole_wears.Holds := by
  w_on; o_law
  refine HandSHeadRun.head_any (r := PySem.W.OpenLaw.row PySem.Challenge.rw_lenttools_k24_whole_wears) (q := PySem.W.view (PySem.W.OpenLaw.row PySem.Challenge.rw_lenttools_k24_whole_wears).prog [30]) (H := Lk24.hd.hook 6) (ob := Lk24.ob) (M := 4000) (loose := Lk24.loose) (d := HandSHeadRun.topDef (PySem.W.OpenLaw.row PySem.Challenge.rw_lenttools_k24_whole_wears).prog 30) (kwd := []) Lk24.ob_eq
    (by kernel_rfl) (fun s => by kernel_rfl) Lk24.run_ (by kernel_rfl) (by kernel_rfl) (by kernel_rfl) (by rfl) (by first | assumption | decide +kernel) (by decide +kernel) ⟨rfl, rfl, rfl, rfl, rfl, by decide +kernel⟩ ?hw ?hc
  case hw => w_witness2
  case hc =>
    exact Ci.Hd.walk (M := 60) (f := Lk24.lawId) (y := "script") (di := Lk24.d_30) Lk24.txt rfl (by kernel_rfl) ⟨rfl, by decide, by decide⟩ (fun w hp Y => Y) rfl rfl (by kernel_rfl) rfl L
theorem PySem.Challenge.cw_lenttools_k24_whole_wears_holds : PySem.Challenge.rw_lenttools_k24_whole_wears.Holds := by
  exact PySem.Challenge.cw_lenttools_k24_whole_wears_holds' Lk24.lawRun
