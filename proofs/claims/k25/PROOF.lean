import PyProof.Rows.All
import Wide.All
import OpenK.AllK
import Wide.FinOn
import KE.SortData
import PyProof.ReprRoads
import HandS.ForMost
import HandS.More
import HandS.Conv
import HandS.Defaults
import HandS.Property
import HandS.DictComp
import HandS.Exc
import HandS.WordsExc
import HandS.TupAny
import HandS.TupMul
import HandS.RaiseMore
import HandS.IsInst
import KE.DataCmp
import KE.DataEq
import HandS.TupLen
import HandS.SetFor
import HandS.Star
import HandS.Ends
import HandS.HeadEnd
import HandS.Walk
import PyProof.Draws
import KE.GoesMore
import HandS.Flow
import HandS.Head0
import HandS.Head1
import HandS.Head2
import HandS.HeadHook1
import HandS.HeadHook2
import KE.KStateDown
import HandS.Words
import PySem.Challenge.RW_hueturns_k25_whole_ways
set_option Elab.async false
set_option linter.all false
set_option maxRecDepth 100000
set_option maxHeartbeats 0
/-! The core language and its evaluator: plain Lean, no model in sight. -/
namespace HT

/-- a value, deep: containers are what they hold; ref: a thing of the mutable store -/
inductive PV where
  | non
  | bl (b : Bool)
  | int (i : Int)
  | str (s : List Nat)
  | tup (xs : List PV)
  | lst (xs : List PV)
  | dct (kvs : List (PV × PV))
  | obj (c : Nat) (fs : List (Nat × PV))
  | ref (n : Nat)

/-- a thing of the store -/
inductive DO where
  | lst (xs : List PV)
  | dct (kvs : List (PV × PV))
  | obj (c : Nat) (fs : List (Nat × PV))

abbrev Rho := List (Option PV)
abbrev Hs := List DO

inductive BOp where
  | add | sub | mul | fdiv | mod | pow
  deriving DecidableEq
inductive COp where
  | eq | ne | lt | le | gt | ge | inn | nin
  deriving DecidableEq
inductive Blt where
  | len | sorted | sortedSet | lenSet | list | tuple | abs | min2 | max2 | int | str | repr | all | any | sum | divmod | bool
  deriving DecidableEq
/-- isinstance's second argument -/
inductive Ty where
  | int | bool | str | tuple | list | cls (c : Nat)
  deriving DecidableEq
inductive Bm where
  | get1 | get2 | join | index
  deriving DecidableEq
inductive Mm where
  | append | extend | remove | pop
  deriving DecidableEq
inductive Tgt where
  | name (i : Nat)
  | names (is : List Nat)
  deriving DecidableEq

inductive CE where
  | var (i : Nat)
  | cst (v : PV)
  | neg (e : CE)
  | notE (e : CE)
  | bin (op : BOp) (a b : CE)
  | cmp (op : COp) (a b : CE)
  | chain (op1 op2 : COp) (a b c : CE)
  | isN (e : CE) (want : Bool)
  | andE (a b : CE)
  | orE (a b : CE)
  | ite (c a b : CE)
  | tupE (es : List CE)
  | tupS (fs : List Bool) (es : List CE)
  | lstE (es : List CE)
  | dctE (kvs : List (CE × CE))
  | call (f : Nat) (es : List CE)
  | callK (f : Nat) (es : List CE) (perm : List Nat)
  | mk (c : Nat) (es : List CE)
  | meth (m : Nat) (o : CE) (es : List CE)
  | attr (f : Nat) (o : CE)
  | sub (o i : CE)
  | slice (o : CE) (lo hi : Option CE)
  | blt (b : Blt) (es : List CE)
  | bm (m : Bm) (o : CE) (es : List CE)
  | lc (own : List Nat) (t : Tgt) (it : CE) (conds : List CE) (elt : CE)
  | dc (own : List Nat) (t : Tgt) (it : CE) (k v : CE)
  | rng1 (a : CE)
  | rng2 (a b : CE)
  | enum (a : CE)
  | fstr (es : List CE)
  | mut (m : Mm) (o : CE) (es : List CE)
  | isI (t : Ty) (e : CE)
  | bad

inductive CS where
  | set (i : Nat) (e : CE)
  | setM (i : Nat) (e : CE)
  | par (is : List (Nat × Bool)) (es : List CE)
  | setT (is : List Nat) (e : CE)
  | setIT (o i : CE) (j : Nat) (e : CE)
  | expr (e : CE)
  | setItem (o i e : CE)
  | setAttr (f : Nat) (o e : CE)
  | ifS (c : CE) (a b : List CS)
  | forS (t : Tgt) (it : CE) (body : List CS)
  | whileS (c : CE) (body : List CS)
  | ret (e : CE)
  | brk
  | pass
  | aug (i : Nat) (e : CE)
  | tryS (body : List CS)
  | bad

structure FnI where
  params : Nat
  slots : Nat
  body : List CS
  alloc : Bool

structure ClsI where
  live : Bool
  init : Nat
  flds : List Nat
  props : List (Nat × Nat)
  meths : List (Nat × Nat)

structure Tab where
  fns : Nat → Option FnI
  cls : List ClsI

inductive Fl where
  | next
  | brk
  | ret (v : PV) (fr : Bool)

/-! ### small things -/
def sizeL : Nat := 16777216

def lookN {α : Type} (n : Nat) : List (Nat × α) → Option α
  | [] => none
  | (m, a) :: r => if m = n then some a else lookN n r
def putN {α : Type} (n : Nat) (v : α) : List (Nat × α) → List (Nat × α)
  | [] => [(n, v)]
  | (m, a) :: r => if m = n then (m, v) :: r else (m, a) :: putN n v r

mutual
/-- no thing of the store within -/
def PV.pure : PV → Bool
  | .non | .bl _ | .int _ | .str _ => true
  | .tup xs | .lst xs => pureAll xs
  | .dct kvs => pureKv kvs
  | .obj _ fs => pureFs fs
  | .ref _ => false
def pureAll : List PV → Bool
  | [] => true
  | x :: xs => x.pure && pureAll xs
def pureKv : List (PV × PV) → Bool
  | [] => true
  | (k, v) :: r => k.pure && v.pure && pureKv r
def pureFs : List (Nat × PV) → Bool
  | [] => true
  | (_, v) :: r => v.pure && pureFs r
end
mutual
/-- data: no objects, no dicts, nothing of the store -/
def PV.data : PV → Bool
  | .non | .bl _ | .int _ | .str _ => true
  | .tup xs | .lst xs => dataAll xs
  | .dct _ | .obj _ _ | .ref _ => false
def dataAll : List PV → Bool
  | [] => true
  | x :: xs => x.data && dataAll xs
end
mutual
def PV.depth : PV → Nat
  | .non | .bl _ | .int _ | .str _ | .obj _ _ | .ref _ => 0
  | .tup xs | .lst xs => depthAll xs + 1
  | .dct _ => 0
def depthAll : List PV → Nat
  | [] => 0
  | x :: xs => max x.depth (depthAll xs)
end

def b2i (b : Bool) : Int := if b then 1 else 0
mutual
/-- == of data -/
def PV.eqv : PV → PV → Bool
  | .non, .non => true
  | .bl a, .bl b => a == b
  | .bl a, .int j => b2i a == j
  | .int i, .bl b => i == b2i b
  | .int i, .int j => i == j
  | .str a, .str b => a == b
  | .tup xs, .tup ys => eqvAll xs ys
  | .lst xs, .lst ys => eqvAll xs ys
  | _, _ => false
def eqvAll : List PV → List PV → Bool
  | [], [] => true
  | x :: xs, y :: ys => x.eqv y && eqvAll xs ys
  | [], _ :: _ => false
  | _ :: _, [] => false
end

def natsLt : List Nat → List Nat → Bool
  | [], [] => false
  | [], _ :: _ => true
  | _ :: _, [] => false
  | a :: as, b :: bs => if a < b then true else if b < a then false else natsLt as bs

mutual
/-- may be ordered with one another -/
def PV.alike : PV → PV → Bool
  | .non, .non => true
  | .bl _, .bl _ => true
  | .int _, .int _ => true
  | .str _, .str _ => true
  | .tup xs, .tup ys => alikeAll xs ys
  | _, _ => false
def alikeAll : List PV → List PV → Bool
  | x :: xs, y :: ys => x.alike y && alikeAll xs ys
  | _, _ => true
end
mutual
/-- < of alike data -/
def PV.lt : PV → PV → Bool
  | .int i, .int j => decide (i < j)
  | .bl a, .bl b => decide (b2i a < b2i b)
  | .str a, .str b => natsLt a b
  | .tup xs, .tup ys => ltAll xs ys
  | _, _ => false
def ltAll : List PV → List PV → Bool
  | [], [] => false
  | [], _ :: _ => true
  | _ :: _, [] => false
  | x :: xs, y :: ys => if x.eqv y then ltAll xs ys else x.lt y
end

/-! ### operations -/
def deref (D : Hs) : PV → PV
  | .ref n => match D[n]? with
    | some (.lst xs) => .lst xs
    | some (.dct kvs) => .dct kvs
    | some (.obj c fs) => .obj c fs
    | none => .ref n
  | v => v

def small64 (i : Int) : Bool := decide (-(2 ^ 64) < i) && decide (i < 2 ^ 64)

def repL (n : Nat) (xs : List PV) : List PV := match n with
  | 0 => []
  | k + 1 => xs ++ repL k xs

def addV : PV → PV → Option (PV × Bool)
  | .int i, .int j => some (.int (i + j), false)
  | .str a, .str b => if a.length + b.length ≤ sizeL then some (.str (a ++ b), false) else none
  | .lst a, .lst b => if a.length + b.length ≤ sizeL then some (.lst (a ++ b), true) else none
  | .tup a, .tup b => if a.length + b.length ≤ sizeL then some (.tup (a ++ b), false) else none
  | _, _ => none
def mulV : PV → PV → Option (PV × Bool)
  | .int i, .int j => if small64 i || small64 j then some (.int (i * j), false) else none
  | _, _ => none
def binV : BOp → PV → PV → Option (PV × Bool)
  | .add, a, b => addV a b
  | .mul, a, b => mulV a b
  | .sub, .int i, .int j => some (.int (i - j), false)
  | .fdiv, .int i, .int j => if 0 < j ∧ j < 1073741824 then some (.int (i / j), false) else none
  | .mod, .int i, .int j => if 0 < j then some (.int (i % j), false) else none
  | .pow, .int i, .int j => if 0 ≤ j ∧ j ≤ 1000000 ∧ i.natAbs < 2 ^ 64 then some (.int (i ^ j.toNat), false) else none
  | _, _, _ => none

def truth : PV → Option Bool
  | .non => some false
  | .bl b => some b
  | .int i => some (i != 0)
  | .str s => if s.length ≤ sizeL then some (!s.isEmpty) else none
  | .tup xs => some (!xs.isEmpty)
  | .lst xs => some (!xs.isEmpty)
  | _ => none

/-! keys: 0: a number or a text; 1: a tuple of numbers and texts -/
def isKey0 : PV → Bool
  | .int _ | .str _ => true
  | _ => false
def keyKind : PV → Option Nat
  | .int _ | .str _ => some 0
  | .tup xs => if xs.all isKey0 then some 1 else none
  | _ => none
def kindOfD : List (PV × PV) → Option Nat
  | [] => none
  | (k, _) :: _ => keyKind k
/-- the key may be asked for -/
def keyFits (k : PV) (kvs : List (PV × PV)) : Bool := match keyKind k with
  | none => false
  | some n => match kvs with
    | [] => true
    | (q, _) :: _ => keyKind q == some n
def dFind (k : PV) : List (PV × PV) → Option PV
  | [] => none
  | (q, v) :: r => if q.eqv k then some v else dFind k r
def dPut (k v : PV) (kvs : List (PV × PV)) : List (PV × PV) :=
  if kvs.any fun q => q.1.eqv k then kvs.map fun q => if q.1.eqv k then (q.1, v) else q else kvs ++ [(k, v)]

def memV (x : PV) : List PV → Bool
  | [] => false
  | y :: ys => y.eqv x || memV x ys

def inV (x y : PV) : Option Bool := match y with
  | .lst ys => if x.data && dataAll ys && decide (x.depth ≤ 60) then some (memV x ys) else none
  | .tup ys => if x.data && dataAll ys && decide (x.depth ≤ 60) then some (memV x ys) else none
  | .str s => match x with
    | .str [c] => some (s.contains c)
    | _ => none
  | .dct kvs => if keyFits x kvs then some (dFind x kvs).isSome else none
  | _ => none

def eqR (a b : PV) : Option Bool := if a.data && b.data && decide (a.depth ≤ 60) then some (a.eqv b) else none
def ordOk (a b : List PV) : Bool := dataAll a && dataAll b && alikeAll a b && decide (depthAll a ≤ 59)
def ltR (a b : PV) : Option Bool := match a, b with
  | .int i, .int j => some (decide (i < j))
  | .tup x, .tup y => if ordOk x y then some (ltAll x y) else none
  | .str x, .str y => some (natsLt x y)
  | _, _ => none
def leR (a b : PV) : Option Bool := match a, b with
  | .int i, .int j => some (decide (i ≤ j))
  | .tup x, .tup y => if ordOk x y then some (!ltAll y x) else none
  | _, _ => none
def gtR (a b : PV) : Option Bool := match a, b with
  | .int i, .int j => some (decide (j < i))
  | .tup x, .tup y => if ordOk x y then some (ltAll y x) else none
  | _, _ => none
def geR (a b : PV) : Option Bool := match a, b with
  | .int i, .int j => some (decide (j ≤ i))
  | .tup x, .tup y => if ordOk x y then some (!ltAll x y) else none
  | _, _ => none
def cmpV (o : COp) (a b : PV) : Option Bool := match o with
  | .eq => eqR a b
  | .ne => (eqR a b).map (!·)
  | .lt => ltR a b
  | .le => leR a b
  | .gt => gtR a b
  | .ge => geR a b
  | .inn => inV a b
  | .nin => (inV a b).map (!·)

/-- sorting, stable -/
def ins (x : PV) : List PV → List PV
  | [] => [x]
  | y :: ys => if y.lt x then y :: ins x ys else x :: y :: ys
def isort : List PV → List PV
  | [] => []
  | x :: xs => ins x (isort xs)
def allAlike : List PV → Bool
  | [] => true
  | x :: xs => x.alike x && (xs.all fun y => x.alike y && y.alike x) && allAlike xs
def sortable : List PV → Bool
  | [] => true
  | .tup (_ :: _) :: r => r.all fun z => match z with
    | .tup (_ :: _) => true
    | _ => false
  | .non :: _ => false
  | .tup [] :: _ => false
  | _ :: _ => true
def sortV (xs : List PV) : Option (List PV) :=
  if dataAll xs && allAlike xs && sortable xs && decide (depthAll xs ≤ 60) && decide (xs.length ≤ sizeL) then some (isort xs) else none
def dedup : List PV → List PV
  | [] => []
  | x :: xs => if memV x xs then dedup xs else x :: dedup xs
def isIntV : PV → Bool
  | .int _ => true
  | _ => false
def isStrV : PV → Bool
  | .str _ => true
  | _ => false

def isNon : PV → Bool
  | .non => true
  | _ => false
/-- an index from the front or the back -/
def atIx (n : Nat) (i : Int) : Option Nat := if 0 ≤ i then (if i < n then some i.toNat else none) else (if 0 ≤ i + n then some (i + n).toNat else none)
def clampIx (n d : Nat) : Option Int → Nat
  | none => d
  | some i => if i < 0 then (i + n).toNat else min i.toNat n

def subV (o i : PV) : Option PV := match o, i with
  | .lst xs, .int j => (atIx xs.length j).bind fun k => xs[k]?
  | .tup xs, .int j => (atIx xs.length j).bind fun k => xs[k]?
  | .str s, .int j => if s.length ≤ sizeL then (atIx s.length j).bind fun k => (s[k]?).map fun c => .str [c] else none
  | .dct kvs, k => if keyFits k kvs then dFind k kvs else none
  | _, _ => none
def ixOf : Option PV → Option (Option Int)
  | none => some none
  | some (.int i) => some (some i)
  | _ => none
def sliceL {α : Type} (xs : List α) (lo hi : Option Int) : List α := (xs.drop (clampIx xs.length 0 lo)).take (clampIx xs.length xs.length hi - clampIx xs.length 0 lo)
def sliceI (o : PV) (lo hi : Option Int) : Option (PV × Bool) := match o with
  | .lst xs => some (.lst (sliceL xs lo hi), true)
  | .tup xs => some (.tup (sliceL xs lo hi), false)
  | .str xs => if xs.length ≤ sizeL then some (.str (sliceL xs lo hi), false) else none
  | _ => none
def sliceV (o : PV) (lo hi : Option PV) : Option (PV × Bool) := match ixOf lo with
  | none => none
  | some a => match ixOf hi with
    | none => none
    | some b => sliceI o a b

/-! data as the library has them -/
def toStr (s : List Nat) : PySem.Str := ⟨s.toArray⟩
mutual
def PV.toData : PV → PySem.PyData
  | .non => .none
  | .bl b => .bool b
  | .int i => .int i
  | .str s => .str (toStr s)
  | .tup xs => .tuple (toDatas xs)
  | .lst xs => .list (toDatas xs)
  | _ => .none
def toDatas : List PV → List PySem.PyData
  | [] => []
  | x :: xs => x.toData :: toDatas xs
end
def isSeqV : PV → Bool
  | .tup _ | .lst _ => true
  | _ => false
def reprV (v : PV) : Option PV :=
  if isSeqV v && v.data && decide (v.depth ≤ 60) && v.toData.showable && decide (v.toData.shown.length ≤ sizeL) then some (.str v.toData.shown.cps.toList) else none
def intStr (i : Int) : List Nat := (PySem.Str.ofString (toString i)).cps.toList

def rangeL (lo : Int) : Nat → List PV
  | 0 => []
  | n + 1 => .int lo :: rangeL (lo + 1) n
def allB : List PV → Option (List Bool)
  | [] => some []
  | .bl b :: xs => (allB xs).map (b :: ·)
  | _ :: _ => none
def sumV : List PV → Option Int
  | [] => some 0
  | .int i :: xs => (sumV xs).map (i + ·)
  | _ :: _ => none
def allStrs : List PV → Option (List (List Nat))
  | [] => some []
  | .str s :: xs => (allStrs xs).map (s :: ·)
  | _ :: _ => none
def joinL (sep : List Nat) : List (List Nat) → List Nat
  | [] => []
  | [s] => s
  | s :: r => s ++ sep ++ joinL sep r
def indexV (x : PV) : List PV → Nat → Option Nat
  | [], _ => none
  | y :: ys, n => if y.eqv x then some n else indexV x ys (n + 1)

def fmt1 : PV → Option (List Nat)
  | .str s => some s
  | .int i => if i.natAbs.log2 < 1920 then some (intStr i) else none
  | _ => none
def fmtAll : List PV → Option (List Nat)
  | [] => some []
  | v :: vs => (fmt1 v).bind fun a => (fmtAll vs).bind fun b => if a.length + b.length ≤ sizeL then some (a ++ b) else none
/-- a list's, a tuple's, a text's items -/
def itemsOf : PV → Option (List PV)
  | .lst xs => some xs
  | .tup xs => some xs
  | .str s => some (s.map fun c => .str [c])
  | _ => none

def lenV : List PV → Option (PV × Bool)
  | [.str s] => if s.length ≤ sizeL then some (.int s.length, false) else none
  | [.tup xs] => some (.int xs.length, false)
  | [.lst xs] => some (.int xs.length, false)
  | [.dct kvs] => some (.int kvs.length, false)
  | _ => none
def sortedV : List PV → Option (PV × Bool)
  | [.lst xs] => (sortV xs).map fun ys => (.lst ys, true)
  | [.dct kvs] => (sortV (kvs.map (·.1))).map fun ys => (.lst ys, true)
  | _ => none
def setOk (xs : List PV) : Bool := (xs.all isStrV || xs.all isIntV) && decide (xs.length ≤ 60)
def sortedSetV : List PV → Option (PV × Bool)
  | [.lst xs] => if setOk xs then some (.lst (isort (dedup xs)), true) else none
  | _ => none
def lenSetV : List PV → Option (PV × Bool)
  | [.lst xs] => if setOk xs then some (.int (dedup xs).length, false) else none
  | [.tup xs] => if setOk xs then some (.int (dedup xs).length, false) else none
  | _ => none
def listV : List PV → Option (PV × Bool)
  | [.lst xs] => if xs.length ≤ sizeL then some (.lst xs, true) else none
  | [.tup xs] => some (.lst xs, true)
  | [.str s] => if s.length ≤ 1000 then some (.lst (s.map fun c => .str [c]), true) else none
  | _ => none
def tupleV : List PV → Option (PV × Bool)
  | [.lst xs] => some (.tup xs, false)
  | [.tup xs] => some (.tup xs, false)
  | _ => none
def absV : List PV → Option (PV × Bool)
  | [.int i] => some (.int (if i < 0 then -i else i), false)
  | _ => none
def minV : List PV → Option (PV × Bool)
  | [.int i, .int j] => some (.int (if j < i then j else i), false)
  | _ => none
def maxV : List PV → Option (PV × Bool)
  | [.int i, .int j] => some (.int (if j > i then j else i), false)
  | _ => none
def intV : List PV → Option (PV × Bool)
  | [.int i] => some (.int i, false)
  | _ => none
def strV : List PV → Option (PV × Bool)
  | [.int i] => if i.natAbs.log2 < 1920 then some (.str (intStr i), false) else none
  | [.str s] => some (.str s, false)
  | _ => none
def reprB : List PV → Option (PV × Bool)
  | [v] => (reprV v).map fun s => (s, false)
  | _ => none
def allVB : List PV → Option (PV × Bool)
  | [.lst xs] => (allB xs).map fun bs => (.bl (bs.all id), false)
  | _ => none
def anyVB : List PV → Option (PV × Bool)
  | [.lst xs] => (allB xs).map fun bs => (.bl (bs.any id), false)
  | _ => none
def sumVB : List PV → Option (PV × Bool)
  | [.lst xs] => (sumV xs).map fun i => (.int i, false)
  | _ => none
def divmodV : List PV → Option (PV × Bool)
  | [.int i, .int j] => if 0 < j ∧ j < 1073741824 then some (.tup [.int (i / j), .int (i % j)], false) else none
  | _ => none
def isTy : Ty → PV → Bool
  | .int, .int _ => true
  | .int, .bl _ => true
  | .bool, .bl _ => true
  | .str, .str _ => true
  | .tuple, .tup _ => true
  | .list, .lst _ => true
  | .cls c, .obj d _ => d == c
  | _, _ => false
def tyIn (T : Tab) : Ty → Bool
  | .cls c => (T.cls[c]?).isSome
  | _ => true
def isV (T : Tab) (t : Ty) (v : PV) : Option Bool := if tyIn T t then (match v with
  | .ref _ => none
  | .obj d fs => if (T.cls[d]?).isSome then some (isTy t (.obj d fs)) else none
  | v => some (isTy t v)) else none
def bltV : Blt → List PV → Option (PV × Bool)
  | .len => lenV
  | .sorted => sortedV
  | .sortedSet => sortedSetV
  | .lenSet => lenSetV
  | .list => listV
  | .tuple => tupleV
  | .abs => absV
  | .min2 => minV
  | .max2 => maxV
  | .int => intV
  | .str => strV
  | .repr => reprB
  | .all => allVB
  | .any => anyVB
  | .sum => sumVB
  | .divmod => divmodV
  | .bool => fun _ => none

def bmTy : Bm → PV → Bool
  | .get1, .dct _ => true
  | .get2, .dct _ => true
  | .join, .str _ => true
  | .index, .lst _ => true
  | _, _ => false
def bmV (m : Bm) (D : Hs) (x : PV) (vs : List PV) : Option (PV × Bool) := match m, x, vs with
  | .get1, .dct kvs, [k] => if keyFits k kvs then some ((dFind k kvs).getD .non, false) else none
  | .get2, .dct kvs, [k, d] => if keyFits k kvs then some ((dFind k kvs).getD d, false) else none
  | .join, .str sep, [v] => match deref D v with
    | .lst xs => (allStrs xs).bind fun ss => if (joinL sep ss).length ≤ sizeL then some (.str (joinL sep ss), false) else none
    | _ => none
  | .index, .lst xs, [v] => if isKey0 v && xs.all isKey0 then (indexV v xs 0).map fun (n : Nat) => (PV.int (n : Int), false) else none
  | _, _, _ => none

/-! ### targets -/
def setAll : List Nat → List PV → Rho → Option Rho
  | [], [], r => some r
  | i :: is, v :: vs, r => setAll is vs (r.set i (some v))
  | _, _, _ => none
def tgtV : Tgt → PV → Rho → Option Rho
  | .name i, v, r => some (r.set i (some v))
  | .names is, .tup vs, r => setAll is vs r
  | .names _, _, _ => none
def wipeR (r : Rho) : List Nat → Rho
  | [] => r
  | i :: is => (wipeR r is).set i none

/-! ### loops -/
def LF : Nat := 1000000000000
def compL (step : PV → Hs → Option (Option PV × Hs)) : List PV → List PV → Hs → Option (List PV × Hs)
  | [], acc, D => some (acc, D)
  | x :: xs, acc, D => match step x D with
    | none => none
    | some (none, D') => compL step xs acc D'
    | some (some v, D') => if acc.length < sizeL then compL step xs (acc ++ [v]) D' else none
def compR (n : Nat) (step : PV → Hs → Option (Option PV × Hs)) : Nat → Nat → List PV → Hs → Option (List PV × Hs)
  | 0, _, _, _ => none
  | f + 1, i, acc, D => match D[n]? with
    | some (.lst xs) => match xs[i]? with
      | none => some (acc, D)
      | some x => match step x D with
        | none => none
        | some (none, D') => compR n step f (i + 1) acc D'
        | some (some v, D') => if acc.length < sizeL then compR n step f (i + 1) (acc ++ [v]) D' else none
    | _ => none
def forL (step : PV → Rho → Hs → Option (Fl × Rho × Hs)) : List PV → Rho → Hs → Option (Fl × Rho × Hs)
  | [], r, D => some (.next, r, D)
  | x :: xs, r, D => match step x r D with
    | none => none
    | some (.next, r', D') => forL step xs r' D'
    | some (.brk, r', D') => some (.next, r', D')
    | some (.ret v fr, r', D') => some (.ret v fr, r', D')
def forR (n : Nat) (step : PV → Rho → Hs → Option (Fl × Rho × Hs)) : Nat → Nat → Rho → Hs → Option (Fl × Rho × Hs)
  | 0, _, _, _ => none
  | f + 1, i, r, D => match D[n]? with
    | some (.lst xs) => match xs[i]? with
      | none => some (.next, r, D)
      | some x => match step x r D with
        | none => none
        | some (.next, r', D') => forR n step f (i + 1) r' D'
        | some (.brk, r', D') => some (.next, r', D')
        | some (.ret v fr, r', D') => some (.ret v fr, r', D')
    | _ => none
def whileF (c : Rho → Hs → Option (Bool × Hs)) (body : Rho → Hs → Option (Fl × Rho × Hs)) : Nat → Rho → Hs → Option (Fl × Rho × Hs)
  | 0, _, _ => none
  | f + 1, r, D => match c r D with
    | none => none
    | some (false, D') => some (.next, r, D')
    | some (true, D') => match body r D' with
      | none => none
      | some (.next, r', D2) => whileF c body f r' D2
      | some (.brk, r', D2) => some (.next, r', D2)
      | some (.ret v fr, r', D2) => some (.ret v fr, r', D2)

def dcL (step : PV → Hs → Option (PV × PV × Hs)) : List PV → List (PV × PV) → Hs → Option (List (PV × PV) × Hs)
  | [], acc, D => some (acc, D)
  | x :: xs, acc, D => match step x D with
    | none => none
    | some (k, v, D') => if keyFits k acc && decide (acc.length < sizeL) then dcL step xs (dPut k v acc) D' else none
/-- what is walked, by a comprehension -/
def runC (src : PV) (step : PV → Hs → Option (Option PV × Hs)) (D : Hs) : Option (List PV × Hs) := match src with
  | .ref n => compR n step LF 0 [] D
  | v => match itemsOf v with
    | some xs => compL step xs [] D
    | none => none
def runF (src : PV) (step : PV → Rho → Hs → Option (Fl × Rho × Hs)) (r : Rho) (D : Hs) : Option (Fl × Rho × Hs) := match src with
  | .ref n => forR n step LF 0 r D
  | v => match itemsOf v with
    | some xs => forL step xs r D
    | none => none
def enumL (i : Int) : List PV → List PV
  | [] => []
  | x :: xs => .tup [.int i, x] :: enumL (i + 1) xs

def removeI (x : Int) : List PV → Option (List PV)
  | [] => none
  | .int i :: ys => if i = x then some ys else (removeI x ys).map (.int i :: ·)
  | _ :: _ => none
/-- a method that changes a list of the store -/
def mutV (m : Mm) (n : Nat) (vs : List PV) (D : Hs) : Option (PV × Hs) := match D[n]? with
  | some (.lst xs) => match m, vs with
    | .append, [v] => if v.pure && decide (xs.length < sizeL) then some (.non, D.set n (.lst (xs ++ [v]))) else none
    | .extend, [v] => match deref D v with
      | .lst ys => if pureAll ys && decide (xs.length + ys.length ≤ sizeL) then some (.non, D.set n (.lst (xs ++ ys))) else none
      | _ => none
    | .remove, [.int i] => if xs.all isIntV then (removeI i xs).map fun ys => (.non, D.set n (.lst ys)) else none
    | .pop, [.int j] => match atIx xs.length j with
      | none => none
      | some k => match xs[k]? with
        | none => none
        | some v => some (v, D.set n (.lst (xs.eraseIdx k)))
    | _, _ => none
  | _ => none

/-- is the first one starred -/
def starB : List Bool → Bool
  | true :: _ => true
  | _ => false
/-- a tuple's, a list's items -/
def seqOf : PV → Option (List PV)
  | .tup xs => some xs
  | .lst xs => some xs
  | _ => none
abbrev CallFn := Nat → List PV → Hs → Option (PV × Bool × Hs)

def setDO (D : Hs) (n : Nat) (o : DO) : Hs := D.set n o

section
variable (T : Tab) (cf : CallFn)
mutual
/-- an expression's value, whether it is a new list that nobody else has, the store behind it -/
def evE : CE → Rho → Hs → Option (PV × Bool × Hs)
  | .var i, r, D => match r[i]? with
    | some (some v) => some (v, false, D)
    | _ => none
  | .cst v, _, D => some (v, false, D)
  | .neg e, r, D => match evE e r D with
    | some (.int i, _, D') => some (.int (-i), false, D')
    | _ => none
  | .notE e, r, D => match evE e r D with
    | some (v, _, D') => (truth (deref D' v)).map fun b => (.bl (!b), false, D')
    | none => none
  | .bin op a b, r, D => match evE a r D with
    | none => none
    | some (x, _, D1) => match evE b r D1 with
      | none => none
      | some (y, _, D2) => (binV op (deref D2 x) (deref D2 y)).map fun z => (z.1, z.2, D2)
  | .cmp op a b, r, D => match evE a r D with
    | none => none
    | some (x, _, D1) => match evE b r D1 with
      | none => none
      | some (y, _, D2) => (cmpV op (deref D2 x) (deref D2 y)).map fun z => (.bl z, false, D2)
  | .chain o1 o2 a b c, r, D => match evE a r D with
    | none => none
    | some (x, _, D1) => match evE b r D1 with
      | none => none
      | some (y, _, D2) => match cmpV o1 (deref D2 x) (deref D2 y) with
        | none => none
        | some false => some (.bl false, false, D2)
        | some true => match evE c r D2 with
          | none => none
          | some (z, _, D3) => (cmpV o2 (deref D3 y) (deref D3 z)).map fun q => (.bl q, false, D3)
  | .isN e w, r, D => match evE e r D with
    | none => none
    | some (v, _, D') => some (.bl (isNon v == w), false, D')
  | .andE a b, r, D => match evE a r D with
    | none => none
    | some (x, _, D1) => match truth (deref D1 x) with
      | none => none
      | some true => evE b r D1
      | some false => some (x, false, D1)
  | .orE a b, r, D => match evE a r D with
    | none => none
    | some (x, _, D1) => match truth (deref D1 x) with
      | none => none
      | some true => some (x, false, D1)
      | some false => evE b r D1
  | .ite c a b, r, D => match evE c r D with
    | none => none
    | some (x, _, D1) => match truth (deref D1 x) with
      | none => none
      | some true => evE a r D1
      | some false => evE b r D1
  | .tupE es, r, D => match evEs es r D with
    | none => none
    | some (vs, D') => if vs.length ≤ sizeL then some (.tup vs, false, D') else none
  | .tupS fs es, r, D => match evSs es fs r D with
    | none => none
    | some (vs, D') => if vs.length ≤ sizeL then some (.tup vs, false, D') else none
  | .lstE es, r, D => match evEs es r D with
    | none => none
    | some (vs, D') => if vs.length ≤ sizeL then some (.lst vs, true, D') else none
  | .dctE kvs, r, D => match kvs with
    | [] => some (.dct [], true, D)
    | _ => none
  | .call f es, r, D => match evEs es r D with
    | none => none
    | some (vs, D') => cf f vs D'
  | .callK f es perm, r, D => match evEs es r D with
    | none => none
    | some (vs, D') => cf f (perm.filterMap fun i => vs[i]?) D'
  | .mk c es, r, D => match evEs es r D with
    | none => none
    | some (vs, D') => match T.cls[c]? with
      | none => none
      | some C => match cf C.init (.ref D'.length :: vs) (D' ++ [.obj c []]) with
        | some (.non, _, D2) => if C.live then some (.ref D'.length, false, D2) else match D2[D'.length]? with
          | some (.obj c' fs) => some (.obj c' fs, false, D2.take D'.length)
          | _ => none
        | _ => none
  | .meth m o es, r, D => match evE o r D with
    | none => none
    | some (x, _, D1) => match deref D1 x with
      | .obj c fs => match (T.cls[c]?).bind fun C => lookN m C.meths with
        | none => none
        | some f => match lookN m fs with
          | some _ => none
          | none => match evEs es r D1 with
            | none => none
            | some (vs, D2) => cf f (x :: vs) D2
      | _ => none
  | .attr f o, r, D => match evE o r D with
    | none => none
    | some (x, _, D1) => match deref D1 x with
      | .obj c fs => match (T.cls[c]?).bind fun C => lookN f C.props with
        | some p => cf p [x] D1
        | none => if ((T.cls[c]?).map fun C => C.flds.contains f) = some true then (match lookN f fs with
          | some v => some (v, false, D1)
          | none => none) else none
      | _ => none
  | .sub o i, r, D => match evE o r D with
    | none => none
    | some (x, _, D1) => match evE i r D1 with
      | none => none
      | some (y, _, D2) => (subV (deref D2 x) (deref D2 y)).map fun v => (v, false, D2)
  | .slice o lo hi, r, D => match evE o r D with
    | none => none
    | some (x, _, D1) => match evO lo r D1 with
      | none => none
      | some (a, D2) => match evO hi r D2 with
        | none => none
        | some (b, D3) => (sliceV (deref D3 x) a b).map fun z => (z.1, z.2, D3)
  | .blt b es, r, D => match evEs es r D with
    | none => none
    | some (vs, D') => (bltV b (vs.map (deref D'))).map fun z => (z.1, z.2, D')
  | .bm m o es, r, D => match evE o r D with
    | none => none
    | some (x, _, D1) => if bmTy m (deref D1 x) then (match evEs es r D1 with
      | none => none
      | some (vs, D2) => (bmV m D2 (deref D2 x) vs).map fun z => (z.1, z.2, D2)) else none
  | .lc own t it conds elt, r, D => match evE it r D with
    | none => none
    | some (src, _, D1) => (runC src (fun x D => match tgtV t x (wipeR r own) with
        | none => none
        | some r' => match evTs conds r' D with
          | none => none
          | some (false, D') => some (none, D')
          | some (true, D') => match evE elt r' D' with
            | none => none
            | some (v, _, D2) => some (some v, D2)) D1).map fun z => (.lst z.1, true, z.2)
  | .dc own t it k v, r, D => match evE it r D with
    | none => none
    | some (src, _, D1) => match itemsOf src with
      | none => none
      | some xs => (dcL (fun x D => match tgtV t x (wipeR r own) with
        | none => none
        | some r' => match evE k r' D with
          | none => none
          | some (kv, _, D') => match evE v r' D' with
            | none => none
            | some (vv, _, D2) => some (kv, vv, D2)) xs [] D1).map fun z => (.dct z.1, true, z.2)
  | .rng1 a, r, D => match evE a r D with
    | some (.int j, _, D') => if -(2 ^ 62) ≤ j ∧ j < 2 ^ 62 then some (.lst (rangeL 0 j.toNat), false, D') else none
    | _ => none
  | .rng2 a b, r, D => match evE a r D with
    | some (.int i, _, D1) => match evE b r D1 with
      | some (.int j, _, D2) => if -(2 ^ 62) ≤ i ∧ i < 2 ^ 62 ∧ -(2 ^ 62) ≤ j ∧ j < 2 ^ 62 then some (.lst (rangeL i (j - i).toNat), false, D2) else none
      | _ => none
    | _ => none
  | .enum a, r, D => match evE a r D with
    | none => none
    | some (v, _, D') => match v with
      | .tup xs => some (.lst (enumL 0 xs), false, D')
      | _ => none
  | .fstr es, r, D => match evEs es r D with
    | none => none
    | some (vs, D') => (fmtAll vs).map fun s => (.str s, false, D')
  | .mut m o es, r, D => match evE o r D with
    | some (.ref n, _, D1) => match D1[n]? with
      | some (.lst _) => match evEs es r D1 with
        | none => none
        | some (vs, D2) => (mutV m n vs D2).map fun z => (z.1, false, z.2)
      | _ => none
    | _ => none
  | .isI t e, r, D => match evE e r D with
    | none => none
    | some (x, _, D1) => (isV T t (deref D1 x)).map fun b => (.bl b, false, D1)
  | .bad, _, _ => none
def evEs : List CE → Rho → Hs → Option (List PV × Hs)
  | [], _, D => some ([], D)
  | e :: es, r, D => match evE e r D with
    | none => none
    | some (v, _, D1) => match evEs es r D1 with
      | none => none
      | some (vs, D2) => some (v :: vs, D2)
def evSs : List CE → List Bool → Rho → Hs → Option (List PV × Hs)
  | [], _, _, D => some ([], D)
  | e :: es, fs, r, D => match evE e r D with
    | none => none
    | some (v, _, D1) => if starB fs then (match seqOf (deref D1 v) with
        | none => none
        | some xs => match evSs es fs.tail r D1 with
          | none => none
          | some (vs, D2) => some (xs ++ vs, D2)) else match evSs es fs.tail r D1 with
      | none => none
      | some (vs, D2) => some (v :: vs, D2)
def evO : Option CE → Rho → Hs → Option (Option PV × Hs)
  | none, _, D => some (none, D)
  | some e, r, D => match evE e r D with
    | none => none
    | some (v, _, D1) => some (some v, D1)
def evTs : List CE → Rho → Hs → Option (Bool × Hs)
  | [], _, D => some (true, D)
  | e :: es, r, D => match evE e r D with
    | none => none
    | some (v, _, D1) => match truth (deref D1 v) with
      | none => none
      | some false => some (false, D1)
      | some true => evTs es r D1
end

/-- a new thing of the store, for a name that is changed in place -/
def heapV (v : PV) (fr : Bool) (D : Hs) : Option (PV × Hs) := match v with
  | .ref n => some (.ref n, D)
  | .lst xs => if fr && pureAll xs then some (.ref D.length, D ++ [.lst xs]) else none
  | .dct kvs => if fr && pureKv kvs then some (.ref D.length, D ++ [.dct kvs]) else none
  | _ => none
def evPar : List (Nat × Bool) → List CE → Rho → Hs → Option (List PV × Hs)
  | [], [], _, D => some ([], D)
  | (_, b) :: is, e :: es, r, D => match evE T cf e r D with
    | none => none
    | some (v, fr, D1) => match (if b then heapV v fr D1 else some (v, D1)) with
      | none => none
      | some (v', D2) => match evPar is es r D2 with
        | none => none
        | some (vs, D3) => some (v' :: vs, D3)
  | _, _, _, _ => none
/-- o[i] = v in the store -/
def setItemV (o i v : PV) (D : Hs) : Option Hs := match o with
  | .ref n => match D[n]? with
    | some (.lst xs) => match i with
      | .int j => match atIx xs.length j with
        | some k => if v.pure then some (D.set n (.lst (xs.set k v))) else none
        | none => none
      | _ => none
    | some (.dct kvs) => if keyFits i kvs && v.pure && decide (kvs.length < sizeL) then some (D.set n (.dct (dPut i v kvs))) else none
    | _ => none
  | _ => none
mutual
def exS : CS → Rho → Hs → Option (Fl × Rho × Hs)
  | .set i e, r, D => match evE T cf e r D with
    | none => none
    | some (v, _, D') => some (.next, r.set i (some v), D')
  | .setM i e, r, D => match evE T cf e r D with
    | none => none
    | some (v, fr, D') => match heapV v fr D' with
      | none => none
      | some (v', D2) => some (.next, r.set i (some v'), D2)
  | .par is es, r, D => match evPar T cf is es r D with
    | none => none
    | some (vs, D') => match setAll (is.map (·.1)) vs r with
      | none => none
      | some r' => some (.next, r', D')
  | .setT is e, r, D => match evE T cf e r D with
    | some (.tup vs, _, D') => match setAll is vs r with
      | none => none
      | some r' => some (.next, r', D')
    | _ => none
  | .setIT o i j e, r, D => match evE T cf e r D with
    | some (.tup [a, b], _, D1) => match evE T cf o r D1 with
      | none => none
      | some (ov, _, D2) => match evE T cf i r D2 with
        | none => none
        | some (iv, _, D3) => match setItemV ov iv a D3 with
          | none => none
          | some D4 => some (.next, r.set j (some b), D4)
    | _ => none
  | .expr e, r, D => match evE T cf e r D with
    | none => none
    | some (_, _, D') => some (.next, r, D')
  | .setItem o i e, r, D => match evE T cf e r D with
    | none => none
    | some (v, _, D1) => match evE T cf o r D1 with
      | none => none
      | some (ov, _, D2) => match evE T cf i r D2 with
        | none => none
        | some (iv, _, D3) => match setItemV ov iv v D3 with
          | none => none
          | some D4 => some (.next, r, D4)
  | .setAttr f o e, r, D => match evE T cf e r D with
    | none => none
    | some (v, _, D1) => match evE T cf o r D1 with
      | some (.ref n, _, D2) => match D2[n]? with
        | some (.obj c fs) => if v.pure && decide (fs.length < 100) && (((T.cls[c]?).map fun C => C.flds.contains f) == some true) then some (.next, r, D2.set n (.obj c (putN f v fs))) else none
        | _ => none
      | _ => none
  | .ifS c a b, r, D => match evE T cf c r D with
    | none => none
    | some (x, _, D1) => match truth (deref D1 x) with
      | none => none
      | some true => exSs a r D1
      | some false => exSs b r D1
  | .forS t it body, r, D => match evE T cf it r D with
    | none => none
    | some (src, _, D1) => runF src (fun x r D => match tgtV t x r with
      | none => none
      | some r' => exSs body r' D) r D1
  | .whileS c body, r, D => whileF (fun r D => match evE T cf c r D with
      | none => none
      | some (x, _, D1) => (truth (deref D1 x)).map fun b => (b, D1)) (fun r D => exSs body r D) LF r D
  | .ret e, r, D => match evE T cf e r D with
    | none => none
    | some (v, fr, D') => some (.ret v fr, r, D')
  | .brk, r, D => some (.brk, r, D)
  | .pass, r, D => some (.next, r, D)
  | .aug i e, r, D => match r[i]? with
    | some (some (.int a)) => match evE T cf e r D with
      | some (.int b, _, D') => some (.next, r.set i (some (.int (a + b))), D')
      | _ => none
    | _ => none
  | .tryS body, r, D => exSs body r D
  | .bad, _, _ => none
def exSs : List CS → Rho → Hs → Option (Fl × Rho × Hs)
  | [], r, D => some (.next, r, D)
  | s :: ss, r, D => match exS s r D with
    | none => none
    | some (.next, r', D') => exSs ss r' D'
    | some (.brk, r', D') => some (.brk, r', D')
    | some (.ret v fr, r', D') => some (.ret v fr, r', D')
end
end

/-! ### calls -/
mutual
/-- what a def hands back, with the things of the store that it made told out -/
def snapV (n : Nat) (D : Hs) : PV → Option PV
  | .non => some .non
  | .bl b => some (.bl b)
  | .int i => some (.int i)
  | .str s => some (.str s)
  | .tup xs => (snapAll n D xs).map .tup
  | .lst xs => (snapAll n D xs).map .lst
  | .dct kvs => if pureKv kvs then some (.dct kvs) else none
  | .obj c fs => if pureFs fs then some (.obj c fs) else none
  | .ref m => if m < n then some (.ref m) else match D[m]? with
    | some (.lst xs) => some (.lst xs)
    | some (.dct kvs) => some (.dct kvs)
    | _ => none
def snapAll (n : Nat) (D : Hs) : List PV → Option (List PV)
  | [] => some []
  | x :: xs => match snapV n D x with
    | none => none
    | some y => match snapAll n D xs with
      | none => none
      | some ys => some (y :: ys)
end
def finish (alloc : Bool) (n : Nat) (v : PV) (fr : Bool) (D : Hs) : Option (PV × Bool × Hs) :=
  if alloc then (match v with
    | .lst xs => if fr && pureAll xs then some (.ref n, false, D.take n ++ [.lst xs]) else none
    | _ => none)
  else match v with
    | .ref m => if m < n then some (.ref m, false, D.take n) else (match D[m]? with
      | some (.lst xs) => some (.lst xs, true, D.take n)
      | some (.dct kvs) => some (.dct kvs, true, D.take n)
      | _ => none)
    | v => (snapV n D v).map fun v' => (v', fr, D.take n)
def start (F : FnI) (args : List PV) : Rho := args.map some ++ List.replicate (F.slots - F.params) none
def callF (T : Tab) : Nat → CallFn
  | 0 => fun _ _ _ => none
  | d + 1 => fun f args D => match T.fns f with
    | none => none
    | some F => if args.length = F.params then (match exSs T (callF T d) F.body (start F args) D with
      | some (.ret v fr, _, D') => finish F.alloc D.length v fr D'
      | some (.next, _, D') => finish F.alloc D.length .non false D'
      | _ => none) else none
end HT
namespace HT
open L2 PyProof.Rows PySem PySem.Spec

/-- what the names stand for: classes by number, attributes by number -/
structure Gx where
  K : PySem.W.Frag
  cls : Nat → Addr
  fld : Nat → Str

/-- a list: tracked, known, or a plain object of the written part -/
def SqE (K : PySem.W.Frag) (F : Hp) (a : Addr) (vs : List V) : Prop :=
  Rd F a (.lst vs) ∨ ∃ (its : Array Value) (n : Nat), K.lookup a = some { cls := .type "list", data := .seq its n } ∧ its.size ≤ sizeLine ∧ Vals vs its.toList
theorem SqE.sqL {K : PySem.W.Frag} {F : Hp} {a : Addr} {vs : List V} (h : SqE K F a vs) : SqL K F a vs := by
  rcases h with h | ⟨its, n, h, z, r⟩
  · exact .inl h
  · exact .inr ⟨_, its, n, h, rfl, rfl, rfl, z, r⟩
theorem listE {X : Cx} {pins : List (Addr × Obj)} {st : L2.St} {H : Hp} {s : Shared} {a : Addr} {vs : List V} (I : Inv X pins st H s) (h : SqE X.K H a vs) :
    ∃ (its : List Value) (n : Nat), Vals vs its ∧ PySem.IsL s.heap a its.toArray n ∧ vs.length ≤ sizeLine := by
  rcases h with h | ⟨its, n, h, z, r⟩
  · have ⟨short, its, n, r, held⟩ := h.ok I.hok
    exact ⟨its, n, r, held, short⟩
  · refine ⟨its.toList, n, r, ?_, ?_⟩
    · have e := I.kIn a _ h
      simpa [PySem.IsL] using e
    · rw [r.length, Array.length_toList]
      exact z

/-- a number or a text as a key -/
def toKey : PV → Key
  | .int i => .inl i
  | .str s => .inr (toStr s)
  | _ => .inl 0

mutual
/-- the value v is the deep value pv: F what will not change any more, dl where the things of the store stand -/
inductive RV (g : Gx) (F : Hp) (dl : List Addr) : PV → V → Prop
  | non : RV g F dl .non .non
  | bl (b : Bool) : RV g F dl (.bl b) (.bl b)
  | int (i : Int) : RV g F dl (.int i) (.int i)
  | str (s : List Nat) : RV g F dl (.str s) (.str (toStr s))
  | tup {a : Addr} {xs : List PV} {vs : List V} : F a = some (.tup vs) → RVs g F dl xs vs → RV g F dl (.tup xs) (.ref a)
  | lst {a : Addr} {xs : List PV} {vs : List V} : SqE g.K F a vs → RVs g F dl xs vs → RV g F dl (.lst xs) (.ref a)
  | dK {a : Addr} {xs : List (PV × PV)} {kvs : List (Key × V)} : F a = some (.dK kvs) → RKs g F dl xs kvs → RV g F dl (.dct xs) (.ref a)
  | dT {a : Addr} {xs : List (PV × PV)} {kvs : List (List Key × V)} : F a = some (.dT kvs) → RTs g F dl xs kvs → RV g F dl (.dct xs) (.ref a)
  | obj {a dx : Addr} {c : Nat} {fs : List (Nat × PV)} {ws : List (Str × V)} : F a = some (.ins (g.cls c) dx ws) → F dx = some (.own a) → RFs g F dl fs ws → RV g F dl (.obj c fs) (.ref a)
  | ref {a : Addr} {n : Nat} : dl[n]? = some a → RV g F dl (.ref n) (.ref a)
inductive RVs (g : Gx) (F : Hp) (dl : List Addr) : List PV → List V → Prop
  | nil : RVs g F dl [] []
  | cons {x : PV} {v : V} {xs : List PV} {vs : List V} : RV g F dl x v → RVs g F dl xs vs → RVs g F dl (x :: xs) (v :: vs)
/-- a dict by numbers and texts -/
inductive RKs (g : Gx) (F : Hp) (dl : List Addr) : List (PV × PV) → List (Key × V) → Prop
  | nil : RKs g F dl [] []
  | cons {k x : PV} {v : V} {xs : List (PV × PV)} {vs : List (Key × V)} : isKey0 k = true → RV g F dl x v → RKs g F dl xs vs → RKs g F dl ((k, x) :: xs) ((toKey k, v) :: vs)
/-- a dict by tuples of these -/
inductive RTs (g : Gx) (F : Hp) (dl : List Addr) : List (PV × PV) → List (List Key × V) → Prop
  | nil : RTs g F dl [] []
  | cons {ks : List PV} {x : PV} {v : V} {xs : List (PV × PV)} {vs : List (List Key × V)} : ks.all isKey0 = true → RV g F dl x v → RTs g F dl xs vs → RTs g F dl ((.tup ks, x) :: xs) ((ks.map toKey, v) :: vs)
inductive RFs (g : Gx) (F : Hp) (dl : List Addr) : List (Nat × PV) → List (Str × V) → Prop
  | nil : RFs g F dl [] []
  | cons {n : Nat} {x : PV} {v : V} {xs : List (Nat × PV)} {vs : List (Str × V)} : RV g F dl x v → RFs g F dl xs vs → RFs g F dl ((n, x) :: xs) ((g.fld n, v) :: vs)
end

/-- all that F has, F' has -/
def Le (F F' : Hp) : Prop := ∀ a o, F a = some o → F' a = some o
theorem Le.refl (F : Hp) : Le F F := fun _ _ h => h
theorem Le.trans {F G H : Hp} (a : Le F G) (b : Le G H) : Le F H := fun x o h => b x o (a x o h)
theorem Le.sqL {K : PySem.W.Frag} {F F' : Hp} {a : Addr} {xs : List V} (l : Le F F') (h : SqL K F a xs) : SqL K F' a xs := by
  obtain (x | ⟨o, x⟩) | x := h
  · exact .inl (.inl (l _ _ x))
  · exact .inl (.inr ⟨o, l _ _ x⟩)
  · exact .inr x
theorem Le.sqE {K : PySem.W.Frag} {F F' : Hp} {a : Addr} {xs : List V} (l : Le F F') (h : SqE K F a xs) : SqE K F' a xs := by
  obtain (x | ⟨o, x⟩) | x := h
  · exact .inl (.inl (l _ _ x))
  · exact .inl (.inr ⟨o, l _ _ x⟩)
  · exact .inr x
theorem Le.sqT {K : PySem.W.Frag} {F F' : Hp} {a : Addr} {xs : List V} (l : Le F F') (h : SqT K F a xs) : SqT K F' a xs := by
  obtain (x | ⟨o, x⟩) | x := h
  · exact .inl (.inl (l _ _ x))
  · exact .inl (.inr ⟨o, l _ _ x⟩)
  · exact .inr x

section
variable {g : Gx} {F F' : Hp} {dl dl' : List Addr}
mutual
/-- more that will not change, more things of the store -/
theorem RV.mono (l : Le F F') (p : ∀ (n : Nat) a, dl[n]? = some a → dl'[n]? = some a) : ∀ {x : PV} {v : V}, RV g F dl x v → RV g F' dl' x v
  | _, _, .non => .non
  | _, _, .bl b => .bl b
  | _, _, .int i => .int i
  | _, _, .str s => .str s
  | _, _, .tup h r => .tup (l _ _ h) (r.mono l p)
  | _, _, .lst h r => .lst (l.sqE h) (r.mono l p)
  | _, _, .dK h r => .dK (l _ _ h) (r.mono l p)
  | _, _, .dT h r => .dT (l _ _ h) (r.mono l p)
  | _, _, .obj h h2 r => .obj (l _ _ h) (l _ _ h2) (r.mono l p)
  | _, _, .ref h => .ref (p _ _ h)
theorem RVs.mono (l : Le F F') (p : ∀ (n : Nat) a, dl[n]? = some a → dl'[n]? = some a) : ∀ {x : List PV} {v : List V}, RVs g F dl x v → RVs g F' dl' x v
  | _, _, .nil => .nil
  | _, _, .cons h r => .cons (h.mono l p) (r.mono l p)
theorem RKs.mono (l : Le F F') (p : ∀ (n : Nat) a, dl[n]? = some a → dl'[n]? = some a) : ∀ {x : List (PV × PV)} {v : List (Key × V)}, RKs g F dl x v → RKs g F' dl' x v
  | _, _, .nil => .nil
  | _, _, .cons k h r => .cons k (h.mono l p) (r.mono l p)
theorem RTs.mono (l : Le F F') (p : ∀ (n : Nat) a, dl[n]? = some a → dl'[n]? = some a) : ∀ {x : List (PV × PV)} {v : List (List Key × V)}, RTs g F dl x v → RTs g F' dl' x v
  | _, _, .nil => .nil
  | _, _, .cons k h r => .cons k (h.mono l p) (r.mono l p)
theorem RFs.mono (l : Le F F') (p : ∀ (n : Nat) a, dl[n]? = some a → dl'[n]? = some a) : ∀ {x : List (Nat × PV)} {v : List (Str × V)}, RFs g F dl x v → RFs g F' dl' x v
  | _, _, .nil => .nil
  | _, _, .cons h r => .cons (h.mono l p) (r.mono l p)
end
mutual
/-- where nothing of the store is within, the store does not matter -/
theorem RV.out (l : Le F F') : ∀ {x : PV} {v : V}, x.pure = true → RV g F dl x v → RV g F' dl' x v
  | _, _, _, .non => .non
  | _, _, _, .bl b => .bl b
  | _, _, _, .int i => .int i
  | _, _, _, .str s => .str s
  | _, _, q, .tup h r => .tup (l _ _ h) (r.out l (by simpa [PV.pure] using q))
  | _, _, q, .lst h r => .lst (l.sqE h) (r.out l (by simpa [PV.pure] using q))
  | _, _, q, .dK h r => .dK (l _ _ h) (r.out l (by simpa [PV.pure] using q))
  | _, _, q, .dT h r => .dT (l _ _ h) (r.out l (by simpa [PV.pure] using q))
  | _, _, q, .obj h h2 r => .obj (l _ _ h) (l _ _ h2) (r.out l (by simpa [PV.pure] using q))
  | _, _, q, .ref h => by simp [PV.pure] at q
theorem RVs.out (l : Le F F') : ∀ {x : List PV} {v : List V}, pureAll x = true → RVs g F dl x v → RVs g F' dl' x v
  | _, _, _, .nil => .nil
  | _, _, q, .cons h r => by
    simp only [pureAll, Bool.and_eq_true] at q
    exact .cons (h.out l q.1) (r.out l q.2)
theorem RKs.out (l : Le F F') : ∀ {x : List (PV × PV)} {v : List (Key × V)}, pureKv x = true → RKs g F dl x v → RKs g F' dl' x v
  | _, _, _, .nil => .nil
  | _, _, q, .cons k h r => by
    simp only [pureKv, Bool.and_eq_true] at q
    exact .cons k (h.out l q.1.2) (r.out l q.2)
theorem RTs.out (l : Le F F') : ∀ {x : List (PV × PV)} {v : List (List Key × V)}, pureKv x = true → RTs g F dl x v → RTs g F' dl' x v
  | _, _, _, .nil => .nil
  | _, _, q, .cons k h r => by
    simp only [pureKv, Bool.and_eq_true] at q
    exact .cons k (h.out l q.1.2) (r.out l q.2)
theorem RFs.out (l : Le F F') : ∀ {x : List (Nat × PV)} {v : List (Str × V)}, pureFs x = true → RFs g F dl x v → RFs g F' dl' x v
  | _, _, _, .nil => .nil
  | _, _, q, .cons h r => by
    simp only [pureFs, Bool.and_eq_true] at q
    exact .cons (h.out l q.1) (r.out l q.2)
end
end

/-- a thing of the store, as it stands in the heap at a -/
inductive RD (g : Gx) (F : Hp) (dl : List Addr) (H : Hp) : DO → Addr → Prop
  | lst {a : Addr} {xs : List PV} {vs : List V} : H a = some (.lst vs) → pureAll xs = true → RVs g F dl xs vs → RD g F dl H (.lst xs) a
  | dK {a : Addr} {xs : List (PV × PV)} {kvs : List (Key × V)} : H a = some (.dK kvs) → pureKv xs = true → RKs g F dl xs kvs → RD g F dl H (.dct xs) a
  | dT {a : Addr} {xs : List (PV × PV)} {kvs : List (List Key × V)} : H a = some (.dT kvs) → pureKv xs = true → RTs g F dl xs kvs → RD g F dl H (.dct xs) a
  | obj {a dx : Addr} {c : Nat} {fs : List (Nat × PV)} {ws : List (Str × V)} : H a = some (.ins (g.cls c) dx ws) → H dx = some (.own a) → pureFs fs = true → RFs g F dl fs ws → RD g F dl H (.obj c fs) a

/-- the heap says the store -/
structure Rh (g : Gx) (F : Hp) (dl : List Addr) (D : Hs) (H : Hp) : Prop where
  sub : Le F H
  len : dl.length = D.length
  nd : dl.Nodup
  out : ∀ a ∈ dl, F a = none
  at_ : ∀ (n : Nat) a o, dl[n]? = some a → D[n]? = some o → RD g F dl H o a
/-- .. and the slots -/
structure Rp (g : Gx) (F : Hp) (dl : List Addr) (r : Rho) (D : Hs) (st : L2.St) (H : Hp) : Prop where
  h : Rh g F dl D H
  len : st.length = r.length
  sl : ∀ (i : Nat) pv, r[i]? = some (some pv) → ∃ v, st[i]? = some (some v) ∧ RV g F dl pv v

/-- from one state to a later one -/
structure Ev (F : Hp) (dl : List Addr) (H F' : Hp) (dl' : List Addr) (H' : Hp) : Prop where
  fm : Le F F'
  dp : ∀ (n : Nat) a, dl[n]? = some a → dl'[n]? = some a
  dn : ∀ a ∈ dl', a ∈ dl ∨ H a = none
  kp : ∀ a o, H a = some o → a ∉ dl → H' a = some o
  fn : ∀ a o, F' a = some o → F a = some o ∨ H a = none ∨ a ∈ dl ∨ ∃ ys, H a = some (.tup ys)
  ki : ∀ a C dx ws, H a = some (.ins C dx ws) → ∃ ws', H' a = some (.ins C dx ws')
theorem Ev.refl (F : Hp) (dl : List Addr) (H : Hp) : Ev F dl H F dl H := ⟨Le.refl _, fun _ _ h => h, fun _ h => .inl h, fun _ _ h _ => h, fun _ _ h => .inl h, fun _ _ _ ws h => ⟨ws, h⟩⟩
theorem Ev.trans {F F1 F2 H H1 H2 : Hp} {dl d1 d2 : List Addr} (a : Ev F dl H F1 d1 H1) (b : Ev F1 d1 H1 F2 d2 H2) : Ev F dl H F2 d2 H2 where
  fm := a.fm.trans b.fm
  dp := fun n x h => b.dp n x (a.dp n x h)
  dn := fun x h => by
    rcases b.dn x h with q | q
    · exact a.dn x q
    · by_cases m : x ∈ dl
      · exact .inl m
      · refine .inr ?_
        cases e : H x with
        | none => rfl
        | some o => rw [a.kp x o e m] at q; cases q
  kp := fun x o h m => b.kp x o (a.kp x o h m) fun q => by
    rcases a.dn x q with z | z
    · exact m z
    · rw [h] at z; cases z
  fn := fun x o h => by
    rcases b.fn x o h with q | q | q | ⟨ys, q⟩
    · exact a.fn x o q
    · by_cases m : x ∈ dl
      · exact .inr (.inr (.inl m))
      · refine .inr (.inl ?_)
        cases e : H x with
        | none => rfl
        | some u => rw [a.kp x u e m] at q; cases q
    · rcases a.dn x q with z | z
      · exact .inr (.inr (.inl z))
      · exact .inr (.inl z)
    · by_cases m : x ∈ dl
      · exact .inr (.inr (.inl m))
      · cases e : H x with
        | none => exact .inr (.inl rfl)
        | some u =>
          rw [a.kp x u e m] at q
          cases q
          exact .inr (.inr (.inr ⟨ys, rfl⟩))
  ki := fun x C dx ws h => by
    obtain ⟨w1, h1⟩ := a.ki x C dx ws h
    exact b.ki x C dx w1 h1

section
variable {g : Gx} {F : Hp} {dl : List Addr} {r : Rho} {D : Hs} {st : L2.St} {H : Hp}
/-- what is told of the store stands in the heap -/
theorem RD.there {o : DO} {a : Addr} (h : RD g F dl H o a) : ∃ u, H a = some u := by
  cases h with
  | lst h _ _ => exact ⟨_, h⟩
  | dK h _ _ => exact ⟨_, h⟩
  | dT h _ _ => exact ⟨_, h⟩
  | obj h _ _ _ => exact ⟨_, h⟩
theorem Rh.get (h : Rh g F dl D H) {n : Nat} {a : Addr} (e : dl[n]? = some a) : ∃ o, D[n]? = some o ∧ RD g F dl H o a := by
  have l := (List.getElem?_eq_some_iff.mp e).1
  rw [h.len] at l
  exact ⟨D[n], List.getElem?_eq_getElem l, h.at_ n a _ e (List.getElem?_eq_getElem l)⟩
theorem Rh.there (h : Rh g F dl D H) {a : Addr} (m : a ∈ dl) : ∃ u, H a = some u := by
  obtain ⟨n, hn, e⟩ := List.mem_iff_getElem.mp m
  obtain ⟨o, _, q⟩ := h.get (n := n) (a := a) (by rw [List.getElem?_eq_getElem hn, e])
  exact q.there
theorem Rh.fresh (h : Rh g F dl D H) {a : Addr} (e : H a = none) : F a = none ∧ a ∉ dl := by
  refine ⟨?_, fun m => ?_⟩
  · cases q : F a with
    | none => rfl
    | some o => rw [h.sub a o q] at e; cases e
  · obtain ⟨u, q⟩ := h.there m
    rw [q] at e; cases e
/-- one more object that nobody of the store is: it will not change any more -/
theorem RD.upd {o : DO} {a p : Addr} {u : HO} (h : RD g F dl H o a) (n : H p = none) : RD g F dl (upd H p u) o a := by
  cases h with
  | lst h p1 q => exact .lst (by rw [upd_ne (ne_of_none h n)]; exact h) p1 q
  | dK h p1 q => exact .dK (by rw [upd_ne (ne_of_none h n)]; exact h) p1 q
  | dT h p1 q => exact .dT (by rw [upd_ne (ne_of_none h n)]; exact h) p1 q
  | obj h h2 p1 q => exact .obj (by rw [upd_ne (ne_of_none h n)]; exact h) (by rw [upd_ne (ne_of_none h2 n)]; exact h2) p1 q
theorem RD.mono {F' : Hp} {dl' : List Addr} {o : DO} {a : Addr} (l : Le F F') (h : RD g F dl H o a) : RD g F' dl' H o a := by
  cases h with
  | lst h p q => exact .lst h p (q.out l p)
  | dK h p q => exact .dK h p (q.out l p)
  | dT h p q => exact .dT h p (q.out l p)
  | obj h h2 p q => exact .obj h h2 p (q.out l p)
theorem Le.upd {p : Addr} {u : HO} (n : F p = none) : Le F (upd F p u) := fun a o h => by
  rw [upd_ne (ne_of_none h n)]; exact h
/-- a new object, left as it is -/
theorem Rh.new {p : Addr} {u : HO} (h : Rh g F dl D H) (n : H p = none) : Rh g F dl D (L2.upd H p u) where
  sub := fun a o e => by rw [upd_ne (ne_of_none (h.sub a o e) n)]; exact h.sub a o e
  len := h.len
  nd := h.nd
  out := h.out
  at_ := fun m a o e1 e2 => (h.at_ m a o e1 e2).upd n
theorem Ev.new {p : Addr} {u : HO} (n : H p = none) : Ev F dl H F dl (L2.upd H p u) :=
  ⟨Le.refl _, fun _ _ e => e, fun _ e => .inl e, fun a o e _ => by rw [upd_ne (ne_of_none e n)]; exact e, fun _ _ e => .inl e, fun a _ _ ws e => ⟨ws, by rw [upd_ne (ne_of_none e n)]; exact e⟩⟩
/-- an object that stands in the heap and is nobody's is taken among those that will not change -/
theorem Rh.keep {p : Addr} {u : HO} (h : Rh g F dl D H) (e : H p = some u) (n : F p = none) (m : p ∉ dl) : Rh g (L2.upd F p u) dl D H where
  sub := fun a o q => by
    by_cases z : a = p
    · subst z; rw [upd_same] at q; cases q; exact e
    · rw [upd_ne z] at q; exact h.sub a o q
  len := h.len
  nd := h.nd
  out := fun a q => by
    have z : a ≠ p := fun z => m (z ▸ q)
    rw [upd_ne z]
    exact h.out a q
  at_ := fun k a o e1 e2 => (h.at_ k a o e1 e2).mono (Le.upd n)
theorem Rp.to {F' : Hp} {dl' : List Addr} {D' : Hs} {H' : Hp} (p : Rp g F dl r D st H) (h : Rh g F' dl' D' H') (e : Ev F dl H F' dl' H') : Rp g F' dl' r D' st H' :=
  ⟨h, p.len, fun i pv q => by
    obtain ⟨v, e1, e2⟩ := p.sl i pv q
    exact ⟨v, e1, e2.mono e.fm e.dp⟩⟩
end

/-- an expression's result: a value, or a new list (dict) that nobody else has -/
def RR (g : Gx) (F : Hp) (dl : List Addr) (H H' : Hp) (pv : PV) (fr : Bool) (v : V) : Prop := match fr with
  | false => RV g F dl pv v
  | true => ∃ a, v = .ref a ∧ H a = none ∧ F a = none ∧ a ∉ dl ∧ match pv with
    | .lst xs => ∃ vs, H' a = some (.lst vs) ∧ RVs g F dl xs vs
    | .dct xs => (∃ kvs, H' a = some (.dK kvs) ∧ RKs g F dl xs kvs) ∨ ∃ kvs, H' a = some (.dT kvs) ∧ RTs g F dl xs kvs
    | _ => False
/-- .. taken among what will not change -/
theorem RR.keep {g : Gx} {F : Hp} {dl : List Addr} {D : Hs} {H H' : Hp} {pv : PV} {fr : Bool} {v : V} (h : Rh g F dl D H') (q : RR g F dl H H' pv fr v) :
    ∃ F', Le F F' ∧ Rh g F' dl D H' ∧ RV g F' dl pv v ∧ ∀ b o, F' b = some o → F b = some o ∨ H b = none := by
  cases fr with
  | false => exact ⟨F, Le.refl _, h, q, fun _ _ e => .inl e⟩
  | true =>
    obtain ⟨a, rfl, h0, hF, hd, q⟩ := q
    have fn : ∀ (u : HO) b o, L2.upd F a u b = some o → F b = some o ∨ H b = none := fun u b o e => by
      by_cases z : b = a
      · subst z; exact .inr h0
      · rw [upd_ne z] at e; exact .inl e
    cases pv with
    | lst xs =>
      obtain ⟨vs, e, r⟩ := q
      exact ⟨upd F a (.lst vs), Le.upd hF, h.keep e hF hd, .lst (.inl (.inl upd_same)) (r.mono (Le.upd hF) fun _ _ z => z), fn _⟩
    | dct xs =>
      rcases q with ⟨kvs, e, r⟩ | ⟨kvs, e, r⟩
      · exact ⟨upd F a (.dK kvs), Le.upd hF, h.keep e hF hd, .dK upd_same (r.mono (Le.upd hF) fun _ _ z => z), fn _⟩
      · exact ⟨upd F a (.dT kvs), Le.upd hF, h.keep e hF hd, .dT upd_same (r.mono (Le.upd hF) fun _ _ z => z), fn _⟩
    | _ => exact (show False from q).elim
/-- more is known at the end -/
theorem Ev.more {F F1 F2 H H1 : Hp} {dl dl1 : List Addr} (ev : Ev F dl H F1 dl1 H1) (l : Le F1 F2) (fn : ∀ b o, F2 b = some o → F1 b = some o ∨ H b = none) : Ev F dl H F2 dl1 H1 :=
  ⟨ev.fm.trans l, ev.dp, ev.dn, ev.kp, fun a o e => by
    rcases fn a o e with q | q
    · exact ev.fn a o q
    · exact .inr (.inl q), ev.ki⟩
theorem Rp.more {g : Gx} {F F2 : Hp} {dl : List Addr} {r : Rho} {D : Hs} {st : L2.St} {H : Hp} (p : Rp g F dl r D st H) (h : Rh g F2 dl D H) (l : Le F F2) : Rp g F2 dl r D st H :=
  ⟨h, p.len, fun i pv q => by
    obtain ⟨v, e1, e2⟩ := p.sl i pv q
    exact ⟨v, e1, e2.mono l fun _ _ z => z⟩⟩
end HT
namespace HT
open L2 PyProof.Rows PySem PySem.Spec

/-- a body (or a block) in which we read -/
structure Gd (g : Gx) (X : Cx) (k : Nat) : Prop where
  K : X.K = g.K
  calm : X.calm = true
  room : Room k X.A
  gu : X.A.guards = some []

section
variable {g : Gx} {F : Hp} {dl : List Addr} {D : Hs} {H : Hp}
/-! ### what a value is, seen through the store -/
theorem view_int {px : PV} {x : V} {i : Int} (h : Rh g F dl D H) (r : RV g F dl px x) (e : deref D px = .int i) : x = .int i := by
  cases r with
  | int j => simp only [deref] at e; cases e; rfl
  | ref q =>
    obtain ⟨o, e1, _⟩ := h.get q
    cases o <;> simp [deref, e1] at e
  | _ => simp [deref] at e
theorem view_bl {px : PV} {x : V} {i : Bool} (h : Rh g F dl D H) (r : RV g F dl px x) (e : deref D px = .bl i) : x = .bl i := by
  cases r with
  | bl j => simp only [deref] at e; cases e; rfl
  | ref q =>
    obtain ⟨o, e1, _⟩ := h.get q
    cases o <;> simp [deref, e1] at e
  | _ => simp [deref] at e
theorem view_non {px : PV} {x : V} (h : Rh g F dl D H) (r : RV g F dl px x) (e : deref D px = .non) : x = .non := by
  cases r with
  | non => rfl
  | ref q =>
    obtain ⟨o, e1, _⟩ := h.get q
    cases o <;> simp [deref, e1] at e
  | _ => simp [deref] at e
theorem view_str {px : PV} {x : V} {s : List Nat} (h : Rh g F dl D H) (r : RV g F dl px x) (e : deref D px = .str s) : x = .str (toStr s) := by
  cases r with
  | str j => simp only [deref] at e; cases e; rfl
  | ref q =>
    obtain ⟨o, e1, _⟩ := h.get q
    cases o <;> simp [deref, e1] at e
  | _ => simp [deref] at e
theorem view_lst {px : PV} {x : V} {xs : List PV} (h : Rh g F dl D H) (r : RV g F dl px x) (e : deref D px = .lst xs) : ∃ a vs, x = .ref a ∧ SqE g.K H a vs ∧ RVs g F dl xs vs := by
  cases r with
  | lst h1 r1 => simp only [deref] at e; cases e; exact ⟨_, _, rfl, h.sub.sqE h1, r1⟩
  | ref q =>
    obtain ⟨o, e1, d⟩ := h.get q
    cases d with
    | lst h1 p r1 => simp [deref, e1] at e; cases e; exact ⟨_, _, rfl, .inl (.inl h1), r1⟩
    | _ => simp [deref, e1] at e
  | _ => simp [deref] at e
theorem view_tup {px : PV} {x : V} {xs : List PV} (h : Rh g F dl D H) (r : RV g F dl px x) (e : deref D px = .tup xs) : ∃ a vs, x = .ref a ∧ H a = some (.tup vs) ∧ RVs g F dl xs vs := by
  cases r with
  | tup h1 r1 => simp only [deref] at e; cases e; exact ⟨_, _, rfl, h.sub _ _ h1, r1⟩
  | ref q =>
    obtain ⟨o, e1, d⟩ := h.get q
    cases o <;> simp [deref, e1] at e
  | _ => simp [deref] at e
theorem view_obj {px : PV} {x : V} {c : Nat} {fs : List (Nat × PV)} (h : Rh g F dl D H) (r : RV g F dl px x) (e : deref D px = .obj c fs) :
    ∃ a dx ws, x = .ref a ∧ H a = some (.ins (g.cls c) dx ws) ∧ RFs g F dl fs ws := by
  cases r with
  | obj h1 h2 r1 => simp only [deref] at e; cases e; exact ⟨_, _, _, rfl, h.sub _ _ h1, r1⟩
  | ref q =>
    obtain ⟨o, e1, d⟩ := h.get q
    cases d with
    | obj h1 h2 p r1 => simp [deref, e1] at e; obtain ⟨rfl, rfl⟩ := e; exact ⟨_, _, _, rfl, h1, r1⟩
    | _ => simp [deref, e1] at e
  | _ => simp [deref] at e
theorem view_dct {px : PV} {x : V} {kvs : List (PV × PV)} (h : Rh g F dl D H) (r : RV g F dl px x) (e : deref D px = .dct kvs) :
    ∃ a, x = .ref a ∧ ((∃ ks, H a = some (.dK ks) ∧ RKs g F dl kvs ks) ∨ ∃ ks, H a = some (.dT ks) ∧ RTs g F dl kvs ks) := by
  cases r with
  | dK h1 r1 => simp only [deref] at e; cases e; exact ⟨_, rfl, .inl ⟨_, h.sub _ _ h1, r1⟩⟩
  | dT h1 r1 => simp only [deref] at e; cases e; exact ⟨_, rfl, .inr ⟨_, h.sub _ _ h1, r1⟩⟩
  | ref q =>
    obtain ⟨o, e1, d⟩ := h.get q
    cases d with
    | dK h1 p r1 => simp [deref, e1] at e; cases e; exact ⟨_, rfl, .inl ⟨_, h1, r1⟩⟩
    | dT h1 p r1 => simp [deref, e1] at e; cases e; exact ⟨_, rfl, .inr ⟨_, h1, r1⟩⟩
    | _ => simp [deref, e1] at e
  | _ => simp [deref] at e

theorem RVs.length : ∀ {xs : List PV} {vs : List V}, RVs g F dl xs vs → xs.length = vs.length
  | _, _, .nil => rfl
  | _, _, .cons _ more => congrArg (· + 1) more.length
theorem RVs.append : ∀ {xs ys : List PV} {vs ws : List V}, RVs g F dl xs vs → RVs g F dl ys ws → RVs g F dl (xs ++ ys) (vs ++ ws)
  | _, _, _, _, .nil, s => s
  | _, _, _, _, .cons h r, s => .cons h (r.append s)
theorem RVs.get : ∀ {xs : List PV} {vs : List V} {i : Nat} {x : PV}, RVs g F dl xs vs → xs[i]? = some x → ∃ v, vs[i]? = some v ∧ RV g F dl x v
  | _, _, _, _, .nil, e => absurd e (by simp)
  | _, _, 0, _, .cons h r, e => by simp at e; subst e; exact ⟨_, rfl, h⟩
  | _, _, i + 1, _, .cons h r, e => by
    obtain ⟨v, e1, e2⟩ := r.get (i := i) (by simpa using e)
    exact ⟨v, by simpa using e1, e2⟩
theorem RVs.take : ∀ {xs : List PV} {vs : List V} (n : Nat), RVs g F dl xs vs → RVs g F dl (xs.take n) (vs.take n)
  | _, _, 0, _ => by simp; exact .nil
  | _, _, n + 1, .nil => by simp; exact .nil
  | _, _, n + 1, .cons h r => by simp; exact .cons h (r.take n)
theorem RVs.drop : ∀ {xs : List PV} {vs : List V} (n : Nat), RVs g F dl xs vs → RVs g F dl (xs.drop n) (vs.drop n)
  | _, _, 0, r => r
  | _, _, n + 1, .nil => by simp; exact .nil
  | _, _, n + 1, .cons h r => by simp; exact r.drop n
theorem RVs.rep {xs : List PV} {vs : List V} (h : RVs g F dl xs vs) : ∀ n : Nat, RVs g F dl (repL n xs) (List.replicate n vs).flatten
  | 0 => .nil
  | n + 1 => by
    simp only [List.replicate_succ, List.flatten_cons]
    exact h.append (h.rep n)
theorem RVs.set {x : PV} {v : V} (hx : RV g F dl x v) : ∀ {xs : List PV} {vs : List V} (i : Nat), RVs g F dl xs vs → RVs g F dl (xs.set i x) (vs.set i v)
  | _, _, _, .nil => .nil
  | _, _, 0, .cons _ r => .cons hx r
  | _, _, i + 1, .cons h r => .cons h (r.set hx i)
theorem RVs.eraseIdx : ∀ {xs : List PV} {vs : List V} (i : Nat), RVs g F dl xs vs → RVs g F dl (xs.eraseIdx i) (vs.eraseIdx i)
  | _, _, _, .nil => by simp; exact .nil
  | _, _, 0, .cons _ r => by simpa using r
  | _, _, i + 1, .cons h r => by simpa using RVs.cons h (r.eraseIdx i)

/-! ### data -/
mutual
theorem RV.dp (l : Le F H) : ∀ {x : PV} {v : V}, x.data = true → RV g F dl x v → Dp g.K H v x.toData
  | _, _, _, .non => by simpa [PV.toData] using Dp.non
  | _, _, _, .bl b => by simpa [PV.toData] using Dp.bl b
  | _, _, _, .int i => by simpa [PV.toData] using Dp.int i
  | _, _, _, .str s => by simpa [PV.toData] using Dp.str _
  | _, _, q, .tup h r => by
    simp only [PV.data] at q
    simpa [PV.toData] using Dp.tup (SqT.of (l _ _ h)) (r.dps l q)
  | _, _, q, .lst h r => by
    simp only [PV.data] at q
    simpa [PV.toData] using Dp.lst (l.sqE h).sqL (r.dps l q)
  | _, _, q, .dK _ _ => by simp [PV.data] at q
  | _, _, q, .dT _ _ => by simp [PV.data] at q
  | _, _, q, .obj _ _ _ => by simp [PV.data] at q
  | _, _, q, .ref _ => by simp [PV.data] at q
theorem RVs.dps (l : Le F H) : ∀ {x : List PV} {v : List V}, dataAll x = true → RVs g F dl x v → DpAll g.K H v (toDatas x)
  | _, _, _, .nil => by simpa [toDatas] using DpAll.nil
  | _, _, q, .cons h r => by
    simp only [dataAll, Bool.and_eq_true] at q
    simpa [toDatas] using DpAll.cons (h.dp l q.1) (r.dps l q.2)
end
/-- data, seen through the store -/
theorem view_data {px : PV} {x : V} (h : Rh g F dl D H) (r : RV g F dl px x) (q : (deref D px).data = true) : Dp g.K H x (deref D px).toData := by
  cases r with
  | ref e =>
    obtain ⟨o, e1, d⟩ := h.get e
    cases d with
    | lst h1 p r1 =>
      simp only [deref, e1, PV.data] at q ⊢
      simpa [PV.toData] using Dp.lst (.inl (.inl h1)) (r1.dps h.sub q)
    | dK h1 _ _ => simp [deref, e1, PV.data] at q
    | dT h1 _ _ => simp [deref, e1, PV.data] at q
    | obj h1 _ _ _ => simp [deref, e1, PV.data] at q
  | non => exact RV.dp (dl := dl) h.sub q .non
  | bl b => exact RV.dp (dl := dl) h.sub q (.bl b)
  | int i => exact RV.dp (dl := dl) h.sub q (.int i)
  | str s => exact RV.dp (dl := dl) h.sub q (.str s)
  | tup a b => exact RV.dp h.sub q (.tup a b)
  | lst a b => exact RV.dp h.sub q (.lst a b)
  | dK a b => exact RV.dp h.sub q (.dK a b)
  | dT a b => exact RV.dp h.sub q (.dT a b)
  | obj a b c => exact RV.dp h.sub q (.obj a b c)
end

mutual
theorem plain_of : ∀ x : PV, x.toData.plain = true
  | .non => rfl
  | .bl _ => rfl
  | .int _ => rfl
  | .str _ => rfl
  | .tup xs => by simp only [PV.toData, PyData.plain]; exact plain_all xs
  | .lst xs => by simp only [PV.toData, PyData.plain]; exact plain_all xs
  | .dct _ => rfl
  | .obj _ _ => rfl
  | .ref _ => rfl
theorem plain_all : ∀ xs : List PV, PyData.plainAll (toDatas xs) = true
  | [] => rfl
  | x :: xs => by simp only [toDatas, PyData.plainAll, plain_of x, plain_all xs, Bool.and_self]
end
mutual
theorem depth_of : ∀ x : PV, x.data = true → x.toData.depth = x.depth
  | .non, _ => by simp [PV.toData, PyData.depth, PV.depth]
  | .bl _, _ => by simp [PV.toData, PyData.depth, PV.depth]
  | .int _, _ => by simp [PV.toData, PyData.depth, PV.depth]
  | .str _, _ => by simp [PV.toData, PyData.depth, PV.depth]
  | .tup xs, q => by
    simp only [PV.data] at q
    simp only [PV.toData, PyData.depth, PV.depth, depth_all xs q]
  | .lst xs, q => by
    simp only [PV.data] at q
    simp only [PV.toData, PyData.depth, PV.depth, depth_all xs q]
  | .dct _, q => by simp [PV.data] at q
  | .obj _ _, q => by simp [PV.data] at q
  | .ref _, q => by simp [PV.data] at q
theorem depth_all : ∀ xs : List PV, dataAll xs = true → PyData.depthAll (toDatas xs) = depthAll xs
  | [], _ => by simp [toDatas, PyData.depthAll, depthAll]
  | x :: xs, q => by
    simp only [dataAll, Bool.and_eq_true] at q
    simp only [toDatas, PyData.depthAll, depthAll, depth_of x q.1, depth_all xs q.2]
end
theorem toStr_inj {a b : List Nat} : (toStr a == toStr b) = (a == b) := by
  rw [Bool.eq_iff_iff]
  simp [toStr]
mutual
theorem eqv_of : ∀ x y : PV, x.data = true → y.data = true → PyData.eqv x.toData y.toData = x.eqv y
  | .non, y, _, q => by cases y <;> simp_all [PV.toData, PyData.eqv, PV.eqv, PV.data]
  | .bl b, y, _, q => by cases y <;> simp_all [PV.toData, PyData.eqv, PV.eqv, PV.data, b2i]
  | .int i, y, _, q => by cases y <;> simp_all [PV.toData, PyData.eqv, PV.eqv, PV.data, b2i]
  | .str s, y, _, q => by cases y <;> simp_all [PV.toData, PyData.eqv, PV.eqv, PV.data, toStr_inj]
  | .tup xs, y, p, q => by
    cases y with
    | tup ys =>
      simp only [PV.data] at p q
      simp only [PV.toData, PyData.eqv, PV.eqv]
      exact eqv_all xs ys p q
    | _ => simp_all [PV.toData, PyData.eqv, PV.eqv, PV.data]
  | .lst xs, y, p, q => by
    cases y with
    | lst ys =>
      simp only [PV.data] at p q
      simp only [PV.toData, PyData.eqv, PV.eqv]
      exact eqv_all xs ys p q
    | _ => simp_all [PV.toData, PyData.eqv, PV.eqv, PV.data]
  | .dct _, _, p, _ => by simp [PV.data] at p
  | .obj _ _, _, p, _ => by simp [PV.data] at p
  | .ref _, _, p, _ => by simp [PV.data] at p
theorem eqv_all : ∀ xs ys : List PV, dataAll xs = true → dataAll ys = true → PyData.eqvAll (toDatas xs) (toDatas ys) = eqvAll xs ys
  | [], [], _, _ => by simp [toDatas, PyData.eqvAll, eqvAll]
  | [], _ :: _, _, _ => by simp [toDatas, PyData.eqvAll, eqvAll]
  | _ :: _, [], _, _ => by simp [toDatas, PyData.eqvAll, eqvAll]
  | x :: xs, y :: ys, p, q => by
    simp only [dataAll, Bool.and_eq_true] at p q
    simp only [toDatas, PyData.eqvAll, eqvAll, eqv_of x y p.1 q.1, eqv_all xs ys p.2 q.2]
end
end HT
namespace HT
open L2 PyProof.Rows PySem PySem.Spec

/-- a value is back, the store as it was -/
def Back (g : Gx) (F : Hp) (dl : List Addr) (D : Hs) (H : Hp) (pz : PV) (fr : Bool) (Q : VK) : Prop :=
  ∀ v H' F', Ev F dl H F' dl H' → Rh g F' dl D H' → RR g F' dl H H' pz fr v → Q v H'
/-- a two-place operation on deep values -/
def rOp (g : Gx) (f : PV → PV → Option (PV × Bool)) : R2 := fun x y H Q => ∃ F dl D px py pz fr,
  Rh g F dl D H ∧ RV g F dl px x ∧ RV g F dl py y ∧ f (deref D px) (deref D py) = some (pz, fr) ∧ Back g F dl D H pz fr Q

section
variable {g : Gx} {F : Hp} {dl : List Addr} {D : Hs} {H : Hp} {Q : VK}
/-- nothing new -/
theorem Back.val {pz : PV} {v : V} (b : Back g F dl D H pz false Q) (h : Rh g F dl D H) (r : RV g F dl pz v) : Q v H := b v H F (Ev.refl _ _ _) h r
theorem Back.int {i : Int} (b : Back g F dl D H (.int i) false Q) (h : Rh g F dl D H) : Q (.int i) H := b.val h (.int i)
theorem Back.bl {i : Bool} (b : Back g F dl D H (.bl i) false Q) (h : Rh g F dl D H) : Q (.bl i) H := b.val h (.bl i)
theorem Back.str {i : List Nat} (b : Back g F dl D H (.str i) false Q) (h : Rh g F dl D H) : Q (.str (toStr i)) H := b.val h (.str i)
/-- a new list -/
theorem Back.lst {xs : List PV} {vs : List V} {p : Addr} (b : Back g F dl D H (.lst xs) true Q) (h : Rh g F dl D H) (r : RVs g F dl xs vs) (n : H p = none) : Q (.ref p) (upd H p (.lst vs)) :=
  b _ _ F (Ev.new n) (h.new n) ⟨p, rfl, n, (h.fresh n).1, (h.fresh n).2, vs, upd_same, r⟩
/-- a new tuple -/
theorem Back.tup {xs : List PV} {vs : List V} {p : Addr} (b : Back g F dl D H (.tup xs) false Q) (h : Rh g F dl D H) (r : RVs g F dl xs vs) (n : H p = none) : Q (.ref p) (upd H p (.tup vs)) := by
  have hF := (h.fresh n).1
  refine b _ _ (upd F p (.tup vs)) ⟨Le.upd hF, fun _ _ e => e, fun _ e => .inl e, (Ev.new (F := F) (dl := dl) n).kp, fun a o e => by
    by_cases z : a = p
    · subst z; exact .inr (.inl n)
    · rw [upd_ne z] at e; exact .inl e, (Ev.new (F := F) (dl := dl) n).ki⟩ ((h.new n).keep upd_same hF (h.fresh n).2) ?_
  exact .tup upd_same (r.mono (Le.upd hF) fun _ _ z => z)
end

theorem toStr_app (a b : List Nat) : toStr a ++ toStr b = toStr (a ++ b) := by
  show (⟨a.toArray ++ b.toArray⟩ : Str) = ⟨(a ++ b).toArray⟩
  simp
theorem toStr_len (a : List Nat) : (toStr a).length = a.length := by
  show (⟨a.toArray⟩ : Str).cps.size = _
  simp
theorem small64_ok {i : Int} (h : small64 i = true) : -(2 ^ 64) < i ∧ i < 2 ^ 64 := by
  unfold small64 at h
  simp only [decide_eq_true_eq, Bool.and_eq_true] at h
  exact h
theorem rel_ref {a : Addr} {u : Value} (r : RelV (.ref a) u) : u = .ref a := r

/-- list + list, wherever they stand -/
theorem op_catL {X : Cx} : OpR X (binaryOp .Add) (fun x y H Q => ∃ l b xs zs, x = .ref l ∧ y = .ref b ∧ SqE X.K H l xs ∧ SqE X.K H b zs ∧ xs.length + zs.length ≤ sizeLine ∧
    ∀ p, H p = none → Q (.ref p) (upd H p (.lst (xs ++ zs)))) := by
  intro pins s st H x y v u Q I rx ry h
  obtain ⟨l, b, xs, zs, rfl, rfl, hl, hb, hz, q⟩ := h
  cases rx
  cases ry
  obtain ⟨us, n1, r1, p1, _⟩ := listE I hl
  obtain ⟨ws, n2, r2, p2, _⟩ := listE I hb
  have e1 := r1.length
  have e2 := r2.length
  refine PySem.P.add_list p1 p2 ?_ (by simp only [List.size_toArray]; omega)
  rw [show us.toArray ++ ws.toArray = (us ++ ws).toArray by simp]
  exact ⟨.ref _, _, I.lnew (t' := s.toks) (r1.append r2) (by rw [List.length_append]; omega), rfl, q _ I.fresh⟩
theorem sizeL_eq : sizeL = sizeLine := by rw [sizeLine_eq]; rfl

/-- + - * // % ** -/
def opOf : BOp → Operator
  | .add => .Add
  | .sub => .Sub
  | .mul => .Mult
  | .fdiv => .FloorDiv
  | .mod => .Mod
  | .pow => .Pow
theorem op_bin {g : Gx} {X : Cx} (hK : X.K = g.K) (o : BOp) : OpR X (binaryOp (opOf o)) (rOp g (binV o)) := by
  intro pins s st H x y v u Q I rx ry h
  obtain ⟨F, dl, D, px, py, pz, fr, hh, r1, r2, e, b⟩ := h
  cases o with
  | add =>
    simp only [binV] at e
    unfold addV at e
    split at e
    · rename_i i j e1 e2
      cases e
      obtain rfl := view_int hh r1 e1
      obtain rfl := view_int hh r2 e2
      exact op_add pins s st H _ _ v u Q I rx ry ⟨_, _, rfl, rfl, b.int hh⟩
    · rename_i a c e1 e2
      split at e
      · rename_i hz
        cases e
        obtain rfl := view_str hh r1 e1
        obtain rfl := view_str hh r2 e2
        refine op_add_str pins s st H _ _ v u Q I rx ry ⟨_, _, rfl, rfl, by rw [toStr_len, toStr_len, ← sizeL_eq]; exact hz, ?_⟩
        rw [toStr_app]
        exact b.str hh
      · cases e
    · rename_i a c e1 e2
      split at e
      · rename_i hz
        cases e
        obtain ⟨p1, vs, rfl, h1, q1⟩ := view_lst hh r1 e1
        obtain ⟨p2, ws, rfl, h2, q2⟩ := view_lst hh r2 e2
        rw [← hK] at h1 h2
        exact op_catL pins s st H _ _ v u Q I rx ry ⟨_, _, _, _, rfl, rfl, h1, h2, by rw [← q1.length, ← q2.length, ← sizeL_eq]; exact hz, fun p n => b.lst hh (q1.append q2) n⟩
      · cases e
    · rename_i a c e1 e2
      split at e
      · rename_i hz
        cases e
        obtain ⟨p1, vs, rfl, h1, q1⟩ := view_tup hh r1 e1
        obtain ⟨p2, ws, rfl, h2, q2⟩ := view_tup hh r2 e2
        have t1 : RV g F dl (.tup a) (.ref p1) := by
          cases r1 with
          | tup z1 z2 => simp only [deref] at e1; cases e1; exact .tup z1 z2
          | ref z =>
            obtain ⟨o, z1, _⟩ := hh.get z
            cases o <;> simp [deref, z1] at e1
          | _ => simp [deref] at e1
        have t2 : RV g F dl (.tup c) (.ref p2) := by
          cases r2 with
          | tup z1 z2 => simp only [deref] at e2; cases e2; exact .tup z1 z2
          | ref z =>
            obtain ⟨o, z1, _⟩ := hh.get z
            cases o <;> simp [deref, z1] at e2
          | _ => simp [deref] at e2
        refine op_catA pins s st H _ _ v u Q I rx ry ⟨_, _, _, _, rfl, rfl, SqT.of h1, SqT.of h2, by rw [← q1.length, ← q2.length, ← sizeL_eq]; exact hz, fun z => ?_, fun _ z => ?_, fun _ _ p n => b.tup hh (q1.append q2) n⟩
        · subst z
          cases q1
          exact b.val hh t2
        · subst z
          cases q2
          rw [List.append_nil] at b
          exact b.val hh t1
      · cases e
    · cases e
  | sub =>
    unfold binV at e
    split at e <;> first | contradiction | skip
    rename_i z e1 e2
    cases z
    cases e
    obtain rfl := view_int hh r1 e1
    obtain rfl := view_int hh r2 e2
    exact op_sub pins s st H _ _ v u Q I rx ry ⟨_, _, rfl, rfl, b.int hh⟩
  | mul =>
    simp only [binV] at e
    unfold mulV at e
    split at e
    · rename_i i j e1 e2
      split at e
      · rename_i hz
        cases e
        obtain rfl := view_int hh r1 e1
        obtain rfl := view_int hh r2 e2
        refine op_mul pins s st H _ _ v u Q I rx ry ⟨_, _, rfl, rfl, ?_, b.int hh⟩
        rcases Bool.or_eq_true_iff.mp hz with z | z
        · exact .inl (small64_ok z)
        · exact .inr (small64_ok z)
      · cases e
    · cases e
  | fdiv =>
    unfold binV at e
    split at e <;> first | contradiction | skip
    rename_i z e1 e2
    cases z
    split at e
    · rename_i hz
      cases e
      obtain rfl := view_int hh r1 e1
      obtain rfl := view_int hh r2 e2
      exact op_fdiv pins s st H _ _ v u Q I rx ry ⟨_, _, rfl, rfl, hz, b.int hh⟩
    · cases e
  | mod =>
    unfold binV at e
    split at e <;> first | contradiction | skip
    rename_i z e1 e2
    cases z
    split at e
    · rename_i hz
      cases e
      obtain rfl := view_int hh r1 e1
      obtain rfl := view_int hh r2 e2
      exact op_mod pins s st H _ _ v u Q I rx ry ⟨_, _, rfl, rfl, hz, b.int hh⟩
    · cases e
  | pow =>
    unfold binV at e
    split at e <;> first | contradiction | skip
    rename_i z e1 e2
    cases z
    split at e
    · rename_i hz
      cases e
      obtain rfl := view_int hh r1 e1
      obtain rfl := view_int hh r2 e2
      exact op_pow pins s st H _ _ v u Q I rx ry ⟨_, _, rfl, rfl, hz, b.int hh⟩
    · cases e

/-! ### comparisons -/
theorem room_depth {A : Around} {k : Nat} (r : Room k A) {a b n : Nat} (h : a ≤ n) (hn : n ≤ 61) : A.units + 1 + min a b < cLine := by
  have := r.un
  have := Nat.min_le_left a b
  omega
theorem room_depth2 {A : Around} {k : Nat} (r : Room k A) {a b n : Nat} (h : b ≤ n) (hn : n ≤ 61) : A.units + 1 + min a b < cLine := by
  have := r.un
  have := Nat.min_le_right a b
  omega
def cmpOf : COp → CmpOp
  | .eq => .Eq
  | .ne => .NotEq
  | .lt => .Lt
  | .le => .LtE
  | .gt => .Gt
  | .ge => .GtE
  | .inn => .In
  | .nin => .NotIn
/-- a comparison's answer -/
def cmpR (o : COp) (x y : PV) : Option (PV × Bool) := (cmpV o x y).map fun b => (.bl b, false)
theorem cmpR_some {o : COp} {x y pz : PV} {fr : Bool} (e : cmpR o x y = some (pz, fr)) : ∃ b, cmpV o x y = some b ∧ pz = .bl b ∧ fr = false := by
  unfold cmpR at e
  cases q : cmpV o x y with
  | none => simp [q] at e
  | some b => rw [q] at e; cases e; exact ⟨b, rfl, rfl, rfl⟩
theorem bl_back {g : Gx} {X : Cx} {pins : List (Addr × Obj)} {st : L2.St} {s : Shared} {F : Hp} {dl : List Addr} {D : Hs} {H : Hp} {Q : VK} {b : Bool} (I : Inv X pins st H s) (hh : Rh g F dl D H) (q : Back g F dl D H (.bl b) false Q) : EP X pins st Q (.bool b) s :=
  ⟨.bl b, H, I, rfl, q.bl hh⟩
theorem toDatas_map (xs : List PV) : toDatas xs = xs.map PV.toData := by
  induction xs with
  | nil => simp [toDatas]
  | cons x xs ih => simp [toDatas, ih]
theorem memV_of (x : PV) (hx : x.data = true) : ∀ ys : List PV, dataAll ys = true → ((toDatas ys).any fun y => PyData.eqv y x.toData) = memV x ys
  | [], _ => by simp [toDatas, memV]
  | y :: ys, q => by
    simp only [dataAll, Bool.and_eq_true] at q
    simp only [toDatas, List.any_cons, memV, eqv_of y x q.1 hx, memV_of x hx ys q.2]
section
variable {g : Gx} {X : Cx} {pins : List (Addr × Obj)} {st : L2.St} {s : Shared} {F : Hp} {dl : List Addr} {D : Hs} {H : Hp}
/-- data are read off the heap -/
theorem reads_of {px : PV} {x : V} {u : Value} (hK : X.K = g.K) (I : Inv X pins st H s) (hh : Rh g F dl D H) (r : RV g F dl px x) (q : (deref D px).data = true) (ru : RelV x u) : ∃ as, Reads s.heap u (deref D px).toData as := by
  have d := view_data hh r q
  rw [← hK] at d
  exact Dp.reads I _ _ _ d ru
end
theorem eqR_some {a b : PV} {c : Bool} (e : eqR a b = some c) : a.data = true ∧ b.data = true ∧ a.depth ≤ 60 ∧ c = a.eqv b := by
  unfold eqR at e
  split at e
  · rename_i hz
    cases e
    simp only [decide_eq_true_eq, Bool.and_eq_true] at hz
    exact ⟨hz.1.1, hz.1.2, hz.2, rfl⟩
  · cases e
theorem map_not {o : Option Bool} {c : Bool} (e : o.map (!·) = some c) : ∃ b, o = some b ∧ c = !b := by
  cases o with
  | none => cases e
  | some b => cases e; exact ⟨b, rfl, rfl⟩
theorem cmp_eq {g : Gx} {X : Cx} {k : Nat} (G : Gd g X k) : OpR X (compareOp .Eq) (rOp g (cmpR .eq)) := by
  intro pins s st H x y v u Q I rx ry h
  obtain ⟨F, dl, D, px, py, pz, fr, hh, r1, r2, e, b⟩ := h
  obtain ⟨c, e2, rfl, rfl⟩ := cmpR_some e
  obtain ⟨d1, d2, dz, rfl⟩ := eqR_some (show eqR (deref D px) (deref D py) = some c from e2)
  obtain ⟨as, q1⟩ := reads_of G.K I hh r1 d1 rx
  obtain ⟨bs, q2⟩ := reads_of G.K I hh r2 d2 ry
  refine SeqAt.eq_plain q1 q2 (plain_of _) (plain_of _) ?_ ?_
  · rw [depth_of _ d1]
    have := room_depth G.room (b := (deref D py).toData.depth) dz (by omega)
    omega
  · rw [eqv_of _ _ d1 d2]
    exact bl_back I hh b
theorem cmp_ne {g : Gx} {X : Cx} {k : Nat} (G : Gd g X k) : OpR X (compareOp .NotEq) (rOp g (cmpR .ne)) := by
  intro pins s st H x y v u Q I rx ry h
  obtain ⟨F, dl, D, px, py, pz, fr, hh, r1, r2, e, b⟩ := h
  obtain ⟨c, e2, rfl, rfl⟩ := cmpR_some e
  obtain ⟨c', e3, rfl⟩ := map_not (show (eqR (deref D px) (deref D py)).map (!·) = some c from e2)
  obtain ⟨d1, d2, dz, rfl⟩ := eqR_some e3
  obtain ⟨as, q1⟩ := reads_of G.K I hh r1 d1 rx
  obtain ⟨bs, q2⟩ := reads_of G.K I hh r2 d2 ry
  refine SeqAt.ne_plain q1 q2 (plain_of _) (plain_of _) ?_ ?_
  · rw [depth_of _ d1]
    have := room_depth G.room (b := (deref D py).toData.depth) dz (by omega)
    omega
  · rw [eqv_of _ _ d1 d2]
    exact bl_back I hh b
mutual
theorem alike_of : ∀ x y : PV, x.alike y = true → PySem.W.alike x.toData y.toData = true
  | .non, y, h => by cases y <;> simp_all [PV.alike, PV.toData, PySem.W.alike]
  | .bl _, y, h => by cases y <;> simp_all [PV.alike, PV.toData, PySem.W.alike]
  | .int _, y, h => by cases y <;> simp_all [PV.alike, PV.toData, PySem.W.alike]
  | .str _, y, h => by cases y <;> simp_all [PV.alike, PV.toData, PySem.W.alike]
  | .tup xs, y, h => by
    cases y with
    | tup ys =>
      simp only [PV.alike] at h
      simp only [PV.toData, PySem.W.alike]
      exact alike_all xs ys h
    | _ => simp [PV.alike] at h
  | .lst _, y, h => by cases y <;> simp [PV.alike] at h
  | .dct _, y, h => by cases y <;> simp [PV.alike] at h
  | .obj _ _, y, h => by cases y <;> simp [PV.alike] at h
  | .ref _, y, h => by cases y <;> simp [PV.alike] at h
theorem alike_all : ∀ xs ys : List PV, alikeAll xs ys = true → PySem.W.alikeAll (toDatas xs) (toDatas ys) = true
  | [], [], _ => by simp [toDatas, PySem.W.alikeAll]
  | [], _ :: _, _ => by simp [toDatas, PySem.W.alikeAll]
  | _ :: _, [], _ => by simp [toDatas, PySem.W.alikeAll]
  | x :: xs, y :: ys, h => by
    simp only [alikeAll, Bool.and_eq_true] at h
    simp only [toDatas, PySem.W.alikeAll, alike_of x y h.1, alike_all xs ys h.2, Bool.and_self]
end
theorem natsLt_eq : ∀ a b : List Nat, natsLt a b = decide (a < b)
  | [], [] => by simp [natsLt]
  | [], _ :: _ => by simp [natsLt]
  | _ :: _, [] => by simp [natsLt]
  | a :: as, b :: bs => by
    rw [natsLt, natsLt_eq as bs]
    by_cases h : a < b
    · simp [h, List.cons_lt_cons_iff]
    · by_cases h2 : b < a
      · have : a ≠ b := by omega
        simp [h, h2, List.cons_lt_cons_iff, this]
      · have : a = b := by omega
        subst this
        simp [List.cons_lt_cons_iff]
mutual
theorem lt_of : ∀ x y : PV, x.data = true → y.data = true → x.alike y = true → x ≠ .non → PySem.W.dataLt x.toData y.toData = x.lt y
  | .non, y, _, _, h, n => absurd rfl n
  | .bl a, y, _, _, h, _ => by
    cases y with
    | bl b => simp only [PV.toData, PV.lt, PySem.W.dataLt_bool]; rfl
    | _ => simp [PV.alike] at h
  | .int a, y, _, _, h, _ => by
    cases y with
    | int b => simp only [PV.toData, PV.lt, PySem.W.dataLt_int]
    | _ => simp [PV.alike] at h
  | .str a, y, _, _, h, _ => by
    cases y with
    | str b =>
      simp only [PV.toData, PV.lt, PySem.W.dataLt_str, natsLt_eq]
      rfl
    | _ => simp [PV.alike] at h
  | .tup xs, y, p, q, h, _ => by
    cases y with
    | tup ys =>
      simp only [PV.alike] at h
      simp only [PV.data] at p q
      simp only [PV.toData, PV.lt, PySem.W.dataLt_tuple]
      exact lt_all xs ys p q h
    | _ => simp [PV.alike] at h
  | .lst _, y, _, _, h, _ => by cases y <;> simp [PV.alike] at h
  | .dct _, y, _, _, h, _ => by cases y <;> simp [PV.alike] at h
  | .obj _ _, y, _, _, h, _ => by cases y <;> simp [PV.alike] at h
  | .ref _, y, _, _, h, _ => by cases y <;> simp [PV.alike] at h
theorem lt_all : ∀ xs ys : List PV, dataAll xs = true → dataAll ys = true → alikeAll xs ys = true →
    PyProof.Rows.lexLt PyProof.Rows.itemOrd (PySem.W.keyToksAll (toDatas xs)) (PySem.W.keyToksAll (toDatas ys)) = ltAll xs ys
  | [], [], _, _, _ => by
    simp only [toDatas, ltAll]
    exact lex_irrefl _
  | [], y :: ys, _, _, _ => by
    simp only [toDatas, ltAll, PySem.W.keyToksAll]
    rw [lex_cons]
    rfl
  | x :: xs, [], _, _, _ => by
    simp only [toDatas, ltAll, PySem.W.keyToksAll]
    rw [lex_cons]
    rfl
  | x :: xs, y :: ys, p, q, h => by
    simp only [dataAll, Bool.and_eq_true] at p q
    simp only [alikeAll, Bool.and_eq_true] at h
    simp only [toDatas, ltAll]
    rw [PySem.W.dataLt_cons (alike_of x y h.1), eqv_of x y p.1 q.1, lt_all xs ys p.2 q.2 h.2]
    cases e : x.eqv y with
    | true => simp
    | false =>
      simp only [if_false, Bool.false_eq_true]
      refine lt_of x y p.1 q.1 h.1 fun z => ?_
      subst z
      cases y <;> simp [PV.alike, PV.eqv] at h e
end

mutual
theorem flipV : ∀ x y : PV, x.alike y = true → y.alike x = true
  | .non, y, h => by cases y <;> simp_all [PV.alike]
  | .bl _, y, h => by cases y <;> simp_all [PV.alike]
  | .int _, y, h => by cases y <;> simp_all [PV.alike]
  | .str _, y, h => by cases y <;> simp_all [PV.alike]
  | .tup xs, y, h => by
    cases y with
    | tup ys =>
      simp only [PV.alike] at h ⊢
      exact flipAll xs ys h
    | _ => simp [PV.alike] at h
  | .lst _, y, h => by cases y <;> simp [PV.alike] at h
  | .dct _, y, h => by cases y <;> simp [PV.alike] at h
  | .obj _ _, y, h => by cases y <;> simp [PV.alike] at h
  | .ref _, y, h => by cases y <;> simp [PV.alike] at h
theorem flipAll : ∀ xs ys : List PV, alikeAll xs ys = true → alikeAll ys xs = true
  | [], [], _ => by simp [alikeAll]
  | [], _ :: _, _ => by simp [alikeAll]
  | _ :: _, [], _ => by simp [alikeAll]
  | x :: xs, y :: ys, h => by
    simp only [alikeAll, Bool.and_eq_true] at h ⊢
    exact ⟨flipV x y h.1, flipAll xs ys h.2⟩
end
theorem ordOk_some {a b : List PV} (h : ordOk a b = true) : dataAll a = true ∧ dataAll b = true ∧ alikeAll a b = true ∧ depthAll a ≤ 59 := by
  unfold ordOk at h
  simp only [decide_eq_true_eq, Bool.and_eq_true] at h
  exact ⟨h.1.1.1, h.1.1.2, h.1.2, h.2⟩
/-- what two tuples that can be ordered are, for the library -/
theorem ord_reads {g : Gx} {X : Cx} {k : Nat} {pins : List (Addr × Obj)} {st : L2.St} {s : Shared} {F : Hp} {dl : List Addr} {D : Hs} {H : Hp} {px py : PV} {x y : V} {v u : Value} {a b : List PV}
    (G : Gd g X k) (I : Inv X pins st H s) (hh : Rh g F dl D H) (r1 : RV g F dl px x) (r2 : RV g F dl py y) (rx : RelV x v) (ry : RelV y u) (e1 : deref D px = .tup a) (e2 : deref D py = .tup b) (ho : ordOk a b = true) :
    (∃ as, Reads s.heap v (PV.tup a).toData as) ∧ (∃ bs, Reads s.heap u (PV.tup b).toData bs) ∧ PySem.W.alike (PV.tup a).toData (PV.tup b).toData = true ∧ (PV.tup a).toData ≠ .none ∧
      X.A.units + min (PV.tup a).toData.depth (PV.tup b).toData.depth < cLine ∧ PySem.W.dataLt (PV.tup a).toData (PV.tup b).toData = ltAll a b ∧ PySem.W.dataLt (PV.tup b).toData (PV.tup a).toData = ltAll b a := by
  obtain ⟨d1, d2, al, dz⟩ := ordOk_some ho
  have q1 := reads_of G.K I hh r1 (by rw [e1]; simpa [PV.data] using d1) rx
  have q2 := reads_of G.K I hh r2 (by rw [e2]; simpa [PV.data] using d2) ry
  rw [e1] at q1
  rw [e2] at q2
  have a1 : PySem.W.alike (PV.tup a).toData (PV.tup b).toData = true := alike_of _ _ (by simpa [PV.alike] using al)
  have a2 : alikeAll b a = true := by
    have flip : ∀ xs ys : List PV, alikeAll xs ys = true → alikeAll ys xs = true := fun xs ys h => flipAll xs ys h
    exact flip a b al
  refine ⟨q1, q2, a1, by simp [PV.toData], ?_, ?_, ?_⟩
  · rw [depth_of (.tup a) (by simpa [PV.data] using d1)]
    have := room_depth G.room (a := (PV.tup a).depth) (b := (PV.tup b).toData.depth) (n := 60) (by simp only [PV.depth]; omega) (by omega)
    omega
  · simp only [PV.toData, PySem.W.dataLt_tuple]
    exact lt_all a b d1 d2 al
  · simp only [PV.toData, PySem.W.dataLt_tuple]
    exact lt_all b a d2 d1 a2
end HT
namespace HT
open L2 PyProof.Rows PySem PySem.Spec

/-! ### keys -/
theorem key_eqv {q k : PV} (hq : isKey0 q = true) (hk : isKey0 k = true) : q.eqv k = decide (toKey q = toKey k) := by
  cases q with
  | int i =>
    cases k with
    | int j =>
      simp only [PV.eqv, toKey]
      rw [Bool.eq_iff_iff]
      simp
    | str s => simp [PV.eqv, toKey]
    | _ => simp [isKey0] at hk
  | str s =>
    cases k with
    | int j => simp [PV.eqv, toKey]
    | str t =>
      simp only [PV.eqv, toKey]
      rw [← toStr_inj, Bool.eq_iff_iff]
      simp
    | _ => simp [isKey0] at hk
  | _ => simp [isKey0] at hq
theorem keys_eqv : ∀ (qs ks : List PV), qs.all isKey0 = true → ks.all isKey0 = true → eqvAll qs ks = decide (qs.map toKey = ks.map toKey)
  | [], [], _, _ => by simp [eqvAll]
  | [], _ :: _, _, _ => by simp [eqvAll]
  | _ :: _, [], _, _ => by simp [eqvAll]
  | q :: qs, k :: ks, h1, h2 => by
    simp only [Bool.and_eq_true, List.all_cons] at h1 h2
    simp only [eqvAll, key_eqv h1.1 h2.1, keys_eqv qs ks h1.2 h2.2, List.map_cons, List.cons.injEq, Bool.decide_and]
theorem toKey_rel {k : PV} {v : V} {g : Gx} {F : Hp} {dl : List Addr} (hk : isKey0 k = true) (r : RV g F dl k v) : v = kV (toKey k) := by
  cases r <;> first | rfl | simp [isKey0] at hk
theorem toKeys_rel {g : Gx} {F : Hp} {dl : List Addr} : ∀ {ks : List PV} {vs : List V}, ks.all isKey0 = true → RVs g F dl ks vs → vs = (ks.map toKey).map kV
  | _, _, _, .nil => rfl
  | _, _, h, .cons r rs => by
    simp only [Bool.and_eq_true, List.all_cons] at h
    rw [toKey_rel h.1 r, toKeys_rel h.2 rs]
    rfl
/-- what is found -/
def RelF (g : Gx) (F : Hp) (dl : List Addr) : Option PV → Option V → Prop
  | none, none => True
  | some p, some v => RV g F dl p v
  | _, _ => False
section
variable {g : Gx} {F : Hp} {dl : List Addr}
theorem dFind_K {k : PV} (hk : isKey0 k = true) : ∀ {kvs : List (PV × PV)} {ks : List (Key × V)}, RKs g F dl kvs ks → RelF g F dl (dFind k kvs) (valV ks (toKey k))
  | _, _, .nil => by rw [valV_nil]; exact True.intro
  | _, _, .cons (k := q) hq r rs => by
    simp only [dFind, key_eqv hq hk]
    by_cases e : toKey q = toKey k
    · rw [valV_pos e]
      simp only [e, decide_true, if_true]
      exact r
    · rw [valV_neg e]
      simp only [e, decide_false, Bool.false_eq_true, if_false]
      exact dFind_K hk rs
theorem dFind_T {k : List PV} (hk : k.all isKey0 = true) : ∀ {kvs : List (PV × PV)} {ks : List (List Key × V)}, RTs g F dl kvs ks → RelF g F dl (dFind (.tup k) kvs) (valV ks (k.map toKey))
  | _, _, .nil => by rw [valV_nil]; exact True.intro
  | _, _, .cons (ks := q) hq r rs => by
    simp only [dFind, PV.eqv, keys_eqv _ _ hq hk]
    by_cases e : q.map toKey = k.map toKey
    · rw [valV_pos e]
      simp only [e, decide_true, if_true]
      exact r
    · rw [valV_neg e]
      simp only [e, decide_false, Bool.false_eq_true, if_false]
      exact dFind_T hk rs
theorem any_K {k : PV} (hk : isKey0 k = true) : ∀ {kvs : List (PV × PV)} {ks : List (Key × V)}, RKs g F dl kvs ks → (kvs.any fun q => q.1.eqv k) = (ks.any fun kv => decide (kv.1 = toKey k))
  | _, _, .nil => rfl
  | _, _, .cons hq r rs => by simp only [List.any_cons, key_eqv hq hk, any_K hk rs]
theorem any_T {k : List PV} (hk : k.all isKey0 = true) : ∀ {kvs : List (PV × PV)} {ks : List (List Key × V)}, RTs g F dl kvs ks → (kvs.any fun q => q.1.eqv (.tup k)) = (ks.any fun kv => decide (kv.1 = k.map toKey))
  | _, _, .nil => rfl
  | _, _, .cons hq r rs => by simp only [List.any_cons, PV.eqv, keys_eqv _ _ hq hk, any_T hk rs]
theorem rep_K {k x : PV} {v : V} (hk : isKey0 k = true) (rv : RV g F dl x v) : ∀ {kvs : List (PV × PV)} {ks : List (Key × V)}, RKs g F dl kvs ks →
    RKs g F dl (kvs.map fun q => if q.1.eqv k then (q.1, x) else q) (ks.map fun kv => if kv.1 = toKey k then (kv.1, v) else kv)
  | _, _, .nil => .nil
  | _, _, .cons (k := q) hq r rs => by
    simp only [List.map_cons, key_eqv hq hk]
    by_cases e : toKey q = toKey k
    · simp only [e, decide_true, if_true]
      rw [← e]
      exact .cons hq rv (by simpa [e] using rep_K hk rv rs)
    · simp only [e, decide_false, Bool.false_eq_true, if_false]
      exact .cons hq r (rep_K hk rv rs)
theorem rep_T {k : List PV} {x : PV} {v : V} (hk : k.all isKey0 = true) (rv : RV g F dl x v) : ∀ {kvs : List (PV × PV)} {ks : List (List Key × V)}, RTs g F dl kvs ks →
    RTs g F dl (kvs.map fun q => if q.1.eqv (.tup k) then (q.1, x) else q) (ks.map fun kv => if kv.1 = k.map toKey then (kv.1, v) else kv)
  | _, _, .nil => .nil
  | _, _, .cons (ks := q) hq r rs => by
    simp only [List.map_cons, PV.eqv, keys_eqv _ _ hq hk]
    by_cases e : q.map toKey = k.map toKey
    · simp only [e, decide_true, if_true]
      rw [← e]
      exact .cons hq rv (by simpa [e] using rep_T hk rv rs)
    · simp only [e, decide_false, Bool.false_eq_true, if_false]
      exact .cons hq r (rep_T hk rv rs)
theorem snoc_K {k x : PV} {v : V} (hk : isKey0 k = true) (rv : RV g F dl x v) : ∀ {kvs : List (PV × PV)} {ks : List (Key × V)}, RKs g F dl kvs ks → RKs g F dl (kvs ++ [(k, x)]) (ks ++ [(toKey k, v)])
  | _, _, .nil => .cons hk rv .nil
  | _, _, .cons hq r rs => .cons hq r (snoc_K hk rv rs)
theorem snoc_T {k : List PV} {x : PV} {v : V} (hk : k.all isKey0 = true) (rv : RV g F dl x v) : ∀ {kvs : List (PV × PV)} {ks : List (List Key × V)}, RTs g F dl kvs ks → RTs g F dl (kvs ++ [(.tup k, x)]) (ks ++ [(k.map toKey, v)])
  | _, _, .nil => .cons hk rv .nil
  | _, _, .cons hq r rs => .cons hq r (snoc_T hk rv rs)
theorem dPut_K {k x : PV} {v : V} {kvs : List (PV × PV)} {ks : List (Key × V)} (hk : isKey0 k = true) (rv : RV g F dl x v) (r : RKs g F dl kvs ks) : RKs g F dl (dPut k x kvs) (putK ks (toKey k) v) := by
  unfold dPut putK
  rw [any_K hk r]
  by_cases e : (ks.any fun kv => decide (kv.1 = toKey k)) = true
  · simp only [e, if_true]
    exact rep_K hk rv r
  · simp only [e, Bool.false_eq_true, if_false]
    exact snoc_K hk rv r
theorem dPut_T {k : List PV} {x : PV} {v : V} {kvs : List (PV × PV)} {ks : List (List Key × V)} (hk : k.all isKey0 = true) (rv : RV g F dl x v) (r : RTs g F dl kvs ks) : RTs g F dl (dPut (.tup k) x kvs) (putK ks (k.map toKey) v) := by
  unfold dPut putK
  rw [any_T hk r]
  by_cases e : (ks.any fun kv => decide (kv.1 = k.map toKey)) = true
  · simp only [e, if_true]
    exact rep_T hk rv r
  · simp only [e, Bool.false_eq_true, if_false]
    exact snoc_T hk rv r
theorem RKs.length : ∀ {kvs : List (PV × PV)} {ks : List (Key × V)}, RKs g F dl kvs ks → kvs.length = ks.length
  | _, _, .nil => rfl
  | _, _, .cons _ _ r => by simp [r.length]
theorem RTs.length : ∀ {kvs : List (PV × PV)} {ks : List (List Key × V)}, RTs g F dl kvs ks → kvs.length = ks.length
  | _, _, .nil => rfl
  | _, _, .cons _ _ r => by simp [r.length]
end

/-! ### the empty dict is of both kinds -/
theorem upd_own {G : Hp} {c : Addr} {x : HO} (q : G c = some x) : upd G c x = G :=
  funext fun b => if e : b = c then by subst e; rw [upd_same, q] else upd_ne e
section
variable {X : Cx} {pins : List (Addr × Obj)} {st : L2.St} {H : Hp} {s : Shared} {a : Addr}
theorem retag_T (I : Inv X pins st H s) (h : H a = some (.dK [])) : Inv X pins st (upd H a (.dT [])) s := by
  obtain ⟨z, hd, vs, rel, dd⟩ := dk_of I.hok h
  cases rel
  obtain ⟨o, es, ep, e1, e2, e3, _, e4, _⟩ := dd
  have e5 : es.toList = [] := by
    have := e4.length
    simpa using this
  refine d_write (t' := s.toks) I (by rw [h]; exact True.intro) ⟨rfl, fun _ _ => rfl⟩ ⟨o, e1⟩ ?_
  exact ⟨Nat.zero_le _, hd, [], .nil, o, es, ep, e1, e2, e3, by simpa using e5, by simp⟩
theorem retag_K (I : Inv X pins st H s) (h : H a = some (.dT [])) : Inv X pins st (upd H a (.dK [])) s := by
  obtain ⟨z, hd, xs, rel, dd⟩ := dt_of I.hok h
  cases rel
  obtain ⟨o, es, ep, e1, e2, e3, e4, _⟩ := dd
  have e5 : es = #[] := by simpa using e4
  subst e5
  refine d_write (t' := s.toks) I (by rw [h]; exact True.intro) ⟨rfl, fun _ _ => rfl⟩ ⟨o, e1⟩ ?_
  exact ⟨Nat.zero_le _, hd, [], .nil, o, #[], ep, e1, e2, e3, fun e he => absurd he (by simp), .nil, by simp⟩
theorem kind0 {k : PV} (h : isKey0 k = true) : keyKind k = some 0 := by
  cases k <;> first | rfl | simp [isKey0] at h
/-- what stands at a key of a dict, seen in a heap that says the same -/
theorem dict_at {g : Gx} {F : Hp} {dl : List Addr} {D : Hs} {px : PV} {y : V} {kvs : List (PV × PV)} (I : Inv X pins st H s) (hh : Rh g F dl D H) (rk : RV g F dl px y) (fits : keyFits px kvs = true)
    (d : (∃ ks, H a = some (.dK ks) ∧ RKs g F dl kvs ks) ∨ ∃ ks, H a = some (.dT ks) ∧ RTs g F dl kvs ks) :
    ∃ H2 o, Inv X pins st H2 s ∧ DGet H2 a y o ∧ RelF g F dl (dFind px kvs) o ∧ ∀ s', Inv X pins st H2 s' → Inv X pins st H s' := by
  unfold keyFits at fits
  cases ek : keyKind px with
  | none => rw [ek] at fits; cases fits
  | some n =>
    rw [ek] at fits
    have kinds : (n = 0 ∧ isKey0 px = true) ∨ (n = 1 ∧ ∃ ks, px = .tup ks ∧ ks.all isKey0 = true) := by
      cases px with
      | int i => simp [keyKind] at ek; exact .inl ⟨ek.symm, rfl⟩
      | str i => simp [keyKind] at ek; exact .inl ⟨ek.symm, rfl⟩
      | tup ks =>
        simp only [keyKind] at ek
        split at ek
        · rename_i q; cases ek; exact .inr ⟨rfl, ks, rfl, q⟩
        · cases ek
      | _ => simp [keyKind] at ek
    rcases kinds with ⟨rfl, hk⟩ | ⟨rfl, ks, rfl, hk⟩
    · have ey := toKey_rel hk rk
      subst ey
      rcases d with ⟨qs, e, r⟩ | ⟨qs, e, r⟩
      · exact ⟨H, _, I, .k e, dFind_K hk r, fun _ z => z⟩
      · cases r with
        | nil =>
          refine ⟨upd H a (.dK []), _, retag_K I e, .k upd_same, by rw [valV_nil]; exact True.intro, fun s' J => ?_⟩
          have J2 := retag_T J upd_same
          rw [upd_upd, upd_own e] at J2
          exact J2
        | cons hq _ _ =>
          simp [keyKind, hq] at fits
    · cases rk with
      | tup e1 r1 =>
        have ev := toKeys_rel hk r1
        subst ev
        rcases d with ⟨qs, e, r⟩ | ⟨qs, e, r⟩
        · cases r with
          | nil =>
            refine ⟨upd H a (.dT []), _, retag_T I e, .t upd_same (by rw [upd_ne (ne_of (hh.sub _ _ e1) e (by intro z; cases z))]; exact hh.sub _ _ e1), by rw [valV_nil]; exact True.intro, fun s' J => ?_⟩
            have J2 := retag_K J upd_same
            rw [upd_upd, upd_own e] at J2
            exact J2
          | cons hq _ _ =>
            have z := kind0 hq
            simp only [z] at fits
            cases fits
        · exact ⟨H, _, I, .t e (hh.sub _ _ e1), dFind_T hk r, fun _ z => z⟩
end
end HT
namespace HT
open L2 PyProof.Rows PySem PySem.Spec

section
variable {g : Gx} {X : Cx} {k : Nat}
theorem cmp_lt (G : Gd g X k) : OpR X (compareOp .Lt) (rOp g (cmpR .lt)) := by
  intro pins s st H x y v u Q I rx ry h
  obtain ⟨F, dl, D, px, py, pz, fr, hh, r1, r2, e, b⟩ := h
  obtain ⟨c, e2, rfl, rfl⟩ := cmpR_some e
  have e3 : ltR (deref D px) (deref D py) = some c := e2
  unfold ltR at e3
  split at e3
  · rename_i i j z1 z2
    cases e3
    obtain rfl := view_int hh r1 z1
    obtain rfl := view_int hh r2 z2
    exact op_lt pins s st H _ _ v u Q I rx ry ⟨_, _, rfl, rfl, b.bl hh⟩
  · rename_i i j z1 z2
    split at e3
    · rename_i ho
      cases e3
      obtain ⟨⟨as, q1⟩, ⟨bs, q2⟩, al, nn, hu, l1, l2⟩ := ord_reads G I hh r1 r2 rx ry z1 z2 ho
      refine PySem.W.lt_data q1 q2 al nn hu ?_
      rw [l1]
      exact bl_back I hh b
    · cases e3
  · rename_i i j z1 z2
    cases e3
    obtain rfl := view_str hh r1 z1
    obtain rfl := view_str hh r2 z2
    refine op_lt_str pins s st H _ _ v u Q I rx ry ⟨_, _, rfl, rfl, ?_⟩
    rw [natsLt_eq] at b
    exact b.bl hh
  · cases e3
theorem cmp_le (G : Gd g X k) : OpR X (compareOp .LtE) (rOp g (cmpR .le)) := by
  intro pins s st H x y v u Q I rx ry h
  obtain ⟨F, dl, D, px, py, pz, fr, hh, r1, r2, e, b⟩ := h
  obtain ⟨c, e2, rfl, rfl⟩ := cmpR_some e
  have e3 : leR (deref D px) (deref D py) = some c := e2
  unfold leR at e3
  split at e3
  · rename_i i j z1 z2
    cases e3
    obtain rfl := view_int hh r1 z1
    obtain rfl := view_int hh r2 z2
    exact op_le pins s st H _ _ v u Q I rx ry ⟨_, _, rfl, rfl, b.bl hh⟩
  · rename_i i j z1 z2
    split at e3
    · rename_i ho
      cases e3
      obtain ⟨⟨as, q1⟩, ⟨bs, q2⟩, al, nn, hu, l1, l2⟩ := ord_reads G I hh r1 r2 rx ry z1 z2 ho
      refine PySem.W.le_data q1 q2 al nn hu ?_
      rw [l2]
      exact bl_back I hh b
    · cases e3
  · cases e3
theorem cmp_gt (G : Gd g X k) : OpR X (compareOp .Gt) (rOp g (cmpR .gt)) := by
  intro pins s st H x y v u Q I rx ry h
  obtain ⟨F, dl, D, px, py, pz, fr, hh, r1, r2, e, b⟩ := h
  obtain ⟨c, e2, rfl, rfl⟩ := cmpR_some e
  have e3 : gtR (deref D px) (deref D py) = some c := e2
  unfold gtR at e3
  split at e3
  · rename_i i j z1 z2
    cases e3
    obtain rfl := view_int hh r1 z1
    obtain rfl := view_int hh r2 z2
    exact op_gt pins s st H _ _ v u Q I rx ry ⟨_, _, rfl, rfl, b.bl hh⟩
  · rename_i i j z1 z2
    split at e3
    · rename_i ho
      cases e3
      obtain ⟨⟨as, q1⟩, ⟨bs, q2⟩, al, nn, hu, l1, l2⟩ := ord_reads G I hh r1 r2 rx ry z1 z2 ho
      refine PySem.W.gt_data q1 q2 al nn hu ?_
      rw [l2]
      exact bl_back I hh b
    · cases e3
  · cases e3
theorem cmp_ge (G : Gd g X k) : OpR X (compareOp .GtE) (rOp g (cmpR .ge)) := by
  intro pins s st H x y v u Q I rx ry h
  obtain ⟨F, dl, D, px, py, pz, fr, hh, r1, r2, e, b⟩ := h
  obtain ⟨c, e2, rfl, rfl⟩ := cmpR_some e
  have e3 : geR (deref D px) (deref D py) = some c := e2
  unfold geR at e3
  split at e3
  · rename_i i j z1 z2
    cases e3
    obtain rfl := view_int hh r1 z1
    obtain rfl := view_int hh r2 z2
    exact op_ge pins s st H _ _ v u Q I rx ry ⟨_, _, rfl, rfl, b.bl hh⟩
  · rename_i i j z1 z2
    split at e3
    · rename_i ho
      cases e3
      obtain ⟨⟨as, q1⟩, ⟨bs, q2⟩, al, nn, hu, l1, l2⟩ := ord_reads G I hh r1 r2 rx ry z1 z2 ho
      refine PySem.W.ge_data q1 q2 al nn hu ?_
      rw [l1]
      exact bl_back I hh b
    · cases e3
  · cases e3
/-- x in y, and the opposite -/
theorem cmp_mem (G : Gd g X k) {pins : List (Addr × Obj)} {s : Shared} {st : L2.St} {H : Hp} {x y : V} {v u : Value} {F : Hp} {dl : List Addr} {D : Hs} {px py : PV} {c : Bool} {Q : Value → Shared → Prop} {neg : Bool}
    (I : Inv X pins st H s) (rx : RelV x v) (ry : RelV y u) (hh : Rh g F dl D H) (r1 : RV g F dl px x) (r2 : RV g F dl py y) (e : inV (deref D px) (deref D py) = some c)
    (q : ∀ s', Inv X pins st H s' → Q (.bool (if neg then !c else c)) s') : wpAny (model X.prog X.w) X.A (compareOp (if neg then .NotIn else .In) v u) Q X.xe s := by
  unfold inV at e
  split at e
  · rename_i ys z2
    split at e
    · rename_i hz
      cases e
      simp only [decide_eq_true_eq, Bool.and_eq_true] at hz
      obtain ⟨as, q1⟩ := reads_of G.K I hh r1 hz.1.1 rx
      obtain ⟨bs, q2⟩ := reads_of G.K I hh r2 (by rw [z2]; simpa [PV.data] using hz.1.2) ry
      rw [z2] at q2
      simp only [PV.toData] at q2
      have hu : X.A.units + 1 + min (PyData.depthAll (toDatas ys)) (deref D px).toData.depth < cLine := by
        rw [depth_of _ hz.1.1]
        exact room_depth2 G.room hz.2 (by omega)
      have m := memV_of _ hz.1.1 ys hz.1.2
      cases neg with
      | false =>
        refine SeqAt.in_list_data q2 q1 (plain_all _) (plain_of _) hu ?_
        rw [m]
        exact q s I
      | true =>
        refine SeqAt.notIn_list_data q2 q1 (plain_all _) (plain_of _) hu ?_
        rw [m]
        exact q s I
    · cases e
  · rename_i ys z2
    split at e
    · rename_i hz
      cases e
      simp only [decide_eq_true_eq, Bool.and_eq_true] at hz
      obtain ⟨as, q1⟩ := reads_of G.K I hh r1 hz.1.1 rx
      obtain ⟨bs, q2⟩ := reads_of G.K I hh r2 (by rw [z2]; simpa [PV.data] using hz.1.2) ry
      rw [z2] at q2
      simp only [PV.toData] at q2
      have hu : X.A.units + 1 + min (PyData.depthAll (toDatas ys)) (deref D px).toData.depth < cLine := by
        rw [depth_of _ hz.1.1]
        exact room_depth2 G.room hz.2 (by omega)
      have m := memV_of _ hz.1.1 ys hz.1.2
      cases neg with
      | false =>
        refine SeqAt.in_tuple_data q2 q1 (plain_all _) (plain_of _) hu ?_
        rw [m]
        exact q s I
      | true =>
        refine SeqAt.notIn_tuple_data q2 q1 (plain_all _) (plain_of _) hu ?_
        rw [m]
        exact q s I
    · cases e
  · rename_i z z2
    split at e
    · rename_i c' z1
      cases e
      obtain rfl := view_str hh r1 z1
      obtain rfl := view_str hh r2 z2
      have m : (z.contains c') = decide (c' ∈ (toStr z).cps.toList) := by
        rw [Bool.eq_iff_iff, decide_eq_true_iff]
        simp [toStr]
      rw [m] at q
      cases neg with
      | false =>
        refine thn (op_in_sign pins s st H _ _ v u (fun w H' => w = .bl (decide (c' ∈ (toStr z).cps.toList)) ∧ H' = H) I rx ry ⟨c', _, rfl, rfl, rfl, rfl⟩) fun w s' ⟨w', H', J, r, e1, e2⟩ => ?_
        subst e1 e2
        cases r
        exact q s' J
      | true =>
        refine thn (op_notIn_sign pins s st H _ _ v u (fun w H' => w = .bl (!decide (c' ∈ (toStr z).cps.toList)) ∧ H' = H) I rx ry ⟨c', _, rfl, rfl, rfl, rfl⟩) fun w s' ⟨w', H', J, r, e1, e2⟩ => ?_
        subst e1 e2
        cases r
        exact q s' J
    · cases e
  · rename_i kvs z2
    split at e
    · rename_i fits
      cases e
      obtain ⟨a, rfl, d⟩ := view_dct hh r2 z2
      cases (show u = .ref a from ry)
      have key : RV g F dl (deref D px) x := by
        cases r1 with
        | ref z =>
          exfalso
          obtain ⟨o, z1, _⟩ := hh.get z
          cases o <;> simp [deref, z1, keyFits, keyKind] at fits
        | non => exact .non
        | bl b => exact .bl b
        | int i => exact .int i
        | str w => exact .str w
        | tup a b => exact .tup a b
        | lst a b => exact .lst a b
        | dK a b => exact .dK a b
        | dT a b => exact .dT a b
        | obj a b c => exact .obj a b c
      obtain ⟨H2, o, I2, dg, rf, back⟩ := dict_at I hh key fits d
      have m : (dFind (deref D px) kvs).isSome = o.isSome := by
        cases e1 : dFind (deref D px) kvs <;> cases o <;> rw [e1] at rf <;> first | rfl | exact (show False from rf).elim
      rw [m] at q
      have hu : X.A.units + 1 < cLine := hu_of G.room
      cases neg with
      | false => exact d_in hu I2 dg rx fun s' J => q s' (back s' J)
      | true => exact d_notIn hu I2 dg rx fun s' J => q s' (back s' J)
    · cases e
  · cases e
theorem cmp_in (G : Gd g X k) : OpR X (compareOp .In) (rOp g (cmpR .inn)) := by
  intro pins s st H x y v u Q I rx ry h
  obtain ⟨F, dl, D, px, py, pz, fr, hh, r1, r2, e, b⟩ := h
  obtain ⟨c, e2, rfl, rfl⟩ := cmpR_some e
  exact cmp_mem (neg := false) G I rx ry hh r1 r2 e2 fun s' J => bl_back J hh b
theorem cmp_nin (G : Gd g X k) : OpR X (compareOp .NotIn) (rOp g (cmpR .nin)) := by
  intro pins s st H x y v u Q I rx ry h
  obtain ⟨F, dl, D, px, py, pz, fr, hh, r1, r2, e, b⟩ := h
  obtain ⟨c, e2, rfl, rfl⟩ := cmpR_some e
  obtain ⟨c', e3, rfl⟩ := map_not (show (inV (deref D px) (deref D py)).map (!·) = some c from e2)
  exact cmp_mem (neg := true) G I rx ry hh r1 r2 e3 fun s' J => bl_back J hh b
theorem cmp_op (G : Gd g X k) (o : COp) : OpR X (compareOp (cmpOf o)) (rOp g (cmpR o)) := by
  cases o with
  | eq => exact cmp_eq G
  | ne => exact cmp_ne G
  | lt => exact cmp_lt G
  | le => exact cmp_le G
  | gt => exact cmp_gt G
  | ge => exact cmp_ge G
  | inn => exact cmp_in G
  | nin => exact cmp_nin G
end
end HT
namespace HT
open L2 PyProof.Rows PySem PySem.Spec

/-- a call of a built-in on deep values -/
def rCall (g : Gx) (f : List PV → Option (PV × Bool)) : List V → Hp → VK → Prop := fun xs H Q => ∃ F dl D ps pz fr,
  Rh g F dl D H ∧ RVs g F dl ps xs ∧ f (ps.map (deref D)) = some (pz, fr) ∧ Back g F dl D H pz fr Q
section
variable {g : Gx} {F : Hp} {dl : List Addr} {D : Hs} {H : Hp}
theorem one_of {ps : List PV} {xs : List V} {q : PV} (r : RVs g F dl ps xs) (e : ps.map (deref D) = [q]) : ∃ p x, ps = [p] ∧ xs = [x] ∧ RV g F dl p x ∧ deref D p = q := by
  cases r with
  | nil => simp at e
  | cons h t =>
    cases t with
    | nil => simp at e; exact ⟨_, _, rfl, rfl, h, e⟩
    | cons _ _ => simp at e
theorem two_of {ps : List PV} {xs : List V} {q q' : PV} (r : RVs g F dl ps xs) (e : ps.map (deref D) = [q, q']) :
    ∃ p p' x x', ps = [p, p'] ∧ xs = [x, x'] ∧ RV g F dl p x ∧ RV g F dl p' x' ∧ deref D p = q ∧ deref D p' = q' := by
  cases r with
  | nil => simp at e
  | cons h t =>
    cases t with
    | nil => simp at e
    | cons h2 t2 =>
      cases t2 with
      | nil => simp at e; exact ⟨_, _, _, _, rfl, rfl, h, h2, e.1, e.2⟩
      | cons _ _ => simp at e
theorem allB_rel : ∀ {xs : List PV} {vs : List V} {bs : List Bool}, RVs g F dl xs vs → allB xs = some bs → vs = bs.map V.bl
  | _, _, _, .nil, e => by simp [allB] at e; subst e; rfl
  | _, _, bs, .cons (x := x) h r, e => by
    cases x with
    | bl b =>
      simp only [allB, Option.map_eq_some_iff] at e
      obtain ⟨cs, e1, rfl⟩ := e
      cases h
      rw [allB_rel r e1]
      rfl
    | _ => simp [allB] at e
theorem sumV_rel : ∀ {xs : List PV} {vs : List V} {i : Int}, RVs g F dl xs vs → sumV xs = some i → ∃ ns : List Int, vs = ns.map V.int ∧ ns.sum = i
  | _, _, _, .nil, e => by simp [sumV] at e; subst e; exact ⟨[], rfl, rfl⟩
  | _, _, i, .cons (x := x) h r, e => by
    cases x with
    | int j =>
      simp only [sumV, Option.map_eq_some_iff] at e
      obtain ⟨k, e1, rfl⟩ := e
      obtain ⟨ns, e2, e3⟩ := sumV_rel r e1
      cases h
      exact ⟨j :: ns, by rw [e2]; rfl, by rw [List.sum_cons, e3]⟩
    | _ => simp [sumV] at e
/-- a value that is not of the store, seen as it is -/
theorem self_of {px : PV} {x : V} (hh : Rh g F dl D H) (r : RV g F dl px x) (n : ∀ xs, deref D px ≠ .lst xs) (n2 : ∀ xs, deref D px ≠ .dct xs) (n3 : ∀ c xs, deref D px ≠ .obj c xs) : RV g F dl (deref D px) x := by
  cases r with
  | ref z =>
    exfalso
    obtain ⟨o, z1, _⟩ := hh.get z
    cases o with
    | lst xs => exact n xs (by simp [deref, z1])
    | dct xs => exact n2 xs (by simp [deref, z1])
    | obj c xs => exact n3 c xs (by simp [deref, z1])
  | non => exact .non
  | bl b => exact .bl b
  | int i => exact .int i
  | str w => exact .str w
  | tup a b => exact .tup a b
  | lst a b => exact .lst a b
  | dK a b => exact .dK a b
  | dT a b => exact .dT a b
  | obj a b c => exact .obj a b c
end

section
variable {g : Gx} {X : Cx} {k : Nat}
theorem blt_len (hK : X.K = g.K) : CallR X (.builtin "len") (rCall g lenV) := by
  intro pins s st H xs us Q I r h
  obtain ⟨F, dl, D, ps, pz, fr, hh, rs, e, b⟩ := h
  unfold lenV at e
  split at e
  · rename_i t e1
    split at e
    · rename_i hz
      cases e
      obtain ⟨p, x, rfl, rfl, r1, e2⟩ := one_of rs e1
      obtain rfl := view_str hh r1 e2
      refine call_len pins s st H _ us Q I r ⟨_, t.length, rfl, ?_, b.int hh⟩
      exact ⟨by rw [toStr_len, ← sizeL_eq]; exact hz, (toStr_len t).symm⟩
    · cases e
  · rename_i t e1
    cases e
    obtain ⟨p, x, rfl, rfl, r1, e2⟩ := one_of rs e1
    obtain ⟨a, vs, rfl, h1, q⟩ := view_tup hh r1 e2
    exact call_len pins s st H _ us Q I r ⟨_, t.length, rfl, .inr ⟨vs, SqT.of h1, q.length⟩, b.int hh⟩
  · rename_i t e1
    cases e
    obtain ⟨p, x, rfl, rfl, r1, e2⟩ := one_of rs e1
    obtain ⟨a, vs, rfl, h1, q⟩ := view_lst hh r1 e2
    rw [← hK] at h1
    exact call_len pins s st H _ us Q I r ⟨_, t.length, rfl, .inl ⟨vs, h1.sqL, q.length⟩, b.int hh⟩
  · rename_i t e1
    cases e
    obtain ⟨p, x, rfl, rfl, r1, e2⟩ := one_of rs e1
    obtain ⟨a, rfl, d⟩ := view_dct hh r1 e2
    rcases d with ⟨ks, h1, q⟩ | ⟨ks, h1, q⟩
    · have b2 := b.int hh
      rw [q.length] at b2
      exact call_lenD pins s st H _ us Q I r ⟨_, _, rfl, h1, b2⟩
    · have b2 := b.int hh
      rw [q.length] at b2
      exact call_len_dT pins s st H _ us Q I r ⟨_, _, rfl, h1, b2⟩
  · cases e
theorem signs_vals : ∀ (t : List Nat) (us : List Value), (∀ (j : Nat) (u : Value), us[j]? = some u → ∃ c tk, t[j]? = some c ∧ u = .str ⟨#[c]⟩ tk) → us.length = t.length → Vals (t.map fun c => V.str (toStr [c])) us
  | [], [], _, _ => .nil
  | [], _ :: _, _, e => by simp at e
  | _ :: _, [], _, e => by simp at e
  | c :: t, u :: us, h, e => by
    obtain ⟨c', tk, e1, e2⟩ := h 0 u rfl
    simp at e1
    subst e1
    refine .cons ⟨tk, e2⟩ (signs_vals t us (fun j u q => ?_) (by simpa using e))
    obtain ⟨c2, tk2, e3, e4⟩ := h (j + 1) u (by simpa using q)
    exact ⟨c2, tk2, by simpa using e3, e4⟩
theorem signs_rel {g : Gx} {F : Hp} {dl : List Addr} : ∀ t : List Nat, RVs g F dl (t.map fun c => PV.str [c]) (t.map fun c => V.str (toStr [c]))
  | [] => .nil
  | c :: t => .cons (.str [c]) (signs_rel t)
theorem blt_list (hK : X.K = g.K) (hc : X.calm = true) : CallR X (.type "list") (rCall g listV) := by
  intro pins s st H xs us Q I r h
  obtain ⟨F, dl, D, ps, pz, fr, hh, rs, e, b⟩ := h
  unfold listV at e
  split at e
  · rename_i t e1
    split at e
    · cases e
      obtain ⟨p, x, rfl, rfl, r1, e2⟩ := one_of rs e1
      obtain ⟨a, vs, rfl, h1, q⟩ := view_lst hh r1 e2
      rw [← hK] at h1
      exact call_list_of pins s st H _ us Q I r ⟨_, _, rfl, .inl h1.sqL, fun l n => b.lst hh q n⟩
    · cases e
  · rename_i t e1
    cases e
    obtain ⟨p, x, rfl, rfl, r1, e2⟩ := one_of rs e1
    obtain ⟨a, vs, rfl, h1, q⟩ := view_tup hh r1 e2
    exact call_list_of pins s st H _ us Q I r ⟨_, _, rfl, .inr (SqT.of h1), fun l n => b.lst hh q n⟩
  · rename_i t e1
    split at e
    · rename_i hz
      cases e
      obtain ⟨p, x, rfl, rfl, r1, e2⟩ := one_of rs e1
      obtain rfl := view_str hh r1 e2
      rcases vals1 r with ⟨u, rfl, ru⟩
      obtain ⟨tk0, rfl⟩ := ru
      have hsz : (toStr t).cps.size = t.length := by simp [toStr]
      have hl : t.length ≤ sizeLine := by rw [← sizeL_eq]; unfold sizeL; omega
      refine call_list_str (I.ok.hd hc) (toStr t) tk0 (fun h' tk acc c' hk e' hi => ?_) (by rw [hsz]; exact hl)
      have hv : Vals (t.map fun c => V.str (toStr [c])) acc.toList := by
        refine signs_vals t acc.toList (fun j u q => ?_) (by rw [Array.length_toList, hi.1, hsz])
        obtain ⟨c, u', e3, e4⟩ := hi.2 j u (by rw [← q, Array.getElem?_toList])
        exact ⟨c, u', by simpa [toStr] using e3, e4⟩
      refine ⟨.ref s.heap.objs.size, upd H s.heap.objs.size (.lst (t.map fun c => V.str (toStr [c]))), I.laid hk (Nat.le_refl _) (show ObjOk X.prog X.w _ _ _ (.lst _) from ⟨by simpa using hl, acc.toList, c', hv, ?_⟩), rfl, b.lst hh (signs_rel t) (I.hok.fresh (Nat.le_refl _))⟩
      rw [Array.toArray_toList]
      exact e'
    · cases e
  · cases e
theorem blt_tuple (hK : X.K = g.K) : CallR X (.type "tuple") (rCall g tupleV) := by
  intro pins s st H xs us Q I r h
  obtain ⟨F, dl, D, ps, pz, fr, hh, rs, e, b⟩ := h
  unfold tupleV at e
  split at e
  · rename_i t e1
    cases e
    obtain ⟨p, x, rfl, rfl, r1, e2⟩ := one_of rs e1
    obtain ⟨a, vs, rfl, h1, q⟩ := view_lst hh r1 e2
    rw [← hK] at h1
    exact call_tuple_of pins s st H _ us Q I r ⟨_, _, rfl, .inl ⟨h1.sqL, fun l n => b.tup hh q n⟩⟩
  · rename_i t e1
    cases e
    obtain ⟨p, x, rfl, rfl, r1, e2⟩ := one_of rs e1
    have t1 := self_of hh r1 (by rw [e2]; intro _ z; cases z) (by rw [e2]; intro _ z; cases z) (by rw [e2]; intro _ _ z; cases z)
    rw [e2] at t1
    obtain ⟨a, vs, rfl, h1, q⟩ := view_tup hh r1 e2
    exact call_tuple_of pins s st H _ us Q I r ⟨_, _, rfl, .inr ⟨SqT.of h1, b.val hh t1⟩⟩
  · cases e
theorem blt_abs : CallR X (.builtin "abs") (rCall g absV) := by
  intro pins s st H xs us Q I r h
  obtain ⟨F, dl, D, ps, pz, fr, hh, rs, e, b⟩ := h
  unfold absV at e
  split at e
  · rename_i t e1
    cases e
    obtain ⟨p, x, rfl, rfl, r1, e2⟩ := one_of rs e1
    obtain rfl := view_int hh r1 e2
    exact call_abs pins s st H _ us Q I r ⟨_, rfl, b.int hh⟩
  · cases e
theorem blt_min (hc : X.calm = true) : CallR X (.builtin "min") (rCall g minV) := by
  intro pins s st H xs us Q I r h
  obtain ⟨F, dl, D, ps, pz, fr, hh, rs, e, b⟩ := h
  unfold minV at e
  split at e
  · rename_i i j e1
    cases e
    obtain ⟨p, p', x, x', rfl, rfl, r1, r2, e2, e3⟩ := two_of rs e1
    obtain rfl := view_int hh r1 e2
    obtain rfl := view_int hh r2 e3
    exact call_min2 hc pins s st H _ us Q I r ⟨_, _, rfl, b.int hh⟩
  · cases e
theorem blt_max (hc : X.calm = true) : CallR X (.builtin "max") (rCall g maxV) := by
  intro pins s st H xs us Q I r h
  obtain ⟨F, dl, D, ps, pz, fr, hh, rs, e, b⟩ := h
  unfold maxV at e
  split at e
  · rename_i i j e1
    cases e
    obtain ⟨p, p', x, x', rfl, rfl, r1, r2, e2, e3⟩ := two_of rs e1
    obtain rfl := view_int hh r1 e2
    obtain rfl := view_int hh r2 e3
    exact call_max2 hc pins s st H _ us Q I r ⟨_, _, rfl, b.int hh⟩
  · cases e
theorem blt_int : CallR X (.type "int") (rCall g intV) := by
  intro pins s st H xs us Q I r h
  obtain ⟨F, dl, D, ps, pz, fr, hh, rs, e, b⟩ := h
  unfold intV at e
  split at e
  · rename_i t e1
    cases e
    obtain ⟨p, x, rfl, rfl, r1, e2⟩ := one_of rs e1
    obtain rfl := view_int hh r1 e2
    exact call_int1 pins s st H _ us Q I r (.inl ⟨_, rfl, b.int hh⟩)
  · cases e
theorem blt_str : CallR X (.type "str") (rCall g strV) := by
  intro pins s st H xs us Q I r h
  obtain ⟨F, dl, D, ps, pz, fr, hh, rs, e, b⟩ := h
  unfold strV at e
  split at e
  · rename_i t e1
    split at e
    · rename_i hz
      cases e
      obtain ⟨p, x, rfl, rfl, r1, e2⟩ := one_of rs e1
      obtain rfl := view_int hh r1 e2
      refine call_str_int pins s st H _ us Q I r ⟨_, rfl, hz, ?_⟩
      have q := b.str hh
      simpa [intStr, toStr] using q
    · cases e
  · rename_i t e1
    cases e
    obtain ⟨p, x, rfl, rfl, r1, e2⟩ := one_of rs e1
    obtain rfl := view_str hh r1 e2
    exact SkE.call_str_str pins s st H _ us Q I r ⟨_, rfl, b.str hh⟩
  · cases e
theorem blt_all (G : Gd g X k) : CallR X (.builtin "all") (rCall g allVB) := by
  intro pins s st H xs us Q I r h
  obtain ⟨F, dl, D, ps, pz, fr, hh, rs, e, b⟩ := h
  unfold allVB at e
  split at e
  · rename_i t e1
    obtain ⟨bs, e3, e4⟩ := Option.map_eq_some_iff.mp e
    cases e4
    obtain ⟨p, x, rfl, rfl, r1, e2⟩ := one_of rs e1
    obtain ⟨a, vs, rfl, h1, q⟩ := view_lst hh r1 e2
    rw [← G.K] at h1
    obtain rfl := allB_rel q e3
    exact cr_all G.calm pins s st H _ us Q I r ⟨_, _, rfl, h1.sqL, b.bl hh⟩
  · cases e
theorem blt_any (G : Gd g X k) : CallR X (.builtin "any") (rCall g anyVB) := by
  intro pins s st H xs us Q I r h
  obtain ⟨F, dl, D, ps, pz, fr, hh, rs, e, b⟩ := h
  unfold anyVB at e
  split at e
  · rename_i t e1
    obtain ⟨bs, e3, e4⟩ := Option.map_eq_some_iff.mp e
    cases e4
    obtain ⟨p, x, rfl, rfl, r1, e2⟩ := one_of rs e1
    obtain ⟨a, vs, rfl, h1, q⟩ := view_lst hh r1 e2
    rw [← G.K] at h1
    obtain rfl := allB_rel q e3
    exact cr_any G.calm pins s st H _ us Q I r ⟨_, _, rfl, h1.sqL, b.bl hh⟩
  · cases e
theorem blt_sum (G : Gd g X k) : CallR X (.builtin "sum") (rCall g sumVB) := by
  intro pins s st H xs us Q I r h
  obtain ⟨F, dl, D, ps, pz, fr, hh, rs, e, b⟩ := h
  unfold sumVB at e
  split at e
  · rename_i t e1
    obtain ⟨i, e3, e4⟩ := Option.map_eq_some_iff.mp e
    cases e4
    obtain ⟨p, x, rfl, rfl, r1, e2⟩ := one_of rs e1
    obtain ⟨a, vs, rfl, h1, q⟩ := view_lst hh r1 e2
    rw [← G.K] at h1
    obtain ⟨ns, rfl, rfl⟩ := sumV_rel q e3
    exact cr_sum G.calm pins s st H _ us Q I r ⟨_, _, rfl, h1.sqL, b.int hh⟩
  · cases e
theorem blt_divmod : CallR X (.builtin "divmod") (rCall g divmodV) := by
  intro pins s st H xs us Q I r h
  obtain ⟨F, dl, D, ps, pz, fr, hh, rs, e, b⟩ := h
  unfold divmodV at e
  split at e
  · rename_i i j e1
    split at e
    · rename_i hz
      cases e
      obtain ⟨p, p', x, x', rfl, rfl, r1, r2, e2, e3⟩ := two_of rs e1
      obtain rfl := view_int hh r1 e2
      obtain rfl := view_int hh r2 e3
      exact call_divmod pins s st H _ us Q I r ⟨_, _, rfl, hz, fun q n => b.tup hh (.cons (.int _) (.cons (.int _) .nil)) n⟩
    · cases e
  · cases e
mutual
theorem noDict_of : ∀ x : PV, x.toData.hasDict = false
  | .non => rfl
  | .bl _ => rfl
  | .int _ => rfl
  | .str _ => rfl
  | .tup xs => by simp only [PV.toData, PyData.hasDict]; exact noDict_all xs
  | .lst xs => by simp only [PV.toData, PyData.hasDict]; exact noDict_all xs
  | .dct _ => rfl
  | .obj _ _ => rfl
  | .ref _ => rfl
theorem noDict_all : ∀ xs : List PV, PyData.hasDictAll (toDatas xs) = false
  | [] => rfl
  | x :: xs => by simp only [toDatas, PyData.hasDictAll, noDict_of x, noDict_all xs, Bool.or_self]
end
/-- repr of data -/
theorem blt_repr (G : Gd g X k) : CallR X (.builtin "repr") (rCall g reprB) := by
  intro pins s st H xs us Q I r h
  obtain ⟨F, dl, D, ps, pz, fr, hh, rs, e, b⟩ := h
  unfold reprB at e
  split at e
  · rename_i v e1
    obtain ⟨z, e3, e4⟩ := Option.map_eq_some_iff.mp e
    cases e4
    obtain ⟨p, x, rfl, rfl, r1, e2⟩ := one_of rs e1
    rcases vals1 r with ⟨u, rfl, ru⟩
    unfold reprV at e3
    split at e3
    · rename_i hz
      cases e3
      simp only [decide_eq_true_eq, Bool.and_eq_true] at hz
      obtain ⟨⟨⟨⟨d0, d1⟩, d3⟩, d4⟩, d5⟩ := hz
      rw [← e2] at d0 d1 d3 d4 d5 b
      obtain ⟨as, q1⟩ := reads_of G.K I hh r1 d1 ru
      have fin : ∀ s' (t : Tok), Inv X pins st H s' → EP X pins st Q (.str (deref D p).toData.shown t) s' := fun s' t J =>
        ⟨.str (deref D p).toData.shown, H, J, ⟨t, rfl⟩, by
          have q := b.str hh
          simpa [toStr] using q⟩
      have hnd : (deref D p).toData.hasDict = true → sysModules ∉ as := fun z => by
        rw [noDict_of] at z
        cases z
      have hx : ∃ a, x = .ref a := by
        cases e5 : deref D p with
        | tup xs => obtain ⟨a, _, e6, _⟩ := view_tup hh r1 e5; exact ⟨a, e6⟩
        | lst xs => obtain ⟨a, _, e6, _⟩ := view_lst hh r1 e5; exact ⟨a, e6⟩
        | _ => rw [e5] at d0; cases d0
      obtain ⟨a, rfl⟩ := hx
      cases ru
      refine repr_of_reads' q1 d4 hnd G.gu ?_ (fun _ _ z => z) (fun h' t tk kk => fin _ t (I.kept kk)) (by rw [← sizeL_eq]; exact d5)
      rw [depth_of _ d1]
      have := G.room.un
      omega
    · cases e3
  · cases e
end
end HT
namespace HT
open L2 PyProof.Rows PySem PySem.Spec

/-! ### sorted -/
theorem ins_split (x : PV) : ∀ (a b : List PV), (∀ y ∈ a, y.lt x = true) → (∀ y ∈ b, y.lt x = false) → ins x (a ++ b) = a ++ x :: b
  | [], [], _, _ => rfl
  | [], y :: ys, _, h => by
    simp only [List.nil_append, ins]
    rw [h y (by simp)]
    rfl
  | y :: ys, b, h, h2 => by
    simp only [List.cons_append, ins]
    rw [h y (by simp), if_pos rfl, ins_split x ys b (fun z hz => h z (by simp [hz])) h2]
def leD : PV → PV → Bool := PySem.W.dataLe false PV.toData
theorem leD_eq (x y : PV) : leD x y = !PySem.W.dataLt y.toData x.toData := rfl
/-- all in the list are data, alike with one another, none of them None -/
def Ord1 (xs : List PV) : Prop := ∀ x ∈ xs, x.data = true ∧ x ≠ .non ∧ ∀ y ∈ xs, x.alike y = true
theorem isort_perm : ∀ xs : List PV, (isort xs).Perm xs
  | [] => .nil
  | x :: xs => by
    have ip : ∀ l : List PV, (ins x l).Perm (x :: l) := by
      intro l
      induction l with
      | nil => exact .refl _
      | cons y ys ih =>
        unfold ins
        split
        · exact (List.Perm.cons y ih).trans (.swap x y ys)
        · exact .refl _
    exact (ip _).trans (.cons x (isort_perm xs))
theorem isort_eq : ∀ xs : List PV, Ord1 xs → xs.mergeSort leD = isort xs
  | [], _ => by simp [isort]
  | x :: xs, h => by
    have T := PySem.W.sortLe_total (PyProof.Rows.listOrd PyProof.Rows.itemOrd) false fun b : PV => PySem.W.keyToks b.toData
    have tot : ∀ a b : PV, (leD a b || leD b a) = true := fun a b => by
      rcases T.total a b with q | q
      · exact Bool.or_eq_true_iff.mpr (.inl q)
      · exact Bool.or_eq_true_iff.mpr (.inr q)
    have ih := isort_eq xs fun y hy => ⟨(h y (by simp [hy])).1, (h y (by simp [hy])).2.1, fun z hz => (h y (by simp [hy])).2.2 z (by simp [hz])⟩
    obtain ⟨l1, l2, e1, e2, e3⟩ := List.mergeSort_cons (le := leD) T.trans tot x xs
    have srt : (l1 ++ x :: l2).Pairwise fun a b => leD a b = true := by
      rw [← e1]; exact List.pairwise_mergeSort T.trans tot (x :: xs)
    have mem : ∀ y, y ∈ l1 ++ l2 → y ∈ xs := fun y hy => by
      rw [← e2] at hy
      exact List.mem_mergeSort.mp hy
    have lt : ∀ y, y ∈ l1 ++ l2 → PySem.W.dataLt y.toData x.toData = y.lt x := fun y hy => by
      have hm := mem y hy
      have q := h y (by simp [hm])
      exact lt_of y x q.1 (h x (by simp)).1 (q.2.2 x (by simp)) q.2.1
    show (x :: xs).mergeSort leD = ins x (isort xs)
    rw [e1, ← ih, e2]
    refine (ins_split x l1 l2 (fun y hy => ?_) (fun y hy => ?_)).symm
    · have q := e3 y hy
      rw [leD_eq, lt y (by simp [hy])] at q
      simpa using q
    · have q : leD x y = true := by
        rw [List.pairwise_append] at srt
        exact (List.pairwise_cons.mp srt.2.1).1 y hy
      rw [leD_eq, lt y (by simp [hy])] at q
      simpa using q
theorem allAlike_mem : ∀ {xs : List PV}, allAlike xs = true → ∀ x ∈ xs, ∀ y ∈ xs, x.alike y = true
  | [], _, x, hx, _, _ => by simp at hx
  | z :: zs, h, x, hx, y, hy => by
    simp only [allAlike, Bool.and_eq_true, List.all_eq_true] at h
    rcases List.mem_cons.mp hx with e1 | hx1
    · subst e1
      rcases List.mem_cons.mp hy with e2 | hy1
      · subst e2; exact h.1.1
      · exact (h.1.2 y hy1).1
    · rcases List.mem_cons.mp hy with e2 | hy1
      · subst e2; exact (h.1.2 x hx1).2
      · exact allAlike_mem h.2 x hx1 y hy1
theorem dataAll_mem : ∀ {xs : List PV}, dataAll xs = true → ∀ x ∈ xs, x.data = true
  | [], _, x, hx => by simp at hx
  | z :: zs, h, x, hx => by
    simp only [dataAll, Bool.and_eq_true] at h
    obtain rfl | hx := List.mem_cons.mp hx
    · exact h.1
    · exact dataAll_mem h.2 x hx
theorem depthAll_mem : ∀ {xs : List PV} {x : PV}, x ∈ xs → x.depth ≤ depthAll xs
  | [], x, hx => by simp at hx
  | z :: zs, x, hx => by
    unfold depthAll
    obtain rfl | hx := List.mem_cons.mp hx
    · exact Nat.le_max_left _ _
    · exact Nat.le_trans (depthAll_mem hx) (Nat.le_max_right _ _)
theorem sortV_ok {xs ys : List PV} (e : sortV xs = some ys) : ys = isort xs ∧ Ord1 xs ∧ PySem.W.AllAlike (xs.map PV.toData) ∧ PySem.W.Sortable (xs.map PV.toData) ∧ xs.length ≤ sizeL ∧ dataAll xs = true ∧ depthAll xs ≤ 60 := by
  unfold sortV at e
  split at e
  · rename_i h
    cases e
    simp only [decide_eq_true_eq, Bool.and_eq_true] at h
    obtain ⟨⟨⟨⟨h1, h2⟩, h3⟩, h4⟩, h5⟩ := h
    have al := allAlike_mem h2
    have dm := dataAll_mem h1
    refine ⟨rfl, fun x hx => ⟨dm x hx, ?_, fun y hy => al x hx y hy⟩, ?_, ?_, h5, h1, h4⟩
    · rintro rfl
      cases xs with
      | nil => simp at hx
      | cons z zs =>
        have q := al z (by simp) .non hx
        cases z with
        | non => simp [sortable] at h3
        | _ => simp [PV.alike] at q
    · intro d hd d' hd'
      obtain ⟨x, hx, rfl⟩ := List.mem_map.mp hd
      obtain ⟨y, hy, rfl⟩ := List.mem_map.mp hd'
      exact alike_of x y (al x hx y hy)
    · cases xs with
      | nil => exact .inr fun d hd => by simp at hd
      | cons z zs =>
        have q := fun y hy => al z (by simp) y hy
        cases z with
        | tup t =>
          cases t with
          | nil => simp [sortable] at h3
          | cons t0 ts =>
            refine .inl fun d hd => ?_
            obtain ⟨x, hx, rfl⟩ := List.mem_map.mp hd
            obtain rfl | hx := List.mem_cons.mp hx
            · exact ⟨PV.toData _, toDatas _, by simp only [PV.toData, toDatas]; rfl⟩
            · simp only [sortable, List.all_eq_true] at h3
              have q2 := h3 x hx
              cases x with
              | tup u =>
                cases u with
                | nil => simp at q2
                | cons u0 us => exact ⟨PV.toData _, toDatas _, by simp only [PV.toData, toDatas]; rfl⟩
              | _ => simp at q2
        | non => simp [sortable] at h3
        | bl b =>
          refine .inr fun d hd => ?_
          obtain ⟨x, hx, rfl⟩ := List.mem_map.mp hd
          have q2 := q x hx
          cases x <;> simp [PV.alike] at q2 <;> simp [PV.toData]
        | int b =>
          refine .inr fun d hd => ?_
          obtain ⟨x, hx, rfl⟩ := List.mem_map.mp hd
          have q2 := q x hx
          cases x <;> simp [PV.alike] at q2 <;> simp [PV.toData]
        | str b =>
          refine .inr fun d hd => ?_
          obtain ⟨x, hx, rfl⟩ := List.mem_map.mp hd
          have q2 := q x hx
          cases x <;> simp [PV.alike] at q2 <;> simp [PV.toData]
        | lst b => have q2 := q (.lst b) List.mem_cons_self; simp [PV.alike] at q2
        | dct b => have q2 := q (.dct b) List.mem_cons_self; simp [PV.alike] at q2
        | obj c b => have q2 := q (.obj c b) List.mem_cons_self; simp [PV.alike] at q2
        | ref b => have q2 := q (.ref b) List.mem_cons_self; simp [PV.alike] at q2
  · cases e
section
variable {g : Gx} {X : Cx} {k : Nat} {F : Hp} {dl : List Addr} {H : Hp}
theorem each_rel : ∀ {xs : List PV} {vs : List V} {us : List Value}, RVs g F dl xs vs → Vals vs us → PySem.W.EachIs (fun u x => ∃ v, RV g F dl x v ∧ RelV v u) us xs
  | _, _, _, .nil, .nil => .nil
  | _, _, _, .cons h r, .cons z t => .cons ⟨_, h, z⟩ (each_rel r t)
theorem rel_each : ∀ {xs : List PV} {us : List Value}, PySem.W.EachIs (fun u x => ∃ v, RV g F dl x v ∧ RelV v u) us xs → ∃ vs, RVs g F dl xs vs ∧ Vals vs us
  | _, _, .nil => ⟨[], .nil, .nil⟩
  | _, _, .cons ⟨v, h1, h2⟩ t => by
    obtain ⟨vs, h3, h4⟩ := rel_each t
    exact ⟨v :: vs, .cons h1 h3, .cons h2 h4⟩
theorem each_reads {pins : List (Addr × Obj)} {st : L2.St} {s : Shared} (hK : X.K = g.K) (I : Inv X pins st H s) (l : Le F H) : ∀ {xs : List PV} {vs : List V} {us : List Value}, dataAll xs = true → RVs g F dl xs vs → Vals vs us → PySem.W.EachIs (fun u x => ∃ as, Reads s.heap u (PV.toData x) as) us xs
  | _, _, _, _, .nil, .nil => .nil
  | _, _, _, q, .cons h r, .cons z t => by
    simp only [dataAll, Bool.and_eq_true] at q
    have d := h.dp l q.1
    rw [← hK] at d
    exact .cons (Dp.reads I _ _ _ d z) (each_reads hK I l q.2 r t)
/-! sorted(d), d a dict: its keys -/
/-- tuples that stand in the heap are taken among what will not change -/
theorem keep_tups {D : Hs} : ∀ {bs : List Addr} {F : Hp}, Rh g F dl D H → (∀ b ∈ bs, ∃ ys, H b = some (.tup ys)) →
    ∃ F', Le F F' ∧ Rh g F' dl D H ∧ (∀ b ∈ bs, F' b = H b) ∧ ∀ a o, F' a = some o → F a = some o ∨ ∃ ys, H a = some (.tup ys)
  | [], F, h, _ => ⟨F, Le.refl _, h, fun b hb => by simp at hb, fun _ _ e => .inl e⟩
  | b :: bs, F, h, q => by
    obtain ⟨F1, l1, h1, g1, f1⟩ := keep_tups (bs := bs) h fun c hc => q c (by simp [hc])
    obtain ⟨ys, hb⟩ := q b (by simp)
    cases e : F1 b with
    | some o =>
      refine ⟨F1, l1, h1, fun c hc => ?_, f1⟩
      obtain rfl | hc := List.mem_cons.mp hc
      · rw [e, h1.sub _ _ e]
      · exact g1 c hc
    | none =>
      have nd : b ∉ dl := fun m => by
        obtain ⟨n, hn, z⟩ := List.mem_iff_getElem.mp m
        obtain ⟨o, _, d⟩ := h1.get (n := n) (a := b) (by rw [List.getElem?_eq_getElem hn, z])
        cases d with
        | lst z _ _ => rw [hb] at z; cases z
        | dK z _ _ => rw [hb] at z; cases z
        | dT z _ _ => rw [hb] at z; cases z
        | obj z _ _ _ => rw [hb] at z; cases z
      refine ⟨L2.upd F1 b (.tup ys), l1.trans (Le.upd e), h1.keep hb e nd, fun c hc => ?_, fun a o ea => ?_⟩
      · by_cases z : c = b
        · subst z; rw [upd_same, hb]
        · rw [upd_ne z]
          obtain rfl | hc := List.mem_cons.mp hc
          · exact absurd rfl z
          · exact g1 c hc
      · by_cases z : a = b
        · subst z; exact .inr ⟨ys, hb⟩
        · rw [upd_ne z] at ea; exact f1 a o ea
theorem Back.kept {F F1 : Hp} {D : Hs} {pz : PV} {fr : Bool} {Q : VK} (b : Back g F dl D H pz fr Q) (l : Le F F1) (f : ∀ a o, F1 a = some o → F a = some o ∨ ∃ ys, H a = some (.tup ys)) : Back g F1 dl D H pz fr Q := fun v H' F' ev h rr => by
  refine b v H' F' ⟨l.trans ev.fm, ev.dp, ev.dn, ev.kp, fun a o e => ?_, ev.ki⟩ h rr
  rcases ev.fn a o e with z | z | z | z
  · rcases f a o z with y | y
    · exact .inl y
    · exact .inr (.inr (.inr y))
  · exact .inr (.inl z)
  · exact .inr (.inr (.inl z))
  · exact .inr (.inr (.inr z))
end
theorem reads_lt {h : Heap} {d : PyData} {v : Value} {as : List Addr} (r : Reads h v d as) : ∀ a ∈ as, a < h.objs.size := by
  refine Reads.rec (motive_1 := fun v d as _ => ∀ a ∈ as, a < h.objs.size) (motive_2 := fun v d as _ => ∀ a ∈ as, a < h.objs.size) ?_ ?_ ?_ ?_ ?_ ?_ ?_ ?_ ?_ r
  · intro a m; cases m
  · intro b a m; cases m
  · intro i t a m; cases m
  · intro i t a m; cases m
  · intro a o vs n xs as h1 h2 h3 h4 ih b m
    rcases List.mem_cons.mp m with rfl | m
    · exact Heap.lt_size h1
    · exact ih b m
  · intro a o vs n xs as h1 h2 h3 h4 ih
    exact ih
  · intro a o es n kvs as bs h1 h2 h3 h4 h5 ih1 ih2 b m
    rw [List.cons_append, List.mem_cons, List.mem_append] at m
    rcases m with rfl | m | m
    · exact Heap.lt_size h1
    · exact ih1 b m
    · exact ih2 b m
  · intro a m; cases m
  · intro v vs d ds as bs h1 h2 ih1 ih2 b m
    rcases List.mem_append.mp m with m | m
    · exact ih1 b m
    · exact ih2 b m
/-- sorted of what can be collected -/
theorem sorted_src {pr : Program} {w : World} {A : Around} {E : Value → Shared → Prop} {s : Shared} {Tn : String} {src d : Addr} {n : Nat} {P : Nat → Value → Prop} {OK : Heap → Prop} {β : Type} {bs : List β} {enc : β → PyData} {R : Value → β → Prop} {Q : Value → Shared → Prop}
    (K : PySem.W.KdlSrc pr w Tn src d n P OK) (hh : A.handled = none) (hok : OK s.heap) (hn : n ≤ sizeLine) (each : ∀ us : List Value, us.length = n → (∀ (i : Nat) v, us[i]? = some v → P i v) → PySem.W.EachIs R us bs ∧ PySem.W.EachIs (fun v b => ∃ as, Reads s.heap v (enc b) as) us bs)
    (hal : PySem.W.AllAlike (bs.map enc)) (hk : PySem.W.Sortable (bs.map enc)) (hL : bs.length ≤ sizeLine) (hu : ∀ b, b ∈ bs → A.units + 2 + (enc b).depth < cLine)
    (h : ∀ (h1 h' : Heap) (tk : Nat) (out : List Value) (c : Nat), (∀ a o, s.heap.get? a = some o → h1.get? a = some o) → (∀ a o, h1.get? a = some o → h'.get? a = some o) → h'.get? h1.objs.size = some { cls := .type "list", data := .seq out.toArray c } → out.length = bs.length →
      PySem.W.EachIs R out (bs.mergeSort (PySem.W.dataLe false enc)) → Q (.ref h1.objs.size) { s with heap := h', toks := tk }) :
    wpAny (model pr w) A (call (.builtin "sorted") [.ref src]) Q E s := by
  refine Calls.call_function_entry kind_sorted plain_sorted entry_sorted (args_sorted1 (.ref src)) ?_
  unfold Builtin.«sorted»
  refine wpAny_bind (m := checkCount "sorted" _ _ _) ?_
  refine wpAny_pure ?_
  apply wpAny_bind
  refine (PySem.W.kdu_collect (A := A.in1) K hh hok hn fun h1 tk acc kp items => ?_)
  obtain ⟨e1, e2⟩ := each acc.toList (by rw [Array.length_toList]; exact items.1) fun i v hv => items.2 i v (by rw [← Array.getElem?_toList]; exact hv)
  have la : acc.toList.length = bs.length := e1.length
  refine wpAny_bind (wpAny_newList ?_ (by rw [la]; exact hL))
  have at1 : (h1.push (PyProof.Rows.seqObj "list" acc.toList.toArray 0)).get? h1.objs.size = some (PyProof.Rows.seqObj "list" acc.toList.toArray 0) := Heap.get?_push_size _ rfl
  show wpAny _ _ _ _ _ { s with heap := h1.push (PyProof.Rows.seqObj "list" acc.toList.toArray 0), toks := tk }
  refine wpAny_bind ?_
  apply wpAny_holding
  refine PySem.W.list_sort_data (s := { s with heap := h1.push (PyProof.Rows.seqObj "list" acc.toList.toArray 0), toks := tk }) (A := A.in1) (bs := bs) (enc := enc) (R := R) at1 e1 ?_ hal hk hL ?_ fun out ho eo => ?_
  · refine e2.mono fun v b z => ?_
    obtain ⟨as, q⟩ := z
    have q1 := PyProof.Rows.Reads.keeps kp q
    exact ⟨as, PyProof.Rows.Reads.keeps (fun a o e => Heap.get?_push_of_some _ e) q1, fun m => Nat.lt_irrefl _ (reads_lt q1 _ m)⟩
  · intro b hb
    have := hu b hb
    show A.units + 1 + 1 + (enc b).depth < cLine
    omega
  · obtain ⟨c, hc⟩ := PyProof.Rows.sortedHeap_at (vs := acc.toList) (out := out.toArray) at1
    refine wpAny_pure ⟨_, rfl, h h1 _ tk out c kp (fun a o e => ?_) hc ho eo⟩
    have lt := Heap.lt_size e
    rw [PyProof.Rows.sortedHeap_old (Nat.ne_of_lt lt) (by rw [size_push']; exact Nat.lt_succ_of_lt lt)]
    exact Heap.get?_push_of_some _ (show h1.get? a = some o from e)
theorem kV_toKey {F : Hp} {dl : List Addr} {g : Gx} {x : PV} (h : isKey0 x = true) : RV g F dl x (kV (toKey x)) := by
  cases x with
  | int i => exact .int i
  | str z => exact .str z
  | _ => simp [isKey0] at h
theorem kV_toKeys {F : Hp} {dl : List Addr} {g : Gx} : ∀ {xs : List PV}, xs.all isKey0 = true → RVs g F dl xs ((xs.map toKey).map kV)
  | [], _ => .nil
  | x :: xs, h => by
    simp only [Bool.and_eq_true, List.all_cons] at h
    exact .cons (kV_toKey h.1) (kV_toKeys h.2)
theorem keysK {F : Hp} {dl : List Addr} {g : Gx} : ∀ {kvs : List (PV × PV)} {ks : List (Key × V)}, RKs g F dl kvs ks → RVs g F dl (kvs.map (·.1)) (ks.map fun p => kV p.1)
  | _, _, .nil => .nil
  | _, _, .cons h _ r => .cons (kV_toKey h) (keysK r)
theorem keysT {F F1 : Hp} {dl : List Addr} {g : Gx} {H : Hp} : ∀ {kvs : List (PV × PV)} {ks : List (List Key × V)} {bs : List Addr}, RTs g F dl kvs ks → IsKeys H ks bs → (∀ b ∈ bs, F1 b = H b) → RVs g F1 dl (kvs.map (·.1)) (bs.map V.ref)
  | _, _, _, .nil, .nil, _ => .nil
  | _, _, _, .cons h _ r, .cons q p, e => .cons (.tup ((e _ (by simp)).trans q) (kV_toKeys h)) (keysT r p fun b hb => e b (by simp [hb]))
section
variable {g : Gx} {X : Cx} {k : Nat} {F : Hp} {dl : List Addr} {H : Hp} {D : Hs}
/-- a dict's keys, collected -/
theorem keys_src {pins : List (Addr × Obj)} {st : L2.St} {s : Shared} {px : PV} {x : V} {kvs : List (PV × PV)} (I : Inv X pins st H s) (hh : Rh g F dl D H) (rv : RV g F dl px x) (e : deref D px = .dct kvs) :
    ∃ (a : Addr) (F1 : Hp) (n : Nat) (P : Nat → Value → Prop) (OK : Heap → Prop), x = .ref a ∧ Le F F1 ∧ Rh g F1 dl D H ∧ (∀ b o, F1 b = some o → F b = some o ∨ ∃ ys, H b = some (.tup ys)) ∧ n ≤ sizeLine ∧
      PySem.W.KdlSrc X.prog X.w "dict" a a n P OK ∧ OK s.heap ∧ ∀ us : List Value, us.length = n → (∀ (i : Nat) v, us[i]? = some v → P i v) → ∃ vs, RVs g F1 dl (kvs.map (·.1)) vs ∧ Vals vs us := by
  obtain ⟨a, rfl, q⟩ := view_dct hh rv e
  rcases q with ⟨ks, hd, rk⟩ | ⟨ks, hd, rk⟩
  · obtain ⟨z, lo, xs, rel, dd⟩ := dk_of I.hok hd
    obtain ⟨ep, hat⟩ := dd.dictAt
    refine ⟨a, F, xs.length, _, _, rfl, Le.refl _, hh, fun _ _ e => .inl e, by rw [← rel.length]; exact z, PySem.W.kdl_dict (knd := mixKind X.prog X.w) (kvs := xs) (ep := ep) lo, hat, fun us hl hP => ?_⟩
    have hv : Vals (xs.map fun p => kV p.1) us := keys_at hl fun j v ej => hP j v ej
    have ek : (ks.map fun p => kV p.1) = xs.map fun p => kV p.1 := by
      have same := congrArg (List.map kV) rel.keys
      simp only [List.map_map] at same
      exact same
    exact ⟨_, keysK rk, by rw [ek]; exact hv⟩
  · obtain ⟨z, lo, xs, pr, o, es, ep, ho, hx, hdt, he, hn⟩ := (show ObjOk X.prog X.w H s.heap a (.dT ks) from I.hok a _ hd)
    have l1 : es.size = xs.length := size_of_entries he
    have l2 : ks.length = xs.length := Paired.length pr
    have isk := isKeys_of pr
    have tups : ∀ b ∈ xs.map (fun x => x.2.1), ∃ ys, H b = some (.tup ys) := by
      generalize xs.map (fun x => x.2.1) = bs at isk
      clear z pr l2 hd rk
      induction isk with
      | nil => intro b hb; cases hb
      | cons h t ih =>
        intro b hb
        obtain rfl | hb := List.mem_cons.mp hb
        · exact ⟨_, h⟩
        · exact ih b hb
    obtain ⟨F1, f1, f2, f3, f4⟩ := keep_tups hh tups
    refine ⟨a, F1, es.size, _, _, rfl, f1, f2, f4, by omega, kdl_raw lo hx hdt, ho, fun us hl hP => ⟨_, keysT rk isk f3, ?_⟩⟩
    have ea : us = xs.map fun x => Value.ref x.2.1 := by
      apply List.ext_getElem?
      intro j
      rw [List.getElem?_map]
      cases hj : us[j]? with
      | none =>
        have out := List.getElem?_eq_none_iff.mp hj
        rw [List.getElem?_eq_none (show xs.length ≤ j by omega)]
        rfl
      | some v =>
        obtain ⟨en, hen, hv⟩ := hP j v hj
        have qe := entry_at he j
        rw [hen] at qe
        cases hb : xs[j]? with
        | none =>
          rw [hb] at qe
          cases (show some en = none from qe)
        | some b =>
          rw [hb] at qe
          rw [hv, show en = entryOfKey (tupleKind (mixKind X.prog X.w)) b from Option.some.inj qe]
          rfl
    have eb : us = (xs.map fun x => x.2.1).map Value.ref := by rw [ea, List.map_map]; rfl
    rw [eb]
    exact vals_refs _
end
section
variable {g : Gx} {X : Cx} {k : Nat} {F : Hp} {dl : List Addr} {H : Hp}
theorem blt_sorted (G : Gd g X k) : CallR X (.builtin "sorted") (rCall g sortedV) := by
  intro pins s st H xs us Q I r h
  obtain ⟨F, dl, D, ps, pz, fr, hh, rs, e, b⟩ := h
  unfold sortedV at e
  split at e
  · rename_i t e1
    obtain ⟨ys, e3, e4⟩ := Option.map_eq_some_iff.mp e
    cases e4
    obtain ⟨p, x, rfl, rfl, r1, e2⟩ := one_of rs e1
    obtain ⟨a, vs, rfl, h1, q⟩ := view_lst hh r1 e2
    rw [← G.K] at h1
    rcases vals1 r with ⟨u, rfl, ru⟩
    cases ru
    obtain ⟨rfl, o1, o2, o3, o4, o5, o6⟩ := sortV_ok e3
    obtain ⟨its, n, rv, il, hz⟩ := listE I h1
    refine PySem.W.sorted_data (bs := t) (enc := PV.toData) (R := fun u x => ∃ v, RV g F dl x v ∧ RelV v u) (vs := its) il.isList (each_rel q rv) (each_reads G.K I hh.sub o5 q rv) o2 o3 (by rw [← sizeL_eq]; exact o4) (fun y hy => ?_) (fun out ho eo => ?_)
    · rw [depth_of _ (dataAll_mem o5 y hy)]
      have := depthAll_mem hy
      have := G.room.un
      omega
    · have em : t.mergeSort (PySem.W.dataLe false PV.toData) = isort t := isort_eq t o1
      rw [em] at eo
      obtain ⟨ws, w1, w2⟩ := rel_each eo
      obtain ⟨c, ec⟩ := sortedAll_at s.heap its out.toArray
      have kp : ∀ c o, s.heap.get? c = some o → (sortedAll s.heap its out.toArray).get? c = some o := fun _ _ => sortedAll_old
      refine ⟨.ref (s.heap.objs.size + 1), upd H (s.heap.objs.size + 1) (.lst ws), I.laid (t' := s.toks) kp (Nat.le_succ _) ⟨?_, out, c, w2, ec⟩, rfl, b.lst hh w1 (I.hok.fresh (Nat.le_succ _))⟩
      rw [← w1.length, (isort_perm t).length_eq, ← sizeL_eq]
      exact o4
  · rename_i kvs e1
    obtain ⟨ys, e3, e4⟩ := Option.map_eq_some_iff.mp e
    cases e4
    obtain ⟨p, x, rfl, rfl, r1, e2⟩ := one_of rs e1
    obtain ⟨a, F1, n, P, OK, rfl, f1, f2, f3, hn, src, hok, items⟩ := keys_src I hh r1 e2
    rcases vals1 r with ⟨u, rfl, ru⟩
    cases ru
    obtain ⟨rfl, o1, o2, o3, o4, o5, o6⟩ := sortV_ok e3
    refine sorted_src (bs := kvs.map (·.1)) (enc := PV.toData) (R := fun u x => ∃ v, RV g F1 dl x v ∧ RelV v u) src (I.ok.hd G.calm) hok hn (fun us hl hP => ?_) o2 o3 (by rw [← sizeL_eq]; exact o4) (fun y hy => ?_) fun h1 h' tk out c kp1 kp2 ec ho eo => ?_
    · obtain ⟨vs, q1, q2⟩ := items us hl hP
      exact ⟨each_rel q1 q2, each_reads G.K I f2.sub o5 q1 q2⟩
    · rw [depth_of _ (dataAll_mem o5 y hy)]
      have := depthAll_mem hy
      have := G.room.un
      omega
    · have em : (kvs.map (·.1)).mergeSort (PySem.W.dataLe false PV.toData) = isort (kvs.map (·.1)) := isort_eq _ o1
      rw [em] at eo
      obtain ⟨ws, w1, w2⟩ := rel_each eo
      have I1 : Inv X pins st H { s with heap := h1, toks := tk } := I.kept kp1
      refine ⟨.ref h1.objs.size, upd H h1.objs.size (.lst ws), I1.laid (t' := tk) kp2 (Nat.le_refl _) ⟨?_, out, c, w2, ec⟩, rfl, (b.kept f1 f3).lst f2 w1 (I1.hok.fresh (Nat.le_refl _))⟩
      rw [← w1.length, (isort_perm _).length_eq, ← sizeL_eq]
      exact o4
  · cases e
end
end HT
namespace HT
open L2 PyProof.Rows PySem PySem.Spec

theorem atIx_eq (n : Nat) (i : Int) : atIx n i = ixN n i := by
  unfold atIx ixN
  split
  · rfl
  · by_cases h : 0 ≤ i + (n : Int)
    · rw [if_pos h]; exact (if_pos (by omega)).symm
    · rw [if_neg h]; exact (if_neg (by omega)).symm
theorem atI_of {α β : Type} {xs : List α} {vs : List β} {i : Int} (h : xs.length = vs.length) : (atIx xs.length i).bind (fun k => vs[k]?) = atI vs i := by
  rw [atIx_eq, h]; rfl
theorem clamp_eq (n d : Nat) (o : Option Int) : clampIx n d o = sIx n d o := by
  cases o <;> rfl
theorem slice_cut (vs : List V) (lo hi : Option Int) : sliceL vs lo hi = cutV vs lo hi := by
  unfold sliceL cutV
  rw [clamp_eq, clamp_eq]
section
variable {g : Gx} {X : Cx} {k : Nat} {F : Hp} {dl : List Addr} {D : Hs} {H : Hp}
theorem RVs.slice {xs : List PV} {vs : List V} (lo hi : Option Int) (r : RVs g F dl xs vs) : RVs g F dl (sliceL xs lo hi) (sliceL vs lo hi) := by
  unfold sliceL
  rw [r.length]
  exact (r.drop _).take _
def subF (x y : PV) : Option (PV × Bool) := (subV x y).map fun v => (v, false)
/-- a key seen through the store is itself -/
theorem key_self {px : PV} {x : V} {kvs : List (PV × PV)} (hh : Rh g F dl D H) (r1 : RV g F dl px x) (fits : keyFits (deref D px) kvs = true) : RV g F dl (deref D px) x := by
  refine self_of hh r1 (fun xs e => ?_) (fun xs e => ?_) (fun c xs e => ?_) <;> (rw [e] at fits; simp [keyFits, keyKind] at fits)
theorem relF_some {o : Option PV} {z : Option V} {pz : PV} (r : RelF g F dl o z) (e : o = some pz) : ∃ v, z = some v ∧ RV g F dl pz v := by
  subst e
  cases z with
  | none => cases (show False from r)
  | some v => exact ⟨v, rfl, r⟩
theorem ix_sub (G : Gd g X k) : IxR X (rOp g subF) := by
  intro value slice pins s st H x y v u Q I rx ry h hs
  obtain ⟨F, dl, D, px, py, pz, fr, hh, r1, r2, e, b⟩ := h
  obtain ⟨w, e2, e3⟩ := Option.map_eq_some_iff.mp (show (subV (deref D px) (deref D py)).map (fun v => (v, false)) = some (pz, fr) from e)
  cases e3
  unfold subV at e2
  split at e2
  · rename_i xs j z1 z2
    obtain ⟨a, vs, rfl, h1, q⟩ := view_lst hh r1 z1
    obtain rfl := view_int hh r2 z2
    rw [← G.K] at h1
    cases e4 : atIx xs.length j with
    | none => rw [e4] at e2; cases e2
    | some i =>
      rw [e4] at e2
      obtain ⟨w, e5, rw'⟩ := q.get e2
      refine ix_list value slice pins s st H _ _ v u Q I rx ry ⟨a, vs, j, w, rfl, rfl, h1.sqL, ?_, b.val hh rw'⟩ hs
      rw [← atI_of q.length, e4]
      exact e5
  · rename_i xs j z1 z2
    obtain ⟨a, vs, rfl, h1, q⟩ := view_tup hh r1 z1
    obtain rfl := view_int hh r2 z2
    cases e4 : atIx xs.length j with
    | none => rw [e4] at e2; cases e2
    | some i =>
      rw [e4] at e2
      obtain ⟨w, e5, rw'⟩ := q.get e2
      refine ix_tup value slice pins s st H _ _ v u Q I rx ry ⟨a, vs, j, w, rfl, rfl, SqT.of h1, ?_, b.val hh rw'⟩ hs
      rw [← atI_of q.length, e4]
      exact e5
  · rename_i t j z1 z2
    split at e2
    · rename_i hz
      obtain rfl := view_str hh r1 z1
      obtain rfl := view_int hh r2 z2
      cases e4 : atIx t.length j with
      | none => rw [e4] at e2; cases e2
      | some i =>
        rw [e4] at e2
        obtain ⟨c, e5, rfl⟩ := Option.map_eq_some_iff.mp (show (t[i]?).map (fun c => PV.str [c]) = some pz from e2)
        refine ix_str value slice pins s st H _ _ v u Q I rx ry ⟨toStr t, j, c, rfl, rfl, by rw [toStr_len, ← sizeL_eq]; exact hz, ?_, b.str hh⟩ hs
        show atI t j = some c
        rw [← atI_of (xs := t) rfl, e4]
        exact e5
    · cases e2
  · rename_i kvs kk z1
    split at e2
    · rename_i fits
      obtain ⟨a, rfl, d⟩ := view_dct hh r1 z1
      cases (show v = .ref a from rx)
      obtain ⟨H2, o, I2, dg, rf, back⟩ := dict_at I hh (key_self hh r2 fits) fits d
      obtain ⟨w', rfl, rw'⟩ := relF_some rf e2
      refine tail_any (ops := [.ref a, u]) (dict_typeIs I2 dg) PySem.F.slot_dict_getitem.lookup ?_ hs
      exact d_getItem (hu_of G.room) I2 dg ry fun q s3 I3 rq => ⟨w', H, back s3 I3, rq, b.val hh rw'⟩
    · cases e2
  · cases e2
/-- a slice -/
def rSl (g : Gx) : V → Option Int → Option Int → Hp → VK → Prop := fun x lo hi H Q => ∃ F dl D px pz fr,
  Rh g F dl D H ∧ RV g F dl px x ∧ sliceI (deref D px) lo hi = some (pz, fr) ∧ Back g F dl D H pz fr Q
theorem sl_any (G : Gd g X k) : SlR X (rSl g) := by
  intro pins s st H x v vl vu lo hi sl Q I rx hs pl pu h
  obtain ⟨F, dl, D, px, pz, fr, hh, r1, e, b⟩ := h
  unfold sliceI at e
  split at e
  · rename_i xs z1
    cases e
    obtain ⟨a, vs, rfl, h1, q⟩ := view_lst hh r1 z1
    rw [← G.K] at h1
    refine sl_list pins s st H _ v vl vu lo hi sl Q I rx hs pl pu ⟨a, vs, rfl, h1.sqL, fun p n => ?_⟩
    rw [← slice_cut]
    exact b.lst hh (q.slice lo hi) n
  · rename_i xs z1
    cases e
    have t1 := self_of hh r1 (by rw [z1]; intro _ z; cases z) (by rw [z1]; intro _ z; cases z) (by rw [z1]; intro _ _ z; cases z)
    rw [z1] at t1
    obtain ⟨a, vs, rfl, h1, q⟩ := view_tup hh r1 z1
    refine sl_tupA pins s st H _ v vl vu lo hi sl Q I rx hs pl pu ⟨a, vs, rfl, SqT.of h1, fun w => ?_, fun w p n => ?_⟩
    · have ew : sliceL xs lo hi = xs := by
        unfold sliceL
        rw [clamp_eq, clamp_eq, q.length, w.1, w.2, List.drop_zero]
        rw [Nat.sub_zero, ← q.length, List.take_length]
      rw [ew] at b
      exact b.val hh t1
    · rw [← slice_cut]
      exact b.tup hh (q.slice lo hi) n
  · rename_i t z1
    split at e
    · rename_i hz
      cases e
      obtain rfl := view_str hh r1 z1
      refine sl_str pins s st H _ v vl vu lo hi sl Q I rx hs pl pu ⟨toStr t, rfl, by rw [toStr_len, ← sizeL_eq]; exact hz, ?_⟩
      have ec : cutS (toStr t) lo hi = toStr (sliceL t lo hi) := by
        unfold cutS sliceL
        rw [clamp_eq, clamp_eq, toStr_len]
        rfl
      rw [ec]
      exact b.str hh
    · cases e
  · cases e
end
end HT
namespace HT
open L2 PyProof.Rows PySem PySem.Spec

theorem nd_ix : ∀ {l : List Addr} {i j : Nat} {x : Addr}, l.Nodup → l[i]? = some x → l[j]? = some x → i = j
  | [], _, _, _, _, h, _ => absurd h (by simp)
  | y :: l, 0, 0, _, _, _, _ => rfl
  | y :: l, 0, j + 1, x, nd, h1, h2 => by
    simp at h1 h2
    subst h1
    exact absurd (List.mem_of_getElem? h2) (List.nodup_cons.mp nd).1
  | y :: l, i + 1, 0, x, nd, h1, h2 => by
    simp at h1 h2
    subst h2
    exact absurd (List.mem_of_getElem? h1) (List.nodup_cons.mp nd).1
  | y :: l, i + 1, j + 1, x, nd, h1, h2 => by
    have q : i = j := nd_ix (List.nodup_cons.mp nd).2 (by simpa using h1) (by simpa using h2)
    rw [q]
section
variable {g : Gx} {F : Hp} {dl : List Addr} {D : Hs} {H : Hp}
theorem RD.upd2 {o : DO} {a p : Addr} {u w : HO} (h : RD g F dl H o a) (e : H p = some w) (no : ∀ x, w ≠ .own x) (n : a ≠ p) : RD g F dl (L2.upd H p u) o a := by
  cases h with
  | lst h p1 q => exact .lst (by rw [upd_ne n]; exact h) p1 q
  | dK h p1 q => exact .dK (by rw [upd_ne n]; exact h) p1 q
  | dT h p1 q => exact .dT (by rw [upd_ne n]; exact h) p1 q
  | obj h h2 p1 q =>
    refine .obj (by rw [upd_ne n]; exact h) ?_ p1 q
    rw [upd_ne ?_]
    · exact h2
    · rintro rfl
      rw [h2] at e
      exact no _ (Option.some.inj e).symm
/-- a thing of the store is written -/
theorem Rh.write {n : Nat} {a : Addr} {o : DO} {u w : HO} (h : Rh g F dl D H) (ha : dl[n]? = some a) (e : H a = some w) (no : ∀ x, w ≠ .own x) (new : RD g F dl (L2.upd H a u) o a) : Rh g F dl (D.set n o) (L2.upd H a u) where
  sub := fun b q hb => by
    have ne : b ≠ a := by
      rintro rfl
      rw [h.out b (List.mem_of_getElem? ha)] at hb
      cases hb
    rw [upd_ne ne]
    exact h.sub b q hb
  len := by rw [List.length_set]; exact h.len
  nd := h.nd
  out := h.out
  at_ := fun m b q h1 h2 => by
    by_cases hm : n = m
    · subst hm
      rw [ha] at h1; cases h1
      rw [List.getElem?_set_self (by have := (List.getElem?_eq_some_iff.mp ha).1; rw [h.len] at this; exact this)] at h2
      cases h2
      exact new
    · rw [List.getElem?_set_ne hm] at h2
      refine (h.at_ m b q h1 h2).upd2 e no ?_
      rintro rfl
      exact hm (nd_ix h.nd ha h1)
theorem Ev.write {n : Nat} {a : Addr} {u w : HO} (ha : dl[n]? = some a) (e : H a = some w) (hw : ∀ C dx ws, w = .ins C dx ws → ∃ ws', u = .ins C dx ws') : Ev F dl H F dl (L2.upd H a u) :=
  ⟨Le.refl _, fun _ _ e => e, fun _ e => .inl e, fun b o e nb => by
    rw [upd_ne]
    · exact e
    · rintro rfl
      exact nb (List.mem_of_getElem? ha), fun _ _ e => .inl e, fun b C dx ws q => by
    by_cases z : b = a
    · subst z
      rw [e] at q
      obtain ⟨ws', q2⟩ := hw C dx ws (Option.some.inj q)
      exact ⟨ws', by rw [upd_same, q2]⟩
    · exact ⟨ws, by rw [upd_ne z]; exact q⟩⟩
/-- a list of the store -/
theorem Rh.lst {n : Nat} {x : V} {xs : List PV} (h : Rh g F dl D H) (r : RV g F dl (.ref n) x) (e : D[n]? = some (.lst xs)) : ∃ a vs, x = .ref a ∧ dl[n]? = some a ∧ H a = some (.lst vs) ∧ pureAll xs = true ∧ RVs g F dl xs vs := by
  cases r with
  | ref q =>
    obtain ⟨o, e1, d⟩ := h.get q
    rw [e] at e1; cases e1
    cases d with
    | lst h1 p r1 => exact ⟨_, _, rfl, q, h1, p, r1⟩
theorem Rh.dct {n : Nat} {x : V} {xs : List (PV × PV)} (h : Rh g F dl D H) (r : RV g F dl (.ref n) x) (e : D[n]? = some (.dct xs)) : ∃ a, x = .ref a ∧ dl[n]? = some a ∧ pureKv xs = true ∧
    ((∃ kvs, H a = some (.dK kvs) ∧ RKs g F dl xs kvs) ∨ ∃ kvs, H a = some (.dT kvs) ∧ RTs g F dl xs kvs) := by
  cases r with
  | ref q =>
    obtain ⟨o, e1, d⟩ := h.get q
    rw [e] at e1; cases e1
    cases d with
    | dK h1 p r1 => exact ⟨_, rfl, q, p, .inl ⟨_, h1, r1⟩⟩
    | dT h1 p r1 => exact ⟨_, rfl, q, p, .inr ⟨_, h1, r1⟩⟩
theorem Rh.objD {n : Nat} {x : V} {c : Nat} {fs : List (Nat × PV)} (h : Rh g F dl D H) (r : RV g F dl (.ref n) x) (e : D[n]? = some (.obj c fs)) : ∃ a dx ws, x = .ref a ∧ dl[n]? = some a ∧ H a = some (.ins (g.cls c) dx ws) ∧ H dx = some (.own a) ∧ pureFs fs = true ∧ RFs g F dl fs ws := by
  cases r with
  | ref q =>
    obtain ⟨o, e1, d⟩ := h.get q
    rw [e] at e1; cases e1
    cases d with
    | obj h1 h2 p r1 => exact ⟨_, _, _, rfl, q, h1, h2, p, r1⟩
theorem pureAll_app : ∀ {xs ys : List PV}, pureAll xs = true → pureAll ys = true → pureAll (xs ++ ys) = true
  | [], _, _, h => h
  | x :: xs, ys, h1, h2 => by
    simp only [pureAll, Bool.and_eq_true] at h1
    simp only [List.cons_append, pureAll, Bool.and_eq_true]
    exact ⟨h1.1, pureAll_app h1.2 h2⟩
theorem pureAll_erase : ∀ {xs : List PV} (i : Nat), pureAll xs = true → pureAll (xs.eraseIdx i) = true
  | [], _, _ => by simp [pureAll]
  | x :: xs, 0, h => by
    simp only [pureAll, Bool.and_eq_true] at h
    simpa using h.2
  | x :: xs, i + 1, h => by
    simp only [pureAll, Bool.and_eq_true] at h
    simp only [List.eraseIdx_cons_succ, pureAll, Bool.and_eq_true]
    exact ⟨h.1, pureAll_erase i h.2⟩
theorem pureAll_set {v : PV} (hv : v.pure = true) : ∀ {xs : List PV} (i : Nat), pureAll xs = true → pureAll (xs.set i v) = true
  | [], _, _ => by simp [pureAll]
  | x :: xs, 0, h => by
    simp only [pureAll, Bool.and_eq_true] at h
    simp only [List.set_cons_zero, pureAll, Bool.and_eq_true]
    exact ⟨hv, h.2⟩
  | x :: xs, i + 1, h => by
    simp only [pureAll, Bool.and_eq_true] at h
    simp only [List.set_cons_succ, pureAll, Bool.and_eq_true]
    exact ⟨h.1, pureAll_set hv i h.2⟩
/-- the ints of a list -/
theorem ints_rel : ∀ {xs : List PV} {vs : List V}, xs.all isIntV = true → RVs g F dl xs vs → ∃ ns : List Int, xs = ns.map PV.int ∧ vs = ns.map V.int
  | [], _, _, .nil => ⟨[], rfl, rfl⟩
  | x :: xs, _, h, .cons r rs => by
    simp only [Bool.and_eq_true, List.all_cons] at h
    obtain ⟨ns, e1, e2⟩ := ints_rel h.2 rs
    cases x with
    | int i =>
      cases r
      exact ⟨i :: ns, by rw [e1]; rfl, by rw [e2]; rfl⟩
    | _ => simp [isIntV] at h
theorem removeI_ix (k : Int) : ∀ {ns : List Int} {ys : List PV}, removeI k (ns.map PV.int) = some ys → ∃ j, ns[j]? = some k ∧ (∀ m, m < j → ns[m]? ≠ some k) ∧ ys = (ns.eraseIdx j).map PV.int
  | [], _, h => by simp [removeI] at h
  | i :: ns, ys, h => by
    simp only [List.map_cons, removeI] at h
    split at h
    · rename_i e
      cases h
      exact ⟨0, by simp [e], fun m hm => by omega, by simp⟩
    · rename_i e
      obtain ⟨zs, e1, rfl⟩ := Option.map_eq_some_iff.mp h
      obtain ⟨j, h1, h2, rfl⟩ := removeI_ix k e1
      refine ⟨j + 1, by simpa using h1, fun m hm => ?_, by simp⟩
      cases m with
      | zero => simpa using e
      | succ m => simpa using h2 m (by omega)
theorem ints_pure : ∀ ns : List Int, pureAll (ns.map PV.int) = true
  | [] => rfl
  | n :: ns => by simp [pureAll, PV.pure, ints_pure ns]
theorem ints_rvs : ∀ ns : List Int, RVs g F dl (ns.map PV.int) (ns.map V.int)
  | [] => .nil
  | n :: ns => .cons (.int n) (ints_rvs ns)
end

def mutId : Mm → String
  | .append => "list.append"
  | .extend => "list.extend"
  | .remove => "list.remove"
  | .pop => "list.pop"
def rMut (g : Gx) (m : Mm) : V → List V → Hp → VK → Prop := fun x xs H Q => ∃ F dl D n ps pz D', Rh g F dl D H ∧ RV g F dl (.ref n) x ∧ RVs g F dl ps xs ∧ mutV m n ps D = some (pz, D') ∧
  ∀ v H', Ev F dl H F dl H' → Rh g F dl D' H' → RV g F dl pz v → Q v H'
section
variable {g : Gx} {X : Cx} {k : Nat}
theorem mt_extE : MtR X "list.extend" (fun x vs H Q => ∃ l b xs zs, x = .ref l ∧ vs = [.ref b] ∧ H l = some (.lst xs) ∧ SqE X.K H b zs ∧ xs.length + zs.length ≤ sizeLine ∧ Q .non (upd H l (.lst (xs ++ zs)))) := by
  intro pins S st H x vs xv us Q I rx rs wish
  obtain ⟨p, q, old, more, rfl, rfl, atP, atQ, room, good⟩ := wish
  cases rx
  obtain ⟨arg, rfl, ra⟩ := rs.one
  cases ra
  obtain ⟨_, js, ep, rj, _, ej⟩ := I.lstM atP
  obtain ⟨ks, eq, rk, ek, _⟩ := listE I atQ
  have lj := rj.length
  have lk := rk.length
  have fits : js.toArray.size + ks.toArray.size ≤ sizeLine := by
    simp only [List.size_toArray]
    omega
  have short : ¬ (!js.toArray.isEmpty && Builtin.List.listTooLong (js.toArray.size + ks.toArray.size)) = true := by
    have nl := notLongL fits
    rw [nl, Bool.and_false]; decide
  have meets := AutoSeq1.list_extend_list_list_0 p js.toArray ep q ks.toArray eq short (by simp only [List.size_toArray]; omega) (by omega)
  refine call_meets F.slot_list_extend ⟨_, ej, rfl⟩ F.entry_list_extend (F.args_list_extend_2 _ _) meets ⟨ej, ek, .non, _, I.lset (its' := js ++ ks) atP ej (by simp) (rj.append rk) ?_, rfl, good⟩
  rw [List.length_append]
  omega
theorem mt_mut (hK : X.K = g.K) (m : Mm) : MtR X (mutId m) (rMut g m) := by
  intro pins s st H x xs v us Q I rx rv h
  obtain ⟨F, dl, D, n, ps, pz, D', hh, r1, rs, e, b⟩ := h
  unfold mutV at e
  split at e
  · rename_i ys e0
    obtain ⟨a, vs, rfl, ha, h1, hp, q⟩ := hh.lst r1 e0
    have go : ∀ (zs : List PV) (ws : List V) (pz : PV) (w : V), pureAll zs = true → RVs g F dl zs ws → RV g F dl pz w → (∀ v H', Ev F dl H F dl H' → Rh g F dl (D.set n (.lst zs)) H' → RV g F dl pz v → Q v H') → Q w (upd H a (.lst ws)) :=
      fun zs ws pz w h2 h3 h4 bb => bb w _ (Ev.write ha h1 (by intro _ _ _ z; cases z)) (hh.write ha h1 (by intro _ z; cases z) (.lst upd_same h2 h3)) h4
    split at e
    · rename_i p
      split at e
      · rename_i hz
        cases e
        simp only [decide_eq_true_eq, Bool.and_eq_true] at hz
        obtain ⟨p, rfl⟩ : ∃ w, xs = [w] := by cases rs with | cons _ t => cases t; exact ⟨_, rfl⟩
        have rp : RVs g F dl [_] [p] := rs
        refine mt_append pins s st H _ _ v us Q I rx rv ⟨a, vs, p, rfl, rfl, h1, by rw [← q.length, ← sizeL_eq]; exact hz.2, ?_⟩
        exact go _ _ _ _ (pureAll_app hp (by simp [pureAll, hz.1])) (q.append rp) .non b
      · cases e
    · rename_i p
      split at e
      · rename_i zs e1
        split at e
        · rename_i hz
          cases e
          simp only [decide_eq_true_eq, Bool.and_eq_true] at hz
          obtain ⟨w, rfl⟩ : ∃ w, xs = [w] := by cases rs with | cons _ t => cases t; exact ⟨_, rfl⟩
          have rp : RV g F dl p w := by cases rs with | cons h _ => exact h
          obtain ⟨a2, ws, rfl, h2, q2⟩ := view_lst hh rp e1
          rw [← hK] at h2
          refine mt_extE pins s st H _ _ v us Q I rx rv ⟨a, a2, vs, ws, rfl, rfl, h1, h2, by rw [← q.length, ← q2.length, ← sizeL_eq]; exact hz.2, ?_⟩
          exact go _ _ _ _ (pureAll_app hp hz.1) (q.append q2) .non b
        · cases e
      · cases e
    · rename_i i
      split at e
      · rename_i hz
        obtain ⟨zs, e1, e2⟩ := Option.map_eq_some_iff.mp e
        cases e2
        obtain ⟨ns, rfl, rfl⟩ := ints_rel hz q
        obtain ⟨j, j1, j2, rfl⟩ := removeI_ix i e1
        obtain rfl : xs = [.int i] := by cases rs with | cons h t => cases t; cases h; rfl
        refine mt_remove pins s st H _ _ v us Q I rx rv ⟨a, ns, i, j, rfl, rfl, h1, j1, j2, ?_⟩
        exact go _ _ _ _ (ints_pure _) (ints_rvs _) .non b
      · cases e
    · rename_i j
      split at e
      · cases e
      · rename_i i ei
        split at e
        · cases e
        · rename_i w ew
          cases e
          obtain rfl : xs = [.int j] := by cases rs with | cons h t => cases t; cases h; rfl
          obtain ⟨y, ey, ry⟩ := q.get ew
          obtain ⟨z1, z2, z3, z4⟩ := ixN_seq (by rw [← atIx_eq]; exact ei)
          have hlen := q.length
          have hl63 : ys.length < 2 ^ 63 := by
            obtain ⟨zz, _⟩ := I.lstM h1
            have := line63
            omega
          refine mt_popAt pins s st H _ _ v us Q I rx rv ⟨a, vs, j, i, y, rfl, rfl, h1, by omega, by omega, by rw [← hlen]; exact z1, ey, ?_⟩
          exact go _ _ _ _ (pureAll_erase i hp) (q.eraseIdx i) ry b
    · cases e
  · cases e
end
end HT
namespace HT
open L2 PyProof.Rows PySem PySem.Spec

theorem key_pure {k : PV} (h : isKey0 k = true) : k.pure = true := by
  cases k <;> first | rfl | simp [isKey0] at h
theorem keys_pure : ∀ {ks : List PV}, ks.all isKey0 = true → pureAll ks = true
  | [], _ => rfl
  | k :: ks, h => by
    simp only [Bool.and_eq_true, List.all_cons] at h
    simp only [pureAll, Bool.and_eq_true]
    exact ⟨key_pure h.1, keys_pure h.2⟩
theorem pureKv_map (k v : PV) (hv : v.pure = true) : ∀ {kvs : List (PV × PV)}, pureKv kvs = true → pureKv (kvs.map fun q => if q.1.eqv k then (q.1, v) else q) = true
  | [], _ => rfl
  | (a, b) :: r, h => by
    simp only [pureKv, Bool.and_eq_true] at h
    have ih := pureKv_map k v hv h.2
    simp only [List.map_cons]
    split
    · simp only [pureKv, Bool.and_eq_true]; exact ⟨⟨h.1.1, hv⟩, ih⟩
    · simp only [pureKv, Bool.and_eq_true]; exact ⟨h.1, ih⟩
theorem pureKv_app : ∀ {xs ys : List (PV × PV)}, pureKv xs = true → pureKv ys = true → pureKv (xs ++ ys) = true
  | [], _, _, h => h
  | (a, b) :: r, ys, h1, h2 => by
    simp only [pureKv, Bool.and_eq_true] at h1
    simp only [List.cons_append, pureKv, Bool.and_eq_true]
    exact ⟨h1.1, pureKv_app h1.2 h2⟩
theorem pureKv_put {k v : PV} {kvs : List (PV × PV)} (hk : k.pure = true) (hv : v.pure = true) (h : pureKv kvs = true) : pureKv (dPut k v kvs) = true := by
  unfold dPut
  split
  · exact pureKv_map k v hv h
  · exact pureKv_app h (by simp [pureKv, hk, hv])
theorem kind1 {ks : List PV} (h : ks.all isKey0 = true) : keyKind (.tup ks) = some 1 := by
  show (if ks.all isKey0 then some 1 else none) = some 1
  rw [if_pos h]
theorem fits_kind {k : PV} {kvs : List (PV × PV)} (h : keyFits k kvs = true) : isKey0 k = true ∨ ∃ ks, k = .tup ks ∧ ks.all isKey0 = true := by
  unfold keyFits at h
  cases k with
  | int i => exact .inl rfl
  | str i => exact .inl rfl
  | tup ks =>
    by_cases q : ks.all isKey0 = true
    · exact .inr ⟨ks, rfl, q⟩
    · simp [keyKind, q] at h
  | _ => simp [keyKind] at h

section
variable {g : Gx} {X : Cx} {pins : List (Addr × Obj)} {st : L2.St} {H : Hp} {s : Shared} {F : Hp} {dl : List Addr} {D : Hs} {a : Addr} {kvs : List (PV × PV)}
/-- d[k] = v where d is tracked: the heap it is put into, and what stands there then -/
theorem dict_put {pk pv : PV} {y v : V} (I : Inv X pins st H s) (hh : Rh g F dl D H) (rk : RV g F dl pk y) (rv : RV g F dl pv v) (fits : keyFits pk kvs = true) (hl : kvs.length < sizeL)
    (d : (∃ ks, H a = some (.dK ks) ∧ RKs g F dl kvs ks) ∨ ∃ ks, H a = some (.dT ks) ∧ RTs g F dl kvs ks) :
    ∃ H2 u, Inv X pins st H2 s ∧ DPut H2 a y v (upd H a u) ∧ ((∃ ks, u = .dK ks ∧ RKs g F dl (dPut pk pv kvs) ks) ∨ ∃ ks, u = .dT ks ∧ RTs g F dl (dPut pk pv kvs) ks) := by
  have hl2 : kvs.length < sizeLine := by rw [← sizeL_eq]; exact hl
  rcases fits_kind fits with hk | ⟨ks0, rfl, hk⟩
  · have ey := toKey_rel hk rk
    subst ey
    rcases d with ⟨ks, e, r⟩ | ⟨ks, e, r⟩
    · exact ⟨H, .dK (putK ks (toKey pk) v), I, DPut.k e (by rw [← r.length]; exact hl2), .inl ⟨_, rfl, dPut_K hk rv r⟩⟩
    · cases r with
      | nil =>
        refine ⟨upd H a (.dK []), .dK (putK [] (toKey pk) v), retag_K I e, ?_, .inl ⟨_, rfl, dPut_K hk rv .nil⟩⟩
        have z := DPut.k (H := upd H a (.dK [])) (a := a) (k := toKey pk) (v := v) (kvs := []) upd_same (by rw [sizeLine_eq]; decide)
        rw [upd_upd] at z
        exact z
      | cons hq _ _ =>
        unfold keyFits at fits
        simp only [kind0 hk, kind1 hq] at fits
        cases fits
  · cases rk with
    | tup e1 r1 =>
      have ev := toKeys_rel hk r1
      subst ev
      rcases d with ⟨ks, e, r⟩ | ⟨ks, e, r⟩
      · cases r with
        | nil =>
          refine ⟨upd H a (.dT []), .dT (putK [] (ks0.map toKey) v), retag_T I e, ?_, .inr ⟨_, rfl, dPut_T hk rv .nil⟩⟩
          have z := DPut.t (H := upd H a (.dT [])) (a := a) (k := ks0.map toKey) (v := v) (kvs := []) upd_same (by rw [upd_ne (ne_of (hh.sub _ _ e1) e (by intro z; cases z))]; exact hh.sub _ _ e1) (by rw [sizeLine_eq]; decide)
          rw [upd_upd] at z
          exact z
        | cons hq _ _ =>
          unfold keyFits at fits
          simp only [kind0 hq, kind1 hk] at fits
          cases fits
      · exact ⟨H, .dT (putK ks (ks0.map toKey) v), I, DPut.t e (hh.sub _ _ e1) (by rw [← r.length]; exact hl2), .inr ⟨_, rfl, dPut_T hk rv r⟩⟩
end
/-- o[i] = v by values -/
def rSetV (g : Gx) : TSet := fun o i v H Q => ∃ F dl D po pi pv D', Rh g F dl D H ∧ RV g F dl po o ∧ RV g F dl pi i ∧ RV g F dl pv v ∧ setItemV po pi pv D = some D' ∧ ∀ H', Ev F dl H F dl H' → Rh g F dl D' H' → Q H'
section
variable {g : Gx} {X : Cx} {k : Nat}
theorem set_any (G : Gd g X k) : PSet X (rSetV g) := by
  intro pins s st H o i v ov iv u Q I ro ri rv h
  obtain ⟨F, dl, D, po, pi, pv, D', hh, r1, r2, r3, e, b⟩ := h
  unfold setItemV at e
  split at e
  · rename_i n
    split at e
    · rename_i xs e0
      obtain ⟨a, vs, rfl, ha, h1, hp, q⟩ := hh.lst r1 e0
      split at e
      · rename_i j
        cases r2
        split at e
        · rename_i kx ek
          split at e
          · rename_i hz
            cases e
            refine set_list pins s st H _ _ v ov iv u Q I ro ri rv ⟨a, vs, j, kx, rfl, rfl, h1, by rw [← q.length, ← atIx_eq]; exact ek, ?_⟩
            exact b _ (Ev.write ha h1 (by intro _ _ _ z; cases z)) (hh.write ha h1 (by intro _ z; cases z) (.lst upd_same (pureAll_set hz kx hp) (q.set r3 kx)))
          · cases e
        · cases e
      · cases e
    · rename_i kvs e0
      obtain ⟨a, rfl, ha, hp, d⟩ := hh.dct r1 e0
      split at e
      · rename_i hz
        cases e
        simp only [decide_eq_true_eq, Bool.and_eq_true] at hz
        obtain ⟨H2, w, I2, dp, dd⟩ := dict_put I hh r2 r3 hz.1.1 hz.2 d
        cases (show ov = .ref a from ro)
        have kp : pi.pure = true := by
          rcases fits_kind hz.1.1 with q | ⟨ks, rfl, q⟩
          · exact key_pure q
          · simpa [PV.pure] using keys_pure q
        refine d_setItem (hu_of G.room) I2 dp ri rv fun s' I' => ⟨_, I', ?_⟩
        have hw : ∃ w0, H a = some w0 ∧ (∀ x, w0 ≠ .own x) ∧ ∀ C dx ws, w0 = .ins C dx ws → ∃ ws', w = .ins C dx ws' := by
          rcases d with ⟨ks, e, _⟩ | ⟨ks, e, _⟩ <;> exact ⟨_, e, (by intro _ z; cases z), (by intro _ _ _ z; cases z)⟩
        obtain ⟨w0, ew, nw, nw2⟩ := hw
        refine b _ (Ev.write ha ew nw2) (hh.write ha ew nw ?_)
        rcases dd with ⟨ks, rfl, r⟩ | ⟨ks, rfl, r⟩
        · exact .dK upd_same (pureKv_put kp hz.1.2 hp) r
        · exact .dT upd_same (pureKv_put kp hz.1.2 hp) r
      · cases e
    · cases e
  · cases e
end
/-! ### attributes -/
/-- what is asked of a class -/
structure CF (g : Gx) (c : Nat) : Prop where
  cl : Cls g.K (g.cls c)
  ca : PySem.W.findIn g.K (.ref (g.cls c)) "__class__" = some (some (.builtin "object.__class__"))
  cn : PySem.W.specialIn g.K (.builtin "object.__class__") "__get__" = some (some (.builtin "getset_descriptor.__get__"))
  ck : PySem.W.takesIn g.K (.builtin "object.__class__") = some true
  cm : PySem.W.mroIn g.K (g.cls c) (.type "object") = some true
section
variable {g : Gx} {X : Cx} {k : Nat} {F : Hp} {dl : List Addr}
theorem lookN_rel (inj : ∀ n m, g.fld n = g.fld m → n = m) (n : Nat) : ∀ {fs : List (Nat × PV)} {ws : List (Str × V)}, RFs g F dl fs ws → RelF g F dl (lookN n fs) (ws.lookup (g.fld n))
  | _, _, .nil => True.intro
  | _, _, .cons (n := m) r rs => by
    unfold lookN
    by_cases e : m = n
    · subst e
      rw [if_pos rfl]
      simp only [List.lookup_cons, beq_self_eq_true]
      exact r
    · rw [if_neg e]
      have q : (g.fld n == g.fld m) = false := beq_eq_false_iff_ne.mpr fun z => e (inj _ _ z).symm
      simp only [List.lookup_cons, q]
      exact lookN_rel inj n rs
theorem putN_rel (inj : ∀ n m, g.fld n = g.fld m → n = m) {n : Nat} {x : PV} {v : V} (rv : RV g F dl x v) : ∀ {fs : List (Nat × PV)} {ws : List (Str × V)}, RFs g F dl fs ws → RFs g F dl (putN n x fs) (putF (g.fld n) v ws)
  | _, _, .nil => .cons rv .nil
  | _, _, .cons (n := m) r rs => by
    unfold putN putF
    by_cases e : m = n
    · subst e
      rw [if_pos rfl, if_pos rfl]
      exact .cons rv rs
    · rw [if_neg e, if_neg fun z => e (inj _ _ z)]
      exact .cons r (putN_rel inj rv rs)
theorem pureFs_put {n : Nat} {x : PV} (hx : x.pure = true) : ∀ {fs : List (Nat × PV)}, pureFs fs = true → pureFs (putN n x fs) = true
  | [], _ => by simp [putN, pureFs, hx]
  | (m, y) :: r, h => by
    simp only [pureFs, Bool.and_eq_true] at h
    unfold putN
    split
    · simp only [pureFs, Bool.and_eq_true]; exact ⟨hx, h.2⟩
    · simp only [pureFs, Bool.and_eq_true]; exact ⟨h.1, pureFs_put hx h.2⟩
theorem RFs.length : ∀ {fs : List (Nat × PV)} {ws : List (Str × V)}, RFs g F dl fs ws → fs.length = ws.length
  | _, _, .nil => rfl
  | _, _, .cons _ more => congrArg (· + 1) more.length
end
end HT
namespace HT
open L2 PyProof.Rows PySem PySem.Spec

section
variable {g : Gx} {F F1 F2 : Hp} {dl dl1 dl2 : List Addr} {r : Rho} {D D1 D2 : Hs} {st : L2.St} {H H1 H2 : Hp}
theorem Rh.old (h : Rh g F dl D H) (ev : Ev F dl H F2 dl2 H2) (h2 : Rh g F2 dl2 D2 H2) {a : Addr} (n : H2 a = none) : H a = none := by
  cases e : H a with
  | none => rfl
  | some o =>
    by_cases m : a ∈ dl
    · obtain ⟨i, hi, q⟩ := List.mem_iff_getElem.mp m
      have z := ev.dp i a (by rw [List.getElem?_eq_getElem hi, q])
      obtain ⟨u, w⟩ := h2.there (List.mem_of_getElem? z)
      rw [w] at n; cases n
    · rw [ev.kp a o e m] at n; cases n
theorem RR.pre {H' : Hp} {F' : Hp} {dl' : List Addr} {pv : PV} {fr : Bool} {v : V} (h : Rh g F dl D H) (ev : Ev F dl H F2 dl2 H2) (h2 : Rh g F2 dl2 D2 H2) (rr : RR g F' dl' H2 H' pv fr v) : RR g F' dl' H H' pv fr v := by
  cases fr with
  | false => exact rr
  | true =>
    obtain ⟨a, e1, e2, e3, e4, e5⟩ := rr
    exact ⟨a, e1, h.old ev h2 e2, e3, e4, e5⟩
theorem RR.val {H' : Hp} {F' : Hp} {dl' : List Addr} {pv : PV} {v : V} (h : RV g F' dl' pv v) : RR g F' dl' H H' pv false v := h
/-- the wish behind an expression -/
def Wish (g : Gx) (F : Hp) (dl : List Addr) (r : Rho) (st : L2.St) (H : Hp) (D' : Hs) (pv : PV) (fr : Bool) (Q : VK) : Prop :=
  ∀ v H' F' dl', Ev F dl H F' dl' H' → Rp g F' dl' r D' st H' → RR g F' dl' H H' pv fr v → Q v H'
theorem Wish.back {pv : PV} {fr : Bool} {Q : VK} (w : Wish g F dl r st H D2 pv fr Q) (p : Rp g F dl r D st H) (ev : Ev F dl H F2 dl2 H2) (p2 : Rp g F2 dl2 r D2 st H2) : Back g F2 dl2 D2 H2 pv fr Q :=
  fun v H' F' e h rr => w v H' F' dl2 (ev.trans e) (p2.to h e) (rr.pre p.h ev p2.h)
end

section
variable (g : Gx) (T : Tab) (cf : CallFn)
def tE (c : CE) : TE := fun st H Q => ∃ F dl r D pv fr D', Rp g F dl r D st H ∧ evE T cf c r D = some (pv, fr, D') ∧ Wish g F dl r st H D' pv fr Q
def tT (c : CE) : TT := fun st H Q => ∃ F dl r D pv fr D' b, Rp g F dl r D st H ∧ evE T cf c r D = some (pv, fr, D') ∧ truth (deref D' pv) = some b ∧
  ∀ H' F' dl', Ev F dl H F' dl' H' → Rp g F' dl' r D' st H' → Q b H'
def tTs (cs : List CE) : TT := fun st H Q => ∃ F dl r D D' b, Rp g F dl r D st H ∧ evTs T cf cs r D = some (b, D') ∧
  ∀ H' F' dl', Ev F dl H F' dl' H' → Rp g F' dl' r D' st H' → Q b H'
def tA (cs : List CE) : TA := fun st H Q => ∃ F dl r D pvs D', Rp g F dl r D st H ∧ evEs T cf cs r D = some (pvs, D') ∧
  ∀ vs H' F' dl', Ev F dl H F' dl' H' → Rp g F' dl' r D' st H' → RVs g F' dl' pvs vs → Q vs H'
end
theorem PE.imp {X : Cx} {e : Expr} {t t' : TE} (h : PE X e t) (i : ∀ st H Q, t' st H Q → t st H Q) : PE X e t' := ⟨fun pins s st H Q I q => h.run pins s st H Q I (i _ _ _ q)⟩
theorem PT.imp {X : Cx} {e : Expr} {t t' : TT} (h : PT X e t) (i : ∀ st H Q, t' st H Q → t st H Q) : PT X e t' := ⟨fun pins s st H Q I q => h.run pins s st H Q I (i _ _ _ q)⟩
theorem PW.imp {X : Cx} {e : Expr} {t t' : TT} (h : PW X e t) (i : ∀ st H Q, t' st H Q → t st H Q) : PW X e t' := ⟨fun w pins s st H Q I q => h.run w pins s st H Q I (i _ _ _ q)⟩
theorem PA.imp {X : Cx} {e : List Expr} {t t' : TA} (h : PA X e t) (i : ∀ st H Q, t' st H Q → t st H Q) : PA X e t' := ⟨fun pos pins s st H Q I q => h.run pos pins s st H Q I (i _ _ _ q)⟩
theorem PS.imp {X : Cx} {e : Stmt} {t t' : TS} (h : PS X e t) (i : ∀ D st H, t' D st H → t D st H) : PS X e t' := ⟨fun pins s st H D I q => h.run pins s st H D I (i _ _ _ q)⟩
theorem PSs.imp {X : Cx} {e : List Stmt} {t t' : TS} (h : PSs X e t) (i : ∀ D st H, t' D st H → t D st H) : PSs X e t' := ⟨fun pins s st H D I q => h.run pins s st H D I (i _ _ _ q)⟩
theorem PTs.imp {X : Cx} {e : List Expr} {t t' : TT} (h : PTs X e t) (i : ∀ st H Q, t' st H Q → t st H Q) : PTs X e t' := ⟨fun pins s st H Q I q => h.run pins s st H Q I (i _ _ _ q)⟩

section
variable {g : Gx} {T : Tab} {cf : CallFn} {F : Hp} {dl : List Addr} {r : Rho} {D : Hs} {st : L2.St} {H : Hp}
theorem tE.bind {c : CE} {pv : PV} {fr : Bool} {D1 : Hs} {Q : VK} (p : Rp g F dl r D st H) (e : evE T cf c r D = some (pv, fr, D1))
    (q : ∀ v H1 F1 dl1, Ev F dl H F1 dl1 H1 → Rp g F1 dl1 r D1 st H1 → RV g F1 dl1 pv v → Q v H1) : tE g T cf c st H Q :=
  ⟨F, dl, r, D, pv, fr, D1, p, e, fun v H' F' dl' ev p' rr => by
    obtain ⟨F2, le, rh, rv, fn⟩ := rr.keep p'.h
    exact q v H' F2 dl' (ev.more le fn) (p'.more rh le) rv⟩
/-- one after another -/
theorem lx_two {a b c : CE} {x y : PV} {f1 f2 : Bool} {D1 D2 : Hs} {R : V → V → Hp → Prop} (p : Rp g F dl r D st H) (e1 : evE T cf a r D = some (x, f1, D1)) (e2 : evE T cf b r D1 = some (y, f2, D2))
    (q : ∀ v w H2 F2 dl2, Ev F dl H F2 dl2 H2 → Rp g F2 dl2 r D2 st H2 → RV g F2 dl2 x v → RV g F2 dl2 y w → R v w H2) : tE g T cf a st H fun v H1 => tE g T cf b st H1 fun w H2 => R v w H2 :=
  tE.bind p e1 fun v H1 F1 dl1 ev1 p1 r1 => tE.bind p1 e2 fun w H2 F2 dl2 ev2 p2 r2 => q v w H2 F2 dl2 (ev1.trans ev2) p2 (r1.mono ev2.fm ev2.dp) r2
theorem lx_bin {op : BOp} {a b : CE} {Q : VK} (h : tE g T cf (.bin op a b) st H Q) : tOp (rOp g (binV op)) (tE g T cf a) (tE g T cf b) st H Q := by
  obtain ⟨F, dl, r, D, pv, fr, D', p, e, w⟩ := h
  unfold evE at e
  split at e
  · cases e
  · rename_i x f1 D1 e1
    split at e
    · cases e
    · rename_i y f2 D2 e2
      obtain ⟨z, e3, e4⟩ := Option.map_eq_some_iff.mp e
      obtain ⟨z1, z2⟩ := z
      cases e4
      exact lx_two (c := a) p e1 e2 fun v u H2 F2 dl2 ev p2 r1 r2 => ⟨F2, dl2, _, x, y, _, _, p2.h, r1, r2, e3, w.back p ev p2⟩
theorem lx_cmp {op : COp} {a b : CE} {Q : VK} (h : tE g T cf (.cmp op a b) st H Q) : tOp (rOp g (cmpR op)) (tE g T cf a) (tE g T cf b) st H Q := by
  obtain ⟨F, dl, r, D, pv, fr, D', p, e, w⟩ := h
  unfold evE at e
  split at e
  · cases e
  · rename_i x f1 D1 e1
    split at e
    · cases e
    · rename_i y f2 D2 e2
      obtain ⟨z, e3, e4⟩ := Option.map_eq_some_iff.mp e
      cases e4
      exact lx_two (c := a) p e1 e2 fun v u H2 F2 dl2 ev p2 r1 r2 => ⟨F2, dl2, _, x, y, _, _, p2.h, r1, r2, by rw [cmpR, e3]; rfl, w.back p ev p2⟩
theorem lx_sub {a b : CE} {Q : VK} (h : tE g T cf (.sub a b) st H Q) : tOp (rOp g subF) (tE g T cf a) (tE g T cf b) st H Q := by
  obtain ⟨F, dl, r, D, pv, fr, D', p, e, w⟩ := h
  unfold evE at e
  split at e
  · cases e
  · rename_i x f1 D1 e1
    split at e
    · cases e
    · rename_i y f2 D2 e2
      obtain ⟨z, e3, e4⟩ := Option.map_eq_some_iff.mp e
      cases e4
      exact lx_two (c := a) p e1 e2 fun v u H2 F2 dl2 ev p2 r1 r2 => ⟨F2, dl2, _, x, y, _, _, p2.h, r1, r2, by rw [subF, e3]; rfl, w.back p ev p2⟩
theorem lx_var {i : Nat} {Q : VK} (h : tE g T cf (.var i) st H Q) : tVar i st H Q := by
  obtain ⟨F, dl, r, D, pv, fr, D', p, e, w⟩ := h
  unfold evE at e
  split at e
  · rename_i v e1
    cases e
    obtain ⟨u, e2, e3⟩ := p.sl i _ e1
    exact ⟨u, e2, w u H F dl (Ev.refl _ _ _) p e3⟩
  · cases e
/-- a written constant -/
inductive RC : PV → V → Prop
  | non : RC .non .non
  | bl (b : Bool) : RC (.bl b) (.bl b)
  | int (i : Int) : RC (.int i) (.int i)
  | str (s : List Nat) : RC (.str s) (.str (toStr s))
theorem RC.rv {pv : PV} {v : V} (h : RC pv v) : RV g F dl pv v := by
  cases h with
  | non => exact .non
  | bl b => exact .bl b
  | int i => exact .int i
  | str s => exact .str s
theorem lx_cst {pv : PV} {v : V} {Q : VK} (hc : RC pv v) (h : tE g T cf (.cst pv) st H Q) : tC v st H Q := by
  obtain ⟨F, dl, r, D, pv, fr, D', p, e, w⟩ := h
  unfold evE at e
  cases e
  exact w v H F dl (Ev.refl _ _ _) p hc.rv
theorem lx_neg {a : CE} {Q : VK} (h : tE g T cf (.neg a) st H Q) : tUn (rU fun i => .int (-i)) (tE g T cf a) st H Q := by
  obtain ⟨F, dl, r, D, pv, fr, D', p, e, w⟩ := h
  unfold evE at e
  split at e
  · rename_i i f D1 e1
    cases e
    exact tE.bind p e1 fun v H1 F1 dl1 ev p1 rv => by
      cases rv
      exact ⟨i, rfl, w _ _ _ _ ev p1 (.int _)⟩
  · cases e
/-! tests -/
theorem tru_rel {X : Cx} {pv : PV} {v : V} {b : Bool} (hK : X.K = g.K) (h : Rh g F dl D H) (rv : RV g F dl pv v) (e : truth (deref D pv) = some b) : TruV X.K v H b := by
  unfold truth at e
  split at e
  · rename_i z; cases e; obtain rfl := view_non h rv z; rfl
  · rename_i z; cases e; obtain rfl := view_bl h rv z; rfl
  · rename_i z; cases e; obtain rfl := view_int h rv z; rfl
  · rename_i t z
    split at e
    · rename_i hz
      cases e
      obtain rfl := view_str h rv z
      refine ⟨by rw [toStr_len, ← sizeL_eq]; exact hz, ?_⟩
      rw [toStr_len]
      cases t <;> simp
      omega
    · cases e
  · rename_i xs z
    cases e
    obtain ⟨a, vs, rfl, h1, q⟩ := view_tup h rv z
    exact .inr (.inl ⟨vs, SqT.of h1, by cases q <;> rfl⟩)
  · rename_i xs z
    cases e
    obtain ⟨a, vs, rfl, h1, q⟩ := view_lst h rv z
    rw [← hK] at h1
    exact .inl ⟨vs, h1.sqL, by cases q <;> rfl⟩
  · cases e
/-- an expression's truth, by its value -/
theorem lt_val {X : Cx} {c : CE} {Q : Bool → Hp → Prop} (hK : X.K = g.K) (h : tT g T cf c st H Q) : tE g T cf c st H fun x H1 => ∃ k, TruV X.K x H1 k ∧ Q k H1 := by
  obtain ⟨F, dl, r, D, pv, fr, D', b, p, e, e2, w⟩ := h
  exact tE.bind p e fun v H1 F1 dl1 ev p1 rv => ⟨b, tru_rel hK p1.h rv e2, w _ _ _ ev p1⟩
theorem lt_not {a : CE} {Q : Bool → Hp → Prop} (h : tT g T cf (.notE a) st H Q) : tNot (tT g T cf a) st H Q := by
  obtain ⟨F, dl, r, D, pv, fr, D', b, p, e, e2, w⟩ := h
  unfold evE at e
  split at e
  · rename_i x f1 D1 e1
    obtain ⟨z, e3, e4⟩ := Option.map_eq_some_iff.mp e
    cases e4
    simp only [deref, truth] at e2
    cases e2
    exact ⟨F, dl, r, D, x, f1, _, z, p, e1, e3, w⟩
  · cases e
theorem lt_and {a b : CE} {Q : Bool → Hp → Prop} (h : tT g T cf (.andE a b) st H Q) : tAnd (tT g T cf a) (tT g T cf b) st H Q := by
  obtain ⟨F, dl, r, D, pv, fr, D', k, p, e, e2, w⟩ := h
  unfold evE at e
  split at e
  · cases e
  · rename_i x f1 D1 e1
    split at e
    · cases e
    · rename_i t1
      exact ⟨F, dl, r, D, x, f1, D1, true, p, e1, t1, fun H1 F1 dl1 ev p1 => ⟨F1, dl1, r, D1, pv, fr, D', k, p1, e, e2, fun H2 F2 dl2 ev2 p2 => w _ _ _ (ev.trans ev2) p2⟩⟩
    · rename_i t1
      cases e
      rw [t1] at e2
      cases e2
      exact ⟨F, dl, r, D, _, f1, _, false, p, e1, t1, fun H1 F1 dl1 ev p1 => w _ _ _ ev p1⟩
theorem lt_or {a b : CE} {Q : Bool → Hp → Prop} (h : tT g T cf (.orE a b) st H Q) : tOr (tT g T cf a) (tT g T cf b) st H Q := by
  obtain ⟨F, dl, r, D, pv, fr, D', k, p, e, e2, w⟩ := h
  unfold evE at e
  split at e
  · cases e
  · rename_i x f1 D1 e1
    split at e
    · cases e
    · rename_i t1
      cases e
      rw [t1] at e2
      cases e2
      exact ⟨F, dl, r, D, _, f1, _, true, p, e1, t1, fun H1 F1 dl1 ev p1 => w _ _ _ ev p1⟩
    · rename_i t1
      exact ⟨F, dl, r, D, x, f1, D1, false, p, e1, t1, fun H1 F1 dl1 ev p1 => ⟨F1, dl1, r, D1, pv, fr, D', k, p1, e, e2, fun H2 F2 dl2 ev2 p2 => w _ _ _ (ev.trans ev2) p2⟩⟩
theorem lx_ite {c a b : CE} {Q : VK} (h : tE g T cf (.ite c a b) st H Q) : tIf (tT g T cf c) (tE g T cf a) (tE g T cf b) st H Q := by
  obtain ⟨F, dl, r, D, pv, fr, D', p, e, w⟩ := h
  unfold evE at e
  split at e
  · cases e
  · rename_i x f1 D1 e1
    split at e
    · cases e
    · rename_i t1
      exact ⟨F, dl, r, D, x, f1, D1, true, p, e1, t1, fun H1 F1 dl1 ev p1 => ⟨F1, dl1, r, D1, pv, fr, D', p1, e, fun v H2 F2 dl2 ev2 p2 rr => w _ _ _ _ (ev.trans ev2) p2 (rr.pre p.h ev p1.h)⟩⟩
    · rename_i t1
      exact ⟨F, dl, r, D, x, f1, D1, false, p, e1, t1, fun H1 F1 dl1 ev p1 => ⟨F1, dl1, r, D1, pv, fr, D', p1, e, fun v H2 F2 dl2 ev2 p2 rr => w _ _ _ _ (ev.trans ev2) p2 (rr.pre p.h ev p1.h)⟩⟩
/-! lists of expressions -/
theorem la_nil {Q : List V → Hp → Prop} (h : tA g T cf [] st H Q) : tNil st H Q := by
  obtain ⟨F, dl, r, D, pvs, D', p, e, w⟩ := h
  unfold evEs at e
  cases e
  exact w [] H F dl (Ev.refl _ _ _) p .nil
theorem la_cons {c : CE} {cs : List CE} {Q : List V → Hp → Prop} (h : tA g T cf (c :: cs) st H Q) : tCons (tE g T cf c) (tA g T cf cs) st H Q := by
  obtain ⟨F, dl, r, D, pvs, D', p, e, w⟩ := h
  unfold evEs at e
  split at e
  · cases e
  · rename_i x f1 D1 e1
    split at e
    · cases e
    · rename_i xs D2 e2
      cases e
      exact tE.bind p e1 fun v H1 F1 dl1 ev1 p1 r1 => ⟨F1, dl1, r, D1, xs, _, p1, e2, fun vs H2 F2 dl2 ev2 p2 r2 => w _ _ _ _ (ev1.trans ev2) p2 (.cons (r1.mono ev2.fm ev2.dp) r2)⟩
theorem lx_tup {cs : List CE} {Q : VK} (h : tE g T cf (.tupE cs) st H Q) : tTup (tA g T cf cs) st H Q := by
  obtain ⟨F, dl, r, D, pv, fr, D', p, e, w⟩ := h
  unfold evE at e
  split at e
  · cases e
  · rename_i xs D1 e1
    split at e
    · rename_i hz
      cases e
      refine ⟨F, dl, r, D, xs, _, p, e1, fun vs H1 F1 dl1 ev p1 rs => ⟨by rw [← rs.length, ← sizeL_eq]; exact hz, fun q n => ?_⟩⟩
      exact (w.back p ev p1).tup p1.h rs n
    · cases e
/-- a tuple with starred parts -/
def tSs' (g : Gx) (T : Tab) (cf : CallFn) (fs : List Bool) (cs : List CE) : TA := fun st H Q => ∃ F dl r D pvs D', Rp g F dl r D st H ∧ evSs T cf cs fs r D = some (pvs, D') ∧
  ∀ vs H' F' dl', Ev F dl H F' dl' H' → Rp g F' dl' r D' st H' → RVs g F' dl' pvs vs → Q vs H'
theorem lx_tupS {fs : List Bool} {cs : List CE} {Q : VK} (h : tE g T cf (.tupS fs cs) st H Q) : tTup (tSs' g T cf fs cs) st H Q := by
  obtain ⟨F, dl, r, D, pv, fr, D', p, e, w⟩ := h
  unfold evE at e
  split at e
  · cases e
  · rename_i xs D1 e1
    split at e
    · rename_i hz
      cases e
      refine ⟨F, dl, r, D, xs, _, p, e1, fun vs H1 F1 dl1 ev p1 rs => ⟨by rw [← rs.length, ← sizeL_eq]; exact hz, fun q n => ?_⟩⟩
      exact (w.back p ev p1).tup p1.h rs n
    · cases e
theorem ls_nil {fs : List Bool} {Q : List V → Hp → Prop} (h : tSs' g T cf fs [] st H Q) : tNil st H Q := by
  obtain ⟨F, dl, r, D, pvs, D', p, e, w⟩ := h
  unfold evSs at e
  cases e
  exact w [] H F dl (Ev.refl _ _ _) p .nil
theorem ls_cons {fs : List Bool} {c : CE} {cs : List CE} {Q : List V → Hp → Prop} (hf : starB fs = false) (h : tSs' g T cf fs (c :: cs) st H Q) : tCons (tE g T cf c) (tSs' g T cf fs.tail cs) st H Q := by
  obtain ⟨F, dl, r, D, pvs, D', p, e, w⟩ := h
  unfold evSs at e
  split at e
  · cases e
  · rename_i x f1 D1 e1
    rw [hf] at e
    simp only [Bool.false_eq_true, if_false] at e
    split at e
    · cases e
    · rename_i xs D2 e2
      cases e
      refine tE.bind p e1 fun v H1 F1 dl1 ev p1 rv => ⟨F1, dl1, r, D1, xs, _, p1, e2, fun vs H2 F2 dl2 ev2 p2 rs => ?_⟩
      exact w (v :: vs) H2 F2 dl2 (ev.trans ev2) p2 (.cons (rv.mono ev2.fm ev2.dp) rs)
theorem ls_star {fs : List Bool} {c : CE} {cs : List CE} {Q : List V → Hp → Prop} (hf : starB fs = true) (h : tSs' g T cf fs (c :: cs) st H Q) : StX.tStar g.K (tE g T cf c) (tSs' g T cf fs.tail cs) st H Q := by
  obtain ⟨F, dl, r, D, pvs, D', p, e, w⟩ := h
  unfold evSs at e
  split at e
  · cases e
  · rename_i x f1 D1 e1
    rw [hf] at e
    simp only [if_true] at e
    split at e
    · cases e
    · rename_i ys e0
      split at e
      · cases e
      · rename_i xs D2 e2
        cases e
        refine tE.bind p e1 fun v H1 F1 dl1 ev p1 rv => ?_
        have hv : ∃ a us, v = V.ref a ∧ (SqT g.K H1 a us ∨ SqL g.K H1 a us) ∧ RVs g F1 dl1 ys us := by
          unfold seqOf at e0
          split at e0
          · rename_i zs e3
            cases e0
            obtain ⟨a, us, h1, h2, h3⟩ := view_tup p1.h rv e3
            exact ⟨a, us, h1, .inl (SqT.of h2), h3⟩
          · rename_i zs e3
            cases e0
            obtain ⟨a, us, h1, h2, h3⟩ := view_lst p1.h rv e3
            exact ⟨a, us, h1, .inr h2.sqL, h3⟩
          · cases e0
        obtain ⟨a, us, rfl, h2, h3⟩ := hv
        refine ⟨a, us, rfl, h2, F1, dl1, r, D1, xs, _, p1, e2, fun vs H2 F2 dl2 ev2 p2 rs => ?_⟩
        exact w (us ++ vs) H2 F2 dl2 (ev.trans ev2) p2 ((h3.mono ev2.fm ev2.dp).append rs)
theorem lx_lst {cs : List CE} {Q : VK} (h : tE g T cf (.lstE cs) st H Q) : tLst (tA g T cf cs) st H Q := by
  obtain ⟨F, dl, r, D, pv, fr, D', p, e, w⟩ := h
  unfold evE at e
  split at e
  · cases e
  · rename_i xs D1 e1
    split at e
    · rename_i hz
      cases e
      refine ⟨F, dl, r, D, xs, _, p, e1, fun vs H1 F1 dl1 ev p1 rs => ⟨by rw [← rs.length, ← sizeL_eq]; exact hz, fun q n => ?_⟩⟩
      exact (w.back p ev p1).lst p1.h rs n
    · cases e
theorem lx_blt {b : Blt} {cs : List CE} {Q : VK} (h : tE g T cf (.blt b cs) st H Q) : tCB (rCall g (bltV b)) (tA g T cf cs) st H Q := by
  obtain ⟨F, dl, r, D, pv, fr, D', p, e, w⟩ := h
  unfold evE at e
  split at e
  · cases e
  · rename_i xs D1 e1
    obtain ⟨z, e3, e4⟩ := Option.map_eq_some_iff.mp e
    obtain ⟨z1, z2⟩ := z
    cases e4
    exact ⟨F, dl, r, D, xs, _, p, e1, fun vs H1 F1 dl1 ev p1 rs => ⟨F1, dl1, _, xs, _, _, p1.h, rs, e3, w.back p ev p1⟩⟩
theorem lx_not {a : CE} {Q : VK} {X : Cx} (hK : X.K = g.K) (h : tE g T cf (.notE a) st H Q) : tE g T cf a st H fun x H1 => ∃ k, TruV X.K x H1 k ∧ Q (.bl (!k)) H1 := by
  obtain ⟨F, dl, r, D, pv, fr, D', p, e, w⟩ := h
  unfold evE at e
  split at e
  · rename_i x f1 D1 e1
    obtain ⟨z, e3, e4⟩ := Option.map_eq_some_iff.mp e
    cases e4
    exact tE.bind p e1 fun v H1 F1 dl1 ev p1 rv => ⟨z, tru_rel hK p1.h rv e3, w _ _ _ _ ev p1 (.bl _)⟩
  · cases e
theorem lx_and {a b : CE} {Q : VK} {X : Cx} (hK : X.K = g.K) (h : tE g T cf (.andE a b) st H Q) : tE g T cf a st H fun x H1 => ∃ k, TruV X.K x H1 k ∧ if k = true then tE g T cf b st H1 Q else Q x H1 := by
  obtain ⟨F, dl, r, D, pv, fr, D', p, e, w⟩ := h
  unfold evE at e
  split at e
  · cases e
  · rename_i x f1 D1 e1
    split at e
    · cases e
    · rename_i t1
      exact tE.bind p e1 fun v H1 F1 dl1 ev p1 rv => ⟨true, tru_rel hK p1.h rv t1, ⟨F1, dl1, r, D1, pv, fr, D', p1, e, fun v H2 F2 dl2 ev2 p2 rr => w _ _ _ _ (ev.trans ev2) p2 (rr.pre p.h ev p1.h)⟩⟩
    · rename_i t1
      cases e
      exact tE.bind p e1 fun v H1 F1 dl1 ev p1 rv => ⟨false, tru_rel hK p1.h rv t1, w _ _ _ _ ev p1 rv⟩
theorem lx_or {a b : CE} {Q : VK} {X : Cx} (hK : X.K = g.K) (h : tE g T cf (.orE a b) st H Q) : tE g T cf a st H fun x H1 => ∃ k, TruV X.K x H1 k ∧ if k = true then Q x H1 else tE g T cf b st H1 Q := by
  obtain ⟨F, dl, r, D, pv, fr, D', p, e, w⟩ := h
  unfold evE at e
  split at e
  · cases e
  · rename_i x f1 D1 e1
    split at e
    · cases e
    · rename_i t1
      cases e
      exact tE.bind p e1 fun v H1 F1 dl1 ev p1 rv => ⟨true, tru_rel hK p1.h rv t1, w _ _ _ _ ev p1 rv⟩
    · rename_i t1
      exact tE.bind p e1 fun v H1 F1 dl1 ev p1 rv => ⟨false, tru_rel hK p1.h rv t1, ⟨F1, dl1, r, D1, pv, fr, D', p1, e, fun v H2 F2 dl2 ev2 p2 rr => w _ _ _ _ (ev.trans ev2) p2 (rr.pre p.h ev p1.h)⟩⟩
theorem lx_isN {a : CE} {b : Bool} {Q : VK} (h : tE g T cf (.isN a b) st H Q) : tE g T cf a st H fun x H1 => Q (.bl (decide (x = .non) == b)) H1 := by
  obtain ⟨F, dl, r, D, pv, fr, D', p, e, w⟩ := h
  unfold evE at e
  split at e
  · cases e
  · rename_i x f1 D1 e1
    cases e
    exact tE.bind p e1 fun v H1 F1 dl1 ev p1 rv => by
      have q : decide (v = V.non) = isNon x := by cases rv <;> rfl
      rw [q]
      exact w _ _ _ _ ev p1 (.bl _)
theorem lx_chain {o1 o2 : COp} {a b c : CE} {Q : VK} (h : tE g T cf (.chain o1 o2 a b c) st H Q) : tChain (rOp g (cmpR o1)) (rOp g (cmpR o2)) (tE g T cf a) (tE g T cf b) (tE g T cf c) st H Q := by
  obtain ⟨F, dl, r, D, pv, fr, D', p, e, w⟩ := h
  unfold evE at e
  split at e
  · cases e
  · rename_i x f1 D1 e1
    split at e
    · cases e
    · rename_i y f2 D2 e2
      split at e
      · cases e
      · rename_i t1
        cases e
        refine lx_two (c := a) p e1 e2 fun v u H2 F2 dl2 ev p2 r1 r2 => ⟨F2, dl2, _, x, y, .bl false, false, p2.h, r1, r2, by rw [cmpR, t1]; rfl, fun z H3 F3 ev3 h3 rr => ?_⟩
        cases (show RV g F3 dl2 (.bl false) z from rr)
        exact ⟨false, rfl, w _ _ _ _ (ev.trans ev3) (p2.to h3 ev3) (.bl _)⟩
      · rename_i t1
        split at e
        · cases e
        · rename_i zc f3 D3 e3
          obtain ⟨q, e5, e4⟩ := Option.map_eq_some_iff.mp e
          cases e4
          refine lx_two (c := a) p e1 e2 fun v u H2 F2 dl2 ev p2 r1 r2 => ⟨F2, dl2, _, x, y, .bl true, false, p2.h, r1, r2, by rw [cmpR, t1]; rfl, fun z H3 F3 ev3 h3 rr => ?_⟩
          cases (show RV g F3 dl2 (.bl true) z from rr)
          refine ⟨true, rfl, ?_⟩
          have p3 := p2.to h3 ev3
          have ev13 := ev.trans ev3
          exact tE.bind p3 e3 fun v3 H4 F4 dl4 ev4 p4 r4 => ⟨F4, dl4, _, y, zc, _, _, p4.h, (r2.mono ev3.fm ev3.dp).mono ev4.fm ev4.dp, r4, by rw [cmpR, e5]; rfl, w.back p (ev13.trans ev4) p4⟩
end
end HT
namespace HT
open L2 PyProof.Rows PySem PySem.Spec

/-- a def's promise: no exception leaves it -/
abbrev Sg := List V → Hp → VK → Prop
def CRg (outer : List Env) (P : Program) (w : World) (H : Hp) (s : Shared) (Q : VK) : Result → Shared → Prop := fun r s' => ∃ u, r = .ok (.ret u) ∧ L2.CE outer P w H s Q u s'
/-- a def, called where nothing is being shown -/
structure FnG (P : Program) (w : World) (K : PySem.W.Frag) (mg : Str → Option Value) (base : Heap) (k : Nat) (f : Addr) (fd : FuncData) (ps : List Str) (sp : Sg) : Prop where
  len : ∀ vs H Q, sp vs H Q → vs.length = ps.length
  run : ∀ (A : Around) (outer : List Env) (s : Shared) (H : Hp) (args : Args) (us : List Value) (vs : List V) (Q : VK), Room k A → A.guards = some [] → Env0 P w K mg base A outer s H → BindsTo s fd args (ps.zip us) → Vals vs us → sp vs H Q →
    codeAny (model P w) A (.call (.ref f) args) (CRg outer P w H s Q) s
/-- nothing is let out -/
def outNo : CXT := fun _ _ _ _ _ _ => False
abbrev wishNo : XK := fun _ _ _ => False
/-- a def's body in its context, no exception wished for -/
abbrev bodyX (P : Program) (w : World) (K : PySem.W.Frag) (mg : Str → Option Value) (base : Heap) (N : List Str) (qual : Str) (scope : Scope) (f : Addr) (cd : Value) (A : Around) (outer : List Env) (s : Shared) (H : Hp) : Cx :=
  (cxOf outNo P w K mg base N qual scope f cd A outer s H wishNo).nox
theorem fng_of {P : Program} {w : World} {K : PySem.W.Frag} {mg : Str → Option Value} {base : Heap} {k : Nat} {f : Addr} {name qual : Str} {params : Arguments} {body : List Stmt} {scope : Scope} {dV kV doc pm cdv ct oc : Value} {an od : Option Addr}
    {osl : Array (Option Value)} {N ps : List Str} {sp : Sg} (lk : K.lookup f = some ⟨oc, od, .func (PySem.W.fnOf name qual params body scope dV kV doc pm an cdv ct), osl⟩) (hcd : PySem.W.codeIn K cdv qual = true) (S_ : FnScope N ps scope)
    (len : ∀ vs H Q, sp vs H Q → vs.length = ps.length)
    (hbody : ∀ (A : Around) (outer : List Env) (s : Shared) (H : Hp) (vs : List V) (Q : VK), Room k (A.deeper (envOfC qual scope s.heap.objs.size f cdv)) → A.guards = some [] → sp vs H Q →
      ∃ t, PSs (bodyX P w K mg base N qual scope f cdv A outer s H) body t ∧ t { nx := fun _ H' => Q .non H', rt := Q } (L2.start N vs) H) :
    FnG P w K mg base (k + 1) f (PySem.W.fnOf name qual params body scope dV kV doc pm an cdv ct) ps sp := by
  refine ⟨len, fun A outer S H args us vs Q room gu en bind rel wish => ?_⟩
  have kept : ∀ b o, base.get? b = some o → S.heap.get? b = some o := fun b o e => (en.bs b o e).1
  have kin : K.In S.heap := en.mod.kin.keeps kept
  have free := en.mod.nolimit.keeps kept
  refine codeAny_call_function room.depth (kin _ _ lk) rfl S_.co S_.gen rfl (PySem.W.codeRec_of kin hcd) (bind _ _ _ _ ?_)
  refine wpAny_newFunctionEnv_cells S_.kind (fun y hy => ?_) fun env he S1 inside => ?_
  · obtain ⟨name, val⟩ := y
    refine (S_.par name (List.of_mem_zip hy).1).imp id fun cell => ⟨cell, ?_⟩
    exact PySem.W.cellsFrom_some _ _ _ (.inl cell)
  subst he
  refine ⟨free.keeps inside.toInCall.keep, ?_⟩
  refine codeAny_func ?_
  obtain ⟨t, walk, start_⟩ := hbody A outer S H vs Q (room.deeper _) gu wish
  have I : Inv (cxOf outNo P w K mg base N qual scope f cdv A outer S H wishNo) [] (L2.start N vs) H S1 := inv_start S_ room.hd en (len _ _ _ wish) rel inside
  refine wpAny_mono (walk.run [] S1 (L2.start N vs) H _ (I.wish _) start_) (fun fl S2 ends => ?_) fun e S2 none_ => False.elim none_
  cases fl with
  | ret u =>
    obtain ⟨val, st2, H2, J, rv, good⟩ := ends
    exact ⟨u, rfl, val, H2, J.os, J.bare, J.base, J.hok, rv, good⟩
  | next =>
    obtain ⟨st2, H2, J, good⟩ := ends
    exact ⟨Value.none, rfl, V.non, H2, J.os, J.bare, J.base, J.hok, rfl, good⟩
  | brk => exact (show False from ends.elim fun _ z => z.elim fun _ y => y.2).elim
  | cont => exact (show False from ends.elim fun _ z => z.elim fun _ y => y.2).elim

section
variable {X : Cx} {k : Nat} {f C : Addr} {fd : FuncData} {ps : List Str} {sp : Sg} {x m : Str} {p pos apos : Pos} {e o : Expr} {es : List Expr} {ta : TE} {t : TA}
theorem after_g {Q : VK} {pins : List (Addr × Obj)} {σ : L2.St} {H : Hp} {s s' : Shared} {r : Result} (I : Inv X pins σ H s) (h : CRg X.stack X.prog X.w H s Q r s') : ∃ u, r = .ok (.ret u) ∧ EP X pins σ Q u s' := by
  obtain ⟨u, e, h⟩ := h
  exact ⟨u, e, I.after h⟩
theorem run_g {pins : List (Addr × Obj)} {σ : L2.St} {H : Hp} {s : Shared} {Q : VK} {us : List Value} {vs : List V} (F : FnG X.prog X.w X.K X.mg X.base k f fd ps sp) (hr : Room k X.A) (hg : X.A.guards = some []) (hb : Binds X.K fd ps [])
    (I : Inv X pins σ H s) (r : Vals vs us) (h : sp vs H Q) : wpAny (model X.prog X.w) X.A (call (.ref f) us) (EP X pins σ Q) X.xe s := by
  have hl : us.length = ps.length := by rw [← r.length]; exact F.len _ _ _ h
  have hbb := hb s us I.kIn (by rw [List.append_nil]; exact hl)
  rw [List.append_nil] at hbb
  refine wpAny_call (codeAny_mono (F.run X.A X.stack s H ⟨us, []⟩ us vs Q hr hg I.env0 hbb r h) fun r s' hq => ?_)
  obtain ⟨u, rfl, q⟩ := after_g I hq
  exact q
def tCallG (sp : Sg) (t : TA) : TE := fun σ H Q => t σ H fun vs H1 => sp vs H1 Q
theorem pe_callG (F : FnG X.prog X.w X.K X.mg X.base k f fd ps sp) (hr : Room k X.A) (hgu : X.A.guards = some []) (hg : Gl X x) (hm : X.mg x = some (.ref f)) (hk : PySem.W.keepIn X.K (.ref f) = true) (hb : Binds X.K fd ps [])
    (ha : PA X (e :: es) t) (hdb : (x == ("__debug__" : Str)) = false) (he : starEach (e :: es) X.env = (false, eval e X.env) :: starEach es X.env) (hpl : (backTo pos (starEach es X.env)).any (·.1) = false) :
    PE X (.Call (.Name x p) (e :: es) [] pos) (tCallG sp t) := by
  refine ⟨fun pins S st H Q I wish => wpAny_Call_Name_kw (ld_glob I hg hm ?_ hdb)⟩
  refine PySem.W.callWith_K (h₀ := X.base) I.ok.mod.kin hk (thn (ha.run pos pins S st H _ I wish) fun us S1 z => ?_) he hpl
  obtain ⟨vs, H1, J, rel, good⟩ := z
  exact ⟨J.kIn, run_g F hr hgu hb J rel good⟩
theorem pe_callG0 (F : FnG X.prog X.w X.K X.mg X.base k f fd ps sp) (hr : Room k X.A) (hgu : X.A.guards = some []) (hg : Gl X x) (hm : X.mg x = some (.ref f)) (hk : PySem.W.keepIn X.K (.ref f) = true) (hb : Binds X.K fd ps [])
    (hdb : (x == ("__debug__" : Str)) = false) : PE X (.Call (.Name x p) [] [] pos) (tCallG sp tNil) := by
  refine ⟨fun pins S st H Q I wish => wpAny_Call_Name_kw (ld_glob I hg hm ?_ hdb)⟩
  exact PySem.W.callWith_K0 I.kIn hk (run_g (us := []) F hr hgu hb I .nil wish)
end
end HT
/-! what is seen of the text -/
namespace HT
open L2 PyProof.Rows PySem PySem.Spec

def notStar : Expr → Bool
  | .Starred _ _ => false
  | _ => true
theorem star_cons {e : Expr} {es : List Expr} {env : Env} (h : notStar e = true) : starEach (e :: es) env = (false, eval e env) :: starEach es env := by
  cases e <;> first | rfl | simp [notStar] at h
theorem star_none {env : Env} {pos : Pos} : ∀ {es : List Expr}, es.all notStar = true → (backTo pos (starEach es env)).any (·.1) = false
  | [], _ => rfl
  | e :: es, h => by
    simp only [Bool.and_eq_true, List.all_cons] at h
    rw [star_cons h.1]
    have ih := star_none (env := env) (pos := pos) h.2
    show (false || (backTo pos (starEach es env)).any (·.1)) = false
    rw [ih]
    rfl
theorem star_all {env : Env} {pos : Pos} : ∀ {es : List Expr}, es.all notStar = true → (backTo pos (starEach es env)).all (fun x => !x.1) = true
  | [], _ => rfl
  | e :: es, h => by
    simp only [Bool.and_eq_true, List.all_cons] at h
    rw [star_cons h.1]
    have ih := star_all (env := env) (pos := pos) h.2
    show (!false && (backTo pos (starEach es env)).all (fun x => !x.1)) = true
    rw [ih]
    rfl
/-- the receiver is no call without arguments -/
def plainBase : Expr → Bool
  | .Call (.Name _ _) [] [] _ => false
  | _ => true
theorem base_ok {o : Expr} {m : Str} {env : Env} {whole : Sem Value} (h : plainBase o = true) : attributeBase o m env whole = whole := by
  unfold attributeBase
  split
  · rename_i id pos x1 x2
    simp [plainBase] at h
  · rfl
def fewOk (args : List Expr) : Bool := args.all notStar && decide (args.length < 30)
theorem form_ok {args : List Expr} {env : Env} {pos : Pos} (h : fewOk args = true) : methodCallForm (args.length + ([] : List Keyword).length) (backTo pos (starEach args env)) (backToKw pos (keywordEach [] env)) = true := by
  unfold fewOk at h
  simp only [decide_eq_true_eq, Bool.and_eq_true] at h
  show ((backTo pos (starEach args env)).all (fun x => !x.1) && true && decide (args.length + 0 + 0 < 30)) = true
  rw [star_all h.1]
  simp [h.2]
theorem eval_meth {o : Expr} {m : Str} {apos pos : Pos} {args : List Expr} {env : Env} (hb : plainBase o = true) (hf : fewOk args = true) (hl : (apos.endLine == pos.line) = true) :
    eval (.Call (.Attribute o m apos) args [] pos) env = (do
      let ov ← eval o env
      standAt apos.atName
      let (f, first) ← holding [ov] (getMethod ov m (do return (← importBound o env).getD true))
      callWith pos f first (backTo pos (starEach args env)) (backToKw pos (keywordEach [] env))) := by
  have e1 : eval (.Call (.Attribute o m apos) args [] pos) env = (do
      let ov ← attributeBase o m env (eval o env)
      standAt apos.atName
      methodCall o m apos pos env ov (args.length + ([] : List Keyword).length) (backTo pos (starEach args env)) (backToKw pos (keywordEach [] env))) := by rw [eval]
  rw [e1, base_ok hb]
  refine congrArg (fun k => eval o env >>= k) (funext fun ov => congrArg (fun k => standAt apos.atName >>= fun _ => k) ?_)
  unfold methodCall methodCallPos calleeOf
  rw [form_ok hf]
  simp only [Bool.not_true, Bool.false_or, hl, if_true]
  rfl
theorem few_ok {e : Expr} {es : List Expr} {env : Env} {pos : Pos} (h : fewOk (e :: es) = true) : ((backTo pos (starEach (e :: es) env)).all (fun x => !x.1) && (backToKw pos (keywordEach [] env)).all (fun x => x.1.isSome)
      && decide ((e :: es).length + ([] : List Keyword).length + (if ([] : List Keyword).isEmpty then 0 else 1) < 30)) = true := by
  unfold fewOk at h
  simp only [decide_eq_true_eq, Bool.and_eq_true] at h
  rw [star_all h.1]
  show (true && true && decide ((e :: es).length + 0 + 0 < 30)) = true
  simp only [Bool.true_and, decide_eq_true_eq]
  exact h.2
def notSlice : Expr → Bool
  | .Slice _ _ _ _ => false
  | _ => true
theorem plain_ix {b : Expr} (h : notSlice b = true) : PlainIx b := by
  intro o i
  cases b <;> first | rfl | simp [notSlice] at h
/-- not a test of its own form -/
def byValue : Expr → Bool
  | .UnaryOp .Not _ _ => false
  | .BoolOp _ _ _ => false
  | .IfExp _ _ _ _ => false
  | .Compare _ _ _ _ => false
  | _ => true
theorem by_value {e : Expr} {env : Env} (h : byValue e = true) (whole : Sem Value) : isTrue e env whole = (do let v ← whole; standAt e.pos; holding [v] (truthy v)) := by
  cases e with
  | UnaryOp op a p => cases op <;> first | rfl | simp [byValue] at h
  | BoolOp _ _ _ => simp [byValue] at h
  | IfExp _ _ _ _ => simp [byValue] at h
  | Compare _ _ _ _ => simp [byValue] at h
  | _ => rfl
def notSet : Expr → Bool
  | .Set _ _ _ => false
  | _ => true
theorem no_marks {op : CmpOp} {b : Expr} (h : notSet b = true) : behindInMarks op b = false := by
  cases b <;> first | rfl | simp [notSet] at h
theorem no_fold {e : Expr} {env : Env} (h : notSet e = true) (x : Value) : foldedSetIterable e env x = pure x := by
  cases e <;> first | rfl | simp [notSet] at h
def notComp : Expr → Bool
  | .ListComp _ _ _ _ => false
  | .SetComp _ _ _ _ => false
  | .DictComp _ _ _ _ _ => false
  | _ => true
theorem no_swap {e : Expr} {t : Option Expr} {l : Nat} {env : Env} (h : notComp e = true) : swapsWith e t l env = pure false := by
  cases e <;> first | rfl | simp [notComp] at h
end HT
namespace HT
open L2 PyProof.Rows PySem PySem.Spec
theorem lookup_zip : ∀ {ps : List Str} {us : List Value} {x : Str}, us.length = ps.length → x ∈ ps → ∃ u, (ps.zip us).lookup x = some u
  | [], _, x, _, h => by simp at h
  | p :: ps, [], x, h, _ => by simp at h
  | p :: ps, u :: us, x, hl, h => by
    simp only [List.zip_cons_cons, List.lookup_cons]
    cases hx : x == p with
    | true => exact ⟨u, rfl⟩
    | false =>
      obtain e | h := List.mem_cons.mp h
      · subst e; simp at hx
      · exact lookup_zip (by simpa using hl) h
theorem fm_congr {α β : Type} {f h : α → Option β} : ∀ {l : List α}, (∀ x ∈ l, f x = h x) → l.filterMap f = l.filterMap h
  | [], _ => rfl
  | x :: l, q => by
    rw [List.filterMap_cons, List.filterMap_cons, q x (by simp), fm_congr fun y hy => q y (by simp [hy])]
theorem zip_back : ∀ (ps : List Str) (us : List Value), ps.Nodup → us.length = ps.length → ps.filterMap (fun n => Option.map (fun x => (n, x)) (List.lookup n (ps.zip us))) = ps.zip us
  | [], _, _, _ => rfl
  | p :: ps, [], _, h => by simp at h
  | p :: ps, u :: us, nd, hl => by
    have ⟨n1, n2⟩ := List.nodup_cons.mp nd
    have ih := zip_back ps us n2 (by simpa using hl)
    have e : ps.filterMap (fun n => Option.map (fun x => (n, x)) (List.lookup n ((p, u) :: ps.zip us))) = ps.filterMap (fun n => Option.map (fun x => (n, x)) (List.lookup n (ps.zip us))) := by
      refine fm_congr fun n hn => ?_
      have q : (n == p) = false := beq_eq_false_iff_ne.mpr fun z => n1 (z ▸ hn)
      simp only [List.lookup_cons, q]
    simp only [List.zip_cons_cons, List.filterMap_cons, List.lookup_cons, beq_self_eq_true, Option.map_some]
    exact congrArg _ (e.trans ih)
/-- a def without defaults, its parameters plain -/
structure Plain (fd : FuncData) (ps : List Str) : Prop where
  po : fd.params.posonlyargs = []
  ar : fd.params.args.map (·.arg) = ps
  kw : fd.params.kwonlyargs = []
  va : fd.params.vararg = none
  ka : fd.params.kwarg = none
  df : fd.defaults = .none
  nd : ps.Nodup
theorem bind_plain {fd : FuncData} {ps : List Str} {us : List Value} (p : Plain fd ps) (hl : us.length = ps.length) : bindArgs fd ⟨us, []⟩ = pure (ps.zip us) := by
  have hs : seqItems? .none = (pure none : Sem (Option (Array Value))) := rfl
  have hm : (ps.filter fun n => (List.lookup n (ps.zip us)).isNone) = [] := by
    rw [List.filter_eq_nil_iff]
    intro x hx
    obtain ⟨u, e⟩ := lookup_zip hl hx
    rw [e]
    simp
  have hg : decide (us.length > ps.length) = false := by rw [hl]; simp
  unfold bindArgs
  simp only [p.po, p.ar, p.kw, p.va, p.ka, p.df, hs, hg, List.map_nil, List.nil_append, List.append_nil, List.forIn_nil, pure_bind, Bool.false_and, Bool.false_eq_true, if_false, Option.getD_none, List.length_nil, Nat.zero_sub, List.drop_nil, List.take_length, Nat.sub_zero, hm, List.isEmpty_nil, Bool.not_true, List.zip_nil_right, zip_back ps us p.nd hl]
theorem binds_plain {K : PySem.W.Frag} {fd : FuncData} {ps : List Str} (p : Plain fd ps) : Binds K fd ps [] := .all fun _ hl => bind_plain p hl
end HT
namespace HT
open L2 PyProof.Rows PySem PySem.Spec
section
variable {X : Cx} {k : Nat} {f C : Addr} {fd : FuncData} {ps : List Str} {sp : Sg} {x m : Str} {p pos apos : Pos} {e o : Expr} {es : List Expr} {ta : TE} {t : TA}
/-- C(..) -/
def tMakeG (C : Addr) (sp : Sg) (t : TA) : TE := fun σ H Q => t σ H fun vs H1 => ∀ x dx, H1 x = none → H1 dx = none → dx ≠ x →
  sp (.ref x :: vs) (upd (upd H1 dx (.own x)) x (.ins C dx [])) fun v H2 => v = .non ∧ Q (.ref x) H2
theorem make_guards {A : Around} {C : Addr} {us : List Value} {kw : List (Str × Value)} (h : A.guards = some []) : (A.under (.builtin "type.__call__" ⟨.ref C :: us, kw⟩)).guards = some [] := by
  first | exact h | (simp [Around.under, Code.guards, Code.isGuard, pushGuards, guardIds, h])
theorem run_makeG {pins : List (Addr × Obj)} {st : L2.St} {H : Hp} {S : Shared} {Q : VK} {us : List Value} {vs : List V} (M : Mk X.K C f) (F : FnG X.prog X.w X.K X.mg X.base k f fd ps sp) (hr : Room (k + 1) X.A) (hgu : X.A.guards = some []) (hb : Binds X.K fd ps [])
    (I : Inv X pins st H S) (rel : Vals vs us) (wish : ∀ x dx, H x = none → H dx = none → dx ≠ x → sp (.ref x :: vs) (upd (upd H dx (.own x)) x (.ins C dx [])) fun v H2 => v = .non ∧ Q (.ref x) H2) :
    wpAny (model X.prog X.w) X.A (call (.ref C) us) (EP X pins st Q) X.xe S := by
  have n0 : H S.heap.objs.size = none := I.hok.fresh (Nat.le_refl _)
  have n1 : H (S.heap.objs.size + 1) = none := I.hok.fresh (Nat.le_succ _)
  have asked := wish _ _ n1 n0 (Nat.ne_of_lt (Nat.lt_succ_self _))
  have J := Inv.made (C := C) I
  have all : Vals (V.ref (S.heap.objs.size + 1) :: vs) (.ref (S.heap.objs.size + 1) :: us) := .cons rfl rel
  have len : (Value.ref (S.heap.objs.size + 1) :: us).length = ps.length := all.length.symm.trans (F.len _ _ _ asked)
  have bd := hb _ (Value.ref (S.heap.objs.size + 1) :: us) J.kIn (by rw [List.append_nil]; exact len)
  rw [List.append_nil] at bd
  have ran := F.run _ X.stack _ _ ⟨Value.ref (S.heap.objs.size + 1) :: us, []⟩ _ _ _ (hr.make C us []) (make_guards hgu) (J.env0.make C us []) bd all asked
  refine wpAny_call (make_map (f := f) I.kIn M.makes M.init (beq_iff_eq.mp M.fn) (codeAny_mono ran fun res S2 z => ?_))
  obtain ⟨u, rfl, v, H2, J2, rv, ev, good⟩ := after_g J z
  subst ev
  exact ⟨rv, V.ref (S.heap.objs.size + 1), H2, J2, rfl, good⟩
theorem pe_makeG (M : Mk X.K C f) (F : FnG X.prog X.w X.K X.mg X.base k f fd ps sp) (hr : Room (k + 1) X.A) (hgu : X.A.guards = some []) (hg : Gl X x) (hm : X.mg x = some (.ref C)) (hb : Binds X.K fd ps [])
    (ha : PA X (e :: es) t) (hdb : (x == ("__debug__" : Str)) = false) (hns : (e :: es).all notStar = true) : PE X (.Call (.Name x p) (e :: es) [] pos) (tMakeG C sp t) := by
  rw [List.all_cons, Bool.and_eq_true] at hns
  refine ⟨fun pins S st H Q I wish => wpAny_Call_Name_kw (ld_glob I hg hm ?_ hdb)⟩
  refine PySem.W.callWith_K (h₀ := X.base) I.ok.mod.kin M.kp (thn (ha.run pos pins S st H _ I wish) fun us S1 z => ?_) (star_cons hns.1) (star_none hns.2)
  obtain ⟨vs, H1, J, rel, good⟩ := z
  exact ⟨J.kIn, run_makeG M F hr hgu hb J rel good⟩
/-- how a call with keywords or without some arguments binds -/
structure KBg (K : PySem.W.Frag) (fd : FuncData) (ps : List Str) (n : Nat) (ks : List Str) (perm : List Nat) : Prop where
  to : ∀ (s : Shared) (us ws : List Value), K.In s.heap → us.length = n → ws.length = ks.length → BindsTo s fd ⟨us, ks.zip ws⟩ (ps.zip (perm.filterMap fun i => (us ++ (ws ++ [Value.none]))[i]?))
theorem pick_rel {vs : List V} {us : List Value} (r : Vals vs us) : ∀ perm : List Nat, Vals (perm.filterMap fun i => vs[i]?) (perm.filterMap fun i => us[i]?)
  | [] => .nil
  | i :: is => by
    rw [List.filterMap_cons, List.filterMap_cons]
    cases e : vs[i]? with
    | none => rw [r.none_of e]; exact pick_rel r is
    | some v =>
      obtain ⟨u, e2, ru⟩ := r.get e
      rw [e2]
      exact .cons ru (pick_rel r is)
def tCallKG (n m : Nat) (perm : List Nat) (sp : Sg) (t tk : TA) : TE := fun σ H Q => t σ H fun vs H1 => tk σ H1 fun zs H2 => vs.length = n ∧ zs.length = m ∧ sp (perm.filterMap fun i => (vs ++ (zs ++ [.non]))[i]?) H2 Q
variable {ks : List Str} {n : Nat} {perm : List Nat} {kws : List Keyword} {tk : TA}
theorem run_kg {pins : List (Addr × Obj)} {σ : L2.St} {H : Hp} {s : Shared} {Q : VK} {us ws : List Value} {vs zs : List V} (F : FnG X.prog X.w X.K X.mg X.base k f fd ps sp) (hr : Room k X.A) (hgu : X.A.guards = some []) (hb : KBg X.K fd ps n ks perm)
    (I : Inv X pins σ H s) (r : Vals vs us) (rz : Vals zs ws) (l1 : vs.length = n) (l2 : zs.length = ks.length) (h : sp (perm.filterMap fun i => (vs ++ (zs ++ [.non]))[i]?) H Q) : wpAny (model X.prog X.w) X.A (call (.ref f) us (ks.zip ws)) (EP X pins σ Q) X.xe s := by
  have r2 : Vals (vs ++ (zs ++ [V.non])) (us ++ (ws ++ [Value.none])) := r.append (rz.append (.cons rfl .nil))
  refine wpAny_call (codeAny_mono (F.run X.A X.stack s H ⟨us, ks.zip ws⟩ _ _ Q hr hgu I.env0 (hb.to s us ws I.kIn (r.length.symm.trans l1) (rz.length.symm.trans l2)) (pick_rel r2 perm) h) fun r s' hq => ?_)
  obtain ⟨u, rfl, q⟩ := after_g I hq
  exact q
def kwNames : List Keyword → Option (List Str)
  | [] => some []
  | ⟨some n, _, _⟩ :: r => (kwNames r).map (n :: ·)
  | ⟨none, _, _⟩ :: _ => none
theorem kw_all {env : Env} {pos : Pos} : ∀ {kws : List Keyword} {ks : List Str}, kwNames kws = some ks → (backToKw pos (keywordEach kws env)).all (·.1.isSome) = true ∧ (backToKw pos (keywordEach kws env)).filterMap (·.1) = ks ∧ (backToKw pos (keywordEach kws env)).any (·.1.isNone) = false
  | [], ks, h => by cases h; exact ⟨rfl, rfl, rfl⟩
  | ⟨none, _, _⟩ :: _, _, h => by cases h
  | ⟨some n, e, q⟩ :: r, ks, h => by
    obtain ⟨ks', e1, rfl⟩ := Option.map_eq_some_iff.mp (show (kwNames r).map (n :: ·) = some ks from h)
    obtain ⟨a, b, c⟩ := kw_all (env := env) (pos := pos) e1
    refine ⟨?_, ?_, ?_⟩
    · show (true && (backToKw pos (keywordEach r env)).all (·.1.isSome)) = true
      rw [a]; rfl
    · show n :: (backToKw pos (keywordEach r env)).filterMap (·.1) = n :: ks'
      rw [b]
    · show (false || (backToKw pos (keywordEach r env)).any (·.1.isNone)) = false
      rw [c]; rfl
theorem pe_callKG (F : FnG X.prog X.w X.K X.mg X.base k f fd ps sp) (hr : Room k X.A) (hgu : X.A.guards = some []) (hg : Gl X x) (hm : X.mg x = some (.ref f)) (hk : PySem.W.keepIn X.K (.ref f) = true) (hb : KBg X.K fd ps n ks perm)
    (ha : PA X (e :: es) t) (hkw : PK X kws tk) (hks : kwNames kws = some ks) (hdb : (x == ("__debug__" : Str)) = false) (hns : (e :: es).all notStar = true) :
    PE X (.Call (.Name x p) (e :: es) kws pos) (tCallKG n ks.length perm sp t tk) := by
  obtain ⟨k1, k2, k3⟩ := kw_all (env := X.env) (pos := pos) hks
  have hn0 := star_none (env := X.env) (pos := pos) hns
  rw [List.all_cons, Bool.and_eq_true] at hns
  refine ⟨fun pins S st H Q I wish => wpAny_Call_Name_kw (ld_glob I hg hm ?_ hdb)⟩
  refine PySem.W.callWith_KW (h₀ := X.base) I.ok.mod.kin hk k1 (thn (ha.run pos pins S st H _ I wish) fun us S1 z => ?_) (by rw [hn0, k3]; rfl) (star_cons hns.1)
  obtain ⟨vs, H1, J, rel, good⟩ := z
  refine thn (hkw.run pos pins S1 st H1 _ J good) fun ws S2 z2 => ?_
  obtain ⟨zs, H2, J2, relz, l1, l2, good2⟩ := z2
  rw [k2]
  exact ⟨J2.kIn, run_kg F hr hgu hb J2 rel relz l1 l2 good2⟩
theorem pe_callKG0 (F : FnG X.prog X.w X.K X.mg X.base k f fd ps sp) (hr : Room k X.A) (hgu : X.A.guards = some []) (hg : Gl X x) (hm : X.mg x = some (.ref f)) (hk : PySem.W.keepIn X.K (.ref f) = true) (hb : KBg X.K fd ps 0 ks perm)
    (hkw : PK X kws tk) (hks : kwNames kws = some ks) (hdb : (x == ("__debug__" : Str)) = false) :
    PE X (.Call (.Name x p) [] kws pos) (tCallKG 0 ks.length perm sp tNil tk) := by
  obtain ⟨k1, k2, k3⟩ := kw_all (env := X.env) (pos := pos) hks
  refine ⟨fun pins S st H Q I wish => wpAny_Call_Name_kw (ld_glob I hg hm ?_ hdb)⟩
  refine PySem.W.callWith_KW0 (h₀ := X.base) I.ok.mod.kin hk k1 ?_ (by show (false || _) = false; rw [k3]; rfl)
  refine thn (hkw.run pos pins S st H _ I wish) fun ws S2 z2 => ?_
  obtain ⟨zs, H2, J2, relz, l1, l2, good2⟩ := z2
  rw [k2]
  exact ⟨J2.kIn, run_kg (us := []) (vs := []) F hr hgu hb J2 .nil relz l1 l2 good2⟩
end
end HT
namespace HT
open L2 PyProof.Rows PySem PySem.Spec

/-- a def of the table -/
def spC (g : Gx) (cf : CallFn) (f : Nat) : Sg := fun vs H Q => ∃ F dl D ps pv fr D', Rh g F dl D H ∧ RVs g F dl ps vs ∧ cf f ps D = some (pv, fr, D') ∧
  ∀ v H' F' dl', Ev F dl H F' dl' H' → Rh g F' dl' D' H' → RR g F' dl' H H' pv fr v → Q v H'
section
variable {g : Gx} {T : Tab} {cf : CallFn} {F : Hp} {dl : List Addr} {r : Rho} {D : Hs} {st : L2.St} {H : Hp}
/-- the wish behind a call in a body -/
theorem Wish.call {F2 : Hp} {dl2 : List Addr} {D2 D3 : Hs} {H2 : Hp} {pv : PV} {fr : Bool} {Q : VK} (w : Wish g F dl r st H D3 pv fr Q) (p : Rp g F dl r D st H) (ev : Ev F dl H F2 dl2 H2) (p2 : Rp g F2 dl2 r D2 st H2) :
    ∀ v H' F' dl', Ev F2 dl2 H2 F' dl' H' → Rh g F' dl' D3 H' → RR g F' dl' H2 H' pv fr v → Q v H' :=
  fun v H' F' dl' e h rr => w v H' F' dl' (ev.trans e) (p2.to h e) (rr.pre p.h ev p2.h)
theorem lx_call {f : Nat} {cs : List CE} {Q : VK} (h : tE g T cf (.call f cs) st H Q) : tCallG (spC g cf f) (tA g T cf cs) st H Q := by
  obtain ⟨F, dl, r, D, pv, fr, D', p, e, w⟩ := h
  unfold evE at e
  split at e
  · cases e
  · rename_i xs D1 e1
    exact ⟨F, dl, r, D, xs, _, p, e1, fun vs H1 F1 dl1 ev p1 rs => ⟨F1, dl1, _, xs, _, _, _, p1.h, rs, e, w.call p ev p1⟩⟩
/-! keywords: the positional ones, then the keywords' -/
theorem evEs_app {as bs : List CE} {vs : List PV} {D2 : Hs} (e : evEs T cf (as ++ bs) r D = some (vs, D2)) : ∃ xs ys D1, evEs T cf as r D = some (xs, D1) ∧ evEs T cf bs r D1 = some (ys, D2) ∧ vs = xs ++ ys ∧ xs.length = as.length := by
  induction as generalizing D vs with
  | nil => exact ⟨[], vs, D, by unfold evEs; rfl, e, rfl, rfl⟩
  | cons a as ih =>
    rw [List.cons_append] at e
    unfold evEs at e
    split at e
    · cases e
    · rename_i x f1 D1 e1
      split at e
      · cases e
      · rename_i zs D3 e2
        cases e
        obtain ⟨xs, ys, D4, h1, h2, rfl, h4⟩ := ih e2
        exact ⟨x :: xs, ys, D4, by unfold evEs; rw [e1]; simp only []; rw [h1], h2, rfl, by simp [h4]⟩
theorem evEs_len {as : List CE} {vs : List PV} {D2 : Hs} (e : evEs T cf as r D = some (vs, D2)) : vs.length = as.length := by
  obtain ⟨xs, ys, D1, h1, h2, h3, h4⟩ := evEs_app (as := as) (bs := []) (by rw [List.append_nil]; exact e)
  unfold evEs at h2
  cases h2
  rw [h3, List.append_nil]
  exact h4
theorem pick_rv {xs : List PV} {vs : List V} (r : RVs g F dl xs vs) : ∀ perm : List Nat, RVs g F dl (perm.filterMap fun i => xs[i]?) (perm.filterMap fun i => vs[i]?)
  | [] => .nil
  | i :: is => by
    rw [List.filterMap_cons, List.filterMap_cons]
    cases e : xs[i]? with
    | none =>
      have : vs[i]? = none := by
        rw [List.getElem?_eq_none_iff] at e ⊢
        rw [← r.length]; exact e
      rw [this]
      exact pick_rv r is
    | some v =>
      obtain ⟨u, e2, ru⟩ := r.get e
      rw [e2]
      exact .cons ru (pick_rv r is)
theorem RVs.split : ∀ {xs ys : List PV} {vs : List V}, RVs g F dl (xs ++ ys) vs → ∃ as bs, vs = as ++ bs ∧ RVs g F dl xs as ∧ RVs g F dl ys bs
  | [], ys, vs, h => ⟨[], vs, rfl, .nil, h⟩
  | x :: xs, ys, _, .cons h t => by
    obtain ⟨as, bs, e, h1, h2⟩ := t.split
    exact ⟨_ :: as, bs, by rw [e]; rfl, .cons h h1, h2⟩
theorem lx_callK {f : Nat} {as bs : List CE} {perm : List Nat} {Q : VK} (h : tE g T cf (.callK f (as ++ (bs ++ [.cst .non])) perm) st H Q) : tCallKG as.length bs.length perm (spC g cf f) (tA g T cf as) (tA g T cf bs) st H Q := by
  obtain ⟨F, dl, r, D, pv, fr, D', p, e, w⟩ := h
  unfold evE at e
  split at e
  · cases e
  · rename_i xs D1 e1
    obtain ⟨x1, y1, D2, h1, h2, rfl, h4⟩ := evEs_app e1
    obtain ⟨x2, y2, D3, h5, h6, rfl, h8⟩ := evEs_app h2
    have e7 : y2 = [.non] ∧ D3 = D1 := by
      unfold evEs at h6
      simp only [evE] at h6
      unfold evEs at h6
      cases h6
      exact ⟨rfl, rfl⟩
    obtain ⟨rfl, rfl⟩ := e7
    refine ⟨F, dl, r, D, x1, D2, p, h1, fun vs H1 F1 dl1 ev p1 rs => ⟨F1, dl1, r, D2, x2, D3, p1, h5, fun zs H2 F2 dl2 ev2 p2 rz => ⟨by rw [← rs.length]; exact h4, by rw [← rz.length]; exact h8, ?_⟩⟩⟩
    exact ⟨F2, dl2, _, _, _, _, _, p2.h, pick_rv ((rs.mono ev2.fm ev2.dp).append (rz.append (.cons .non .nil))) perm, e, w.call p (ev.trans ev2) p2⟩
end
end HT
namespace HT
open L2 PyProof.Rows PySem PySem.Spec

/-- the names that a text may use: defs, classes, constants, built-ins, attributes; which defs have no defaults; the forms of calls otherwise -/
structure Cf where
  tf : Str → Option Nat
  tc : Str → Option Nat
  tk : Str → Option PV
  tb : Str → Bool
  fldN : Str → Option Nat
  pl : Nat → Bool
  kb : Nat → Nat → List Str → Option (List Nat)
/-- what the names of the module stand for -/
structure Wd where
  g : Gx
  mg : Str → Option Value
  T : Tab
  fa : Nat → Addr
  fd : Nat → FuncData
  pn : Nat → List Str
  c : Cf
def tyNames : List String := ["NoneType", "bool", "int", "str", "list", "tuple", "dict"]
structure CFx (W : Wd) (c : Nat) (C : ClsI) : Prop where
  cf : CF W.g c
  mk_ : Mk W.g.K (W.g.cls c) (W.fa C.init)
  mkB : W.c.pl C.init = true
  me : ∀ m f, lookN m C.meths = some f → Meth W.g.K (W.g.cls c) (W.g.fld m) (W.fa f) ∧ W.c.pl f = true
  pr : ∀ m f, lookN m C.props = some f → (∃ p, PropOf W.g.K (W.g.cls c) (W.g.fld m) p (W.fa f)) ∧ W.c.pl f = true
  na : ∀ n, C.flds.contains n = true → NoAttr W.g.K (W.g.cls c) (W.g.fld n)
  k1 : ∀ t, t ∈ tyNames → PySem.W.kitOne W.g.K (.type t) (.ref (W.g.cls c)) = some false
  k2 : ∀ t, t ∈ tyNames → PySem.W.kitOne W.g.K (.ref (W.g.cls c)) (.type t) = some false
  k3 : ∀ c', (W.T.cls[c']?).isSome = true → PySem.W.kitOne W.g.K (.ref (W.g.cls c)) (.ref (W.g.cls c')) = some (c == c')
structure Wd.Ok (W : Wd) : Prop where
  inj : ∀ n m, W.g.fld n = W.g.fld m → n = m
  fld : ∀ x n, W.c.fldN x = some n → W.g.fld n = x
  tf : ∀ x f, W.c.tf x = some f → W.mg x = some (.ref (W.fa f)) ∧ PySem.W.keepIn W.g.K (.ref (W.fa f)) = true ∧ (x == ("__debug__" : Str)) = false
  tc : ∀ x c, W.c.tc x = some c → W.mg x = some (.ref (W.g.cls c)) ∧ (x == ("__debug__" : Str)) = false
  tk : ∀ x pv, W.c.tk x = some pv → ∃ v u, RC pv v ∧ W.mg x = some u ∧ RelV v u ∧ (x == ("__debug__" : Str)) = false
  tb : ∀ x, W.c.tb x = true → W.mg x = none ∧ x ≠ "__name__" ∧ (x == ("__debug__" : Str)) = false
  pl : ∀ f, W.c.pl f = true → Binds W.g.K (W.fd f) (W.pn f) []
  kb : ∀ f n ks perm, W.c.kb f n ks = some perm → KBg W.g.K (W.fd f) (W.pn f) n ks perm
  cls : ∀ c C, W.T.cls[c]? = some C → CFx W c C
/-- a body (or a block) -/
structure Ge (W : Wd) (P : Program) (w : World) (base : Heap) (cf : CallFn) (X : Cx) (k : Nat) : Prop where
  gd : Gd W.g X (k + 1)
  pr : X.prog = P
  wd : X.w = w
  mg : X.mg = W.mg
  bs : X.base = base
  xe : X.xe = fun _ _ => False
  nd : X.N.Nodup
  fn : ∀ f, FnG P w W.g.K W.mg base k (W.fa f) (W.fd f) (W.pn f) (spC W.g cf f)
section
variable {W : Wd} {P : Program} {w : World} {base : Heap} {cf : CallFn} {X : Cx} {k : Nat}
theorem Ge.fnX (G : Ge W P w base cf X k) (f : Nat) : FnG X.prog X.w X.K X.mg X.base k (W.fa f) (W.fd f) (W.pn f) (spC W.g cf f) := by
  rw [G.pr, G.wd, G.gd.K, G.mg, G.bs]
  exact G.fn f
theorem Ge.room (G : Ge W P w base cf X k) : Room k X.A := G.gd.room.mono (Nat.le_succ k)
end

section
variable {W : Wd} {T : Tab} {cf : CallFn} {F : Hp} {dl : List Addr} {r : Rho} {D : Hs} {st : L2.St} {H : Hp}
/-- an attribute of a thing of class c -/
theorem lx_meth {m : Nat} {o : CE} {cs : List CE} {Q : VK} (ok : W.Ok) (h : tE W.g W.T cf (.meth m o cs) st H Q) : tE W.g W.T cf o st H fun x H1 => ∃ c C f, W.T.cls[c]? = some C ∧ lookN m C.meths = some f ∧
    ∃ a dx fs, x = .ref a ∧ H1 a = some (.ins (W.g.cls c) dx fs) ∧ fs.lookup (W.g.fld m) = none ∧ tA W.g W.T cf cs st H1 fun vs H2 => spC W.g cf f (x :: vs) H2 Q := by
  obtain ⟨F, dl, r, D, pv, fr, D', p, e, w⟩ := h
  unfold evE at e
  split at e
  · cases e
  · rename_i x f1 D1 e1
    split at e
    · rename_i c fs e2
      split at e
      · cases e
      · rename_i f e3
        split at e
        · cases e
        · rename_i e4
          split at e
          · cases e
          · rename_i vs D2 e5
            refine tE.bind p e1 fun v H1 F1 dl1 ev p1 rv => ?_
            obtain ⟨a, dx, ws, rfl, h1, rf⟩ := view_obj p1.h rv e2
            cases eC : W.T.cls[c]? with
            | none => rw [eC] at e3; cases e3
            | some C =>
              rw [eC] at e3
              refine ⟨c, C, f, eC, e3, a, dx, ws, rfl, h1, ?_, ?_⟩
              · have z := lookN_rel ok.inj m rf
                rw [e4] at z
                cases q : ws.lookup (W.g.fld m) with
                | none => rfl
                | some u => rw [q] at z; exact (show False from z).elim
              · exact ⟨F1, dl1, r, D1, vs, D2, p1, e5, fun us H2 F2 dl2 ev2 p2 rs => ⟨F2, dl2, D2, x :: vs, _, _, _, p2.h, .cons (rv.mono ev2.fm ev2.dp) rs, e, w.call p (ev.trans ev2) p2⟩⟩
    · cases e
theorem lx_attr {f : Nat} {o : CE} {Q : VK} (ok : W.Ok) (h : tE W.g W.T cf (.attr f o) st H Q) : tE W.g W.T cf o st H fun x H1 => ∃ c C, W.T.cls[c]? = some C ∧ ∃ a dx fs, x = .ref a ∧ H1 a = some (.ins (W.g.cls c) dx fs) ∧
    ((∃ p, lookN f C.props = some p ∧ spC W.g cf p [x] H1 Q) ∨ (lookN f C.props = none ∧ C.flds.contains f = true ∧ ∃ v, fs.lookup (W.g.fld f) = some v ∧ Q v H1)) := by
  obtain ⟨F, dl, r, D, pv, fr, D', p, e, w⟩ := h
  unfold evE at e
  split at e
  · cases e
  · rename_i x f1 D1 e1
    split at e
    · rename_i c fs e2
      cases eC : W.T.cls[c]? with
      | none => simp [eC] at e
      | some C =>
        simp only [eC, Option.bind_some, Option.map_some] at e
        split at e
        · rename_i q e3
          refine tE.bind p e1 fun v H1 F1 dl1 ev p1 rv => ?_
          obtain ⟨a, dx, ws, rfl, h1, rf⟩ := view_obj p1.h rv e2
          exact ⟨c, C, eC, a, dx, ws, rfl, h1, .inl ⟨q, e3, F1, dl1, D1, [x], _, _, _, p1.h, .cons rv .nil, e, w.call p ev p1⟩⟩
        · rename_i e3
          split at e
          · rename_i hc
            split at e
            · rename_i y e4
              cases e
              refine tE.bind p e1 fun v H1 F1 dl1 ev p1 rv => ?_
              obtain ⟨a, dx, ws, rfl, h1, rf⟩ := view_obj p1.h rv e2
              obtain ⟨u, e5, ru⟩ := relF_some (lookN_rel ok.inj f rf) e4
              exact ⟨c, C, eC, a, dx, ws, rfl, h1, .inr ⟨e3, Option.some.inj hc, u, e5, w _ _ _ _ ev p1 ru⟩⟩
            · cases e
          · cases e
    · cases e
/-! a new thing of the store -/
theorem RD.anyDl {g : Gx} {dl' : List Addr} {o : DO} {a : Addr} (h : RD g F dl H o a) : RD g F dl' H o a := h.mono (Le.refl _)
theorem Rh.snoc {g : Gx} {a : Addr} {o : DO} (h : Rh g F dl D H) (hF : F a = none) (hn : a ∉ dl) (d : RD g F dl H o a) : Rh g F (dl ++ [a]) (D ++ [o]) H where
  sub := h.sub
  len := by simp [h.len]
  nd := by
    rw [List.nodup_append]
    exact ⟨h.nd, by simp, fun x hx y hy => by simp at hy; subst hy; rintro rfl; exact hn hx⟩
  out := fun b hb => by
    rcases List.mem_append.mp hb with z | z
    · exact h.out b z
    · simp at z; subst z; exact hF
  at_ := fun n b q h1 h2 => by
    by_cases hlt : n < dl.length
    · rw [List.getElem?_append_left hlt] at h1
      rw [List.getElem?_append_left (by rw [← h.len]; exact hlt)] at h2
      exact (h.at_ n b q h1 h2).anyDl
    · rw [List.getElem?_append_right (by omega)] at h1
      rw [List.getElem?_append_right (by rw [← h.len]; omega), ← h.len] at h2
      cases e : n - dl.length with
      | zero =>
        rw [e] at h1 h2
        simp at h1 h2
        subst h1 h2
        exact d.anyDl
      | succ m => rw [e] at h1; simp at h1
theorem Rh.take {g : Gx} (h : Rh g F dl D H) (n : Nat) : Rh g F (dl.take n) (D.take n) H where
  sub := h.sub
  len := by rw [List.length_take, List.length_take, h.len]
  nd := h.nd.sublist (List.take_sublist _ _)
  out := fun b hb => h.out b (List.mem_of_mem_take hb)
  at_ := fun m b q h1 h2 => by
    rw [List.getElem?_take] at h1 h2
    split at h1
    · rename_i hm
      rw [if_pos hm] at h2
      exact (h.at_ m b q h1 h2).anyDl
    · cases h1
theorem lx_mk {c : Nat} {cs : List CE} {Q : VK} (h : tE W.g W.T cf (.mk c cs) st H Q) : tA W.g W.T cf cs st H fun vs H1 => ∃ C, W.T.cls[c]? = some C ∧ ∀ x dx, H1 x = none → H1 dx = none → dx ≠ x →
    spC W.g cf C.init (.ref x :: vs) (upd (upd H1 dx (.own x)) x (.ins (W.g.cls c) dx [])) fun v H2 => v = .non ∧ Q (.ref x) H2 := by
  obtain ⟨F, dl, r, D, pv, fr, D', p, e, w⟩ := h
  unfold evE at e
  split at e
  · cases e
  · rename_i xs D1 e1
    split at e
    · cases e
    · rename_i C eC
      refine ⟨F, dl, r, D, xs, D1, p, e1, fun vs H1 F1 dl1 ev p1 rs => ⟨C, eC, fun x dx nx ndx ne => ?_⟩⟩
      have lenD := p1.h.len
      -- the heap with the new object
      have n2 : (upd H1 dx (.own x)) x = none := by rw [upd_ne (Ne.symm ne)]; exact nx
      have h2 : Rh W.g F1 dl1 D1 (upd (upd H1 dx (.own x)) x (.ins (W.g.cls c) dx [])) := (p1.h.new ndx).new n2
      have fx := p1.h.fresh nx
      have h3 : Rh W.g F1 (dl1 ++ [x]) (D1 ++ [.obj c []]) (upd (upd H1 dx (.own x)) x (.ins (W.g.cls c) dx [])) := by
        refine h2.snoc fx.1 fx.2 (.obj upd_same ?_ rfl .nil)
        rw [upd_ne ne, upd_same]
      have ev3 : Ev F1 dl1 H1 F1 (dl1 ++ [x]) (upd (upd H1 dx (.own x)) x (.ins (W.g.cls c) dx [])) := by
        refine ⟨Le.refl _, fun n a q => ?_, fun a q => ?_, fun a o q _ => ?_, fun _ _ e => .inl e, fun a _ _ ws q => ⟨ws, ?_⟩⟩
        · rw [List.getElem?_append_left (List.getElem?_eq_some_iff.mp q).1]; exact q
        · rcases List.mem_append.mp q with z | z
          · exact .inl z
          · simp at z; subst z; exact .inr nx
        · rw [upd_ne (ne_of_none q nx), upd_ne (ne_of_none q ndx)]; exact q
        · rw [upd_ne (ne_of_none q nx), upd_ne (ne_of_none q ndx)]; exact q
      have hx : (dl1 ++ [x])[D1.length]? = some x := by
        rw [List.getElem?_append_right (by rw [lenD]; exact Nat.le_refl _), lenD]
        simp
      split at e
      · rename_i f2 D2 ec
        refine ⟨F1, dl1 ++ [x], D1 ++ [.obj c []], .ref D1.length :: xs, _, _, _, h3, .cons (.ref hx) (rs.mono ev3.fm ev3.dp), ec, fun v H4 F4 dl4 ev4 h4 rr => ?_⟩
        have rv : v = .non := by
          cases f2 with
          | false => cases (show RV W.g F4 dl4 .non v from rr); rfl
          | true => obtain ⟨_, _, _, _, _, z⟩ := rr; exact (show False from z).elim
        refine ⟨rv, ?_⟩
        have hx4 : dl4[D1.length]? = some x := ev4.dp _ _ hx
        split at e
        · cases e
          exact w _ _ _ _ (ev.trans (ev3.trans ev4)) (p1.to h4 (ev3.trans ev4)) (.ref hx4)
        · split at e
          · rename_i c2 fs e5
            cases e
            have d := h4.at_ _ _ _ hx4 e5
            cases d with
            | obj g1 g2 g3 g4 =>
              rename_i dx2 ws
              have ht := h4.take D1.length
              have fF : F4 x = none := h4.out x (List.mem_of_getElem? hx4)
              have nm : x ∉ dl4.take D1.length := fun hm => by
                obtain ⟨i, hi, q⟩ := List.mem_iff_getElem.mp hm
                have hi2 : i < D1.length := by
                  rw [List.length_take] at hi; omega
                have q2 : dl4[i]? = some x := by
                  have q3 : (dl4.take D1.length)[i]? = some x := by rw [List.getElem?_eq_getElem hi, q]
                  rw [List.getElem?_take, if_pos hi2] at q3
                  exact q3
                have := nd_ix h4.nd q2 hx4
                omega
              -- the object is known from now on
              have k1 := ht.keep g1 fF nm
              by_cases hdx : F4 dx2 = none
              · have ndx2 : dx2 ∉ dl4.take D1.length := fun hm => by
                  obtain ⟨i, hi, q⟩ := List.mem_iff_getElem.mp (List.mem_of_mem_take hm)
                  obtain ⟨o, _, d2⟩ := h4.get (n := i) (a := dx2) (by rw [List.getElem?_eq_getElem hi, q])
                  cases d2 with
                  | lst z _ _ => rw [g2] at z; cases z
                  | dK z _ _ => rw [g2] at z; cases z
                  | dT z _ _ => rw [g2] at z; cases z
                  | obj z _ _ _ => rw [g2] at z; cases z
                have nex : dx2 ≠ x := by rintro rfl; rw [g1] at g2; cases g2
                have k2 := k1.keep g2 (by rw [upd_ne nex]; exact hdx) ndx2
                have le1 : Le F4 (upd F4 x (.ins (W.g.cls c2) dx2 ws)) := Le.upd fF
                have le2 : Le (upd F4 x (.ins (W.g.cls c2) dx2 ws)) (upd (upd F4 x (.ins (W.g.cls c2) dx2 ws)) dx2 (.own x)) := Le.upd (by rw [upd_ne nex]; exact hdx)
                have evT : Ev F1 dl1 H1 (upd (upd F4 x (.ins (W.g.cls c2) dx2 ws)) dx2 (.own x)) (dl4.take D1.length) H4 := by
                  refine ⟨(ev3.trans ev4).fm.trans (le1.trans le2), fun n a q => ?_, fun a q => ?_, (ev3.trans ev4).kp, fun b o e => ?_, (ev3.trans ev4).ki⟩
                  · have z := (ev3.trans ev4).dp n a q
                    rw [List.getElem?_take, if_pos (by rw [← lenD]; exact (List.getElem?_eq_some_iff.mp q).1)]
                    exact z
                  · exact (ev3.trans ev4).dn a (List.mem_of_mem_take q)
                  · by_cases z1 : b = dx2
                    · subst z1
                      -- its dict: new since the start
                      have hd : b = dx := by
                        obtain ⟨ws', q⟩ := ev4.ki x _ _ _ upd_same
                        rw [g1] at q
                        have q' := Option.some.inj q
                        injection q' with _ q2 _
                      subst hd
                      exact .inr (.inl ndx)
                    · rw [upd_ne z1] at e
                      by_cases z2 : b = x
                      · subst z2; exact .inr (.inl nx)
                      · rw [upd_ne z2] at e; exact (ev3.trans ev4).fn b o e
                refine w _ _ _ _ (ev.trans evT) (p1.to k2 evT) ?_
                refine .obj ?_ upd_same (g4.out (le1.trans le2) g3)
                rw [upd_ne (Ne.symm nex), upd_same]
              · -- its dict is known already
                have hdx2 : ∃ u, F4 dx2 = some u := by
                  cases q : F4 dx2 with
                  | none => exact absurd q hdx
                  | some u => exact ⟨u, rfl⟩
                obtain ⟨u, hu⟩ := hdx2
                have hu2 := h4.sub _ _ hu
                rw [g2] at hu2
                cases hu2
                have nex : dx2 ≠ x := by rintro rfl; rw [g1] at g2; cases g2
                have le1 : Le F4 (upd F4 x (.ins (W.g.cls c2) dx2 ws)) := Le.upd fF
                have evT : Ev F1 dl1 H1 (upd F4 x (.ins (W.g.cls c2) dx2 ws)) (dl4.take D1.length) H4 := by
                  refine ⟨(ev3.trans ev4).fm.trans le1, fun n a q => ?_, fun a q => ?_, (ev3.trans ev4).kp, fun b o e => ?_, (ev3.trans ev4).ki⟩
                  · have z := (ev3.trans ev4).dp n a q
                    rw [List.getElem?_take, if_pos (by rw [← lenD]; exact (List.getElem?_eq_some_iff.mp q).1)]
                    exact z
                  · exact (ev3.trans ev4).dn a (List.mem_of_mem_take q)
                  · by_cases z2 : b = x
                    · subst z2; exact .inr (.inl nx)
                    · rw [upd_ne z2] at e; exact (ev3.trans ev4).fn b o e
                refine w _ _ _ _ (ev.trans evT) (p1.to k1 evT) ?_
                refine .obj upd_same ?_ (g4.out le1 g3)
                rw [upd_ne nex]
                exact hu
          · cases e
      · cases e
end
end HT
namespace HT
open L2 PyProof.Rows PySem PySem.Spec

def bmId : Bm → String
  | .get1 | .get2 => "dict.get"
  | .join => "str.join"
  | .index => "list.index"
def bmT : Bm → String
  | .get1 | .get2 => "dict"
  | .join => "str"
  | .index => "list"
def rBm (g : Gx) (m : Bm) : V → List V → Hp → VK → Prop := fun x xs H Q => ∃ F dl D px ps pz fr, Rh g F dl D H ∧ RV g F dl px x ∧ RVs g F dl ps xs ∧ bmV m D (deref D px) ps = some (pz, fr) ∧ Back g F dl D H pz fr Q
section
variable {g : Gx} {X : Cx} {k : Nat}
theorem index_rel {F : Hp} {dl : List Addr} {v : PV} {y : V} (hv : isKey0 v = true) (ry : RV g F dl v y) : ∀ {xs : List PV} {vs : List V} {n m : Nat}, xs.all isKey0 = true → RVs g F dl xs vs → indexV v xs n = some m →
    ∃ j z, m = n + j ∧ vs[j]? = some z ∧ eqV z y = true ∧ ∀ (i : Nat) (z' : V), i < j → vs[i]? = some z' → eqV z' y = false
  | [], _, _, _, _, .nil, h => by simp [indexV] at h
  | x :: xs, _, n, m, hx, .cons (v := u) r rs, h => by
    simp only [Bool.and_eq_true, List.all_cons] at hx
    have eu : eqV u y = x.eqv v := by
      cases r <;> cases ry <;> first | (simp [isKey0] at hx; done) | (simp [isKey0] at hv; done) | skip
      · rename_i i j
        simp [eqV, PV.eqv]
      · simp [eqV, PV.eqv]
      · simp [eqV, PV.eqv]
      · rename_i s t
        simp only [eqV, PV.eqv]
        rw [Bool.eq_iff_iff]
        simp [toStr]
    simp only [indexV] at h
    split at h
    · rename_i e
      cases h
      exact ⟨0, u, rfl, rfl, by rw [eu]; exact e, fun i z' hi => by omega⟩
    · rename_i e
      obtain ⟨j, z, e1, e2, e3, e4⟩ := index_rel hv ry hx.2 rs h
      refine ⟨j + 1, z, by omega, by simpa using e2, e3, fun i z' hi hz => ?_⟩
      cases i with
      | zero =>
        simp at hz
        subst hz
        rw [eu]
        exact Bool.eq_false_iff.mpr e
      | succ i => exact e4 i z' (by omega) (by simpa using hz)
theorem flat_keys {F : Hp} {dl : List Addr} : ∀ {xs : List PV} {vs : List V}, xs.all isKey0 = true → RVs g F dl xs vs → vs.all flatV = true
  | _, _, _, .nil => rfl
  | x :: xs, _, h, .cons r rs => by
    simp only [Bool.and_eq_true, List.all_cons] at h
    simp only [List.all_cons, Bool.and_eq_true]
    refine ⟨?_, flat_keys h.2 rs⟩
    cases r <;> first | rfl | simp [isKey0] at h
theorem one_rv {F : Hp} {dl : List Addr} {p : PV} {xs : List V} (h : RVs g F dl [p] xs) : ∃ x, xs = [x] ∧ RV g F dl p x := by
  cases h with
  | cons a b => cases b; exact ⟨_, rfl, a⟩
theorem two_rv {F : Hp} {dl : List Addr} {p q : PV} {xs : List V} (h : RVs g F dl [p, q] xs) : ∃ x y, xs = [x, y] ∧ RV g F dl p x ∧ RV g F dl q y := by
  cases h with
  | cons a b => cases b with
    | cons c d => cases d; exact ⟨_, _, rfl, a, c⟩
theorem getD_rel {F : Hp} {dl : List Addr} {o : Option PV} {z : Option V} {d : PV} {dv : V} (r : RelF g F dl o z) (rd : RV g F dl d dv) : RV g F dl (o.getD d) (z.getD dv) := by
  cases o <;> cases z <;> first | exact rd | exact r | exact (show False from r).elim
theorem mt_bm (G : Gd g X k) (m : Bm) (hj : m ≠ .join) : MtR X (bmId m) (rBm g m) := by
  intro pins s st H x xs v us Q I rx rv h
  obtain ⟨F, dl, D, px, ps, pz, fr, hh, r1, rs, e, b⟩ := h
  unfold bmV at e
  split at e
  · rename_i kvs kk z1
    split at e
    · rename_i fits
      cases e
      obtain ⟨a, rfl, d⟩ := view_dct hh r1 z1
      cases (show v = .ref a from rx)
      obtain ⟨y, rfl, ry⟩ := one_rv rs
      obtain ⟨u, rfl, ru⟩ := vals1 rv
      obtain ⟨H2, o, I2, dg, rf, back⟩ := dict_at I hh ry fits d
      exact d_get1 (hu_of G.room) I2 dg ru fun q s3 I3 rq => ⟨_, H, back s3 I3, rq, b.val hh (getD_rel rf .non)⟩
    · cases e
  · rename_i kvs kk dd z1
    split at e
    · rename_i fits
      cases e
      obtain ⟨a, rfl, d⟩ := view_dct hh r1 z1
      cases (show v = .ref a from rx)
      obtain ⟨y, y2, rfl, ry, ry2⟩ := two_rv rs
      obtain ⟨u, u2, rfl, ru, ru2⟩ := vals2 rv
      obtain ⟨H2, o, I2, dg, rf, back⟩ := dict_at I hh ry fits d
      exact d_get2 (hu_of G.room) I2 dg ru ru2 fun q s3 I3 rq => ⟨_, H, back s3 I3, rq, b.val hh (getD_rel rf ry2)⟩
    · cases e
  · exact absurd rfl hj
  · rename_i ys kk z1
    split at e
    · rename_i hz
      simp only [Bool.and_eq_true] at hz
      obtain ⟨n, e1, e2⟩ := Option.map_eq_some_iff.mp e
      cases e2
      obtain ⟨a, vs, rfl, h1, q⟩ := view_lst hh r1 z1
      rw [← G.K] at h1
      obtain ⟨y, rfl, ry⟩ := one_rv rs
      obtain ⟨j, z, e3, e4, e5, e6⟩ := index_rel hz.1 ry hz.2 q e1
      rw [Nat.zero_add] at e3
      subst e3
      have fy : flatV y = true := by
        have z := flat_keys (xs := [kk]) (by simp [hz.1]) (.cons ry .nil)
        simpa using z
      exact mt_index pins s st H _ _ v us Q I rx rv ⟨a, vs, y, n, z, rfl, rfl, h1.sqL, fy, flat_keys hz.2 q, e4, e5, e6, b.int hh⟩
    · cases e
  · cases e
end
section
variable {g : Gx} {T : Tab} {cf : CallFn} {st : L2.St} {H : Hp} {X : Cx}
theorem lx_bm {m : Bm} {o : CE} {cs : List CE} {Q : VK} (hK : X.K = g.K) (h : tE g T cf (.bm m o cs) st H Q) : tBM X.K (bmT m) (rBm g m) (tE g T cf o) (tA g T cf cs) st H Q := by
  obtain ⟨F, dl, r, D, pv, fr, D', p, e, w⟩ := h
  unfold evE at e
  split at e
  · cases e
  · rename_i x f1 D1 e1
    split at e
    · rename_i hty
      split at e
      · cases e
      · rename_i vs D2 e2
        obtain ⟨z, e3, e4⟩ := Option.map_eq_some_iff.mp e
        obtain ⟨z1, z2⟩ := z
        cases e4
        refine tE.bind p e1 fun v H1 F1 dl1 ev p1 rv => ⟨?_, F1, dl1, r, D1, vs, _, p1, e2, fun us H2 F2 dl2 ev2 p2 rs => ⟨F2, dl2, _, x, vs, _, _, p2.h, rv.mono ev2.fm ev2.dp, rs, e3, w.back p (ev.trans ev2) p2⟩⟩
        have dcase : ∀ kvs, deref D1 x = .dct kvs → tyV X.K "dict" v H1 := fun kvs q => by
          obtain ⟨a, rfl, d⟩ := view_dct p1.h rv q
          refine .inr (.inr (.inl ⟨rfl, ?_⟩))
          rcases d with ⟨ks, d, _⟩ | ⟨ks, d, _⟩
          · exact .inl ⟨ks, d⟩
          · exact .inr ⟨ks, d⟩
        cases m with
        | get1 =>
          cases q : deref D1 x with
          | dct kvs => exact dcase kvs q
          | _ => rw [q] at hty; simp [bmTy] at hty
        | get2 =>
          cases q : deref D1 x with
          | dct kvs => exact dcase kvs q
          | _ => rw [q] at hty; simp [bmTy] at hty
        | join =>
          cases q : deref D1 x with
          | str s => obtain rfl := view_str p1.h rv q; rfl
          | _ => rw [q] at hty; simp [bmTy] at hty
        | index =>
          cases q : deref D1 x with
          | lst s =>
            obtain ⟨a, us, rfl, h1, _⟩ := view_lst p1.h rv q
            rw [← hK] at h1
            exact .inl ⟨rfl, us, h1.sqL⟩
          | _ => rw [q] at hty; simp [bmTy] at hty
    · cases e
theorem lx_mut {m : Mm} {o : CE} {cs : List CE} {Q : VK} (h : tE g T cf (.mut m o cs) st H Q) : tBM X.K "list" (rMut g m) (tE g T cf o) (tA g T cf cs) st H Q := by
  obtain ⟨F, dl, r, D, pv, fr, D', p, e, w⟩ := h
  unfold evE at e
  split at e
  · rename_i n f1 D1 e1
    split at e
    · rename_i xs e0
      split at e
      · cases e
      · rename_i vs D2 e2
        obtain ⟨z, e3, e4⟩ := Option.map_eq_some_iff.mp e
        obtain ⟨z1, z2⟩ := z
        cases e4
        refine tE.bind p e1 fun v H1 F1 dl1 ev p1 rv => ⟨?_, F1, dl1, r, D1, vs, _, p1, e2, fun us H2 F2 dl2 ev2 p2 rs =>
          ⟨F2, dl2, _, n, vs, _, _, p2.h, rv.mono ev2.fm ev2.dp, rs, e3, fun v' H' e5 h5 r5 => w _ _ _ _ ((ev.trans ev2).trans e5) (p2.to h5 e5) r5⟩⟩
        obtain ⟨a, ws, rfl, _, h1, _, _⟩ := p1.h.lst rv e0
        exact .inl ⟨rfl, ws, .inl (.inl h1)⟩
    · cases e
  · cases e
/-! slices -/
def tO (g : Gx) (T : Tab) (cf : CallFn) : Option CE → TO
  | none => tNoPart
  | some c => tPart (tE g T cf c)
theorem lo_bind {F : Hp} {dl : List Addr} {r : Rho} {D D1 : Hs} {lo : Option CE} {a : Option PV} {i : Option Int} {Q : Option Int → Hp → Prop} (p : Rp g F dl r D st H) (e : evO T cf lo r D = some (a, D1)) (e2 : ixOf a = some i)
    (q : ∀ H1 F1 dl1, Ev F dl H F1 dl1 H1 → Rp g F1 dl1 r D1 st H1 → Q i H1) : tO g T cf lo st H Q := by
  cases lo with
  | none =>
    unfold evO at e
    cases e
    cases e2
    exact q H F dl (Ev.refl _ _ _) p
  | some c =>
    unfold evO at e
    split at e
    · cases e
    · rename_i v f1 D2 e3
      cases e
      refine tE.bind p e3 fun u H1 F1 dl1 ev p1 rv => ?_
      unfold ixOf at e2
      split at e2
      · rename_i z; cases z
      · rename_i j z
        cases z
        cases e2
        cases rv
        exact ⟨j, rfl, q _ _ _ ev p1⟩
      · cases e2
theorem lx_slice {o : CE} {lo hi : Option CE} {Q : VK} (h : tE g T cf (.slice o lo hi) st H Q) : tSl (rSl g) (tE g T cf o) (tO g T cf lo) (tO g T cf hi) st H Q := by
  obtain ⟨F, dl, r, D, pv, fr, D', p, e, w⟩ := h
  unfold evE at e
  split at e
  · cases e
  · rename_i x f1 D1 e1
    split at e
    · cases e
    · rename_i a D2 e2
      split at e
      · cases e
      · rename_i b D3 e3
        obtain ⟨z, e4, e5⟩ := Option.map_eq_some_iff.mp e
        obtain ⟨z1, z2⟩ := z
        cases e5
        unfold sliceV at e4
        split at e4
        · cases e4
        · rename_i i ei
          split at e4
          · cases e4
          · rename_i j ej
            exact tE.bind p e1 fun v H1 F1 dl1 ev p1 rv => lo_bind p1 e2 ei fun H2 F2 dl2 ev2 p2 => lo_bind p2 e3 ej fun H3 F3 dl3 ev3 p3 =>
              ⟨F3, dl3, _, x, _, _, p3.h, (rv.mono ev2.fm ev2.dp).mono ev3.fm ev3.dp, e4, w.back p ((ev.trans ev2).trans ev3) p3⟩
end
/-! isinstance -/
def tyV0 : Ty → Value
  | .int => .type "int"
  | .bool => .type "bool"
  | .str => .type "str"
  | .tuple => .type "tuple"
  | .list => .type "list"
  | .cls _ => .none
/-- the class handed over -/
def tyVal (W : Wd) : Ty → V
  | .int => .ty "int"
  | .bool => .ty "bool"
  | .str => .ty "str"
  | .tuple => .ty "tuple"
  | .list => .ty "list"
  | .cls c => .ref (W.g.cls c)
def tyU (W : Wd) : Ty → Value
  | .int => .type "int"
  | .bool => .type "bool"
  | .str => .type "str"
  | .tuple => .type "tuple"
  | .list => .type "list"
  | .cls c => .ref (W.g.cls c)
theorem ty_cls (W : Wd) (t : Ty) : ClsV (tyVal W t) (tyU W t) := by
  cases t <;> constructor
theorem kitB_int : kitB "int" "int" = some true ∧ kitB "bool" "int" = some true ∧ kitB "bool" "bool" = some true ∧ kitB "str" "str" = some true ∧ kitB "tuple" "tuple" = some true ∧ kitB "list" "list" = some true := by decide +kernel
theorem kitB_no : ∀ a ∈ ["NoneType", "int", "str", "list", "tuple", "dict"], ∀ b ∈ ["int", "bool", "str", "tuple", "list"], a ≠ b → kitB a b = some false := by decide +kernel
theorem kitB_no2 : ∀ b ∈ ["str", "tuple", "list"], kitB "bool" b = some false := by decide +kernel
/-- isinstance(x, t) by values -/
def rIs (W : Wd) (t : Ty) : List V → Hp → VK → Prop := fun xs H Q => ∃ x, xs = [x, tyVal W t] ∧ ∃ F dl D p b, Rh W.g F dl D H ∧ RV W.g F dl p x ∧ isV W.T t (deref D p) = some b ∧ Q (.bl b) H
theorem call_is {W : Wd} {X : Cx} {k : Nat} (ok : W.Ok) (G : Gd W.g X k) (t : Ty) : CallR X (.builtin "isinstance") (rIs W t) := by
  intro pins s st H xs us Q I r h
  obtain ⟨x, rfl, F, dl, D, p, bb, hh, r1, e, b⟩ := h
  unfold isV at e
  split at e
  · rename_i hin
    have ht : ∀ c, t = .cls c → (W.T.cls[c]?).isSome = true := fun c z => by subst z; exact hin
    have eb : (∀ n, deref D p ≠ .ref n) ∧ (∀ d fs, deref D p = .obj d fs → (W.T.cls[d]?).isSome = true) ∧ bb = isTy t (deref D p) := by
      split at e
      · cases e
      · rename_i d fs z
        split at e
        · rename_i hd
          cases e
          refine ⟨fun n q => ?_, fun d' fs' q => ?_, ?_⟩
          · rw [z] at q; cases q
          · rw [z] at q; cases q; exact hd
          · rw [z]
        · cases e
      · rename_i n1 n2
        cases e
        exact ⟨n1, fun d fs q => absurd q (n2 d fs), rfl⟩
    obtain ⟨nref, nobj, rfl⟩ := eb
    · skip
      have go : ∀ ty, TyX X.K H x ty → PySem.W.kitOne X.K ty (tyU W t) = some (isTy t (deref D p)) → wpAny (model X.prog X.w) X.A (call (.builtin "isinstance") us) (EP X pins st Q) X.xe s := fun ty h1 h2 =>
        call_isi pins s st H _ us Q I r ⟨x, tyVal W t, ty, tyU W t, _, rfl, ty_cls W t, h1, h2, b⟩
      have bt : ∀ (n : String), n ∈ tyNames → TyX X.K H x (.type n) → (∀ c, isTy (.cls c) (deref D p) = false) → (∀ t', (∀ c, t' ≠ .cls c) → PySem.W.kitOne X.K (.type n) (tyU W t') = some (isTy t' (deref D p))) → wpAny (model X.prog X.w) X.A (call (.builtin "isinstance") us) (EP X pins st Q) X.xe s := fun n hn h1 h2 h3 => by
        cases t with
        | cls c =>
          have hc := ht c rfl
          obtain ⟨C, eC⟩ := Option.isSome_iff_exists.mp hc
          refine go _ h1 ?_
          rw [G.K, h2]
          exact (ok.cls c C eC).k1 n hn
        | int => exact go _ h1 (h3 _ (by intro c z; cases z))
        | bool => exact go _ h1 (h3 _ (by intro c z; cases z))
        | str => exact go _ h1 (h3 _ (by intro c z; cases z))
        | tuple => exact go _ h1 (h3 _ (by intro c z; cases z))
        | list => exact go _ h1 (h3 _ (by intro c z; cases z))
      cases q : deref D p with
      | non =>
        obtain rfl := view_non hh r1 q
        refine bt "NoneType" (by decide) (.base .non) (fun c => by rw [q]; rfl) fun t' ht' => ?_
        rw [q]
        cases t' with
        | cls c => exact absurd rfl (ht' c)
        | int => exact kit_ty (kitB_no _ (by decide) _ (by decide) (by decide))
        | bool => exact kit_ty (kitB_no _ (by decide) _ (by decide) (by decide))
        | str => exact kit_ty (kitB_no _ (by decide) _ (by decide) (by decide))
        | tuple => exact kit_ty (kitB_no _ (by decide) _ (by decide) (by decide))
        | list => exact kit_ty (kitB_no _ (by decide) _ (by decide) (by decide))
      | bl i =>
        obtain rfl := view_bl hh r1 q
        refine bt "bool" (by decide) (.base (.bl i)) (fun c => by rw [q]; rfl) fun t' ht' => ?_
        rw [q]
        cases t' with
        | cls c => exact absurd rfl (ht' c)
        | int => exact kit_ty kitB_int.2.1
        | bool => exact kit_ty kitB_int.2.2.1
        | str => exact kit_ty (kitB_no2 _ (by decide))
        | tuple => exact kit_ty (kitB_no2 _ (by decide))
        | list => exact kit_ty (kitB_no2 _ (by decide))
      | int i =>
        obtain rfl := view_int hh r1 q
        refine bt "int" (by decide) (.base (.int i)) (fun c => by rw [q]; rfl) fun t' ht' => ?_
        rw [q]
        cases t' with
        | cls c => exact absurd rfl (ht' c)
        | int => exact kit_ty kitB_int.1
        | bool => exact kit_ty (kitB_no _ (by decide) _ (by decide) (by decide))
        | str => exact kit_ty (kitB_no _ (by decide) _ (by decide) (by decide))
        | tuple => exact kit_ty (kitB_no _ (by decide) _ (by decide) (by decide))
        | list => exact kit_ty (kitB_no _ (by decide) _ (by decide) (by decide))
      | str i =>
        obtain rfl := view_str hh r1 q
        refine bt "str" (by decide) (.base (.str _)) (fun c => by rw [q]; rfl) fun t' ht' => ?_
        rw [q]
        cases t' with
        | cls c => exact absurd rfl (ht' c)
        | int => exact kit_ty (kitB_no _ (by decide) _ (by decide) (by decide))
        | bool => exact kit_ty (kitB_no _ (by decide) _ (by decide) (by decide))
        | str => exact kit_ty kitB_int.2.2.2.1
        | tuple => exact kit_ty (kitB_no _ (by decide) _ (by decide) (by decide))
        | list => exact kit_ty (kitB_no _ (by decide) _ (by decide) (by decide))
      | tup i =>
        obtain ⟨a, vs, rfl, h1, _⟩ := view_tup hh r1 q
        refine bt "tuple" (by decide) (.base (.tup h1)) (fun c => by rw [q]; rfl) fun t' ht' => ?_
        rw [q]
        cases t' with
        | cls c => exact absurd rfl (ht' c)
        | int => exact kit_ty (kitB_no _ (by decide) _ (by decide) (by decide))
        | bool => exact kit_ty (kitB_no _ (by decide) _ (by decide) (by decide))
        | str => exact kit_ty (kitB_no _ (by decide) _ (by decide) (by decide))
        | tuple => exact kit_ty kitB_int.2.2.2.2.1
        | list => exact kit_ty (kitB_no _ (by decide) _ (by decide) (by decide))
      | lst i =>
        obtain ⟨a, vs, rfl, h1, _⟩ := view_lst hh r1 q
        have hty : TyX X.K H (.ref a) (.type "list") := by
          rw [← G.K] at h1
          rcases h1 with (h1 | ⟨o, h1⟩) | ⟨its, n, h1, _⟩
          · exact .base (.lst h1)
          · exact .base (.frz h1)
          · exact .kList h1 rfl
        refine bt "list" (by decide) hty (fun c => by rw [q]; rfl) fun t' ht' => ?_
        rw [q]
        cases t' with
        | cls c => exact absurd rfl (ht' c)
        | int => exact kit_ty (kitB_no _ (by decide) _ (by decide) (by decide))
        | bool => exact kit_ty (kitB_no _ (by decide) _ (by decide) (by decide))
        | str => exact kit_ty (kitB_no _ (by decide) _ (by decide) (by decide))
        | tuple => exact kit_ty (kitB_no _ (by decide) _ (by decide) (by decide))
        | list => exact kit_ty kitB_int.2.2.2.2.2
      | dct i =>
        obtain ⟨a, rfl, d⟩ := view_dct hh r1 q
        have hty : TyX X.K H (.ref a) (.type "dict") := by
          rcases d with ⟨ks, d, _⟩ | ⟨ks, d, _⟩
          · exact .base (.dK d)
          · exact .base (.dT d)
        refine bt "dict" (by decide) hty (fun c => by rw [q]; rfl) fun t' ht' => ?_
        rw [q]
        cases t' with
        | cls c => exact absurd rfl (ht' c)
        | int => exact kit_ty (kitB_no _ (by decide) _ (by decide) (by decide))
        | bool => exact kit_ty (kitB_no _ (by decide) _ (by decide) (by decide))
        | str => exact kit_ty (kitB_no _ (by decide) _ (by decide) (by decide))
        | tuple => exact kit_ty (kitB_no _ (by decide) _ (by decide) (by decide))
        | list => exact kit_ty (kitB_no _ (by decide) _ (by decide) (by decide))
      | obj c fs =>
        obtain ⟨C, eC⟩ := Option.isSome_iff_exists.mp (nobj c fs q)
        have cx := ok.cls c C eC
        obtain ⟨a, dx, ws, rfl, h1, _⟩ := view_obj hh r1 q
        have hty : TyX X.K H (.ref a) (.ref (W.g.cls c)) := .base (.ins h1 (by rw [G.K]; exact cx.cf.cl) (by rw [G.K]; exact cx.cf.ca) (by rw [G.K]; exact cx.cf.cn) (by rw [G.K]; exact cx.cf.ck) (by rw [G.K]; exact cx.cf.cm))
        refine go _ hty ?_
        rw [G.K, q]
        cases t with
        | cls c' => exact cx.k3 c' (ht c' rfl)
        | int => exact cx.k2 "int" (by decide)
        | bool => exact cx.k2 "bool" (by decide)
        | str => exact cx.k2 "str" (by decide)
        | tuple => exact cx.k2 "tuple" (by decide)
        | list => exact cx.k2 "list" (by decide)
      | ref n => exact absurd q (nref n)
  · cases e
end HT
namespace HT
open L2 PyProof.Rows PySem PySem.Spec

/-! ### slots -/
section
variable {g : Gx} {F : Hp} {dl : List Addr} {r : Rho} {D : Hs} {st : L2.St} {H : Hp}
theorem Rp.set {i : Nat} {pv : PV} {v : V} (p : Rp g F dl r D st H) (rv : RV g F dl pv v) : Rp g F dl (r.set i (some pv)) D (st.set i (some v)) H :=
  ⟨p.h, by simp [p.len], fun j x e => by
    by_cases hj : i = j
    · subst hj
      have hl := (List.getElem?_eq_some_iff.mp e).1
      rw [List.length_set] at hl
      rw [List.getElem?_set_self hl] at e
      cases e
      exact ⟨v, List.getElem?_set_self (by rw [p.len]; exact hl), rv⟩
    · rw [List.getElem?_set_ne hj] at e
      obtain ⟨u, e1, e2⟩ := p.sl j x e
      exact ⟨u, by rw [List.getElem?_set_ne hj]; exact e1, e2⟩⟩
theorem Rp.clear {i : Nat} (p : Rp g F dl r D st H) : Rp g F dl (r.set i none) D (st.set i none) H :=
  ⟨p.h, by simp [p.len], fun j x e => by
    by_cases hj : i = j
    · subst hj
      have hl := (List.getElem?_eq_some_iff.mp e).1
      rw [List.length_set] at hl
      rw [List.getElem?_set_self hl] at e
      cases e
    · rw [List.getElem?_set_ne hj] at e
      obtain ⟨u, e1, e2⟩ := p.sl j x e
      exact ⟨u, by rw [List.getElem?_set_ne hj]; exact e1, e2⟩⟩
theorem Rp.wipe : ∀ {vs : List Nat}, Rp g F dl r D st H → Rp g F dl (wipeR r vs) D (L2.wipe st vs) H
  | [], p => p
  | i :: vs, p => (p.wipe (vs := vs)).clear
end
theorem wipe_set {i : Nat} {x : Option V} : ∀ {vs : List Nat} {st : L2.St}, i ∈ vs → wipe (st.set i x) vs = wipe st vs
  | [], _, h => by simp at h
  | j :: vs, st, h => by
    unfold wipe
    by_cases e : i = j
    · subst e
      by_cases m : i ∈ vs
      · rw [wipe_set m]
      · have q : ∀ {ws : List Nat} {t : L2.St}, i ∉ ws → wipe (t.set i x) ws = (wipe t ws).set i x := by
          intro ws
          induction ws with
          | nil => intro t _; rfl
          | cons w ws ih =>
            intro t hm
            simp only [List.mem_cons, not_or] at hm
            unfold wipe
            rw [ih hm.2, List.set_comm _ _ hm.1]
        rw [q m, List.set_set]
    · rcases List.mem_cons.mp h with z | z
      · exact absurd z e
      · rw [wipe_set z]

/-! ### targets -/
def gNames (K : PySem.W.Frag) (is : List Nat) : TG := gTup K is.length (is.foldr (fun i t => gCons (gName i) t) gNil)
def gT (K : PySem.W.Frag) : Tgt → TG
  | .name i => gName i
  | .names is => gNames K is
def tgtIs : Tgt → List Nat
  | .name i => [i]
  | .names is => is
section
variable {g : Gx} {F : Hp} {dl : List Addr} {r r' : Rho} {D : Hs} {st : L2.St} {H : Hp} {K : PySem.W.Frag}
theorem setAll_ok {own : List Nat} {Q : L2.St → Hp → Prop} : ∀ {is : List Nat} {xs : List PV} {vs : List V} {r : Rho} {st : L2.St}, Rp g F dl r D st H → RVs g F dl xs vs → setAll is xs r = some r' → (∀ i ∈ is, i ∈ own) →
    (∀ st2, Rp g F dl r' D st2 H → L2.wipe st2 own = L2.wipe st own → Q st2 H) → (is.foldr (fun i t => gCons (gName i) t) gNil) vs st H Q
  | [], [], _, r, st, p, .nil, e, _, q => by
    unfold setAll at e
    cases e
    exact ⟨rfl, q st p rfl⟩
  | [], _ :: _, _, _, _, _, _, e, _, _ => by simp [setAll] at e
  | _ :: _, [], _, _, _, _, _, e, _, _ => by simp [setAll] at e
  | i :: is, x :: xs, _, r, st, p, .cons hx hr, e, ho, q => by
    unfold setAll at e
    refine ⟨_, _, rfl, ?_⟩
    refine setAll_ok (p.set hx) hr e (fun j hj => ho j (by simp [hj])) fun st2 p2 w2 => q st2 p2 ?_
    rw [w2, wipe_set (ho i (by simp))]
theorem setAll_len : ∀ {is : List Nat} {xs : List PV} {r : Rho}, setAll is xs r = some r' → xs.length = is.length
  | [], [], _, _ => rfl
  | [], _ :: _, _, e => by simp [setAll] at e
  | _ :: _, [], _, e => by simp [setAll] at e
  | i :: is, x :: xs, r, e => by
    unfold setAll at e
    simp [setAll_len e]
theorem tgt_ok {t : Tgt} {own : List Nat} {x : PV} {v : V} {Q : L2.St → Hp → Prop} (p : Rp g F dl r D st H) (rv : RV g F dl x v) (e : tgtV t x r = some r') (ho : ∀ i ∈ tgtIs t, i ∈ own)
    (q : ∀ st2, Rp g F dl r' D st2 H → L2.wipe st2 own = L2.wipe st own → Q st2 H) : gT K t v st H Q := by
  cases t with
  | name i =>
    simp only [tgtV] at e
    cases e
    exact q _ (p.set rv) (wipe_set (ho i (by simp [tgtIs])))
  | names is =>
    cases x with
    | tup xs =>
      simp only [tgtV] at e
      cases rv with
      | tup h1 r1 => exact ⟨_, _, rfl, SqT.of (p.h.sub _ _ h1), by rw [← r1.length]; exact setAll_len e, setAll_ok p r1 e (fun i hi => ho i hi) q⟩
    | _ => simp [tgtV] at e
end

/-! ### what is walked -/
/-- items that stay -/
structure SrcC (g : Gx) (F : Hp) (dl : List Addr) (H : Hp) (xs : List PV) (J : It) : Prop where
  go : ∀ F' dl' D' H' i x, Ev F dl H F' dl' H' → Rh g F' dl' D' H' → xs[i]? = some x → J.go i H' ∧ ∀ v H2, J.yld i H' v H2 → ∃ F2, Ev F' dl' H' F2 dl' H2 ∧ Rh g F2 dl' D' H2 ∧ RV g F2 dl' x v
  stop : ∀ F' dl' D' H' i, Ev F dl H F' dl' H' → Rh g F' dl' D' H' → i = xs.length → J.stop i H'
/-- a list of the store -/
structure SrcR (g : Gx) (F : Hp) (dl : List Addr) (H : Hp) (n : Nat) (J : It) : Prop where
  go : ∀ F' dl' D' H' i xs x, Ev F dl H F' dl' H' → Rh g F' dl' D' H' → D'[n]? = some (.lst xs) → xs[i]? = some x → J.go i H' ∧ ∀ v H2, J.yld i H' v H2 → H2 = H' ∧ RV g F' dl' x v
  stop : ∀ F' dl' D' H' i xs, Ev F dl H F' dl' H' → Rh g F' dl' D' H' → D'[n]? = some (.lst xs) → xs[i]? = none → J.stop i H'
def Src (g : Gx) (F : Hp) (dl : List Addr) (H : Hp) (src : PV) (J : It) : Prop := match src with
  | .ref n => SrcR g F dl H n J
  | v => ∃ xs, itemsOf v = some xs ∧ SrcC g F dl H xs J
/-- it can be walked -/
def Walks0 (D : Hs) : PV → Prop
  | .ref n => ∃ xs, D[n]? = some (.lst xs)
  | v => ∃ xs, itemsOf v = some xs
def tI (g : Gx) (T : Tab) (cf : CallFn) (c : CE) : TI := fun st H R => ∃ F dl r D src fr D', Rp g F dl r D st H ∧ evE T cf c r D = some (src, fr, D') ∧ Walks0 D' src ∧
  ∀ J H' F' dl', Ev F dl H F' dl' H' → Rp g F' dl' r D' st H' → Src g F' dl' H' src J → R J H'
section
variable {g : Gx} {T : Tab} {cf : CallFn} {F : Hp} {dl : List Addr} {r : Rho} {D : Hs} {st : L2.St} {H : Hp} {X : Cx}
theorem get_none {α : Type} {xs : List α} {i : Nat} (h : xs[i]? = none) : xs.length ≤ i := List.getElem?_eq_none_iff.mp h
theorem rv_at {xs : List PV} {vs : List V} {i : Nat} {x : PV} {v : V} (q : RVs g F dl xs vs) (h1 : xs[i]? = some x) (h2 : vs[i]? = some v) : RV g F dl x v := by
  obtain ⟨u, e, ru⟩ := q.get h1
  rw [h2] at e; cases e
  exact ru
theorem src_lst {a : Addr} {xs : List PV} {vs : List V} (hK : X.K = g.K) (h1 : SqE g.K F a vs) (q : RVs g F dl xs vs) : SrcC g F dl H xs (Itl X.K a) where
  go := fun F' dl' D' H' i x ev h e => by
    have s1 : SqL X.K H' a vs := by rw [hK]; exact (h.sub.sqE (ev.fm.sqE h1)).sqL
    obtain ⟨v, e2, rv⟩ := q.get e
    refine ⟨⟨vs, v, s1, e2⟩, fun u H2 y => ?_⟩
    obtain ⟨rfl, y⟩ := y
    have z := y vs s1
    rw [e2] at z; cases z
    exact ⟨F', Ev.refl _ _ _, h, rv.mono ev.fm ev.dp⟩
  stop := fun F' dl' D' H' i ev h e => ⟨vs, by rw [hK]; exact (h.sub.sqE (ev.fm.sqE h1)).sqL, by rw [← q.length, e]; exact Nat.le_refl _⟩
theorem src_tup {a : Addr} {xs : List PV} {vs : List V} (h1 : F a = some (.tup vs)) (q : RVs g F dl xs vs) : SrcC g F dl H xs (Itt X.K a) where
  go := fun F' dl' D' H' i x ev h e => by
    have s1 : SqT X.K H' a vs := SqT.of (h.sub _ _ (ev.fm _ _ h1))
    obtain ⟨v, e2, rv⟩ := q.get e
    refine ⟨⟨vs, v, s1, e2⟩, fun u H2 y => ?_⟩
    obtain ⟨rfl, y⟩ := y
    have z := y vs s1
    rw [e2] at z; cases z
    exact ⟨F', Ev.refl _ _ _, h, rv.mono ev.fm ev.dp⟩
  stop := fun F' dl' D' H' i ev h e => ⟨vs, SqT.of (h.sub _ _ (ev.fm _ _ h1)), by rw [← q.length, e]; exact Nat.le_refl _⟩
theorem src_str {s : List Nat} : SrcC g F dl H (s.map fun c => PV.str [c]) (Its (toStr s)) where
  go := fun F' dl' D' H' i x ev h e => by
    have hl := (List.getElem?_eq_some_iff.mp e).1
    rw [List.length_map] at hl
    refine ⟨by show i < (toStr s).cps.size; simpa [toStr] using hl, fun u H2 y => ?_⟩
    obtain ⟨rfl, c, y1, rfl⟩ := y
    rw [List.getElem?_map] at e
    have y2 : s[i]? = some c := by simpa [toStr] using y1
    rw [y2] at e
    cases e
    exact ⟨F', Ev.refl _ _ _, h, .str [c]⟩
  stop := fun F' dl' D' H' i ev h e => by
    rw [List.length_map] at e
    show (toStr s).cps.size ≤ i
    simp [toStr, e]
theorem src_ref {a : Addr} {n : Nat} (h1 : dl[n]? = some a) : SrcR g F dl H n (Itl X.K a) where
  go := fun F' dl' D' H' i xs x ev h e0 e => by
    obtain ⟨a', vs, e1, e2, h3, hp, q⟩ := h.lst (.ref (ev.dp _ _ h1)) e0
    cases e1
    have s1 : SqL X.K H' a vs := .inl (.inl h3)
    obtain ⟨v, e3, rv⟩ := q.get e
    refine ⟨⟨vs, v, s1, e3⟩, fun u H2 y => ?_⟩
    obtain ⟨rfl, y⟩ := y
    have z := y vs s1
    rw [e3] at z; cases z
    exact ⟨rfl, rv⟩
  stop := fun F' dl' D' H' i xs ev h e0 e => by
    obtain ⟨a', vs, e1, e2, h3, hp, q⟩ := h.lst (.ref (ev.dp _ _ h1)) e0
    cases e1
    exact ⟨vs, .inl (.inl h3), by rw [← q.length]; exact get_none e⟩
/-- a plain expression, walked -/
theorem pi_any {tg e : Expr} {c : CE} (hK : X.K = g.K) (he : PE X e (tE g T cf c)) : PI X tg e (tI g T cf c) := by
  refine ⟨fun pins s st H R I h => ?_⟩
  obtain ⟨F, dl, r, D, src, fr, D', p, e, wk, w⟩ := h
  cases src with
  | lst xs =>
    refine (pi_list he).run pins s st H R I (tE.bind p e fun v H1 F1 dl1 ev p1 rv => ?_)
    cases rv with
    | lst h1 q => exact ⟨_, rfl, ⟨_, by rw [hK]; exact (p1.h.sub.sqE h1).sqL⟩, w _ _ _ _ ev p1 ⟨xs, rfl, src_lst hK h1 q⟩⟩
  | tup xs =>
    refine (pi_tup he).run pins s st H R I (tE.bind p e fun v H1 F1 dl1 ev p1 rv => ?_)
    cases rv with
    | tup h1 q => exact ⟨_, rfl, ⟨_, SqT.of (p1.h.sub _ _ h1)⟩, w _ _ _ _ ev p1 ⟨xs, rfl, src_tup h1 q⟩⟩
  | str t =>
    refine (pi_str he).run pins s st H R I (tE.bind p e fun v H1 F1 dl1 ev p1 rv => ?_)
    cases rv with
    | str _ => exact ⟨_, rfl, w _ _ _ _ ev p1 ⟨_, rfl, src_str⟩⟩
  | ref n =>
    refine (pi_list he).run pins s st H R I (tE.bind p e fun v H1 F1 dl1 ev p1 rv => ?_)
    obtain ⟨xs, e0⟩ := wk
    obtain ⟨a, vs, rfl, e2, h3, hp, q⟩ := p1.h.lst rv e0
    exact ⟨_, rfl, ⟨_, .inl (.inl h3)⟩, w _ _ _ _ ev p1 (src_ref e2)⟩
  | non => obtain ⟨xs, z⟩ := wk; cases z
  | bl b => obtain ⟨xs, z⟩ := wk; cases z
  | int i => obtain ⟨xs, z⟩ := wk; cases z
  | dct i => obtain ⟨xs, z⟩ := wk; cases z
  | obj i j => obtain ⟨xs, z⟩ := wk; cases z
theorem rangeL_at : ∀ {n i : Nat} {lo : Int} {x : PV}, (rangeL lo n)[i]? = some x → i < n ∧ x = .int (lo + (i : Nat))
  | 0, i, lo, x, h => by simp [rangeL] at h
  | n + 1, 0, lo, x, h => by
    simp [rangeL] at h
    subst h
    exact ⟨by omega, by simp⟩
  | n + 1, i + 1, lo, x, h => by
    have h2 : (rangeL (lo + 1) n)[i]? = some x := by simpa [rangeL] using h
    obtain ⟨a, b⟩ := rangeL_at h2
    refine ⟨by omega, ?_⟩
    rw [b]
    congr 1
    push_cast
    omega
theorem rangeL_len : ∀ {n : Nat} {lo : Int}, (rangeL lo n).length = n
  | 0, _ => rfl
  | n + 1, lo => by simp [rangeL, rangeL_len]
theorem src_rng {lo : Int} {n : Nat} : SrcC g F dl H (rangeL lo n) (Itr lo n) where
  go := fun F' dl' D' H' i x ev h e => by
    obtain ⟨hi, rfl⟩ := rangeL_at e
    refine ⟨hi, fun u H2 y => ?_⟩
    obtain ⟨rfl, rfl⟩ := y
    exact ⟨F', Ev.refl _ _ _, h, .int _⟩
  stop := fun F' dl' D' H' i ev h e => by
    rw [rangeL_len] at e
    exact Nat.le_of_eq e.symm
theorem li_rng1 {a : CE} {R : It → Hp → Prop} (h : tI g T cf (.rng1 a) st H R) : iRng1 (tA g T cf [a]) st H R := by
  obtain ⟨F, dl, r, D, src, fr, D', p, e, wk, w⟩ := h
  unfold evE at e
  split at e
  · rename_i j f1 D1 e1
    split at e
    · rename_i hz
      cases e
      refine ⟨F, dl, r, D, [.int j], _, p, by unfold evEs; rw [e1]; simp only []; unfold evEs; rfl, fun vs H1 F1 dl1 ev p1 rs => ?_⟩
      obtain ⟨x, rfl, rx⟩ := one_rv rs
      cases rx
      exact ⟨j, rfl, hz.1, hz.2, w _ _ _ _ ev p1 ⟨_, rfl, src_rng⟩⟩
    · cases e
  · cases e
theorem li_rng2 {a b : CE} {R : It → Hp → Prop} (h : tI g T cf (.rng2 a b) st H R) : iRng2 (tA g T cf [a, b]) st H R := by
  obtain ⟨F, dl, r, D, src, fr, D', p, e, wk, w⟩ := h
  unfold evE at e
  split at e
  · rename_i i f1 D1 e1
    split at e
    · rename_i j f2 D2 e2
      split at e
      · rename_i hz
        cases e
        refine ⟨F, dl, r, D, [.int i, .int j], _, p, by unfold evEs; rw [e1]; simp only []; unfold evEs; rw [e2]; simp only []; unfold evEs; rfl, fun vs H1 F1 dl1 ev p1 rs => ?_⟩
        obtain ⟨x, y, rfl, rx, ry⟩ := two_rv rs
        cases rx
        cases ry
        exact ⟨i, j, rfl, hz, w _ _ _ _ ev p1 ⟨_, rfl, src_rng⟩⟩
      · cases e
    · cases e
  · cases e
end
end HT
namespace HT
open L2 PyProof.Rows PySem PySem.Spec

/-- the wish behind a statement -/
def WishS (g : Gx) (F : Hp) (dl : List Addr) (H : Hp) (fl : Fl) (r' : Rho) (D' : Hs) (En : Ends) : Prop := match fl with
  | .next => ∀ st' H' F' dl', Ev F dl H F' dl' H' → Rp g F' dl' r' D' st' H' → En.nx st' H'
  | .brk => ∀ st' H' F' dl', Ev F dl H F' dl' H' → Rp g F' dl' r' D' st' H' → En.bk st' H'
  | .ret v fr => ∀ u H' F' dl', Ev F dl H F' dl' H' → Rh g F' dl' D' H' → RR g F' dl' H H' v fr u → En.rt u H'
def tS (g : Gx) (T : Tab) (cf : CallFn) (c : CS) : TS := fun En st H => ∃ F dl r D fl r' D', Rp g F dl r D st H ∧ exS T cf c r D = some (fl, r', D') ∧ WishS g F dl H fl r' D' En
def tSs (g : Gx) (T : Tab) (cf : CallFn) (cs : List CS) : TS := fun En st H => ∃ F dl r D fl r' D', Rp g F dl r D st H ∧ exSs T cf cs r D = some (fl, r', D') ∧ WishS g F dl H fl r' D' En
section
variable {g : Gx} {T : Tab} {cf : CallFn} {F F1 : Hp} {dl dl1 : List Addr} {r r1 : Rho} {D D1 : Hs} {st st1 : L2.St} {H H1 : Hp} {En : Ends}
theorem WishS.pre {fl : Fl} {r' : Rho} {D' : Hs} (w : WishS g F dl H fl r' D' En) (h : Rh g F dl D H) (ev : Ev F dl H F1 dl1 H1) (h1 : Rh g F1 dl1 D1 H1) : WishS g F1 dl1 H1 fl r' D' En := by
  cases fl with
  | next => exact fun st' H' F' dl' e p => w st' H' F' dl' (ev.trans e) p
  | brk => exact fun st' H' F' dl' e p => w st' H' F' dl' (ev.trans e) p
  | ret v fr => exact fun u H' F' dl' e p rr => w u H' F' dl' (ev.trans e) p (rr.pre h ev h1)
/-! blocks -/
theorem lss_nil (h : tSs g T cf [] En st H) : tNext En st H := by
  obtain ⟨F, dl, r, D, fl, r', D', p, e, w⟩ := h
  unfold exSs at e
  cases e
  exact w st H F dl (Ev.refl _ _ _) p
theorem lss_cons {c : CS} {cs : List CS} (h : tSs g T cf (c :: cs) En st H) : tSeq (tS g T cf c) (tSs g T cf cs) En st H := by
  obtain ⟨F, dl, r, D, fl, r', D', p, e, w⟩ := h
  unfold exSs at e
  split at e
  · cases e
  · rename_i r1 D1 e1
    exact ⟨F, dl, r, D, .next, r1, D1, p, e1, fun st1 H1 F1 dl1 ev p1 => ⟨F1, dl1, r1, D1, fl, r', D', p1, e, w.pre p.h ev p1.h⟩⟩
  · rename_i r1 D1 e1
    cases e
    exact ⟨F, dl, r, D, .brk, _, _, p, e1, w⟩
  · rename_i v fr r1 D1 e1
    cases e
    exact ⟨F, dl, r, D, .ret v fr, _, _, p, e1, w⟩
/-! if, while -/
theorem ls_if {c : CE} {a b : List CS} (h : tS g T cf (.ifS c a b) En st H) : tIfS (tT g T cf c) (tSs g T cf a) (tSs g T cf b) En st H := by
  obtain ⟨F, dl, r, D, fl, r', D', p, e, w⟩ := h
  unfold exS at e
  split at e
  · cases e
  · rename_i x f1 D1 e1
    split at e
    · cases e
    · rename_i t1
      exact ⟨F, dl, r, D, x, f1, D1, true, p, e1, t1, fun H1 F1 dl1 ev p1 => ⟨F1, dl1, r, D1, fl, r', D', p1, e, w.pre p.h ev p1.h⟩⟩
    · rename_i t1
      exact ⟨F, dl, r, D, x, f1, D1, false, p, e1, t1, fun H1 F1 dl1 ev p1 => ⟨F1, dl1, r, D1, fl, r', D', p1, e, w.pre p.h ev p1.h⟩⟩
/-- from the start of the loop on -/
theorem ls_while {c : CE} {body : List CS} (h : tS g T cf (.whileS c body) En st H) : tWhile (tT g T cf c) (tSs g T cf body) En st H := by
  obtain ⟨F, dl, r, D, fl, r', D', p, e, w⟩ := h
  unfold exS at e
  refine ⟨fun m st H' => ∃ F' dl' r1 D1, Ev F dl H F' dl' H' ∧ Rp g F' dl' r1 D1 st H' ∧ whileF (fun r D => match evE T cf c r D with
      | none => none
      | some (x, _, D1) => (truth (deref D1 x)).map fun b => (b, D1)) (fun r D => exSs T cf body r D) m r1 D1 = some (fl, r', D'), ⟨LF, F, dl, r, D, Ev.refl _ _ _, p, e⟩, ?_⟩
  rintro m st1 H1 ⟨F1, dl1, r1, D1, ev, p1, e1⟩
  cases m with
  | zero => simp [whileF] at e1
  | succ m =>
    unfold whileF at e1
    split at e1
    · cases e1
    · rename_i D2 ec
      split at ec
      · cases ec
      · rename_i x f1 D3 e3
        obtain ⟨b, t1, t2⟩ := Option.map_eq_some_iff.mp ec
        cases t2
        cases e1
        refine ⟨F1, dl1, _, D1, x, f1, _, false, p1, e3, t1, fun H2 F2 dl2 ev2 p2 => ?_⟩
        simp only [if_false, Bool.false_eq_true]
        exact w st1 H2 F2 dl2 (ev.trans ev2) p2
    · rename_i D2 ec
      split at ec
      · cases ec
      · rename_i x f1 D3 e3
        obtain ⟨b, t1, t2⟩ := Option.map_eq_some_iff.mp ec
        cases t2
        refine ⟨F1, dl1, r1, D1, x, f1, _, true, p1, e3, t1, fun H2 F2 dl2 ev2 p2 => ?_⟩
        simp only [if_true]
        split at e1
        · cases e1
        · rename_i r4 D4 e4
          refine ⟨fun st' H' => ∃ F' dl', Ev F dl H F' dl' H' ∧ Rp g F' dl' r4 D4 st' H', fun st' H' ⟨F', dl', ev', p'⟩ => ⟨m, Nat.lt_succ_self m, F', dl', r4, D4, ev', p', e1⟩, ?_⟩
          exact ⟨F2, dl2, r1, D2, .next, r4, D4, p2, e4, fun st' H' F' dl' e' p' => ⟨F', dl', (ev.trans ev2).trans e', p'⟩⟩
        · rename_i r4 D4 e4
          cases e1
          exact ⟨fun _ _ => False, fun _ _ z => False.elim z, F2, dl2, r1, D2, .brk, _, _, p2, e4, fun st' H' F' dl' e' p' => w st' H' F' dl' ((ev.trans ev2).trans e') p'⟩
        · rename_i v fr r4 D4 e4
          cases e1
          exact ⟨fun _ _ => False, fun _ _ z => False.elim z, F2, dl2, r1, D2, .ret v fr, _, _, p2, e4, (WishS.pre (fl := .ret v fr) w p.h (ev.trans ev2) p2.h)⟩
/-! for -/
theorem runF_walks {src : PV} {step : PV → Rho → Hs → Option (Fl × Rho × Hs)} {z : Fl × Rho × Hs} (e : runF src step r D = some z) : Walks0 D src := by
  unfold runF at e
  split at e
  · rename_i n
    unfold LF forR at e
    split at e
    · rename_i xs e0; exact ⟨xs, e0⟩
    · cases e
  · rename_i v nr
    split at e
    · rename_i xs e0
      cases src <;> first | exact ⟨xs, e0⟩ | exact absurd rfl (nr _)
    · cases e
theorem drop_at {α : Type} {xs : List α} {i : Nat} {x : α} (h : xs[i]? = some x) : xs.drop i = x :: xs.drop (i + 1) := by
  obtain ⟨h1, h2⟩ := List.getElem?_eq_some_iff.mp h
  subst h2
  exact List.drop_eq_getElem_cons h1
theorem ls_for {K : PySem.W.Frag} {t : Tgt} {it : CE} {body : List CS} (h : tS g T cf (.forS t it body) En st H) : tFor (tI g T cf it) (gT K t) (tSs g T cf body) En st H := by
  obtain ⟨F, dl, r, D, fl, r', D', p, e, w⟩ := h
  unfold exS at e
  split at e
  · cases e
  · rename_i src f1 D1 e1
    refine ⟨F, dl, r, D, src, f1, D1, p, e1, runF_walks e, fun J H1 F1 dl1 ev1 p1 sc => ?_⟩
    have w1 := w.pre p.h ev1 p1.h
    have h1 := p1.h
    unfold runF at e
    split at e
    · rename_i n
      have sc : SrcR g F1 dl1 H1 n J := sc
      refine ⟨fun i m st2 H2 => ∃ F2 dl2 r2 D2, Ev F1 dl1 H1 F2 dl2 H2 ∧ Rp g F2 dl2 r2 D2 st2 H2 ∧ forR n (fun x r D => match tgtV t x r with
          | none => none
          | some r' => exSs T cf body r' D) m i r2 D2 = some (fl, r', D'), ⟨LF, F1, dl1, r, D1, Ev.refl _ _ _, p1, e⟩, ?_⟩
      rintro i m st2 H2 ⟨F2, dl2, r2, D2, ev2, p2, e2⟩
      cases m with
      | zero => simp [forR] at e2
      | succ m =>
        unfold forR at e2
        split at e2
        · rename_i xs e0
          split at e2
          · rename_i ei
            cases e2
            exact .inl ⟨sc.stop F2 dl2 _ H2 i xs ev2 p2.h e0 ei, w1 st2 H2 F2 dl2 ev2 p2⟩
          · rename_i x ei
            obtain ⟨gg, yy⟩ := sc.go F2 dl2 D2 H2 i xs x ev2 p2.h e0 ei
            refine .inr ⟨gg, ?_⟩
            split at e2
            · cases e2
            · rename_i r4 D4 e4
              refine ⟨fun st' H' => ∃ F' dl', Ev F1 dl1 H1 F' dl' H' ∧ Rp g F' dl' r4 D4 st' H', fun st' H' ⟨F', dl', ev', p'⟩ => ⟨m, Nat.lt_succ_self m, F', dl', r4, D4, ev', p', e2⟩, fun v H3 y => ?_⟩
              obtain ⟨rfl, rv⟩ := yy v H3 y
              split at e4
              · cases e4
              · rename_i r5 e5
                exact tgt_ok p2 rv e5 (own := tgtIs t) (fun _ z => z) fun st3 p3 _ => ⟨F2, dl2, r5, D2, .next, r4, D4, p3, e4, fun st' H' F' dl' e' p' => ⟨F', dl', ev2.trans e', p'⟩⟩
            · rename_i r4 D4 e4
              cases e2
              refine ⟨fun _ _ => False, fun _ _ z => False.elim z, fun v H3 y => ?_⟩
              obtain ⟨rfl, rv⟩ := yy v H3 y
              split at e4
              · cases e4
              · rename_i r5 e5
                exact tgt_ok p2 rv e5 (own := tgtIs t) (fun _ z => z) fun st3 p3 _ => ⟨F2, dl2, r5, D2, .brk, _, _, p3, e4, fun st' H' F' dl' e' p' => w1 st' H' F' dl' (ev2.trans e') p'⟩
            · rename_i u fr r4 D4 e4
              cases e2
              refine ⟨fun _ _ => False, fun _ _ z => False.elim z, fun v H3 y => ?_⟩
              obtain ⟨rfl, rv⟩ := yy v H3 y
              split at e4
              · cases e4
              · rename_i r5 e5
                exact tgt_ok p2 rv e5 (own := tgtIs t) (fun _ z => z) fun st3 p3 _ => ⟨F2, dl2, r5, D2, .ret u fr, _, _, p3, e4, WishS.pre (fl := .ret u fr) w1 h1 ev2 p2.h⟩
        · cases e2
    · rename_i v nr
      split at e
      · rename_i xs e0
        have sc : SrcC g F1 dl1 H1 xs J := by
          cases src <;> first | (obtain ⟨xs', q1, q2⟩ := sc; rw [e0] at q1; cases q1; exact q2) | exact absurd rfl (nr _)
        refine ⟨fun i m st2 H2 => m = xs.length - i ∧ i ≤ xs.length ∧ ∃ F2 dl2 r2 D2, Ev F1 dl1 H1 F2 dl2 H2 ∧ Rp g F2 dl2 r2 D2 st2 H2 ∧ forL (fun x r D => match tgtV t x r with
            | none => none
            | some r' => exSs T cf body r' D) (xs.drop i) r2 D2 = some (fl, r', D'), ⟨xs.length, rfl, Nat.zero_le _, F1, dl1, r, D1, Ev.refl _ _ _, p1, by rw [List.drop_zero]; exact e⟩, ?_⟩
        rintro i m st2 H2 ⟨hm, hle, F2, dl2, r2, D2, ev2, p2, e2⟩
        cases ei : xs[i]? with
        | none =>
          rw [List.drop_eq_nil_of_le (get_none ei)] at e2
          simp only [forL] at e2
          cases e2
          exact .inl ⟨sc.stop F2 dl2 _ H2 i ev2 p2.h (Nat.le_antisymm hle (get_none ei)), w1 st2 H2 F2 dl2 ev2 p2⟩
        | some x =>
          have hi := (List.getElem?_eq_some_iff.mp ei).1
          rw [drop_at ei] at e2
          simp only [forL] at e2
          obtain ⟨gg, yy⟩ := sc.go F2 dl2 D2 H2 i x ev2 p2.h ei
          refine .inr ⟨gg, ?_⟩
          split at e2
          · cases e2
          · rename_i r4 D4 e4
            refine ⟨fun st' H' => ∃ F' dl', Ev F1 dl1 H1 F' dl' H' ∧ Rp g F' dl' r4 D4 st' H', fun st' H' ⟨F', dl', ev', p'⟩ => ⟨xs.length - (i + 1), by omega, rfl, hi, F', dl', r4, D4, ev', p', e2⟩, fun v H3 y => ?_⟩
            obtain ⟨F3, ev3, h3, rv⟩ := yy v H3 y
            have p3 := p2.to h3 ev3
            split at e4
            · cases e4
            · rename_i r5 e5
              exact tgt_ok p3 rv e5 (own := tgtIs t) (fun _ z => z) fun st3 p4 _ => ⟨F3, dl2, r5, D2, .next, r4, D4, p4, e4, fun st' H' F' dl' e' p' => ⟨F', dl', (ev2.trans ev3).trans e', p'⟩⟩
          · rename_i r4 D4 e4
            cases e2
            refine ⟨fun _ _ => False, fun _ _ z => False.elim z, fun v H3 y => ?_⟩
            obtain ⟨F3, ev3, h3, rv⟩ := yy v H3 y
            have p3 := p2.to h3 ev3
            split at e4
            · cases e4
            · rename_i r5 e5
              exact tgt_ok p3 rv e5 (own := tgtIs t) (fun _ z => z) fun st3 p4 _ => ⟨F3, dl2, r5, D2, .brk, _, _, p4, e4, fun st' H' F' dl' e' p' => w1 st' H' F' dl' ((ev2.trans ev3).trans e') p'⟩
          · rename_i u fr r4 D4 e4
            cases e2
            refine ⟨fun _ _ => False, fun _ _ z => False.elim z, fun v H3 y => ?_⟩
            obtain ⟨F3, ev3, h3, rv⟩ := yy v H3 y
            have p3 := p2.to h3 ev3
            split at e4
            · cases e4
            · rename_i r5 e5
              exact tgt_ok p3 rv e5 (own := tgtIs t) (fun _ z => z) fun st3 p4 _ => ⟨F3, dl2, r5, D2, .ret u fr, _, _, p4, e4, WishS.pre (fl := .ret u fr) w1 h1 (ev2.trans ev3) p3.h⟩
      · cases e
end
end HT
namespace HT
open L2 PyProof.Rows PySem PySem.Spec

theorem wipe_wipe (st : L2.St) (vs : List Nat) : wipe (wipe st vs) vs = wipe st vs := by
  have key : ∀ (ws : List Nat) (t : L2.St), (∀ w ∈ ws, w ∈ vs) → wipe (wipe t ws) vs = wipe t vs := by
    intro ws
    induction ws with
    | nil => intro t _; rfl
    | cons w ws ih =>
      intro t h
      show wipe ((wipe t ws).set w none) vs = wipe t vs
      rw [wipe_set (h w (by simp)), ih t fun z hz => h z (by simp [hz])]
  exact key vs st fun _ h => h
section
variable {g : Gx} {F : Hp} {dl : List Addr} {D : Hs} {H : Hp}
/-- an object that is nobody's is written -/
theorem Rh.free {a : Addr} {u w : HO} (h : Rh g F dl D H) (hF : F a = none) (hn : a ∉ dl) (e : H a = some w) (no : ∀ x, w ≠ .own x) : Rh g F dl D (L2.upd H a u) where
  sub := fun b q hb => by
    rw [upd_ne]
    · exact h.sub b q hb
    · rintro rfl; rw [hF] at hb; cases hb
  len := h.len
  nd := h.nd
  out := h.out
  at_ := fun m b q h1 h2 => (h.at_ m b q h1 h2).upd2 e no fun z => hn (z ▸ List.mem_of_getElem? h1)
end
/-- a comprehension on its way: L the new list -/
structure Acc (g : Gx) (F1 : Hp) (dl1 : List Addr) (H1 : Hp) (L : Addr) (acc : List PV) (D : Hs) (H : Hp) (F2 : Hp) (dl2 : List Addr) (av : List V) : Prop where
  ev : Ev F1 dl1 H1 F2 dl2 H
  h : Rh g F2 dl2 D H
  at_ : H L = some (.lst av)
  nF : F2 L = none
  nd : L ∉ dl2
  rs : RVs g F2 dl2 acc av
section
variable {g : Gx} {T : Tab} {cf : CallFn} {F1 : Hp} {dl1 : List Addr} {r : Rho} {D D1 D' : Hs} {st : L2.St} {H H1 : Hp} {L : Addr} {acc : List PV} {av : List V} {F2 : Hp} {dl2 : List Addr}
theorem Acc.to {F3 : Hp} {dl3 : List Addr} {D3 : Hs} {H3 : Hp} (a : Acc g F1 dl1 H1 L acc D H F2 dl2 av) (ev : Ev F2 dl2 H F3 dl3 H3) (h3 : Rh g F3 dl3 D3 H3) : Acc g F1 dl1 H1 L acc D3 H3 F3 dl3 av where
  ev := a.ev.trans ev
  h := h3
  at_ := ev.kp _ _ a.at_ a.nd
  nF := by
    cases q : F3 L with
    | none => rfl
    | some o =>
      exfalso
      rcases ev.fn L o q with z | z | z | ⟨ys, z⟩
      · rw [a.nF] at z; cases z
      · rw [a.at_] at z; cases z
      · exact a.nd z
      · rw [a.at_] at z; cases z
  nd := fun m => by
    rcases ev.dn L m with z | z
    · exact a.nd z
    · rw [a.at_] at z; cases z
  rs := a.rs.mono ev.fm ev.dp
theorem Acc.start {F1 : Hp} {dl1 : List Addr} {D1 : Hs} (h : Rh g F1 dl1 D1 H1) (n : H1 L = none) : Acc g F1 dl1 H1 L [] D1 (upd H1 L (.lst [])) F1 dl1 [] :=
  ⟨Ev.new n, h.new n, upd_same, (h.fresh n).1, (h.fresh n).2, .nil⟩
theorem Acc.put {x : PV} {v : V} (a : Acc g F1 dl1 H1 L acc D H F2 dl2 av) (n : H1 L = none) (rv : RV g F2 dl2 x v) : Acc g F1 dl1 H1 L (acc ++ [x]) D (upd H L (.lst (av ++ [v]))) F2 dl2 (av ++ [v]) where
  ev := ⟨a.ev.fm, a.ev.dp, a.ev.dn, fun b o e m => by
    rw [upd_ne (ne_of_none e n)]; exact a.ev.kp b o e m, a.ev.fn, fun b C dx ws e => by
    rw [upd_ne (ne_of_none e n)]; exact a.ev.ki b C dx ws e⟩
  h := a.h.free a.nF a.nd a.at_ (by intro _ z; cases z)
  at_ := upd_same
  nF := a.nF
  nd := a.nd
  rs := a.rs.append (.cons rv .nil)
/-- the new list, at the end -/
theorem Acc.done (a : Acc g F1 dl1 H1 L acc D H F2 dl2 av) (n : H1 L = none) : RR g F2 dl2 H1 H (.lst acc) true (.ref L) := ⟨L, rfl, n, a.nF, a.nd, av, a.at_, a.rs⟩
abbrev compStep (T : Tab) (cf : CallFn) (t : Tgt) (own : List Nat) (conds : List CE) (elt : CE) (r : Rho) : PV → Hs → Option (Option PV × Hs) := fun x D => match tgtV t x (wipeR r own) with
  | none => none
  | some r' => match evTs T cf conds r' D with
    | none => none
    | some (false, D') => some (none, D')
    | some (true, D') => match evE T cf elt r' D' with
      | none => none
      | some (v, _, D2) => some (some v, D2)
theorem comp_turn {K : PySem.W.Frag} {t : Tgt} {own : List Nat} {conds : List CE} {elt : CE} {x : PV} {v : V} {o : Option PV} {Nx : Hp → Prop} (p1 : Rp g F1 dl1 r D1 st H1) (ho : ∀ i ∈ tgtIs t, i ∈ own) (n : H1 L = none)
    (a : Acc g F1 dl1 H1 L acc D H F2 dl2 av) (rv : RV g F2 dl2 x v) (e : compStep T cf t own conds elt r x D = some (o, D')) (hz : o ≠ none → acc.length < sizeL)
    (nx : ∀ H' F' dl' av', Acc g F1 dl1 H1 L (match o with | none => acc | some y => acc ++ [y]) D' H' F' dl' av' → Nx H') :
    gT K t v (wipe st own) H fun s2 H2 => wipe s2 own = wipe st own ∧ tTs g T cf conds s2 H2 fun b H3 =>
      if b = true then tE g T cf elt s2 H3 fun y H4 => ∃ acc, H4 L = some (.lst acc) ∧ acc.length < sizeLine ∧ Nx (upd H4 L (.lst (acc ++ [y]))) else Nx H3 := by
  have p2 : Rp g F2 dl2 (wipeR r own) D (wipe st own) H := (p1.wipe).to a.h a.ev
  unfold compStep at e
  split at e
  · cases e
  · rename_i r' e1
    refine tgt_ok p2 rv e1 ho fun s2 p3 ws => ⟨by rw [ws, wipe_wipe], ?_⟩
    split at e
    · cases e
    · rename_i D3 e2
      cases e
      refine ⟨F2, dl2, r', D, _, false, p3, e2, fun H3 F3 dl3 ev3 p4 => ?_⟩
      simp only [if_false, Bool.false_eq_true]
      exact nx H3 F3 dl3 av (a.to ev3 p4.h)
    · rename_i D3 e2
      split at e
      · cases e
      · rename_i y fy D4 e3
        cases e
        refine ⟨F2, dl2, r', D, D3, true, p3, e2, fun H3 F3 dl3 ev3 p4 => ?_⟩
        simp only [if_true]
        refine tE.bind p4 e3 fun u H4 F4 dl4 ev4 p5 ru => ?_
        have a4 := a.to (ev3.trans ev4) p5.h
        refine ⟨av, a4.at_, ?_, nx _ _ _ _ (a4.put n ru)⟩
        rw [← a4.rs.length, ← sizeL_eq]
        exact hz (by simp)
theorem runC_walks {src : PV} {step : PV → Hs → Option (Option PV × Hs)} {z : List PV × Hs} (e : runC src step D = some z) : Walks0 D src := by
  unfold runC at e
  split at e
  · rename_i n
    unfold LF compR at e
    split at e
    · rename_i xs e0; exact ⟨xs, e0⟩
    · cases e
  · rename_i v nr
    split at e
    · rename_i xs e0
      cases src <;> first | exact ⟨xs, e0⟩ | exact absurd rfl (nr _)
    · cases e
theorem lx_lc {K : PySem.W.Frag} {own : List Nat} {t : Tgt} {it : CE} {conds : List CE} {elt : CE} {Q : VK} (ho : ∀ i ∈ tgtIs t, i ∈ own) (h : tE g T cf (.lc own t it conds elt) st H Q) :
    tLc (tI g T cf it) (gT K t) (tTs g T cf conds) (tE g T cf elt) own st H Q := by
  obtain ⟨F, dl, r, D, pv, fr, D', p, e, w⟩ := h
  unfold evE at e
  split at e
  · cases e
  · rename_i src f1 D1 e1
    obtain ⟨z, e3, e4⟩ := Option.map_eq_some_iff.mp e
    obtain ⟨res, Dz⟩ := z
    cases e4
    refine ⟨F, dl, r, D, src, f1, D1, p, e1, runC_walks e3, fun J H1 F1 dl1 ev1 p1 sc L nL => ?_⟩
    have fin : ∀ {H' F' dl' av'}, Acc g F1 dl1 H1 L res Dz H' F' dl' av' → Q (.ref L) H' := fun {H' F' dl' av'} a => by
      refine w _ _ F' dl' (ev1.trans a.ev) (p1.to a.h a.ev) ?_
      exact (a.done nL).pre p.h ev1 p1.h
    unfold runC at e3
    split at e3
    · rename_i n
      have sc : SrcR g F1 dl1 H1 n J := sc
      refine ⟨fun i m H2 => ∃ acc D2 F2 dl2 av, Acc g F1 dl1 H1 L acc D2 H2 F2 dl2 av ∧ compR n (compStep T cf t own conds elt r) m i acc D2 = some (res, Dz), ⟨LF, [], D1, F1, dl1, [], Acc.start p1.h nL, e3⟩, ?_⟩
      rintro i m H2 ⟨acc, D2, F2, dl2, av, a, e5⟩
      cases m with
      | zero => simp [compR] at e5
      | succ m =>
        unfold compR at e5
        split at e5
        · rename_i xs e0
          split at e5
          · rename_i ei
            cases e5
            exact .inl ⟨sc.stop F2 dl2 _ H2 i xs a.ev a.h e0 ei, fin a⟩
          · rename_i x ei
            obtain ⟨gg, yy⟩ := sc.go F2 dl2 D2 H2 i xs x a.ev a.h e0 ei
            refine .inr ⟨gg, ?_⟩
            split at e5
            · cases e5
            · rename_i D3 e6
              refine ⟨fun H' => ∃ F' dl' av', Acc g F1 dl1 H1 L acc D3 H' F' dl' av', fun H' ⟨F', dl', av', a'⟩ => ⟨m, Nat.lt_succ_self m, acc, D3, F', dl', av', a', e5⟩, fun v H3 y => ?_⟩
              obtain ⟨rfl, rv⟩ := yy v H3 y
              exact comp_turn p1 ho nL a rv e6 (fun z => absurd rfl z) fun H' F' dl' av' a' => ⟨F', dl', av', a'⟩
            · rename_i y D3 e6
              split at e5
              · rename_i hz
                refine ⟨fun H' => ∃ F' dl' av', Acc g F1 dl1 H1 L (acc ++ [y]) D3 H' F' dl' av', fun H' ⟨F', dl', av', a'⟩ => ⟨m, Nat.lt_succ_self m, _, D3, F', dl', av', a', e5⟩, fun v H3 y => ?_⟩
                obtain ⟨rfl, rv⟩ := yy v H3 y
                exact comp_turn p1 ho nL a rv e6 (fun _ => hz) fun H' F' dl' av' a' => ⟨F', dl', av', a'⟩
              · cases e5
        · cases e5
    · rename_i v0 nr
      split at e3
      · rename_i xs e0
        have sc : SrcC g F1 dl1 H1 xs J := by
          cases src <;> first | (obtain ⟨xs', q1, q2⟩ := sc; rw [e0] at q1; cases q1; exact q2) | exact absurd rfl (nr _)
        refine ⟨fun i m H2 => m = xs.length - i ∧ i ≤ xs.length ∧ ∃ acc D2 F2 dl2 av, Acc g F1 dl1 H1 L acc D2 H2 F2 dl2 av ∧ compL (compStep T cf t own conds elt r) (xs.drop i) acc D2 = some (res, Dz), ⟨xs.length, rfl, Nat.zero_le _, [], D1, F1, dl1, [], Acc.start p1.h nL, by rw [List.drop_zero]; exact e3⟩, ?_⟩
        rintro i m H2 ⟨hm, hle, acc, D2, F2, dl2, av, a, e5⟩
        cases ei : xs[i]? with
        | none =>
          rw [List.drop_eq_nil_of_le (get_none ei)] at e5
          simp only [compL] at e5
          cases e5
          exact .inl ⟨sc.stop F2 dl2 _ H2 i a.ev a.h (Nat.le_antisymm hle (get_none ei)), fin a⟩
        | some x =>
          have hi := (List.getElem?_eq_some_iff.mp ei).1
          rw [drop_at ei] at e5
          simp only [compL] at e5
          obtain ⟨gg, yy⟩ := sc.go F2 dl2 D2 H2 i x a.ev a.h ei
          refine .inr ⟨gg, ?_⟩
          split at e5
          · cases e5
          · rename_i D3 e6
            refine ⟨fun H' => ∃ F' dl' av', Acc g F1 dl1 H1 L acc D3 H' F' dl' av', fun H' ⟨F', dl', av', a'⟩ => ⟨xs.length - (i + 1), by omega, rfl, hi, acc, D3, F', dl', av', a', e5⟩, fun v H3 y => ?_⟩
            obtain ⟨F3, ev3, h3, rv⟩ := yy v H3 y
            exact comp_turn p1 ho nL (a.to ev3 h3) rv e6 (fun z => absurd rfl z) fun H' F' dl' av' a' => ⟨F', dl', av', a'⟩
          · rename_i y D3 e6
            split at e5
            · rename_i hz
              refine ⟨fun H' => ∃ F' dl' av', Acc g F1 dl1 H1 L (acc ++ [y]) D3 H' F' dl' av', fun H' ⟨F', dl', av', a'⟩ => ⟨xs.length - (i + 1), by omega, rfl, hi, _, D3, F', dl', av', a', e5⟩, fun v H3 y => ?_⟩
              obtain ⟨F3, ev3, h3, rv⟩ := yy v H3 y
              exact comp_turn p1 ho nL (a.to ev3 h3) rv e6 (fun _ => hz) fun H' F' dl' av' a' => ⟨F', dl', av', a'⟩
            · cases e5
      · cases e3
/-! several tests -/
theorem lts_nil {Q : Bool → Hp → Prop} (h : tTs g T cf [] st H Q) : tYes st H Q := by
  obtain ⟨F, dl, r, D, D', b, p, e, w⟩ := h
  unfold evTs at e
  cases e
  exact w H F dl (Ev.refl _ _ _) p
theorem lts_one {c : CE} {Q : Bool → Hp → Prop} (h : tTs g T cf [c] st H Q) : tT g T cf c st H Q := by
  obtain ⟨F, dl, r, D, D', b, p, e, w⟩ := h
  unfold evTs at e
  split at e
  · cases e
  · rename_i v f1 D1 e1
    split at e
    · cases e
    · rename_i t1
      cases e
      exact ⟨F, dl, r, D, v, f1, _, false, p, e1, t1, w⟩
    · rename_i t1
      unfold evTs at e
      cases e
      exact ⟨F, dl, r, D, v, f1, _, true, p, e1, t1, w⟩
end
end HT
namespace HT
open L2 PyProof.Rows PySem PySem.Spec

section
variable {g : Gx} {T : Tab} {cf : CallFn} {F F1 : Hp} {dl dl1 : List Addr} {r : Rho} {D D1 D2 : Hs} {st : L2.St} {H H1 : Hp} {En : Ends}
theorem ls_set {i : Nat} {c : CE} (h : tS g T cf (.set i c) En st H) : tAsg (tE g T cf c) (gName i) En st H := by
  obtain ⟨F, dl, r, D, fl, r', D', p, e, w⟩ := h
  unfold exS at e
  split at e
  · cases e
  · rename_i v f1 D1 e1
    cases e
    exact tE.bind p e1 fun u H1 F1 dl1 ev p1 rv => w _ _ _ _ ev (p1.set rv)
/-- a new list (dict) is taken into the store -/
theorem heap_ok {v v' : PV} {fr : Bool} {u : V} (p1 : Rp g F1 dl1 r D1 st H1) (ev : Ev F dl H F1 dl1 H1) (rr : RR g F1 dl1 H H1 v fr u) (e : heapV v fr D1 = some (v', D2)) :
    ∃ dl2, Ev F dl H F1 dl2 H1 ∧ Rp g F1 dl2 r D2 st H1 ∧ RV g F1 dl2 v' u := by
  have new : ∀ (o : DO) (a : Addr), H a = none → F1 a = none → a ∉ dl1 → RD g F1 dl1 H1 o a → ∃ dl2, Ev F dl H F1 dl2 H1 ∧ Rp g F1 dl2 r (D1 ++ [o]) st H1 ∧ RV g F1 dl2 (.ref D1.length) (.ref a) := fun o a h0 hF hn d => by
    have dp : ∀ (n : Nat) x, dl1[n]? = some x → (dl1 ++ [a])[n]? = some x := fun n x q => by
      rw [List.getElem?_append_left (List.getElem?_eq_some_iff.mp q).1]; exact q
    refine ⟨dl1 ++ [a], ⟨ev.fm, fun n x q => dp n x (ev.dp n x q), fun x q => ?_, ev.kp, ev.fn, ev.ki⟩, ⟨p1.h.snoc hF hn d, p1.len, fun i pv q => ?_⟩, .ref ?_⟩
    · rcases List.mem_append.mp q with z | z
      · exact ev.dn x z
      · simp at z; subst z; exact .inr h0
    · obtain ⟨w, e1, e2⟩ := p1.sl i pv q
      exact ⟨w, e1, e2.mono (Le.refl _) dp⟩
    · rw [List.getElem?_append_right (by rw [p1.h.len]; exact Nat.le_refl _), p1.h.len]
      simp
  unfold heapV at e
  split at e
  · rename_i n
    cases e
    cases fr with
    | false => exact ⟨dl1, ev, p1, rr⟩
    | true => obtain ⟨_, _, _, _, _, z⟩ := rr; exact (show False from z).elim
  · rename_i xs
    split at e
    · rename_i hz
      cases e
      simp only [Bool.and_eq_true] at hz
      obtain ⟨rfl, hp⟩ := hz
      obtain ⟨a, rfl, h0, hF, hn, vs, h1, rs⟩ := rr
      exact new _ a h0 hF hn (.lst h1 hp rs)
    · cases e
  · rename_i xs
    split at e
    · rename_i hz
      cases e
      simp only [Bool.and_eq_true] at hz
      obtain ⟨rfl, hp⟩ := hz
      obtain ⟨a, rfl, h0, hF, hn, q⟩ := rr
      rcases q with ⟨kvs, h1, rs⟩ | ⟨kvs, h1, rs⟩
      · exact new _ a h0 hF hn (.dK h1 hp rs)
      · exact new _ a h0 hF hn (.dT h1 hp rs)
    · cases e
  · cases e
theorem ls_setM {i : Nat} {c : CE} (h : tS g T cf (.setM i c) En st H) : tAsg (tE g T cf c) (gName i) En st H := by
  obtain ⟨F, dl, r, D, fl, r', D', p, e, w⟩ := h
  unfold exS at e
  split at e
  · cases e
  · rename_i v f1 D1 e1
    split at e
    · cases e
    · rename_i v' D2 e2
      cases e
      refine ⟨F, dl, r, D, v, f1, D1, p, e1, fun u H1 F1 dl1 ev p1 rr => ?_⟩
      obtain ⟨dl2, ev2, p2, rv⟩ := heap_ok p1 ev rr e2
      exact w _ _ _ _ ev2 (p2.set rv)
/-! several at once -/
def tP (g : Gx) (T : Tab) (cf : CallFn) (is : List (Nat × Bool)) (cs : List CE) : TA := fun st H Q => ∃ F dl r D pvs D', Rp g F dl r D st H ∧ evPar T cf is cs r D = some (pvs, D') ∧
  ∀ vs H' F' dl', Ev F dl H F' dl' H' → Rp g F' dl' r D' st H' → RVs g F' dl' pvs vs → Q vs H'
theorem lp_nil {Q : List V → Hp → Prop} (h : tP g T cf [] [] st H Q) : tNil st H Q := by
  obtain ⟨F, dl, r, D, pvs, D', p, e, w⟩ := h
  unfold evPar at e
  cases e
  exact w [] H F dl (Ev.refl _ _ _) p .nil
theorem lp_cons {i : Nat × Bool} {is : List (Nat × Bool)} {c : CE} {cs : List CE} {Q : List V → Hp → Prop} (h : tP g T cf (i :: is) (c :: cs) st H Q) : tCons (tE g T cf c) (tP g T cf is cs) st H Q := by
  obtain ⟨F, dl, r, D, pvs, D', p, e, w⟩ := h
  obtain ⟨i, b⟩ := i
  unfold evPar at e
  split at e
  · cases e
  · rename_i v fr D1 e1
    split at e
    · cases e
    · rename_i v' D2 e2
      split at e
      · cases e
      · rename_i vs D3 e3
        cases e
        cases b with
        | false =>
          simp only [Bool.false_eq_true, if_false] at e2
          cases e2
          exact tE.bind p e1 fun u H1 F1 dl1 ev1 p1 r1 => ⟨F1, dl1, r, _, vs, _, p1, e3, fun us H2 F2 dl2 ev2 p2 r2 => w _ _ _ _ (ev1.trans ev2) p2 (.cons (r1.mono ev2.fm ev2.dp) r2)⟩
        | true =>
          simp only [if_true] at e2
          refine ⟨F, dl, r, D, v, fr, D1, p, e1, fun u H1 F1 dl1 ev1 p1 rr => ?_⟩
          obtain ⟨dl2, ev2, p2, rv⟩ := heap_ok p1 ev1 rr e2
          exact ⟨F1, dl2, r, D2, vs, _, p2, e3, fun us H2 F2 dl3 ev3 p3 r3 => w _ _ _ _ (ev2.trans ev3) p3 (.cons (rv.mono ev3.fm ev3.dp) r3)⟩
/-- the slots by turns -/
def setV : List Nat → List V → L2.St → L2.St
  | [], _, st => st
  | _ :: _, [], st => st
  | i :: is, v :: vs, st => setV is vs (st.set i (some v))
theorem setV_rp : ∀ {is : List Nat} {xs : List PV} {vs : List V} {r r' : Rho} {st : L2.St}, Rp g F dl r D st H → RVs g F dl xs vs → setAll is xs r = some r' → Rp g F dl r' D (setV is vs st) H
  | [], [], _, r, _, st, p, .nil, e => by
    unfold setAll at e
    cases e
    exact p
  | [], _ :: _, _, _, _, _, _, _, e => by simp [setAll] at e
  | _ :: _, [], _, _, _, _, _, _, e => by simp [setAll] at e
  | i :: is, x :: xs, _, r, _, st, p, .cons hx hr, e => by
    unfold setAll at e
    show Rp g F dl _ D (setV is _ (st.set i (some _))) H
    exact setV_rp (is := is) (p.set hx) hr e
/-- name, name, .. = a row of values -/
def tParV (is : List Nat) (t : TA) : TS := fun En st H => t st H fun vs H1 => vs.length = is.length ∧ En.nx (setV is vs st) H1
theorem ls_par {is : List (Nat × Bool)} {cs : List CE} (h : tS g T cf (.par is cs) En st H) : tParV (is.map (·.1)) (tP g T cf is cs) En st H := by
  obtain ⟨F, dl, r, D, fl, r', D', p, e, w⟩ := h
  unfold exS at e
  split at e
  · cases e
  · rename_i vs D1 e1
    split at e
    · cases e
    · rename_i r2 e2
      cases e
      exact ⟨F, dl, r, D, vs, _, p, e1, fun us H1 F1 dl1 ev p1 rs => ⟨by rw [← rs.length]; exact setAll_len e2, w _ _ _ _ ev (setV_rp p1 rs e2)⟩⟩
theorem ls_setT {K : PySem.W.Frag} {is : List Nat} {c : CE} (h : tS g T cf (.setT is c) En st H) : tAsg (tE g T cf c) (gNames K is) En st H := by
  obtain ⟨F, dl, r, D, fl, r', D', p, e, w⟩ := h
  unfold exS at e
  split at e
  · rename_i vs f1 D1 e1
    split at e
    · cases e
    · rename_i r2 e2
      cases e
      exact tE.bind p e1 fun u H1 F1 dl1 ev p1 rv => tgt_ok (t := .names is) (own := is) p1 rv (show tgtV (.names is) (.tup vs) r = some _ from e2) (fun _ z => z) fun s2 p2 _ => w _ _ _ _ ev p2
  · cases e
theorem ls_expr {c : CE} (h : tS g T cf (.expr c) En st H) : tDrop (tE g T cf c) En st H := by
  obtain ⟨F, dl, r, D, fl, r', D', p, e, w⟩ := h
  unfold exS at e
  split at e
  · cases e
  · rename_i v f1 D1 e1
    cases e
    exact tE.bind p e1 fun u H1 F1 dl1 ev p1 rv => w _ _ _ _ ev p1
theorem ls_ret {c : CE} (h : tS g T cf (.ret c) En st H) : tRet (tE g T cf c) En st H := by
  obtain ⟨F, dl, r, D, fl, r', D', p, e, w⟩ := h
  unfold exS at e
  split at e
  · cases e
  · rename_i v f1 D1 e1
    cases e
    exact ⟨F, dl, r, D, v, f1, _, p, e1, fun u H1 F1 dl1 ev p1 rr => w u H1 F1 dl1 ev p1.h rr⟩
theorem ls_setItem {o i c : CE} (h : tS g T cf (.setItem o i c) En st H) : tAsg (tE g T cf c) (gSub (tE g T cf o) (tE g T cf i) (rSetV g)) En st H := by
  obtain ⟨F, dl, r, D, fl, r', D', p, e, w⟩ := h
  unfold exS at e
  split at e
  · cases e
  · rename_i v f1 D1 e1
    split at e
    · cases e
    · rename_i ov f2 D2 e2
      split at e
      · cases e
      · rename_i iv f3 D3 e3
        split at e
        · cases e
        · rename_i D4 e4
          cases e
          exact tE.bind p e1 fun u H1 F1 dl1 ev1 p1 r1 => tE.bind p1 e2 fun u2 H2 F2 dl2 ev2 p2 r2 => tE.bind p2 e3 fun u3 H3 F3 dl3 ev3 p3 r3 =>
            ⟨F3, dl3, D3, ov, iv, v, _, p3.h, r2.mono ev3.fm ev3.dp, r3, (r1.mono ev2.fm ev2.dp).mono ev3.fm ev3.dp, e4, fun H' ev' h' => w _ _ _ _ (((ev1.trans ev2).trans ev3).trans ev') (p3.to h' ev')⟩
theorem ls_setIT {K : PySem.W.Frag} {o i c : CE} {j : Nat} (h : tS g T cf (.setIT o i j c) En st H) : tAsg (tE g T cf c) (gTup K 2 (gCons (gSub (tE g T cf o) (tE g T cf i) (rSetV g)) (gCons (gName j) gNil))) En st H := by
  obtain ⟨F, dl, r, D, fl, r', D', p, e, w⟩ := h
  unfold exS at e
  split at e
  · rename_i a b f1 D1 e1
    split at e
    · cases e
    · rename_i ov f2 D2 e2
      split at e
      · cases e
      · rename_i iv f3 D3 e3
        split at e
        · cases e
        · rename_i D4 e4
          cases e
          refine tE.bind p e1 fun u H1 F1 dl1 ev1 p1 r1 => ?_
          cases r1 with
          | tup h1 rs =>
            obtain ⟨x, y, rfl, rx, ry⟩ := two_rv rs
            refine ⟨_, _, rfl, SqT.of (p1.h.sub _ _ h1), rfl, x, [y], rfl, ?_⟩
            exact tE.bind p1 e2 fun u2 H2 F2 dl2 ev2 p2 r2 => tE.bind p2 e3 fun u3 H3 F3 dl3 ev3 p3 r3 =>
              ⟨F3, dl3, D3, ov, iv, a, _, p3.h, r2.mono ev3.fm ev3.dp, r3, (rx.mono ev2.fm ev2.dp).mono ev3.fm ev3.dp, e4, fun H' ev' h' =>
                ⟨y, [], rfl, rfl, w _ _ _ _ (((ev1.trans ev2).trans ev3).trans ev') ((p3.to h' ev').set (((ry.mono ev2.fm ev2.dp).mono ev3.fm ev3.dp).mono ev'.fm ev'.dp))⟩⟩
  · cases e
theorem ls_aug {i : Nat} {c : CE} (h : tS g T cf (.aug i c) En st H) : tAug i (tE g T cf c) (ipI fun i j => i + j) En st H := by
  obtain ⟨F, dl, r, D, fl, r', D', p, e, w⟩ := h
  unfold exS at e
  split at e
  · rename_i a e0
    split at e
    · rename_i b f1 D1 e1
      cases e
      obtain ⟨v, e2, rv⟩ := p.sl i _ e0
      cases rv
      refine ⟨_, e2, tE.bind p e1 fun u H1 F1 dl1 ev p1 ru => ?_⟩
      cases ru
      exact ⟨a, b, rfl, rfl, w _ _ _ _ ev (p1.set (.int _))⟩
    · cases e
  · cases e
end
section
variable {W : Wd} {cf : CallFn} {st : L2.St} {H : Hp} {En : Ends} {X : Cx}
theorem ls_setAttr {f : Nat} {o c : CE} (ok : W.Ok) (hK : X.K = W.g.K) (h : tS W.g W.T cf (.setAttr f o c) En st H) : sFld X.K (tE W.g W.T cf o) (tE W.g W.T cf c) (W.g.fld f) En st H := by
  obtain ⟨F, dl, r, D, fl, r', D', p, e, w⟩ := h
  unfold exS at e
  split at e
  · cases e
  · rename_i v f1 D1 e1
    split at e
    · rename_i n f2 D2 e2
      split at e
      · rename_i cc fs e3
        split at e
        · rename_i hz
          cases e
          simp only [Bool.and_eq_true, decide_eq_true_eq, beq_iff_eq] at hz
          obtain ⟨⟨hp, hl⟩, hc⟩ := hz
          obtain ⟨C, eC, hf⟩ := Option.map_eq_some_iff.mp hc
          have cx := ok.cls cc C eC
          refine tE.bind p e1 fun u H1 F1 dl1 ev1 p1 r1 => tE.bind p1 e2 fun u2 H2 F2 dl2 ev2 p2 r2 => ?_
          obtain ⟨a, dx, ws, rfl, ha, h1, h2, hpf, rf⟩ := p2.h.objD r2 e3
          refine ⟨a, W.g.cls cc, dx, ws, rfl, h1, by rw [hK]; exact cx.cf.cl, by rw [hK]; exact cx.na f hf, by rw [← rf.length]; omega, ?_⟩
          have rv := r1.mono ev2.fm ev2.dp
          have ne : dx ≠ a := ne_of h2 h1 (by intro z; cases z)
          refine w _ _ _ _ ((ev1.trans ev2).trans (Ev.write ha h1 (by intro C2 d2 w2 z; cases z; exact ⟨_, rfl⟩))) (p2.to (p2.h.write ha h1 (by intro _ z; cases z) (.obj upd_same ?_ (pureFs_put hp hpf) (putN_rel ok.inj rv rf))) (Ev.write ha h1 (by intro C2 d2 w2 z; cases z; exact ⟨_, rfl⟩)))
          rw [upd_ne ne]
          exact h2
        · cases e
      · cases e
    · cases e
end
end HT
namespace HT
open L2 PyProof.Rows PySem PySem.Spec

section
variable {g : Gx} {F F1 : Hp} {dl dl1 : List Addr} {D D1 : Hs} {H H1 : Hp}
/-- what the def made for itself will not change any more -/
def frozen (F1 : Hp) (dl1 : List Addr) (n : Nat) (H1 : Hp) : Hp := fun a => if a ∈ dl1.drop n then H1 a else F1 a
theorem drop_take {n : Nat} {a : Addr} (nd : dl1.Nodup) (h1 : a ∈ dl1.take n) (h2 : a ∈ dl1.drop n) : False := by
  rw [← List.take_append_drop n dl1, List.nodup_append] at nd
  exact nd.2.2 a h1 a h2 rfl
theorem frozen_le (h1 : Rh g F1 dl1 D1 H1) (n : Nat) : Le F1 (frozen F1 dl1 n H1) := fun a o e => by
  unfold frozen
  split
  · exact h1.sub a o e
  · exact e
theorem frozen_rh (h1 : Rh g F1 dl1 D1 H1) (n : Nat) : Rh g (frozen F1 dl1 n H1) (dl1.take n) (D1.take n) H1 where
  sub := fun a o e => by
    unfold frozen at e
    split at e
    · exact e
    · exact h1.sub a o e
  len := (h1.take n).len
  nd := (h1.take n).nd
  out := fun a m => by
    unfold frozen
    split
    · rename_i z; exact (drop_take h1.nd m z).elim
    · exact h1.out a (List.mem_of_mem_take m)
  at_ := fun m a o e1 e2 => ((h1.take n).at_ m a o e1 e2).mono (frozen_le h1 n)
theorem ref_drop {n m : Nat} {a : Addr} (e : dl1[m]? = some a) (h : n ≤ m) : a ∈ dl1.drop n := by
  rw [List.mem_iff_getElem?]
  exact ⟨m - n, by rw [List.getElem?_drop]; rw [show n + (m - n) = m by omega]; exact e⟩
theorem ref_take {n m : Nat} {a : Addr} (e : dl1[m]? = some a) (h : m < n) : (dl1.take n)[m]? = some a := by
  rw [List.getElem?_take, if_pos h]; exact e
mutual
theorem snap_ok (h1 : Rh g F1 dl1 D1 H1) (n : Nat) : ∀ {x y : PV} {v : V}, RV g F1 dl1 x v → snapV n D1 x = some y → RV g (frozen F1 dl1 n H1) (dl1.take n) y v
  | _, _, _, .non, e => by simp only [snapV] at e; cases e; exact .non
  | _, _, _, .bl b, e => by simp only [snapV] at e; cases e; exact .bl b
  | _, _, _, .int b, e => by simp only [snapV] at e; cases e; exact .int b
  | _, _, _, .str b, e => by simp only [snapV] at e; cases e; exact .str b
  | _, _, _, .tup h r, e => by
    simp only [snapV] at e
    obtain ⟨ys, e1, rfl⟩ := Option.map_eq_some_iff.mp e
    exact .tup (frozen_le h1 n _ _ h) (snaps_ok h1 n r e1)
  | _, _, _, .lst h r, e => by
    simp only [snapV] at e
    obtain ⟨ys, e1, rfl⟩ := Option.map_eq_some_iff.mp e
    exact .lst ((frozen_le h1 n).sqE h) (snaps_ok h1 n r e1)
  | _, _, _, .dK h r, e => by
    simp only [snapV] at e
    split at e
    · rename_i q; cases e; exact .dK (frozen_le h1 n _ _ h) (r.out (frozen_le h1 n) q)
    · cases e
  | _, _, _, .dT h r, e => by
    simp only [snapV] at e
    split at e
    · rename_i q; cases e; exact .dT (frozen_le h1 n _ _ h) (r.out (frozen_le h1 n) q)
    · cases e
  | _, _, _, .obj h h2 r, e => by
    simp only [snapV] at e
    split at e
    · rename_i q; cases e; exact .obj (frozen_le h1 n _ _ h) (frozen_le h1 n _ _ h2) (r.out (frozen_le h1 n) q)
    · cases e
  | _, _, _, .ref (n := m) h, e => by
    simp only [snapV] at e
    split at e
    · rename_i q; cases e; exact .ref (ref_take h q)
    · rename_i q
      have hm := ref_drop h (by omega : n ≤ m)
      have fz : ∀ {o}, H1 _ = some o → frozen F1 dl1 n H1 _ = some o := fun {o} z => by unfold frozen; rw [if_pos hm]; exact z
      obtain ⟨o, e1, d⟩ := h1.get h
      cases d with
      | lst a b c =>
        rw [e1] at e
        cases e
        exact .lst (.inl (.inl (fz a))) (c.out (frozen_le h1 n) b)
      | dK a b c =>
        rw [e1] at e
        cases e
        exact .dK (fz a) (c.out (frozen_le h1 n) b)
      | dT a b c =>
        rw [e1] at e
        cases e
        exact .dT (fz a) (c.out (frozen_le h1 n) b)
      | obj a b c d =>
        rw [e1] at e
        cases e
theorem snaps_ok (h1 : Rh g F1 dl1 D1 H1) (n : Nat) : ∀ {x y : List PV} {v : List V}, RVs g F1 dl1 x v → snapAll n D1 x = some y → RVs g (frozen F1 dl1 n H1) (dl1.take n) y v
  | _, _, _, .nil, e => by simp only [snapAll] at e; cases e; exact .nil
  | _, _, _, .cons h r, e => by
    simp only [snapAll] at e
    split at e
    · cases e
    · rename_i y e1
      split at e
      · cases e
      · rename_i ys e2
        cases e
        exact .cons (snap_ok h1 n h e1) (snaps_ok h1 n r e2)
end
theorem ev_take {F2 : Hp} (h : Rh g F dl D H) (ev : Ev F dl H F1 dl1 H1) (l : Le F1 F2) (fn : ∀ b o, F2 b = some o → F1 b = some o ∨ b ∈ dl1) : Ev F dl H F2 (dl1.take D.length) H1 where
  fm := ev.fm.trans l
  dp := fun n a e => ref_take (ev.dp n a e) (by rw [← h.len]; exact (List.getElem?_eq_some_iff.mp e).1)
  dn := fun a m => ev.dn a (List.mem_of_mem_take m)
  kp := ev.kp
  fn := fun a o e => by
    rcases fn a o e with q | q
    · exact ev.fn a o q
    · rcases ev.dn a q with z | z
      · exact .inr (.inr (.inl z))
      · exact .inr (.inl z)
  ki := ev.ki
/-- a thing of the store made by the def was not there ahead of it -/
theorem own_new (h : Rh g F dl D H) (ev : Ev F dl H F1 dl1 H1) (h1 : Rh g F1 dl1 D1 H1) {m : Nat} {a : Addr} (e : dl1[m]? = some a) (hm : D.length ≤ m) : H a = none := by
  rcases ev.dn a (List.mem_of_getElem? e) with z | z
  · exfalso
    obtain ⟨i, hi, q⟩ := List.mem_iff_getElem.mp z
    have e2 := ev.dp i a (by rw [List.getElem?_eq_getElem hi, q])
    have := nd_ix h1.nd e e2
    have := h.len
    omega
  · exact z
theorem finish_ok {al : Bool} {v pv : PV} {fr fr' : Bool} {Df : Hs} {u : V} (h : Rh g F dl D H) (ev : Ev F dl H F1 dl1 H1) (h1 : Rh g F1 dl1 D1 H1) (rr : RR g F1 dl1 H H1 v fr u) (e : finish al D.length v fr D1 = some (pv, fr', Df)) :
    ∃ F2 dl2, Ev F dl H F2 dl2 H1 ∧ Rh g F2 dl2 Df H1 ∧ RR g F2 dl2 H H1 pv fr' u := by
  have lenle : D.length ≤ dl1.length := by
    rcases Nat.lt_or_ge dl1.length D.length with z | z
    · exfalso
      have hl := h.len
      have q := ev.dp dl1.length (dl[dl1.length]'(by omega)) (List.getElem?_eq_getElem _)
      have := (List.getElem?_eq_some_iff.mp q).1
      omega
    · exact z
  unfold finish at e
  split at e
  · split at e
    · rename_i xs
      split at e
      · rename_i hz
        cases e
        simp only [Bool.and_eq_true] at hz
        obtain ⟨rfl, hp⟩ := hz
        obtain ⟨a, rfl, h0, hF, hn, vs, g1, rs⟩ := rr
        have e0 := ev_take h ev (Le.refl F1) (fun _ _ z => .inl z)
        have hr := (h1.take D.length).snoc (o := .lst xs) (a := a) hF (fun z => hn (List.mem_of_mem_take z)) (.lst g1 hp (rs.out (Le.refl _) hp))
        refine ⟨F1, dl1.take D.length ++ [a], ⟨e0.fm, fun n x q => ?_, fun x q => ?_, e0.kp, e0.fn, e0.ki⟩, hr, .ref ?_⟩
        · have z := e0.dp n x q
          rw [List.getElem?_append_left (List.getElem?_eq_some_iff.mp z).1]
          exact z
        · rcases List.mem_append.mp q with z | z
          · exact e0.dn x z
          · simp at z; subst z; exact .inr h0
        · rw [List.getElem?_append_right (by rw [List.length_take]; omega), List.length_take, Nat.min_eq_left lenle]
          simp
      · cases e
    · cases e
  · split at e
    · rename_i m
      have rv : RV g F1 dl1 (.ref m) u := by
        cases fr with
        | false => exact rr
        | true => obtain ⟨_, _, _, _, _, z⟩ := rr; exact (show False from z).elim
      split at e
      · rename_i hm
        cases e
        cases rv with
        | ref q => exact ⟨F1, dl1.take D.length, ev_take h ev (Le.refl F1) (fun _ _ z => .inl z), h1.take _, .ref (ref_take q hm)⟩
      · rename_i hm
        cases rv with
        | ref q =>
          have hn := own_new h ev h1 q (by omega)
          have hF := h1.out _ (List.mem_of_getElem? q)
          have nt : ∀ {a}, dl1[m]? = some a → a ∉ dl1.take D.length := fun {a} q2 z => drop_take h1.nd z (ref_drop q2 (by omega))
          obtain ⟨o, e1, d⟩ := h1.get q
          have e0 := ev_take h ev (Le.refl F1) (fun _ _ z => .inl z)
          cases d with
          | lst a b c =>
            rw [e1] at e
            cases e
            exact ⟨F1, dl1.take D.length, e0, h1.take _, _, rfl, hn, hF, nt q, _, a, c.out (Le.refl _) b⟩
          | dK a b c =>
            rw [e1] at e
            cases e
            exact ⟨F1, dl1.take D.length, e0, h1.take _, _, rfl, hn, hF, nt q, .inl ⟨_, a, c.out (Le.refl _) b⟩⟩
          | dT a b c =>
            rw [e1] at e
            cases e
            exact ⟨F1, dl1.take D.length, e0, h1.take _, _, rfl, hn, hF, nt q, .inr ⟨_, a, c.out (Le.refl _) b⟩⟩
          | obj a b c d =>
            rw [e1] at e
            cases e
    · rename_i nr
      obtain ⟨y, e1, e2⟩ := Option.map_eq_some_iff.mp e
      cases e2
      have fz : ∀ b o, frozen F1 dl1 D.length H1 b = some o → F1 b = some o ∨ b ∈ dl1 := fun b o z => by
        unfold frozen at z
        split at z
        · rename_i m; exact .inr (List.mem_of_mem_drop m)
        · exact .inl z
      refine ⟨frozen F1 dl1 D.length H1, dl1.take D.length, ev_take h ev (frozen_le h1 _) fz, frozen_rh h1 _, ?_⟩
      cases fr with
      | false => exact snap_ok h1 _ rr e1
      | true =>
        obtain ⟨a, rfl, h0, hF, hn, q⟩ := rr
        have hF2 : frozen F1 dl1 D.length H1 a = none := by
          unfold frozen
          rw [if_neg (fun z => hn (List.mem_of_mem_drop z))]
          exact hF
        have hn2 : a ∉ dl1.take D.length := fun z => hn (List.mem_of_mem_take z)
        cases v with
        | lst xs =>
          obtain ⟨vs, g1, rs⟩ := q
          simp only [snapV] at e1
          obtain ⟨ys, e3, rfl⟩ := Option.map_eq_some_iff.mp e1
          exact ⟨a, rfl, h0, hF2, hn2, vs, g1, snaps_ok h1 _ rs e3⟩
        | dct xs =>
          simp only [snapV] at e1
          split at e1
          · rename_i hp
            cases e1
            rcases q with ⟨kvs, g1, rs⟩ | ⟨kvs, g1, rs⟩
            · exact ⟨a, rfl, h0, hF2, hn2, .inl ⟨kvs, g1, rs.out (frozen_le h1 _) hp⟩⟩
            · exact ⟨a, rfl, h0, hF2, hn2, .inr ⟨kvs, g1, rs.out (frozen_le h1 _) hp⟩⟩
          · cases e1
        | _ => exact (show False from q).elim
end
/-- the start of a def -/
theorem start_rp {g : Gx} {F : Hp} {dl : List Addr} {D : Hs} {H : Hp} {Fn : FnI} {N : List Str} {ps : List PV} {vs : List V} (h : Rh g F dl D H) (rs : RVs g F dl ps vs) (hl : ps.length = Fn.params) (hN : N.length = Fn.slots) : Rp g F dl (start Fn ps) D (L2.start N vs) H := by
  have hv := rs.length
  refine ⟨h, ?_, fun i pv e => ?_⟩
  · unfold start L2.start
    simp only [List.length_append, List.length_map, List.length_replicate]
    omega
  · unfold start at e
    by_cases hi : i < ps.length
    · rw [List.getElem?_append_left (by simpa using hi), List.getElem?_map] at e
      cases q : ps[i]? with
      | none => simp [q] at e
      | some x =>
        rw [q] at e
        cases e
        obtain ⟨v, e2, rv⟩ := rs.get q
        refine ⟨v, ?_, rv⟩
        unfold L2.start
        rw [List.getElem?_append_left (by rw [List.length_map, ← hv]; exact hi), List.getElem?_map, e2]
        rfl
    · rw [List.getElem?_append_right (by simpa using hi), List.getElem?_replicate] at e
      split at e <;> cases e
/-- a def by its body -/
theorem body_ok {g : Gx} {T : Tab} {d : Nat} {f : Nat} {Fn : FnI} {N : List Str} {vs : List V} {H : Hp} {Q : VK} (hf : T.fns f = some Fn) (hN : N.length = Fn.slots) (h : spC g (callF T (d + 1)) f vs H Q) :
    vs.length = Fn.params ∧ tSs g T (callF T d) Fn.body { nx := fun _ H' => Q .non H', rt := Q } (L2.start N vs) H := by
  obtain ⟨F, dl, D, ps, pv, fr, D', hh, rs, e, w⟩ := h
  simp only [callF, hf] at e
  split at e
  · rename_i hl
    refine ⟨by rw [← rs.length]; exact hl, ?_⟩
    split at e
    · rename_i v fr1 r1 D1 e1
      refine ⟨F, dl, start Fn ps, D, _, r1, D1, start_rp hh rs hl hN, e1, fun u H1 F1 dl1 ev h1 rr => ?_⟩
      obtain ⟨F2, dl2, ev2, h2, rr2⟩ := finish_ok hh ev h1 rr e
      exact w u H1 F2 dl2 ev2 h2 rr2
    · rename_i r1 D1 e1
      refine ⟨F, dl, start Fn ps, D, _, r1, D1, start_rp hh rs hl hN, e1, fun st1 H1 F1 dl1 ev p1 => ?_⟩
      obtain ⟨F2, dl2, ev2, h2, rr2⟩ := finish_ok hh ev p1.h (fr := false) (v := .non) (u := .non) (RV.non) e
      exact w _ H1 F2 dl2 ev2 h2 rr2
    · cases e
  · cases e
end HT
/-! enumerate of a tuple -/
namespace HT
open L2 PyProof.Rows PySem PySem.Spec
theorem enum_newT (l : Addr) (its : Array Value) (n : Nat) (dd : Option Addr) (sl : Array (Option Value)) :
    Meets (Builtin.«enumerate.__new__» ⟨[.type "enumerate", .ref l], []⟩) (fun _ R s => s.heap.get? l = some ⟨.type "tuple", dd, .seq its n, sl⟩ ∧
      R (.ok (.ret (.ref (s.heap.push { cls := .type "tuple_iterator", data := .fields #[.ref l, .int 0 0] }).objs.size)))
        { s with heap := (s.heap.push { cls := .type "tuple_iterator", data := .fields #[.ref l, .int 0 0] }).push { cls := .type "enumerate", data := .fields #[.none, .bool false, .ref s.heap.objs.size, rawInt 0, .none, .none] } }) :=
  .of_wp fun P0 w0 A0 R0 S0 wish => by
    obtain ⟨hp, gg, dr, tks, os0⟩ := S0
    obtain ⟨e0, h⟩ := wish
    have hsub := sub_enumerate
    have tp : Heap.IsTuple (Shared.heap ⟨hp, gg, dr, tks, os0⟩) l its := ⟨_, e0, rfl, n, rfl⟩
    wp_walk using AutoSeq1.wpAny_loadPart' e0
    refine wpAny_stack_any fun stk => ?_
    refine wpAny_pure ?_
    split
    · rename_i c _ _ _ _ _
      cases (c == Value.type "enumerate") <;> (wp_walk using AutoSeq1.wpAny_loadPart' e0, wpAny_pyIter_tuple tp; exact ⟨_, rfl, h⟩)
    · wp_walk using AutoSeq1.wpAny_loadPart' e0, wpAny_pyIter_tuple tp
      exact ⟨_, rfl, h⟩
theorem call_enumT {prog : Program} {w : World} {A : Around} {E : Value → Shared → Prop} {s : Shared} {l : Addr} {its : Array Value} {Q : Value → Shared → Prop} (hL : s.heap.IsTuple l its)
    (h : ∀ h', IsEnum h' (s.heap.objs.size + 1) s.heap.objs.size 0 .none → h'.IsTupleIter s.heap.objs.size l 0 → (∀ b o, s.heap.get? b = some o → h'.get? b = some o) → Q (.ref (s.heap.objs.size + 1)) { s with heap := h' }) :
    wpAny (model prog w) A (PySem.call (.type "enumerate") [.ref l]) Q E s := by
  obtain ⟨⟨c, dd, dt, sl⟩, e0, hc, n, hd⟩ := hL
  simp only at hc hd
  subst hc hd
  refine callType_new F.called_enumerate (by decide) (F.typeCall_enumerate_1 _) (F.newCall_enumerate_1 _) (fun obj => F.args_object_init_2 obj _) F.entry_enumerate_new (enum_newT l its n dd sl) ⟨e0, ?_⟩
  generalize hq : s.heap.push { cls := .type "tuple_iterator", data := .fields #[.ref l, .int 0 0] } = h2
  have hz : h2.objs.size = s.heap.objs.size + 1 := by rw [← hq, Heap.size_push]
  have k1 : ∀ b o, s.heap.get? b = some o → h2.get? b = some o := fun b o e => by rw [← hq]; exact Heap.get?_push_of_some _ e
  have i1 : h2.get? s.heap.objs.size = some { cls := .type "tuple_iterator", data := .fields #[.ref l, .int 0 0] } := by rw [← hq]; exact Heap.get?_push_size _ rfl
  show _ ∧ _
  rw [hz]
  have he : IsEnum (h2.push { cls := .type "enumerate", data := .fields #[.none, .bool false, .ref s.heap.objs.size, rawInt 0, .none, .none] }) (s.heap.objs.size + 1) s.heap.objs.size 0 .none := by
    have z := Heap.get?_push_size h2 (o := { cls := .type "enumerate", data := .fields #[.none, .bool false, .ref s.heap.objs.size, rawInt 0, .none, .none] }) rfl
    rw [hz] at z
    exact z
  exact ⟨⟨_, he, rfl⟩, h _ he ⟨_, Heap.get?_push_of_some _ i1, rfl, rfl⟩ fun b o e => Heap.get?_push_of_some _ (k1 b o e)⟩
/-- enumerate(a tuple) -/
def ItT (a : Addr) (vs : List V) : It :=
  ⟨fun i H => H a = some (.tup vs) ∧ i < vs.length, fun i H v H' => ∃ Z x, v = .ref Z ∧ H Z = none ∧ H' = upd H Z (.tup [.int (i : Nat), x]) ∧ vs[i]? = some x, fun i H => H a = some (.tup vs) ∧ i = vs.length⟩
theorem turn_enumT {P : Program} {w : World} {K : PySem.W.Frag} {elts : List Expr} {kk : Nat} {tpos : Pos} (a e it : Addr) (vs : List V) :
    Turn P w K (.Tuple elts kk tpos) (ItT a vs) [e, it] e (fun i h => (∃ old, IsEnum h e it ((i : Nat) : Int) old) ∧ h.IsTupleIter it a i ∧ e ≠ it) where
  mem := by simp
  obj := fun i h z b hb => by
    obtain ⟨⟨old, he⟩, ⟨o, ho, hc, hd⟩, _⟩ := z
    rcases (show b = e ∨ b = it by simpa using hb) with q | q
    · rw [q]; exact ⟨_, he, fun v q => nomatch q⟩
    · rw [q]; exact ⟨o, ho, fun v q => by rw [hd] at q; cases q⟩
  keep := fun i h h' z k => by
    obtain ⟨⟨old, he⟩, hi, hne⟩ := z
    exact ⟨⟨old, k e (by simp) _ he⟩, hi.at fun o q => k it (by simp) o q, hne⟩
  item := by
    intro X hP hw hK hc i pins s st H E I hf z hg
    subst hP hw hK
    obtain ⟨⟨old, he⟩, hit, hne⟩ := z
    obtain ⟨ha, hi⟩ := hg
    obtain ⟨its, rv, tp, hz⟩ := I.tuple (SqT.of ha)
    have hel : e < s.heap.objs.size := by exact Heap.lt_size he
    have hil : it < s.heap.objs.size := by
      obtain ⟨oi, qi, _⟩ := hit
      exact Heap.lt_size qi
    have nea : a ≠ it := by
      rintro rfl
      have := (hf a (by simp)).1
      rw [ha] at this; cases this
    have nea2 : a ≠ e := by
      rintro rfl
      have := (hf a (by simp)).1
      rw [ha] at this; cases this
    have hlen := rv.length
    refine wpAny_pyNext_enum_itemD (Draws.tuple (A := X.A.in1) (I.ok.hd hc) it a nea its.toArray) he ⟨hit, tp⟩ (by rw [List.size_toArray]; omega) hne (by simp [hne, Ne.symm nea2]) fun u h' tk hu ho hs hT hsz hk => ?_
    obtain ⟨hit', _⟩ := hs
    refine ⟨_, rfl, wpAny_letOwnedTupleGo_enum (s := { s with heap := h', toks := tk + 1 }) ho fun h2 he' sb => ?_⟩
    obtain ⟨x, hx⟩ : ∃ x, vs[i]? = some x := ⟨vs[i], List.getElem?_eq_getElem hi⟩
    obtain ⟨u', hu', ru⟩ := rv.get hx
    have eu : u' = u := by
      have q : its[i]? = some u := by simpa using hu
      rw [hu'] at q; exact Option.some.inj q
    subst eu
    have hT2 := (sb.2 _ (Nat.ne_of_gt hel)).trans hT
    have new : ObjOk X.prog X.w (upd H s.heap.objs.size (.tup [.int (i : Nat), x])) h2 s.heap.objs.size (.tup [.int (i : Nat), x]) :=
      ⟨by show 2 ≤ sizeLine; decide, [.int i tk, u'], .cons ⟨_, rfl⟩ (.cons ru .nil), ⟨_, hT2, rfl, _, rfl⟩⟩
    have I1 : Inv X pins st (upd H s.heap.objs.size (.tup [.int (i : Nat), x])) { s with heap := h2, toks := tk + 1 } :=
      I.turnedNew (ch := [e, it]) (fun b ob out q => by
        have n1 : b ≠ e := fun z => out (by simp [z])
        have n2 : b ≠ it := fun z => out (by simp [z])
        exact (sb.2 b n1).trans (hk b ob n1 n2 q)) hf (Nat.le_refl _) new
    refine ⟨.ref s.heap.objs.size, _, I1, rfl, ⟨_, x, rfl, I.hok.fresh (Nat.le_refl _), rfl, hx⟩, ⟨⟨u', ?_⟩, hit'.at fun o q => (sb.2 it (Ne.symm hne)).trans q, hne⟩, fun b hb => ?_⟩
    · rw [show ((i + 1 : Nat) : Int) = (i : Int) + 1 by omega]
      exact he'
    · have below : b < s.heap.objs.size := by
        rcases (show b = e ∨ b = it by simpa using hb) with q | q
        · rw [q]; exact hel
        · rw [q]; exact hil
      rw [upd_ne (Nat.ne_of_lt below)]
      exact (hf b hb).1
  done := by
    intro X hP hw hK hc i pins s st H E I hf z hg
    subst hP hw hK
    obtain ⟨⟨old, he⟩, hit, hne⟩ := z
    obtain ⟨ha, hi⟩ := hg
    obtain ⟨its, rv, tp, hz⟩ := I.tuple (SqT.of ha)
    obtain ⟨t0, t1, t2, t3, t4, t5⟩ := hf it (by simp)
    have nea : a ≠ it := by
      rintro rfl
      rw [ha] at t0
      cases t0
    have hsz : its.toArray.size = i := by rw [List.size_toArray, ← rv.length, hi]
    refine wpAny_pyNext_enum_endD (n := its.toArray.size) (Draws.tuple (A := X.A.in1) (I.ok.hd hc) it a nea its.toArray) he ⟨by rw [hsz]; exact hit, tp⟩ fun h' eb => ⟨rfl, I.turned (t' := s.toks) (fun b o hb q => eb b o hb q) t0 t1 t3 t4 t5⟩
  self := fun A i s Q E z h => by
    obtain ⟨⟨_, he⟩, _⟩ := z
    exact wpAny_pyIter_enum he h
def iEnumT (t : TA) : TI := fun st H R => t st H fun ws H1 => ∃ a vs, ws = [.ref a] ∧ H1 a = some (.tup vs) ∧ R (ItT a vs) H1
theorem pi_enumT {X : Cx} {e : Expr} {t : TA} {p pos tpos : Pos} {elts : List Expr} {kk : Nat} (hg : Gl X "enumerate") (hm : X.mg "enumerate" = none) (ha : PA X [e] t) (hns : notStar e = true) :
    PI X (.Tuple elts kk tpos) (.Call (.Name "enumerate" p) [e] [] pos) (iEnumT t) := by
  refine ⟨fun pins s st H R I h => ?_⟩
  refine Call_ (ld_blt I hg hm boot_enumerate (PyProof.Rows.callWith_type1 (thn (ha.run pos pins s st H _ I h) fun us s1 ⟨ws, H1, I1, r1, q1⟩ => ?_) (star_cons hns) rfl))
  obtain ⟨a, vs, rfl, hq, q⟩ := q1
  obtain ⟨arg, rfl, ra⟩ := vals1 r1
  cases ra
  obtain ⟨its, rv, tp, hz⟩ := I1.tuple (SqT.of hq)
  refine call_enumT (show s1.heap.IsTuple a its.toArray from tp) fun h' he hit hk => wpAny_pyIter_enum he ?_
  have I2 : Inv X pins st H1 { s1 with heap := h' } := I1.kept (t' := s1.toks) hk
  refine ⟨s1.heap.objs.size + 1, [s1.heap.objs.size + 1, s1.heap.objs.size], _, _, H1, rfl, I2, turn_enumT a (s1.heap.objs.size + 1) s1.heap.objs.size vs, ⟨⟨.none, he⟩, hit, Nat.succ_ne_self _⟩, fun b hb => ?_, q⟩
  have above : s1.heap.objs.size ≤ b := by
    rcases (show b = s1.heap.objs.size + 1 ∨ b = s1.heap.objs.size by simpa using hb) with z | z
    · exact z ▸ Nat.le_succ _
    · exact Nat.le_of_eq z.symm
  exact I1.fpOk above (I1.hok.fresh above)
section
variable {g : Gx} {T : Tab} {cf : CallFn} {F : Hp} {dl : List Addr} {st : L2.St} {H : Hp}
theorem enumL_at : ∀ {xs : List PV} {i : Nat} {lo : Int} {x : PV}, (enumL lo xs)[i]? = some x → ∃ y, xs[i]? = some y ∧ x = .tup [.int (lo + (i : Nat)), y]
  | [], i, lo, x, h => by simp [enumL] at h
  | y :: ys, 0, lo, x, h => by
    simp [enumL] at h
    subst h
    exact ⟨y, rfl, by simp⟩
  | y :: ys, i + 1, lo, x, h => by
    have h2 : (enumL (lo + 1) ys)[i]? = some x := by simpa [enumL] using h
    obtain ⟨z, a, b⟩ := enumL_at h2
    refine ⟨z, by simpa using a, ?_⟩
    rw [b]
    congr 3
    push_cast
    omega
theorem enumL_len : ∀ {xs : List PV} {lo : Int}, (enumL lo xs).length = xs.length
  | [], _ => rfl
  | y :: ys, lo => by simp [enumL, enumL_len]
theorem src_enumT {a : Addr} {xs : List PV} {vs : List V} (h1 : F a = some (.tup vs)) (q : RVs g F dl xs vs) : SrcC g F dl H (enumL 0 xs) (ItT a vs) where
  go := fun F' dl' D' H' i x ev h e => by
    obtain ⟨y, e1, rfl⟩ := enumL_at e
    have s1 := h.sub _ _ (ev.fm _ _ h1)
    obtain ⟨v, e2, rv⟩ := q.get e1
    refine ⟨⟨s1, (List.getElem?_eq_some_iff.mp e2).1⟩, fun u H2 y2 => ?_⟩
    obtain ⟨Z, x2, rfl, n, rfl, e3⟩ := y2
    rw [e2] at e3; cases e3
    have rv' := rv.mono ev.fm ev.dp
    have hF := (h.fresh n).1
    refine ⟨upd F' Z (.tup [.int (i : Nat), v]), ⟨Le.upd hF, fun _ _ e => e, fun _ e => .inl e, (Ev.new (F := F') (dl := dl') n).kp, fun b o e => ?_, (Ev.new (F := F') (dl := dl') n).ki⟩, (h.new n).keep upd_same hF (h.fresh n).2, ?_⟩
    · by_cases z : b = Z
      · subst z; exact .inr (.inl n)
      · rw [upd_ne z] at e; exact .inl e
    · refine .tup upd_same ?_
      rw [Int.zero_add]
      exact .cons (.int _) (.cons (rv'.mono (Le.upd hF) fun _ _ z => z) .nil)
  stop := fun F' dl' D' H' i ev h e => ⟨h.sub _ _ (ev.fm _ _ h1), by rw [e, enumL_len, q.length]⟩
theorem li_enum {a : CE} {R : It → Hp → Prop} (h : tI g T cf (.enum a) st H R) : iEnumT (tA g T cf [a]) st H R := by
  obtain ⟨F, dl, r, D, src, fr, D', p, e, wk, w⟩ := h
  unfold evE at e
  split at e
  · cases e
  · rename_i v f1 D1 e1
    split at e
    · rename_i xs
      cases e
      refine ⟨F, dl, r, D, [.tup xs], _, p, by unfold evEs; rw [e1]; simp only []; unfold evEs; rfl, fun vs H1 F1 dl1 ev p1 rs => ?_⟩
      obtain ⟨x, rfl, rx⟩ := one_rv rs
      cases rx with
      | tup h1 q => exact ⟨_, _, rfl, p1.h.sub _ _ h1, w _ _ _ _ ev p1 ⟨_, rfl, src_enumT h1 q⟩⟩
    · cases e
end
end HT
/-! dict comprehensions, keys of both kinds -/
namespace HT
open L2 PyProof.Rows PySem PySem.Spec

/-- d[y] = v where the dict may still be empty -/
def Puts (H : Hp) (a : Addr) (y v : V) (H' : Hp) : Prop := DPut H a y v H' ∨ (H a = some (.dK []) ∧ DPut (upd H a (.dT [])) a y v H') ∨ (H a = some (.dT []) ∧ DPut (upd H a (.dK [])) a y v H')
section
variable {X : Cx} {pins : List (Addr × Obj)} {st : L2.St} {H H' : Hp} {s : Shared} {a : Addr} {y v : V} {u r : Value} {E : Value → Shared → Prop} {Q : Unit → Shared → Prop}
theorem dput_set (hu : X.A.units + 1 < cLine) (I : Inv X pins st H s) (g : DPut H a y v H') (ry : RelV y u) (rv : RelV v r) (h : ∀ s', Inv X pins st H' s' → Q () s') : wpAny (model X.prog X.w) X.A (dictSet a u r) Q E s := by
  rcases g with ⟨kvs, k, e, rfl, l, rfl⟩ | ⟨kvs, k, b, e, rfl, eb, l, rfl⟩
  · exact d_dictSet I e l ry rv h
  · cases (show u = Value.ref b from ry)
    have ⟨few, low, held, pairs, was⟩ := dt_of I.hok e
    have fits : (putK kvs k v).length ≤ sizeLine := Nat.le_trans (length_putK kvs k v) l
    have few2 : held.length ≤ sizeLine := by have := Paired.length pairs; omega
    refine wpAny_dictSet_heap (hsz := few2) (show X.A.units < cLine by omega) (key_of I.hok eb) was fun after now rest => h _ ?_
    have ⟨ob, tab, epoch, at1, c1, c2, c3, _, c4⟩ := now
    have keys : KT (upd H a (.dT (putK kvs k v))) (putK kvs k v) (storedH held k b r) := (pairs.put k eb rv).keeps fun c _ ec =>
      (upd_ne (ne_of ec e nofun)).trans ec
    exact d_write I (by rw [e]; exact True.intro) rest ⟨ob, at1⟩ ⟨fits, low, _, keys, ob, tab, epoch, at1, c1, c2, c3, c4⟩
theorem puts_set (hu : X.A.units + 1 < cLine) (I : Inv X pins st H s) (g : Puts H a y v H') (ry : RelV y u) (rv : RelV v r) (h : ∀ s', Inv X pins st H' s' → Q () s') : wpAny (model X.prog X.w) X.A (dictSet a u r) Q E s := by
  rcases g with g | ⟨e, g⟩ | ⟨e, g⟩
  · exact dput_set hu I g ry rv h
  · exact dput_set hu (retag_T I e) g ry rv h
  · exact dput_set hu (retag_K I e) g ry rv h
end
/-- {k: v for target in iter}: Z the new dict -/
def tDz (wi : TI) (g : TG) (tk tv : TE) (vs : List Nat) : TE := fun st H Q => wi st H fun J H1 => ∀ Z, H1 Z = none → ∃ W : Nat → Nat → Hp → Prop, (∃ m, W 0 m (upd H1 Z (.dK []))) ∧ ∀ i m H, W i m H →
  (J.stop i H ∧ Q (.ref Z) H) ∨ (J.go i H ∧ ∃ Nx : Hp → Prop, (∀ H', Nx H' → ∃ m', m' < m ∧ W (i + 1) m' H') ∧ ∀ x H', J.yld i H x H' → g x (wipe st vs) H' fun s2 H2 => wipe s2 vs = wipe st vs ∧
    tk s2 H2 fun y H4 => tv s2 H4 fun z H5 => ∃ H6, Puts H5 Z y z H6 ∧ Nx H6)
section
variable {X : Cx}
theorem pe_dz {kx vx tg iter : Expr} {scope : Scope} {own : List (Str × Nat)} {pos : Pos} {wi : TI} {g : TG} {tk tv : TE} (hu : X.A.units + 1 < cLine) (hc : X.calm = true) (hN : X.N.Nodup) (hi : PI X tg iter wi) (ok : BlkOk X.N X.env.scope scope own)
    (hg : ∀ (s : Shared) (H : Hp) (C : Addr) (cl : List (Str × Addr)) (fp : List Addr), PG (X.blk s H scope (compEnvC scope cl C X.env) fp) tg g)
    (hk : ∀ (s : Shared) (H : Hp) (L : Addr) (cells : List (Str × Addr)) (fp : List Addr), PE (X.blk s H scope (compEnvC scope cells L X.env) fp) kx tk)
    (hv : ∀ (s : Shared) (H : Hp) (C : Addr) (cl : List (Str × Addr)) (fp : List Addr), PE (X.blk s H scope (compEnvC scope cl C X.env) fp) vx tv) (hs : ∀ x, foldedSetIterable iter X.env x = pure x) :
    PE X (.DictComp kx vx [⟨tg, iter, [], 0⟩] scope pos) (tDz wi g tk tv (own.map (·.2))) := by
  refine ⟨fun pins s st H Q I h => ?_⟩
  rw [arm_eval_DictComp]
  have cells : ∀ y ∈ scope.names, y.2 = .free → ∃ c, X.env.cells.lookup y.1 = some c := fun y hy e => I.ok.has _ (ok.free y hy e)
  refine wpAny_comprehension_free (use := none) rfl hs (closure_ok cells) ok.kind (fun y hy e => by rw [ok.uniq y hy, e]) (thn (hi.run pins s st H _ I h) fun xv s1 hx => thn hx fun itv s2 h2 => ?_)
  obtain ⟨it, fp, tn, J, H2, rfl, I2, T, t2, f2, q⟩ := h2
  refine wpAny_newObj_type ?_
  refine newEnv_comp ?_
  generalize hZ : s2.heap.objs.size = Z
  have nZ : H2 Z = none := I2.hok.fresh (Nat.le_of_eq hZ)
  obtain ⟨W, ⟨m0, w0⟩, turn⟩ := q Z nZ
  generalize q3 : ({ s2 with heap := s2.heap.push { cls := .type "dict", data := .dict #[] } } : Shared) = s3
  have e3 : s3.heap = s2.heap.push { cls := .type "dict", data := .dict #[] } := by rw [← q3]
  have I3 : Inv X pins st (upd H2 Z (.dK [])) s3 := by
    rw [← q3]
    refine I2.laid (t' := s2.toks) (fun b o e => Heap.get?_push_of_some _ e) (Nat.le_of_eq hZ) ?_
    rw [← hZ]
    exact dk_empty s2.heap I2.big
  have f3 : ∀ b ∈ fp, FpOk X pins (upd H2 Z (.dK [])) b ∧ b < s3.heap.objs.size := fun b hb => by
    obtain ⟨o, eo, _⟩ := T.obj _ _ t2 b hb
    have lt := Heap.lt_size eo
    refine ⟨⟨?_, (f2 b hb).2⟩, by rw [e3, Heap.size_push]; exact Nat.lt_succ_of_lt lt⟩
    rw [upd_ne (by rw [← hZ]; exact Nat.ne_of_lt lt)]
    exact (f2 b hb).1
  have t3 : tn 0 s3.heap := T.keep _ _ _ t2 fun b _ o e => by rw [e3]; exact Heap.get?_push_of_some _ e
  have I4 := (block_start I3 ok hN) f3
  generalize hH3 : upd H2 Z (.dK []) = H3 at I3 I4 w0 f3
  generalize hC : s3.heap.objs.size = C at I4
  generalize hcl : cellsFrom (C + 1) scope.names (cloFrom X.env.cells scope.names []) = cl at I4
  have pg := hg s3 H3 C cl fp
  have pk := hk s3 H3 C cl fp
  have pv := hv s3 H3 C cl fp
  show codeAny _ _ (.compStart (.DictComp kx vx [⟨tg, iter, [], 0⟩] scope pos) 0 (.ref it) (.ref Z) (compEnvC scope cl C X.env)) (compPost (model X.prog X.w) X.A X.xe none (EP X pins st Q) (.ref Z) C) { s3 with heap := pushCells (s3.heap.push { cls := .type "dict", data := .dict #[] }) scope.names }
  generalize q4 : ({ s3 with heap := pushCells (s3.heap.push { cls := .type "dict", data := .dict #[] }) scope.names } : Shared) = s4 at I4 ⊢
  have t4 : tn 0 s4.heap := T.keep _ _ _ t3 fun b _ o e => by rw [← q4]; exact pushCells_keeps _ _ _ _ (Heap.get?_push_of_some _ e)
  generalize hce : compEnvC scope cl C X.env = ce at I4 pg pk pv ⊢
  have cL : ce.locals = C := by rw [← hce]; rfl
  have stay : ∀ {t : L2.St} {H' : Hp} {s' : Shared}, Inv (X.blk s3 H3 scope ce fp) [] t H' s' → (∀ b ∈ fp, H' b = none) → ∀ b ∈ fp, FpOk (X.blk s3 H3 scope ce fp) [] H' b := fun {t H' s'} J n b hb =>
    ⟨n b hb, (J.ok.exf b hb).1, J.ok.exfs b hb, .inl hb, fun x c e => (J.ok.exf b hb).2 x c e, fun p hp => absurd (show p ∈ ([] : List (Addr × Obj)) ++ [] from hp) (by simp)⟩
  have loop : codeAny (model X.prog X.w) X.A (.compLoop (.DictComp kx vx [⟨tg, iter, [], 0⟩] scope pos) 0 (.ref it) (.ref Z) ce) (compPost (model X.prog X.w) X.A X.xe none (EP X pins st Q) (.ref Z) C) s4 := by
    refine compLoop_anyD (fun n s' => ∃ i H', Inv (X.blk s3 H3 scope ce fp) [] (wipe st (own.map (·.2))) H' s' ∧ tn i s'.heap ∧ (∀ b ∈ fp, H' b = none) ∧ W i n H') ?_ m0 ⟨0, H3, I4, t4, fun b hb => (f3 b hb).1.1, w0⟩
    rintro n s5 ⟨i, H5, I5, t5, n5, w5⟩
    obtain ⟨stop, qq⟩ | ⟨go, Nx, hNx, step⟩ := turn i n H5 w5
    · refine thnF (T.done (X.blk s3 H3 scope ce fp) rfl rfl rfl hc i [] s5 _ H5 (fun _ _ => False) I5 (stay I5 n5) t5 stop) fun r s6 z6 => ?_
      obtain ⟨rfl, I6⟩ := z6
      have I7 : Inv X pins st H5 s6 := I3.call' (ch := fp) I6.os I6.base I6.hok I6.bare fun b hb => ⟨(f3 b hb).1.2.2.2.1, (f3 b hb).1.2.1, (f3 b hb).1.2.2.2.2.1, (f3 b hb).1.2.2.2.2.2⟩
      have nC : H5 C = none := by rw [← cL]; exact I6.free
      obtain ⟨m, hm, _⟩ := I6.loc
      have hm : s6.heap.Ns ce.locals m := hm
      rw [cL] at hm
      obtain ⟨g0, g1, g2, g3, g4, g5⟩ := I3.fpOk (H' := H5) (Nat.le_of_eq hC) nC
      exact ⟨m, hm, fun h7 sb => ⟨.ref Z, H5, I7.turned (t' := s6.toks) (fun b o hb e => (sb.2 b hb).trans e) g0 g1 g3 g4 g5, rfl, qq⟩⟩
    · refine thnF (T.item (X.blk s3 H3 scope ce fp) rfl rfl rfl hc i [] s5 _ H5 (fun _ _ => False) I5 (stay I5 n5) t5 go) fun r s6 z6 => ?_
      obtain ⟨u, rfl, h6⟩ := z6
      refine thnF h6 fun _ s7 z7 => ?_
      obtain ⟨x, H7, I7, r7, y7, t7, n7⟩ := z7
      refine thnF (pg.run _ s7 _ H7 x u _ (I7.pinned (stay I7 n7) (T.obj _ _ t7)) r7 (step x H7 y7)) fun _ s8 z8 => ?_
      obtain ⟨t8, H8, I8, hw8, q8⟩ := z8
      refine wpAny_tests_nil ?_
      simp only [if_true]
      refine thnF (pk.run _ s8 t8 H8 _ I8 q8) fun kv s9 ⟨yk, H9, I9, r9, q9⟩ => ?_
      refine thnF (pv.run _ s9 t8 H9 _ I9 q9) fun vv s10 ⟨yv, H10, I10, r10, H11, pt, nx⟩ => ?_
      refine puts_set (X := X.blk s3 H3 scope ce fp) hu I10 pt r9 r10 fun s12 I12 => ?_
      obtain ⟨m', lt, w'⟩ := hNx H11 nx
      have pin : ∀ b ∈ fp, ∀ o, s7.heap.get? b = some o → s12.heap.get? b = some o ∧ H11 b = none := fun b hb o e => by
        have z := I12.pin (b, o) (List.mem_append_right _ (List.mem_append_right _ (mem_pinsAt hb e)))
        exact ⟨z.1, z.2.1⟩
      refine ⟨m', lt, i + 1, H11, (I12.unpinned (pins := [])).weak (by rw [← hw8, wipe_length]) (fun j v e => ?_), T.keep _ _ _ t7 fun b hb o e => (pin b hb o e).1, fun b hb => ?_, w'⟩
      · rw [← hw8] at e
        exact (wipe_some e).1
      · obtain ⟨o, e, _⟩ := T.obj _ _ t7 b hb
        exact (pin b hb o e).2
  exact codeAny_compStart_dict loop (T.self X.A 0 _ _ _ t4 loop)
end
/-- what stands at Z -/
def DAt (g : Gx) (F : Hp) (dl : List Addr) (H : Hp) (Z : Addr) (acc : List (PV × PV)) : Prop := (∃ ks, H Z = some (.dK ks) ∧ RKs g F dl acc ks) ∨ ∃ ks, H Z = some (.dT ks) ∧ RTs g F dl acc ks
structure AccD (g : Gx) (F1 : Hp) (dl1 : List Addr) (H1 : Hp) (Z : Addr) (acc : List (PV × PV)) (D : Hs) (H : Hp) (F2 : Hp) (dl2 : List Addr) : Prop where
  ev : Ev F1 dl1 H1 F2 dl2 H
  h : Rh g F2 dl2 D H
  at_ : DAt g F2 dl2 H Z acc
  nF : F2 Z = none
  nd : Z ∉ dl2
section
variable {g : Gx} {T : Tab} {cf : CallFn} {F1 : Hp} {dl1 : List Addr} {r : Rho} {D D1 D' : Hs} {st : L2.St} {H H1 : Hp} {Z : Addr} {acc : List (PV × PV)} {F2 : Hp} {dl2 : List Addr}
theorem DAt.there {F : Hp} {dl : List Addr} (a : DAt g F dl H Z acc) : ∃ u, H Z = some u ∧ (∀ x, u ≠ .own x) ∧ ∀ C dx ws, u ≠ .ins C dx ws := by
  rcases a with ⟨ks, e, _⟩ | ⟨ks, e, _⟩ <;> exact ⟨_, e, (by intro _ z; cases z), (by intro _ _ _ z; cases z)⟩
theorem AccD.to {F3 : Hp} {dl3 : List Addr} {D3 : Hs} {H3 : Hp} (a : AccD g F1 dl1 H1 Z acc D H F2 dl2) (ev : Ev F2 dl2 H F3 dl3 H3) (h3 : Rh g F3 dl3 D3 H3) : AccD g F1 dl1 H1 Z acc D3 H3 F3 dl3 := by
  obtain ⟨u, eu, _⟩ := a.at_.there
  refine ⟨a.ev.trans ev, h3, ?_, ?_, fun m => ?_⟩
  · rcases a.at_ with ⟨ks, e, rr⟩ | ⟨ks, e, rr⟩
    · exact .inl ⟨ks, ev.kp _ _ e a.nd, rr.mono ev.fm ev.dp⟩
    · exact .inr ⟨ks, ev.kp _ _ e a.nd, rr.mono ev.fm ev.dp⟩
  · cases q : F3 Z with
    | none => rfl
    | some o =>
      exfalso
      rcases ev.fn Z o q with z | z | z | ⟨ys, z⟩
      · rw [a.nF] at z; cases z
      · rw [eu] at z; cases z
      · exact a.nd z
      · rcases a.at_ with ⟨ks, e, _⟩ | ⟨ks, e, _⟩ <;> rw [e] at z <;> cases z
  · rcases ev.dn Z m with z | z
    · exact a.nd z
    · rw [eu] at z; cases z
theorem AccD.put {pk pv : PV} {y v : V} (a : AccD g F1 dl1 H1 Z acc D H F2 dl2) (n : H1 Z = none) (rk : RV g F2 dl2 pk y) (rv : RV g F2 dl2 pv v) (fits : keyFits pk acc = true) (hl : acc.length < sizeL) :
    ∃ H6, Puts H Z y v H6 ∧ AccD g F1 dl1 H1 Z (dPut pk pv acc) D H6 F2 dl2 := by
  obtain ⟨u0, eu, no, ni⟩ := a.at_.there
  have hl2 : acc.length < sizeLine := by rw [← sizeL_eq]; exact hl
  have ne : ∀ {b o}, H1 b = some o → b ≠ Z := fun {b o} e => ne_of_none e n
  have fin : ∀ u, ((∃ ks, u = .dK ks ∧ RKs g F2 dl2 (dPut pk pv acc) ks) ∨ ∃ ks, u = .dT ks ∧ RTs g F2 dl2 (dPut pk pv acc) ks) → AccD g F1 dl1 H1 Z (dPut pk pv acc) D (upd H Z u) F2 dl2 := fun u hu => by
    refine ⟨⟨a.ev.fm, a.ev.dp, a.ev.dn, fun b o e m => by rw [upd_ne (ne e)]; exact a.ev.kp b o e m, a.ev.fn, fun b C dx ws e => by rw [upd_ne (ne e)]; exact a.ev.ki b C dx ws e⟩, a.h.free a.nF a.nd eu no, ?_, a.nF, a.nd⟩
    rcases hu with ⟨ks, rfl, q⟩ | ⟨ks, rfl, q⟩
    · exact .inl ⟨ks, upd_same, q⟩
    · exact .inr ⟨ks, upd_same, q⟩
  rcases fits_kind fits with hk | ⟨ks0, rfl, hk⟩
  · have ey := toKey_rel hk rk
    subst ey
    rcases a.at_ with ⟨ks, e, rr⟩ | ⟨ks, e, rr⟩
    · exact ⟨_, .inl (DPut.k e (by rw [← rr.length]; exact hl2)), fin _ (.inl ⟨_, rfl, dPut_K hk rv rr⟩)⟩
    · cases rr with
      | nil =>
        refine ⟨_, .inr (.inr ⟨e, ?_⟩), fin (.dK (putK [] (toKey pk) v)) (.inl ⟨_, rfl, dPut_K hk rv .nil⟩)⟩
        have z := DPut.k (H := upd H Z (.dK [])) (a := Z) (k := toKey pk) (v := v) (kvs := []) upd_same (by rw [sizeLine_eq]; decide)
        rw [upd_upd] at z
        exact z
      | cons hq _ _ =>
        unfold keyFits at fits
        simp only [kind0 hk, kind1 hq] at fits
        cases fits
  · cases rk with
    | tup e1 r1 =>
      have ev := toKeys_rel hk r1
      subst ev
      rcases a.at_ with ⟨ks, e, rr⟩ | ⟨ks, e, rr⟩
      · cases rr with
        | nil =>
          refine ⟨_, .inr (.inl ⟨e, ?_⟩), fin (.dT (putK [] (ks0.map toKey) v)) (.inr ⟨_, rfl, dPut_T hk rv .nil⟩)⟩
          have z := DPut.t (H := upd H Z (.dT [])) (a := Z) (k := ks0.map toKey) (v := v) (kvs := []) upd_same (by rw [upd_ne (ne_of (a.h.sub _ _ e1) e (by intro z; cases z))]; exact a.h.sub _ _ e1) (by rw [sizeLine_eq]; decide)
          rw [upd_upd] at z
          exact z
        | cons hq _ _ =>
          unfold keyFits at fits
          simp only [kind0 hq, kind1 hk] at fits
          cases fits
      · exact ⟨_, .inl (DPut.t e (a.h.sub _ _ e1) (by rw [← rr.length]; exact hl2)), fin _ (.inr ⟨_, rfl, dPut_T hk rv rr⟩)⟩
abbrev dcStep (T : Tab) (cf : CallFn) (t : Tgt) (own : List Nat) (k v : CE) (r : Rho) : PV → Hs → Option (PV × PV × Hs) := fun x D => match tgtV t x (wipeR r own) with
  | none => none
  | some r' => match evE T cf k r' D with
    | none => none
    | some (kv, _, D') => match evE T cf v r' D' with
      | none => none
      | some (vv, _, D2) => some (kv, vv, D2)
theorem lx_dc {K : PySem.W.Frag} {own : List Nat} {t : Tgt} {it k v : CE} {Q : VK} (ho : ∀ i ∈ tgtIs t, i ∈ own) (h : tE g T cf (.dc own t it k v) st H Q) :
    tDz (tI g T cf it) (gT K t) (tE g T cf k) (tE g T cf v) own st H Q := by
  obtain ⟨F, dl, r, D, pv, fr, D', p, e, w⟩ := h
  unfold evE at e
  split at e
  · cases e
  · rename_i src f1 D1 e1
    split at e
    · cases e
    · rename_i xs e0
      obtain ⟨z, e3, e4⟩ := Option.map_eq_some_iff.mp e
      obtain ⟨res, Dz⟩ := z
      cases e4
      have nr : ∀ n, src ≠ .ref n := fun n z => by subst z; cases e0
      have wk : Walks0 D1 src := by
        cases src <;> first | exact ⟨xs, e0⟩ | exact absurd rfl (nr _)
      refine ⟨F, dl, r, D, src, f1, D1, p, e1, wk, fun J H1 F1 dl1 ev1 p1 sc Z nZ => ?_⟩
      have sc : SrcC g F1 dl1 H1 xs J := by
        cases src <;> first | (obtain ⟨xs', q1, q2⟩ := sc; rw [e0] at q1; cases q1; exact q2) | exact absurd rfl (nr _)
      have start : AccD g F1 dl1 H1 Z [] D1 (upd H1 Z (.dK [])) F1 dl1 := ⟨Ev.new nZ, p1.h.new nZ, .inl ⟨[], upd_same, .nil⟩, (p1.h.fresh nZ).1, (p1.h.fresh nZ).2⟩
      refine ⟨fun i m H2 => m = xs.length - i ∧ i ≤ xs.length ∧ ∃ acc D2 F2 dl2, AccD g F1 dl1 H1 Z acc D2 H2 F2 dl2 ∧ dcL (dcStep T cf t own k v r) (xs.drop i) acc D2 = some (res, Dz), ⟨xs.length, rfl, Nat.zero_le _, [], D1, F1, dl1, start, by rw [List.drop_zero]; exact e3⟩, ?_⟩
      rintro i m H2 ⟨hm, hle, acc, D2, F2, dl2, a, e5⟩
      cases ei : xs[i]? with
      | none =>
        rw [List.drop_eq_nil_of_le (get_none ei)] at e5
        simp only [dcL] at e5
        cases e5
        refine .inl ⟨sc.stop F2 dl2 _ H2 i a.ev a.h (Nat.le_antisymm hle (get_none ei)), ?_⟩
        refine w _ _ F2 dl2 (ev1.trans a.ev) (p1.to a.h a.ev) ?_
        have rr : RR g F2 dl2 H1 H2 (.dct res) true (.ref Z) := ⟨Z, rfl, nZ, a.nF, a.nd, a.at_⟩
        exact rr.pre p.h ev1 p1.h
      | some x =>
        have hi := (List.getElem?_eq_some_iff.mp ei).1
        rw [drop_at ei] at e5
        simp only [dcL] at e5
        obtain ⟨gg, yy⟩ := sc.go F2 dl2 D2 H2 i x a.ev a.h ei
        refine .inr ⟨gg, ?_⟩
        split at e5
        · cases e5
        · rename_i kv vv D3 e6
          split at e5
          · rename_i hz
            simp only [decide_eq_true_eq, Bool.and_eq_true] at hz
            refine ⟨fun H' => ∃ F' dl', AccD g F1 dl1 H1 Z (dPut kv vv acc) D3 H' F' dl', fun H' ⟨F', dl', a'⟩ => ⟨xs.length - (i + 1), by omega, rfl, hi, _, D3, F', dl', a', e5⟩, fun u H3 y => ?_⟩
            obtain ⟨F3, ev3, h3, rv⟩ := yy u H3 y
            have a3 := a.to ev3 h3
            have p2 : Rp g F3 dl2 (wipeR r own) D2 (wipe st own) H3 := (p1.wipe).to a3.h a3.ev
            unfold dcStep at e6
            split at e6
            · cases e6
            · rename_i r' e7
              refine tgt_ok p2 rv e7 ho fun s2 p3 ws => ⟨by rw [ws, wipe_wipe], ?_⟩
              split at e6
              · cases e6
              · rename_i kv' fk D4 e8
                split at e6
                · cases e6
                · rename_i vv' fv D5 e9
                  cases e6
                  refine tE.bind p3 e8 fun uk H4 F4 dl4 ev4 p4 rk => tE.bind p4 e9 fun uv H5 F5 dl5 ev5 p5 ru => ?_
                  obtain ⟨H6, pt, a6⟩ := (a3.to (ev4.trans ev5) p5.h).put nZ (rk.mono ev5.fm ev5.dp) ru hz.1 hz.2
                  exact ⟨H6, pt, F5, dl5, a6⟩
          · cases e5
end
end HT
/-! from the text to the core language -/
namespace HT
open L2 PyProof.Rows PySem PySem.Spec

/-- a place of the text: the slots' names, the scope, a block's own scope, the names changed in place -/
structure Tc where
  N : List Str
  sc : Scope
  own : Option Scope
  mu : List Str
def ixN0 (N : List Str) (x : Str) (i : Nat) : Option Nat := match N with
  | [] => none
  | y :: r => if y == x then some i else ixN0 r x (i + 1)
def visB (sc : Scope) (x : Str) : Bool := match sc.names.lookup x with
  | some .local => true
  | some .cell => true
  | some .free => true
  | _ => false
def locB (sc : Scope) (x : Str) : Bool := match sc.names.lookup x with
  | some .local => true
  | some .cell => true
  | _ => false
def isLoc (sc : Scope) (x : Str) : Bool := match sc.names.lookup x with
  | some .local => true
  | _ => false
def glB (sc : Scope) (x : Str) : Bool := match sc.names.lookup x with
  | some .globalImplicit => true
  | _ => false
def fnB (tc : Tc) (x : Str) : Bool := match tc.own with
  | none => true
  | some s => isLoc tc.sc x || (match s.names.lookup x with
    | some .cell => true
    | _ => false)
/-- a name that is read -/
def okName (x : Str) : Bool := !(x == ("__debug__" : Str)) && !(x == ("__classdict__" : Str))
def slotOf (tc : Tc) (x : Str) : Option Nat := if visB tc.sc x && okName x then ixN0 tc.N x 0 else none
/-- a name that is stored -/
def putOf (tc : Tc) (x : Str) : Option Nat := if locB tc.sc x && fnB tc x then ixN0 tc.N x 0 else none
def putsOf (tc : Tc) : List Expr → Option (List Nat)
  | [] => some []
  | .Name x _ :: r => match putOf tc x with
    | none => none
    | some i => match putsOf tc r with
      | none => none
      | some is => some (i :: is)
  | _ :: _ => none
def trT (tc : Tc) : Expr → Option Tgt
  | .Name x _ => (putOf tc x).map .name
  | .Tuple es _ _ => (putsOf tc es).map .names
  | _ => none
/-- the block's own names, with their slots -/
def ownOf (N : List Str) (scope : Scope) : List (Str × Nat) := scope.names.filterMap fun y => match y.2 with
  | .local => (ixN0 N y.1 0).map fun i => (y.1, i)
  | .cell => (ixN0 N y.1 0).map fun i => (y.1, i)
  | _ => none
def bopOf : Operator → Option BOp
  | .Add => some .add
  | .Sub => some .sub
  | .Mult => some .mul
  | .FloorDiv => some .fdiv
  | .Mod => some .mod
  | .Pow => some .pow
  | _ => none
def copOf : CmpOp → Option COp
  | .Eq => some .eq
  | .NotEq => some .ne
  | .Lt => some .lt
  | .LtE => some .le
  | .Gt => some .gt
  | .GtE => some .ge
  | .In => some .inn
  | .NotIn => some .nin
  | _ => none
def bltTab : List (Str × Blt) := [("len", .len), ("tuple", .tuple), ("int", .int), ("sorted", .sorted), ("list", .list), ("min", .min2), ("max", .max2), ("all", .all), ("any", .any), ("repr", .repr), ("abs", .abs), ("divmod", .divmod), ("str", .str), ("sum", .sum)]
def bltOf (x : Str) : Option Blt := bltTab.lookup x
def tyTab : List (Str × Ty) := [("int", .int), ("bool", .bool), ("str", .str), ("tuple", .tuple), ("list", .list)]
def tyOfN (c : Cf) (tc : Tc) : Expr → Option Ty
  | .Name x _ => if glB tc.sc x then (if c.tb x then tyTab.lookup x else (c.tc x).map .cls) else none
  | _ => none
/-- methods of built-in types -/
inductive MK where
  | mm (m : Mm)
  | get
  | index
  deriving DecidableEq
def mkTab : List (Str × MK) := [("append", .mm .append), ("get", .get), ("extend", .mm .extend), ("index", .index), ("remove", .mm .remove), ("pop", .mm .pop)]
def mkOf (x : Str) : Option MK := mkTab.lookup x
def isIsi (x : Str) : Bool := x == "isinstance"
def isLst (x : Str) : Bool := x == "list"
def isEnu (x : Str) : Bool := x == "enumerate"
def isNone : Expr → Bool
  | .Constant .none _ _ => true
  | _ => false
def cstOf : Const → Option PV
  | .none => some .non
  | .bool b => some (.bl b)
  | .int i => some (.int i)
  | .str s => some (.str s.cps.toList)
  | _ => none
def isRng (x : Str) : Bool := x == "range"
def unstar : Expr → Expr
  | .Starred e _ => e
  | e => e
/-- range(a), range(a, b) -/
def rngArgs (c : Cf) (tc : Tc) : Expr → Option (List Expr)
  | .Call (.Name x _) args [] _ => if isRng x && glB tc.sc x && c.tb x && args.all notStar then some args else none
  | _ => none
/-- enumerate(a) -/
def enuArg (c : Cf) (tc : Tc) : Expr → Option Expr
  | .Call (.Name x _) [a] [] _ => if isEnu x && glB tc.sc x && c.tb x && notStar a then some a else none
  | _ => none
section
variable (c : Cf)
mutual
def trE (n0 : Nat) (tc : Tc) (e0 : Expr) : CE := match n0, e0 with
  | 0, _ => .bad
  | n + 1, e => match e with
    | .Name x _ => match slotOf tc x with
      | some i => .var i
      | none => if glB tc.sc x then (match c.tk x with
        | some v => .cst v
        | none => .bad) else .bad
    | .Constant k _ _ => match cstOf k with
      | some v => .cst v
      | none => .bad
    | .UnaryOp .USub a _ => .neg (trE n tc a)
    | .UnaryOp .Not a _ => .notE (trE n tc a)
    | .BinOp a op b _ => match bopOf op with
      | some o => .bin o (trE n tc a) (trE n tc b)
      | none => .bad
    | .Compare a [op] [b] _ => match op with
      | .Is => if isNone b then .isN (trE n tc a) true else .bad
      | .IsNot => if isNone b then .isN (trE n tc a) false else .bad
      | op => match copOf op with
        | some o => if notSet b then .cmp o (trE n tc a) (trE n tc b) else .bad
        | none => .bad
    | .Compare a [o1, o2] [b, d] _ => match copOf o1, copOf o2 with
      | some p1, some p2 => if notSet d then .chain p1 p2 (trE n tc a) (trE n tc b) (trE n tc d) else .bad
      | _, _ => .bad
    | .BoolOp _ [a] _ => trE n tc a
    | .BoolOp .And (a :: b :: r) p => .andE (trE n tc a) (trE n tc (.BoolOp .And (b :: r) p))
    | .BoolOp .Or (a :: b :: r) p => .orE (trE n tc a) (trE n tc (.BoolOp .Or (b :: r) p))
    | .IfExp t a b _ => .ite (trE n tc t) (trE n tc a) (trE n tc b)
    | .Tuple es _ _ => if es.all notStar then .tupE (es.map (trE n tc)) else .tupS (es.map fun e => !notStar e) (es.map fun e => trE n tc (unstar e))
    | .List es _ => if es.all notStar then .lstE (es.map (trE n tc)) else .bad
    | .Dict [] [] _ => .dctE []
    | .Subscript o (.Slice lo hi none _) _ => .slice (trE n tc o) (lo.map (trE n tc)) (hi.map (trE n tc))
    | .Subscript o i _ => if notSlice i then .sub (trE n tc o) (trE n tc i) else .bad
    | .Attribute o f _ => if plainBase o then (match c.fldN f with
      | some m => .attr m (trE n tc o)
      | none => .bad) else .bad
    | .ListComp elt [⟨tg, it, ifs, asy⟩] scope _ =>
      if blkC tc.N tc.sc scope (ownOf tc.N scope) && notSet it && decide (ifs.length ≤ 1) && decide (asy = 0) then
        (match trT ⟨tc.N, relS scope tc.sc, some scope, []⟩ tg with
        | some t => if (tgtIs t).all (fun i => ((ownOf tc.N scope).map (·.2)).contains i) then
            .lc ((ownOf tc.N scope).map (·.2)) t (trI n tc tg it) (ifs.map (trE n ⟨tc.N, relS scope tc.sc, some scope, []⟩)) (trE n ⟨tc.N, relS scope tc.sc, some scope, []⟩ elt) else .bad
        | none => .bad) else .bad
    | .DictComp k v [⟨tg, it, [], asy⟩] scope _ =>
      if blkC tc.N tc.sc scope (ownOf tc.N scope) && notSet it && decide (asy = 0) then
        (match trT ⟨tc.N, relS scope tc.sc, some scope, []⟩ tg with
        | some t => if (tgtIs t).all (fun i => ((ownOf tc.N scope).map (·.2)).contains i) then
            .dc ((ownOf tc.N scope).map (·.2)) t (trI n tc tg it) (trE n ⟨tc.N, relS scope tc.sc, some scope, []⟩ k) (trE n ⟨tc.N, relS scope tc.sc, some scope, []⟩ v) else .bad
        | none => .bad) else .bad
    | .Call (.Name x _) args [] _ => if glB tc.sc x && args.all notStar then (match c.tf x with
      | some f => if c.pl f then .call f (args.map (trE n tc)) else (match c.kb f args.length [] with
        | some pm => .callK f (args.map (trE n tc) ++ ([] ++ [.cst .non])) pm
        | none => .bad)
      | none => match c.tc x with
        | some k => if args.isEmpty then .bad else .mk k (args.map (trE n tc))
        | none => if c.tb x then (match args with
          | [a, b] => if isIsi x then (match tyOfN c tc b with
            | some t => .isI t (trE n tc a)
            | none => .bad) else (match bltOf x with
            | some b' => .blt b' [trE n tc a, trE n tc b]
            | none => .bad)
          | [a] => match rngArgs c tc a with
            | some [u] => if isLst x then .blt .list [.rng1 (trE n tc u)] else .bad
            | some [u, v] => if isLst x then .blt .list [.rng2 (trE n tc u) (trE n tc v)] else .bad
            | some _ => .bad
            | none => match bltOf x with
              | some b => .blt b [trE n tc a]
              | none => .bad
          | _ => .bad) else .bad) else .bad
    | .Call (.Name x _) args kws _ => if glB tc.sc x && args.all notStar then (match c.tf x with
      | some f => match kwNames kws with
        | some ks => match c.kb f args.length ks with
          | some pm => .callK f (args.map (trE n tc) ++ (kws.map (fun q => trE n tc q.value) ++ [.cst .non])) pm
          | none => .bad
        | none => .bad
      | none => .bad) else .bad
    | .Call (.Attribute o m ap) args [] pos => if plainBase o && fewOk args && (ap.endLine == pos.line) then (
        match mkOf m with
        | some (.mm mm) => if args.isEmpty then .bad else .mut mm (trE n tc o) (args.map (trE n tc))
        | some .get => (match args with
            | [a] => .bm .get1 (trE n tc o) [trE n tc a]
            | [a, b] => .bm .get2 (trE n tc o) [trE n tc a, trE n tc b]
            | _ => .bad)
        | some .index => (match args with
            | [a] => .bm .index (trE n tc o) [trE n tc a]
            | _ => .bad)
        | none => match c.fldN m with
            | some f => .meth f (trE n tc o) (args.map (trE n tc))
            | none => .bad) else .bad
    | _ => .bad
termination_by structural n0
def trI (n0 : Nat) (tc : Tc) (tg e0 : Expr) : CE := match n0 with
  | 0 => .bad
  | n + 1 => match rngArgs c tc e0 with
    | some [a] => .rng1 (trE n tc a)
    | some [a, b] => .rng2 (trE n tc a) (trE n tc b)
    | some _ => .bad
    | none => match enuArg c tc e0 with
      | some a => (match tg with
        | .Tuple _ _ _ => .enum (trE n tc a)
        | _ => .bad)
      | none => trE n tc e0
termination_by structural n0
end
end
end HT
namespace HT
open L2 PyProof.Rows PySem PySem.Spec

structure At (W : Wd) (P : Program) (w : World) (base : Heap) (cf : CallFn) (k : Nat) (X : Cx) (tc : Tc) : Prop where
  ge : Ge W P w base cf X k
  N : X.N = tc.N
  sc : X.env.scope = tc.sc
  fn : ∀ x, fnB tc x = true → X.fn x = true ∨ X.env.scope.names.lookup x = some .local
theorem ixN0_ok : ∀ {N : List Str} {x : Str} {i j : Nat}, ixN0 N x j = some i → ∃ m, i = j + m ∧ N[m]? = some x
  | [], _, _, _, h => by simp [ixN0] at h
  | y :: r, x, i, j, h => by
    unfold ixN0 at h
    split at h
    · rename_i e
      cases h
      exact ⟨0, rfl, by simp [beq_iff_eq.mp e]⟩
    · obtain ⟨m, e1, e2⟩ := ixN0_ok h
      exact ⟨m + 1, by omega, by simpa using e2⟩
theorem ixN0_zero {N : List Str} {x : Str} {i : Nat} (h : ixN0 N x 0 = some i) : N[i]? = some x := by
  obtain ⟨m, e1, e2⟩ := ixN0_ok h
  rw [Nat.zero_add] at e1
  subst e1
  exact e2
theorem visB_ok {sc : Scope} {x : Str} (h : visB sc x = true) : Vis sc x := by
  unfold visB at h
  split at h
  · exact .inl (by assumption)
  · exact .inr (.inl (by assumption))
  · exact .inr (.inr (by assumption))
  · cases h
theorem locB_ok {sc : Scope} {x : Str} (h : locB sc x = true) : Loc sc x := by
  unfold locB at h
  split at h
  · exact .inl (by assumption)
  · exact .inr (by assumption)
  · cases h
theorem glB_ok {sc : Scope} {x : Str} (h : glB sc x = true) : sc.names.lookup x = some .globalImplicit := by
  unfold glB at h
  split at h
  · assumption
  · cases h
theorem okName_ok {x : Str} (h : okName x = true) : (x == ("__debug__" : Str)) = false ∧ (x == ("__classdict__" : Str)) = false := by
  unfold okName at h
  simp only [Bool.not_eq_true', Bool.and_eq_true] at h
  exact h
section
variable {W : Wd} {P : Program} {w : World} {base : Heap} {cf : CallFn} {k : Nat} {X : Cx} {tc : Tc}
theorem At.slot {x : Str} {i : Nat} (A : At W P w base cf k X tc) (h : slotOf tc x = some i) : X.N[i]? = some x ∧ Vis X.env.scope x ∧ (x == ("__debug__" : Str)) = false ∧ (x == ("__classdict__" : Str)) = false := by
  unfold slotOf at h
  split at h
  · rename_i q
    simp only [Bool.and_eq_true] at q
    rw [A.N, A.sc]
    exact ⟨ixN0_zero h, visB_ok q.1, okName_ok q.2⟩
  · cases h
theorem At.put {x : Str} {i : Nat} (A : At W P w base cf k X tc) (h : putOf tc x = some i) : X.N[i]? = some x ∧ Loc X.env.scope x ∧ (X.fn x = true ∨ X.env.scope.names.lookup x = some .local) := by
  unfold putOf at h
  split at h
  · rename_i q
    simp only [Bool.and_eq_true] at q
    refine ⟨by rw [A.N]; exact ixN0_zero h, by rw [A.sc]; exact locB_ok q.1, A.fn x q.2⟩
  · cases h
theorem At.gl {x : Str} (A : At W P w base cf k X tc) (h : glB tc.sc x = true) : Gl X x := by
  show X.env.scope.names.lookup x = some .globalImplicit
  rw [A.sc]
  exact glB_ok h
/-- the block of a comprehension -/
theorem At.blk {scope : Scope} {s : Shared} {H : Hp} {C : Addr} {cl : List (Str × Addr)} {fp : List Addr} (A : At W P w base cf k X tc) :
    At W P w base cf k (X.blk s H scope (compEnvC scope cl C X.env) fp) ⟨tc.N, relS scope tc.sc, some scope, []⟩ where
  ge := ⟨⟨A.ge.gd.K, A.ge.gd.calm, A.ge.gd.room, A.ge.gd.gu⟩, A.ge.pr, A.ge.wd, A.ge.mg, A.ge.bs, rfl, A.ge.nd, A.ge.fn⟩
  N := A.N
  sc := by
    show relS scope X.env.scope = _
    rw [A.sc]
  fn := fun x h => by
    unfold fnB at h
    simp only [Bool.or_eq_true] at h
    rcases h with h | h
    · refine .inr ?_
      show (relS scope X.env.scope).names.lookup x = some .local
      rw [A.sc]
      unfold isLoc at h
      split at h
      · assumption
      · cases h
    · refine .inl ?_
      show (scope.names.lookup x == some .cell) = true
      split at h
      · rename_i e; rw [e]; rfl
      · cases h
abbrev OkE (W : Wd) (cf : CallFn) (X : Cx) (e : Expr) (c : CE) : Prop := PE X e (tE W.g W.T cf c) ∧ PT X e (tT W.g W.T cf c)
theorem ok_bad {e : Expr} : OkE W cf X e .bad := by
  refine ⟨⟨fun pins s st H Q I h => ?_⟩, ⟨fun pins s st H Q I h => ?_⟩⟩
  · obtain ⟨_, _, _, _, _, _, _, _, e, _⟩ := h
    simp [evE] at e
  · obtain ⟨_, _, _, _, _, _, _, _, _, e, _⟩ := h
    simp [evE] at e
theorem ok_val {e : Expr} {c : CE} (A : At W P w base cf k X tc) (h : PE X e (tE W.g W.T cf c)) (b : byValue e = true) : OkE W cf X e c :=
  ⟨h, PT.imp (pt_truth h (fun wh => by_value b wh)) fun st H Q q => lt_val A.ge.gd.K q⟩
/-! argument lists -/
theorem pa_map {f : Expr → CE} : ∀ {es : List Expr}, es.all notStar = true → (∀ e ∈ es, PE X e (tE W.g W.T cf (f e))) → PA X es (tA W.g W.T cf (es.map f))
  | [], _, _ => PA.imp pa_nil fun _ _ _ q => la_nil q
  | e :: es, h, p => by
    simp only [Bool.and_eq_true, List.all_cons] at h
    exact PA.imp (pa_cons (p e (by simp)) (pa_map h.2 fun e' he => p e' (by simp [he])) (star_cons h.1)) fun _ _ _ q => la_cons q
theorem pk_map {f : Keyword → CE} : ∀ {kws : List Keyword}, (∀ q ∈ kws, PE X q.value (tE W.g W.T cf (f q))) → PK X kws (tA W.g W.T cf (kws.map f))
  | [], _ => ⟨fun pos pins s st H Q I h => pk_nil.run pos pins s st H Q I (la_nil h)⟩
  | ⟨nm, e, kp⟩ :: kws, p => ⟨fun pos pins s st H Q I h => (pk_cons (p ⟨nm, e, kp⟩ (by simp)) (pk_map fun q hq => p q (by simp [hq]))).run pos pins s st H Q I (la_cons h)⟩
/-! targets -/
theorem putsOf_ok (A : At W P w base cf k X tc) : ∀ {es : List Expr} {is : List Nat}, putsOf tc es = some is → PGs X es (is.foldr (fun i t => gCons (gName i) t) gNil) ∧ (assignEach es X.env).length = is.length ∧ (assignEach es X.env).findIdx? (·.1) = none
  | [], is, h => by
    unfold putsOf at h
    cases h
    exact ⟨pgs_nil, rfl, rfl⟩
  | e :: es, is, h => by
    cases e with
    | Name x p =>
      unfold putsOf at h
      split at h
      · cases h
      · rename_i i e1
        split at h
        · cases h
        · rename_i js e2
          cases h
          obtain ⟨a, b, c⟩ := putsOf_ok A e2
          obtain ⟨q1, q2, q3⟩ := A.put e1
          refine ⟨pgs_cons (pg_name A.ge.nd q1 q2 q3) a rfl, ?_, ?_⟩
          · show (assignEach es X.env).length + 1 = js.length + 1
            rw [b]
          · show List.findIdx? (·.1) ((false, _) :: assignEach es X.env) = none
            rw [List.findIdx?_cons]
            simp only [Bool.false_eq_true, if_false, c, Option.map_none]
    | _ => simp [putsOf] at h
theorem trT_ok (A : At W P w base cf k X tc) {tg : Expr} {t : Tgt} (h : trT tc tg = some t) : PG X tg (gT X.K t) := by
  unfold trT at h
  split at h
  · obtain ⟨i, e1, rfl⟩ := Option.map_eq_some_iff.mp h
    obtain ⟨q1, q2, q3⟩ := A.put e1
    exact pg_name A.ge.nd q1 q2 q3
  · obtain ⟨is, e1, rfl⟩ := Option.map_eq_some_iff.mp h
    obtain ⟨a, b, c⟩ := putsOf_ok A e1
    exact pg_tup A.ge.gd.calm a b c
  · cases h
theorem bopOf_ok {op : Operator} {o : BOp} (h : bopOf op = some o) : opOf o = op := by
  cases op <;> first | (cases h; rfl) | cases h
theorem copOf_ok {op : CmpOp} {o : COp} (h : copOf op = some o) : cmpOf o = op := by
  cases op <;> first | (cases h; rfl) | cases h
theorem cstOf_ok {c : Const} {v : PV} {kk : Nat} {pos : Pos} (h : cstOf c = some v) : ∃ u, RC v u ∧ PE X (.Constant c kk pos) (tC u) := by
  cases c with
  | none => cases h; exact ⟨_, .non, pe_non⟩
  | bool b => cases h; exact ⟨_, .bl b, pe_bl⟩
  | int i => cases h; exact ⟨_, .int i, pe_int⟩
  | str s =>
    cases h
    refine ⟨_, .str s.cps.toList, ?_⟩
    have e : toStr s.cps.toList = s := by cases s; rfl
    rw [e]
    exact pe_str
  | _ => cases h
/-! built-ins -/
def bltF (b : Blt) : Option Value := match b with
  | .len => some (.builtin "len")
  | .tuple => some (.type "tuple")
  | .int => some (.type "int")
  | .sorted => some (.builtin "sorted")
  | .list => some (.type "list")
  | .min2 => some (.builtin "min")
  | .max2 => some (.builtin "max")
  | .all => some (.builtin "all")
  | .any => some (.builtin "any")
  | .repr => some (.builtin "repr")
  | .abs => some (.builtin "abs")
  | .divmod => some (.builtin "divmod")
  | .str => some (.type "str")
  | .sum => some (.builtin "sum")
  | _ => none
theorem bltF_ok {b : Blt} {f : Value} {kk : Nat} (G : Gd W.g X kk) (h : bltF b = some f) : CallR X f (rCall W.g (bltV b)) := by
  cases b <;> cases h
  · exact blt_len G.K
  · exact blt_sorted G
  · exact blt_list G.K G.calm
  · exact blt_tuple G.K
  · exact blt_abs
  · exact blt_min G.calm
  · exact blt_max G.calm
  · exact blt_int
  · exact blt_str
  · exact blt_repr G
  · exact blt_all G
  · exact blt_any G
  · exact blt_sum G
  · exact blt_divmod
theorem tab_mem {α : Type} {l : List (Str × α)} {x : Str} {a : α} (h : l.lookup x = some a) : (x, a) ∈ l := PySem.mem_of_lookup h
theorem bltTab_ok : bltTab.all (fun p => decide (bltF p.2 = bootBuiltins p.1) && (bltF p.2).isSome) = true := by decide +kernel
theorem bltOf_ok {x : Str} {b : Blt} (h : bltOf x = some b) : ∃ f, bltF b = some f ∧ bootBuiltins x = some f := by
  have q := List.all_eq_true.mp bltTab_ok _ (tab_mem h)
  rw [Bool.and_eq_true, decide_eq_true_eq] at q
  obtain ⟨f, e⟩ := Option.isSome_iff_exists.mp q.2
  exact ⟨f, e, q.1.symm.trans e⟩
/-- f(e, ..) of a built-in -/
theorem pe_blt {x : Str} {b : Blt} {e : Expr} {es : List Expr} {cs : List CE} {p pos : Pos} (A : At W P w base cf k X tc) (ok : W.Ok) (hg : glB tc.sc x = true) (hb : W.c.tb x = true) (h : bltOf x = some b) (ha : PA X (e :: es) (tA W.g W.T cf cs)) (hns : (e :: es).all notStar = true) :
    PE X (.Call (.Name x p) (e :: es) [] pos) (tE W.g W.T cf (.blt b cs)) := by
  obtain ⟨f, h1, h2⟩ := bltOf_ok h
  obtain ⟨m1, m2, m3⟩ := ok.tb x hb
  have hc := bltF_ok A.ge.gd h1
  rw [List.all_cons, Bool.and_eq_true] at hns
  have hmg : X.mg x = none := by rw [A.ge.mg]; exact m1
  refine PE.imp (t := tCB (rCall W.g (bltV b)) (tA W.g W.T cf cs)) ?_ fun _ _ _ q => lx_blt q
  cases f with
  | builtin id => exact pe_callB hc (A.gl hg) hmg h2 ha m2 m3 (star_cons hns.1) (star_none hns.2)
  | type T => exact pe_callTy hc (A.gl hg) hmg h2 ha m2 m3 (star_cons hns.1) (star_none hns.2)
  | _ => cases b <;> cases h1
end
end HT
namespace HT
open L2 PyProof.Rows PySem PySem.Spec
section
variable {W : Wd} {P : Program} {w : World} {base : Heap} {cf : CallFn} {k : Nat} {X : Cx} {tc : Tc}
/-- o.m(..), the class known when o is there -/
theorem ok_meth {o : Expr} {m : Str} {f : Nat} {co : CE} {es : List Expr} {cs : List CE} {apos pos : Pos} (A : At W P w base cf k X tc) (ok : W.Ok) (he : PE X o (tE W.g W.T cf co)) (ha : PA X es (tA W.g W.T cf cs)) (hm : W.g.fld f = m)
    (hcs : cs.length = es.length) (hpb : plainBase o = true) (hf : fewOk es = true) (hl : (apos.endLine == pos.line) = true) : PE X (.Call (.Attribute o m apos) es [] pos) (tE W.g W.T cf (.meth f co cs)) := by
  refine ⟨fun pins s st H Q I h => ?_⟩
  refine PySem.W.methodCall_KW (pl := (do return (← importBound o X.env).getD true)) (thn (he.run pins s st H _ I (lx_meth ok h)) fun u s1 z => ?_) (eval_meth hpb hf hl)
  obtain ⟨x, H1, I1, rx, c, C, fn, eC, em, a, dx, fs, rfl, ea, l, q⟩ := z
  cases (show u = .ref a from rx)
  have cx := ok.cls c C eC
  obtain ⟨mt, hpl⟩ := cx.me f fn em
  rw [hm] at mt l
  have cl : Cls X.K (W.g.cls c) := by rw [A.ge.gd.K]; exact cx.cf.cl
  have mt' : Meth X.K (W.g.cls c) m (W.fa fn) := by rw [A.ge.gd.K]; exact mt
  have bd : Binds X.K (W.fd fn) (W.pn fn) [] := by rw [A.ge.gd.K]; exact ok.pl fn hpl
  refine getmeth_ok I1 ea cl mt' l ?_
  cases es with
  | nil =>
    cases cs with
    | nil => exact PySem.W.callWith_K0 (first := [.ref a]) I1.kIn mt'.kp (run_g (us := [.ref a]) (vs := [.ref a]) (A.ge.fnX fn) A.ge.room A.ge.gd.gu bd I1 (.cons rfl .nil) (la_nil q))
    | cons _ _ => simp at hcs
  | cons e es =>
    unfold fewOk at hf
    rw [Bool.and_eq_true, List.all_cons, Bool.and_eq_true] at hf
    refine PySem.W.callWith_K (first := [.ref a]) (h₀ := X.base) I.ok.mod.kin mt'.kp (thn (ha.run pos pins s1 st H1 _ I1 q) fun us s2 z2 => ?_) (star_cons hf.1.1) (star_none hf.1.2)
    obtain ⟨vs, H2, I2, r, q2⟩ := z2
    exact ⟨I2.kIn, run_g (us := .ref a :: us) (vs := .ref a :: vs) (A.ge.fnX fn) A.ge.room A.ge.gd.gu bd I2 (.cons rfl r) q2⟩
/-- o.f -/
theorem ok_attr {o : Expr} {x : Str} {f : Nat} {co : CE} {pos : Pos} (A : At W P w base cf k X tc) (ok : W.Ok) (he : PE X o (tE W.g W.T cf co)) (hm : W.g.fld f = x) (hpb : plainBase o = true) : PE X (.Attribute o x pos) (tE W.g W.T cf (.attr f co)) := by
  refine ⟨fun pins s0 st H0 Q I0 h => ?_⟩
  refine attr_of (base_ok hpb) (thn (he.run pins s0 st H0 _ I0 (lx_attr ok h)) fun u s z => ?_)
  obtain ⟨v, H, I, rx, c, C, eC, a, dx, fs, rfl, ea, q⟩ := z
  cases (show u = .ref a from rx)
  have cx := ok.cls c C eC
  have cl : Cls X.K (W.g.cls c) := by rw [A.ge.gd.K]; exact cx.cf.cl
  rcases q with ⟨pf, ep, q⟩ | ⟨en, ec, v, ev, q⟩
  · obtain ⟨⟨pr, hp⟩, hpl⟩ := cx.pr f pf ep
    rw [hm, ← A.ge.gd.K] at hp
    have bd : Binds X.K (W.fd pf) (W.pn pf) [] := by rw [A.ge.gd.K]; exact ok.pl pf hpl
    have Fn := A.ge.fnX pf
    obtain ⟨flds, O, _⟩ := ins_get I.hok ea
    obtain ⟨od, J, _⟩ := O.look
    obtain ⟨more, getter⟩ := hp.rec_
    have I1 := I.tok (s.toks + 1)
    have hl : ([Value.ref a]).length = (W.pn pf).length := by
      rw [← Fn.len _ _ _ q]
      rfl
    have hc : (PySem.W.clsIn X.K (W.g.cls c)).isSome = true := by
      obtain ⟨cd, hc, _⟩ := PySem.W.any_some cl.hd
      rw [hc]
      rfl
    have hbb := bd { s with toks := s.toks + 1 } [.ref a] I1.kIn (by rw [List.append_nil]; exact hl)
    rw [List.append_nil] at hbb
    refine PySem.W.get_bind I.kIn J (PySem.W.plainGet_of (cl.get x)).1 (PySem.W.findObj_data hc hp.at_ hp.get hp.tak) (PySem.W.plainGet_of (cl.get x)).2 (wpAny_call (PySem.W.prop_get (s := { s with toks := s.toks + 1 }) I.kIn getter ?_))
    refine codeAny_mono (Fn.run X.A.in1 X.stack { s with toks := s.toks + 1 } H ⟨[.ref a], []⟩ [.ref a] [.ref a] Q A.ge.gd.room.in1 A.ge.gd.gu I1.env0.in1 hbb (.cons rfl .nil) q) fun r s' hq => ?_
    obtain ⟨got, rfl, val, H2, J2, rel, good⟩ := after_g I1 hq
    have same := PySem.W.handedOut_of (handed_of rel)
    show wpAny _ _ (handedOut got) _ _ _
    exact same ▸ wpAny_pure ⟨val, H2, J2, rel, good⟩
  · rw [hm] at ev
    have na : NoAttr X.K (W.g.cls c) x := by
      have z := cx.na f ec
      rw [hm, ← A.ge.gd.K] at z
      exact z
    exact getattr_ok I ea cl na ev fun u s' I' ru => ⟨v, H, I', ru, q⟩
theorem lx_dct {st : L2.St} {H : Hp} {Q : VK} {g : Gx} {T : Tab} (h : tE g T cf (.dctE []) st H Q) : tDNewK st H Q := by
  obtain ⟨F, dl, r, D, pv, fr, D', p, e, wi⟩ := h
  unfold evE at e
  cases e
  intro q n
  have hF := p.h.fresh n
  exact wi _ _ F dl (Ev.new n) (p.to (p.h.new n) (Ev.new n)) ⟨q, rfl, n, hF.1, hF.2, .inl ⟨[], upd_same, .nil⟩⟩
theorem lx_isI {t : Ty} {c : CE} {st : L2.St} {H : Hp} {Q : VK} (h : tE W.g W.T cf (.isI t c) st H Q) : tCB (rIs W t) (tCons (tE W.g W.T cf c) (tCons (tC (tyVal W t)) tNil)) st H Q := by
  obtain ⟨F, dl, r, D, pv, fr, D', p, e, wi⟩ := h
  unfold evE at e
  split at e
  · cases e
  · rename_i x f1 D1 e1
    obtain ⟨b, e2, e3⟩ := Option.map_eq_some_iff.mp e
    cases e3
    exact tE.bind p e1 fun v H1 F1 dl1 ev p1 rv => ⟨v, rfl, F1, dl1, _, x, b, p1.h, rv, e2, wi _ _ _ _ ev p1 (.bl b)⟩
theorem rngV_eq (lo hi : Int) : RVs W.g (fun _ => none) [] (rangeL lo (hi - lo).toNat) (rgV lo hi) := by
  have key : ∀ (n : Nat) (a : Int), RVs W.g (fun _ => none) [] (rangeL a n) ((List.range n).map fun i => V.int (a + (i : Nat))) := by
    intro n
    induction n with
    | zero => intro a; exact .nil
    | succ n ih =>
      intro a
      simp only [List.range_succ_eq_map, List.map_cons, List.map_map]
      refine .cons ?_ ?_
      · rw [show a + ((0 : Nat) : Int) = a by simp]
        exact .int a
      · have z := ih (a + 1)
        have e : ((fun i : Nat => V.int (a + (i : Nat))) ∘ Nat.succ) = fun i : Nat => V.int (a + 1 + (i : Nat)) := by
          funext i
          show V.int (a + ((i + 1 : Nat) : Int)) = V.int (a + 1 + (i : Nat))
          congr 1
          push_cast
          omega
        rw [e]
        exact z
  exact key _ lo
theorem rng_rel {F : Hp} {dl : List Addr} (lo hi : Int) : RVs W.g F dl (rangeL lo (hi - lo).toNat) (rgV lo hi) := (rngV_eq lo hi).mono (fun _ _ z => by cases z) fun n a z => by simp at z
theorem lx_listR1 {c : CE} {st : L2.St} {H : Hp} {Q : VK} (h : tE W.g W.T cf (.blt .list [.rng1 c]) st H Q) : tLstRg (tRg1 (tE W.g W.T cf c)) st H Q := by
  obtain ⟨F, dl, r, D, pv, fr, D', p, e, wi⟩ := h
  unfold evE at e
  split at e
  · cases e
  · rename_i xs D1 e1
    obtain ⟨z, e3, e4⟩ := Option.map_eq_some_iff.mp e
    obtain ⟨z1, z2⟩ := z
    cases e4
    unfold evEs at e1
    split at e1
    · cases e1
    · rename_i v f1 D2 e5
      unfold evEs at e1
      cases e1
      unfold evE at e5
      split at e5
      · rename_i j f2 D3 e6
        split at e5
        · rename_i hz
          cases e5
          simp only [List.map_cons, List.map_nil, deref, bltV, listV] at e3
          split at e3
          · rename_i hl
            cases e3
            rw [rangeL_len] at hl
            refine tE.bind p e6 fun v H1 F1 dl1 ev p1 rv => ?_
            cases rv
            refine ⟨j, rfl, ⟨by omega, by omega, hz.1, hz.2, ?_⟩, fun q n => ?_⟩
            · have : sizeL = 2 ^ 24 := rfl
              rw [Int.sub_zero]
              omega
            · have rr := rng_rel (W := W) (F := F1) (dl := dl1) 0 j
              rw [Int.sub_zero] at rr
              exact (wi.back p ev p1).lst p1.h rr n
          · cases e3
        · cases e5
      · cases e5
theorem lx_listR2 {c d : CE} {st : L2.St} {H : Hp} {Q : VK} (h : tE W.g W.T cf (.blt .list [.rng2 c d]) st H Q) : tLstRg (tRg2 (tE W.g W.T cf c) (tE W.g W.T cf d)) st H Q := by
  obtain ⟨F, dl, r, D, pv, fr, D', p, e, wi⟩ := h
  unfold evE at e
  split at e
  · cases e
  · rename_i xs D1 e1
    obtain ⟨z, e3, e4⟩ := Option.map_eq_some_iff.mp e
    obtain ⟨z1, z2⟩ := z
    cases e4
    unfold evEs at e1
    split at e1
    · cases e1
    · rename_i v f1 D2 e5
      unfold evEs at e1
      cases e1
      unfold evE at e5
      split at e5
      · rename_i i f2 D3 e6
        split at e5
        · rename_i j f3 D4 e7
          split at e5
          · rename_i hz
            cases e5
            simp only [List.map_cons, List.map_nil, deref, bltV, listV] at e3
            split at e3
            · rename_i hl
              cases e3
              rw [rangeL_len] at hl
              refine lx_two (c := c) p e6 e7 fun v u H2 F2 dl2 ev p2 r1 r2 => ?_
              cases r1
              cases r2
              refine ⟨i, j, rfl, rfl, ⟨hz.1, hz.2.1, hz.2.2.1, hz.2.2.2, ?_⟩, fun q n => ?_⟩
              · have : sizeL = 2 ^ 24 := rfl
                omega
              · exact (wi.back p ev p2).lst p2.h (rng_rel i j) n
            · cases e3
          · cases e5
        · cases e5
      · cases e5
/-- a if t else b, as a test -/
theorem pt_ite {t a b : Expr} {ct ca cb : CE} {pos : Pos} (ht : PT X t (tT W.g W.T cf ct)) (ha : PT X a (tT W.g W.T cf ca)) (hb : PT X b (tT W.g W.T cf cb)) : PT X (.IfExp t a b pos) (tT W.g W.T cf (.ite ct ca cb)) := by
  refine ⟨fun pins s st H Q I h => ?_⟩
  have e0 : isTrue (.IfExp t a b pos) X.env (eval (.IfExp t a b pos) X.env) = (do if ← isTrue t X.env (eval t X.env) then isTrue a X.env (eval a X.env) else isTrue b X.env (eval b X.env)) := by rw [PySem.isTrue]
  rw [e0]
  obtain ⟨F, dl, r, D, pv, fr, D', bb, p, e, e2, wi⟩ := h
  unfold evE at e
  split at e
  · cases e
  · rename_i x f1 D1 e1
    split at e
    · cases e
    · rename_i t1
      refine wpAny_bind (thn (ht.run pins s st H (fun c H1 => c = true ∧ tT W.g W.T cf ca st H1 Q) I ⟨F, dl, r, D, x, f1, D1, true, p, e1, t1, fun H1 F1 dl1 ev p1 => ⟨rfl, F1, dl1, r, D1, pv, fr, D', bb, p1, e, e2, fun H2 F2 dl2 ev2 p2 => wi _ _ _ (ev.trans ev2) p2⟩⟩) fun c s1 z => ?_)
      obtain ⟨H1, I1, rfl, q⟩ := z
      simp only [if_true]
      exact ha.run pins s1 st H1 Q I1 q
    · rename_i t1
      refine wpAny_bind (thn (ht.run pins s st H (fun c H1 => c = false ∧ tT W.g W.T cf cb st H1 Q) I ⟨F, dl, r, D, x, f1, D1, false, p, e1, t1, fun H1 F1 dl1 ev p1 => ⟨rfl, F1, dl1, r, D1, pv, fr, D', bb, p1, e, e2, fun H2 F2 dl2 ev2 p2 => wi _ _ _ (ev.trans ev2) p2⟩⟩) fun c s1 z => ?_)
      obtain ⟨H1, I1, rfl, q⟩ := z
      simp only [if_false, Bool.false_eq_true]
      exact hb.run pins s1 st H1 Q I1 q
theorem lt_cmp {op : COp} {a b : CE} {st : L2.St} {H : Hp} {Q : Bool → Hp → Prop} (h : tT W.g W.T cf (.cmp op a b) st H Q) : tTest (tOp (rOp W.g (cmpR op)) (tE W.g W.T cf a) (tE W.g W.T cf b)) st H Q := by
  obtain ⟨F, dl, r, D, pv, fr, D', bb, p, e, e2, wi⟩ := h
  refine lx_cmp ⟨F, dl, r, D, pv, fr, D', p, e, fun v H' F' dl' ev p' rr => ?_⟩
  unfold evE at e
  split at e
  · cases e
  · split at e
    · cases e
    · obtain ⟨z, e3, e4⟩ := Option.map_eq_some_iff.mp e
      cases e4
      cases (show RV W.g F' dl' (.bl z) v from rr)
      simp only [deref, truth] at e2
      cases e2
      exact ⟨_, rfl, wi _ _ _ ev p'⟩
theorem lt_chain {o1 o2 : COp} {a b c : CE} {st : L2.St} {H : Hp} {Q : Bool → Hp → Prop} (h : tT W.g W.T cf (.chain o1 o2 a b c) st H Q) : tTest (tChain (rOp W.g (cmpR o1)) (rOp W.g (cmpR o2)) (tE W.g W.T cf a) (tE W.g W.T cf b) (tE W.g W.T cf c)) st H Q := by
  obtain ⟨F, dl, r, D, pv, fr, D', bb, p, e, e2, wi⟩ := h
  refine lx_chain ⟨F, dl, r, D, pv, fr, D', p, e, fun v H' F' dl' ev p' rr => ?_⟩
  have hb : ∃ z, pv = .bl z ∧ fr = false := by
    unfold evE at e
    split at e
    · cases e
    · split at e
      · cases e
      · split at e
        · cases e
        · cases e; exact ⟨_, rfl, rfl⟩
        · split at e
          · cases e
          · obtain ⟨z, e3, e4⟩ := Option.map_eq_some_iff.mp e
            cases e4
            exact ⟨_, rfl, rfl⟩
  obtain ⟨z, rfl, rfl⟩ := hb
  cases (show RV W.g F' dl' (.bl z) v from rr)
  simp only [deref, truth] at e2
  cases e2
  exact ⟨_, rfl, wi _ _ _ ev p'⟩
theorem lt_isN {a : CE} {b : Bool} {st : L2.St} {H : Hp} {Q : Bool → Hp → Prop} (h : tT W.g W.T cf (.isN a b) st H Q) : tE W.g W.T cf a st H fun x H1 => Q (decide (x = .non) == b) H1 := by
  obtain ⟨F, dl, r, D, pv, fr, D', bb, p, e, e2, wi⟩ := h
  unfold evE at e
  split at e
  · cases e
  · rename_i x f1 D1 e1
    cases e
    simp only [deref, truth] at e2
    cases e2
    exact tE.bind p e1 fun v H1 F1 dl1 ev p1 rv => by
      have q : decide (v = V.non) = isNon x := by cases rv <;> rfl
      rw [q]
      exact wi _ _ _ ev p1
end
end HT
namespace HT
open L2 PyProof.Rows PySem PySem.Spec
def mutTab_name : MK → Str
  | .mm .append => "append"
  | .mm .extend => "extend"
  | .mm .remove => "remove"
  | .mm .pop => "pop"
  | .get => "get"
  | .index => "index"
theorem mkTab_ok : mkTab.all (fun p => decide (p.1 = mutTab_name p.2)) = true := by decide +kernel
theorem mkOf_ok {x : Str} {m : MK} (h : mkOf x = some m) : x = mutTab_name m := by
  have q := List.all_eq_true.mp mkTab_ok _ (tab_mem h)
  exact of_decide_eq_true q
def tyName : Ty → Str
  | .int => "int"
  | .bool => "bool"
  | .str => "str"
  | .tuple => "tuple"
  | .list => "list"
  | .cls _ => "?"
theorem tyTab_ok : tyTab.all (fun p => decide (bootBuiltins p.1 = some (match p.2 with
    | .int => .type "int"
    | .bool => .type "bool"
    | .str => .type "str"
    | .tuple => .type "tuple"
    | .list => .type "list"
    | .cls _ => .none)) && (match p.2 with | .cls _ => false | _ => true)) = true := by decide +kernel
section
variable {W : Wd} {P : Program} {w : World} {base : Heap} {cf : CallFn} {k : Nat}
/-- a class named in isinstance -/
theorem ty_ok {X : Cx} {tc : Tc} {e : Expr} {t : Ty} (A : At W P w base cf k X tc) (ok : W.Ok) (h : tyOfN W.c tc e = some t) : PE X e (tC (tyVal W t)) := by
  unfold tyOfN at h
  split at h
  · rename_i x p
    by_cases hg : glB tc.sc x = true
    · rw [if_pos hg] at h
      by_cases hb : W.c.tb x = true
      · rw [if_pos hb] at h
        obtain ⟨m1, m2, m3⟩ := ok.tb x hb
        have q := List.all_eq_true.mp tyTab_ok _ (tab_mem h)
        rw [Bool.and_eq_true, decide_eq_true_eq] at q
        have hmg : X.mg x = none := by rw [A.ge.mg]; exact m1
        cases t with
        | cls c => exact absurd q.2 (by simp)
        | int => exact pe_bltn (A.gl hg) hmg q.1 rfl m2 m3
        | bool => exact pe_bltn (A.gl hg) hmg q.1 rfl m2 m3
        | str => exact pe_bltn (A.gl hg) hmg q.1 rfl m2 m3
        | tuple => exact pe_bltn (A.gl hg) hmg q.1 rfl m2 m3
        | list => exact pe_bltn (A.gl hg) hmg q.1 rfl m2 m3
      · rw [if_neg hb] at h
        obtain ⟨c, e1, rfl⟩ := Option.map_eq_some_iff.mp h
        obtain ⟨m1, m2⟩ := ok.tc x c e1
        exact pe_glob (A.gl hg) (by rw [A.ge.mg]; exact m1) rfl m2
    · rw [if_neg hg] at h
      cases h
  · cases h
theorem notStar_pos {es : List Expr} (h : es.all notStar = true) : ∀ e ∈ es, notStar e = true := List.all_eq_true.mp h
/-- what a text of depth n says -/
def IH (W : Wd) (P : Program) (w : World) (base : Heap) (cf : CallFn) (k n : Nat) : Prop := ∀ X tc e, At W P w base cf k X tc → OkE W cf X e (trE W.c n tc e)
def IHI (W : Wd) (P : Program) (w : World) (base : Heap) (cf : CallFn) (k n : Nat) : Prop := ∀ X tc tg e, At W P w base cf k X tc → notSet e = true → PI X tg e (tI W.g W.T cf (trI W.c n tc tg e))
variable {n : Nat} {X : Cx} {tc : Tc}
theorem pi_bad {tg e : Expr} : PI X tg e (tI W.g W.T cf .bad) := by
  refine ⟨fun pins s st H R I h => ?_⟩
  obtain ⟨_, _, _, _, _, _, _, _, e, _⟩ := h
  simp [evE] at e
theorem rngArgs_ok {e : Expr} {as : List Expr} (A : At W P w base cf k X tc) (ok : W.Ok) (h : rngArgs W.c tc e = some as) : ∃ p pos, e = .Call (.Name "range" p) as [] pos ∧ Gl X "range" ∧ X.mg "range" = none ∧ as.all notStar = true := by
  unfold rngArgs at h
  split at h
  · rename_i x p as' pos
    by_cases q : (isRng x && glB tc.sc x && W.c.tb x && as'.all notStar) = true
    · rw [if_pos q] at h
      cases h
      rw [Bool.and_eq_true, Bool.and_eq_true, Bool.and_eq_true] at q
      obtain ⟨⟨⟨q1, q2⟩, q3⟩, q4⟩ := q
      have ex : x = "range" := beq_iff_eq.mp q1
      subst ex
      exact ⟨p, pos, rfl, A.gl q2, by rw [A.ge.mg]; exact (ok.tb _ q3).1, q4⟩
    · rw [if_neg q] at h; cases h
  · cases h
theorem enuArg_ok {e a : Expr} (A : At W P w base cf k X tc) (ok : W.Ok) (h : enuArg W.c tc e = some a) : ∃ p pos, e = .Call (.Name "enumerate" p) [a] [] pos ∧ Gl X "enumerate" ∧ X.mg "enumerate" = none ∧ notStar a = true := by
  unfold enuArg at h
  split at h
  · rename_i x p a' pos
    by_cases q : (isEnu x && glB tc.sc x && W.c.tb x && notStar a') = true
    · rw [if_pos q] at h
      cases h
      rw [Bool.and_eq_true, Bool.and_eq_true, Bool.and_eq_true] at q
      obtain ⟨⟨⟨q1, q2⟩, q3⟩, q4⟩ := q
      have ex : x = "enumerate" := beq_iff_eq.mp q1
      subst ex
      exact ⟨p, pos, rfl, A.gl q2, by rw [A.ge.mg]; exact (ok.tb _ q3).1, q4⟩
    · rw [if_neg q] at h; cases h
  · cases h
theorem trI_ok (ok : W.Ok) (ih : IH W P w base cf k n) : IHI W P w base cf k (n + 1) := by
  intro X tc tg e A hs
  unfold trI
  cases h1 : rngArgs W.c tc e with
  | some as =>
    obtain ⟨p, pos, rfl, hg, hm, hns⟩ := rngArgs_ok A ok h1
    match as, hns with
    | [], _ => exact pi_bad
    | [a], hns =>
      rw [List.all_cons, Bool.and_eq_true] at hns
      have pa := pa_map (W := W) (cf := cf) (f := trE W.c n tc) (es := [a]) (by rw [List.all_cons, hns.1]; rfl) fun e' he => (ih X tc e' A).1
      exact ⟨fun pins s st H R I q => (pi_range1 hg hm pa (star_cons hns.1)).run pins s st H R I (li_rng1 q)⟩
    | [a, b], hns =>
      rw [List.all_cons, Bool.and_eq_true, List.all_cons, Bool.and_eq_true] at hns
      have pa := pa_map (W := W) (cf := cf) (f := trE W.c n tc) (es := [a, b]) (by rw [List.all_cons, List.all_cons, hns.1, hns.2.1]; rfl) fun e' he => (ih X tc e' A).1
      exact ⟨fun pins s st H R I q => (pi_range2 hg hm pa (by rw [star_cons hns.1, star_cons hns.2.1]; rfl) (star_cons hns.2.1)).run pins s st H R I (li_rng2 q)⟩
    | _ :: _ :: _ :: _, _ => exact pi_bad
  | none =>
    cases h2 : enuArg W.c tc e with
    | some a =>
      obtain ⟨p, pos, rfl, hg, hm, hns⟩ := enuArg_ok A ok h2
      cases tg with
      | Tuple es kk tp =>
        have pa := pa_map (W := W) (cf := cf) (f := trE W.c n tc) (es := [a]) (by rw [List.all_cons, hns]; rfl) fun e' he => (ih X tc e' A).1
        exact ⟨fun pins s st H R I q => (pi_enumT hg hm pa hns).run pins s st H R I (li_enum q)⟩
      | _ => exact pi_bad
    | none => exact pi_any A.ge.gd.K (ih X tc e A).1
theorem blk_own {t : Tgt} {own : List (Str × Nat)} (h : (tgtIs t).all (fun i => (own.map (·.2)).contains i) = true) : ∀ i ∈ tgtIs t, i ∈ own.map (·.2) := fun i hi => by
  have q := List.all_eq_true.mp h i hi
  exact List.contains_iff_mem.mp q
theorem relS_of {scope : Scope} : True := True.intro
/-- a comprehension's parts -/
theorem ok_lc (ok : W.Ok) (ih : IH W P w base cf k n) (ihi : IHI W P w base cf k n) {elt tg it : Expr} {ifs : List Expr} {scope : Scope} {t : Tgt} (A : At W P w base cf k X tc) (hb : blkC tc.N tc.sc scope (ownOf tc.N scope) = true) (hs : notSet it = true) (hl : ifs.length ≤ 1)
    (ht : trT ⟨tc.N, relS scope tc.sc, some scope, []⟩ tg = some t) (ho : (tgtIs t).all (fun i => ((ownOf tc.N scope).map (·.2)).contains i) = true) :
    PI X tg it (tI W.g W.T cf (trI W.c n tc tg it)) ∧ BlkOk X.N X.env.scope scope (ownOf tc.N scope) ∧
    (∀ (s : Shared) (H : Hp) (C : Addr) (cl : List (Str × Addr)) (fp : List Addr), PG (X.blk s H scope (compEnvC scope cl C X.env) fp) tg (gT X.K t)) ∧
    (∀ (s : Shared) (H : Hp) (C : Addr) (cl : List (Str × Addr)) (fp : List Addr), PTs (X.blk s H scope (compEnvC scope cl C X.env) fp) ifs (tTs W.g W.T cf (ifs.map (trE W.c n ⟨tc.N, relS scope tc.sc, some scope, []⟩)))) ∧
    (∀ (s : Shared) (H : Hp) (C : Addr) (cl : List (Str × Addr)) (fp : List Addr), PE (X.blk s H scope (compEnvC scope cl C X.env) fp) elt (tE W.g W.T cf (trE W.c n ⟨tc.N, relS scope tc.sc, some scope, []⟩ elt))) := by
  refine ⟨ihi X tc tg it A hs, by rw [A.N, A.sc]; exact blkOk_by hb, fun s H C cl fp => trT_ok (A.blk) ht, fun s H C cl fp => ?_, fun s H C cl fp => (ih _ _ elt A.blk).1⟩
  match ifs, hl with
  | [], _ => exact PTs.imp pts_nil fun _ _ _ q => lts_nil q
  | [c], _ => exact PTs.imp (pts_one (ih _ _ c A.blk).2) fun _ _ _ q => lts_one q
  | _ :: _ :: _, hl => simp at hl
/-- f(..), a def of the table -/
theorem ok_call {x : Str} {f : Nat} {args : List Expr} {cs : List CE} {p pos : Pos} (A : At W P w base cf k X tc) (ok : W.Ok) (hg : glB tc.sc x = true) (hns : args.all notStar = true) (hf : W.c.tf x = some f) (hpl : W.c.pl f = true) (hcs : cs.length = args.length)
    (ha : PA X args (tA W.g W.T cf cs)) : PE X (.Call (.Name x p) args [] pos) (tE W.g W.T cf (.call f cs)) := by
  obtain ⟨m1, m2, m3⟩ := ok.tf x f hf
  have bd : Binds X.K (W.fd f) (W.pn f) [] := by rw [A.ge.gd.K]; exact ok.pl f hpl
  have hm : X.mg x = some (.ref (W.fa f)) := by rw [A.ge.mg]; exact m1
  have hk : PySem.W.keepIn X.K (.ref (W.fa f)) = true := by rw [A.ge.gd.K]; exact m2
  match args, cs, hcs with
  | [], [], _ => exact PE.imp (pe_callG0 (A.ge.fnX f) A.ge.room A.ge.gd.gu (A.gl hg) hm hk bd m3) fun _ _ _ q => la_nil (lx_call q)
  | e :: es, cs, _ =>
    rw [List.all_cons, Bool.and_eq_true] at hns
    exact PE.imp (pe_callG (A.ge.fnX f) A.ge.room A.ge.gd.gu (A.gl hg) hm hk bd ha m3 (star_cons hns.1) (star_none hns.2)) fun _ _ _ q => lx_call q
theorem ok_callK {x : Str} {f : Nat} {args : List Expr} {kws : List Keyword} {ks : List Str} {pm : List Nat} {cs ds : List CE} {p pos : Pos} (A : At W P w base cf k X tc) (ok : W.Ok) (hg : glB tc.sc x = true) (hns : args.all notStar = true) (hf : W.c.tf x = some f) (hks : kwNames kws = some ks)
    (hkb : W.c.kb f args.length ks = some pm) (hcs : cs.length = args.length) (hds : ds.length = kws.length) (ha : PA X args (tA W.g W.T cf cs)) (hk2 : PK X kws (tA W.g W.T cf ds)) :
    PE X (.Call (.Name x p) args kws pos) (tE W.g W.T cf (.callK f (cs ++ (ds ++ [.cst .non])) pm)) := by
  obtain ⟨m1, m2, m3⟩ := ok.tf x f hf
  have kb : KBg X.K (W.fd f) (W.pn f) args.length ks pm := by rw [A.ge.gd.K]; exact ok.kb f _ ks pm hkb
  have hm : X.mg x = some (.ref (W.fa f)) := by rw [A.ge.mg]; exact m1
  have hk : PySem.W.keepIn X.K (.ref (W.fa f)) = true := by rw [A.ge.gd.K]; exact m2
  have klen : ks.length = kws.length := by
    have key : ∀ {kws : List Keyword} {ks : List Str}, kwNames kws = some ks → ks.length = kws.length := by
      intro kws
      induction kws with
      | nil => intro ks h; cases h; rfl
      | cons q kws ih2 =>
        intro ks h
        obtain ⟨a, b, c⟩ := q
        cases a with
        | none => cases h
        | some a =>
          obtain ⟨ks', e1, rfl⟩ := Option.map_eq_some_iff.mp (show (kwNames kws).map (a :: ·) = some ks from h)
          simp [ih2 e1]
    exact key hks
  match args, cs, hcs with
  | [], [], _ =>
    refine PE.imp (pe_callKG0 (A.ge.fnX f) A.ge.room A.ge.gd.gu (A.gl hg) hm hk kb hk2 hks m3) fun _ _ _ q => ?_
    have z := lx_callK q
    rw [hds, ← klen] at z
    exact la_nil z
  | e :: es, cs, hcs =>
    refine PE.imp (pe_callKG (A.ge.fnX f) A.ge.room A.ge.gd.gu (A.gl hg) hm hk kb ha hk2 hks m3 hns) fun _ _ _ q => ?_
    have z := lx_callK q
    rw [hds, ← klen, hcs] at z
    exact z
theorem ok_mk {x : Str} {c : Nat} {e : Expr} {es : List Expr} {cs : List CE} {p pos : Pos} (A : At W P w base cf k X tc) (ok : W.Ok) (hg : glB tc.sc x = true) (hns : (e :: es).all notStar = true) (hf : W.c.tc x = some c)
    (ha : PA X (e :: es) (tA W.g W.T cf cs)) : PE X (.Call (.Name x p) (e :: es) [] pos) (tE W.g W.T cf (.mk c cs)) := by
  obtain ⟨m1, m2⟩ := ok.tc x c hf
  have hm : X.mg x = some (.ref (W.g.cls c)) := by rw [A.ge.mg]; exact m1
  cases eC : W.T.cls[c]? with
  | none =>
    refine ⟨fun pins s st H Q I h => ?_⟩
    obtain ⟨_, _, _, _, _, _, _, _, e, _⟩ := h
    unfold evE at e
    split at e
    · cases e
    · rw [eC] at e; cases e
  | some C =>
    have cx := ok.cls c C eC
    have M : Mk X.K (W.g.cls c) (W.fa C.init) := by rw [A.ge.gd.K]; exact cx.mk_
    have bd : Binds X.K (W.fd C.init) (W.pn C.init) [] := by rw [A.ge.gd.K]; exact ok.pl _ cx.mkB
    refine PE.imp (pe_makeG M (A.ge.fnX C.init) A.ge.gd.room A.ge.gd.gu (A.gl hg) hm bd ha m2 hns) fun st H Q q => ?_
    obtain ⟨F, dl, r, D, pvs, D', p', e', w'⟩ := lx_mk q
    refine ⟨F, dl, r, D, pvs, D', p', e', fun vs H' F' dl' ev pp rs => ?_⟩
    obtain ⟨C', eC', z⟩ := w' vs H' F' dl' ev pp rs
    rw [eC] at eC'; cases eC'
    exact z
/-- o.m(..) of a list -/
theorem ok_mut {o : Expr} {x : Str} {m : Mm} {e : Expr} {es : List Expr} {co : CE} {cs : List CE} {ap pos : Pos} (A : At W P w base cf k X tc) (hx : x = mutTab_name (.mm m)) (he : PE X o (tE W.g W.T cf co)) (ha : PA X (e :: es) (tA W.g W.T cf cs))
    (hpb : plainBase o = true) (hf : fewOk (e :: es) = true) (hl : (ap.endLine == pos.line) = true) : PE X (.Call (.Attribute o x ap) (e :: es) [] pos) (tE W.g W.T cf (.mut m co cs)) := by
  subst hx
  have hns : (e :: es).all notStar = true := by
    unfold fewOk at hf
    rw [Bool.and_eq_true] at hf
    exact hf.1
  rw [List.all_cons, Bool.and_eq_true] at hns
  have mt := mt_mut (X := X) A.ge.gd.K m
  refine PE.imp (t := tBM X.K "list" (rMut W.g m) (tE W.g W.T cf co) (tA W.g W.T cf cs)) ?_ fun _ _ _ q => lx_mut q
  cases m with
  | append => exact pe_bm PySem.F.plainAttrs_list PySem.F.slot_list_append PySem.F.type_list_append mt he ha (base_ok hpb) (few_ok hf) hl (star_cons hns.1) (star_none hns.2)
  | extend => exact pe_bm PySem.F.plainAttrs_list PySem.F.slot_list_extend PySem.F.type_list_extend mt he ha (base_ok hpb) (few_ok hf) hl (star_cons hns.1) (star_none hns.2)
  | remove => exact pe_bm PySem.F.plainAttrs_list PySem.F.slot_list_remove PySem.F.type_list_remove mt he ha (base_ok hpb) (few_ok hf) hl (star_cons hns.1) (star_none hns.2)
  | pop => exact pe_bm PySem.F.plainAttrs_list PySem.F.slot_list_pop PySem.F.type_list_pop mt he ha (base_ok hpb) (few_ok hf) hl (star_cons hns.1) (star_none hns.2)
theorem ok_bm {o : Expr} {x : Str} {m : Bm} {e : Expr} {es : List Expr} {co : CE} {cs : List CE} {ap pos : Pos} (A : At W P w base cf k X tc) (hx : x = (match m with | .index => "index" | .join => "join" | _ => "get" : Str)) (hj : m ≠ .join) (he : PE X o (tE W.g W.T cf co)) (ha : PA X (e :: es) (tA W.g W.T cf cs))
    (hpb : plainBase o = true) (hf : fewOk (e :: es) = true) (hl : (ap.endLine == pos.line) = true) : PE X (.Call (.Attribute o x ap) (e :: es) [] pos) (tE W.g W.T cf (.bm m co cs)) := by
  subst hx
  have hns : (e :: es).all notStar = true := by
    unfold fewOk at hf
    rw [Bool.and_eq_true] at hf
    exact hf.1
  rw [List.all_cons, Bool.and_eq_true] at hns
  have mt := mt_bm (X := X) A.ge.gd m hj
  refine PE.imp (t := tBM X.K (bmT m) (rBm W.g m) (tE W.g W.T cf co) (tA W.g W.T cf cs)) ?_ fun _ _ _ q => lx_bm A.ge.gd.K q
  cases m with
  | get1 => exact pe_bm PySem.F.plainAttrs_dict PySem.F.slot_dict_get PySem.F.type_dict_get mt he ha (base_ok hpb) (few_ok hf) hl (star_cons hns.1) (star_none hns.2)
  | get2 => exact pe_bm PySem.F.plainAttrs_dict PySem.F.slot_dict_get PySem.F.type_dict_get mt he ha (base_ok hpb) (few_ok hf) hl (star_cons hns.1) (star_none hns.2)
  | join => exact absurd rfl hj
  | index => exact pe_bm PySem.F.plainAttrs_list PySem.F.slot_list_index PySem.F.type_list_index mt he ha (base_ok hpb) (few_ok hf) hl (star_cons hns.1) (star_none hns.2)
end
end HT
namespace HT
open L2 PyProof.Rows PySem PySem.Spec
section
variable {W : Wd} {P : Program} {w : World} {base : Heap} {cf : CallFn} {k : Nat} {n : Nat} {X : Cx} {tc : Tc}
theorem z_name {x : Str} {p : Pos} (A : At W P w base cf k X tc) (ok : W.Ok) : OkE W cf X (.Name x p) (trE W.c (n + 1) tc (.Name x p)) := by
  simp only [trE]
  cases h : slotOf tc x with
  | some i =>
    obtain ⟨a, b, c, d⟩ := A.slot h
    exact ok_val A (PE.imp (pe_var a b c d) fun _ _ _ q => lx_var q) rfl
  | none =>
    by_cases hg : glB tc.sc x = true
    · simp only [hg, if_true]
      cases h2 : W.c.tk x with
      | none => exact ok_bad
      | some v =>
        obtain ⟨v', u, rc, m1, m2, m3⟩ := ok.tk x v h2
        exact ok_val A (PE.imp (pe_glob (A.gl hg) (by rw [A.ge.mg]; exact m1) m2 m3) fun _ _ _ q => lx_cst rc q) rfl
    · simp only [hg, if_false]
      exact ok_bad
theorem z_cmp1 {a b : Expr} {op : CmpOp} {p : Pos} (A : At W P w base cf k X tc) (ih : IH W P w base cf k n) : OkE W cf X (.Compare a [op] [b] p) (trE W.c (n + 1) tc (.Compare a [op] [b] p)) := by
  have ha := (ih X tc a A).1
  have hb := (ih X tc b A).1
  have gen : ∀ {o : COp}, copOf op = some o → OkE W cf X (.Compare a [op] [b] p) (if notSet b = true then .cmp o (trE W.c n tc a) (trE W.c n tc b) else .bad) := fun {o} h => by
    by_cases hs : notSet b = true
    · rw [if_pos hs]
      have oc := cmp_op (X := X) A.ge.gd o
      rw [copOf_ok h] at oc
      exact ⟨PE.imp (pe_cmpR oc ha hb (no_marks hs)) fun _ _ _ q => lx_cmp q, PT.imp (pt_cmpR oc ha hb (no_marks hs)) fun _ _ _ q => lt_cmp q⟩
    · rw [if_neg hs]
      exact ok_bad
  have non : ∀ {bb : Bool} {op' : CmpOp}, op = op' → ((op' = .Is ∧ bb = true) ∨ (op' = .IsNot ∧ bb = false)) → OkE W cf X (.Compare a [op] [b] p) (if isNone b = true then .isN (trE W.c n tc a) bb else .bad) := fun {bb op'} e0 h => by
    subst e0
    by_cases hn : isNone b = true
    · rw [if_pos hn]
      have eb : ∃ j q, b = .Constant .none j q := by
        unfold isNone at hn
        split at hn
        · exact ⟨_, _, rfl⟩
        · cases hn
      obtain ⟨j, q, rfl⟩ := eb
      rcases h with ⟨rfl, rfl⟩ | ⟨rfl, rfl⟩
      · refine ⟨PE.imp (pe_cmp (pc_isN ha)) fun _ _ _ q => ?_, PT.imp (pt_cmp (pc_isN ha)) fun st H Q q => ?_⟩
        · have z := lx_isN q
          simp only [beq_true] at z
          exact z
        · have z := lt_isN q
          simp only [beq_true] at z
          obtain ⟨F, dl, r, D, pv, fr, D', p', e', w'⟩ := z
          exact ⟨F, dl, r, D, pv, fr, D', p', e', fun v H' F' dl' ev pp rr => ⟨_, rfl, w' v H' F' dl' ev pp rr⟩⟩
      · refine ⟨PE.imp (pe_cmp (pc_notN ha)) fun _ _ _ q => ?_, PT.imp (pt_cmp (pc_notN ha)) fun st H Q q => ?_⟩
        · have z := lx_isN q
          simp only [beq_false] at z
          exact z
        · have z := lt_isN q
          simp only [beq_false] at z
          obtain ⟨F, dl, r, D, pv, fr, D', p', e', w'⟩ := z
          exact ⟨F, dl, r, D, pv, fr, D', p', e', fun v H' F' dl' ev pp rr => ⟨_, rfl, w' v H' F' dl' ev pp rr⟩⟩
    · rw [if_neg hn]
      exact ok_bad
  cases op with
  | Is => simp only [trE]; exact non rfl (.inl ⟨rfl, rfl⟩)
  | IsNot => simp only [trE]; exact non rfl (.inr ⟨rfl, rfl⟩)
  | Eq => simp only [trE, copOf]; exact gen rfl
  | NotEq => simp only [trE, copOf]; exact gen rfl
  | Lt => simp only [trE, copOf]; exact gen rfl
  | LtE => simp only [trE, copOf]; exact gen rfl
  | Gt => simp only [trE, copOf]; exact gen rfl
  | GtE => simp only [trE, copOf]; exact gen rfl
  | In => simp only [trE, copOf]; exact gen rfl
  | NotIn => simp only [trE, copOf]; exact gen rfl
theorem z_cmp2 {a b d : Expr} {o1 o2 : CmpOp} {p : Pos} (A : At W P w base cf k X tc) (ih : IH W P w base cf k n) : OkE W cf X (.Compare a [o1, o2] [b, d] p) (trE W.c (n + 1) tc (.Compare a [o1, o2] [b, d] p)) := by
  simp only [trE]
  cases h1 : copOf o1 with
  | none => exact ok_bad
  | some p1 =>
    cases h2 : copOf o2 with
    | none => exact ok_bad
    | some p2 =>
      by_cases hs : notSet d = true
      · simp only [hs, if_true]
        have c1 := cmp_op (X := X) A.ge.gd p1
        have c2 := cmp_op (X := X) A.ge.gd p2
        rw [copOf_ok h1] at c1
        rw [copOf_ok h2] at c2
        have hm : lastMarks [o1, o2] [b, d] = false := by
          show behindInMarks o2 d = false
          exact no_marks hs
        exact ⟨PE.imp (pe_chain c1 c2 (ih X tc a A).1 (ih X tc b A).1 (ih X tc d A).1 hm) fun _ _ _ q => lx_chain q, PT.imp (pt_chain c1 c2 (ih X tc a A).1 (ih X tc b A).1 (ih X tc d A).1 hm) fun _ _ _ q => lt_chain q⟩
      · simp only [hs, if_false]
        exact ok_bad
/-- a test, whatever its whole is -/
theorem pw_one {a : Expr} {op : BoolOp} {p : Pos} {c : CE} (h : PT X a (tT W.g W.T cf c)) : PW X (.BoolOp op [a] p) (tT W.g W.T cf c) := by
  cases op with
  | And => exact pw_and1 h
  | Or => exact pw_or1 h
theorem z_bool (ih : IH W P w base cf k n) : ∀ (m : Nat) {X : Cx} {tc : Tc} {op : BoolOp} {es : List Expr} {p : Pos}, m ≤ n + 1 → At W P w base cf k X tc → (∀ m', m' < m → ∀ X tc e, At W P w base cf k X tc → OkE W cf X e (trE W.c m' tc e)) →
    OkE W cf X (.BoolOp op es p) (trE W.c m tc (.BoolOp op es p)) ∧ PW X (.BoolOp op es p) (tT W.g W.T cf (trE W.c m tc (.BoolOp op es p)))
  | 0, X, tc, op, es, p, _, A, _ => by
    have e0 : trE W.c 0 tc (.BoolOp op es p) = .bad := rfl
    rw [e0]
    refine ⟨ok_bad, ⟨fun wh pins s st H Q I h => ?_⟩⟩
    obtain ⟨_, _, _, _, _, _, _, _, _, e, _⟩ := h
    simp [evE] at e
  | m + 1, X, tc, op, es, p, hm, A, ih2 => by
    have bad : OkE W cf X (.BoolOp op es p) .bad ∧ PW X (.BoolOp op es p) (tT W.g W.T cf .bad) := by
      refine ⟨ok_bad, ⟨fun wh pins s st H Q I h => ?_⟩⟩
      obtain ⟨_, _, _, _, _, _, _, _, _, e, _⟩ := h
      simp [evE] at e
    match es with
    | [] =>
      have e0 : trE W.c (m + 1) tc (.BoolOp op [] p) = .bad := by cases op <;> rfl
      rw [e0]
      exact bad
    | [a] =>
      have e0 : trE W.c (m + 1) tc (.BoolOp op [a] p) = trE W.c m tc a := by cases op <;> simp only [trE]
      rw [e0]
      have h := ih2 m (Nat.lt_succ_self m) X tc a A
      have hw : PW X (.BoolOp op [a] p) (tT W.g W.T cf (trE W.c m tc a)) := pw_one h.2
      exact ⟨⟨pe_one h.1, hw.pt⟩, hw⟩
    | a :: b :: r =>
      have h := ih2 m (Nat.lt_succ_self m) X tc a A
      have z := z_bool ih m (op := op) (es := b :: r) (p := p) (by omega) A fun m' hm' => ih2 m' (by omega)
      cases op with
      | And =>
        have e0 : trE W.c (m + 1) tc (.BoolOp .And (a :: b :: r) p) = .andE (trE W.c m tc a) (trE W.c m tc (.BoolOp .And (b :: r) p)) := by simp only [trE]
        rw [e0]
        have hw : PW X (.BoolOp .And (a :: b :: r) p) (tT W.g W.T cf (.andE (trE W.c m tc a) (trE W.c m tc (.BoolOp .And (b :: r) p)))) := PW.imp (pw_and h.2 z.2) fun _ _ _ q => lt_and q
        exact ⟨⟨PE.imp (pe_andT h.1 z.1.1) fun _ _ _ q => lx_and A.ge.gd.K q, hw.pt⟩, hw⟩
      | Or =>
        have e0 : trE W.c (m + 1) tc (.BoolOp .Or (a :: b :: r) p) = .orE (trE W.c m tc a) (trE W.c m tc (.BoolOp .Or (b :: r) p)) := by simp only [trE]
        rw [e0]
        have hw : PW X (.BoolOp .Or (a :: b :: r) p) (tT W.g W.T cf (.orE (trE W.c m tc a) (trE W.c m tc (.BoolOp .Or (b :: r) p)))) := PW.imp (pw_or h.2 z.2) fun _ _ _ q => lt_or q
        exact ⟨⟨PE.imp (pe_orT h.1 z.1.1) fun _ _ _ q => lx_or A.ge.gd.K q, hw.pt⟩, hw⟩
theorem z_lc {elt : Expr} {gs : List Comprehension} {scope : Scope} {p : Pos} (A : At W P w base cf k X tc) (ok : W.Ok) (ih : IH W P w base cf k n) (ihi : IHI W P w base cf k n) : OkE W cf X (.ListComp elt gs scope p) (trE W.c (n + 1) tc (.ListComp elt gs scope p)) := by
  refine (?_ : ∀ c, c = trE W.c (n + 1) tc (.ListComp elt gs scope p) → OkE W cf X (.ListComp elt gs scope p) c) _ rfl
  intro c hc
  match gs with
  | [⟨tg, it, ifs, asy⟩] =>
    simp only [trE] at hc
    by_cases q0 : (blkC tc.N tc.sc scope (ownOf tc.N scope) && notSet it && decide (ifs.length ≤ 1) && decide (asy = 0)) = true
    · rw [if_pos q0] at hc
      rw [Bool.and_eq_true, Bool.and_eq_true, Bool.and_eq_true, decide_eq_true_eq, decide_eq_true_eq] at q0
      obtain ⟨q, rfl⟩ := q0
      cases ht : trT ⟨tc.N, relS scope tc.sc, some scope, []⟩ tg with
      | none => rw [ht] at hc; rw [hc]; exact ok_bad
      | some t =>
        rw [ht] at hc
        simp only at hc
        by_cases ho : (tgtIs t).all (fun i => ((ownOf tc.N scope).map (·.2)).contains i) = true
        · rw [if_pos ho] at hc
          obtain ⟨a1, a2, a3, a4, a5⟩ := ok_lc (elt := elt) ok ih ihi A q.1.1 q.1.2 q.2 ht ho
          rw [hc]
          exact ok_val A (PE.imp (pe_lc A.ge.gd.calm A.ge.nd a1 a2 a3 a4 a5 (no_fold q.1.2)) fun _ _ _ z => lx_lc (blk_own ho) z) rfl
        · rw [if_neg ho] at hc; rw [hc]; exact ok_bad
    · rw [if_neg q0] at hc; rw [hc]; exact ok_bad
  | [] => simp only [trE] at hc; rw [hc]; exact ok_bad
  | _ :: _ :: _ => simp only [trE] at hc; rw [hc]; exact ok_bad
theorem z_dc {kx vx : Expr} {gs : List Comprehension} {scope : Scope} {p : Pos} (A : At W P w base cf k X tc) (ok : W.Ok) (ih : IH W P w base cf k n) (ihi : IHI W P w base cf k n) : OkE W cf X (.DictComp kx vx gs scope p) (trE W.c (n + 1) tc (.DictComp kx vx gs scope p)) := by
  refine (?_ : ∀ c, c = trE W.c (n + 1) tc (.DictComp kx vx gs scope p) → OkE W cf X (.DictComp kx vx gs scope p) c) _ rfl
  intro c hc
  match gs with
  | [⟨tg, it, [], asy⟩] =>
    simp only [trE] at hc
    by_cases q0 : (blkC tc.N tc.sc scope (ownOf tc.N scope) && notSet it && decide (asy = 0)) = true
    · rw [if_pos q0] at hc
      rw [Bool.and_eq_true, Bool.and_eq_true, decide_eq_true_eq] at q0
      obtain ⟨q, rfl⟩ := q0
      cases ht : trT ⟨tc.N, relS scope tc.sc, some scope, []⟩ tg with
      | none => rw [ht] at hc; rw [hc]; exact ok_bad
      | some t =>
        rw [ht] at hc
        simp only at hc
        by_cases ho : (tgtIs t).all (fun i => ((ownOf tc.N scope).map (·.2)).contains i) = true
        · rw [if_pos ho] at hc
          obtain ⟨a1, a2, a3, a4, a5⟩ := ok_lc (elt := kx) (ifs := []) ok ih ihi A q.1 q.2 (by simp) ht ho
          rw [hc]
          have hu : X.A.units + 1 < cLine := hu_of A.ge.gd.room
          exact ok_val A (PE.imp (pe_dz hu A.ge.gd.calm A.ge.nd a1 a2 a3 a5 (fun s H C cl fp => (ih _ _ vx A.blk).1) (no_fold q.2)) fun _ _ _ z => lx_dc (blk_own ho) z) rfl
        · rw [if_neg ho] at hc; rw [hc]; exact ok_bad
    · rw [if_neg q0] at hc; rw [hc]; exact ok_bad
  | [] => simp only [trE] at hc; rw [hc]; exact ok_bad
  | [⟨_, _, _ :: _, _⟩] => simp only [trE] at hc; rw [hc]; exact ok_bad
  | _ :: _ :: _ => simp only [trE] at hc; rw [hc]; exact ok_bad
end
end HT
namespace HT
open L2 PyProof.Rows PySem PySem.Spec
section
variable {W : Wd} {P : Program} {w : World} {base : Heap} {cf : CallFn} {k : Nat} {n : Nat} {X : Cx} {tc : Tc}
theorem pa_of (A : At W P w base cf k X tc) (ih : IH W P w base cf k n) {es : List Expr} (h : es.all notStar = true) : PA X es (tA W.g W.T cf (es.map (trE W.c n tc))) := pa_map h fun e _ => (ih X tc e A).1
theorem pa_stars (A : At W P w base cf k X tc) (ih : IH W P w base cf k n) : ∀ es : List Expr, PA X es (tSs' W.g W.T cf (es.map fun e => !notStar e) (es.map fun e => trE W.c n tc (unstar e)))
  | [] => PA.imp pa_nil fun _ _ _ q => ls_nil q
  | e :: es => by
    by_cases hs : notStar e = true
    · have hu : unstar e = e := by cases e <;> first | rfl | simp [notStar] at hs
      refine PA.imp (pa_cons (ih X tc e A).1 (pa_stars A ih es) (star_cons hs)) fun _ _ _ q => ?_
      have z := ls_cons (by simp [starB, hs]) q
      simp only [hu, List.map_cons, List.tail_cons] at z
      exact z
    · cases e with
      | Starred a p =>
        refine PA.imp (StX.pa_star (ih X tc a A).1 (pa_stars A ih es) rfl) fun _ _ _ q => ?_
        have z := ls_star (by simp [starB, notStar]) q
        rw [A.ge.gd.K]
        exact z
      | _ => simp [notStar] at hs
theorem z_callN {x : Str} {q pos : Pos} {args : List Expr} (A : At W P w base cf k X tc) (ok : W.Ok) (ih : IH W P w base cf k n) : OkE W cf X (.Call (.Name x q) args [] pos) (trE W.c (n + 1) tc (.Call (.Name x q) args [] pos)) := by
  refine (?_ : ∀ c, c = trE W.c (n + 1) tc (.Call (.Name x q) args [] pos) → OkE W cf X (.Call (.Name x q) args [] pos) c) _ rfl
  intro c hc
  simp only [trE] at hc
  by_cases h0 : (glB tc.sc x && args.all notStar) = true
  · rw [if_pos h0] at hc
    rw [Bool.and_eq_true] at h0
    obtain ⟨hg, hns⟩ := h0
    cases h1 : W.c.tf x with
    | some f =>
      rw [h1] at hc
      simp only at hc
      by_cases hpl : W.c.pl f = true
      · rw [if_pos hpl] at hc
        rw [hc]
        exact ok_val A (ok_call A ok hg hns h1 hpl (by rw [List.length_map]) (pa_of A ih hns)) rfl
      · rw [if_neg hpl] at hc
        cases h2 : W.c.kb f args.length [] with
        | none => rw [h2] at hc; rw [hc]; exact ok_bad
        | some pm =>
          rw [h2] at hc
          simp only at hc
          rw [hc]
          exact ok_val A (ok_callK (kws := []) (ks := []) (ds := []) A ok hg hns h1 rfl h2 (by rw [List.length_map]) rfl (pa_of A ih hns) (pk_map (kws := []) (f := fun q => trE W.c n tc q.value) fun q hq => by simp at hq)) rfl
    | none =>
      rw [h1] at hc
      simp only at hc
      cases h2 : W.c.tc x with
      | some cc =>
        rw [h2] at hc
        simp only at hc
        cases args with
        | nil => simp only [List.isEmpty_nil, if_true] at hc; rw [hc]; exact ok_bad
        | cons e es =>
          simp only [List.isEmpty_cons, Bool.false_eq_true, if_false] at hc
          rw [hc]
          exact ok_val A (ok_mk A ok hg hns h2 (pa_of A ih hns)) rfl
      | none =>
        rw [h2] at hc
        simp only at hc
        by_cases hb : W.c.tb x = true
        · rw [if_pos hb] at hc
          obtain ⟨m1, m2, m3⟩ := ok.tb x hb
          have hmg : X.mg x = none := by rw [A.ge.mg]; exact m1
          match args, hns with
          | [], _ => simp only at hc; rw [hc]; exact ok_bad
          | [a], hns =>
            simp only at hc
            have ha : notStar a = true := by rw [List.all_cons, Bool.and_eq_true] at hns; exact hns.1
            cases h3 : rngArgs W.c tc a with
            | none =>
              rw [h3] at hc
              simp only at hc
              cases h4 : bltOf x with
              | none => rw [h4] at hc; rw [hc]; exact ok_bad
              | some b =>
                rw [h4] at hc
                simp only at hc
                rw [hc]
                exact ok_val A (pe_blt A ok hg hb h4 (pa_of A ih hns) hns) rfl
            | some as =>
              rw [h3] at hc
              obtain ⟨p2, pos2, rfl, hg2, hm2, hns2⟩ := rngArgs_ok A ok h3
              match as, hns2 with
              | [], _ => simp only at hc; rw [hc]; exact ok_bad
              | [u], hns2 =>
                simp only at hc
                rw [List.all_cons, Bool.and_eq_true] at hns2
                by_cases hl : isLst x = true
                · rw [if_pos hl] at hc
                  rw [hc]
                  have ex : x = "list" := beq_iff_eq.mp hl
                  subst ex
                  exact ok_val A (PE.imp (pe_listRg A.ge.gd.calm (A.gl hg) hmg (prg_1 hg2 hm2 (ih X tc u A).1 (star_cons hns2.1)) (star_cons ha)) fun _ _ _ z => lx_listR1 z) rfl
                · rw [if_neg hl] at hc; rw [hc]; exact ok_bad
              | [u, v], hns2 =>
                simp only at hc
                rw [List.all_cons, Bool.and_eq_true, List.all_cons, Bool.and_eq_true] at hns2
                by_cases hl : isLst x = true
                · rw [if_pos hl] at hc
                  rw [hc]
                  have ex : x = "list" := beq_iff_eq.mp hl
                  subst ex
                  exact ok_val A (PE.imp (pe_listRg A.ge.gd.calm (A.gl hg) hmg (prg_2 hg2 hm2 (ih X tc u A).1 (ih X tc v A).1 (star_cons hns2.1) (star_cons hns2.2.1) (star_none (by rw [List.all_cons, hns2.2.1]; rfl))) (star_cons ha)) fun _ _ _ z => lx_listR2 z) rfl
                · rw [if_neg hl] at hc; rw [hc]; exact ok_bad
              | _ :: _ :: _ :: _, _ => simp only at hc; rw [hc]; exact ok_bad
          | [a, b], hns =>
            simp only at hc
            have hns0 := hns
            rw [List.all_cons, Bool.and_eq_true, List.all_cons, Bool.and_eq_true] at hns
            by_cases hi : isIsi x = true
            · rw [if_pos hi] at hc
              have ex : x = "isinstance" := beq_iff_eq.mp hi
              subst ex
              cases h3 : tyOfN W.c tc b with
              | none => rw [h3] at hc; rw [hc]; exact ok_bad
              | some t =>
                rw [h3] at hc
                simp only at hc
                rw [hc]
                refine ok_val A (PE.imp (pe_callB (call_is ok A.ge.gd t) (A.gl hg) hmg boot_isinstance (pa_cons (ih X tc a A).1 (pa_cons (ty_ok A ok h3) pa_nil (star_cons hns.2.1)) (star_cons hns.1)) m2 m3 (star_cons hns.1) (star_none (by rw [List.all_cons, hns.2.1]; rfl))) fun _ _ _ z => lx_isI z) rfl
            · rw [if_neg hi] at hc
              cases h4 : bltOf x with
              | none => rw [h4] at hc; rw [hc]; exact ok_bad
              | some bb =>
                rw [h4] at hc
                simp only at hc
                rw [hc]
                exact ok_val A (pe_blt A ok hg hb h4 (pa_of A ih hns0) hns0) rfl
          | _ :: _ :: _ :: _, _ => simp only at hc; rw [hc]; exact ok_bad
        · rw [if_neg hb] at hc; rw [hc]; exact ok_bad
  · rw [if_neg h0] at hc; rw [hc]; exact ok_bad
theorem z_callK {x : Str} {q pos : Pos} {args : List Expr} {k0 : Keyword} {kws : List Keyword} (A : At W P w base cf k X tc) (ok : W.Ok) (ih : IH W P w base cf k n) : OkE W cf X (.Call (.Name x q) args (k0 :: kws) pos) (trE W.c (n + 1) tc (.Call (.Name x q) args (k0 :: kws) pos)) := by
  refine (?_ : ∀ c, c = trE W.c (n + 1) tc (.Call (.Name x q) args (k0 :: kws) pos) → OkE W cf X (.Call (.Name x q) args (k0 :: kws) pos) c) _ rfl
  intro c hc
  simp only [trE] at hc
  by_cases h0 : (glB tc.sc x && args.all notStar) = true
  · rw [if_pos h0] at hc
    rw [Bool.and_eq_true] at h0
    obtain ⟨hg, hns⟩ := h0
    cases h1 : W.c.tf x with
    | none => rw [h1] at hc; rw [hc]; exact ok_bad
    | some f =>
      rw [h1] at hc
      simp only at hc
      cases h2 : kwNames (k0 :: kws) with
      | none => rw [h2] at hc; rw [hc]; exact ok_bad
      | some ks =>
        rw [h2] at hc
        simp only at hc
        cases h3 : W.c.kb f args.length ks with
        | none => rw [h3] at hc; rw [hc]; exact ok_bad
        | some pm =>
          rw [h3] at hc
          simp only at hc
          rw [hc]
          exact ok_val A (ok_callK A ok hg hns h1 h2 h3 (by rw [List.length_map]) (by rw [List.length_map]) (pa_of A ih hns) (pk_map (f := fun q => trE W.c n tc q.value) fun q hq => (ih X tc q.value A).1)) rfl
  · rw [if_neg h0] at hc; rw [hc]; exact ok_bad
theorem z_callM {o : Expr} {m : Str} {ap pos : Pos} {args : List Expr} (A : At W P w base cf k X tc) (ok : W.Ok) (ih : IH W P w base cf k n) : OkE W cf X (.Call (.Attribute o m ap) args [] pos) (trE W.c (n + 1) tc (.Call (.Attribute o m ap) args [] pos)) := by
  refine (?_ : ∀ c, c = trE W.c (n + 1) tc (.Call (.Attribute o m ap) args [] pos) → OkE W cf X (.Call (.Attribute o m ap) args [] pos) c) _ rfl
  intro c hc
  simp only [trE] at hc
  by_cases h0 : (plainBase o && fewOk args && (ap.endLine == pos.line)) = true
  · rw [if_pos h0] at hc
    rw [Bool.and_eq_true, Bool.and_eq_true] at h0
    obtain ⟨⟨hpb, hf⟩, hl⟩ := h0
    have hns : args.all notStar = true := by
      unfold fewOk at hf
      rw [Bool.and_eq_true] at hf
      exact hf.1
    have ho := (ih X tc o A).1
    cases h1 : mkOf m with
    | none =>
      rw [h1] at hc
      simp only at hc
      cases h2 : W.c.fldN m with
      | none => rw [h2] at hc; rw [hc]; exact ok_bad
      | some f =>
        rw [h2] at hc
        simp only at hc
        rw [hc]
        exact ok_val A (ok_meth A ok ho (pa_of A ih hns) (ok.fld m f h2) (by rw [List.length_map]) hpb hf hl) rfl
    | some mk =>
      rw [h1] at hc
      have hx := mkOf_ok h1
      cases mk with
      | mm mm =>
        simp only at hc
        cases args with
        | nil => simp only [List.isEmpty_nil, if_true] at hc; rw [hc]; exact ok_bad
        | cons e es =>
          simp only [List.isEmpty_cons, Bool.false_eq_true, if_false] at hc
          rw [hc]
          exact ok_val A (ok_mut A hx ho (pa_of A ih hns) hpb hf hl) rfl
      | get =>
        match args, hf, hns with
        | [], _, _ => simp only at hc; rw [hc]; exact ok_bad
        | [a], hf, hns =>
          simp only at hc
          rw [hc]
          exact ok_val A (ok_bm (m := .get1) A hx (by intro z; cases z) ho (pa_of A ih hns) hpb hf hl) rfl
        | [a, b], hf, hns =>
          simp only at hc
          rw [hc]
          exact ok_val A (ok_bm (m := .get2) A hx (by intro z; cases z) ho (pa_of A ih hns) hpb hf hl) rfl
        | _ :: _ :: _ :: _, _, _ => simp only at hc; rw [hc]; exact ok_bad
      | index =>
        match args, hf, hns with
        | [], _, _ => simp only at hc; rw [hc]; exact ok_bad
        | [a], hf, hns =>
          simp only at hc
          rw [hc]
          exact ok_val A (ok_bm (m := .index) A hx (by intro z; cases z) ho (pa_of A ih hns) hpb hf hl) rfl
        | _ :: _ :: _, _, _ => simp only at hc; rw [hc]; exact ok_bad
  · rw [if_neg h0] at hc; rw [hc]; exact ok_bad
theorem po_of (A : At W P w base cf k X tc) (ih : IH W P w base cf k n) (lo : Option Expr) : PO X lo (tO W.g W.T cf (lo.map (trE W.c n tc))) := by
  cases lo with
  | none => exact po_none
  | some e => exact po_some (ih X tc e A).1
/-- THE EXPRESSIONS -/
theorem trE_ok (ok : W.Ok) : ∀ n, (∀ m, m ≤ n → IH W P w base cf k m) ∧ ∀ m, m ≤ n → IHI W P w base cf k m
  | 0 => by
    refine ⟨fun m hm X tc e A => ?_, fun m hm X tc tg e A hs => ?_⟩
    · obtain rfl : m = 0 := by omega
      have e0 : trE W.c 0 tc e = .bad := by unfold trE; rfl
      rw [e0]
      exact ok_bad
    · obtain rfl : m = 0 := by omega
      have e0 : trI W.c 0 tc tg e = .bad := by unfold trI; rfl
      rw [e0]
      exact pi_bad
  | n + 1 => by
    obtain ⟨ihs, ihis⟩ := trE_ok ok n
    have ih := ihs n (Nat.le_refl n)
    have ihi := ihis n (Nat.le_refl n)
    refine ⟨fun m hm => ?_, fun m hm => ?_⟩
    · by_cases h : m ≤ n
      · exact ihs m h
      · obtain rfl : m = n + 1 := by omega
        intro X tc e A
        cases e with
        | Name x p => exact z_name A ok
        | Constant c kk p =>
          simp only [trE]
          cases h2 : cstOf c with
          | none => exact ok_bad
          | some v =>
            obtain ⟨u, rc, pe⟩ := cstOf_ok (X := X) (kk := kk) (pos := p) h2
            exact ok_val A (PE.imp pe fun _ _ _ q => lx_cst rc q) rfl
        | UnaryOp op a p =>
          cases op with
          | USub =>
            simp only [trE]
            exact ok_val A (PE.imp (pe_un un_neg (ih X tc a A).1) fun _ _ _ q => lx_neg q) rfl
          | Not =>
            simp only [trE]
            exact ⟨PE.imp (pe_notT (ih X tc a A).1) fun _ _ _ q => lx_not A.ge.gd.K q, PT.imp (pt_not (ih X tc a A).2) fun _ _ _ q => lt_not q⟩
          | _ => simp only [trE]; exact ok_bad
        | BinOp a op b p =>
          simp only [trE]
          cases h2 : bopOf op with
          | none => exact ok_bad
          | some o =>
            have oc := op_bin (X := X) A.ge.gd.K o
            rw [bopOf_ok h2] at oc
            exact ok_val A (PE.imp (pe_op oc (ih X tc a A).1 (ih X tc b A).1) fun _ _ _ q => lx_bin q) rfl
        | Compare a ops cs p =>
          match ops, cs with
          | [op], [b] => exact z_cmp1 A ih
          | [o1, o2], [b, d] => exact z_cmp2 A ih
          | [], [] => simp only [trE]; exact ok_bad
          | [], _ :: _ => simp only [trE]; exact ok_bad
          | [_], [] => simp only [trE]; exact ok_bad
          | [_], _ :: _ :: _ => simp only [trE]; exact ok_bad
          | [_, _], [] => simp only [trE]; exact ok_bad
          | [_, _], [_] => simp only [trE]; exact ok_bad
          | [_, _], _ :: _ :: _ :: _ => simp only [trE]; exact ok_bad
          | _ :: _ :: _ :: _, _ => simp only [trE]; exact ok_bad
        | BoolOp op es p => exact (z_bool ih (n + 1) (Nat.le_refl _) A fun m' hm' => ihs m' (by omega)).1
        | IfExp t a b p =>
          simp only [trE]
          exact ⟨PE.imp (pe_ifExp (ih X tc t A).2 (ih X tc a A).1 (ih X tc b A).1) fun _ _ _ q => lx_ite q, pt_ite (ih X tc t A).2 (ih X tc a A).2 (ih X tc b A).2⟩
        | Tuple es kk p =>
          simp only [trE]
          by_cases hns : es.all notStar = true
          · rw [if_pos hns]
            exact ok_val A (PE.imp (pe_tup (pa_of A ih hns)) fun _ _ _ q => lx_tup q) rfl
          · rw [if_neg hns]
            exact ok_val A (PE.imp (pe_tup (pa_stars A ih es)) fun _ _ _ q => lx_tupS q) rfl
        | List es p =>
          simp only [trE]
          by_cases hns : es.all notStar = true
          · rw [if_pos hns]
            exact ok_val A (PE.imp (pe_lst (pa_of A ih hns)) fun _ _ _ q => lx_lst q) rfl
          · rw [if_neg hns]; exact ok_bad
        | Dict ks vs p =>
          match ks, vs with
          | [], [] =>
            simp only [trE]
            exact ok_val A (PE.imp pe_dnewK fun _ _ _ q => lx_dct q) rfl
          | [], _ :: _ => simp only [trE]; exact ok_bad
          | _ :: _, _ => simp only [trE]; exact ok_bad
        | Attribute o f p =>
          simp only [trE]
          by_cases hpb : plainBase o = true
          · rw [if_pos hpb]
            cases h2 : W.c.fldN f with
            | none => exact ok_bad
            | some m => exact ok_val A (ok_attr A ok (ih X tc o A).1 (ok.fld f m h2) hpb) rfl
          · rw [if_neg hpb]; exact ok_bad
        | ListComp elt gs scope p => exact z_lc A ok ih ihi
        | DictComp kx vx gs scope p => exact z_dc A ok ih ihi
        | Subscript o i p =>
          by_cases hs : notSlice i = true
          · have e0 : trE W.c (n + 1) tc (.Subscript o i p) = .sub (trE W.c n tc o) (trE W.c n tc i) := by
              cases i <;> first | (simp only [trE, notSlice, if_true]; done) | simp [notSlice] at hs
            rw [e0]
            exact ok_val A (PE.imp (pe_ix (ix_sub A.ge.gd) (ih X tc o A).1 (ih X tc i A).1 (plain_ix hs)) fun _ _ _ q => lx_sub q) rfl
          · cases i with
            | Slice lo hi stp p2 =>
              cases stp with
              | none =>
                simp only [trE]
                exact ok_val A (PE.imp (pe_slice (sl_any A.ge.gd) (ih X tc o A).1 (po_of A ih lo) (po_of A ih hi)) fun _ _ _ q => lx_slice q) rfl
              | some stp =>
                simp only [trE, notSlice, Bool.false_eq_true, if_false]
                exact ok_bad
            | _ => simp [notSlice] at hs
        | Call f args kws p =>
          cases f with
          | Name x q =>
            cases kws with
            | nil => exact z_callN A ok ih
            | cons k0 kws => exact z_callK A ok ih
          | Attribute o m ap =>
            cases kws with
            | nil => exact z_callM A ok ih
            | cons k0 kws => simp only [trE]; exact ok_bad
          | _ => simp only [trE]; exact ok_bad
        | _ => simp only [trE]; exact ok_bad
    · by_cases h : m ≤ n
      · exact ihis m h
      · obtain rfl : m = n + 1 := by omega
        exact trI_ok ok ih
end
end HT
/-! statements -/
namespace HT
open L2 PyProof.Rows PySem PySem.Spec

def namesOf (sc : Scope) (line : Nat) (ts : List Expr) : List Str := ts.filterMap fun t => match t with
  | .Name id pos => if sc.names.lookup id == some .local && pos.line == line then some id else none
  | _ => none
def stE : Expr → Bool
  | .Starred _ _ => true
  | _ => false
/-- a, b = x, y: are the stores made from the right? none: not known -/
def swapP (sc : Scope) (ts vs : List Expr) : Option (Option (List Str)) :=
  if !(ts.length == 2 || ts.length == 3) || vs.length != ts.length then some none
  else if vs.any stE then some none
  else if (namesOf sc ((ts.head?.map (·.pos.line)).getD 0) ts).length != ts.length || (namesOf sc ((ts.head?.map (·.pos.line)).getD 0) ts).eraseDups.length != (namesOf sc ((ts.head?.map (·.pos.line)).getD 0) ts).length then some none
  else if vs.all (foldedForSure 8) then some none
  else if vs.all (constantsAlone 8) then none
  else some (some (namesOf sc ((ts.head?.map (·.pos.line)).getD 0) ts))
theorem swap_eq {env : Env} {ts vs : List Expr} {kt k2 : Nat} {pt p2 : Pos} {r : Option (List Str)} (hk : env.scope.kind = .function) (h : swapP env.scope ts vs = some r) : swappedStores [.Tuple ts kt pt] (.Tuple vs k2 p2) env = pure r := by
  have hb : env.blockKind = .function := by simp only [Env.blockKind, hk]; rfl
  show (if (!(ts.length == 2 || ts.length == 3) || vs.length != ts.length || env.blockKind != .function) = true then pure none
    else if vs.any stE = true then pure none
    else if ((namesOf env.scope ((ts.head?.map (·.pos.line)).getD 0) ts).length != ts.length || (namesOf env.scope ((ts.head?.map (·.pos.line)).getD 0) ts).eraseDups.length != (namesOf env.scope ((ts.head?.map (·.pos.line)).getD 0) ts).length) = true then pure none
    else if vs.all (foldedForSure 8) = true then pure none
    else if vs.all (constantsAlone 8) = true then (do
      unsupported "assign.tuple-of-constant-expressions:order-of-the-stores"
      pure (some (namesOf env.scope ((ts.head?.map (·.pos.line)).getD 0) ts)))
    else pure (some (namesOf env.scope ((ts.head?.map (·.pos.line)).getD 0) ts)) : Sem (Option (List Str))) = pure r
  unfold swapP at h
  generalize namesOf env.scope ((ts.head?.map (·.pos.line)).getD 0) ts = ns at h ⊢
  rw [hb, show ((ScopeKind.function != ScopeKind.function) = false) from rfl, Bool.or_false]
  by_cases h1 : (!(ts.length == 2 || ts.length == 3) || vs.length != ts.length) = true
  · rw [if_pos h1] at h ⊢
    cases h
    rfl
  rw [if_neg h1] at h ⊢
  by_cases h2 : vs.any stE = true
  · rw [if_pos h2] at h ⊢
    cases h
    rfl
  rw [if_neg h2] at h ⊢
  by_cases h3 : (ns.length != ts.length || ns.eraseDups.length != ns.length) = true
  · rw [if_pos h3] at h ⊢
    cases h
    rfl
  rw [if_neg h3] at h ⊢
  by_cases h4 : vs.all (foldedForSure 8) = true
  · rw [if_pos h4] at h ⊢
    cases h
    rfl
  rw [if_neg h4] at h ⊢
  by_cases h5 : vs.all (constantsAlone 8) = true
  · rw [if_pos h5] at h
    cases h
  rw [if_neg h5] at h ⊢
  cases h
  rfl
/-! the stores -/
theorem setV_set {i : Nat} {x : Option V} : ∀ {is : List Nat} {vs : List V} {st : L2.St}, i ∉ is → setV is vs (st.set i x) = (setV is vs st).set i x
  | [], _, _, _ => rfl
  | _ :: _, [], _, _ => rfl
  | j :: is, v :: vs, st, h => by
    simp only [List.mem_cons, not_or] at h
    show setV is vs ((st.set i x).set j (some v)) = (setV is vs (st.set j (some v))).set i x
    rw [List.set_comm _ _ h.1, setV_set h.2]
theorem setV_snoc {i : Nat} {v : V} : ∀ {is : List Nat} {vs : List V} {st : L2.St}, vs.length = is.length → setV (is ++ [i]) (vs ++ [v]) st = (setV is vs st).set i (some v)
  | [], [], _, _ => rfl
  | [], _ :: _, _, h => by simp at h
  | _ :: _, [], _, h => by simp at h
  | j :: is, u :: vs, st, h => setV_snoc (is := is) (vs := vs) (st := st.set j (some u)) (by simpa using h)
theorem setV_rev : ∀ {is : List Nat} {vs : List V} {st : L2.St}, is.Nodup → vs.length = is.length → setV is.reverse vs.reverse st = setV is vs st
  | [], [], _, _, _ => rfl
  | [], _ :: _, _, _, h => by simp at h
  | _ :: _, [], _, _, h => by simp at h
  | i :: is, v :: vs, st, nd, h => by
    have ⟨n1, n2⟩ := List.nodup_cons.mp nd
    have hl : vs.length = is.length := by simpa using h
    rw [List.reverse_cons, List.reverse_cons, setV_snoc (by simp [hl]), setV_rev n2 hl]
    show _ = setV is vs (st.set i (some v))
    rw [setV_set n1]
section
variable {X : Cx} {pins : List (Addr × Obj)} {H : Hp}
/-- names stored one after another -/
theorem store_all {E : Value → Shared → Prop} {Q : Unit → Shared → Prop} (hN : X.N.Nodup) {ns : List Str} {is : List Nat} (hp : Paired (fun (x : Str) (i : Nat) => X.N[i]? = some x ∧ X.env.scope.names.lookup x = some .local) ns is) :
    ∀ {vs : List V} {us : List Value} {st : L2.St} {s : Shared}, Inv X pins st H s → Vals vs us → vs.length = is.length → (∀ s', Inv X pins (setV is vs st) H s' → Q () s') →
      wpAny (model X.prog X.w) X.A (assignInOrder (ns.map fun n => fun v => bindName X.env n v) us) Q E s := by
  induction hp with
  | nil =>
    intro vs us st s I r h q
    cases r with
    | nil => exact assignInOrder_nil (q s I)
    | cons _ _ => simp at h
  | cons p pp ih =>
    intro vs us st s I r h q
    cases r with
    | nil => simp at h
    | cons r rr =>
      rw [List.map_cons]
      refine assignInOrder_cons (wpAny_bindName (store_ok I hN p.1 (.inl p.2) r (fun s2 I2 => ?_) (.inr p.2)))
      exact ih I2 rr (by simpa using h) q
theorem paired_snoc {α β : Type} {R : α → β → Prop} {a : α} {b : β} (h : R a b) {as : List α} {bs : List β} (p : Paired R as bs) : Paired R (as ++ [a]) (bs ++ [b]) := by
  induction p with
  | nil => exact .cons h .nil
  | cons x y ih => exact .cons x ih
theorem paired_rev {α β : Type} {R : α → β → Prop} {xs : List α} {ys : List β} (p : Paired R xs ys) : Paired R xs.reverse ys.reverse := by
  induction p with
  | nil => exact .nil
  | cons h t ih =>
    simp only [List.reverse_cons]
    exact paired_snoc h ih
theorem ps_parS {ts es : List Expr} {ns : List Str} {is : List Nat} {t : TA} {kt k2 : Nat} {pt pt2 pos : Pos} (hc : X.calm = true) (hN : X.N.Nodup) (ha : PA X es t) (nd : is.Nodup) (hp : Paired (fun (x : Str) (i : Nat) => X.N[i]? = some x ∧ X.env.scope.names.lookup x = some .local) ns is) (hsz : is.length ≤ 100)
    (hw : swappedStores [.Tuple ts kt pt] (.Tuple es k2 pt2) X.env = pure (some ns)) : PS X (.Assign [.Tuple ts kt pt] (.Tuple es k2 pt2) pos) (tParV is t) := by
  refine ⟨fun pins s st H D I h => ?_⟩
  have hs : swapsWithSole [.Tuple ts kt pt] (.Tuple es k2 pt2) pos.line X.env = pure false := rfl
  have hpl : ns.length = is.length := Paired.length hp
  rw [exec_Assign_arm, hs]
  refine wpAny_bind (wpAny_standAt (wpAny_bind (wpAny_pure ?_)))
  rw [if_neg (by decide)]
  refine wpAny_bind (Tuple_ (thn (ha.run _ pins s st H _ I h) fun us s1 z => ?_))
  obtain ⟨vs, H1, I1, r1, hl, q1⟩ := z
  have hlu : us.length = ns.length := by rw [← r1.length, hl, hpl]
  refine wpAny_newObj_type ?_ (by show us.length ≤ sizeLine; rw [sizeLine_eq]; omega)
  have I2 : Inv X pins st H1 { s1 with heap := s1.heap.push { cls := .type "tuple", data := .seq us.toArray } } := I1.kept (t' := s1.toks) fun b o e => Heap.get?_push_of_some _ e
  rw [hw]
  refine wpAny_bind ?_
  refine wpAny_pure ?_
  show wpAny (model X.prog X.w) X.A (do rule "assign.swapped-stores"; let items ← unpackItems (.ref s1.heap.objs.size) ns.length none; assignInOrder (ns.reverse.map fun n => fun v => bindName X.env n v) items.reverse; pure Flow.next) _ _ _
  have hsz2 : us.toArray.size = ns.length := by rw [List.size_toArray]; exact hlu
  rw [← hsz2]
  refine wpAny_bind (wpAny_rule (wpAny_bind (unpackItems_tuple (items := us.toArray) (I.ok.hd hc) (IsTup.new s1.heap _) fun later same => ?_)))
  have I3 := I2.kept (h' := later) (t' := s1.toks) fun b o held => same b o (Nat.ne_of_lt (Heap.lt_size held)) held
  refine wpAny_bind (store_all hN (paired_rev hp) I3 (Vals.reverse (by simpa using r1)) (by simp [hl]) fun s' I' => wpAny_pure ?_)
  rw [setV_rev nd hl] at I'
  exact ⟨_, H1, I', q1⟩
end
end HT
namespace HT
open L2 PyProof.Rows PySem PySem.Spec

/-- slots of plain local names -/
def locsOf (tc : Tc) : List Str → Option (List Nat)
  | [] => some []
  | x :: r => if isLoc tc.sc x then (match ixN0 tc.N x 0 with
    | some i => (match locsOf tc r with
      | some is => some (i :: is)
      | none => none)
    | none => none) else none
def nodupB : List Nat → Bool
  | [] => true
  | i :: is => !is.contains i && nodupB is
def nameB (tc : Tc) (e : Expr) : Bool := match e with
  | .Name x _ => tc.mu.contains x
  | _ => false
/-- name = [..] on one line: stored while the list is still held -/
def swB (tc : Tc) (x : Str) (py pos : Pos) (scope : Scope) : Bool := isLoc tc.sc x && (py.line == pos.line) && !(scope.names.any fun (n, k) => n == x && (k == .local || k == .cell))
def swL (tc : Tc) (x : Str) (py : Pos) : Expr → Option Bool
  | .ListComp _ _ scope pos => some (swB tc x py pos scope)
  | .SetComp _ _ _ _ => none
  | .DictComp _ _ _ _ _ => none
  | _ => some false
/-- several targets of one value -/
def trU (c : Cf) (n : Nat) (tc : Tc) (ts : List Expr) (e : Expr) : CS := match ts with
  | [.Subscript o i _, .Name x _] => (match putOf tc x with
    | some j => if notSlice i then .setIT (trE c n tc o) (trE c n tc i) j (trE c n tc e) else .bad
    | none => .bad)
  | ts => (match putsOf tc ts with
    | some is => .setT is (trE c n tc e)
    | none => .bad)
section
variable (c : Cf)
mutual
def trS (n0 : Nat) (tc : Tc) (s0 : Stmt) : CS := match n0 with
  | 0 => .bad
  | n + 1 => match s0 with
    | .Assign [.Name x py] e _ => (match putOf tc x, swL tc x py e with
      | some i, some _ => if tc.mu.contains x then .setM i (trE c n tc e) else .set i (trE c n tc e)
      | _, _ => .bad)
    | .Assign [.Tuple ts _ _] e _ => (match e with
      | .Tuple es _ _ => if es.all notStar && decide (es.length ≤ 100) then (match swapP tc.sc ts es with
        | none => .bad
        | some none => (match putsOf tc ts with
          | some is => .par (is.zip (ts.map (nameB tc))) (es.map (trE c n tc))
          | none => .bad)
        | some (some ns) => (match locsOf tc ns with
          | some is => if nodupB is then .par (is.zip (ns.map fun x => tc.mu.contains x)) (es.map (trE c n tc)) else .bad
          | none => .bad)) else .bad
      | e => trU c n tc ts e)
    | .Assign [.Subscript o i _] e _ => if notSlice i then .setItem (trE c n tc o) (trE c n tc i) (trE c n tc e) else .bad
    | .Assign [.Attribute o f _] e _ => (match c.fldN f with
      | some m => .setAttr m (trE c n tc o) (trE c n tc e)
      | none => .bad)
    | .AugAssign (.Name x _) .Add e _ => (match putOf tc x with
      | some i => .aug i (trE c n tc e)
      | none => .bad)
    | .Expr e _ => if notComp e then .expr (trE c n tc e) else .bad
    | .If t a b _ => .ifS (trE c n tc t) (a.map (trS n tc)) (b.map (trS n tc))
    | .While t b [] _ => .whileS (trE c n tc t) (b.map (trS n tc))
    | .For tg it b [] _ => (match trT tc tg with
      | some t => if notSet it then .forS t (trI c n tc tg it) (b.map (trS n tc)) else .bad
      | none => .bad)
    | .Return (some e) _ => .ret (trE c n tc e)
    | .Return none _ => .ret (.cst .non)
    | .Break _ => .brk
    | .Pass _ => .pass
    | _ => .bad
termination_by structural n0
end
end
end HT
namespace HT
open L2 PyProof.Rows PySem PySem.Spec
section
variable {W : Wd} {P : Program} {w : World} {base : Heap} {cf : CallFn} {k : Nat} {n : Nat} {X : Cx} {tc : Tc}
theorem ps_bad {s : Stmt} : PS X s (tS W.g W.T cf .bad) := by
  refine ⟨fun pins s st H D I h => ?_⟩
  obtain ⟨_, _, _, _, _, _, _, _, e, _⟩ := h
  simp [exS] at e
theorem pa_par {f : Expr → CE} : ∀ {es : List Expr} {is : List (Nat × Bool)}, es.all notStar = true → (∀ e ∈ es, PE X e (tE W.g W.T cf (f e))) → PA X es (tP W.g W.T cf is (es.map f))
  | [], [], _, _ => PA.imp pa_nil fun _ _ _ q => lp_nil q
  | e :: es, i :: is, h, p => by
    simp only [Bool.and_eq_true, List.all_cons] at h
    exact PA.imp (pa_cons (p e (by simp)) (pa_par (is := is) h.2 fun e' he => p e' (by simp [he])) (star_cons h.1)) fun _ _ _ q => lp_cons q
  | [], _ :: _, _, _ => ⟨fun pos pins s st H Q I h => by
    obtain ⟨_, _, _, _, _, _, _, e, _⟩ := h
    simp [evPar] at e⟩
  | _ :: _, [], _, _ => ⟨fun pos pins s st H Q I h => by
    obtain ⟨_, _, _, _, _, _, _, e, _⟩ := h
    simp [evPar] at e⟩
theorem evPar_len {T : Tab} {r : Rho} : ∀ {is : List (Nat × Bool)} {cs : List CE} {D D' : Hs} {vs : List PV}, evPar T cf is cs r D = some (vs, D') → is.length = cs.length ∧ vs.length = cs.length
  | [], [], D, D', vs, e => by unfold evPar at e; cases e; exact ⟨rfl, rfl⟩
  | [], _ :: _, D, D', vs, e => by simp [evPar] at e
  | _ :: _, [], D, D', vs, e => by simp [evPar] at e
  | (i, b) :: is, c :: cs, D, D', vs, e => by
    unfold evPar at e
    split at e
    · cases e
    · split at e
      · cases e
      · split at e
        · cases e
        · rename_i e3
          cases e
          obtain ⟨a, b⟩ := evPar_len e3
          simp [a, b]
/-- .. as a tuple that is unpacked -/
theorem ls_parB {g : Gx} {T : Tab} {K : PySem.W.Frag} {is : List (Nat × Bool)} {cs : List CE} {En : Ends} {st : L2.St} {H : Hp} (hz : cs.length ≤ 100) (h : tS g T cf (.par is cs) En st H) : tAsg (tTup (tP g T cf is cs)) (gNames K (is.map (·.1))) En st H := by
  obtain ⟨F, dl, r, D, fl, r', D', p, e, wi⟩ := h
  unfold exS at e
  split at e
  · cases e
  · rename_i vs D1 e1
    split at e
    · cases e
    · rename_i r2 e2
      cases e
      refine ⟨F, dl, r, D, vs, _, p, e1, fun us H1 F1 dl1 ev p1 rs => ⟨?_, fun q nq => ?_⟩⟩
      · rw [← rs.length, (evPar_len e1).2, sizeLine_eq]; omega
      · have p2 := p1.to (p1.h.new (u := .tup us) nq) (Ev.new nq)
        refine ⟨q, us, rfl, SqT.of upd_same, by rw [← rs.length]; exact setAll_len e2, ?_⟩
        exact setAll_ok p2 rs e2 (own := is.map (·.1)) (fun i hi => hi) fun st2 p3 _ => wi _ _ _ _ (ev.trans (Ev.new nq)) p3
theorem locs_ok (A : At W P w base cf k X tc) : ∀ {ns : List Str} {is : List Nat}, locsOf tc ns = some is → Paired (fun (x : Str) (i : Nat) => X.N[i]? = some x ∧ X.env.scope.names.lookup x = some .local) ns is
  | [], is, h => by
    unfold locsOf at h
    cases h
    exact .nil
  | x :: r, is, h => by
    unfold locsOf at h
    by_cases hx : isLoc tc.sc x = true
    · rw [if_pos hx] at h
      cases h1 : ixN0 tc.N x 0 with
      | none => simp [h1] at h
      | some i =>
        rw [h1] at h
        simp only at h
        cases h2 : locsOf tc r with
        | none => rw [h2] at h; cases h
        | some js =>
          rw [h2] at h
          cases h
          refine .cons ⟨by rw [A.N]; exact ixN0_zero h1, ?_⟩ (locs_ok A h2)
          rw [A.sc]
          unfold isLoc at hx
          split at hx
          · assumption
          · cases hx
    · rw [if_neg hx] at h
      cases h
theorem nodupB_ok : ∀ {is : List Nat}, nodupB is = true → is.Nodup
  | [], _ => .nil
  | i :: is, h => by
    unfold nodupB at h
    rw [Bool.and_eq_true, Bool.not_eq_true'] at h
    refine List.nodup_cons.mpr ⟨fun m => ?_, nodupB_ok h.2⟩
    rw [List.contains_iff_mem.mpr m] at h
    cases h.1
theorem zip_fst {α : Type} : ∀ {is : List Nat} {bs : List α}, is.length = bs.length → (is.zip bs).map (·.1) = is
  | [], _, _ => rfl
  | _ :: _, [], h => nomatch h
  | i :: is, b :: bs, h => by
    show i :: (is.zip bs).map (·.1) = i :: is
    rw [zip_fst (by simpa using h)]
theorem paired_len {α β : Type} {R : α → β → Prop} {xs : List α} {ys : List β} (p : Paired R xs ys) : xs.length = ys.length := Paired.length p
theorem puts_len : ∀ {es : List Expr} {is : List Nat}, putsOf tc es = some is → es.length = is.length
  | [], is, h => by unfold putsOf at h; cases h; rfl
  | e :: es, is, h => by
    cases e with
    | Name x p =>
      unfold putsOf at h
      split at h
      · cases h
      · split at h
        · cases h
        · rename_i js e2
          cases h
          simp [puts_len e2]
    | _ => simp [putsOf] at h
theorem kind_of {pins : List (Addr × Obj)} {st : L2.St} {H : Hp} {s : Shared} (I : Inv X pins st H s) : X.env.scope.kind = .function := I.ok.kind
/-- name = a list comprehension -/
theorem sw_eq {elt : Expr} {gs : List Comprehension} {scope : Scope} {pos py : Pos} {x : Str} {l : Nat} {env : Env} (hk : env.scope.kind = .function) (ht : env.scope = tc.sc) : swapsWith (.ListComp elt gs scope pos) (some (.Name x py)) l env = pure (swB tc x py pos scope) := by
  have hb : env.blockKind = .function := by simp only [Env.blockKind, hk]; rfl
  show (pure (env.blockKind == .function && env.kindOf x == some .local && py.line == pos.line && !(scope.names.any fun (n, k) => n == x && (k == .local || k == .cell))) : Sem Bool) = _
  have h1 : (env.kindOf x == some NameKind.local) = isLoc tc.sc x := by
    show (env.scope.names.lookup x == some NameKind.local) = _
    rw [ht]
    unfold isLoc
    cases tc.sc.names.lookup x with
    | none => rfl
    | some kk => cases kk <;> rfl
  rw [hb, h1]
  rfl
end
end HT
namespace HT
open L2 PyProof.Rows PySem PySem.Spec
section
variable {W : Wd} {P : Program} {w : World} {base : Heap} {cf : CallFn} {k : Nat} {n : Nat} {X : Cx} {tc : Tc}
/-- name = value, with both ways of storing -/
theorem ps_name {x : Str} {py pos : Pos} {e : Expr} {i : Nat} {sw : Bool} (ok : W.Ok) (A : At W P w base cf k X tc) (hp : putOf tc x = some i) (hsw : swL tc x py e = some sw) :
    PS X (.Assign [.Name x py] e pos) (tAsg (tE W.g W.T cf (trE W.c n tc e)) (gName i)) := by
  obtain ⟨q1, q2, q3⟩ := A.put hp
  have all := trE_ok (W := W) (P := P) (w := w) (base := base) (cf := cf) (k := k) ok n
  have ih := all.1 n (Nat.le_refl n)
  have he := (ih X tc e A).1
  refine ⟨fun pins s st H D I h => ?_⟩
  by_cases hc : notComp e = true
  · exact (ps_set A.ge.nd q1 q2 he (no_swap hc) q3).run pins s st H D I h
  · cases e with
    | ListComp elt gs scope p2 =>
      cases hb : swB tc x py p2 scope with
      | false => exact (ps_set A.ge.nd q1 q2 he (by rw [sw_eq (kind_of I) A.sc, hb]) q3).run pins s st H D I h
      | true =>
        have hsw2 : swapsWith (.ListComp elt gs scope p2) (some (.Name x py)) pos.line X.env = pure true := by rw [sw_eq (kind_of I) A.sc, hb]
        have hloc : X.env.scope.names.lookup x = some .local := by
          unfold swB at hb
          rw [Bool.and_eq_true, Bool.and_eq_true] at hb
          rw [A.sc]
          have z := hb.1.1
          unfold isLoc at z
          split at z
          · assumption
          · cases z
        have bad : ∀ {Q : VK}, tE W.g W.T cf .bad st H Q → False := fun {Q} z => by
          obtain ⟨_, _, _, _, _, _, _, _, e, _⟩ := z
          simp [evE] at e
        have h : tE W.g W.T cf (trE W.c n tc (.ListComp elt gs scope p2)) st H fun v H1 => gName i v st H1 D.nx := h
        cases n with
        | zero =>
          have e0 : trE W.c 0 tc (.ListComp elt gs scope p2) = .bad := by unfold trE; rfl
          rw [e0] at h
          exact (bad h).elim
        | succ m =>
          have ihm := all.1 m (Nat.le_succ m)
          have ihim := all.2 m (Nat.le_succ m)
          match gs with
          | [⟨tg, it, ifs, asy⟩] =>
            simp only [trE] at h
            by_cases qq : (blkC tc.N tc.sc scope (ownOf tc.N scope) && notSet it && decide (ifs.length ≤ 1) && decide (asy = 0)) = true
            · rw [if_pos qq] at h
              rw [Bool.and_eq_true, Bool.and_eq_true, Bool.and_eq_true, decide_eq_true_eq, decide_eq_true_eq] at qq
              obtain ⟨qq, rfl⟩ := qq
              cases ht : trT ⟨tc.N, relS scope tc.sc, some scope, []⟩ tg with
              | none => rw [ht] at h; exact (bad h).elim
              | some t =>
                rw [ht] at h
                simp only at h
                by_cases ho : (tgtIs t).all (fun i => ((ownOf tc.N scope).map (·.2)).contains i) = true
                · rw [if_pos ho] at h
                  obtain ⟨a1, a2, a3, a4, a5⟩ := ok_lc (elt := elt) ok ihm ihim A qq.1.1 qq.1.2 qq.2 ht ho
                  exact (ps_setLc A.ge.gd.calm A.ge.nd q1 hloc hsw2 a1 a2 a3 a4 a5 (no_fold qq.1.2)).run pins s st H D I (lx_lc (blk_own ho) h)
                · rw [if_neg ho] at h; exact (bad h).elim
            · rw [if_neg qq] at h; exact (bad h).elim
          | [] => simp only [trE] at h; exact (bad h).elim
          | _ :: _ :: _ => simp only [trE] at h; exact (bad h).elim
    | SetComp _ _ _ _ => simp [swL] at hsw
    | DictComp _ _ _ _ _ => simp [swL] at hsw
    | _ => simp [notComp] at hc
theorem sole_ok {t e : Expr} {l : Nat} {env : Env} (h : ∀ x p, t ≠ .Name x p) : swapsWithSole [t] e l env = pure false := by
  show swapsWith e (some t) l env = pure false
  cases e <;> first | rfl | (cases t <;> first | rfl | exact absurd rfl (h _ _))
theorem noswap_ok {ts : List Expr} {e : Expr} {kt : Nat} {pt : Pos} {env : Env} (h : ∀ es k p, e ≠ .Tuple es k p) : swappedStores [.Tuple ts kt pt] e env = pure none := by
  cases e <;> first | rfl | exact absurd rfl (h _ _ _)
theorem each_one {t : Expr} {env : Env} (h : notStar t = true) : (assignEach [t] env).map (·.2) = [assign t env] := by
  cases t <;> first | rfl | simp [notStar] at h
/-- what a statement of depth n says -/
def IHS (W : Wd) (P : Program) (w : World) (base : Heap) (cf : CallFn) (k n : Nat) : Prop := ∀ X tc s, At W P w base cf k X tc → PS X s (tS W.g W.T cf (trS W.c n tc s))
theorem pss_map (A : At W P w base cf k X tc) (ih : IHS W P w base cf k n) : ∀ b : List Stmt, PSs X b (tSs W.g W.T cf (b.map (trS W.c n tc)))
  | [] => PSs.imp pss_nil fun _ _ _ q => lss_nil q
  | s :: b => PSs.imp (pss_cons (ih X tc s A) (pss_map A ih b)) fun _ _ _ q => lss_cons q
theorem own_pass (A : At W P w base cf k X tc) : PassesOwn (model X.prog X.w) X.A X.env X.xe := by
  rw [A.ge.xe]
  exact PassesOwn.never
theorem z_tup {ts : List Expr} {e : Expr} {kt : Nat} {pt pos : Pos} (ok : W.Ok) (A : At W P w base cf k X tc) : PS X (.Assign [.Tuple ts kt pt] e pos) (tS W.g W.T cf (trS W.c (n + 1) tc (.Assign [.Tuple ts kt pt] e pos))) := by
  have ih := (trE_ok (W := W) (P := P) (w := w) (base := base) (cf := cf) (k := k) ok n).1 n (Nat.le_refl n)
  refine (?_ : ∀ c, c = trS W.c (n + 1) tc (.Assign [.Tuple ts kt pt] e pos) → PS X (.Assign [.Tuple ts kt pt] e pos) (tS W.g W.T cf c)) _ rfl
  intro c hc
  by_cases he : ∃ es k2 p2, e = .Tuple es k2 p2
  · obtain ⟨es, k2, p2, rfl⟩ := he
    simp only [trS] at hc
    by_cases h0 : (es.all notStar && decide (es.length ≤ 100)) = true
    · rw [if_pos h0] at hc
      rw [Bool.and_eq_true, decide_eq_true_eq] at h0
      obtain ⟨hns, hz⟩ := h0
      cases h1 : swapP tc.sc ts es with
      | none => rw [h1] at hc; rw [hc]; exact ps_bad
      | some r =>
        rw [h1] at hc
        rw [← A.sc] at h1
        cases r with
        | none =>
          simp only at hc
          cases h2 : putsOf tc ts with
          | none => rw [h2] at hc; rw [hc]; exact ps_bad
          | some is =>
            rw [h2] at hc
            simp only at hc
            rw [hc]
            obtain ⟨b1, b2, b3⟩ := putsOf_ok A h2
            refine ⟨fun pins s st H D I h => ?_⟩
            have z := ls_parB (K := X.K) (by rw [List.length_map]; exact hz) h
            rw [zip_fst (by rw [List.length_map, puts_len h2])] at z
            exact (ps_asg (pe_tup (pa_par hns fun e' _ => (ih X tc e' A).1)) (pg_tup A.ge.gd.calm b1 b2 b3) rfl (swap_eq (kind_of I) h1) rfl).run pins s st H D I z
        | some ns =>
          simp only at hc
          cases h2 : locsOf tc ns with
          | none => rw [h2] at hc; rw [hc]; exact ps_bad
          | some is =>
            rw [h2] at hc
            simp only at hc
            by_cases h3 : nodupB is = true
            · rw [if_pos h3] at hc
              rw [hc]
              have pr := locs_ok A h2
              refine ⟨fun pins s st H D I h => ?_⟩
              have z := ls_par h
              rw [zip_fst (by rw [List.length_map]; exact (paired_len pr).symm)] at z
              have hl : is.length ≤ 100 := by
                obtain ⟨_, _, _, _, _, _, _, _, e1, _⟩ := h
                unfold exS at e1
                split at e1
                · cases e1
                · rename_i e2
                  have q := (evPar_len e2).1
                  rw [List.length_zip, List.length_map, List.length_map, paired_len pr, Nat.min_self] at q
                  omega
              exact (ps_parS A.ge.gd.calm A.ge.nd (pa_par hns fun e' _ => (ih X tc e' A).1) (nodupB_ok h3) pr hl (swap_eq (kind_of I) h1)).run pins s st H D I z
            · rw [if_neg h3] at hc; rw [hc]; exact ps_bad
    · rw [if_neg h0] at hc; rw [hc]; exact ps_bad
  · have hne : ∀ es k p, e ≠ .Tuple es k p := fun es k p z => he ⟨es, k, p, z⟩
    have body : trS W.c (n + 1) tc (.Assign [.Tuple ts kt pt] e pos) = trU W.c n tc ts e := by
      cases e <;> first | rfl | (simp only [trS]; done) | exact absurd rfl (hne _ _ _)
    rw [body] at hc
    unfold trU at hc
    have hpe := (ih X tc e A).1
    split at hc
    · rename_i o i p1 x p2
      cases h2 : putOf tc x with
      | none => rw [h2] at hc; rw [hc]; exact ps_bad
      | some j =>
        rw [h2] at hc
        simp only at hc
        by_cases hs : notSlice i = true
        · rw [if_pos hs] at hc
          rw [hc]
          obtain ⟨q1, q2, q3⟩ := A.put h2
          have pgs : PGs X [.Subscript o i p1, .Name x p2] (gCons (gSub (tE W.g W.T cf (trE W.c n tc o)) (tE W.g W.T cf (trE W.c n tc i)) (rSetV W.g)) (gCons (gName j) gNil)) :=
            pgs_cons (pg_sub (ih X tc o A).1 (ih X tc i A).1 (set_any A.ge.gd) (by intro v; cases i <;> first | rfl | simp [notSlice] at hs)) (pgs_cons (pg_name A.ge.nd q1 q2 q3) pgs_nil rfl) rfl
          refine PS.imp (ps_asg hpe (pg_tup A.ge.gd.calm pgs rfl rfl) (sole_ok (by intro x p z; cases z)) (noswap_ok hne) rfl) fun _ _ _ q => ls_setIT q
        · rw [if_neg hs] at hc; rw [hc]; exact ps_bad
    · cases h2 : putsOf tc ts with
      | none => rw [h2] at hc; rw [hc]; exact ps_bad
      | some is =>
        rw [h2] at hc
        simp only at hc
        rw [hc]
        obtain ⟨b1, b2, b3⟩ := putsOf_ok A h2
        exact PS.imp (ps_asg hpe (pg_tup A.ge.gd.calm b1 b2 b3) (sole_ok (by intro x p z; cases z)) (noswap_ok hne) rfl) fun _ _ _ q => ls_setT q
end
end HT
namespace HT
open L2 PyProof.Rows PySem PySem.Spec
section
variable {W : Wd} {P : Program} {w : World} {base : Heap} {cf : CallFn} {k : Nat} {n : Nat} {X : Cx} {tc : Tc}
theorem ls_pass {g : Gx} {T : Tab} {En : Ends} {st : L2.St} {H : Hp} (h : tS g T cf .pass En st H) : tNext En st H := by
  obtain ⟨F, dl, r, D, fl, r', D', p, e, wi⟩ := h
  unfold exS at e
  cases e
  exact wi st H F dl (Ev.refl _ _ _) p
theorem ls_brk {g : Gx} {T : Tab} {En : Ends} {st : L2.St} {H : Hp} (h : tS g T cf .brk En st H) : tBreak En st H := by
  obtain ⟨F, dl, r, D, fl, r', D', p, e, wi⟩ := h
  unfold exS at e
  cases e
  exact wi st H F dl (Ev.refl _ _ _) p
theorem ls_retN {g : Gx} {T : Tab} {En : Ends} {st : L2.St} {H : Hp} (h : tS g T cf (.ret (.cst .non)) En st H) : tRetN En st H := by
  have z := ls_ret h
  exact lx_cst .non z
/-- THE STATEMENTS -/
theorem trS_ok (ok : W.Ok) : ∀ n, IHS W P w base cf k n
  | 0 => fun X tc s A => by
    have e0 : trS W.c 0 tc s = .bad := by unfold trS; rfl
    rw [e0]
    exact ps_bad
  | n + 1 => fun X tc s A => by
    have ihs := trS_ok ok n
    have all := trE_ok (W := W) (P := P) (w := w) (base := base) (cf := cf) (k := k) ok n
    have ih := all.1 n (Nat.le_refl n)
    have ihi := all.2 n (Nat.le_refl n)
    cases s with
    | Assign targets e pos =>
      match targets with
      | [] => simp only [trS]; exact ps_bad
      | _ :: _ :: _ => simp only [trS]; exact ps_bad
      | [t] =>
        cases t with
        | Name x py =>
          simp only [trS]
          cases h1 : putOf tc x with
          | none => exact ps_bad
          | some i =>
            cases h2 : swL tc x py e with
            | none => exact ps_bad
            | some sw =>
              by_cases hm : tc.mu.contains x = true
              · simp only [hm, if_true]
                exact PS.imp (ps_name ok A h1 h2) fun _ _ _ q => ls_setM q
              · rw [Bool.not_eq_true] at hm
                simp only [hm, Bool.false_eq_true, if_false]
                exact PS.imp (ps_name ok A h1 h2) fun _ _ _ q => ls_set q
        | Tuple ts kt pt => exact z_tup ok A
        | Subscript o i p =>
          simp only [trS]
          by_cases hs : notSlice i = true
          · rw [if_pos hs]
            exact PS.imp (ps_asg (ih X tc e A).1 (pg_sub (ih X tc o A).1 (ih X tc i A).1 (set_any A.ge.gd) (by intro v; cases i <;> first | rfl | simp [notSlice] at hs)) (sole_ok (by intro x p z; cases z)) rfl rfl) fun _ _ _ q => ls_setItem q
          · rw [if_neg hs]; exact ps_bad
        | Attribute o f p =>
          simp only [trS]
          cases h1 : W.c.fldN f with
          | none => exact ps_bad
          | some m =>
            have hf := ok.fld f m h1
            subst hf
            refine PS.imp (ps_fld (ih X tc o A).1 (ih X tc e A).1 ?_) fun _ _ _ q => ls_setAttr ok A.ge.gd.K q
            have z := sole_ok (t := .Attribute o (W.g.fld m) p) (e := e) (l := pos.line) (env := X.env) (by intro x p z; cases z)
            exact z
        | _ => simp only [trS]; exact ps_bad
    | AugAssign t op e pos =>
      cases t with
      | Name x p =>
        cases op with
        | Add =>
          simp only [trS]
          cases h1 : putOf tc x with
          | none => exact ps_bad
          | some i =>
            obtain ⟨q1, q2, q3⟩ := A.put h1
            exact PS.imp (ps_aug A.ge.nd q1 q2 (ih X tc e A).1 ip_add q3) fun _ _ _ q => ls_aug q
        | _ => simp only [trS]; exact ps_bad
      | _ => simp only [trS]; exact ps_bad
    | Expr e pos =>
      simp only [trS]
      by_cases hc : notComp e = true
      · rw [if_pos hc]
        exact PS.imp (ps_expr (ih X tc e A).1 (no_swap hc)) fun _ _ _ q => ls_expr q
      · rw [if_neg hc]; exact ps_bad
    | If t a b pos =>
      simp only [trS]
      exact PS.imp (ps_if (ih X tc t A).2 (pss_map A ihs a) (pss_map A ihs b)) fun _ _ _ q => ls_if q
    | While t b els pos =>
      cases els with
      | nil =>
        simp only [trS]
        exact PS.imp (ps_while (own_pass A) (ih X tc t A).2 (pss_map A ihs b)) fun _ _ _ q => ls_while q
      | cons _ _ => simp only [trS]; exact ps_bad
    | For tg it b els pos =>
      cases els with
      | nil =>
        simp only [trS]
        cases h1 : trT tc tg with
        | none => exact ps_bad
        | some t =>
          by_cases hs : notSet it = true
          · simp only [hs, if_true]
            exact PS.imp (ps_for (own_pass A) A.ge.gd.calm (ihi X tc tg it A hs) (trT_ok A h1) (pss_map A ihs b) (no_fold hs)) fun _ _ _ q => ls_for q
          · rw [Bool.not_eq_true] at hs
            simp only [hs, Bool.false_eq_true, if_false]
            exact ps_bad
      | cons _ _ => simp only [trS]; exact ps_bad
    | Return e pos =>
      cases e with
      | none => simp only [trS]; exact PS.imp ps_retN fun _ _ _ q => ls_retN q
      | some e => simp only [trS]; exact PS.imp (ps_ret (ih X tc e A).1) fun _ _ _ q => ls_ret q
    | Break pos => simp only [trS]; exact PS.imp ps_break fun _ _ _ q => ls_brk q
    | Pass pos => simp only [trS]; exact PS.imp ps_pass fun _ _ _ q => ls_pass q
    | _ => simp only [trS]; exact ps_bad
/-- a def's body -/
theorem body_sound (ok : W.Ok) (A : At W P w base cf k X tc) (n : Nat) (b : List Stmt) : PSs X b (tSs W.g W.T cf (b.map (trS W.c n tc))) := pss_map A (trS_ok ok n) b
end
end HT
/-! defs by depth, the law's end -/
namespace HT
open L2 PyProof.Rows PySem PySem.Spec

/-- a def of the table as it stands behind the top -/
structure DefOk (W : Wd) (f : Nat) (Fn : FnI) (N mu : List Str) (fuel : Nat) : Prop where
  ex : ∃ (oc : Value) (od : Option Addr) (name qual : Str) (params : Arguments) (body : List Stmt) (scope : Scope) (dV kV doc pm : Value) (an : Option Addr) (cdv ct : Value) (osl : Array (Option Value)),
    W.fd f = PySem.W.fnOf name qual params body scope dV kV doc pm an cdv ct ∧ W.g.K.lookup (W.fa f) = some ⟨oc, od, .func (W.fd f), osl⟩ ∧ PySem.W.codeIn W.g.K cdv qual = true ∧ FnScope N (W.pn f) scope ∧
    Fn.body = body.map (trS W.c fuel ⟨N, scope, none, mu⟩)
  sl : N.length = Fn.slots
  pa : (W.pn f).length = Fn.params
theorem fns_ok {W : Wd} {P : Program} {w : World} {base : Heap} (ok : W.Ok) (hd : ∀ f Fn, W.T.fns f = some Fn → ∃ N mu fuel, DefOk W f Fn N mu fuel) : ∀ d f, FnG P w W.g.K W.mg base (2 * d) (W.fa f) (W.fd f) (W.pn f) (spC W.g (callF W.T d) f)
  | 0, f => by
    have no : ∀ {vs H Q}, ¬ spC W.g (callF W.T 0) f vs H Q := fun {vs H Q} h => by
      obtain ⟨_, _, _, _, _, _, _, _, _, e, _⟩ := h
      simp [callF] at e
    exact ⟨fun vs H Q h => (no h).elim, fun A outer s H args us vs Q _ _ _ _ _ h => (no h).elim⟩
  | d + 1, f => by
    cases hf : W.T.fns f with
    | none =>
      have no : ∀ {vs H Q}, ¬ spC W.g (callF W.T (d + 1)) f vs H Q := fun {vs H Q} h => by
        obtain ⟨_, _, _, _, _, _, _, _, _, e, _⟩ := h
        simp [callF, hf] at e
      exact ⟨fun vs H Q h => (no h).elim, fun A outer s H args us vs Q _ _ _ _ _ h => (no h).elim⟩
    | some Fn =>
      obtain ⟨N, mu, fuel, D⟩ := hd f Fn hf
      obtain ⟨oc, od, name, qual, params, body, scope, dV, kV, doc, pm, an, cdv, ct, osl, e1, lk, hcd, S, eb⟩ := D.ex
      rw [e1] at lk ⊢
      have ih := fns_ok (P := P) (w := w) (base := base) ok hd d
      show FnG P w W.g.K W.mg base (2 * d + 1 + 1) _ _ _ _
      refine fng_of (N := N) lk hcd S (fun vs H Q h => ?_) fun A outer s H vs Q hr hgu h => ?_
      · rw [(body_ok (N := N) hf D.sl h).1, D.pa]
      · refine ⟨_, body_sound (cf := callF W.T d) (k := 2 * d) ok (tc := ⟨N, scope, none, mu⟩) ⟨⟨⟨rfl, rfl, hr, hgu⟩, rfl, rfl, rfl, rfl, rfl, S.nd, ih⟩, rfl, rfl, fun x _ => .inl rfl⟩ fuel body, ?_⟩
        have z := (body_ok (N := N) hf D.sl h).2
        rw [eb] at z
        exact z
/-! the law -/
theorem ints_vals {F : Hp} {dl : List Addr} {g : Gx} (ns : List Int) : RVs g F dl (ns.map PV.int) (ns.map V.int) := ints_rvs ns
/-- the law's call: what the evaluator answers at the script -/
theorem law_at {W : Wd} {d f : Nat} {H : Hp} {a : Addr} {ns : List Int} (hS : SqE W.g.K H a (ns.map V.int)) (he : ∃ fr D', callF W.T d f [.lst (ns.map .int)] [] = some (.bl true, fr, D')) : spC W.g (callF W.T d) f [.ref a] H (fun v _ => v = .bl true) := by
  obtain ⟨fr, D', e⟩ := he
  refine ⟨H, [], [], [.lst (ns.map .int)], .bl true, fr, D', ⟨Le.refl _, rfl, .nil, fun a h => by simp at h, fun n a o h => by simp at h⟩, .cons (.lst hS (ints_vals ns)) .nil, e, fun v H' F' dl' ev h rr => ?_⟩
  cases fr with
  | false => cases (show RV W.g F' dl' (.bl true) v from rr); rfl
  | true => obtain ⟨_, _, _, _, _, z⟩ := rr; exact (show False from z).elim
end HT
/-! the law's own call, over a promise that lets no exception out -/
namespace HT
open L2 PyProof.Rows PySem PySem.Spec

/-- all that the model gives behind the top -/
structure TopS (K : PySem.W.Frag) (mg : Str → Option Value) (S : Shared) : Prop where
  kin : K.In S.heap
  gl : S.heap.Ns mainGlobals mg
  bu : ∃ mb : Str → Option Value, S.heap.Ns builtinsNs mb ∧ ∀ z : Str, z ≠ "__name__" → mb z = bootBuiltins z
  nl : S.heap.NoLimit
  ge : S.gens = #[]
/-- the script's list -/
abbrev listObj (us : List Value) : Obj := { cls := .type "list", data := .seq us.toArray }
abbrev LawEnd (S : Shared) : Result → Shared → Prop := fun r S' => r = .ok (.ret (.bool true)) ∧ OldK S.heap S'.heap ∧ S'.os = S.os ∧ AllBare S'.gens
section
variable {P : Program} {w : World} {K : PySem.W.Frag} {mg : Str → Option Value} {k : Nat} {fA p : Addr} {fd : FuncData} {x : Str} {sp : Sg} {S : Shared} {us : List Value} {ns : List Int}
/-- from a heap that tracks nothing but the script -/
theorem law_core (t : TopS K mg S) (hp : S.heap.get? p = some (listObj us)) (hr : Room k callerA) (F : ∀ base : Heap, FnG P w K mg base k fA fd [x] sp) (hb : ∀ (S : Shared) (u : Value), BindsTo S fd ⟨[u], []⟩ [(x, u)])
    (H : Hp) (hO : Only H) (hq : sp [.ref p] H fun v _ => v = .bl true) (hok : HOk P w H S.heap) (one : ∀ b, H b ≠ none → b = p) (out : H p ≠ none → K.lookup p = none) :
    codeAny (model P w) callerA (.call (.ref fA) ⟨[.ref p], []⟩) (LawEnd S) S := by
  have free : ∀ {b : Addr} {o : Obj} {es : Array DictEntry} {n : Nat}, S.heap.get? b = some o → o.data = .dict es n → H b = none := fun {b o es n} e d => by
    cases q : H b with
    | none => rfl
    | some u =>
      have z : b = p := one b (by rw [q]; simp)
      subst z
      rw [hp] at e
      cases e
      cases (show Data.seq us.toArray _ = Data.dict es n from d)
  have nsH : ∀ {b : Addr} {m : Str → Option Value}, S.heap.Ns b m → (hidT S.heap H).Ns b m := by
    rintro b m ⟨o, es, n, e, d, rest⟩
    exact ⟨o, es, n, hidT_get e (free e d), d, rest⟩
  have kH : K.In (hidT S.heap H) := fun b o e => by
    refine hidT_get (t.kin b o e) ?_
    cases q : H b with
    | none => rfl
    | some u =>
      have z : b = p := one b (by rw [q]; simp)
      subst z
      rw [out (by rw [q]; simp)] at e
      cases e
  have md : Mod K mg (hidT S.heap H) := by
    obtain ⟨mb, b1, b2⟩ := t.bu
    obtain ⟨mc, c1, c2⟩ := t.nl
    exact ⟨kH, nsH t.gl, ⟨mb, nsH b1, b2⟩, ⟨mc, nsH c1, c2⟩⟩
  have none_in : ∀ b : Addr, ¬ b ∈ ([] : List Addr) := fun b h => by cases h
  have en : Env0 P w K mg (hidT S.heap H) callerA [] S H := ⟨rfl, md, fun b o e => of_hidT e, Nat.le_of_eq (hidT_size _ _), trivial, fun b h => (none_in b h).elim, hok, .of_eq t.ge⟩
  refine codeAny_mono ((F (hidT S.heap H)).run callerA [] S H ⟨[.ref p], []⟩ [.ref p] [.ref p] _ hr rfl en (hb S (.ref p)) (.cons rfl .nil) hq) fun r S' z => ?_
  obtain ⟨u, rfl, v, H', os, bare, un, hok', rv, q⟩ := z
  obtain rfl : v = .bl true := q
  obtain rfl : u = Value.bool true := rv
  refine ⟨rfl, ?_, os, bare⟩
  refine OldK.of_keep fun b o e => ?_
  cases q : H b with
  | none => exact un.keep b o e q (fun h => (none_in b h).elim) (by simp)
  | some c =>
    obtain z | ⟨ob, xs, z⟩ := hO b
    · rw [q] at z
      cases z
    · obtain ⟨g1, _⟩ := hok b _ z
      obtain ⟨g2, _⟩ := hok' b _ (un.frzs b ob _ z)
      rw [e] at g1
      cases g1
      exact g2
theorem law_callG (t : TopS K mg S) (hp : S.heap.get? p = some (listObj us)) (hi : IntsAre us ns) (hl : ns.length ≤ sizeLine) (hr : Room k callerA) (F : ∀ base : Heap, FnG P w K mg base k fA fd [x] sp)
    (hb : ∀ (S : Shared) (u : Value), BindsTo S fd ⟨[u], []⟩ [(x, u)]) (hsp : ∀ H : Hp, Only H → SqE K H p (ns.map V.int) → sp [.ref p] H fun v _ => v = .bl true) : codeAny (model P w) callerA (.call (.ref fA) ⟨[.ref p], []⟩) (LawEnd S) S := by
  have rs := vals_ints hi
  cases hk : K.lookup p with
  | some o =>
    have e := t.kin p o hk
    rw [hp] at e
    cases e
    have e0 : Only (fun _ => none) := fun _ => .inl rfl
    refine law_core t hp hr F hb (fun _ => none) e0 (hsp _ e0 (.inr ⟨us.toArray, _, hk, ?_, ?_⟩)) (fun b u z => ?_) (fun b z => absurd rfl z) fun z => absurd rfl z
    · have len := hi.length
      simp only [List.size_toArray]
      omega
    · rw [List.toList_toArray]
      exact rs
    · cases (show (none : Option HO) = some u from z)
  | none =>
    have at_ : ∀ b, b = p → (fun b => if b = p then some (HO.frz (listObj us) (.lst (ns.map V.int))) else none) b = some (HO.frz (listObj us) (.lst (ns.map V.int))) := fun b e => if_pos e
    have off : ∀ b, ¬ b = p → (fun b => if b = p then some (HO.frz (listObj us) (.lst (ns.map V.int))) else none) b = none := fun b e => if_neg e
    have e0 : Only (fun b => if b = p then some (HO.frz (listObj us) (.lst (ns.map V.int))) else none) := fun b => by
      by_cases q : b = p
      · exact .inr ⟨_, _, at_ b q⟩
      · exact .inl (off b q)
    refine law_core t hp hr F hb _ e0 (hsp _ e0 (.inl (.inr ⟨listObj us, at_ p rfl⟩))) (fun b u z => ?_) (fun b z => ?_) fun _ => hk
    · by_cases q : b = p
      · have z' := (at_ b q).symm.trans z
        cases z'
        subst q
        exact ⟨hp, by rw [List.length_map]; exact hl, us, _, rs, hp⟩
      · have z' := (off b q).symm.trans z
        cases z'
    · by_cases q : b = p
      · exact q
      · exact absurd (off b q) z
end
end HT
/-! a program's names, read off its text; what is looked at behind the top -/
namespace HT
open L2 PyProof.Rows PySem PySem.Spec

/-- where a def stands -/
inductive Pl where
  | glo (x : Str)
  | meth (C m : Str)
  | prop (C m : Str)
/-- a property's getter -/
def getIn (K : PySem.W.Frag) (p : Addr) : Addr := match PySem.W.recIn K p "property" with
  | some (.ref g :: _) => g
  | _ => 0
def Pl.ad (K : PySem.W.Frag) : Pl → Addr
  | .glo x => He.ga K x
  | .meth C m => He.ma K (He.ga K C) m
  | .prop C m => getIn K (He.ma K (He.ga K C) m)
/-- a def of the text: its slots, the names changed in place, whether what it returns is kept in the store -/
structure DefT where
  at_ : Pl
  name : Str
  qual : Str
  params : Arguments
  body : List Stmt
  scope : Scope
  N : List Str
  mu : List Str
  al : Bool
def noDef : DefT := ⟨.glo "", "", "", ⟨[], [], none, [], [], none, []⟩, [], ⟨.function, [], false, false, []⟩, [], [], false⟩
def DefT.ps (d : DefT) : List Str := d.params.args.map (·.arg)
def DefT.nd (d : DefT) : Nat := d.params.defaults.length
/-- the i-th statement of the top; the j-th of a class -/
def dT (p : Program) (i : Nat) (N mu : List Str) (al : Bool) : DefT := match p.main.body[i]? with
  | some (.FunctionDef n a b _ _ _ sc _ _ _) => ⟨.glo n, n, n, a, b, sc, N, mu, al⟩
  | _ => noDef
def dM (p : Program) (i j : Nat) (N mu : List Str) (al : Bool) : DefT := match p.main.body[i]? with
  | some (.ClassDef c _ _ b _ _ _ _ _ _ _) => (match b[j]? with
    | some (.FunctionDef m a b' ds _ _ sc _ _ _) => ⟨if ds.isEmpty then .meth c m else .prop c m, m, c ++ (("." : Str) ++ m), a, b', sc, N, mu, al⟩
    | _ => noDef)
  | _ => noDef
structure Spec where
  defs : List (Nat × DefT)
  clss : List (Str × ClsI)
  consts : List (Str × PV)
  blts : List Str
  flds : List Str
  fuel : Nat
def idx {α : Type} (p : α → Bool) : List α → Nat → Option Nat
  | [], _ => none
  | x :: r, i => if p x then some i else idx p r (i + 1)
theorem idx_ok {α : Type} {p : α → Bool} : ∀ {l : List α} {i n : Nat}, idx p l i = some n → ∃ x, i ≤ n ∧ l[n - i]? = some x ∧ p x = true
  | [], i, n, h => by cases h
  | x :: r, i, n, h => by
    unfold idx at h
    split at h
    · rename_i q
      cases h
      exact ⟨x, Nat.le_refl _, by simp, q⟩
    · obtain ⟨y, h1, h2, h3⟩ := idx_ok h
      refine ⟨y, by omega, ?_, h3⟩
      rw [show n - i = (n - (i + 1)) + 1 by omega, List.getElem?_cons_succ]
      exact h2
def isGlo (x : Str) (d : DefT) : Bool := match d.at_ with
  | .glo y => y == x
  | _ => false
/-- a global def's number -/
def gloAt (x : Str) : List (Nat × DefT) → Option Nat
  | [] => none
  | (n, d) :: r => if isGlo x d then some n else gloAt x r
/-- how a call's arguments go to the parameters; the last index: None, the default -/
def permAt (n m nd len : Nat) (ks : List Str) : List Str → Nat → Option (List Nat)
  | [], _ => some []
  | p :: ps, i => (if i < n then some i else match idx (fun k => k == p) ks 0 with
      | some j => some (n + j)
      | none => if len - nd ≤ i then some (n + m) else none).bind fun a => (permAt n m nd len ks ps (i + 1)).map (a :: ·)
def ksOk (ks : List Str) (ps : List Str) (n : Nat) : Bool := decide (n ≤ ps.length) && (ks.all fun k => (ps.drop n).contains k) && decide ks.Nodup
def permOf (d : DefT) (n : Nat) (ks : List Str) : Option (List Nat) := if ksOk ks d.ps n then permAt n ks.length d.nd d.ps.length ks d.ps 0 else none
def Spec.cf (S : Spec) : Cf where
  tf := fun x => gloAt x S.defs
  tc := fun x => idx (fun q => q.1 == x) S.clss 0
  tk := fun x => S.consts.lookup x
  tb := fun x => S.blts.contains x
  fldN := fun x => idx (fun y => y == x) S.flds 0
  pl := fun f => match lookN f S.defs with
    | some d => d.nd == 0
    | none => false
  kb := fun f n ks => match lookN f S.defs with
    | some d => permOf d n ks
    | none => none
def DefT.fn (c : Cf) (fuel : Nat) (d : DefT) : FnI := { params := d.ps.length, slots := d.N.length, body := d.body.map (trS c fuel ⟨d.N, d.scope, none, d.mu⟩), alloc := d.al }
def Spec.tab (S : Spec) : Tab := { fns := fun f => (lookN f S.defs).map (DefT.fn S.cf S.fuel), cls := S.clss.map (·.2) }
/-- a field's name by its number; others have names of their own -/
def fldOf (l : List Str) (n : Nat) : Str := match l[n]? with
  | some x => x
  | none => ⟨#[5000000 + n]⟩
theorem fld_inj {l : List Str} (nd : l.Nodup) (hs : (l.all fun x => x.cps.all fun c => decide (c < 5000000)) = true) : ∀ n m, fldOf l n = fldOf l m → n = m := fun n m h => by
  have small : ∀ {i : Nat} {x : Str} {k : Nat}, l[i]? = some x → x = (⟨#[5000000 + k]⟩ : Str) → False := fun {i x k} e q => by
    have z := List.all_eq_true.mp hs x (List.mem_of_getElem? e)
    rw [q] at z
    simp at z
    omega
  unfold fldOf at h
  cases e1 : l[n]? with
  | some x =>
    cases e2 : l[m]? with
    | some y =>
      rw [e1, e2] at h
      have h' : x = y := h
      subst h'
      obtain ⟨h1, q1⟩ := List.getElem?_eq_some_iff.mp e1
      obtain ⟨h2, q2⟩ := List.getElem?_eq_some_iff.mp e2
      exact (List.getElem_inj nd).mp (q1.trans q2.symm)
    | none =>
      rw [e1, e2] at h
      exact (small e1 h).elim
  | none =>
    cases e2 : l[m]? with
    | some y =>
      rw [e1, e2] at h
      exact (small e2 h.symm).elim
    | none =>
      rw [e1, e2] at h
      have h' : (⟨#[5000000 + n]⟩ : Str) = ⟨#[5000000 + m]⟩ := h
      injection h' with z
      have z2 := congrArg (fun a : Array Nat => a[0]?) z
      simp at z2
      exact z2
/-! ### what is looked at -/
/-- what is seen of a def -/
structure FnSeen where
  nm : Str
  ql : Str
  pa : Arguments
  bd : FuncBody
  sc : Scope
  gl : Addr
  cl : List (Str × Addr)
  bu : Addr
abbrev FnW : Type := Option FnSeen
def fnAt (K : PySem.W.Frag) (f : Addr) : FnW := match K.lookup f with
  | some ⟨_, _, .func d, _⟩ => some ⟨d.name, d.qualname, d.params, d.body, d.scope, d.globals, d.closure, d.builtins⟩
  | _ => none
def DefT.val (d : DefT) : FnW := some ⟨d.name, d.qual, d.params, .stmts d.body, d.scope, mainGlobals, [], builtinsNs⟩
def isNonV : Value → Bool
  | .none => true
  | _ => false
/-- the defaults: n times None -/
def dflN (K : PySem.W.Frag) (n : Nat) (dV : Value) : Bool := match n, dV with
  | 0, .none => true
  | n + 1, .ref T => (match K.lookup T with
    | some ⟨_, _, .seq its _, _⟩ => decide (its.toList.length = n + 1) && its.toList.all isNonV
    | _ => false)
  | _, _ => false
def DefT.okK (K : PySem.W.Frag) (d : DefT) : Bool := (match d.at_ with
    | .glo x => He.eqO (PySem.W.nsIn K mainGlobals x) (some (some (.ref (He.ga K x)))) && PySem.W.keepIn K (.ref (He.ga K x)) && !(x == ("__debug__" : Str))
    | _ => true) && (match K.lookup (d.at_.ad K) with
  | some ⟨_, _, .func fd, _⟩ => PySem.W.codeIn K fd.code d.qual && dflN K d.nd fd.defaults
  | _ => false)
def bltOk (K : PySem.W.Frag) (x : Str) : Bool := He.eqO (PySem.W.nsIn K mainGlobals x) (some none) && !(x == ("__name__" : Str)) && !(x == ("__debug__" : Str))
def cstOk (K : PySem.W.Frag) (x : Str) (v : PV) : Bool := !(x == ("__debug__" : Str)) && (match v, PySem.W.nsIn K mainGlobals x with
  | .int i, some (some (.int j _)) => decide (i = j)
  | .str s, some (some (.str z _)) => decide (z = toStr s)
  | _, _ => false)
def atO (K : PySem.W.Frag) (C m : Str) : Bool := He.eqO (PySem.W.findIn K (.ref (He.ga K C)) m) (some (some (.ref (He.ma K (He.ga K C) m))))
def eqB (a : Option Bool) (b : Bool) : Bool := match a with
  | some c => c == b
  | none => false
def clsOk (K : PySem.W.Frag) (S : Spec) (C : Str) (I : ClsI) : Bool :=
  He.eqO (PySem.W.nsIn K mainGlobals C) (some (some (.ref (He.ga K C)))) && !(C == ("__debug__" : Str)) &&
  (He.Fa.cls C).ok K && (He.Fa.mkr C).ok K &&
  He.eqO (PySem.W.findIn K (.ref (He.ga K C)) "__class__") (some (some (.builtin "object.__class__"))) &&
  He.eqO (PySem.W.specialIn K (.builtin "object.__class__") "__get__") (some (some (.builtin "getset_descriptor.__get__"))) &&
  eqB (PySem.W.takesIn K (.builtin "object.__class__")) true && eqB (PySem.W.mroIn K (He.ga K C) (.type "object")) true &&
  (match lookN I.init S.defs with
    | some d => (match d.at_ with
      | .meth C' m => C' == C && m == ("__init__" : Str) && d.nd == 0
      | _ => false)
    | none => false) &&
  (I.meths.all fun q => (match lookN q.2 S.defs with
    | some d => (match d.at_ with
      | .meth C' m => C' == C && m == fldOf S.flds q.1 && d.nd == 0 && (He.Fa.meth C m).ok K
      | _ => false)
    | none => false)) &&
  (I.props.all fun q => (match lookN q.2 S.defs with
    | some d => (match d.at_ with
      | .prop C' m => C' == C && m == fldOf S.flds q.1 && d.nd == 0 && atO K C m && He.eqO (PySem.W.specialIn K (.ref (He.ma K (He.ga K C) m)) "__get__") (some (some (.builtin "property.__get__"))) && eqB (PySem.W.takesIn K (.ref (He.ma K (He.ga K C) m))) true &&
        (match PySem.W.recIn K (He.ma K (He.ga K C) m) "property" with
        | some (.ref _ :: _) => true
        | _ => false)
      | _ => false)
    | none => false)) &&
  (I.flds.all fun n => He.eqO (PySem.W.findIn K (.ref (He.ga K C)) (fldOf S.flds n)) (some none)) &&
  (tyNames.all fun t => eqB (PySem.W.kitOne K (.type t) (.ref (He.ga K C))) false && eqB (PySem.W.kitOne K (.ref (He.ga K C)) (.type t)) false) &&
  (S.clss.all fun q => eqB (PySem.W.kitOne K (.ref (He.ga K C)) (.ref (He.ga K q.1))) (C == q.1))
def Spec.okK (S : Spec) (K : PySem.W.Frag) : Bool := (S.defs.all fun d => d.2.okK K) && (S.blts.all (bltOk K)) && (S.consts.all fun q => cstOk K q.1 q.2) && S.clss.all fun q => clsOk K S q.1 q.2
abbrev ObT : Type := Bool × List FnW
def obsT (S : Spec) (K : PySem.W.Frag) : ObT := (S.okK K, S.defs.map fun d => fnAt K (d.2.at_.ad K))
def valT (S : Spec) : ObT := (true, S.defs.map fun d => d.2.val)
def obsTG (S : Spec) (g : Addr → Option Obj) : ObT := obsT S (He.frG g (He.asD g 5))
def hookT (S : Spec) : PySem.W.Hook where
  α := ObT
  obs := fun s => obsTG S s.heap.get?
  val := fun _ => valT S
  says := fun _ h => ∃ K : PySem.W.Frag, K.In h ∧ obsT S K = valT S
  of := fun _ _ e => ⟨_, He.frG_in, e⟩
  keeps := fun w h1 h2 z kp => by
    obtain ⟨K, inK, c⟩ := z
    exact ⟨K, PySem.W.Frag.In.keeps inK kp, c⟩
theorem obsTG_eq {S : Spec} {g : Addr → Option Obj} {s : Shared} (h : ∀ a, g a = s.heap.get? a) : obsTG S g = (hookT S).obs s := by
  have same : g = fun a => s.heap.get? a := funext h
  subst same
  rfl
/-! ### what the text alone says -/
def scopeB (N P : List Str) (sc : Scope) : Bool := (match sc.kind with
    | .function => true
    | _ => false) && !sc.isCoroutine && !sc.isGenerator && decide N.Nodup && decide (N.take P.length = P) && (P.all fun x => locB sc x) && sc.names.all fun y => (match y.2 with
  | .free => false
  | _ => true)
theorem scopeB_ok {N P : List Str} {sc : Scope} (h : scopeB N P sc = true) : FnScope N P sc := by
  unfold scopeB at h
  simp only [Bool.and_eq_true, Bool.not_eq_true', decide_eq_true_eq] at h
  obtain ⟨⟨⟨⟨⟨⟨h1, h2⟩, h3⟩, h4⟩, h5⟩, h6⟩, free⟩ := h
  refine ⟨?_, h2, h3, h4, h5, fun x hx => ?_, fun y hy => ?_⟩
  · cases e : sc.kind <;> rw [e] at h1 <;> first | rfl | cases h1
  · have z := List.all_eq_true.mp h6 x hx
    unfold locB at z
    split at z
    · rename_i q; exact .inl q
    · rename_i q; exact .inr q
    · cases z
  · have z := List.all_eq_true.mp free y hy
    intro q
    rw [q] at z
    cases z
def plainA (a : Arguments) : Bool := a.posonlyargs.isEmpty && a.kwonlyargs.isEmpty && a.vararg.isNone && a.kwarg.isNone && decide (a.args.map (·.arg)).Nodup && decide (a.defaults.length ≤ a.args.length)
def Spec.good (S : Spec) : Bool := (S.defs.all fun d => scopeB d.2.N d.2.ps d.2.scope && plainA d.2.params) && decide (S.defs.map (·.1)).Nodup && decide S.flds.Nodup && (S.flds.all fun x => x.cps.all fun c => decide (c < 5000000)) && decide (S.clss.map (·.1)).Nodup
/-- what the names stand for -/
def Spec.wd (S : Spec) (K : PySem.W.Frag) (mg : Str → Option Value) : Wd where
  g := ⟨K, fun c => match S.clss[c]? with
    | some q => He.ga K q.1
    | none => 0, fldOf S.flds⟩
  mg := mg
  T := S.tab
  fa := fun f => match lookN f S.defs with
    | some d => d.at_.ad K
    | none => 0
  fd := fun f => match lookN f S.defs with
    | some d => (match K.lookup (d.at_.ad K) with
      | some ⟨_, _, .func fd, _⟩ => fd
      | _ => default)
    | none => default
  pn := fun f => match lookN f S.defs with
    | some d => d.ps
    | none => []
  c := S.cf
end HT
namespace HT
open L2 PyProof.Rows PySem PySem.Spec

section
variable {S : Spec} {K : PySem.W.Frag} {mg : Str → Option Value} {h : Heap}
theorem eqB_ok {a : Option Bool} {b : Bool} (e : eqB a b = true) : a = some b := by
  cases a with
  | none => cases e
  | some c =>
    have z : (c == b) = true := e
    rw [beq_iff_eq.mp z]
theorem dbg {x : Str} (e : (!(x == ("__debug__" : Str))) = true) : (x == ("__debug__" : Str)) = false := by
  cases q : (x == ("__debug__" : Str)) with
  | false => rfl
  | true => rw [q] at e; cases e
theorem lookN_mem {α : Type} {n : Nat} {a : α} : ∀ {l : List (Nat × α)}, lookN n l = some a → (n, a) ∈ l
  | [], e => by cases e
  | (m, b) :: r, e => by
    unfold lookN at e
    split at e
    · rename_i q
      cases e
      subst q
      exact .head _
    · exact .tail _ (lookN_mem e)
/-- a def behind the top -/
theorem def_at {d : DefT} (e : fnAt K (d.at_.ad K) = d.val) (c : d.okK K = true) :
    ∃ (oc : Value) (od : Option Addr) (dV kV doc pm : Value) (an : Option Addr) (cdv ct : Value) (osl : Array (Option Value)),
      K.lookup (d.at_.ad K) = some ⟨oc, od, .func (PySem.W.fnOf d.name d.qual d.params d.body d.scope dV kV doc pm an cdv ct), osl⟩ ∧ PySem.W.codeIn K cdv d.qual = true ∧ dflN K d.nd dV = true := by
  unfold DefT.okK at c
  obtain ⟨_, c2⟩ := He.ba c
  unfold fnAt at e
  cases q : K.lookup (d.at_.ad K) with
  | none => rw [q] at c2; cases c2
  | some o =>
    obtain ⟨oc, od, dt, osl⟩ := o
    rw [q] at c2 e
    cases dt with
    | func fd =>
      obtain ⟨nm, ql, pa, bd, sc, gl, cl, dV, kV, dc, pm, an, cv, ct, bu⟩ := fd
      have seen := Option.some.inj (show some (FnSeen.mk nm ql pa bd sc gl cl bu) = some ⟨d.name, d.qual, d.params, .stmts d.body, d.scope, mainGlobals, [], builtinsNs⟩ from e)
      injection seen with s1 s2 s3 s4 s5 s6 s7 s8
      subst s1 s2 s3 s4 s5 s6 s7 s8
      obtain ⟨k1, k2⟩ := He.ba (show (PySem.W.codeIn K cv d.qual && dflN K d.nd dV) = true from c2)
      exact ⟨oc, od, dV, kV, dc, pm, an, cv, ct, osl, rfl, k1, k2⟩
    | _ => cases c2
/-- the look said all -/
structure Seen (S : Spec) (K : PySem.W.Frag) : Prop where
  def_ : ∀ f d, lookN f S.defs = some d → d.okK K = true ∧ fnAt K (d.at_.ad K) = d.val
  blt : ∀ x, x ∈ S.blts → bltOk K x = true
  cst : ∀ q, q ∈ S.consts → cstOk K q.1 q.2 = true
  cls : ∀ q, q ∈ S.clss → clsOk K S q.1 q.2 = true
theorem seen_of (e : obsT S K = valT S) : Seen S K := by
  have e1 : S.okK K = true := congrArg (fun z : ObT => z.1) e
  have e2 : (S.defs.map fun d => fnAt K (d.2.at_.ad K)) = S.defs.map fun d => d.2.val := congrArg (fun z : ObT => z.2) e
  unfold Spec.okK at e1
  simp only [Bool.and_eq_true, List.all_eq_true] at e1
  obtain ⟨⟨⟨a, b⟩, c⟩, d⟩ := e1
  refine ⟨fun f x hf => ⟨a (f, x) (lookN_mem hf), ?_⟩, b, c, d⟩
  exact (List.map_inj_left.mp e2) (f, x) (lookN_mem hf)
theorem good_def (g : S.good = true) {f : Nat} {d : DefT} (hf : lookN f S.defs = some d) : FnScope d.N d.ps d.scope ∧ plainA d.params = true := by
  unfold Spec.good at g
  simp only [Bool.and_eq_true, List.all_eq_true] at g
  obtain ⟨⟨⟨⟨a, _⟩, _⟩, _⟩, _⟩ := g
  obtain ⟨q1, q2⟩ := a (f, d) (lookN_mem hf)
  exact ⟨scopeB_ok q1, q2⟩
theorem fd_at (s : Seen S K) {f : Nat} {d : DefT} (hf : lookN f S.defs = some d) :
    ∃ (oc : Value) (od : Option Addr) (dV kV doc pm : Value) (an : Option Addr) (cdv ct : Value) (osl : Array (Option Value)),
      (S.wd K mg).fd f = PySem.W.fnOf d.name d.qual d.params d.body d.scope dV kV doc pm an cdv ct ∧ (S.wd K mg).fa f = d.at_.ad K ∧ (S.wd K mg).pn f = d.ps ∧
      K.lookup (d.at_.ad K) = some ⟨oc, od, .func (PySem.W.fnOf d.name d.qual d.params d.body d.scope dV kV doc pm an cdv ct), osl⟩ ∧ PySem.W.codeIn K cdv d.qual = true ∧ dflN K d.nd dV = true := by
  obtain ⟨c1, c2⟩ := s.def_ f d hf
  obtain ⟨oc, od, dV, kV, doc, pm, an, cdv, ct, osl, l, k1, k2⟩ := def_at c2 c1
  refine ⟨oc, od, dV, kV, doc, pm, an, cdv, ct, osl, ?_, ?_, ?_, l, k1, k2⟩
  · simp only [Spec.wd, hf, l]
  · simp only [Spec.wd, hf]
  · simp only [Spec.wd, hf]
theorem defs_ok (g : S.good = true) (s : Seen S K) (f : Nat) (Fn : FnI) (hf : (S.wd K mg).T.fns f = some Fn) : ∃ N mu fuel, DefOk (S.wd K mg) f Fn N mu fuel := by
  have hf' : (lookN f S.defs).map (DefT.fn S.cf S.fuel) = some Fn := hf
  obtain ⟨d, hd, rfl⟩ := Option.map_eq_some_iff.mp hf'
  obtain ⟨oc, od, dV, kV, doc, pm, an, cdv, ct, osl, e1, e2, e3, l, k1, k2⟩ := fd_at (mg := mg) s hd
  refine ⟨d.N, d.mu, S.fuel, ⟨⟨oc, od, d.name, d.qual, d.params, d.body, d.scope, dV, kV, doc, pm, an, cdv, ct, osl, e1, ?_, k1, ?_, rfl⟩, rfl, ?_⟩⟩
  · rw [e1, e2]; exact l
  · rw [e3]; exact (good_def g hd).1
  · rw [e3]; rfl
theorem args_of {a : Arguments} (h : plainA a = true) : a.posonlyargs = [] ∧ a.kwonlyargs = [] ∧ a.vararg = none ∧ a.kwarg = none ∧ (a.args.map (·.arg)).Nodup ∧ a.defaults.length ≤ a.args.length := by
  unfold plainA at h
  simp only [Bool.and_eq_true, decide_eq_true_eq, List.isEmpty_iff, Option.isNone_iff_eq_none] at h
  obtain ⟨⟨⟨⟨⟨h1, h2⟩, h3⟩, h4⟩, h5⟩, h6⟩ := h
  exact ⟨h1, h2, h3, h4, h5, h6⟩
theorem dfl0 {dV : Value} (h : dflN K 0 dV = true) : dV = .none := by
  cases dV <;> first | rfl | cases h
theorem plainB_of (g : S.good = true) (s : Seen S K) {f : Nat} {d : DefT} (hf : lookN f S.defs = some d) (h0 : d.nd = 0) : Binds K ((S.wd K mg).fd f) ((S.wd K mg).pn f) [] := by
  obtain ⟨oc, od, dV, kV, doc, pm, an, cdv, ct, osl, e1, e2, e3, l, k1, k2⟩ := fd_at (mg := mg) s hf
  obtain ⟨a1, a2, a3, a4, a5, _⟩ := args_of (good_def g hf).2
  rw [h0] at k2
  have e := dfl0 k2
  subst e
  rw [e1, e3]
  exact binds_plain ⟨a1, rfl, a2, a3, a4, rfl, a5⟩
end
end HT
/-! calls with keywords, calls that leave arguments out -/
namespace HT
open L2 PyProof.Rows PySem PySem.Spec

abbrev Sl := List (Str × Value)
theorem loop_kw {body : (Str × Value) → (Sl × Sl) → Sem (ForInStep (Sl × Sl))} (ok : Str → Prop) (hb : ∀ k v sl ex, ok k → (List.lookup k sl).isSome = false → body (k, v) (sl, ex) = pure (.yield (sl ++ [(k, v)], ex))) :
    ∀ (kw sl ex : Sl), (∀ q ∈ kw, ok q.1) → (kw.map (·.1)).Nodup → (∀ q ∈ kw, List.lookup q.1 sl = none) → forIn kw (sl, ex) body = pure (sl ++ kw, ex)
  | [], sl, ex, _, _, _ => by simp
  | (k, v) :: r, sl, ex, h1, h2, h3 => by
    simp only [List.map_cons, List.nodup_cons] at h2
    rw [List.forIn_cons, hb k v sl ex (h1 (k, v) (by simp)) (by rw [h3 (k, v) (by simp)]; rfl), pure_bind]
    show forIn r (sl ++ [(k, v)], ex) body = _
    rw [loop_kw ok hb r (sl ++ [(k, v)]) ex (fun q hq => h1 q (by simp [hq])) h2.2 fun q hq => ?_]
    · simp
    · rw [List.lookup_append, h3 q (by simp [hq])]
      have ne : (q.1 == k) = false := beq_eq_false_iff_ne.mpr fun z => h2.1 (List.mem_map.mpr ⟨q, hq, z⟩)
      simp [List.lookup, ne]
def addIf (sl : Sl) (q : Str × Value) : Sl := if (List.lookup q.1 sl).isNone then sl ++ [q] else sl
theorem loop_df {body : (Str × Value) → Sl → Sem (ForInStep Sl)} (hb : ∀ q sl, body q sl = pure (.yield (addIf sl q))) : ∀ (l sl : Sl), forIn l sl body = pure (l.foldl addIf sl)
  | [], sl => by simp
  | q :: r, sl => by
    rw [List.forIn_cons, hb, pure_bind]
    exact loop_df hb r (addIf sl q)
theorem look_fold (p : Str) : ∀ (l sl : Sl), List.lookup p (l.foldl addIf sl) = (List.lookup p sl).or (List.lookup p l)
  | [], sl => by simp
  | (k, v) :: r, sl => by
    rw [List.foldl_cons, look_fold p r]
    unfold addIf
    by_cases e : (p == k) = true
    · have e' : p = k := beq_iff_eq.mp e
      subst e'
      cases q : List.lookup p sl with
      | none => simp [q, List.lookup_append, List.lookup]
      | some u => simp [q, List.lookup]
    · rw [Bool.not_eq_true] at e
      split
      · simp [List.lookup_append, List.lookup, e]
      · simp [List.lookup, e]
theorem look_zip {ps : List Str} {p : Str} : ∀ {us : List Value} {i : Nat}, ps.Nodup → ps[i]? = some p → List.lookup p (ps.zip us) = us[i]? := by
  induction ps with
  | nil => intro us i _ h; simp at h
  | cons a r ih =>
    intro us i nd h
    have ⟨n1, n2⟩ := List.nodup_cons.mp nd
    cases us with
    | nil => simp
    | cons u us =>
      cases i with
      | zero =>
        simp at h
        subst h
        simp [List.lookup]
      | succ i =>
        rw [List.getElem?_cons_succ] at h
        have ne : (p == a) = false := beq_eq_false_iff_ne.mpr fun z => n1 (z ▸ List.mem_of_getElem? h)
        simp only [List.zip_cons_cons, List.lookup, ne, List.getElem?_cons_succ]
        exact ih n2 h
theorem look_idx {p : Str} : ∀ {ks : List Str} {ws : List Value} {i j : Nat}, ws.length = ks.length → idx (fun k => k == p) ks i = some j → i ≤ j ∧ List.lookup p (ks.zip ws) = ws[j - i]? ∧ j - i < ws.length
  | [], ws, i, j, _, h => by cases h
  | k :: ks, [], i, j, hl, h => by simp at hl
  | k :: ks, w :: ws, i, j, hl, h => by
    unfold idx at h
    split at h
    · rename_i q
      cases h
      have q' : k = p := beq_iff_eq.mp q
      subst q'
      simp [List.lookup]
    · rename_i q
      obtain ⟨h1, h2, h3⟩ := look_idx (ws := ws) (by simpa using hl) h
      have ne : (p == k) = false := beq_eq_false_iff_ne.mpr fun z => q (by simp [z])
      refine ⟨by omega, ?_, by simp; omega⟩
      rw [show j - i = (j - (i + 1)) + 1 by omega, List.getElem?_cons_succ]
      simp only [List.zip_cons_cons, List.lookup, ne]
      exact h2
theorem look_noidx {p : Str} : ∀ {ks : List Str} {ws : List Value} {i : Nat}, idx (fun k => k == p) ks i = none → List.lookup p (ks.zip ws) = none
  | [], ws, i, _ => by simp
  | k :: ks, [], i, h => by simp
  | k :: ks, w :: ws, i, h => by
    unfold idx at h
    split at h
    · cases h
    · rename_i q
      have ne : (p == k) = false := beq_eq_false_iff_ne.mpr fun z => q (by simp [z])
      simp only [List.zip_cons_cons, List.lookup, ne]
      exact look_noidx h
/-- what is bound, name by name -/
theorem perm_binds {n m nd len : Nat} {ks : List Str} {all : List Value} {look : Str → Option Value} : ∀ {ps : List Str} {i : Nat} {perm : List Nat}, permAt n m nd len ks ps i = some perm →
    (∀ (j : Nat) p a, ps[j]? = some p → (if i + j < n then some (i + j) else match idx (fun k => k == p) ks 0 with
      | some c => some (n + c)
      | none => if len - nd ≤ i + j then some (n + m) else none) = some a → ∃ u, all[a]? = some u ∧ look p = some u) →
    (ps.filterMap fun p => (look p).map fun x => (p, x)) = ps.zip (perm.filterMap fun a => all[a]?)
  | [], i, perm, h, _ => by simp
  | p :: ps, i, perm, h, q => by
    unfold permAt at h
    obtain ⟨a, h1, h2⟩ := Option.bind_eq_some_iff.mp h
    obtain ⟨pm, h3, rfl⟩ := Option.map_eq_some_iff.mp h2
    obtain ⟨u, g1, g2⟩ := q 0 p a rfl h1
    have ih := perm_binds (all := all) (look := look) h3 fun j p' a' e1 e2 => q (j + 1) p' a' e1 (by rw [show i + (j + 1) = i + 1 + j by omega]; exact e2)
    rw [List.filterMap_cons, g2, List.filterMap_cons, g1]
    simp only [Option.map_some, List.zip_cons_cons]
    rw [ih]
section
variable {S : Spec} {K : PySem.W.Frag} {mg : Str → Option Value}
theorem noneItems {its : List Value} {n : Nat} (h1 : its.length = n) (h2 : its.all isNonV = true) : its = List.replicate n Value.none := by
  refine List.ext_getElem? fun i => ?_
  rw [List.getElem?_replicate]
  split
  · rename_i q
    rw [List.getElem?_eq_getElem (by omega)]
    have z := List.all_eq_true.mp h2 its[i] (List.getElem_mem _)
    cases e : its[i] <;> rw [e] at z <;> first | rfl | cases z
  · rw [List.getElem?_eq_none (by omega)]
theorem kb_of (g : S.good = true) (s : Seen S K) {f n : Nat} {ks : List Str} {perm : List Nat} {d : DefT} (hf : lookN f S.defs = some d) (hp : permOf d n ks = some perm) : KBg K ((S.wd K mg).fd f) ((S.wd K mg).pn f) n ks perm := by
  obtain ⟨oc, od, dV, kV, doc, pm, an, cdv, ct, osl, e1, e2, e3, l, k1, k2⟩ := fd_at (mg := mg) s hf
  obtain ⟨a1, a2, a3, a4, a5, a6⟩ := args_of (good_def g hf).2
  unfold permOf at hp
  split at hp
  · rename_i hk
    unfold ksOk at hk
    simp only [Bool.and_eq_true, decide_eq_true_eq, List.all_eq_true] at hk
    obtain ⟨⟨b1, b2⟩, b3⟩ := hk
    refine ⟨fun st us ws X hu hw => ?_⟩
    rw [e1, e3]
    have hnd : d.nd ≤ d.ps.length := by unfold DefT.nd DefT.ps; rw [List.length_map]; exact a6
    have nps : d.ps.Nodup := a5
    -- the defaults
    have hD : ∃ its : List Value, its = List.replicate d.nd Value.none ∧ ∀ (M : Model) (A : Around) (E : Value → Shared → Prop) (Q : Option (Array Value) → Shared → Prop), (∀ o, (o.getD #[]).toList = its → Q o st) → wpAny M A (seqItems? dV) Q E st := by
      cases hz : d.nd with
      | zero =>
        rw [hz] at k2
        have e := dfl0 k2
        subst e
        exact ⟨[], rfl, fun M A E Q h => wpAny_pure (h none rfl)⟩
      | succ c =>
        rw [hz] at k2
        cases dV with
        | ref Tt =>
          have k3 : (match K.lookup Tt with
            | some ⟨_, _, .seq its _, _⟩ => decide (its.toList.length = c + 1) && its.toList.all isNonV
            | _ => false) = true := k2
          cases q : K.lookup Tt with
          | none => rw [q] at k3; cases k3
          | some o =>
            obtain ⟨c1, c2, c3, c4⟩ := o
            rw [q] at k3
            cases c3 with
            | seq its z =>
              have k4 : (decide (its.toList.length = c + 1) && its.toList.all isNonV) = true := k3
              rw [Bool.and_eq_true, decide_eq_true_eq] at k4
              exact ⟨its.toList, noneItems k4.1 k4.2, fun M A E Q h => wpAny_seqItems (X _ _ q) rfl (h (some its) rfl)⟩
            | _ => cases k3
        | _ => cases k2
    obtain ⟨its, hits, hD⟩ := hD
    have lits : its.length = d.nd := by rw [hits]; simp
    intro M A E Q hq
    unfold bindArgs
    have hzk : ((ks.zip ws).map (·.1)) = ks := by rw [List.map_fst_zip (by omega)]
    have hin : ∀ k ∈ ks, k ∈ d.ps.drop n := fun k hk => by
      have z := b2 k hk
      exact List.contains_iff_mem.mp z
    have out : ∀ k ∈ ks, List.lookup k (d.ps.zip us) = none := fun k hk => by
      obtain ⟨i, hi⟩ := List.mem_iff_getElem?.mp (hin k hk)
      rw [List.getElem?_drop] at hi
      rw [look_zip nps hi]
      exact List.getElem?_eq_none (by omega)
    have hps : d.params.args.map (·.arg) = d.ps := rfl
    simp only [a1, a2, a3, a4, hps, List.map_nil, List.nil_append, List.append_nil]
    refine wpAny_bind ?_
    rw [loop_kw (fun k => d.ps.contains k = true) (fun k v sl ex hk hs => ?_) (ks.zip ws) (d.ps.zip us) [] (fun q hq => ?_) (by rw [hzk]; exact b3) fun q hq => ?_]
    · refine wpAny_pure (wpAny_bind (hD _ _ _ _ fun o ho => ?_))
      have hg : decide (us.length > d.ps.length) = false := by rw [hu]; simp; omega
      have hdr : its.drop (its.length - d.ps.length) = its := by rw [show its.length - d.ps.length = 0 by omega]; rfl
      simp only [ho, hg, hdr, Bool.false_and, Bool.false_eq_true, if_false]
      -- name by name
      have pw : ∀ (j : Nat) p a, d.ps[j]? = some p → (if 0 + j < n then some (0 + j) else match idx (fun k => k == p) ks 0 with
          | some c => some (n + c)
          | none => if d.ps.length - d.nd ≤ 0 + j then some (n + ks.length) else none) = some a →
          ∃ u, (us ++ (ws ++ [Value.none]))[a]? = some u ∧ List.lookup p ((((d.ps.drop (d.ps.length - its.length)).zip its)).foldl addIf (d.ps.zip us ++ ks.zip ws)) = some u ∧ (j < d.ps.length - d.nd → (List.lookup p (d.ps.zip us ++ ks.zip ws)).isSome = true) := fun j p a hj ha => by
        rw [Nat.zero_add] at ha
        rw [look_fold, List.lookup_append, look_zip nps hj]
        split at ha
        · rename_i q
          cases ha
          have hlt : j < us.length := by omega
          refine ⟨us[j], by rw [List.getElem?_append_left hlt, List.getElem?_eq_getElem hlt], by rw [List.getElem?_eq_getElem hlt]; rfl, fun _ => by rw [List.getElem?_eq_getElem hlt]; rfl⟩
        · rename_i q
          rw [List.getElem?_eq_none (show us.length ≤ j by omega)]
          split at ha
          · rename_i c hc
            cases ha
            obtain ⟨g1, g2, g3⟩ := look_idx (ws := ws) hw hc
            rw [Nat.sub_zero] at g2 g3
            refine ⟨ws[c], ?_, ?_, fun _ => ?_⟩
            · rw [List.getElem?_append_right (by omega), show n + c - us.length = c by omega, List.getElem?_append_left g3, List.getElem?_eq_getElem g3]
            · rw [g2, List.getElem?_eq_getElem g3]; rfl
            · rw [g2, List.getElem?_eq_getElem g3]; rfl
          · rename_i hc
            split at ha
            · rename_i hle
              cases ha
              have hjl : j < d.ps.length := (List.getElem?_eq_some_iff.mp hj).1
              have hj2 : (d.ps.drop (d.ps.length - its.length))[j - (d.ps.length - its.length)]? = some p := by
                rw [List.getElem?_drop, show d.ps.length - its.length + (j - (d.ps.length - its.length)) = j by omega]; exact hj
              refine ⟨.none, ?_, ?_, fun z => by omega⟩
              · rw [List.getElem?_append_right (by omega), show n + ks.length - us.length = ws.length by omega, List.getElem?_append_right (by omega)]
                simp
              · rw [look_noidx hc, look_zip (nps.sublist (List.drop_sublist _ _)) hj2, hits, List.getElem?_replicate, if_pos (by rw [List.length_replicate]; omega)]
                rfl
            · cases ha
      have hm : ((d.ps.take (d.ps.length - its.length)).filter fun x => (List.lookup x (d.ps.zip us ++ ks.zip ws)).isNone) = [] := by
        rw [List.filter_eq_nil_iff]
        intro x hx
        have ⟨j, hj⟩ := List.mem_iff_getElem?.mp hx
        have hj0 := hj
        rw [List.getElem?_take] at hj
        split at hj
        · rename_i hlt
          have ex : ∀ {ps : List Str} {i : Nat} {perm : List Nat}, permAt n ks.length d.nd d.ps.length ks ps i = some perm → ∀ (j : Nat) p, ps[j]? = some p → ∃ a, (if i + j < n then some (i + j) else match idx (fun k => k == p) ks 0 with
              | some c => some (n + c)
              | none => if d.ps.length - d.nd ≤ i + j then some (n + ks.length) else none) = some a := by
            intro ps
            induction ps with
            | nil => intro i perm h j p e; simp at e
            | cons p0 ps ih =>
              intro i perm h j p e
              unfold permAt at h
              obtain ⟨a, h1, h2⟩ := Option.bind_eq_some_iff.mp h
              obtain ⟨pm, h3, _⟩ := Option.map_eq_some_iff.mp h2
              cases j with
              | zero => simp at e; subst e; exact ⟨a, h1⟩
              | succ j =>
                rw [List.getElem?_cons_succ] at e
                obtain ⟨a', q⟩ := ih h3 j p e
                exact ⟨a', by rw [show i + (j + 1) = i + 1 + j by omega]; exact q⟩
          obtain ⟨a, ha⟩ := ex hp j x hj
          obtain ⟨u, _, _, z⟩ := pw j x a hj ha
          have z' := z (by omega)
          cases q : List.lookup x (d.ps.zip us ++ ks.zip ws) with
          | none => rw [q] at z'; cases z'
          | some u => simp
        · cases hj
      rw [hm]
      simp only [List.isEmpty_nil, Bool.not_true, Bool.false_eq_true, if_false]
      refine wpAny_bind ?_
      rw [loop_df (fun q sl => ?_) _ _]
      · refine wpAny_pure ?_
        simp only [List.forIn_nil, pure_bind, List.isEmpty_nil, Bool.not_true, Bool.false_eq_true, if_false]
        refine wpAny_pure ?_
        have fin := perm_binds (all := us ++ (ws ++ [Value.none])) (look := fun p => List.lookup p ((((d.ps.drop (d.ps.length - its.length)).zip its)).foldl addIf (d.ps.zip us ++ ks.zip ws))) hp fun j p a e1 e2 => by
          obtain ⟨u, q1, q2, _⟩ := pw j p a e1 e2
          exact ⟨u, q1, q2⟩
        rw [fin]
        exact hq
      · obtain ⟨k, v⟩ := q
        unfold addIf
        simp only
        split <;> rfl
    · simp only [hk, Bool.true_or, if_true, hs, Bool.false_eq_true, if_false]
    · obtain ⟨k, v⟩ := q
      have hk := (List.of_mem_zip hq).1
      exact List.contains_iff_mem.mpr (List.mem_of_mem_drop (hin k hk))
    · obtain ⟨k, v⟩ := q
      exact out k (List.of_mem_zip hq).1
  · cases hp
end
end HT
namespace HT
open L2 PyProof.Rows PySem PySem.Spec

section
variable {S : Spec} {K : PySem.W.Frag} {mg : Str → Option Value} {h : Heap}
theorem gloAt_ok {x : Str} {f : Nat} : ∀ {l : List (Nat × DefT)}, (l.map (·.1)).Nodup → gloAt x l = some f → ∃ d, lookN f l = some d ∧ d.at_ = .glo x
  | [], _, e => by cases e
  | (n, d) :: r, nd, e => by
    simp only [List.map_cons, List.nodup_cons] at nd
    unfold gloAt at e
    split at e
    · rename_i q
      cases e
      refine ⟨d, by simp [lookN], ?_⟩
      unfold isGlo at q
      split at q
      · rename_i y e2
        rw [e2, beq_iff_eq.mp q]
      · cases q
    · obtain ⟨d', h1, h2⟩ := gloAt_ok nd.2 e
      refine ⟨d', ?_, h2⟩
      unfold lookN
      have ne : ¬ n = f := fun z => nd.1 (List.mem_map.mpr ⟨(f, d'), lookN_mem h1, z.symm⟩)
      rw [if_neg ne]
      exact h1
theorem good_parts (g : S.good = true) : (S.defs.map (·.1)).Nodup ∧ S.flds.Nodup ∧ (S.flds.all fun x => x.cps.all fun c => decide (c < 5000000)) = true ∧ (S.clss.map (·.1)).Nodup := by
  unfold Spec.good at g
  simp only [decide_eq_true_eq, Bool.and_eq_true] at g
  obtain ⟨⟨⟨⟨_, g1⟩, g2⟩, g3⟩, g4⟩ := g
  exact ⟨g1, g2, g3, g4⟩
theorem fld_at {n : Nat} {x : Str} {l : List Str} (e : idx (fun y => y == x) l 0 = some n) : fldOf l n = x := by
  obtain ⟨y, _, h1, h2⟩ := idx_ok e
  unfold fldOf
  rw [Nat.sub_zero] at h1
  rw [h1]
  exact beq_iff_eq.mp h2
theorem lookN_all {α : Type} {p : Nat × α → Bool} {m : Nat} {a : α} {l : List (Nat × α)} (h : l.all p = true) (e : lookN m l = some a) : p (m, a) = true := List.all_eq_true.mp h _ (lookN_mem e)
theorem look_mem {α β : Type} [BEq α] [LawfulBEq α] {x : α} {v : β} : ∀ {l : List (α × β)}, l.lookup x = some v → (x, v) ∈ l
  | [], e => by cases e
  | (y, w) :: r, e => by
    simp only [List.lookup] at e
    split at e
    · rename_i q
      cases e
      rw [beq_iff_eq.mp q]
      exact .head _
    · exact .tail _ (look_mem e)
/-- a class behind the top -/
theorem cls_facts (g : S.good = true) (s : Seen S K) (c : Nat) (C : ClsI) (hc : (S.wd K mg).T.cls[c]? = some C) : CFx (S.wd K mg) c C := by
  have hc' : (S.clss.map (·.2))[c]? = some C := hc
  rw [List.getElem?_map] at hc'
  obtain ⟨q, hq, rfl⟩ := Option.map_eq_some_iff.mp hc'
  obtain ⟨X, I⟩ := q
  have ok := s.cls _ (List.mem_of_getElem? hq)
  have hg : (S.wd K mg).g.cls c = He.ga K X := by simp only [Spec.wd, hq]
  have hfa : ∀ {f : Nat} {d : DefT}, lookN f S.defs = some d → (S.wd K mg).fa f = d.at_.ad K := fun {f d} e => by simp only [Spec.wd, e]
  have hpl : ∀ {f : Nat} {d : DefT}, lookN f S.defs = some d → d.nd = 0 → (S.wd K mg).c.pl f = true := fun {f d} e z => by
    show (match lookN f S.defs with
      | some d => d.nd == 0
      | none => false) = true
    rw [e]
    exact beq_iff_eq.mpr z
  unfold clsOk at ok
  simp only [Bool.and_eq_true_iff] at ok
  obtain ⟨⟨⟨⟨⟨⟨⟨⟨⟨⟨⟨⟨⟨o1, o2⟩, o3⟩, o4⟩, o5⟩, o6⟩, o7⟩, o8⟩, o9⟩, o10⟩, o11⟩, o12⟩, o13⟩, o14⟩ := ok
  have cf : CF (S.wd K mg).g c := by
    refine ⟨?_, ?_, He.eqO_ok o6, eqB_ok o7, ?_⟩
    · rw [hg]; exact He.cls_ok o3
    · rw [hg]; exact He.eqO_ok o5
    · rw [hg]; exact eqB_ok o8
  -- the maker
  have hi : ∃ d, lookN I.init S.defs = some d ∧ d.at_ = .meth X "__init__" ∧ d.nd = 0 := by
    cases e : lookN I.init S.defs with
    | none => simp only [e] at o9; cases o9
    | some d =>
      simp only [e] at o9
      cases e2 : d.at_ with
      | meth C' m =>
        simp only [e2] at o9
        rw [Bool.and_eq_true, Bool.and_eq_true] at o9
        obtain ⟨⟨z1, z2⟩, z3⟩ := o9
        exact ⟨d, rfl, by rw [e2, beq_iff_eq.mp z1, beq_iff_eq.mp z2], beq_iff_eq.mp z3⟩
      | glo x => simp only [e2] at o9; cases o9
      | prop x y => simp only [e2] at o9; cases o9
  obtain ⟨di, i1, i2, i3⟩ := hi
  refine ⟨cf, ?_, hpl i1 i3, fun m f e => ?_, fun m f e => ?_, fun n e => ?_, fun t ht => ?_, fun t ht => ?_, fun c' hc2 => ?_⟩
  · show Mk K ((S.wd K mg).g.cls c) ((S.wd K mg).fa I.init)
    rw [hg, hfa i1, i2]
    exact He.mkr_ok o4
  · have z := lookN_all o10 e
    simp only at z
    cases e1 : lookN f S.defs with
    | none => simp only [e1] at z; cases z
    | some d =>
      simp only [e1] at z
      cases e2 : d.at_ with
      | meth C' m' =>
        simp only [e2] at z
        rw [Bool.and_eq_true, Bool.and_eq_true, Bool.and_eq_true] at z
        obtain ⟨⟨⟨z1, z2⟩, z3⟩, z4⟩ := z
        have q1 : C' = X := beq_iff_eq.mp z1
        have q2 : m' = fldOf S.flds m := beq_iff_eq.mp z2
        subst q1 q2
        refine ⟨?_, hpl e1 (beq_iff_eq.mp z3)⟩
        show Meth K ((S.wd K mg).g.cls c) (fldOf S.flds m) ((S.wd K mg).fa f)
        rw [hg, hfa e1, e2]
        exact He.meth_ok z4
      | glo x => simp only [e2] at z; cases z
      | prop x y => simp only [e2] at z; cases z
  · have z := lookN_all o11 e
    simp only at z
    cases e1 : lookN f S.defs with
    | none => simp only [e1] at z; cases z
    | some d =>
      simp only [e1] at z
      cases e2 : d.at_ with
      | prop C' m' =>
        simp only [e2] at z
        rw [Bool.and_eq_true, Bool.and_eq_true, Bool.and_eq_true, Bool.and_eq_true, Bool.and_eq_true, Bool.and_eq_true] at z
        obtain ⟨⟨⟨⟨⟨⟨z1, z2⟩, z3⟩, z4⟩, z5⟩, z6⟩, z7⟩ := z
        have q1 : C' = X := beq_iff_eq.mp z1
        have q2 : m' = fldOf S.flds m := beq_iff_eq.mp z2
        subst q1 q2
        refine ⟨⟨He.ma K (He.ga K C') (fldOf S.flds m), ?_⟩, hpl e1 (beq_iff_eq.mp z3)⟩
        show PropOf K ((S.wd K mg).g.cls c) (fldOf S.flds m) (He.ma K (He.ga K C') (fldOf S.flds m)) ((S.wd K mg).fa f)
        rw [hg, hfa e1, e2]
        refine ⟨He.eqO_ok z4, He.eqO_ok z5, eqB_ok z6, ?_⟩
        show ∃ rest, PySem.W.recIn K _ "property" = some (.ref (getIn K _) :: rest)
        unfold getIn
        split at z7
        · rename_i gg rest e3
          exact ⟨rest, by rw [e3]⟩
        · cases z7
      | glo x => simp only [e2] at z; cases z
      | meth x y => simp only [e2] at z; cases z
  · show NoAttr K ((S.wd K mg).g.cls c) (fldOf S.flds n)
    rw [hg]
    exact He.eqO_ok (List.all_eq_true.mp o12 n (List.contains_iff_mem.mp e))
  · show PySem.W.kitOne K (.type t) (.ref ((S.wd K mg).g.cls c)) = some false
    rw [hg]
    have z := List.all_eq_true.mp o13 t ht
    rw [Bool.and_eq_true] at z
    exact eqB_ok z.1
  · show PySem.W.kitOne K (.ref ((S.wd K mg).g.cls c)) (.type t) = some false
    rw [hg]
    have z := List.all_eq_true.mp o13 t ht
    rw [Bool.and_eq_true] at z
    exact eqB_ok z.2
  · have hc3 : ((S.clss.map (·.2))[c']?).isSome = true := hc2
    rw [List.getElem?_map] at hc3
    cases e : S.clss[c']? with
    | none => rw [e] at hc3; cases hc3
    | some q' =>
      have hg' : (S.wd K mg).g.cls c' = He.ga K q'.1 := by simp only [Spec.wd, e]
      show PySem.W.kitOne K (.ref ((S.wd K mg).g.cls c)) (.ref ((S.wd K mg).g.cls c')) = some (c == c')
      rw [hg, hg']
      have z := eqB_ok (List.all_eq_true.mp o14 q' (List.mem_of_getElem? e))
      rw [z]
      have nd := (good_parts g).2.2.2
      have n1 : (S.clss.map (·.1))[c]? = some X := by rw [List.getElem?_map, hq]; rfl
      have n2 : (S.clss.map (·.1))[c']? = some q'.1 := by rw [List.getElem?_map, e]; rfl
      by_cases ec : c = c'
      · subst ec
        rw [n1] at n2
        simp [Option.some.inj n2]
      · have ne : ¬ X = q'.1 := fun z => by
          obtain ⟨p1, p2⟩ := List.getElem?_eq_some_iff.mp n1
          obtain ⟨p3, p4⟩ := List.getElem?_eq_some_iff.mp n2
          exact ec ((List.getElem_inj nd).mp (p2.trans (z.trans p4.symm)))
        rw [beq_eq_false_iff_ne.mpr ne, beq_eq_false_iff_ne.mpr ec]
theorem wd_ok (g : S.good = true) (s : Seen S K) (X : K.In h) (G : h.Ns mainGlobals mg) : (S.wd K mg).Ok := by
  obtain ⟨g1, g2, g3, g4⟩ := good_parts g
  refine ⟨fld_inj g2 g3, fun x n e => fld_at e, fun x f e => ?_, fun x c e => ?_, fun x pv e => ?_, fun x e => ?_, fun f e => ?_, fun f n ks perm e => ?_, fun c C e => cls_facts g s c C e⟩
  · obtain ⟨d, h1, h2⟩ := gloAt_ok g1 (show gloAt x S.defs = some f from e)
    have hfa : (S.wd K mg).fa f = He.ga K x := by
      have z : (S.wd K mg).fa f = d.at_.ad K := by simp only [Spec.wd, h1]
      rw [z, h2]
      rfl
    obtain ⟨c1, _⟩ := s.def_ f d h1
    unfold DefT.okK at c1
    rw [h2, Bool.and_eq_true] at c1
    have c2 := c1.1
    simp only [Bool.and_eq_true] at c2
    obtain ⟨⟨z1, z2⟩, z3⟩ := c2
    rw [hfa]
    exact ⟨PySem.W.mg_of X G (He.eqO_ok z1), z2, dbg z3⟩
  · obtain ⟨q, _, h1, h2⟩ := idx_ok (show idx (fun q => q.1 == x) S.clss 0 = some c from e)
    rw [Nat.sub_zero] at h1
    have hx : q.1 = x := beq_iff_eq.mp h2
    have ok := s.cls q (List.mem_of_getElem? h1)
    unfold clsOk at ok
    simp only [Bool.and_eq_true_iff] at ok
    obtain ⟨⟨⟨⟨⟨⟨⟨⟨⟨⟨⟨⟨⟨o1, o2⟩, _⟩, _⟩, _⟩, _⟩, _⟩, _⟩, _⟩, _⟩, _⟩, _⟩, _⟩, _⟩ := ok
    have hg : (S.wd K mg).g.cls c = He.ga K q.1 := by simp only [Spec.wd, h1]
    rw [hg]
    rw [hx] at o1 o2 ⊢
    exact ⟨PySem.W.mg_of X G (He.eqO_ok o1), dbg o2⟩
  · have hm := look_mem (show S.consts.lookup x = some pv from e)
    have z := s.cst _ hm
    unfold cstOk at z
    rw [Bool.and_eq_true] at z
    obtain ⟨z1, z2⟩ := z
    have d := dbg z1
    split at z2
    · rename_i i j t ep e3
      have ep' : pv = .int i := ep
      subst ep'
      have ej : i = j := of_decide_eq_true z2
      subst ej
      exact ⟨.int i, _, .int i, PySem.W.mg_of X G e3, ⟨_, rfl⟩, d⟩
    · rename_i w y t ep e3
      have ep' : pv = .str w := ep
      subst ep'
      have ej : y = toStr w := of_decide_eq_true z2
      subst ej
      exact ⟨.str (toStr w), _, .str w, PySem.W.mg_of X G e3, ⟨_, rfl⟩, d⟩
    · cases z2
  · have hm : x ∈ S.blts := List.contains_iff_mem.mp (show S.blts.contains x = true from e)
    have z := s.blt x hm
    unfold bltOk at z
    rw [Bool.and_eq_true, Bool.and_eq_true] at z
    obtain ⟨⟨z1, z2⟩, z3⟩ := z
    refine ⟨PySem.W.mg_none_of X G (He.eqO_ok z1), fun q => ?_, dbg z3⟩
    subst q
    simp at z2
  · have e' : (match lookN f S.defs with
      | some d => d.nd == 0
      | none => false) = true := e
    cases q : lookN f S.defs with
    | none => rw [q] at e'; cases e'
    | some d =>
      rw [q] at e'
      exact plainB_of g s q (beq_iff_eq.mp e')
  · have e' : (match lookN f S.defs with
      | some d => permOf d n ks
      | none => none) = some perm := e
    cases q : lookN f S.defs with
    | none => rw [q] at e'; cases e'
    | some d =>
      rw [q] at e'
      exact kb_of g s q e'
end
/-- THE END: what the evaluator says of the law's def at every script, the model says -/
theorem law_walk {l : PySem.W.OpenLaw} {S : Spec} {q : Program} {loose : List Str} {XP : (Str → Option Value) → Heap → Prop} {d : DefRec} {f n : Nat} {x : Str} {dt : DefT} (hn : l.most = some 63) (hdf : d.params.defaults = []) (hg : S.good = true)
    (hf : lookN f S.defs = some dt) (hat : dt.at_ = .glo d.name) (hps : dt.ps = [x]) (hnd : dt.nd = 0) (hr : Room (2 * n) callerA)
    (ev : ∀ ns : List Int, ns.length ≤ 63 → ∃ fr D', callF S.tab n f [.lst (ns.map .int)] [] = some (.bl true, fr, D')) :
    PySem.W.WalkO q loose XP (hookT S).says l.row.toRowW d [] (fun f vs => PySem.call f vs) := by
  refine Att.attach_call hn hdf fun w s₀ S1 mg mb fA o pm cd doc p us ns G Y ho hd hcd hmg hobj hints hlen hge => ?_
  obtain ⟨K, KX, c⟩ := Y
  have s := seen_of c
  have top : TopS K mg S1 := ⟨KX, G.T.g, ⟨mb, G.T.b, G.T.builtins⟩, G.T.nolimit, hge⟩
  have ok : (S.wd K mg).Ok := wd_ok hg s KX G.T.g
  have hfa : (S.wd K mg).fa f = fA := by
    have z : (S.wd K mg).fa f = dt.at_.ad K := by simp only [Spec.wd, hf]
    rw [z, hat]
    obtain ⟨c1, _⟩ := s.def_ f dt hf
    unfold DefT.okK at c1
    rw [hat, Bool.and_eq_true] at c1
    have c2 := c1.1
    simp only [Bool.and_eq_true] at c2
    have e := PySem.W.mg_of KX G.T.g (He.eqO_ok c2.1.1)
    rw [hmg] at e
    cases e
    rfl
  have hpn : (S.wd K mg).pn f = [x] := by
    have z : (S.wd K mg).pn f = dt.ps := by simp only [Spec.wd, hf]
    rw [z, hps]
  have F : ∀ base : Heap, FnG l.prog w K mg base (2 * n) fA ((S.wd K mg).fd f) [x] (spC (S.wd K mg).g (callF (S.wd K mg).T n) f) := fun base => by
    have z := fns_ok (P := l.prog) (w := w) (base := base) ok (fun f Fn => defs_ok hg s f Fn) n f
    rw [hfa, hpn] at z
    exact z
  have hb : ∀ (T : Shared) (u : Value), BindsTo T ((S.wd K mg).fd f) ⟨[u], []⟩ [(x, u)] := fun T u => by
    obtain ⟨oc, od, dV, kV, dc, pm', an, cdv, ct, osl, e1, e2, e3, lk, k1, k2⟩ := fd_at (mg := mg) s hf
    obtain ⟨a1, a2, a3, a4, a5, _⟩ := args_of (good_def hg hf).2
    rw [hnd] at k2
    have e := dfl0 k2
    subst e
    rw [e1]
    have z := bind_plain (fd := PySem.W.fnOf dt.name dt.qual dt.params dt.body dt.scope Value.none kV dc pm' an cdv ct) (ps := [x]) (us := [u]) ⟨a1, hps, a2, a3, a4, rfl, by simp⟩ rfl
    exact .of_eq z
  exact law_callG top hobj hints (Nat.le_trans hlen (by decide)) hr F hb fun H hO hS => law_at (W := S.wd K mg) hS (ev ns hlen)
end HT
/-! the evaluator's loops, in plain words -/
namespace HT
theorem callF_succ {T : Tab} {d f : Nat} {F : FnI} {args : List PV} {D : Hs} (h : T.fns f = some F) (hl : args.length = F.params) : callF T (d + 1) f args D = match exSs T (callF T d) F.body (start F args) D with
    | some (.ret v fr, _, D') => finish F.alloc D.length v fr D'
    | some (.next, _, D') => finish F.alloc D.length .non false D'
    | _ => none := by
  simp only [callF, h, hl, if_true]
  all_goals rfl
theorem warm_up {T : Tab} {cf : CallFn} {r : Rho} {D : Hs} : evE T cf .bad r D = none ∧ evEs T cf [] r D = some ([], D) ∧ evSs T cf [] [] r D = some ([], D) ∧ evO T cf none r D = some (none, D) ∧ evTs T cf [] r D = some (true, D) ∧ exS T cf .brk r D = some (.brk, r, D) ∧ exSs T cf [] r D = some (.next, r, D) ∧ evPar T cf [] [] r D = some ([], D) ∧ snapV 0 D .non = some .non ∧ snapAll 0 D [] = some [] := by
  simp [evE, evEs, evSs, evO, evTs, exS, exSs, evPar, snapV, snapAll]
/-- a comprehension -/
theorem compL_fm {α : Type} {enc : α → PV} {step : PV → Hs → Option (Option PV × Hs)} {g : α → Option PV} {D : Hs} : ∀ {xs : List α} {acc : List PV}, (∀ x ∈ xs, step (enc x) D = some (g x, D)) → acc.length + xs.length ≤ sizeL →
    compL step (xs.map enc) acc D = some (acc ++ xs.filterMap g, D)
  | [], acc, _, _ => by simp [compL]
  | x :: xs, acc, h, hl => by
    simp only [List.length_cons] at hl
    simp only [List.map_cons, compL, h x (by simp), List.filterMap_cons]
    cases e : g x with
    | none => exact compL_fm (fun y hy => h y (by simp [hy])) (by omega)
    | some v =>
      have z := compL_fm (xs := xs) (acc := acc ++ [v]) (fun y hy => h y (by simp [hy])) (by simp; omega)
      simp only [if_pos (show acc.length < sizeL by omega), z, List.append_assoc, List.singleton_append]
section
variable {T : Tab} {cf : CallFn} {r r1 : Rho} {D D1 D2 : Hs}
theorem e_var {i : Nat} {v : PV} (h : r[i]? = some (some v)) : evE T cf (.var i) r D = some (v, false, D) := by
  simp only [evE, h]
theorem es_nil : evEs T cf [] r D = some ([], D) := by simp only [evEs]
theorem es_cons {e : CE} {es : List CE} {v : PV} {vs : List PV} {fr : Bool} (h : evE T cf e r D = some (v, fr, D1)) (h2 : evEs T cf es r D1 = some (vs, D2)) : evEs T cf (e :: es) r D = some (v :: vs, D2) := by
  simp only [evEs, h, h2]
theorem e_call {f : Nat} {es : List CE} {vs : List PV} {z : Option (PV × Bool × Hs)} (h : evEs T cf es r D = some (vs, D1)) (h2 : cf f vs D1 = z) : evE T cf (.call f es) r D = z := by
  simp only [evE, h, h2]
theorem e_callK {f : Nat} {es : List CE} {pm : List Nat} {vs : List PV} {z : Option (PV × Bool × Hs)} (h : evEs T cf es r D = some (vs, D1)) (h2 : cf f (pm.filterMap fun i => vs[i]?) D1 = z) : evE T cf (.callK f es pm) r D = z := by
  simp only [evE, h, h2]
theorem p_nil : evPar T cf [] [] r D = some ([], D) := by simp only [evPar]
theorem p_val {i : Nat} {is : List (Nat × Bool)} {e : CE} {es : List CE} {v : PV} {vs : List PV} {fr : Bool} (h : evE T cf e r D = some (v, fr, D1)) (h2 : evPar T cf is es r D1 = some (vs, D2)) : evPar T cf ((i, false) :: is) (e :: es) r D = some (v :: vs, D2) := by
  simp only [evPar, h, Bool.false_eq_true, if_false, h2]
theorem p_new {i : Nat} {is : List (Nat × Bool)} {e : CE} {es : List CE} {v v' : PV} {vs : List PV} {fr : Bool} {D3 : Hs} (h : evE T cf e r D = some (v, fr, D1)) (hh : heapV v fr D1 = some (v', D3)) (h2 : evPar T cf is es r D3 = some (vs, D2)) : evPar T cf ((i, true) :: is) (e :: es) r D = some (v' :: vs, D2) := by
  simp only [evPar, h, if_true, hh, h2]
theorem x_par {is : List (Nat × Bool)} {es : List CE} {vs : List PV} (h : evPar T cf is es r D = some (vs, D1)) (h2 : setAll (is.map (·.1)) vs r = some r1) : exS T cf (.par is es) r D = some (.next, r1, D1) := by
  simp only [exS, h, h2]
theorem x_setM {i : Nat} {e : CE} {v v' : PV} {fr : Bool} (h : evE T cf e r D = some (v, fr, D1)) (hh : heapV v fr D1 = some (v', D2)) : exS T cf (.setM i e) r D = some (.next, r.set i (some v'), D2) := by
  simp only [exS, h, hh]
theorem x_next {s : CS} {ss : List CS} {z : Option (Fl × Rho × Hs)} (h : exS T cf s r D = some (.next, r1, D1)) (h2 : exSs T cf ss r1 D1 = z) : exSs T cf (s :: ss) r D = z := by
  simp only [exSs, h, h2]
theorem x_stop {s : CS} {ss : List CS} {v : PV} {fr : Bool} (h : exS T cf s r D = some (.ret v fr, r1, D1)) : exSs T cf (s :: ss) r D = some (.ret v fr, r1, D1) := by
  simp only [exSs, h]
theorem x_set {i : Nat} {e : CE} {v : PV} {fr : Bool} (h : evE T cf e r D = some (v, fr, D1)) : exS T cf (.set i e) r D = some (.next, r.set i (some v), D1) := by
  simp only [exS, h]
theorem x_ret {e : CE} {v : PV} {fr : Bool} (h : evE T cf e r D = some (v, fr, D1)) : exS T cf (.ret e) r D = some (.ret v fr, r, D1) := by
  simp only [exS, h]
theorem x_expr {e : CE} {v : PV} {fr : Bool} (h : evE T cf e r D = some (v, fr, D1)) : exS T cf (.expr e) r D = some (.next, r, D1) := by
  simp only [exS, h]
theorem x_if {c : CE} {a b : List CS} {v : PV} {fr : Bool} {t : Bool} {z : Option (Fl × Rho × Hs)} (h : evE T cf c r D = some (v, fr, D1)) (ht : truth (deref D1 v) = some t) (h2 : exSs T cf (if t then a else b) r D1 = z) : exS T cf (.ifS c a b) r D = z := by
  simp only [exS, h, ht]
  cases t <;> exact h2
theorem x_for {t : Tgt} {it : CE} {body : List CS} {src : PV} {fr : Bool} {xs : List PV} {z : Option (Fl × Rho × Hs)} (h : evE T cf it r D = some (src, fr, D1)) (hn : ∀ n, src ≠ .ref n) (hi : itemsOf src = some xs)
    (h2 : forL (fun x r D => match tgtV t x r with
      | none => none
      | some r' => exSs T cf body r' D) xs r D1 = z) : exS T cf (.forS t it body) r D = z := by
  unfold exS
  simp only [h]
  cases src with
  | ref n => exact absurd rfl (hn n)
  | lst ys => cases hi; exact h2
  | tup ys => cases hi; exact h2
  | str ys => cases hi; exact h2
  | _ => cases hi
/-- a comprehension whose parts leave the store alone -/
theorem e_lc {α : Type} {enc : α → PV} {own : List Nat} {t : Tgt} {it elt : CE} {conds : List CE} {src : PV} {fr : Bool} {xs : List α} (rr : α → Rho) (p : α → Bool) (f : α → PV) (h : evE T cf it r D = some (src, fr, D1)) (hn : ∀ n, src ≠ .ref n) (hi : itemsOf src = some (xs.map enc))
    (ht : ∀ x ∈ xs, tgtV t (enc x) (wipeR r own) = some (rr x)) (hc : ∀ x ∈ xs, evTs T cf conds (rr x) D1 = some (p x, D1)) (he : ∀ x ∈ xs, p x = true → ∃ fx, evE T cf elt (rr x) D1 = some (f x, fx, D1)) (hl : xs.length ≤ sizeL) :
    evE T cf (.lc own t it conds elt) r D = some (.lst ((xs.filter p).map f), true, D1) := by
  have z := compL_fm (enc := enc) (g := fun x => if p x then some (f x) else none) (D := D1) (xs := xs) (acc := []) (step := fun x D => match tgtV t x (wipeR r own) with
        | none => none
        | some r' => match evTs T cf conds r' D with
          | none => none
          | some (false, D') => some (none, D')
          | some (true, D') => match evE T cf elt r' D' with
            | none => none
            | some (v, _, D2) => some (some v, D2)) (fun x hx => by
      simp only [ht x hx, hc x hx]
      cases hp : p x with
      | false => simp
      | true =>
        obtain ⟨fx, ee⟩ := he x hx hp
        simp [ee]) (by simpa using hl)
  have hfm : (xs.filterMap fun x => if p x then some (f x) else none) = (xs.filter p).map f := by
    clear z he hc ht hi hl
    induction xs with
    | nil => rfl
    | cons x xs ih => cases hp : p x <;> simp [List.filterMap_cons, List.filter_cons, hp, ih]
  unfold evE
  simp only [h]
  have hr : runC src (fun x D => match tgtV t x (wipeR r own) with
        | none => none
        | some r' => match evTs T cf conds r' D with
          | none => none
          | some (false, D') => some (none, D')
          | some (true, D') => match evE T cf elt r' D' with
            | none => none
            | some (v, _, D2) => some (some v, D2)) D1 = some ((xs.filter p).map f, D1) := by
    rw [← hfm]
    cases src with
    | ref n => exact absurd rfl (hn n)
    | lst ys => cases hi; exact z
    | tup ys => cases hi; exact z
    | str ys => injection hi with hi; exact (congrArg (fun l => compL _ l [] D1) hi).trans z
    | _ => cases hi
  exact congrArg (Option.map fun z : List PV × Hs => (PV.lst z.1, true, z.2)) hr
theorem f_ret {d f : Nat} {F : FnI} {args : List PV} {v v' : PV} {fr fr' : Bool} (hf : T.fns f = some F) (hl : args.length = F.params) (h : exSs T (callF T d) F.body (start F args) D = some (.ret v fr, r1, D1)) (he : finish F.alloc D.length v fr D1 = some (v', fr', D2)) : callF T (d + 1) f args D = some (v', fr', D2) := by
  rw [callF_succ hf hl, h]
  exact he
theorem f_end {d f : Nat} {F : FnI} {args : List PV} {v' : PV} {fr' : Bool} (hf : T.fns f = some F) (hl : args.length = F.params) (h : exSs T (callF T d) F.body (start F args) D = some (.next, r1, D1)) (he : finish F.alloc D.length .non false D1 = some (v', fr', D2)) : callF T (d + 1) f args D = some (v', fr', D2) := by
  rw [callF_succ hf hl, h]
  exact he
end
/-- a loop that goes through, by its state -/
theorem forL_inv {α β : Type} {enc : α → PV} {step : PV → Rho → Hs → Option (Fl × Rho × Hs)} (I : β → Rho → Hs → Prop) (f : β → α → β) : ∀ {xs : List α} {b : β} {r : Rho} {D : Hs}, (∀ b x r D, x ∈ xs → I b r D → ∃ r' D', step (enc x) r D = some (.next, r', D') ∧ I (f b x) r' D') → I b r D →
    ∃ r' D', forL step (xs.map enc) r D = some (.next, r', D') ∧ I (xs.foldl f b) r' D'
  | [], b, r, D, _, h => ⟨r, D, rfl, h⟩
  | x :: xs, b, r, D, hs, h => by
    obtain ⟨r1, D1, e1, h1⟩ := hs b x r D (by simp) h
    obtain ⟨r2, D2, e2, h2⟩ := forL_inv (xs := xs) I f (fun b y r D hy => hs b y r D (by simp [hy])) h1
    exact ⟨r2, D2, by simp only [List.map_cons, forL, e1, e2], h2⟩
/-- the same, an end by return: at the first item that p holds of -/
theorem forL_ret {α β : Type} {enc : α → PV} {step : PV → Rho → Hs → Option (Fl × Rho × Hs)} (I : β → Rho → Hs → Prop) (f : β → α → β) (R : Fl → Rho → Hs → Prop) : ∀ {xs : List α} {b : β} {r : Rho} {D : Hs}, (∀ b x r D, x ∈ xs → I b r D → (∃ r' D', step (enc x) r D = some (.next, r', D') ∧ I (f b x) r' D') ∨ ∃ v fr r' D', step (enc x) r D = some (.ret v fr, r', D') ∧ R (.ret v fr) r' D') → I b r D →
    (∃ r' D', forL step (xs.map enc) r D = some (.next, r', D') ∧ I (xs.foldl f b) r' D') ∨ ∃ v fr r' D', forL step (xs.map enc) r D = some (.ret v fr, r', D') ∧ R (.ret v fr) r' D'
  | [], b, r, D, _, h => .inl ⟨r, D, rfl, h⟩
  | x :: xs, b, r, D, hs, h => by
    rcases hs b x r D (by simp) h with ⟨r1, D1, e1, h1⟩ | ⟨v, fr, r1, D1, e1, h1⟩
    · rcases forL_ret (xs := xs) I f R (fun b y r D hy => hs b y r D (by simp [hy])) h1 with ⟨r2, D2, e2, h2⟩ | ⟨v, fr, r2, D2, e2, h2⟩
      · exact .inl ⟨r2, D2, by simp only [List.map_cons, forL, e1, e2], h2⟩
      · exact .inr ⟨v, fr, r2, D2, by simp only [List.map_cons, forL, e1, e2], h2⟩
    · exact .inr ⟨v, fr, r1, D1, by simp only [List.map_cons, forL, e1], h1⟩
/-- a while loop of m turns -/
theorem whileF_run {c : Rho → Hs → Option (Bool × Hs)} {body : Rho → Hs → Option (Fl × Rho × Hs)} (I : Nat → Rho → Hs → Prop) (m : Nat) (ht : ∀ k r D, k < m → I k r D → c r D = some (true, D) ∧ ∃ r' D', body r D = some (.next, r', D') ∧ I (k + 1) r' D')
    (he : ∀ r D, I m r D → c r D = some (false, D)) : ∀ (j fuel k : Nat) (r : Rho) (D : Hs), k + j = m → j < fuel → I k r D → ∃ r' D', whileF c body fuel r D = some (.next, r', D') ∧ I m r' D'
  | 0, 0, k, r, D, hk, hf, h => by omega
  | j, 0, k, r, D, hk, hf, h => by omega
  | 0, f + 1, k, r, D, hk, hf, h => by
    obtain rfl : k = m := by omega
    exact ⟨r, D, by simp only [whileF, he r D h], h⟩
  | j + 1, f + 1, k, r, D, hk, hf, h => by
    obtain ⟨e1, r1, D1, e2, h2⟩ := ht k r D (by omega) h
    obtain ⟨r2, D2, e3, h3⟩ := whileF_run I m ht he j f (k + 1) r1 D1 (by omega) (by omega) h2
    exact ⟨r2, D2, by simp only [whileF, e1, e2, e3], h3⟩
end HT
/-! nets: what the package's defs do -/
namespace HT
def f_is_integer : FnI := { params := 1, slots := 1, alloc := false, body := [.ret (.andE (.isI .int (.var 0)) (.notE (.isI .bool (.var 0))))] }
def f_is_between : FnI := { params := 3, slots := 3, alloc := false, body := [.ret (.andE (.call 0 [(.var 0)]) (.chain .le .le (.var 1) (.var 0) (.var 2)))] }
def f_is_hue : FnI := { params := 1, slots := 1, alloc := false, body := [.ret (.andE (.isI .str (.var 0)) (.andE (.cmp .eq (.blt .len [(.var 0)]) (.cst (.int 1))) (.cmp .inn (.var 0) (.cst (.str [97, 98, 99, 100, 101, 102])))))] }
def f_is_road : FnI := { params := 2, slots := 2, alloc := false, body := [.ifS (.orE (.notE (.isI .tuple (.var 0))) (.orE (.cmp .ne (.blt .len [(.var 0)]) (.cst (.int 3))) (.notE (.call 1 [(.sub (.var 0) (.cst (.int 0))), (.cst (.int 0)), (.bin .sub (.var 1) (.cst (.int 1)))])))) [.ret (.cst (.bl false))] [], .ret (.andE (.call 1 [(.sub (.var 0) (.cst (.int 1))), (.bin .add (.sub (.var 0) (.cst (.int 0))) (.cst (.int 1))), (.bin .sub (.var 1) (.cst (.int 1)))]) (.call 7 [(.sub (.var 0) (.cst (.int 2)))]))] }
def f_check_roads : FnI := { params := 2, slots := 4, alloc := false, body := [.ifS (.notE (.isI .tuple (.var 0))) [.bad] [], .forS (.names [2, 3]) (.enum (.var 0)) [.ifS (.orE (.notE (.call 9 [(.var 3), (.var 1)])) (.andE (.cmp .gt (.var 2) (.cst (.int 0))) (.cmp .le (.slice (.var 3) none (some (.cst (.int 2)))) (.slice (.sub (.var 0) (.bin .sub (.var 2) (.cst (.int 1)))) none (some (.cst (.int 2))))))) [.bad] []]] }
def f_sorted_pair : FnI := { params := 2, slots := 2, alloc := false, body := [.ret (.tupE [(.blt .min2 [(.var 0), (.var 1)]), (.blt .max2 [(.var 0), (.var 1)])])] }
def f_Net___init__ : FnI := { params := 3, slots := 6, alloc := false, body := [.ifS (.notE (.call 1 [(.var 1), (.cst (.int 1)), (.cst (.int 9))])) [.bad] [], .expr (.call 10 [(.var 2), (.var 1)]), .setAttr 0 (.var 0) (.var 1), .setAttr 1 (.var 0) (.var 2), .setAttr 2 (.var 0) (.dc [3, 4, 5] (.names [3, 4, 5]) (.var 2) (.tupE [(.var 3), (.var 4)]) (.var 5))] }
def f_Net_size : FnI := { params := 1, slots := 1, alloc := false, body := [.ret (.attr 0 (.var 0))] }
def f_Net_check_place : FnI := { params := 2, slots := 2, alloc := false, body := [.ifS (.notE (.call 1 [(.var 1), (.cst (.int 0)), (.bin .sub (.attr 0 (.var 0)) (.cst (.int 1)))])) [.bad] []] }
def f_Net_hue_of : FnI := { params := 3, slots := 3, alloc := false, body := [.ret (.bm .get1 (.attr 2 (.var 0)) [(.call 11 [(.var 1), (.var 2)])])] }
def f_Net_steps : FnI := { params := 2, slots := 5, alloc := false, body := [.set 2 (.lc [3] (.name 3) (.rng1 (.attr 0 (.var 0))) [] (.tupE [(.var 3), (.meth 5 (.var 0) [(.var 1), (.var 3)])])), .ret (.lc [4] (.name 4) (.var 2) [(.isN (.sub (.var 4) (.cst (.int 1))) false)] (.var 4))] }
def f_check_net : FnI := { params := 1, slots := 1, alloc := false, body := [.ifS (.notE (.isI (.cls 0) (.var 0))) [.bad] []] }
def f_check_ends : FnI := { params := 3, slots := 3, alloc := false, body := [.expr (.call 37 [(.var 0)]), .expr (.meth 4 (.var 0) [(.var 1)]), .expr (.meth 4 (.var 0) [(.var 2)]), .ifS (.cmp .eq (.var 2) (.var 1)) [.bad] []] }
def f_check_wanted : FnI := { params := 2, slots := 3, alloc := false, body := [.forS (.name 2) (.tupE [(.var 0), (.var 1)]) [.ifS (.andE (.isN (.var 2) false) (.notE (.call 7 [(.var 2)]))) [.bad] []]] }
def f_longer : FnI := { params := 3, slots := 9, alloc := false, body := [.setM 3 (.lstE []), .forS (.names [4, 5]) (.var 1) [.forS (.names [6, 7]) (.meth 8 (.var 0) [(.sub (.var 4) (.neg (.cst (.int 1))))]) [.set 8 (.ite (.isN (.var 5) false) (.cmp .ne (.var 7) (.var 5)) (.cmp .inn (.var 2) (.tupE [(.cst .non), (.var 7)]))), .ifS (.andE (.var 8) (.cmp .nin (.var 6) (.var 4))) [.expr (.mut .append (.var 3) [(.tupE [(.tupS [true, false] [(.var 4), (.var 6)]), (.var 7)])])] []]], .ret (.var 3)] }
def f_ending : FnI := { params := 3, slots := 5, alloc := false, body := [.ret (.blt .sorted [(.lc [3, 4] (.names [3, 4]) (.var 0) [(.andE (.cmp .eq (.sub (.var 3) (.neg (.cst (.int 1)))) (.var 1)) (.cmp .inn (.var 2) (.tupE [(.cst .non), (.var 4)])))] (.var 3))])] }
def f_ways : FnI := { params := 5, slots := 8, alloc := false, body := [.expr (.call 68 [(.var 0), (.var 1), (.var 2)]), .expr (.call 69 [(.var 3), (.var 4)]), .ifS (.cmp .gt (.attr 3 (.var 0)) (.cst (.int 8))) [.bad] [], .par [(5, true), (6, false)] [(.lstE []), (.lstE [(.tupE [(.tupE [(.var 1)]), (.cst .non)])])], .whileS (.cmp .ne (.var 6) (.lstE [])) [.expr (.mut .extend (.var 5) [(.call 71 [(.var 6), (.var 2), (.var 4)])]), .set 6 (.call 70 [(.var 0), (.lc [7] (.name 7) (.var 6) [(.cmp .ne (.sub (.sub (.var 7) (.cst (.int 0))) (.neg (.cst (.int 1)))) (.var 2))] (.var 7)), (.var 3)])], .ret (.blt .tuple [(.var 5)])] }
def c_Net : ClsI := { live := false, init := 17, flds := [0, 1, 2], props := [(3, 19), (9, 20)], meths := [(4, 21), (6, 22), (5, 23), (11, 24), (8, 25), (12, 26), (13, 27), (7, 28), (14, 29), (15, 30), (16, 31)] }
/-! values -/
abbrev natV (n : Nat) : PV := .int (n : Int)
abbrev chV (c : Nat) : PV := .str [c]
def optV : Option Nat → PV
  | none => .non
  | some c => chV c
abbrev pairK (i j : Nat) : PV := .tup [natV i, natV j]
abbrev Road := Nat × Nat × Nat
abbrev roadV (q : Road) : PV := .tup [natV q.1, natV q.2.1, chV q.2.2]
structure Nt where
  n : Nat
  rs : List Road
def huesV (rs : List Road) : List (PV × PV) := rs.map fun q => (pairK q.1 q.2.1, chV q.2.2)
def netV (G : Nt) : PV := .obj 0 [(0, natV G.n), (1, .tup (G.rs.map roadV)), (2, .dct (huesV G.rs))]
def hueAt (rs : List Road) (i j : Nat) : Option Nat := (rs.find? fun q => q.1 == i && q.2.1 == j).map (·.2.2)
def Nt.hue (G : Nt) (i j : Nat) : Option Nat := hueAt G.rs (min i j) (max i j)
def Nt.steps (G : Nt) (p : Nat) : List (Nat × Nat) := (List.range G.n).filterMap fun o => (G.hue p o).map fun c => (o, c)
abbrev stepV (q : Nat × Nat) : PV := .tup [natV q.1, chV q.2]
def roadOk (n : Nat) (q : Road) : Prop := q.1 < q.2.1 ∧ q.2.1 < n ∧ 97 ≤ q.2.2 ∧ q.2.2 ≤ 102
def pairLt (a b : Road) : Prop := a.1 < b.1 ∨ (a.1 = b.1 ∧ a.2.1 < b.2.1)
structure Nt.Ok (G : Nt) : Prop where
  n1 : 1 ≤ G.n
  n9 : G.n ≤ 9
  rd : ∀ q ∈ G.rs, roadOk G.n q
  asc : G.rs.Pairwise pairLt
structure HasNets (T : Tab) : Prop where
  is_integer : T.fns 0 = some f_is_integer
  is_between : T.fns 1 = some f_is_between
  is_hue : T.fns 7 = some f_is_hue
  is_road : T.fns 9 = some f_is_road
  check_roads : T.fns 10 = some f_check_roads
  sorted_pair : T.fns 11 = some f_sorted_pair
  init : T.fns 17 = some f_Net___init__
  size : T.fns 19 = some f_Net_size
  check_place : T.fns 21 = some f_Net_check_place
  hue_of : T.fns 23 = some f_Net_hue_of
  steps : T.fns 25 = some f_Net_steps
  check_net : T.fns 37 = some f_check_net
  cls : T.cls[0]? = some c_Net
theorem dFind_hues (i j : Nat) : ∀ rs : List Road, dFind (pairK i j) (huesV rs) = (hueAt rs i j).map chV
  | [] => rfl
  | q :: r => by
    have ih := dFind_hues i j r
    unfold huesV at ih
    simp only [huesV, List.map_cons, dFind, hueAt, List.find?_cons, PV.eqv, eqvAll]
    by_cases h : q.1 = i ∧ q.2.1 = j
    · obtain ⟨rfl, rfl⟩ := h
      simp
    · have h1 : (((q.1 : Int) == (i : Int)) && (((q.2.1 : Int) == (j : Int)) && true)) = false := by
        rw [Bool.eq_false_iff]
        intro z
        simp only [Bool.and_true, Bool.and_eq_true, beq_iff_eq] at z
        exact h ⟨by omega, by omega⟩
      have h2 : (q.1 == i && q.2.1 == j) = false := by
        rw [Bool.eq_false_iff]
        intro z
        simp only [Bool.and_eq_true, beq_iff_eq] at z
        exact h z
      simp only [h1, h2, Bool.false_eq_true, if_false]
      exact ih
theorem keyFits_hues (i j : Nat) (rs : List Road) : keyFits (pairK i j) (huesV rs) = true := by
  cases rs with
  | nil => rfl
  | cons q r => rfl
theorem optV_map (o : Option Nat) : (o.map chV).getD .non = optV o := by cases o <;> rfl
theorem rangeL_eq : ∀ (k a : Nat), rangeL (a : Int) k = (List.range' a k).map natV
  | 0, _ => rfl
  | k + 1, a => by
    have ih := rangeL_eq k (a + 1)
    simp only [rangeL, List.range'_succ, List.map_cons]
    rw [← ih]
    simp
theorem rangeL_zero (k : Nat) : rangeL 0 k = (List.range k).map natV := by
  rw [List.range_eq_range']
  exact rangeL_eq k 0
section
variable {T : Tab}
theorem c_is_integer (h : HasNets T) (n : Nat) (i : Int) (D : Hs) : callF T (n + 1) 0 [.int i] D = some (.bl true, false, D) := by
  rw [callF_succ h.is_integer rfl]
  simp [f_is_integer, callF, exSs, exS, evE, evEs, evSs, evO, evTs, evPar, start, deref, truth, binV, addV, mulV, cmpV, eqR, ltR, leR, gtR, geR, inV, isV, isTy, tyIn, isNon, bltV, lenV, tupleV, listV, minV, maxV, absV, intV, divmodV, bmTy, bmV, subV, ixOf, sliceV, sliceI, tgtV, setAll, wipeR, heapV, finish, snapV, snapAll, lookN]
theorem c_is_between (h : HasNets T) (n : Nat) (i a b : Int) (D : Hs) : callF T (n + 2) 1 [.int i, .int a, .int b] D = some (.bl (decide (a ≤ i ∧ i ≤ b)), false, D) := by
  rw [callF_succ h.is_between rfl]
  have e := c_is_integer h n i D
  by_cases h1 : a ≤ i
  · by_cases h2 : i ≤ b <;> simp [f_is_between, exSs, exS, evE, evEs, start, e, deref, truth, cmpV, leR, finish, snapV, h1, h2]
  · simp [f_is_between, exSs, exS, evE, evEs, start, e, deref, truth, cmpV, leR, finish, snapV, h1]
theorem c_is_hue (h : HasNets T) (n : Nat) (c : Nat) (hc : 97 ≤ c ∧ c ≤ 102) (D : Hs) : callF T (n + 1) 7 [chV c] D = some (.bl true, false, D) := by
  rw [callF_succ h.is_hue rfl]
  have e : [97, 98, 99, 100, 101, 102].contains c = true := by
    have : c = 97 ∨ c = 98 ∨ c = 99 ∨ c = 100 ∨ c = 101 ∨ c = 102 := by omega
    rcases this with rfl | rfl | rfl | rfl | rfl | rfl <;> rfl
  simp only [List.contains_eq_mem, decide_eq_true_eq] at e
  simp [f_is_hue, exSs, exS, evE, evEs, start, deref, truth, cmpV, eqR, inV, isV, isTy, tyIn, bltV, lenV, finish, snapV, sizeL, PV.data, PV.depth, PV.eqv]
  simpa using e
theorem c_sorted_pair (h : HasNets T) (n : Nat) (i j : Nat) (D : Hs) : callF T (n + 1) 11 [natV i, natV j] D = some (pairK (min i j) (max i j), false, D) := by
  rw [callF_succ h.sorted_pair rfl]
  have e1 : (if (j : Int) < i then (j : Int) else i) = ((min i j : Nat) : Int) := by split <;> omega
  have e2 : (if (j : Int) > i then (j : Int) else i) = ((max i j : Nat) : Int) := by split <;> omega
  simp [f_sorted_pair, exSs, exS, evE, evEs, start, deref, bltV, minV, maxV, finish, snapV, snapAll, sizeL]
  constructor <;> split <;> omega
theorem c_hue_of (h : HasNets T) (n : Nat) (G : Nt) (i j : Nat) (D : Hs) : callF T (n + 2) 23 [netV G, natV i, natV j] D = some (optV (G.hue i j), false, D) := by
  rw [callF_succ h.hue_of rfl]
  have e := c_sorted_pair h n i j D
  have e2 : snapV D.length D (optV (G.hue i j)) = some (optV (G.hue i j)) := by cases G.hue i j <;> rfl
  simp [f_Net_hue_of, exSs, exS, evE, evEs, start, deref, netV, h.cls, c_Net, lookN, bmTy, bmV, e, keyFits_hues, dFind_hues, optV_map]
  show finish false D.length (optV (G.hue i j)) false D = _
  cases G.hue i j <;> simp [optV, finish, snapV]
end
end HT
namespace HT
section
variable {T : Tab}
theorem Nt.hue_mem {G : Nt} {i j c : Nat} (h : G.hue i j = some c) : ∃ q ∈ G.rs, q.1 = min i j ∧ q.2.1 = max i j ∧ q.2.2 = c := by
  unfold Nt.hue hueAt at h
  obtain ⟨q, h1, h2⟩ := Option.map_eq_some_iff.mp h
  have h3 := List.find?_some h1
  simp only [Bool.and_eq_true, beq_iff_eq] at h3
  exact ⟨q, List.mem_of_find?_eq_some h1, h3.1, h3.2, h2⟩
theorem snap_opt (n : Nat) (D : Hs) (o : Option Nat) : snapV n D (optV o) = some (optV o) := by cases o <;> simp [optV, snapV]
theorem snap_step (n : Nat) (D : Hs) : ∀ l : List (Nat × Nat), snapAll n D (l.map stepV) = some (l.map stepV)
  | [] => by simp [snapAll]
  | q :: r => by simp [snapAll, snapV, snap_step n D r]
theorem c_steps (h : HasNets T) (n : Nat) (G : Nt) (ok : G.Ok) (p : Nat) (D : Hs) : callF T (n + 3) 25 [netV G, natV p] D = some (.lst ((G.steps p).map stepV), true, D) := by
  have n9 := ok.n9
  have e : ∀ o, callF T (n + 2) 23 [netV G, natV p, natV o] D = some (optV (G.hue p o), false, D) := fun o => c_hue_of h n G p o D
  have hz : (G.n : Int).toNat = G.n := by omega
  have i1 : evE T (callF T (n + 2)) (.rng1 (.attr 0 (.var 0))) [some (netV G), some (natV p), none, none, none] D = some (.lst ((List.range G.n).map natV), false, D) := by
    simp [evE, deref, netV, h.cls, c_Net, lookN, hz, rangeL_zero]
    omega
  have s1 := e_lc (T := T) (cf := callF T (n + 2)) (own := [3]) (t := .name 3) (conds := []) (elt := .tupE [(.var 3), (.meth 5 (.var 0) [(.var 1), (.var 3)])]) (enc := natV) (xs := List.range G.n)
    (fun o => [some (netV G), some (natV p), none, some (natV o), none]) (fun _ => true) (fun o => PV.tup [natV o, optV (G.hue p o)]) i1 (by simp) rfl (fun o _ => by simp [tgtV, wipeR]) (fun o _ => by simp [evTs]) (fun o _ _ => ⟨false, by
      have eo := e o
      unfold netV at eo
      simp [evE, evEs, deref, netV, h.cls, c_Net, lookN, eo, sizeL]⟩) (by simp [sizeL]; omega)
  have i2 : evE T (callF T (n + 2)) (.var 2) [some (netV G), some (natV p), some (.lst ((List.range G.n).map fun o => PV.tup [natV o, optV (G.hue p o)])), none, none] D = some (.lst ((List.range G.n).map fun o => PV.tup [natV o, optV (G.hue p o)]), false, D) := by
    simp [evE]
  have s2 := e_lc (T := T) (cf := callF T (n + 2)) (own := [4]) (t := .name 4) (conds := [(.isN (.sub (.var 4) (.cst (.int 1))) false)]) (elt := .var 4) (enc := fun o => PV.tup [natV o, optV (G.hue p o)]) (xs := List.range G.n)
    (fun o => [some (netV G), some (natV p), some (.lst ((List.range G.n).map fun o => PV.tup [natV o, optV (G.hue p o)])), none, some (PV.tup [natV o, optV (G.hue p o)])]) (fun o => (G.hue p o).isSome) (fun o => PV.tup [natV o, optV (G.hue p o)]) i2 (by simp) rfl (fun o _ => by simp [tgtV, wipeR])
    (fun o _ => by cases q : G.hue p o <;> simp [evTs, evE, deref, subV, atIx, q, optV, isNon, truth]) (fun o _ _ => ⟨false, by simp [evE]⟩) (by simp [sizeL]; omega)
  have fin : ((List.range G.n).filter fun o => (G.hue p o).isSome).map (fun o => PV.tup [natV o, optV (G.hue p o)]) = (G.steps p).map stepV := by
    unfold Nt.steps
    generalize List.range G.n = l
    induction l with
    | nil => rfl
    | cons o l ih =>
      cases q : G.hue p o with
      | none => simp [List.filter_cons, List.filterMap_cons, q, ih]
      | some c =>
        simp only [List.filter_cons, List.filterMap_cons, q, Option.isSome_some, if_true, List.map_cons, Option.map_some, ih]
        rfl
  rw [fin] at s2
  rw [List.filter_eq_self.mpr (fun _ _ => rfl)] at s1
  exact f_ret h.steps rfl (x_next (x_set s1) (x_stop (x_ret s2))) (by simp [f_Net_steps, finish, snapV, snap_step])
theorem c_check_net (h : HasNets T) (n : Nat) (G : Nt) (D : Hs) : callF T (n + 1) 37 [netV G] D = some (.non, false, D) := by
  rw [callF_succ h.check_net rfl]
  simp [f_check_net, exSs, exS, evE, start, deref, netV, isV, isTy, tyIn, h.cls, truth, finish, snapV]
theorem c_check_place (h : HasNets T) (n : Nat) (G : Nt) (p : Nat) (hp : p < G.n) (D : Hs) : callF T (n + 3) 21 [netV G, natV p] D = some (.non, false, D) := by
  rw [callF_succ h.check_place rfl]
  have e := c_is_between h n p 0 (G.n - 1) D
  have b : ((0 : Int) ≤ (p : Int) ∧ (p : Int) ≤ (G.n : Int) - 1) := by omega
  rw [decide_eq_true b] at e
  simp [f_Net_check_place, exSs, exS, evE, evEs, start, deref, netV, h.cls, c_Net, lookN, binV, e, truth, finish, snapV]
theorem c_is_road (h : HasNets T) (n : Nat) (m : Nat) (q : Road) (ok : roadOk m q) (D : Hs) : callF T (n + 3) 9 [roadV q, natV m] D = some (.bl true, false, D) := by
  rw [callF_succ h.is_road rfl]
  obtain ⟨o1, o2, o3⟩ := ok
  have e1 := c_is_between h n q.1 0 ((m : Int) - 1) D
  have e2 := c_is_between h n q.2.1 ((q.1 : Int) + 1) ((m : Int) - 1) D
  have e3 := c_is_hue h (n + 1) q.2.2 o3 D
  rw [decide_eq_true (by omega)] at e1 e2
  simp [f_is_road, exSs, exS, evE, evEs, start, deref, isV, isTy, tyIn, truth, bltV, lenV, cmpV, eqR, PV.data, PV.depth, PV.eqv, subV, atIx, binV, addV, e1, e2, e3, finish, snapV]
theorem pure_roads : ∀ rs : List Road, pureAll (rs.map roadV) = true
  | [] => rfl
  | q :: r => by simp [pureAll, PV.pure, pure_roads r]
theorem pure_hues : ∀ rs : List Road, pureKv (huesV rs) = true
  | [] => rfl
  | q :: r => by
    have ih := pure_hues r
    unfold huesV at ih
    simp [huesV, pureKv, PV.pure, pureAll, ih]
theorem slice2 (q : Road) : sliceL [natV q.1, natV q.2.1, chV q.2.2] none (some 2) = [natV q.1, natV q.2.1] := by
  simp [sliceL, clampIx]
theorem le_roads {a b : Road} (h : pairLt a b) : leR (.tup [natV b.1, natV b.2.1]) (.tup [natV a.1, natV a.2.1]) = some false := by
  have e1 : ordOk [natV b.1, natV b.2.1] [natV a.1, natV a.2.1] = true := by
    simp [ordOk, dataAll, PV.data, alikeAll, PV.alike, depthAll, PV.depth]
  have e2 : ltAll [natV a.1, natV a.2.1] [natV b.1, natV b.2.1] = true := by
    rcases h with h | ⟨h1, h2⟩
    · have ne : ((a.1 : Int) == (b.1 : Int)) = false := by
        rw [Bool.eq_false_iff]; intro z; rw [beq_iff_eq] at z; omega
      simp [ltAll, PV.eqv, PV.lt, ne]
      omega
    · have ne : ((a.2.1 : Int) == (b.2.1 : Int)) = false := by
        rw [Bool.eq_false_iff]; intro z; rw [beq_iff_eq] at z; omega
      simp [ltAll, PV.eqv, PV.lt, h1, ne]
      omega
  simp only [leR, e1, e2]
  rfl
theorem roads_loop (h : HasNets T) (n m : Nat) (D : Hs) (all : List Road) (ok : ∀ q ∈ all, roadOk m q) (asc : all.Pairwise pairLt) : ∀ (suf pre : List Road) (o2 o3 : Option PV), all = pre ++ suf →
    ∃ o2' o3', forL (fun x r D => match tgtV (.names [2, 3]) x r with
      | none => none
      | some r' => exSs T (callF T (n + 3)) [.ifS (.orE (.notE (.call 9 [(.var 3), (.var 1)])) (.andE (.cmp .gt (.var 2) (.cst (.int 0))) (.cmp .le (.slice (.var 3) none (some (.cst (.int 2)))) (.slice (.sub (.var 0) (.bin .sub (.var 2) (.cst (.int 1)))) none (some (.cst (.int 2))))))) [.bad] []] r' D)
      (enumL (pre.length : Int) (suf.map roadV)) [some (.tup (all.map roadV)), some (natV m), o2, o3] D = some (.next, [some (.tup (all.map roadV)), some (natV m), o2', o3'], D)
  | [], pre, o2, o3, _ => ⟨o2, o3, by simp [enumL, forL]⟩
  | q :: suf, pre, o2, o3, e => by
    have hq : q ∈ all := by rw [e]; simp
    have e9 := c_is_road h n m q (ok q hq) D
    obtain ⟨o2', o3', ih⟩ := roads_loop h n m D all ok asc suf (pre ++ [q]) (some (natV pre.length)) (some (roadV q)) (by rw [e]; simp)
    refine ⟨o2', o3', ?_⟩
    have st : exSs T (callF T (n + 3)) [.ifS (.orE (.notE (.call 9 [(.var 3), (.var 1)])) (.andE (.cmp .gt (.var 2) (.cst (.int 0))) (.cmp .le (.slice (.var 3) none (some (.cst (.int 2)))) (.slice (.sub (.var 0) (.bin .sub (.var 2) (.cst (.int 1)))) none (some (.cst (.int 2))))))) [.bad] []] [some (.tup (all.map roadV)), some (natV m), some (natV pre.length), some (roadV q)] D = some (.next, [some (.tup (all.map roadV)), some (natV m), some (natV pre.length), some (roadV q)], D) := by
      have cond : evE T (callF T (n + 3)) (.orE (.notE (.call 9 [(.var 3), (.var 1)])) (.andE (.cmp .gt (.var 2) (.cst (.int 0))) (.cmp .le (.slice (.var 3) none (some (.cst (.int 2)))) (.slice (.sub (.var 0) (.bin .sub (.var 2) (.cst (.int 1)))) none (some (.cst (.int 2))))))) [some (.tup (all.map roadV)), some (natV m), some (natV pre.length), some (roadV q)] D = some (.bl false, false, D) := by
        rcases List.eq_nil_or_concat pre with rfl | ⟨pre', b, rfl⟩
        · simp [evE, evEs, e9, deref, truth, cmpV, gtR]
        · have lt : pairLt b q := by
            rw [e] at asc
            have := (List.pairwise_append.mp asc).2.2 b (by simp) q (by simp)
            exact this
          have at_ : (all.map roadV)[pre'.length]? = some (roadV b) := by
            rw [List.getElem?_map, e]
            simp
          have ix : atIx (all.map roadV).length (((pre'.length + 1 : Nat) : Int) - 1) = some pre'.length := by
            have hl : pre'.length < (all.map roadV).length := (List.getElem?_eq_some_iff.mp at_).1
            unfold atIx
            rw [if_pos (by omega)]; rw [if_pos (by omega)]
            congr 1
            omega
          have lr := le_roads lt
          have p0 : decide ((0 : Int) < ((pre'.length + 1 : Nat) : Int)) = true := decide_eq_true (by omega)
          simp only [evE, evEs, evO, e9, deref, truth, cmpV, gtR, List.concat_eq_append, List.length_append, List.length_singleton, List.getElem?_cons_succ, List.getElem?_cons_zero, Option.map_some, p0, binV, subV, ix, Option.bind_some, at_, sliceV, ixOf, sliceI, slice2, lr, Bool.not_true]
      exact x_next (x_if cond rfl rfl) rfl
    simp only [List.map_cons, enumL, forL, tgtV, setAll, List.set_cons_succ, List.set_cons_zero]
    rw [st]
    have hl : ((pre ++ [q]).length : Int) = (pre.length : Int) + 1 := by simp
    rw [hl] at ih
    exact ih
end
end HT
namespace HT
section
variable {T : Tab}
theorem top_get (D : Hs) (o : DO) : (D ++ [o])[D.length]? = some o := by simp
theorem top_set (D : Hs) (o o' : DO) : (D ++ [o]).set D.length o' = D ++ [o'] := by simp [List.set_append]
theorem top_take (D : Hs) (o : DO) : (D ++ [o]).take D.length = D := by simp
theorem c_check_roads (h : HasNets T) (n m : Nat) (D : Hs) (all : List Road) (ok : ∀ q ∈ all, roadOk m q) (asc : all.Pairwise pairLt) : callF T (n + 4) 10 [.tup (all.map roadV), natV m] D = some (.non, false, D) := by
  obtain ⟨o2, o3, e⟩ := roads_loop h n m D all ok asc all [] none none rfl
  refine f_end h.check_roads rfl (r1 := [some (.tup (all.map roadV)), some (natV m), o2, o3]) (D1 := D) ?_ (by simp [f_check_roads, finish, snapV])
  refine x_next (r1 := [some (.tup (all.map roadV)), some (natV m), none, none]) (D1 := D) (x_if (v := .bl false) (fr := false) (t := false) (D1 := D) (by simp [f_check_roads, start, evE, deref, isV, isTy, tyIn, truth]) rfl rfl) ?_
  refine x_next (x_for (src := .lst (enumL 0 (all.map roadV))) (fr := false) (D1 := D) (by simp [evE]) (by simp) rfl e) rfl
theorem hues_any {a : Road} : ∀ {pre : List Road}, (∀ b ∈ pre, pairLt b a) → ((huesV pre).any fun q => q.1.eqv (pairK a.1 a.2.1)) = false
  | [], _ => rfl
  | b :: pre, h => by
    have ih := hues_any (a := a) (pre := pre) fun c hc => h c (by simp [hc])
    have hb := h b (by simp)
    unfold huesV at ih ⊢
    rw [List.map_cons, List.any_cons, ih, Bool.or_false]
    show (((b.1 : Int) == (a.1 : Int)) && (((b.2.1 : Int) == (a.2.1 : Int)) && true)) = false
    rw [Bool.eq_false_iff]
    intro z
    simp only [Bool.and_true, Bool.and_eq_true, beq_iff_eq] at z
    rcases hb with hb | hb <;> omega
theorem dc_loop {cf : CallFn} {r : Rho} {D : Hs} {a0 a1 a2 : Option PV} : ∀ (suf pre : List Road), (pre ++ suf).Pairwise pairLt → (pre ++ suf).length < sizeL →
    dcL (fun x D => match tgtV (.names [3, 4, 5]) x (wipeR [a0, a1, a2, none, none, none] [3, 4, 5]) with
        | none => none
        | some r' => match evE T cf (.tupE [(.var 3), (.var 4)]) r' D with
          | none => none
          | some (kv, _, D') => match evE T cf (.var 5) r' D' with
            | none => none
            | some (vv, _, D2) => some (kv, vv, D2)) (suf.map roadV) (huesV pre) D = some (huesV (pre ++ suf), D)
  | [], pre, _, _ => by simp [dcL]
  | q :: suf, pre, asc, hl => by
    have ih := dc_loop (cf := cf) (r := r) (D := D) (a0 := a0) (a1 := a1) (a2 := a2) suf (pre ++ [q]) (by simpa using asc) (by simpa using hl)
    have hany : ((huesV pre).any fun z => z.1.eqv (pairK q.1 q.2.1)) = false := hues_any fun b hb => (List.pairwise_append.mp asc).2.2 b hb q (by simp)
    have hput : dPut (pairK q.1 q.2.1) (chV q.2.2) (huesV pre) = huesV (pre ++ [q]) := by
      unfold dPut
      rw [if_neg (by rw [hany]; simp)]
      simp [huesV]
    have hlen : (huesV pre).length < sizeL := by
      unfold huesV
      rw [List.length_map]
      simp only [List.length_append] at hl
      omega
    simp only [List.map_cons, dcL, tgtV, setAll, wipeR, List.set_cons_succ, List.set_cons_zero, evE, evEs, List.getElem?_cons_succ, List.getElem?_cons_zero]
    rw [show ([natV q.1, natV q.2.1] : List PV).length = 2 from rfl, if_pos (by decide)]
    simp only [keyFits_hues, Bool.true_and, decide_eq_true hlen, if_true, hput]
    rw [List.append_assoc] at ih
    exact ih
theorem lt_len {l : List Road} {m : Nat} (ok : ∀ q ∈ l, roadOk m q) (asc : l.Pairwise pairLt) : l.length ≤ m * m := by
  have inj : (l.map fun q => q.1 * m + q.2.1).Pairwise (· < ·) := by
    rw [List.pairwise_map]
    refine asc.imp_of_mem fun {a b} ha hb h => ?_
    have oa := ok a ha
    have ob := ok b hb
    rcases h with h | ⟨h1, h2⟩
    · have : (a.1 + 1) * m ≤ b.1 * m := Nat.mul_le_mul_right m h
      rw [Nat.add_mul, Nat.one_mul] at this
      have := oa.2.1
      omega
    · rw [h1]; omega
  have bd : ∀ x ∈ l.map (fun q => q.1 * m + q.2.1), x < m * m := by
    intro x hx
    obtain ⟨q, hq, rfl⟩ := List.mem_map.mp hx
    have o := ok q hq
    have : (q.1 + 1) * m ≤ m * m := Nat.mul_le_mul_right m (by have := o.1; have := o.2.1; omega)
    rw [Nat.add_mul, Nat.one_mul] at this
    have := o.2.1
    omega
  have gen : ∀ (k : Nat) (l : List Nat), l.Pairwise (· < ·) → (∀ x ∈ l, x < k) → l.length ≤ k := by
    intro k
    induction k with
    | zero =>
      intro l _ hl
      cases l with
      | nil => simp
      | cons x r => exact absurd (hl x (by simp)) (by omega)
    | succ k ih =>
      intro l hp hl
      rcases List.eq_nil_or_concat l with rfl | ⟨l', x, rfl⟩
      · simp
      · rw [List.concat_eq_append] at hp hl ⊢
        have := ih l' (List.pairwise_append.mp hp).1 (fun y hy => by
          have h1 := (List.pairwise_append.mp hp).2.2 y hy x (by simp)
          have h2 := hl x (by simp)
          omega)
        simp only [List.length_singleton, List.length_append]
        omega
  have := gen (m * m) _ inj bd
  rw [List.length_map] at this
  exact this
/-- Net(size, roads) -/
theorem e_net (h : HasNets T) (n : Nat) (G : Nt) (ok : G.Ok) {r : Rho} {es : List CE} {D0 D : Hs} (he : evEs T (callF T (n + 5)) es r D0 = some ([natV G.n, .tup (G.rs.map roadV)], D)) : evE T (callF T (n + 5)) (.mk 0 es) r D0 = some (netV G, false, D) := by
  have n9 := ok.n9
  have n1 := ok.n1
  have hl : G.rs.length < sizeL := by
    have := lt_len ok.rd ok.asc
    have : G.n * G.n ≤ 9 * 9 := Nat.mul_le_mul n9 n9
    unfold sizeL
    omega
  have ini : callF T (n + 5) 17 [.ref D.length, natV G.n, .tup (G.rs.map roadV)] (D ++ [.obj 0 []]) = some (.non, false, D ++ [.obj 0 [(0, natV G.n), (1, .tup (G.rs.map roadV)), (2, .dct (huesV G.rs))]]) := by
    have e1 := c_is_between h (n + 2) G.n 1 9 (D ++ [.obj 0 []])
    rw [decide_eq_true (by omega)] at e1
    have e2 := c_check_roads h n G.n (D ++ [.obj 0 []]) G.rs ok.rd ok.asc
    have dc := dc_loop (T := T) (cf := callF T (n + 4)) (r := []) (D := D ++ [.obj 0 [(0, natV G.n), (1, .tup (G.rs.map roadV))]]) (a0 := some (.ref D.length)) (a1 := some (natV G.n)) (a2 := some (.tup (G.rs.map roadV))) G.rs [] ok.asc hl
    have fin : finish false (D ++ [DO.obj 0 []]).length .non false (D ++ [.obj 0 [(0, natV G.n), (1, .tup (G.rs.map roadV)), (2, .dct (huesV G.rs))]]) = some (.non, false, D ++ [.obj 0 [(0, natV G.n), (1, .tup (G.rs.map roadV)), (2, .dct (huesV G.rs))]]) := by
      have ht : (D ++ [DO.obj 0 [(0, natV G.n), (1, .tup (G.rs.map roadV)), (2, .dct (huesV G.rs))]]).take (D ++ [DO.obj 0 []]).length = D ++ [.obj 0 [(0, natV G.n), (1, .tup (G.rs.map roadV)), (2, .dct (huesV G.rs))]] := List.take_of_length_le (by simp)
      simp only [finish, snapV, Option.map_some, ht, Bool.false_eq_true, if_false]
    refine f_end h.init rfl (r1 := [some (.ref D.length), some (natV G.n), some (.tup (G.rs.map roadV)), none, none, none]) ?_ fin
    refine x_next (D1 := D ++ [.obj 0 []]) (r1 := [some (.ref D.length), some (natV G.n), some (.tup (G.rs.map roadV)), none, none, none]) (x_if (v := .bl false) (fr := false) (t := false) (D1 := D ++ [.obj 0 []]) ?_ rfl rfl) ?_
    · simp [f_Net___init__, start, evE, evEs, e1, deref, truth]
    refine x_next (D1 := D ++ [.obj 0 []]) (r1 := [some (.ref D.length), some (natV G.n), some (.tup (G.rs.map roadV)), none, none, none]) (x_expr (v := .non) (fr := false) ?_) ?_
    · simp [evE, evEs, e2]
    refine x_next (D1 := D ++ [.obj 0 [(0, natV G.n)]]) (r1 := [some (.ref D.length), some (natV G.n), some (.tup (G.rs.map roadV)), none, none, none]) ?_ ?_
    · simp [exS, evE, PV.pure, h.cls, c_Net, putN]
    refine x_next (D1 := D ++ [.obj 0 [(0, natV G.n), (1, .tup (G.rs.map roadV))]]) (r1 := [some (.ref D.length), some (natV G.n), some (.tup (G.rs.map roadV)), none, none, none]) ?_ ?_
    · simp [exS, evE, PV.pure, pure_roads, h.cls, c_Net, putN]
    refine x_next (D1 := D ++ [.obj 0 [(0, natV G.n), (1, .tup (G.rs.map roadV)), (2, .dct (huesV G.rs))]]) (r1 := [some (.ref D.length), some (natV G.n), some (.tup (G.rs.map roadV)), none, none, none]) ?_ rfl
    have ev : evE T (callF T (n + 4)) (.dc [3, 4, 5] (.names [3, 4, 5]) (.var 2) (.tupE [(.var 3), (.var 4)]) (.var 5)) [some (.ref D.length), some (natV G.n), some (.tup (G.rs.map roadV)), none, none, none] (D ++ [.obj 0 [(0, natV G.n), (1, .tup (G.rs.map roadV))]]) = some (.dct (huesV G.rs), true, D ++ [.obj 0 [(0, natV G.n), (1, .tup (G.rs.map roadV))]]) := by
      unfold evE
      simp only [evE, List.getElem?_cons_succ, List.getElem?_cons_zero, itemsOf]
      exact congrArg (Option.map fun z : List (PV × PV) × Hs => (PV.dct z.1, true, z.2)) dc
    unfold exS
    simp only [ev]
    simp [evE, PV.pure, pure_hues, h.cls, c_Net, putN]
  unfold evE
  simp only [he, h.cls]
  simp only [c_Net] at ini ⊢
  rw [ini]
  simp [netV]
end
end HT
/-! ways: what the package's defs do -/
namespace HT
abbrev Way := List Nat × Option Nat
abbrev placesV (p : List Nat) : PV := .tup (p.map natV)
abbrev wayV (w : Way) : PV := .tup [placesV w.1, optV w.2]
def hueOk (o : Option Nat) : Prop := ∀ c, o = some c → 97 ≤ c ∧ c ≤ 102
def wantB (h first : Option Nat) (c : Nat) : Bool := match h with
  | some k => c != k
  | none => match first with
    | none => true
    | some f => f == c
def ext (p : List Nat) (h first : Option Nat) (l : List (Nat × Nat)) : List Way := l.filterMap fun q => if wantB h first q.2 && !p.contains q.1 then some (p ++ [q.1], some q.2) else none
def lastN (p : List Nat) : Nat := p.getLastD 0
def longerM (G : Nt) (first : Option Nat) (ws : List Way) : List Way := ws.flatMap fun w => ext w.1 w.2 first (G.steps (lastN w.1))
structure HasWays (T : Tab) : Prop where
  check_ends : T.fns 68 = some f_check_ends
  check_wanted : T.fns 69 = some f_check_wanted
  longer : T.fns 70 = some f_longer
  ending : T.fns 71 = some f_ending
  ways : T.fns 73 = some f_ways
theorem dataAll_nat : ∀ p : List Nat, dataAll (p.map natV) = true
  | [] => rfl
  | x :: p => by simp [dataAll, PV.data, dataAll_nat p]
theorem pureAll_nat : ∀ p : List Nat, pureAll (p.map natV) = true
  | [] => rfl
  | x :: p => by simp [pureAll, PV.pure, pureAll_nat p]
theorem pureAll_two : ∀ {a b : List PV}, pureAll (a ++ b) = (pureAll a && pureAll b)
  | [], b => by simp [pureAll]
  | x :: a, b => by simp [pureAll, pureAll_two (a := a), Bool.and_assoc]
theorem depthAll_nat : ∀ p : List Nat, depthAll (p.map natV) = 0
  | [] => rfl
  | x :: p => by simp [depthAll, PV.depth, depthAll_nat p]
theorem memV_nat (o : Nat) : ∀ p : List Nat, memV (natV o) (p.map natV) = p.contains o
  | [] => rfl
  | x :: p => by
    rw [List.map_cons, memV, memV_nat o p, List.contains_cons]
    congr 1
    show ((x : Int) == (o : Int)) = (o == x)
    by_cases e : o = x
    · subst e; simp
    · have e2 : ¬ (x : Int) = (o : Int) := by omega
      rw [beq_eq_false_iff_ne.mpr e2, beq_eq_false_iff_ne.mpr e]
theorem pure_opt (h : Option Nat) : (optV h).pure = true := by cases h <;> rfl
theorem data_opt (h : Option Nat) : (optV h).data = true := by cases h <;> rfl
theorem depth_opt (h : Option Nat) : (optV h).depth = 0 := by cases h <;> rfl
theorem last_ix {p : List Nat} (h : p ≠ []) : subV (placesV p) (.int (-1)) = some (natV (lastN p)) := by
  obtain ⟨l, x, rfl⟩ := (List.eq_nil_or_concat p).resolve_left h
  have e : atIx (List.map natV (l.concat x)).length (-1) = some l.length := by
    simp [atIx]
    omega
  unfold subV
  simp only [placesV, e, Option.bind_some]
  simp [lastN]
section
variable {T : Tab}
theorem c_check_ends (h : HasNets T) (w : HasWays T) (n : Nat) (G : Nt) (s g : Nat) (hs : s < G.n) (hg : g < G.n) (ne : g ≠ s) (D : Hs) : callF T (n + 4) 68 [netV G, natV s, natV g] D = some (.non, false, D) := by
  have e1 := c_check_net h (n + 2) G D
  have e2 := c_check_place h n G s hs D
  have e3 := c_check_place h n G g hg D
  unfold netV at e1 e2 e3
  have ne2 : ((g : Int) == (s : Int)) = false := by
    rw [Bool.eq_false_iff]; intro z; rw [beq_iff_eq] at z; omega
  rw [callF_succ w.check_ends rfl]
  simp [f_check_ends, exSs, exS, evE, evEs, start, deref, netV, h.cls, c_Net, lookN, e1, e2, e3, cmpV, eqR, PV.data, PV.depth, PV.eqv, ne2, truth, finish, snapV]
theorem c_check_wanted (h : HasNets T) (w : HasWays T) (n : Nat) (a b : Option Nat) (ha : hueOk a) (hb : hueOk b) (D : Hs) : callF T (n + 2) 69 [optV a, optV b] D = some (.non, false, D) := by
  rw [callF_succ w.check_wanted rfl]
  have ea : ∀ c, a = some c → callF T (n + 1) 7 [chV c] D = some (.bl true, false, D) := fun c e => c_is_hue h n c (ha c e) D
  have eb : ∀ c, b = some c → callF T (n + 1) 7 [chV c] D = some (.bl true, false, D) := fun c e => c_is_hue h n c (hb c e) D
  cases a with
  | none =>
    cases b with
    | none => simp [f_check_wanted, exSs, exS, evE, evEs, start, optV, sizeL, runF, itemsOf, forL, tgtV, isNon, truth, deref, finish, snapV]
    | some d =>
      have e := eb d rfl
      simp [f_check_wanted, exSs, exS, evE, evEs, start, optV, sizeL, runF, itemsOf, forL, tgtV, isNon, truth, deref, finish, snapV, e]
  | some c =>
    have e := ea c rfl
    cases b with
    | none => simp [f_check_wanted, exSs, exS, evE, evEs, start, optV, sizeL, runF, itemsOf, forL, tgtV, isNon, truth, deref, finish, snapV, e]
    | some d =>
      have e' := eb d rfl
      simp [f_check_wanted, exSs, exS, evE, evEs, start, optV, sizeL, runF, itemsOf, forL, tgtV, isNon, truth, deref, finish, snapV, e, e']
theorem in_first (f : Option Nat) (c : Nat) : cmpV .inn (optV f) (.tup [.non, chV c]) = some (match f with
    | none => true
    | some k => k == c) := by
  cases f with
  | none => simp [cmpV, inV, optV, PV.data, dataAll, PV.depth, memV, PV.eqv]
  | some k =>
    simp only [cmpV, inV, optV, PV.data, dataAll, PV.depth, memV, PV.eqv, Bool.and_true, Bool.true_and, Bool.false_or, Bool.or_false]
    by_cases e : k = c
    · subst e; simp
    · have e' : ¬ c = k := fun z => e z.symm
      simp [beq_eq_false_iff_ne.mpr e, beq_eq_false_iff_ne.mpr e']
theorem wanted_ev {cf : CallFn} {r : Rho} {D : Hs} {h first : Option Nat} {c : Nat} (h5 : r[5]? = some (some (optV h))) (h2 : r[2]? = some (some (optV first))) (h7 : r[7]? = some (some (chV c))) :
    evE T cf (.ite (.isN (.var 5) false) (.cmp .ne (.var 7) (.var 5)) (.cmp .inn (.var 2) (.tupE [(.cst .non), (.var 7)]))) r D = some (.bl (wantB h first c), false, D) := by
  cases h with
  | none =>
    have e := in_first first c
    have d : deref D (optV first) = optV first := by cases first <;> rfl
    simp only [optV] at h5
    have d2 : deref D .non = .non := rfl
    have d3 : ∀ ys, deref D (.tup ys) = .tup ys := fun _ => rfl
    have d4 : ∀ b, deref D (.bl b) = .bl b := fun _ => rfl
    simp only [evE, evEs, h5, h2, h7, isNon, d4, truth, List.length_cons, List.length_nil, d, d3, e, wantB, beq_iff_eq, Bool.true_eq_false, decide_false]
    rw [if_pos (by decide)]
    simp only [d, d3, e]
    cases first <;> rfl
  | some k =>
    simp only [optV] at h5
    simp only [evE, h5, h7, isNon, truth, deref, cmpV, eqR, PV.data, PV.depth, PV.eqv, wantB]
    by_cases e : c = k <;> simp [e, bne]
theorem longer_in (first : Option Nat) (cf : CallFn) (D : Hs) (p : List Nat) (hh : Option Nat) (NV W : PV) : ∀ (l : List (Nat × Nat)) (acc : List Way) (o6 o7 o8 : Option PV), acc.length + l.length < sizeL → p.length < 100 →
    ∃ o6' o7' o8', forL (fun x r D => match tgtV (.names [6, 7]) x r with
      | none => none
      | some r' => exSs T cf [.set 8 (.ite (.isN (.var 5) false) (.cmp .ne (.var 7) (.var 5)) (.cmp .inn (.var 2) (.tupE [(.cst .non), (.var 7)]))), .ifS (.andE (.var 8) (.cmp .nin (.var 6) (.var 4))) [.expr (.mut .append (.var 3) [(.tupE [(.tupS [true, false] [(.var 4), (.var 6)]), (.var 7)])])] []] r' D)
      (l.map stepV) [some NV, some W, some (optV first), some (.ref D.length), some (placesV p), some (optV hh), o6, o7, o8] (D ++ [.lst (acc.map wayV)]) = some (.next, [some NV, some W, some (optV first), some (.ref D.length), some (placesV p), some (optV hh), o6', o7', o8'], D ++ [.lst ((acc ++ ext p hh first l).map wayV)])
  | [], acc, o6, o7, o8, _, _ => ⟨o6, o7, o8, by simp [forL, ext]⟩
  | q :: l, acc, o6, o7, o8, hl, hp => by
    simp only [List.length_cons] at hl
    obtain ⟨o, c⟩ := q
    have wv := wanted_ev (T := T) (cf := cf) (r := [some NV, some W, some (optV first), some (.ref D.length), some (placesV p), some (optV hh), some (natV o), some (chV c), o8]) (D := D ++ [.lst (acc.map wayV)]) (h := hh) (first := first) (c := c) rfl rfl rfl
    have nin : cmpV .nin (natV o) (placesV p) = some (!p.contains o) := by
      simp [cmpV, inV, PV.data, dataAll_nat, PV.depth, memV_nat]
    cases hw : wantB hh first c && !p.contains o with
    | true =>
      rw [Bool.and_eq_true] at hw
      obtain ⟨w1, w2⟩ := hw
      obtain ⟨a1, a2, a3, ih⟩ := longer_in first cf D p hh NV W l (acc ++ [(p ++ [o], some c)]) (some (natV o)) (some (chV c)) (some (.bl true)) (by simp; omega) hp
      refine ⟨a1, a2, a3, ?_⟩
      have st : exSs T cf [.set 8 (.ite (.isN (.var 5) false) (.cmp .ne (.var 7) (.var 5)) (.cmp .inn (.var 2) (.tupE [(.cst .non), (.var 7)]))), .ifS (.andE (.var 8) (.cmp .nin (.var 6) (.var 4))) [.expr (.mut .append (.var 3) [(.tupE [(.tupS [true, false] [(.var 4), (.var 6)]), (.var 7)])])] []] [some NV, some W, some (optV first), some (.ref D.length), some (placesV p), some (optV hh), some (natV o), some (chV c), o8] (D ++ [.lst (acc.map wayV)]) = some (.next, [some NV, some W, some (optV first), some (.ref D.length), some (placesV p), some (optV hh), some (natV o), some (chV c), some (.bl true)], D ++ [.lst ((acc ++ [(p ++ [o], some c)]).map wayV)]) := by
        refine x_next (x_set wv) ?_
        rw [w1]
        simp only [List.set_cons_succ, List.set_cons_zero]
        refine x_next (x_if (v := .bl true) (fr := false) (t := true) (D1 := D ++ [.lst (acc.map wayV)]) ?_ rfl (x_next (x_expr (v := .non) (fr := false) ?_) rfl)) rfl
        · simp only [evE, List.getElem?_cons_succ, List.getElem?_cons_zero, deref, truth, nin, w2, Option.map_some]
        · have hpl : (p.map natV ++ [natV o]).length ≤ sizeL := by simp [sizeL]; omega
          have hac : acc.length < sizeL := by omega
          simp only [evE, List.getElem?_cons_succ, List.getElem?_cons_zero, top_get, evEs, evSs, deref, starB, if_true, seqOf, List.tail_cons, Bool.false_eq_true, if_false, hpl, List.length_cons, List.length_nil]
          rw [if_pos (by decide)]
          simp [mutV, PV.pure, pureAll, pureAll_two, pureAll_nat, hac, optV]
      simp only [List.map_cons, forL, tgtV, setAll, List.set_cons_succ, List.set_cons_zero]
      rw [st]
      have ee : ext p hh first ((o, c) :: l) = (p ++ [o], some c) :: ext p hh first l := by
        unfold ext
        rw [List.filterMap_cons]
        simp only [w1, w2, Bool.and_self, if_true]
      rw [ee]
      rw [List.append_assoc] at ih
      exact ih
    | false =>
      obtain ⟨a1, a2, a3, ih⟩ := longer_in first cf D p hh NV W l acc (some (natV o)) (some (chV c)) (some (.bl (wantB hh first c))) (by omega) hp
      refine ⟨a1, a2, a3, ?_⟩
      have st : exSs T cf [.set 8 (.ite (.isN (.var 5) false) (.cmp .ne (.var 7) (.var 5)) (.cmp .inn (.var 2) (.tupE [(.cst .non), (.var 7)]))), .ifS (.andE (.var 8) (.cmp .nin (.var 6) (.var 4))) [.expr (.mut .append (.var 3) [(.tupE [(.tupS [true, false] [(.var 4), (.var 6)]), (.var 7)])])] []] [some NV, some W, some (optV first), some (.ref D.length), some (placesV p), some (optV hh), some (natV o), some (chV c), o8] (D ++ [.lst (acc.map wayV)]) = some (.next, [some NV, some W, some (optV first), some (.ref D.length), some (placesV p), some (optV hh), some (natV o), some (chV c), some (.bl (wantB hh first c))], D ++ [.lst (acc.map wayV)]) := by
        refine x_next (x_set wv) ?_
        simp only [List.set_cons_succ, List.set_cons_zero]
        refine x_next (x_if (v := .bl false) (fr := false) (t := false) (D1 := D ++ [.lst (acc.map wayV)]) ?_ rfl rfl) rfl
        cases w1 : wantB hh first c with
        | false => simp only [evE, List.getElem?_cons_succ, List.getElem?_cons_zero, deref, truth]
        | true =>
          rw [w1, Bool.true_and] at hw
          simp only [evE, List.getElem?_cons_succ, List.getElem?_cons_zero, deref, truth, nin, hw, Option.map_some]
      simp only [List.map_cons, forL, tgtV, setAll, List.set_cons_succ, List.set_cons_zero]
      rw [st]
      have ee : ext p hh first ((o, c) :: l) = ext p hh first l := by
        unfold ext
        rw [List.filterMap_cons]
        simp only [hw, Bool.false_eq_true, if_false]
      rw [ee]
      exact ih
end
end HT
namespace HT
theorem steps_len (G : Nt) (p : Nat) : (G.steps p).length ≤ G.n := by
  unfold Nt.steps
  exact Nat.le_trans (List.length_filterMap_le _ _) (by simp)
/-! sorting rows of places -/
def ltP : List Nat → List Nat → Bool
  | [], [] => false
  | [], _ :: _ => true
  | _ :: _, [] => false
  | x :: xs, y :: ys => if x = y then ltP xs ys else decide (x < y)
def insP (x : List Nat) : List (List Nat) → List (List Nat)
  | [] => [x]
  | y :: ys => if ltP y x then y :: insP x ys else x :: y :: ys
def sortP : List (List Nat) → List (List Nat)
  | [] => []
  | x :: xs => insP x (sortP xs)
theorem lt_places : ∀ a b : List Nat, ltAll (a.map natV) (b.map natV) = ltP a b
  | [], [] => rfl
  | [], _ :: _ => rfl
  | _ :: _, [] => rfl
  | x :: xs, y :: ys => by
    simp only [List.map_cons, ltAll, ltP, PV.eqv, PV.lt, lt_places xs ys]
    by_cases e : x = y
    · subst e; simp
    · have e2 : ((x : Int) == (y : Int)) = false := by
        rw [Bool.eq_false_iff]; intro z; rw [beq_iff_eq] at z; omega
      simp only [e2, Bool.false_eq_true, if_false, e]
      by_cases q : x < y
      · rw [decide_eq_true q, decide_eq_true (by omega)]
      · rw [decide_eq_false q, decide_eq_false (by omega)]
theorem ins_places (x : List Nat) : ∀ l : List (List Nat), ins (placesV x) (l.map placesV) = (insP x l).map placesV
  | [] => rfl
  | y :: l => by
    simp only [List.map_cons, ins, insP]
    have e : PV.lt (placesV y) (placesV x) = ltP y x := by
      simp only [PV.lt, lt_places]
    rw [e]
    cases ltP y x with
    | true => simp [ins_places x l]
    | false => simp
theorem isort_places : ∀ l : List (List Nat), isort (l.map placesV) = (sortP l).map placesV
  | [] => rfl
  | x :: l => by rw [List.map_cons, isort, isort_places l, sortP, ins_places]
theorem alike_nat : ∀ a b : List Nat, alikeAll (a.map natV) (b.map natV) = true
  | [], _ => by simp [alikeAll]
  | _ :: _, [] => by unfold alikeAll; simp
  | x :: a, y :: b => by simp [alikeAll, PV.alike, alike_nat a b]
theorem alike_pl (a b : List Nat) : (placesV a).alike (placesV b) = true := by
  have e : (PV.tup (a.map natV)).alike (.tup (b.map natV)) = alikeAll (a.map natV) (b.map natV) := by simp [PV.alike]
  rw [e, alike_nat]
theorem allAlike_places (l : List (List Nat)) : allAlike (l.map placesV) = true := by
  induction l with
  | nil => rfl
  | cons x l ih =>
    have h2 : ((l.map placesV).all fun y => (placesV x).alike y && y.alike (placesV x)) = true := by
      rw [List.all_eq_true]
      intro y hy
      obtain ⟨z, _, rfl⟩ := List.mem_map.mp hy
      rw [alike_pl, alike_pl]
      rfl
    show ((placesV x).alike (placesV x) && ((l.map placesV).all fun y => (placesV x).alike y && y.alike (placesV x)) && allAlike (l.map placesV)) = true
    rw [alike_pl, h2, ih]
    rfl
theorem dataAll_places : ∀ l : List (List Nat), dataAll (l.map placesV) = true
  | [] => rfl
  | x :: l => by simp [dataAll, PV.data, dataAll_nat, dataAll_places l]
theorem pureAll_places : ∀ l : List (List Nat), pureAll (l.map placesV) = true
  | [] => rfl
  | x :: l => by simp [pureAll, PV.pure, pureAll_nat, pureAll_places l]
theorem depthAll_places : ∀ l : List (List Nat), depthAll (l.map placesV) ≤ 1
  | [] => by simp [depthAll]
  | x :: l => by
    have := depthAll_places l
    simp only [List.map_cons, depthAll, PV.depth, depthAll_nat]
    omega
theorem sortable_places {l : List (List Nat)} (h : ∀ p ∈ l, p ≠ []) : sortable (l.map placesV) = true := by
  cases l with
  | nil => rfl
  | cons x l =>
    cases x with
    | nil => exact absurd rfl (h [] (by simp))
    | cons a x =>
      show ((l.map placesV).all fun z => match z with
        | .tup (_ :: _) => true
        | _ => false) = true
      rw [List.all_eq_true]
      intro y hy
      obtain ⟨z, hz, rfl⟩ := List.mem_map.mp hy
      cases z with
      | nil => exact absurd rfl (h [] (by simp [hz]))
      | cons b z => rfl
theorem sort_places {l : List (List Nat)} (h : ∀ p ∈ l, p ≠ []) (hl : l.length ≤ sizeL) : sortV (l.map placesV) = some ((sortP l).map placesV) := by
  unfold sortV
  have := depthAll_places l
  rw [dataAll_places, allAlike_places, sortable_places h, decide_eq_true (show depthAll (l.map placesV) ≤ 60 by omega), decide_eq_true (show (l.map placesV).length ≤ sizeL by rw [List.length_map]; exact hl)]
  simp [isort_places]
theorem insP_perm (x : List Nat) : ∀ l, (insP x l).Perm (x :: l)
  | [] => .refl _
  | y :: l => by
    unfold insP
    split
    · exact ((insP_perm x l).cons y).trans (.swap x y l)
    · exact .refl _
theorem sortP_perm : ∀ l, (sortP l).Perm l
  | [] => .refl _
  | x :: l => (insP_perm x (sortP l)).trans ((sortP_perm l).cons x)
theorem snap_nats (n : Nat) (D : Hs) : ∀ p : List Nat, snapAll n D (p.map natV) = some (p.map natV)
  | [] => by simp [snapAll]
  | x :: p => by simp [snapAll, snapV, snap_nats n D p]
theorem snap_places (n : Nat) (D : Hs) : ∀ l : List (List Nat), snapAll n D (l.map placesV) = some (l.map placesV)
  | [] => by simp [snapAll]
  | x :: l => by simp [snapAll, snapV, snap_nats, snap_places n D l]
/-! ending -/
def lastB (last h : Option Nat) : Bool := match last with
  | none => true
  | some k => h == some k
def endM (ws : List Way) (goal : Nat) (last : Option Nat) : List (List Nat) := (ws.filter fun w => lastN w.1 == goal && lastB last w.2).map (·.1)
theorem in_last (f h : Option Nat) : cmpV .inn (optV f) (.tup [.non, optV h]) = some (lastB f h) := by
  have dd : dataAll [.non, optV h] = true := by simp [dataAll, PV.data, data_opt]
  simp only [cmpV, inV, data_opt, dd, depth_opt, Bool.and_self]
  cases f with
  | none => simp [optV, memV, PV.eqv, lastB]
  | some k =>
    cases h with
    | none => simp [optV, memV, PV.eqv, lastB]
    | some c =>
      by_cases e : c = k
      · subst e; simp [optV, memV, PV.eqv, lastB]
      · simp [optV, memV, PV.eqv, lastB, e]
section
variable {T : Tab}
theorem longer_out (h : HasNets T) (n : Nat) (G : Nt) (ok : G.Ok) (first : Option Nat) (D : Hs) (W : PV) : ∀ (ws acc : List Way) (o4 o5 o6 o7 o8 : Option PV), acc.length + 9 * ws.length < sizeL → (∀ w ∈ ws, w.1 ≠ [] ∧ w.1.length < 100) →
    ∃ o4' o5' o6' o7' o8', forL (fun x r D => match tgtV (.names [4, 5]) x r with
      | none => none
      | some r' => exSs T (callF T (n + 3)) [.forS (.names [6, 7]) (.meth 8 (.var 0) [(.sub (.var 4) (.neg (.cst (.int 1))))]) [.set 8 (.ite (.isN (.var 5) false) (.cmp .ne (.var 7) (.var 5)) (.cmp .inn (.var 2) (.tupE [(.cst .non), (.var 7)]))), .ifS (.andE (.var 8) (.cmp .nin (.var 6) (.var 4))) [.expr (.mut .append (.var 3) [(.tupE [(.tupS [true, false] [(.var 4), (.var 6)]), (.var 7)])])] []]] r' D)
      (ws.map wayV) [some (netV G), some W, some (optV first), some (.ref D.length), o4, o5, o6, o7, o8] (D ++ [.lst (acc.map wayV)]) = some (.next, [some (netV G), some W, some (optV first), some (.ref D.length), o4', o5', o6', o7', o8'], D ++ [.lst ((acc ++ longerM G first ws).map wayV)])
  | [], acc, o4, o5, o6, o7, o8, _, _ => ⟨o4, o5, o6, o7, o8, by simp [forL, longerM]⟩
  | w :: ws, acc, o4, o5, o6, o7, o8, hl, hw => by
    simp only [List.length_cons] at hl
    have n9 := ok.n9
    obtain ⟨wn, wl⟩ := hw w (by simp)
    have sl := steps_len G (lastN w.1)
    obtain ⟨a6, a7, a8, e1⟩ := longer_in (T := T) first (callF T (n + 3)) D w.1 w.2 (netV G) W (G.steps (lastN w.1)) acc o6 o7 o8 (by omega) wl
    have el : (ext w.1 w.2 first (G.steps (lastN w.1))).length ≤ 9 := by
      unfold ext
      have := List.length_filterMap_le (fun q : Nat × Nat => if wantB w.2 first q.2 && !w.1.contains q.1 then some (w.1 ++ [q.1], some q.2) else none) (G.steps (lastN w.1))
      omega
    obtain ⟨b4, b5, b6, b7, b8, ih⟩ := longer_out h n G ok first D W ws (acc ++ ext w.1 w.2 first (G.steps (lastN w.1))) (some (placesV w.1)) (some (optV w.2)) a6 a7 a8 (by rw [List.length_append]; omega) fun w' hw' => hw w' (by simp [hw'])
    refine ⟨b4, b5, b6, b7, b8, ?_⟩
    have cs := c_steps h n G ok (lastN w.1) (D ++ [.lst (acc.map wayV)])
    have it : evE T (callF T (n + 3)) (.meth 8 (.var 0) [(.sub (.var 4) (.neg (.cst (.int 1))))]) [some (netV G), some W, some (optV first), some (.ref D.length), some (placesV w.1), some (optV w.2), o6, o7, o8] (D ++ [.lst (acc.map wayV)]) = some (.lst ((G.steps (lastN w.1)).map stepV), true, D ++ [.lst (acc.map wayV)]) := by
      have li := last_ix wn
      have d1 : ∀ ys, deref (D ++ [.lst (acc.map wayV)]) (.tup ys) = .tup ys := fun _ => rfl
      have d2 : ∀ i, deref (D ++ [.lst (acc.map wayV)]) (.int i) = .int i := fun _ => rfl
      have dn : deref (D ++ [.lst (acc.map wayV)]) (netV G) = netV G := rfl
      unfold netV at cs dn ⊢
      simp only [evE, evEs, List.getElem?_cons_succ, List.getElem?_cons_zero, dn, h.cls, c_Net, lookN, d1, d2, li, Option.map_some, Option.bind_some, Nat.reduceEqDiff, if_true, if_false, cs]
    simp only [List.map_cons, forL, tgtV, setAll, List.set_cons_succ, List.set_cons_zero]
    rw [x_next (x_for it (by simp) rfl e1) rfl]
    have ee : longerM G first (w :: ws) = ext w.1 w.2 first (G.steps (lastN w.1)) ++ longerM G first ws := by
      simp [longerM]
    simp only [exSs]
    rw [ee, ← List.append_assoc]
    exact ih
theorem c_longer (h : HasNets T) (w : HasWays T) (n : Nat) (G : Nt) (ok : G.Ok) (first : Option Nat) (ws : List Way) (hl : 9 * ws.length < sizeL) (hw : ∀ w ∈ ws, w.1 ≠ [] ∧ w.1.length < 100) (D : Hs) :
    callF T (n + 4) 70 [netV G, .lst (ws.map wayV), optV first] D = some (.lst ((longerM G first ws).map wayV), true, D) := by
  obtain ⟨a4, a5, a6, a7, a8, e⟩ := longer_out h n G ok first D (.lst (ws.map wayV)) ws [] none none none none none (by simpa using hl) hw
  refine f_ret w.longer rfl (v := .ref D.length) (fr := false) (r1 := [some (netV G), some (.lst (ws.map wayV)), some (optV first), some (.ref D.length), a4, a5, a6, a7, a8]) (D1 := D ++ [.lst ((longerM G first ws).map wayV)]) ?_ (by simp [f_longer, finish])
  refine x_next (r1 := [some (netV G), some (.lst (ws.map wayV)), some (optV first), some (.ref D.length), none, none, none, none, none]) (D1 := D ++ [.lst []]) ?_ ?_
  · simp [f_longer, start, exS, evE, evEs, sizeL, heapV, pureAll]
  refine x_next (x_for (src := .lst (ws.map wayV)) (fr := false) (D1 := D ++ [.lst []]) (by simp [evE]) (by simp) rfl e) ?_
  exact x_stop (x_ret (by simp [evE]))
theorem c_ending (w : HasWays T) (n : Nat) (goal : Nat) (last : Option Nat) (ws : List Way) (hl : ws.length ≤ sizeL) (hw : ∀ w ∈ ws, w.1 ≠ []) (D : Hs) : callF T (n + 1) 71 [.lst (ws.map wayV), natV goal, optV last] D = some (.lst ((sortP (endM ws goal last)).map placesV), true, D) := by
  have lc := e_lc (T := T) (cf := callF T n) (D := D) (D1 := D) (r := [some (.lst (ws.map wayV)), some (natV goal), some (optV last), none, none]) (fr := false) (it := .var 0) (own := [3, 4]) (t := .names [3, 4]) (conds := [(.andE (.cmp .eq (.sub (.var 3) (.neg (.cst (.int 1)))) (.var 1)) (.cmp .inn (.var 2) (.tupE [(.cst .non), (.var 4)])))]) (elt := .var 3) (enc := wayV) (xs := ws) (src := .lst (ws.map wayV))
    (fun w => [some (.lst (ws.map wayV)), some (natV goal), some (optV last), some (placesV w.1), some (optV w.2)]) (fun w => lastN w.1 == goal && lastB last w.2) (fun w => placesV w.1) (by simp [evE]) (by simp) rfl (fun w _ => by simp [tgtV, setAll, wipeR])
    (fun w hx => by
      have li := last_ix (hw w hx)
      have il := in_last last w.2
      have d1 : ∀ ys, deref D (.tup ys) = .tup ys := fun _ => rfl
      have d2 : ∀ i, deref D (.int i) = .int i := fun _ => rfl
      have d3 : deref D (optV last) = optV last := by cases last <;> rfl
      have d4 : ∀ b, deref D (.bl b) = .bl b := fun _ => rfl
      have eq : cmpV .eq (natV (lastN w.1)) (natV goal) = some (lastN w.1 == goal) := by
        simp only [cmpV, eqR, PV.data, PV.depth, PV.eqv]
        by_cases e : lastN w.1 = goal
        · simp [e]
        · have e2 : ¬ (lastN w.1 : Int) = (goal : Int) := by omega
          rw [beq_eq_false_iff_ne.mpr e2, beq_eq_false_iff_ne.mpr e]
          rfl
      have dl : deref D (natV (lastN w.1)) = natV (lastN w.1) := rfl
      simp only [evTs, evE, evEs, List.getElem?_cons_succ, List.getElem?_cons_zero, d1, d2, li, Option.map_some, dl, eq, d4, truth]
      cases e : (lastN w.1 == goal) with
      | false => rfl
      | true =>
        rw [if_pos (show ([PV.non, optV w.2] : List PV).length ≤ sizeL from (by decide : 2 ≤ sizeL))]
        simp only [d1, d3, il, Option.map_some, d4, truth, Bool.true_and]
        cases lastB last w.2 <;> rfl)
    (fun w _ _ => ⟨false, by simp [evE]⟩) hl
  have hm : (ws.filter fun w => lastN w.1 == goal && lastB last w.2).map (fun w => placesV w.1) = (endM ws goal last).map placesV := by
    simp [endM, List.map_map, Function.comp_def]
  rw [hm] at lc
  have hs : sortV ((endM ws goal last).map placesV) = some ((sortP (endM ws goal last)).map placesV) := by
    refine sort_places (fun p hp => ?_) ?_
    · unfold endM at hp
      obtain ⟨w', h1, rfl⟩ := List.mem_map.mp hp
      exact hw w' (List.mem_filter.mp h1).1
    · unfold endM
      rw [List.length_map]
      exact Nat.le_trans (List.length_filter_le _ _) hl
  refine f_ret w.ending rfl (v := .lst ((sortP (endM ws goal last)).map placesV)) (fr := true) (r1 := [some (.lst (ws.map wayV)), some (natV goal), some (optV last), none, none]) (D1 := D) ?_ (by simp [f_ending, finish, snapV, snap_places])
  refine x_stop (x_ret ?_)
  have lc' : evE T (callF T n) (.lc [3, 4] (.names [3, 4]) (.var 0) [(.andE (.cmp .eq (.sub (.var 3) (.neg (.cst (.int 1)))) (.var 1)) (.cmp .inn (.var 2) (.tupE [(.cst .non), (.var 4)])))] (.var 3)) (start f_ending [.lst (ws.map wayV), natV goal, optV last]) D = some (.lst ((endM ws goal last).map placesV), true, D) := lc
  have d1 : deref D (.lst ((endM ws goal last).map placesV)) = .lst ((endM ws goal last).map placesV) := rfl
  unfold evE
  simp only [evEs, lc', List.map_cons, List.map_nil, bltV, sortedV, d1, hs, Option.map_some]
end
end HT
namespace HT
/-! ways, level by level -/
def someM (G : Nt) (s g : Nat) (first : Option Nat) : Nat → List Way
  | 0 => [([s], none)]
  | k + 1 => longerM G first ((someM G s g first k).filter fun w => lastN w.1 != g)
def foundM (G : Nt) (s g : Nat) (first last : Option Nat) : Nat → List (List Nat)
  | 0 => []
  | k + 1 => foundM G s g first last k ++ sortP (endM (someM G s g first k) g last)
structure WayOk (G : Nt) (k : Nat) (w : Way) : Prop where
  len : w.1.length = k + 1
  nd : w.1.Nodup
  lt : ∀ x ∈ w.1, x < G.n
theorem steps_lt {G : Nt} {p : Nat} {q : Nat × Nat} (h : q ∈ G.steps p) : q.1 < G.n ∧ G.hue p q.1 = some q.2 := by
  unfold Nt.steps at h
  obtain ⟨o, h1, h2⟩ := List.mem_filterMap.mp h
  obtain ⟨c, h3, rfl⟩ := Option.map_eq_some_iff.mp h2
  exact ⟨List.mem_range.mp h1, h3⟩
theorem mem_ext {p : List Nat} {h first : Option Nat} {l : List (Nat × Nat)} {w : Way} (m : w ∈ ext p h first l) : ∃ q ∈ l, wantB h first q.2 = true ∧ q.1 ∉ p ∧ w = (p ++ [q.1], some q.2) := by
  unfold ext at m
  obtain ⟨q, h1, h2⟩ := List.mem_filterMap.mp m
  split at h2
  · rename_i hc
    cases h2
    rw [Bool.and_eq_true] at hc
    refine ⟨q, h1, hc.1, ?_, rfl⟩
    simpa using hc.2
  · cases h2
theorem mem_longer {G : Nt} {first : Option Nat} {ws : List Way} {w : Way} (m : w ∈ longerM G first ws) : ∃ v ∈ ws, ∃ q ∈ G.steps (lastN v.1), wantB v.2 first q.2 = true ∧ q.1 ∉ v.1 ∧ w = (v.1 ++ [q.1], some q.2) := by
  unfold longerM at m
  obtain ⟨v, h1, h2⟩ := List.mem_flatMap.mp m
  obtain ⟨q, h3, h4⟩ := mem_ext h2
  exact ⟨v, h1, q, h3, h4⟩
theorem nodup_snoc {p : List Nat} {o : Nat} (h : p.Nodup) (n : o ∉ p) : (p ++ [o]).Nodup := by
  rw [List.nodup_append]
  exact ⟨h, by simp, fun a ha b hb => by simp at hb; subst hb; rintro rfl; exact n ha⟩
theorem some_ok {G : Nt} {s g : Nat} {first : Option Nat} (hs : s < G.n) : ∀ (k : Nat) (w : Way), w ∈ someM G s g first k → WayOk G k w
  | 0, w, m => by
    unfold someM at m
    simp at m
    subst m
    exact ⟨rfl, by simp, fun x hx => by simp at hx; omega⟩
  | k + 1, w, m => by
    unfold someM at m
    obtain ⟨v, h1, q, h2, _, h4, rfl⟩ := mem_longer m
    have ok := some_ok hs k v (List.mem_filter.mp h1).1
    refine ⟨by simp [ok.len], nodup_snoc ok.nd h4, fun x hx => ?_⟩
    rcases List.mem_append.mp hx with z | z
    · exact ok.lt x z
    · simp at z; subst z; exact (steps_lt h2).1
theorem nodup_le : ∀ (n : Nat) (l : List Nat), l.Nodup → (∀ x ∈ l, x < n) → l.length ≤ n
  | 0, l, _, h => by
    cases l with
    | nil => simp
    | cons x r => exact absurd (h x (by simp)) (by omega)
  | n + 1, l, nd, h => by
    have ih := nodup_le n (l.erase n) (nd.erase n) fun x hx => by
      obtain ⟨h1, h2⟩ := (List.Nodup.mem_erase_iff nd).mp hx
      have := h x h2
      omega
    have := List.length_erase_le (a := n) (l := l)
    by_cases m : n ∈ l
    · rw [List.length_erase_of_mem m] at ih; omega
    · rw [List.erase_of_not_mem m] at ih; omega
theorem some_nil {G : Nt} {s g : Nat} {first : Option Nat} (hs : s < G.n) : someM G s g first G.n = [] := by
  cases e : someM G s g first G.n with
  | nil => rfl
  | cons w r =>
    exfalso
    have ok := some_ok (first := first) (g := g) hs G.n w (by rw [e]; simp)
    have := nodup_le G.n w.1 ok.nd ok.lt
    have := ok.len
    omega
theorem some_more {G : Nt} {s g : Nat} {first : Option Nat} {k : Nat} (h : someM G s g first k = []) : ∀ j, someM G s g first (k + j) = []
  | 0 => h
  | j + 1 => by
    show longerM G first ((someM G s g first (k + j)).filter _) = []
    rw [some_more h j]
    rfl
/-- how many more places there can be -/
theorem ext_len {G : Nt} {k : Nat} {first : Option Nat} {w : Way} (ok : WayOk G k w) : (ext w.1 w.2 first (G.steps (lastN w.1))).length ≤ G.n - (k + 1) := by
  have nd : ((ext w.1 w.2 first (G.steps (lastN w.1))).map fun v => lastN v.1).Nodup ∧ ∀ x ∈ (ext w.1 w.2 first (G.steps (lastN w.1))).map (fun v => lastN v.1), x < G.n ∧ x ∉ w.1 := by
    have sub : ((ext w.1 w.2 first (G.steps (lastN w.1))).map fun v => lastN v.1).Sublist (List.range G.n) := by
      unfold ext Nt.steps
      generalize List.range G.n = l
      induction l with
      | nil => simp
      | cons o l ih =>
        rw [List.filterMap_cons]
        cases q : G.hue (lastN w.1) o with
        | none => exact ih.cons _
        | some c =>
          simp only [Option.map_some, List.filterMap_cons]
          split
          · exact ih.cons _
          · rename_i v hv
            split at hv
            · cases hv
              have e : lastN (w.1 ++ [o]) = o := by simp [lastN]
              simp only [List.map_cons, e]
              exact ih.cons₂ _
            · cases hv
    refine ⟨List.Nodup.sublist sub List.nodup_range, fun x hx => ?_⟩
    obtain ⟨v, h1, rfl⟩ := List.mem_map.mp hx
    obtain ⟨q, h2, _, h4, rfl⟩ := mem_ext h1
    have e : lastN (w.1 ++ [q.1]) = q.1 := by simp [lastN]
    simp only [e]
    exact ⟨(steps_lt h2).1, h4⟩
  have all := nodup_le G.n (w.1 ++ (ext w.1 w.2 first (G.steps (lastN w.1))).map fun v => lastN v.1) (by
    rw [List.nodup_append]
    exact ⟨ok.nd, nd.1, fun a ha b hb => by rintro rfl; exact (nd.2 a hb).2 ha⟩) (fun x hx => by
    rcases List.mem_append.mp hx with z | z
    · exact ok.lt x z
    · exact (nd.2 x z).1)
  rw [List.length_append, List.length_map, ok.len] at all
  omega
theorem longer_len {G : Nt} {first : Option Nat} {k : Nat} : ∀ ws : List Way, (∀ w ∈ ws, WayOk G k w) → (longerM G first ws).length ≤ (G.n - (k + 1)) * ws.length
  | [], _ => by simp [longerM]
  | w :: ws, h => by
    have ih := longer_len (first := first) ws fun v hv => h v (by simp [hv])
    have el := ext_len (first := first) (h w (by simp))
    have ee : longerM G first (w :: ws) = ext w.1 w.2 first (G.steps (lastN w.1)) ++ longerM G first ws := by simp [longerM]
    rw [ee, List.length_append, List.length_cons, Nat.mul_add, Nat.mul_one]
    omega
def lv (n : Nat) : Nat → Nat
  | 0 => 1
  | k + 1 => (n - (k + 1)) * lv n k
theorem some_len {G : Nt} {s g : Nat} {first : Option Nat} (hs : s < G.n) : ∀ k, (someM G s g first k).length ≤ lv G.n k
  | 0 => by simp [someM, lv]
  | k + 1 => by
    have ih := some_len (g := g) (first := first) hs k
    have l1 := longer_len (G := G) (first := first) (k := k) ((someM G s g first k).filter fun w => lastN w.1 != g) fun w hw => some_ok hs k w (List.mem_filter.mp hw).1
    have l2 := List.length_filter_le (fun w : Way => lastN w.1 != g) (someM G s g first k)
    show (longerM G first _).length ≤ (G.n - (k + 1)) * lv G.n k
    exact Nat.le_trans l1 (Nat.mul_le_mul_left _ (Nat.le_trans l2 ih))
theorem lv_le {n : Nat} (h : n ≤ 8) : ∀ {k : Nat}, k ≤ 8 → lv n k ≤ 5040 := by
  have : ∀ n, n ≤ 8 → ∀ k, k ≤ 8 → lv n k ≤ 5040 := by decide
  intro k hk
  exact this n h k hk
theorem least_nil {G : Nt} {s g : Nat} {first : Option Nat} : ∀ n, someM G s g first n = [] → ∃ m ≤ n, someM G s g first m = [] ∧ ∀ k < m, someM G s g first k ≠ []
  | 0, h => ⟨0, Nat.le_refl _, h, fun k hk => by omega⟩
  | n + 1, h => by
    by_cases q : someM G s g first n = []
    · obtain ⟨m, h1, h2, h3⟩ := least_nil n q
      exact ⟨m, by omega, h2, h3⟩
    · refine ⟨n + 1, Nat.le_refl _, h, fun k hk e => q ?_⟩
      have := some_more e (n - k)
      rw [show k + (n - k) = n by omega] at this
      exact this
theorem found_more {G : Nt} {s g : Nat} {first last : Option Nat} {k : Nat} (h : someM G s g first k = []) : ∀ j, foundM G s g first last (k + j) = foundM G s g first last k
  | 0 => rfl
  | j + 1 => by
    show foundM G s g first last (k + j) ++ sortP (endM (someM G s g first (k + j)) g last) = _
    rw [some_more h j, found_more h j]
    simp [endM, sortP]
def waysM (G : Nt) (s g : Nat) (first last : Option Nat) : List (List Nat) := foundM G s g first last G.n
theorem found_len {G : Nt} {s g : Nat} {first last : Option Nat} (hs : s < G.n) (h : G.n ≤ 8) : ∀ k, k ≤ 9 → (foundM G s g first last k).length ≤ k * 5040
  | 0, _ => by simp [foundM]
  | k + 1, hk => by
    have ih := found_len (g := g) (first := first) (last := last) hs h k (by omega)
    have l1 : (sortP (endM (someM G s g first k) g last)).length ≤ 5040 := by
      rw [(sortP_perm _).length_eq]
      unfold endM
      rw [List.length_map]
      exact Nat.le_trans (List.length_filter_le _ _) (Nat.le_trans (some_len hs k) (lv_le h (by omega)))
    show (foundM G s g first last k ++ _).length ≤ _
    rw [List.length_append, Nat.add_mul, Nat.one_mul]
    omega
theorem dataAll_ways : ∀ l : List Way, dataAll (l.map wayV) = true
  | [] => rfl
  | x :: l => by simp [dataAll, PV.data, dataAll_nat, data_opt, dataAll_ways l]
theorem depthAll_ways : ∀ l : List Way, depthAll (l.map wayV) ≤ 2
  | [] => by simp [depthAll]
  | x :: l => by
    have := depthAll_ways l
    simp only [List.map_cons, depthAll, PV.depth, depthAll_nat, depth_opt]
    omega
theorem ne_nil_ways (l : List Way) : cmpV .ne (.lst (l.map wayV)) (.lst []) = some (!l.isEmpty) := by
  have := depthAll_ways l
  have e : (PV.lst (l.map wayV)).depth ≤ 60 := by simp only [PV.depth]; omega
  simp only [cmpV, eqR, PV.data, dataAll_ways, dataAll, Bool.true_and, decide_eq_true e, if_true, Option.map_some]
  cases l <;> simp [PV.eqv, eqvAll]
section
variable {T : Tab}
theorem c_size (h : HasNets T) (n : Nat) (G : Nt) (D : Hs) : callF T (n + 1) 19 [netV G] D = some (natV G.n, false, D) := by
  rw [callF_succ h.size rfl]
  simp [f_Net_size, exSs, exS, evE, start, deref, netV, h.cls, c_Net, lookN, finish, snapV]
theorem ways_turn (h : HasNets T) (w : HasWays T) (n : Nat) (G : Nt) (ok : G.Ok) (n8 : G.n ≤ 8) (s g : Nat) (hs : s < G.n) (first last : Option Nat) (D : Hs) (k : Nat) (hk : k < G.n) (o7 : Option PV) :
    exSs T (callF T (n + 5)) [.expr (.mut .extend (.var 5) [(.call 71 [(.var 6), (.var 2), (.var 4)])]), .set 6 (.call 70 [(.var 0), (.lc [7] (.name 7) (.var 6) [(.cmp .ne (.sub (.sub (.var 7) (.cst (.int 0))) (.neg (.cst (.int 1)))) (.var 2))] (.var 7)), (.var 3)])]
      [some (netV G), some (natV s), some (natV g), some (optV first), some (optV last), some (.ref D.length), some (.lst ((someM G s g first k).map wayV)), o7] (D ++ [.lst ((foundM G s g first last k).map placesV)])
      = some (.next, [some (netV G), some (natV s), some (natV g), some (optV first), some (optV last), some (.ref D.length), some (.lst ((someM G s g first (k + 1)).map wayV)), o7], D ++ [.lst ((foundM G s g first last (k + 1)).map placesV)]) := by
  have sl := Nat.le_trans (some_len (g := g) (first := first) hs k) (lv_le n8 (by omega))
  have fl := found_len (g := g) (first := first) (last := last) hs n8 k (by omega)
  have fl2 := found_len (g := g) (first := first) (last := last) hs n8 (k + 1) (by omega)
  have wok := some_ok (G := G) (s := s) (g := g) (first := first) hs k
  have wne : ∀ v ∈ someM G s g first k, v.1 ≠ [] := fun v hv e => by
    have := (wok v hv).len
    rw [e] at this
    simp at this
  have ce := c_ending w (n + 4) g last (someM G s g first k) (by unfold sizeL; omega) wne (D ++ [.lst ((foundM G s g first last k).map placesV)])
  have l2 := List.length_filter_le (fun v : Way => lastN v.1 != g) (someM G s g first k)
  have cl := c_longer h w (n + 1) G ok first ((someM G s g first k).filter fun v => lastN v.1 != g) (by unfold sizeL; omega) (fun v hv => by
    have hv' := (List.mem_filter.mp hv).1
    refine ⟨wne v hv', ?_⟩
    have := (wok v hv').len
    omega) (D ++ [.lst ((foundM G s g first last (k + 1)).map placesV)])
  have ex : foundM G s g first last (k + 1) = foundM G s g first last k ++ sortP (endM (someM G s g first k) g last) := rfl
  refine x_next (r1 := [some (netV G), some (natV s), some (natV g), some (optV first), some (optV last), some (.ref D.length), some (.lst ((someM G s g first k).map wayV)), o7]) (D1 := D ++ [.lst ((foundM G s g first last (k + 1)).map placesV)]) (x_expr (v := .non) (fr := false) ?_) (x_next (x_set (v := .lst ((someM G s g first (k + 1)).map wayV)) (fr := true) (D1 := D ++ [.lst ((foundM G s g first last (k + 1)).map placesV)]) ?_) ?_)
  · have d1 : ∀ D' ys, deref D' (.lst ys) = .lst ys := fun _ _ => rfl
    have lim : ((foundM G s g first last k).map placesV).length + ((sortP (endM (someM G s g first k) g last)).map placesV).length ≤ sizeL := by
      rw [ex, List.length_append] at fl2
      rw [List.length_map, List.length_map]
      unfold sizeL
      have : (k + 1) * 5040 ≤ 9 * 5040 := Nat.mul_le_mul_right _ (by omega)
      omega
    simp only [evE, evEs, List.getElem?_cons_succ, List.getElem?_cons_zero, top_get, ce, mutV, d1, pureAll_places, Bool.true_and, decide_eq_true lim, if_true, top_set, Option.map_some, ex, List.map_append]
  · have lc := e_lc (T := T) (cf := callF T (n + 5)) (D := D ++ [.lst ((foundM G s g first last (k + 1)).map placesV)]) (D1 := D ++ [.lst ((foundM G s g first last (k + 1)).map placesV)]) (r := [some (netV G), some (natV s), some (natV g), some (optV first), some (optV last), some (.ref D.length), some (.lst ((someM G s g first k).map wayV)), o7]) (fr := false) (it := .var 6) (own := [7]) (t := .name 7) (conds := [(.cmp .ne (.sub (.sub (.var 7) (.cst (.int 0))) (.neg (.cst (.int 1)))) (.var 2))]) (elt := .var 7) (enc := wayV) (xs := someM G s g first k) (src := .lst ((someM G s g first k).map wayV))
      (fun v => [some (netV G), some (natV s), some (natV g), some (optV first), some (optV last), some (.ref D.length), some (.lst ((someM G s g first k).map wayV)), some (wayV v)]) (fun v => lastN v.1 != g) wayV (by simp [evE]) (by simp) rfl (fun v _ => by simp [tgtV, wipeR])
      (fun v hv => by
        have li := last_ix (wne v hv)
        have d1 : ∀ D' ys, deref D' (.tup ys) = .tup ys := fun _ _ => rfl
        have d2 : ∀ D' i, deref D' (.int i) = .int i := fun _ _ => rfl
        have d4 : ∀ D' b, deref D' (.bl b) = .bl b := fun _ _ => rfl
        have s0 : subV (wayV v) (.int 0) = some (placesV v.1) := by simp [subV, atIx]
        have eq : cmpV .ne (natV (lastN v.1)) (natV g) = some (lastN v.1 != g) := by
          simp only [cmpV, eqR, PV.data, PV.depth, PV.eqv, bne]
          by_cases e : lastN v.1 = g
          · simp [e]
          · have e2 : ¬ (lastN v.1 : Int) = (g : Int) := by omega
            rw [beq_eq_false_iff_ne.mpr e2, beq_eq_false_iff_ne.mpr e]
            rfl
        simp only [evTs, evE, List.getElem?_cons_succ, List.getElem?_cons_zero, d1, d2, s0, li, Option.map_some, eq, d4, truth]
        cases lastN v.1 != g <;> rfl) (fun v _ _ => ⟨false, by simp [evE]⟩) (by unfold sizeL; omega)
    exact e_call (es_cons (e_var rfl) (es_cons lc (es_cons (e_var rfl) es_nil))) cl
  · simp only [exSs, List.set_cons_succ, List.set_cons_zero]
theorem c_ways (h : HasNets T) (w : HasWays T) (n : Nat) (G : Nt) (ok : G.Ok) (n8 : G.n ≤ 8) (s g : Nat) (hs : s < G.n) (hg : g < G.n) (ne : g ≠ s) (first last : Option Nat) (h1 : hueOk first) (h2 : hueOk last) (D : Hs) :
    callF T (n + 6) 73 [netV G, natV s, natV g, optV first, optV last] D = some (.tup ((waysM G s g first last).map placesV), false, D) := by
  obtain ⟨m, hm, m1, m2⟩ := least_nil G.n (some_nil (first := first) (g := g) hs)
  have fin : foundM G s g first last m = waysM G s g first last := by
    have := found_more (last := last) m1 (G.n - m)
    rw [show m + (G.n - m) = G.n by omega] at this
    exact this.symm
  have e1 := c_check_ends h w (n + 1) G s g hs hg ne D
  have e2 := c_check_wanted h w (n + 3) first last h1 h2 D
  have e3 := c_size h (n + 4) G D
  obtain ⟨r', D', wl, o7, rfl, rfl⟩ := whileF_run (c := fun r D => match evE T (callF T (n + 5)) (.cmp .ne (.var 6) (.lstE [])) r D with
      | none => none
      | some (x, _, D1) => (truth (deref D1 x)).map fun b => (b, D1)) (body := fun r D => exSs T (callF T (n + 5)) [.expr (.mut .extend (.var 5) [(.call 71 [(.var 6), (.var 2), (.var 4)])]), .set 6 (.call 70 [(.var 0), (.lc [7] (.name 7) (.var 6) [(.cmp .ne (.sub (.sub (.var 7) (.cst (.int 0))) (.neg (.cst (.int 1)))) (.var 2))] (.var 7)), (.var 3)])] r D)
    (fun k r D' => ∃ o7, r = [some (netV G), some (natV s), some (natV g), some (optV first), some (optV last), some (.ref D.length), some (.lst ((someM G s g first k).map wayV)), o7] ∧ D' = D ++ [.lst ((foundM G s g first last k).map placesV)]) m
    (fun k r D' hk z => by
      obtain ⟨o7, rfl, rfl⟩ := z
      have nn := ne_nil_ways (someM G s g first k)
      have ie : (someM G s g first k).isEmpty = false := by
        cases q : someM G s g first k with
        | nil => exact absurd q (m2 k hk)
        | cons _ _ => rfl
      refine ⟨?_, _, _, ways_turn h w n G ok n8 s g hs first last D k (by omega) o7, o7, rfl, rfl⟩
      have d1 : ∀ D' ys, deref D' (.lst ys) = .lst ys := fun _ _ => rfl
      simp only [evE, evEs, List.getElem?_cons_succ, List.getElem?_cons_zero, List.length_nil, Nat.zero_le, if_true, d1, nn, ie, Option.map_some]
      rfl)
    (fun r D' z => by
      obtain ⟨o7, rfl, rfl⟩ := z
      have nn := ne_nil_ways (someM G s g first m)
      rw [m1] at nn ⊢
      have d1 : ∀ D' ys, deref D' (.lst ys) = .lst ys := fun _ _ => rfl
      simp only [evE, evEs, List.getElem?_cons_succ, List.getElem?_cons_zero, List.length_nil, Nat.zero_le, if_true, d1, nn, Option.map_some]
      rfl)
    m LF 0 [some (netV G), some (natV s), some (natV g), some (optV first), some (optV last), some (.ref D.length), some (.lst ([([s], none)].map wayV)), none] (D ++ [.lst []]) (by omega) (by unfold LF; omega) ⟨none, rfl, rfl⟩
  rw [fin] at wl
  refine f_ret w.ways rfl (v := .tup ((waysM G s g first last).map placesV)) (fr := false) (r1 := [some (netV G), some (natV s), some (natV g), some (optV first), some (optV last), some (.ref D.length), some (.lst ((someM G s g first m).map wayV)), o7]) (D1 := D ++ [.lst ((waysM G s g first last).map placesV)]) ?_ (by simp [f_ways, finish, snapV, snap_places])
  refine x_next (r1 := [some (netV G), some (natV s), some (natV g), some (optV first), some (optV last), none, none, none]) (D1 := D) (x_expr (v := .non) (fr := false) ?_) ?_
  · simp only [start, f_ways, List.map_cons, List.map_nil, List.cons_append, List.nil_append, evE, evEs, List.getElem?_cons_succ, List.getElem?_cons_zero]
    exact e1
  refine x_next (r1 := [some (netV G), some (natV s), some (natV g), some (optV first), some (optV last), none, none, none]) (D1 := D) (x_expr (v := .non) (fr := false) ?_) ?_
  · simp only [evE, evEs, List.getElem?_cons_succ, List.getElem?_cons_zero]
    exact e2
  refine x_next (r1 := [some (netV G), some (natV s), some (natV g), some (optV first), some (optV last), none, none, none]) (D1 := D) (x_if (v := .bl false) (fr := false) (t := false) (D1 := D) ?_ rfl rfl) ?_
  · have d : decide ((8 : Int) < (G.n : Int)) = false := decide_eq_false (by omega)
    unfold netV at e3 ⊢
    simp only [evE, List.getElem?_cons_succ, List.getElem?_cons_zero, deref, h.cls, c_Net, Option.bind_some, lookN, if_true, e3, cmpV, gtR, d, Option.map_some]
  refine x_next (r1 := [some (netV G), some (natV s), some (natV g), some (optV first), some (optV last), some (.ref D.length), some (.lst ([([s], none)].map wayV)), none]) (D1 := D ++ [.lst []]) ?_ ?_
  · simp [exS, evPar, evE, evEs, sizeL, heapV, pureAll, setAll, optV]
  refine x_next (r1 := [some (netV G), some (natV s), some (natV g), some (optV first), some (optV last), some (.ref D.length), some (.lst ((someM G s g first m).map wayV)), o7]) (D1 := D ++ [.lst ((waysM G s g first last).map placesV)]) ?_ ?_
  · unfold exS
    exact wl
  · refine x_stop (x_ret ?_)
    simp [evE, evEs, bltV, tupleV, deref]
end
end HT
/-! what the laws of ways, walks, unknown hues and changes draw from -/
namespace HT
def f__law_kit : FnI := { params := 2, slots := 5, alloc := true, body := [.set 2 (.bin .add (.cst (.int 30047)) (.bin .mul (.cst (.int 7001)) (.var 1))), .forS (.name 3) (.slice (.var 0) none (some (.cst (.int 6)))) [.set 2 (.bin .mod (.blt .int [(.bin .add (.bin .mul (.var 2) (.cst (.int 19009))) (.var 3))]) (.cst (.int 2147482063)))], .set 4 (.ite (.cmp .lt (.var 1) (.blt .len [(.var 0)])) (.sub (.var 0) (.var 1)) (.bin .add (.bin .mul (.cst (.int 43)) (.var 1)) (.cst (.int 13)))), .ret (.lstE [(.bin .mod (.blt .int [(.bin .add (.bin .add (.bin .mul (.var 2) (.cst (.int 47))) (.bin .mul (.var 4) (.cst (.int 101)))) (.cst (.int 53)))]) (.cst (.int 2147482063))), (.ite (.cmp .ge (.blt .abs [(.var 4)]) (.bin .pow (.cst (.int 10)) (.cst (.int 17)))) (.blt .abs [(.var 4)]) (.cst (.int 0))), (.cst (.int 0))])] }
def f__law_cut : FnI := { params := 2, slots := 4, alloc := false, body := [.ifS (.cmp .gt (.sub (.var 0) (.cst (.int 1))) (.cst (.int 0))) [.setIT (.var 0) (.cst (.int 1)) 2 (.blt .divmod [(.sub (.var 0) (.cst (.int 1))), (.var 1)]), .ret (.var 2)] [], .setItem (.var 0) (.cst (.int 2)) (.bin .add (.sub (.var 0) (.cst (.int 2))) (.cst (.int 1))), .set 3 (.bin .mod (.blt .int [(.bin .add (.bin .add (.bin .mul (.sub (.var 0) (.cst (.int 0))) (.cst (.int 45007))) (.bin .mul (.bin .mul (.sub (.var 0) (.cst (.int 2))) (.sub (.var 0) (.cst (.int 2)))) (.cst (.int 107)))) (.cst (.int 89)))]) (.cst (.int 2147482063))), .setItem (.var 0) (.cst (.int 0)) (.bin .mod (.blt .int [(.bin .add (.bin .mul (.var 3) (.bin .add (.cst (.int 30011)) (.bin .mod (.blt .int [(.var 3)]) (.cst (.int 4001))))) (.cst (.int 97)))]) (.cst (.int 2147482081))), .ret (.bin .mod (.blt .int [(.bin .fdiv (.sub (.var 0) (.cst (.int 0))) (.cst (.int 256)))]) (.var 1))] }
def f__law_some : FnI := { params := 2, slots := 2, alloc := false, body := [.ret (.sub (.var 1) (.call 301 [(.var 0), (.blt .len [(.var 1)])]))] }
def f__law_plan : FnI := { params := 4, slots := 9, alloc := false, body := [.par [(4, false), (5, true), (6, false)] [(.bin .add (.var 1) (.call 301 [(.var 0), (.bin .add (.bin .sub (.var 2) (.var 1)) (.cst (.int 1)))])), (.dctE []), (.call 302 [(.var 0), (.lstE [(.cst (.int 2)), (.cst (.int 3)), (.cst (.int 4))])])], .forS (.name 7) (.rng1 (.var 4)) [.forS (.name 8) (.rng2 (.bin .add (.var 7) (.cst (.int 1))) (.var 4)) [.ifS (.cmp .lt (.call 301 [(.var 0), (.cst (.int 4))]) (.var 6)) [.setItem (.var 5) (.tupE [(.var 7), (.var 8)]) (.call 302 [(.var 0), (.var 3)])] []]], .ret (.tupE [(.var 4), (.var 5)])] }
def f__law_roads : FnI := { params := 1, slots := 2, alloc := false, body := [.ret (.blt .tuple [(.lc [1] (.name 1) (.blt .sorted [(.sub (.var 0) (.cst (.int 1)))]) [] (.tupE [(.sub (.var 1) (.cst (.int 0))), (.sub (.var 1) (.cst (.int 1))), (.sub (.sub (.var 0) (.cst (.int 1))) (.var 1))]))])] }
def f__law_made : FnI := { params := 1, slots := 1, alloc := false, body := [.ret (.mk 0 [(.sub (.var 0) (.cst (.int 0))), (.call 304 [(.var 0)])])] }
def f__law_hue : FnI := { params := 3, slots := 3, alloc := false, body := [.ret (.bm .get2 (.sub (.var 0) (.cst (.int 1))) [(.tupE [(.blt .min2 [(.var 1), (.var 2)]), (.blt .max2 [(.var 1), (.var 2)])]), (.cst .non)])] }
structure HasKit (T : Tab) : Prop where
  kit : T.fns 300 = some f__law_kit
  cut : T.fns 301 = some f__law_cut
  some_ : T.fns 302 = some f__law_some
  plan : T.fns 303 = some f__law_plan
  roads : T.fns 304 = some f__law_roads
  made : T.fns 305 = some f__law_made
/-- the kit in the store: its third number at most m -/
def kitO (K : Int × Int × Int) : DO := .lst [.int K.1, .int K.2.1, .int K.2.2]
def KOk (m : Nat) (K : Int × Int × Int) : Prop := 0 ≤ K.2.1 ∧ 0 ≤ K.2.2 ∧ K.2.2 ≤ m
theorem KOk.mono {m m' : Nat} {K : Int × Int × Int} (h : KOk m K) (l : m ≤ m') : KOk m' K := ⟨h.1, h.2.1, by have := h.2.2; omega⟩
theorem set_take {D : Hs} {k : Nat} {o : DO} : (D.set k o).take D.length = D.set k o := List.take_of_length_le (by simp)
theorem set_get {D : Hs} {k : Nat} {o o' : DO} (h : D[k]? = some o) : (D.set k o')[k]? = some o' := by
  have := (List.getElem?_eq_some_iff.mp h).1
  simp [this]
/-- a loop by what it has gone through -/
theorem forL_pre {α : Type} {enc : α → PV} {step : PV → Rho → Hs → Option (Fl × Rho × Hs)} (P : List α → Rho → Hs → Prop) {xs : List α} (hs : ∀ pre x suf r D, xs = pre ++ x :: suf → P pre r D → ∃ r' D', step (enc x) r D = some (.next, r', D') ∧ P (pre ++ [x]) r' D') :
    ∀ (suf pre : List α) (r : Rho) (D : Hs), xs = pre ++ suf → P pre r D → ∃ r' D', forL step (suf.map enc) r D = some (.next, r', D') ∧ P xs r' D'
  | [], pre, r, D, e, h => ⟨r, D, rfl, by rw [e, List.append_nil]; exact h⟩
  | x :: suf, pre, r, D, e, h => by
    obtain ⟨r1, D1, e1, h1⟩ := hs pre x suf r D e h
    obtain ⟨r2, D2, e2, h2⟩ := forL_pre P hs suf (pre ++ [x]) r1 D1 (by rw [e]; simp) h1
    exact ⟨r2, D2, by simp only [List.map_cons, forL, e1, e2], h2⟩
section
variable {T : Tab}
theorem c_cut (h : HasKit T) (n : Nat) (D : Hs) (k m t : Nat) (K : Int × Int × Int) (hk : D[k]? = some (kitO K)) (ok : KOk m K) (hm : m < 2 ^ 60) (t0 : 0 < t) (t1 : t < 1073741824) :
    ∃ (v : Nat) (K' : Int × Int × Int), callF T (n + 1) 301 [.ref k, natV t] D = some (natV v, false, D.set k (kitO K')) ∧ v < t ∧ KOk (m + 1) K' := by
  obtain ⟨a, b, c⟩ := K
  obtain ⟨b0, c0, c1⟩ := ok
  simp only at b0 c0 c1
  have hkl := (List.getElem?_eq_some_iff.mp hk).1
  have t0' : (0 : Int) < (t : Int) := by omega
  have t1' : (t : Int) < 1073741824 := by omega
  have hk' : D[k]? = some (.lst [.int a, .int b, .int c]) := hk
  rw [callF_succ h.cut rfl]
  by_cases hb : 0 < b
  · refine ⟨(b % t).toNat, (a, b / t, c), ?_, ?_, ?_⟩
    · have e : ((b % (t : Int)).toNat : Int) = b % t := Int.toNat_of_nonneg (Int.emod_nonneg _ (by omega))
      have hs := set_get (o' := DO.lst [.int a, .int (b / (t : Int)), .int c]) hk'
      simp [f__law_cut, exSs, exS, evE, evEs, start, deref, hk', subV, atIx, cmpV, gtR, hb, truth, bltV, divmodV, t0', t1', setItemV, PV.pure, finish, snapV, kitO, e, set_take, t0]
    · have := Int.emod_lt_of_pos b t0'
      have := Int.emod_nonneg b (show (t : Int) ≠ 0 by omega)
      omega
    · refine ⟨?_, c0, by simp only; omega⟩
      exact Int.ediv_nonneg b0 (by omega)
  · obtain rfl : b = 0 := by omega
    have sc : small64 (c + 1) = true := by
      unfold small64
      rw [Bool.and_eq_true]
      constructor <;> (apply decide_eq_true; omega)
    refine ⟨(((((a * 45007 + (c + 1) * (c + 1) * 107 + 89) % 2147482063) * (30011 + (((a * 45007 + (c + 1) * (c + 1) * 107 + 89) % 2147482063)) % 4001) + 97) % 2147482081 / 256) % t).toNat, ((((a * 45007 + (c + 1) * (c + 1) * 107 + 89) % 2147482063) * (30011 + (((a * 45007 + (c + 1) * (c + 1) * 107 + 89) % 2147482063)) % 4001) + 97) % 2147482081, 0, c + 1), ?_, ?_, ?_⟩
    · have e : ∀ x : Int, ((x % (t : Int)).toNat : Int) = x % t := fun x => Int.toNat_of_nonneg (Int.emod_nonneg _ (by omega))
      have s1 : ∀ x : Int, small64 (x % 2147482063) = true := fun x => by
        have h1 := Int.emod_nonneg x (show (2147482063 : Int) ≠ 0 by omega)
        have h2 := Int.emod_lt_of_pos x (show (0 : Int) < 2147482063 by omega)
        unfold small64
        rw [Bool.and_eq_true]
        constructor <;> (apply decide_eq_true; omega)
      have s2 : small64 45007 = true := by decide
      have s3 : small64 107 = true := by decide
      have g1 := set_get (o' := DO.lst [.int a, .int 0, .int (c + 1)]) hk'
      have d0 : deref D (.ref k) = .lst [.int a, .int 0, .int c] := by simp [deref, hk']
      have d1 : deref (D.set k (.lst [.int a, .int 0, .int (c + 1)])) (.ref k) = .lst [.int a, .int 0, .int (c + 1)] := by simp only [deref, g1]
      have di : ∀ D' i, deref D' (.int i) = .int i := fun _ _ => rfl
      have db : ∀ D' i, deref D' (.bl i) = .bl i := fun _ _ => rfl
      have q0 : ∀ x y z : Int, subV (.lst [.int x, .int y, .int z]) (.int 0) = some (.int x) := fun x y z => rfl
      have q1 : ∀ x y z : Int, subV (.lst [.int x, .int y, .int z]) (.int 1) = some (.int y) := fun x y z => rfl
      have q2 : ∀ x y z : Int, subV (.lst [.int x, .int y, .int z]) (.int 2) = some (.int z) := fun x y z => rfl
      generalize hM : (a * 45007 + (c + 1) * (c + 1) * 107 + 89) % 2147482063 = M at *
      have sM : small64 M = true := by rw [← hM]; exact s1 _
      generalize hN : (M * (30011 + M % 4001) + 97) % 2147482081 = N at *
      have g2 : ((D.set k (.lst [.int a, .int 0, .int (c + 1)])).set k (.lst [.int N, .int 0, .int (c + 1)])) = D.set k (.lst [.int N, .int 0, .int (c + 1)]) := by rw [List.set_set]
      have g3 := set_get (o' := DO.lst [.int N, .int 0, .int (c + 1)]) hk'
      have d2 : deref (D.set k (.lst [.int N, .int 0, .int (c + 1)])) (.ref k) = .lst [.int N, .int 0, .int (c + 1)] := by simp only [deref, g3]
      have body : exSs T (callF T n) f__law_cut.body (start f__law_cut [.ref k, natV t]) D = some (.ret (.int ((N / 256) % t)) false, [some (.ref k), some (natV t), none, some (.int M)], D.set k (.lst [.int N, .int 0, .int (c + 1)])) := by
        refine x_next (r1 := [some (.ref k), some (natV t), none, none]) (D1 := D) (x_if (v := .bl false) (fr := false) (t := false) (D1 := D) ?_ rfl rfl) ?_
        · simp only [start, f__law_cut, List.map_cons, List.map_nil, List.cons_append, List.nil_append, evE, List.getElem?_cons_succ, List.getElem?_cons_zero, d0, di, q1, Option.map_some, cmpV, gtR]
          rfl
        refine x_next (r1 := [some (.ref k), some (natV t), none, none]) (D1 := D.set k (.lst [.int a, .int 0, .int (c + 1)])) ?_ ?_
        · simp only [exS, evE, List.getElem?_cons_succ, List.getElem?_cons_zero, d0, di, q2, Option.map_some, binV, addV, setItemV, hk', List.length_cons, List.length_nil]
          rfl
        refine x_next (r1 := [some (.ref k), some (natV t), none, some (.int M)]) (D1 := D.set k (.lst [.int a, .int 0, .int (c + 1)])) ?_ ?_
        · simp only [exS, evE, evEs, List.getElem?_cons_succ, List.getElem?_cons_zero, d1, di, q0, q2, Option.map_some, binV, addV, mulV, s2, s3, sc, Bool.or_true, Bool.true_or, if_true, bltV, intV, List.map_cons, List.map_nil, Int.reduceLT, hM, List.set_cons_succ, List.set_cons_zero]
        refine x_next (r1 := [some (.ref k), some (natV t), none, some (.int M)]) (D1 := D.set k (.lst [.int N, .int 0, .int (c + 1)])) ?_ ?_
        · simp only [exS, evE, evEs, List.getElem?_cons_succ, List.getElem?_cons_zero, di, Option.map_some, binV, addV, mulV, sM, Bool.true_or, if_true, bltV, intV, List.map_cons, List.map_nil, Int.reduceLT, hN, setItemV, g1]
          simp [atIx, PV.pure]
        refine x_stop (x_ret ?_)
        simp only [evE, evEs, List.getElem?_cons_succ, List.getElem?_cons_zero, d2, di, q0, Option.map_some, binV, bltV, intV, List.map_cons, List.map_nil, Int.reduceLT, and_self, if_true, t0']
      rw [body]
      simp only [finish, f__law_cut, snapV, Option.map_some, set_take, kitO, Bool.false_eq_true, if_false, natV, e]
    · have h1 := Int.emod_nonneg (((((a * 45007 + (c + 1) * (c + 1) * 107 + 89) % 2147482063) * (30011 + (((a * 45007 + (c + 1) * (c + 1) * 107 + 89) % 2147482063)) % 4001) + 97) % 2147482081 / 256)) (show (t : Int) ≠ 0 by omega)
      have h2 := Int.emod_lt_of_pos (((((a * 45007 + (c + 1) * (c + 1) * 107 + 89) % 2147482063) * (30011 + (((a * 45007 + (c + 1) * (c + 1) * 107 + 89) % 2147482063)) % 4001) + 97) % 2147482081 / 256)) t0'
      omega
    · exact ⟨by simp, by simp only; omega, by simp only; omega⟩
/-- one of a list, a text -/
theorem c_some (h : HasKit T) (n : Nat) (D : Hs) (k m : Nat) (K : Int × Int × Int) (menu : PV) (items : List PV) (hk : D[k]? = some (kitO K)) (ok : KOk m K) (hm : m < 2 ^ 60) (hi : (menu = .lst items) ∨ ∃ s : List Nat, menu = .str s ∧ items = s.map chV) (i0 : items ≠ []) (i1 : items.length < 1000) (hp : ∀ x ∈ items, ∀ n' D', snapV n' D' x = some x) (hr : ∀ x ∈ items, ∀ j, x ≠ .ref j) :
    ∃ (v : PV) (K' : Int × Int × Int), callF T (n + 2) 302 [.ref k, menu] D = some (v, false, D.set k (kitO K')) ∧ v ∈ items ∧ KOk (m + 1) K' := by
  have l0 : 0 < items.length := List.length_pos_iff.mpr i0
  obtain ⟨v, K', e, hv, ok'⟩ := c_cut h n D k m items.length K hk ok hm l0 (by omega)
  have hat : items[v]? = some items[v] := List.getElem?_eq_getElem hv
  refine ⟨items[v], K', ?_, List.getElem_mem hv, ok'⟩
  have dm : ∀ D', deref D' menu = menu := fun D' => by
    rcases hi with rfl | ⟨s, rfl, _⟩ <;> rfl
  have hlen : lenV [menu] = some (natV items.length, false) := by
    rcases hi with rfl | ⟨s, rfl, rfl⟩
    · rfl
    · rw [List.length_map] at i1 ⊢
      simp only [lenV]
      rw [if_pos (by unfold sizeL; omega)]
  have ix : atIx items.length (v : Int) = some v := by
    unfold atIx
    rw [if_pos (by omega)]; rw [if_pos (by omega)]
    simp
  have hsub : subV menu (natV v) = some items[v] := by
    rcases hi with rfl | ⟨s, rfl, rfl⟩
    · simp only [subV, ix, Option.bind_some, hat]
    · rw [List.length_map] at ix i1
      simp only [subV, ix, Option.bind_some]
      rw [if_pos (by unfold sizeL; omega)]
      have : s[v]?.map chV = some (s.map chV)[v] := by rw [← List.getElem?_map, hat]
      exact this
  refine f_ret h.some_ rfl (v := items[v]) (fr := false) (r1 := [some (.ref k), some menu]) (D1 := D.set k (kitO K')) (x_stop (x_ret ?_)) ?_
  · have ec : evE T (callF T (n + 1)) (.call 301 [(.var 0), (.blt .len [(.var 1)])]) [some (.ref k), some menu] D = some (natV v, false, D.set k (kitO K')) := by
      refine e_call (es_cons (e_var rfl) (es_cons (v := natV items.length) (fr := false) (D1 := D) ?_ es_nil)) e
      simp only [evE, evEs, List.getElem?_cons_succ, List.getElem?_cons_zero, List.map_cons, List.map_nil, dm, bltV, hlen, Option.map_some]
    have dv : ∀ D', deref D' (natV v) = natV v := fun _ => rfl
    show evE T (callF T (n + 1)) (.sub (.var 1) (.call 301 [(.var 0), (.blt .len [(.var 1)])])) [some (.ref k), some menu] D = _
    unfold evE
    simp only [e_var (T := T) (cf := callF T (n + 1)) (r := [some (.ref k), some menu]) (D := D) (i := 1) rfl, ec, dm, dv, hsub, Option.map_some]
  · have hs := hp _ (List.getElem_mem hv) D.length (D.set k (kitO K'))
    have nr := hr _ (List.getElem_mem hv)
    unfold finish
    simp only [f__law_some, Bool.false_eq_true, if_false]
    cases e2 : items[v] with
    | ref j => exact absurd e2 (nr j)
    | _ => rw [e2] at hs; simp only [hs, Option.map_some, set_take]
end
end HT
namespace HT
def planV (G : Nt) : PV := .tup [natV G.n, .dct (huesV G.rs)]
def signsOk (s : List Nat) : Prop := s ≠ [] ∧ s.length < 1000 ∧ ∀ c ∈ s, 97 ≤ c ∧ c ≤ 102
/-- roads of pairs ahead of (i, j) -/
structure Upto (size i j : Nat) (signs : List Nat) (rs : List Road) : Prop where
  rd : ∀ q ∈ rs, roadOk size q
  asc : rs.Pairwise pairLt
  lt : ∀ q ∈ rs, q.1 < i ∨ (q.1 = i ∧ q.2.1 < j)
  sg : ∀ q ∈ rs, q.2.2 ∈ signs
section
variable {T : Tab} {D0 : Hs} {k : Nat}
theorem two_get (hk : k < D0.length) (K : Int × Int × Int) (x : DO) : (D0.set k (kitO K) ++ [x])[k]? = some (kitO K) := by
  rw [List.getElem?_append_left (by simpa using hk)]
  simp [hk]
theorem two_set (hk : k < D0.length) (K K' : Int × Int × Int) (x : DO) : (D0.set k (kitO K) ++ [x]).set k (kitO K') = D0.set k (kitO K') ++ [x] := by
  rw [List.set_append_left _ _ (by simpa using hk), List.set_set]
theorem two_top (K : Int × Int × Int) (x : DO) : (D0.set k (kitO K) ++ [x])[D0.length]? = some x := by
  rw [List.getElem?_append_right (by simp)]
  simp
theorem two_put (K : Int × Int × Int) (x y : DO) : (D0.set k (kitO K) ++ [x]).set D0.length y = D0.set k (kitO K) ++ [y] := by
  rw [List.set_append_right _ _ (by simp)]
  simp
theorem plan_turn (h : HasKit T) (n : Nat) (hk : k < D0.length) (m : Nat) (hm : m < 2 ^ 50) (K : Int × Int × Int) (ok : KOk m K) (signs : List Nat) (sok : signsOk signs) (size i j dense : Nat) (hij : i < j) (hj : j < size) (s9 : size ≤ 9) (rs : List Road) (u : Upto size i j signs rs) (a1 a2 : Option PV) :
    ∃ K' rs', exSs T (callF T (n + 2)) [.ifS (.cmp .lt (.call 301 [(.var 0), (.cst (.int 4))]) (.var 6)) [.setItem (.var 5) (.tupE [(.var 7), (.var 8)]) (.call 302 [(.var 0), (.var 3)])] []] [some (.ref k), a1, a2, some (.str signs), some (natV size), some (.ref D0.length), some (natV dense), some (natV i), some (natV j)] (D0.set k (kitO K) ++ [.dct (huesV rs)]) = some (.next, [some (.ref k), a1, a2, some (.str signs), some (natV size), some (.ref D0.length), some (natV dense), some (natV i), some (natV j)], D0.set k (kitO K') ++ [.dct (huesV rs')]) ∧ KOk (m + 2) K' ∧ Upto size i (j + 1) signs rs' := by
  obtain ⟨v, K1, e1, hv, ok1⟩ := c_cut h (n + 1) (D0.set k (kitO K) ++ [.dct (huesV rs)]) k m 4 K (two_get hk K _) ok (by omega) (by omega) (by omega)
  rw [two_set hk] at e1
  have hn : (D0.set k (kitO K) ++ [DO.dct (huesV rs)]).length = D0.length + 1 := by simp
  have cnd : evE T (callF T (n + 2)) (.cmp .lt (.call 301 [(.var 0), (.cst (.int 4))]) (.var 6)) [some (.ref k), a1, a2, some (.str signs), some (natV size), some (.ref D0.length), some (natV dense), some (natV i), some (natV j)] (D0.set k (kitO K) ++ [.dct (huesV rs)]) = some (.bl (decide (v < dense)), false, D0.set k (kitO K1) ++ [.dct (huesV rs)]) := by
    have e1' : callF T (n + 2) 301 [.ref k, .int 4] (D0.set k (kitO K) ++ [.dct (huesV rs)]) = some (natV v, false, D0.set k (kitO K1) ++ [.dct (huesV rs)]) := e1
    simp only [evE, evEs, List.getElem?_cons_succ, List.getElem?_cons_zero, e1', deref, cmpV, ltR, Option.map_some]
    by_cases q : v < dense
    · rw [decide_eq_true q, decide_eq_true (by omega)]
    · rw [decide_eq_false q, decide_eq_false (by omega)]
  by_cases q : v < dense
  · obtain ⟨x, K2, e2, hx, ok2⟩ := c_some h n (D0.set k (kitO K1) ++ [.dct (huesV rs)]) k (m + 1) K1 (.str signs) (signs.map chV) (two_get hk K1 _) ok1 (by omega) (.inr ⟨signs, rfl, rfl⟩) (by simpa using sok.1) (by simpa using sok.2.1) (fun x hx n' D' => by
      obtain ⟨c, _, rfl⟩ := List.mem_map.mp hx
      simp [snapV]) (fun x hx j => by
      obtain ⟨c, _, rfl⟩ := List.mem_map.mp hx
      simp)
    rw [two_set hk] at e2
    obtain ⟨c, hc, rfl⟩ := List.mem_map.mp hx
    have new : ∀ b ∈ rs, pairLt b (i, j, c) := fun b hb => by
      rcases u.lt b hb with z | z
      · exact .inl z
      · exact .inr z
    have hany := hues_any (a := (i, j, c)) new
    have hput : dPut (pairK i j) (chV c) (huesV rs) = huesV (rs ++ [(i, j, c)]) := by
      unfold dPut
      rw [if_neg (by rw [hany]; simp)]
      simp [huesV]
    have u' : Upto size i (j + 1) signs (rs ++ [(i, j, c)]) := by
      refine ⟨fun p hp => ?_, ?_, fun p hp => ?_, fun p hp => ?_⟩
      · rcases List.mem_append.mp hp with z | z
        · exact u.rd p z
        · simp at z; subst z; exact ⟨hij, hj, (sok.2.2 c hc)⟩
      · rw [List.pairwise_append]
        exact ⟨u.asc, by simp, fun a ha b hb => by simp at hb; subst hb; exact new a ha⟩
      · rcases List.mem_append.mp hp with z | z
        · rcases u.lt p z with y | y
          · exact .inl y
          · exact .inr ⟨y.1, by omega⟩
        · simp at z; subst z; exact .inr ⟨rfl, by simp⟩
      · rcases List.mem_append.mp hp with z | z
        · exact u.sg p z
        · simp at z; subst z; exact hc
    have hlen : (huesV rs).length < sizeL := by
      unfold huesV
      rw [List.length_map]
      have := lt_len u.rd u.asc
      have : size * size ≤ 9 * 9 := Nat.mul_le_mul s9 s9
      unfold sizeL
      omega
    refine ⟨K2, rs ++ [(i, j, c)], ?_, ok2, u'⟩
    refine x_next (x_if (t := true) cnd (by rw [decide_eq_true q]; rfl) (x_next (r1 := [some (.ref k), a1, a2, some (.str signs), some (natV size), some (.ref D0.length), some (natV dense), some (natV i), some (natV j)]) (D1 := D0.set k (kitO K2) ++ [.dct (huesV (rs ++ [(i, j, c)]))]) ?_ rfl)) rfl
    simp only [exS, evE, evEs, List.getElem?_cons_succ, List.getElem?_cons_zero, e2, List.length_cons, List.length_nil]
    rw [if_pos (by decide)]
    simp only [setItemV, two_top, keyFits_hues, PV.pure, Bool.and_self, Bool.true_and, decide_eq_true hlen, if_true, hput, two_put]
  · refine ⟨K1, rs, ?_, ok1.mono (by omega), ⟨u.rd, u.asc, fun p hp => ?_, u.sg⟩⟩
    · exact x_next (x_if (t := false) cnd (by rw [decide_eq_false q]; rfl) rfl) rfl
    · rcases u.lt p hp with y | y
      · exact .inl y
      · exact .inr ⟨y.1, by omega⟩
theorem range'_at {a len : Nat} {pre suf : List Nat} {x : Nat} (e : List.range' a len = pre ++ x :: suf) : x = a + pre.length ∧ pre.length < len := by
  have h1 : (List.range' a len)[pre.length]? = some x := by rw [e]; simp
  have hl : pre.length < len := by
    have := (List.getElem?_eq_some_iff.mp h1).1
    simpa using this
  rw [List.getElem?_range' hl] at h1
  simp at h1
  omega
theorem c_plan (h : HasKit T) (n : Nat) (K : Int × Int × Int) (m : Nat) (hm : m < 2 ^ 40) (hk : D0[k]? = some (kitO K)) (ok : KOk m K) (least most : Nat) (l1 : 1 ≤ least) (l2 : least ≤ most) (l3 : most ≤ 9) (signs : List Nat) (sok : signsOk signs) :
    ∃ (G : Nt) (K' : Int × Int × Int), callF T (n + 3) 303 [.ref k, natV least, natV most, .str signs] D0 = some (planV G, false, D0.set k (kitO K')) ∧ least ≤ G.n ∧ G.n ≤ most ∧ G.Ok ∧ (∀ q ∈ G.rs, q.2.2 ∈ signs) ∧ KOk (m + 300) K' := by
  have hkl := (List.getElem?_eq_some_iff.mp hk).1
  obtain ⟨v, K1, e1, hv, ok1⟩ := c_cut h (n + 1) D0 k m (most - least + 1) K hk ok (by omega) (by omega) (by omega)
  have tc : (natV (most - least + 1)) = .int ((most : Int) - (least : Int) + 1) := by
    show PV.int _ = PV.int _
    congr 1
    omega
  rw [tc] at e1
  obtain ⟨x, K2, e2, hx, ok2⟩ := c_some h n (D0.set k (kitO K1) ++ [.dct []]) k (m + 1) K1 (.lst [.int 2, .int 3, .int 4]) [.int 2, .int 3, .int 4] (two_get hkl K1 _) ok1 (by omega) (.inl rfl) (by simp) (by simp) (fun x hx n' D' => by
    simp only [or_false, List.not_mem_nil, List.mem_cons] at hx
    rcases hx with rfl | rfl | rfl <;> simp [snapV]) (fun x hx j => by
    simp only [or_false, List.not_mem_nil, List.mem_cons] at hx
    rcases hx with rfl | rfl | rfl <;> simp)
  rw [two_set hkl] at e2
  have hd : ∃ dense : Nat, x = natV dense := by
    simp only [or_false, List.not_mem_nil, List.mem_cons] at hx
    rcases hx with rfl | rfl | rfl
    · exact ⟨2, rfl⟩
    · exact ⟨3, rfl⟩
    · exact ⟨4, rfl⟩
  obtain ⟨dense, rfl⟩ := hd
  have s9 : least + v ≤ 9 := by omega
  obtain ⟨r', D', e3, K3, rs, o7, o8, rfl, rfl, ok3, u3⟩ := forL_pre (enc := natV) (step := fun x r D => match tgtV (.name 7) x r with
      | none => none
      | some r' => exSs T (callF T (n + 2)) [.forS (.name 8) (.rng2 (.bin .add (.var 7) (.cst (.int 1))) (.var 4)) [.ifS (.cmp .lt (.call 301 [(.var 0), (.cst (.int 4))]) (.var 6)) [.setItem (.var 5) (.tupE [(.var 7), (.var 8)]) (.call 302 [(.var 0), (.var 3)])] []]] r' D)
    (fun pre r D => ∃ K rs o7 o8, r = [some (.ref k), some (natV least), some (natV most), some (.str signs), some (natV (least + v)), some (.ref D0.length), some (natV dense), o7, o8] ∧ D = D0.set k (kitO K) ++ [.dct (huesV rs)] ∧ KOk (m + 2 + 20 * pre.length) K ∧ Upto (least + v) pre.length 0 signs rs) (xs := List.range' 0 (least + v))
    (fun pre i suf r D ex z => by
      obtain ⟨K, rs, o7, o8, rfl, rfl, okK, u⟩ := z
      obtain ⟨rfl, hlt⟩ := range'_at ex
      rw [Nat.zero_add] at *
      obtain ⟨r2, D2, e4, K4, rs4, o8', rfl, rfl, ok4, u4⟩ := forL_pre (enc := natV) (step := fun x r D => match tgtV (.name 8) x r with
          | none => none
          | some r' => exSs T (callF T (n + 2)) [.ifS (.cmp .lt (.call 301 [(.var 0), (.cst (.int 4))]) (.var 6)) [.setItem (.var 5) (.tupE [(.var 7), (.var 8)]) (.call 302 [(.var 0), (.var 3)])] []] r' D)
        (fun pre2 r D => ∃ K rs o8, r = [some (.ref k), some (natV least), some (natV most), some (.str signs), some (natV (least + v)), some (.ref D0.length), some (natV dense), some (natV pre.length), o8] ∧ D = D0.set k (kitO K) ++ [.dct (huesV rs)] ∧ KOk (m + 2 + 20 * pre.length + 2 * pre2.length) K ∧ Upto (least + v) pre.length (pre.length + 1 + pre2.length) signs rs) (xs := List.range' (pre.length + 1) (least + v - (pre.length + 1)))
        (fun pre2 j suf2 r D ex2 z => by
          obtain ⟨K, rs, o8, rfl, rfl, okK, u⟩ := z
          obtain ⟨rfl, hlt2⟩ := range'_at ex2
          obtain ⟨K', rs', e5, ok5, u5⟩ := plan_turn h n hkl (m + 2 + 20 * pre.length + 2 * pre2.length) (by omega) K okK signs sok (least + v) pre.length (pre.length + 1 + pre2.length) dense (by omega) (by omega) s9 rs u (some (natV least)) (some (natV most))
          refine ⟨_, _, e5, K', rs', _, rfl, rfl, ?_, ?_⟩
          · simp only [List.length_singleton, List.length_append]
            exact ok5.mono (by omega)
          · simp only [List.length_singleton, List.length_append]
            exact u5) (List.range' (pre.length + 1) (least + v - (pre.length + 1))) [] [some (.ref k), some (natV least), some (natV most), some (.str signs), some (natV (least + v)), some (.ref D0.length), some (natV dense), some (natV pre.length), o8] (D0.set k (kitO K) ++ [.dct (huesV rs)]) rfl ⟨K, rs, o8, rfl, rfl, okK, ⟨u.rd, u.asc, fun q hq => by
            rcases u.lt q hq with y | y
            · exact .inl y
            · omega, u.sg⟩⟩
      refine ⟨_, _, ?_, K4, rs4, some (natV pre.length), o8', rfl, rfl, ?_, ⟨u4.rd, u4.asc, fun q hq => ?_, u4.sg⟩⟩
      · simp only [tgtV, List.set_cons_succ, List.set_cons_zero]
        refine x_next (x_for (src := .lst ((List.range' (pre.length + 1) (least + v - (pre.length + 1))).map natV)) (fr := false) (D1 := D0.set k (kitO K) ++ [.dct (huesV rs)]) ?_ (by simp) rfl e4) rfl
        have e0 : (((least + v : Nat) : Int) - ((pre.length : Int) + 1)).toNat = least + v - (pre.length + 1) := by omega
        have e9 := rangeL_eq (least + v - (pre.length + 1)) (pre.length + 1)
        rw [show ((pre.length + 1 : Nat) : Int) = (pre.length : Int) + 1 by omega] at e9
        simp only [evE, List.getElem?_cons_succ, List.getElem?_cons_zero, deref, binV, addV, Option.map_some, e0, e9]
        rw [if_pos (by omega)]
      · simp only [List.length_singleton, List.length_append]
        rw [List.length_range'] at ok4
        exact ok4.mono (by omega)
      · simp only [List.length_singleton, List.length_append]
        have o := (u4.rd q hq).2.1
        rcases u4.lt q hq with y | y
        · exact .inl (by omega)
        · exact .inl (by omega)) (List.range' 0 (least + v)) [] [some (.ref k), some (natV least), some (natV most), some (.str signs), some (natV (least + v)), some (.ref D0.length), some (natV dense), none, none] (D0.set k (kitO K2) ++ [.dct (huesV [])]) rfl ⟨K2, [], none, none, rfl, rfl, by simpa using ok2, ⟨by simp, by simp, by simp, by simp⟩⟩
  rw [List.length_range'] at ok3 u3
  refine ⟨⟨least + v, rs⟩, K3, ?_, by simp, by simp only; omega, ⟨by simp only; omega, s9, u3.rd, u3.asc⟩, u3.sg, ok3.mono (by omega)⟩
  refine f_ret h.plan rfl (v := .tup [natV (least + v), .ref D0.length]) (fr := false) (r1 := [some (.ref k), some (natV least), some (natV most), some (.str signs), some (natV (least + v)), some (.ref D0.length), some (natV dense), o7, o8]) (D1 := D0.set k (kitO K3) ++ [.dct (huesV rs)]) ?_ ?_
  · refine x_next (r1 := [some (.ref k), some (natV least), some (natV most), some (.str signs), some (natV (least + v)), some (.ref D0.length), some (natV dense), none, none]) (D1 := D0.set k (kitO K2) ++ [.dct []]) ?_ ?_
    · have a1 : evE T (callF T (n + 2)) (.bin .add (.var 1) (.call 301 [(.var 0), (.bin .add (.bin .sub (.var 2) (.var 1)) (.cst (.int 1)))])) [some (.ref k), some (natV least), some (natV most), some (.str signs), none, none, none, none, none] D0 = some (natV (least + v), false, D0.set k (kitO K1)) := by
        have ea : evE T (callF T (n + 2)) (.call 301 [(.var 0), (.bin .add (.bin .sub (.var 2) (.var 1)) (.cst (.int 1)))]) [some (.ref k), some (natV least), some (natV most), some (.str signs), none, none, none, none, none] D0 = some (natV v, false, D0.set k (kitO K1)) := by
          refine e_call (es_cons (e_var rfl) (es_cons (v := .int ((most : Int) - (least : Int) + 1)) (fr := false) (D1 := D0) ?_ es_nil)) e1
          simp only [evE, List.getElem?_cons_succ, List.getElem?_cons_zero, deref, binV, addV, Option.map_some]
        unfold evE
        simp only [e_var (T := T) (cf := callF T (n + 2)) (r := [some (.ref k), some (natV least), some (natV most), some (.str signs), none, none, none, none, none]) (D := D0) (i := 1) rfl, ea, deref, binV, addV, Option.map_some]
        show some (PV.int _, false, _) = some (PV.int _, false, _)
        congr 3
      have a3 : evE T (callF T (n + 2)) (.call 302 [(.var 0), (.lstE [(.cst (.int 2)), (.cst (.int 3)), (.cst (.int 4))])]) [some (.ref k), some (natV least), some (natV most), some (.str signs), none, none, none, none, none] (D0.set k (kitO K1) ++ [.dct []]) = some (natV dense, false, D0.set k (kitO K2) ++ [.dct []]) := by
        refine e_call (es_cons (e_var rfl) (es_cons (v := .lst [.int 2, .int 3, .int 4]) (fr := true) (D1 := D0.set k (kitO K1) ++ [.dct []]) ?_ es_nil)) e2
        simp [evE, evEs, sizeL]
      have hl : (D0.set k (kitO K1)).length = D0.length := by simp
      have nd : heapV (.dct []) true (D0.set k (kitO K1)) = some (.ref D0.length, D0.set k (kitO K1) ++ [.dct []]) := by
        simp [heapV, pureKv]
      exact x_par (p_val a1 (p_new (v := .dct []) (fr := true) (by simp [evE]) nd (p_val a3 p_nil))) rfl
    refine x_next (x_for (src := .lst ((List.range' 0 (least + v)).map natV)) (fr := false) (D1 := D0.set k (kitO K2) ++ [.dct []]) ?_ (by simp) rfl e3) ?_
    · have e9 := rangeL_eq (least + v) 0
      have e0 : ((least + v : Nat) : Int).toNat = least + v := by omega
      simp only [evE, List.getElem?_cons_succ, List.getElem?_cons_zero, e0]
      rw [if_pos (by omega)]
      exact congrArg (fun l => some (PV.lst l, false, D0.set k (kitO K2) ++ [DO.dct []])) e9
    exact x_stop (x_ret (by simp [evE, evEs, sizeL]))
  · have ht : (D0.set k (kitO K3) ++ [DO.dct (huesV rs)]).take D0.length = D0.set k (kitO K3) := by
      rw [List.take_append_of_le_length (by simp)]
      exact set_take
    have sn : snapV D0.length (D0.set k (kitO K3) ++ [DO.dct (huesV rs)]) (.tup [natV (least + v), .ref D0.length]) = some (planV ⟨least + v, rs⟩) := by
      simp [snapV, snapAll, two_top, planV]
    simp only [f__law_plan, finish, Bool.false_eq_true, if_false, sn, Option.map_some, ht]
end
end HT
namespace HT
theorem sortP_id : ∀ {l : List (List Nat)}, l.Pairwise (fun a b => ltP b a = false) → sortP l = l
  | [], _ => rfl
  | x :: l, h => by
    have ⟨h1, h2⟩ := List.pairwise_cons.mp h
    rw [sortP, sortP_id h2]
    cases l with
    | nil => rfl
    | cons y r =>
      unfold insP
      rw [h1 y (by simp)]
      rfl
theorem ltP_pair {a b : Road} (h : pairLt a b) : ltP [b.1, b.2.1] [a.1, a.2.1] = false := by
  unfold ltP ltP
  rcases h with h | ⟨h1, h2⟩
  · rw [if_neg (by omega)]
    apply decide_eq_false; omega
  · rw [if_pos h1.symm, if_neg (by omega)]
    apply decide_eq_false; omega
theorem hueAt_mem : ∀ {rs : List Road}, rs.Pairwise pairLt → ∀ q ∈ rs, hueAt rs q.1 q.2.1 = some q.2.2
  | [], _, q, hq => by cases hq
  | p :: rs, asc, q, hq => by
    obtain ⟨h1, h2⟩ := List.pairwise_cons.mp asc
    unfold hueAt
    rw [List.find?_cons]
    obtain rfl | hq := List.mem_cons.mp hq
    · simp
    · have ne : (p.1 == q.1 && p.2.1 == q.2.1) = false := by
        rw [Bool.eq_false_iff]
        intro z
        simp only [Bool.and_eq_true, beq_iff_eq] at z
        rcases h1 q hq with y | y <;> omega
      rw [ne]
      exact hueAt_mem h2 q hq
theorem snap_roads (n : Nat) (D : Hs) : ∀ l : List Road, snapAll n D (l.map roadV) = some (l.map roadV)
  | [] => by simp [snapAll]
  | x :: l => by simp [snapAll, snapV, snap_roads n D l]
theorem snap_net (n : Nat) (D : Hs) (G : Nt) : snapV n D (netV G) = some (netV G) := by
  simp [snapV, netV, pureFs, PV.pure, pure_roads, pure_hues]
structure HasHue (T : Tab) : Prop where
  hue : T.fns 306 = some f__law_hue
section
variable {T : Tab}
theorem plan_1 (D : Hs) (G : Nt) : subV (planV G) (.int 1) = some (.dct (huesV G.rs)) := by simp [planV, subV, atIx]
theorem plan_0 (D : Hs) (G : Nt) : subV (planV G) (.int 0) = some (natV G.n) := by simp [planV, subV, atIx]
theorem c_roads (h : HasKit T) (n : Nat) (G : Nt) (ok : G.Ok) (D : Hs) : callF T (n + 1) 304 [planV G] D = some (.tup (G.rs.map roadV), false, D) := by
  have hl : G.rs.length ≤ sizeL := by
    have := lt_len ok.rd ok.asc
    have : G.n * G.n ≤ 9 * 9 := Nat.mul_le_mul ok.n9 ok.n9
    unfold sizeL
    omega
  have ks : sortV ((huesV G.rs).map (·.1)) = some ((G.rs.map fun q => [q.1, q.2.1]).map placesV) := by
    have e : (huesV G.rs).map (·.1) = (G.rs.map fun q => [q.1, q.2.1]).map placesV := by
      simp [huesV, List.map_map, Function.comp_def]
    rw [e, sort_places (fun p hp => by
      obtain ⟨q, _, rfl⟩ := List.mem_map.mp hp
      simp) (by rw [List.length_map]; exact hl)]
    rw [sortP_id]
    rw [List.pairwise_map]
    exact ok.asc.imp fun h => ltP_pair h
  have dp : ∀ D', deref D' (planV G) = planV G := fun _ => rfl
  have dd : ∀ D' kv, deref D' (.dct kv) = .dct kv := fun _ _ => rfl
  have di : ∀ D' i, deref D' (.int i) = .int i := fun _ _ => rfl
  have it : evE T (callF T n) (.blt .sorted [(.sub (.var 0) (.cst (.int 1)))]) [some (planV G), none] D = some (.lst ((G.rs.map fun q => [q.1, q.2.1]).map placesV), true, D) := by
    simp only [evE, evEs, List.getElem?_cons_succ, List.getElem?_cons_zero, dp, di, plan_1 D G, Option.map_some, List.map_cons, List.map_nil, dd, bltV, sortedV, ks]
  have lc := e_lc (T := T) (cf := callF T n) (D := D) (D1 := D) (r := [some (planV G), none]) (own := [1]) (t := .name 1) (conds := []) (elt := .tupE [(.sub (.var 1) (.cst (.int 0))), (.sub (.var 1) (.cst (.int 1))), (.sub (.sub (.var 0) (.cst (.int 1))) (.var 1))]) (enc := fun q : Road => pairK q.1 q.2.1) (xs := G.rs)
    (fun q => [some (planV G), some (pairK q.1 q.2.1)]) (fun _ => true) roadV it (by simp) (by simp [itemsOf, List.map_map, Function.comp_def]) (fun q _ => by simp [tgtV, wipeR]) (fun q _ => by simp [evTs]) (fun q hq _ => ⟨false, by
      have s0 : subV (pairK q.1 q.2.1) (.int 0) = some (natV q.1) := rfl
      have s1 : subV (pairK q.1 q.2.1) (.int 1) = some (natV q.2.1) := rfl
      have s2 : subV (.dct (huesV G.rs)) (pairK q.1 q.2.1) = some (chV q.2.2) := by
        simp only [subV, keyFits_hues, if_true, dFind_hues, hueAt_mem ok.asc q hq, Option.map_some]
      have dk : ∀ D', deref D' (pairK q.1 q.2.1) = pairK q.1 q.2.1 := fun _ => rfl
      simp only [evE, evEs, List.getElem?_cons_succ, List.getElem?_cons_zero, dk, dp, di, dd, s0, s1, s2, plan_1 D G, Option.map_some, List.length_cons, List.length_nil]
      rw [if_pos (by decide)]⟩) hl
  rw [List.filter_eq_self.mpr (fun _ _ => rfl)] at lc
  refine f_ret h.roads rfl (v := .tup (G.rs.map roadV)) (fr := false) (r1 := [some (planV G), none]) (D1 := D) (x_stop (x_ret ?_)) (by simp [f__law_roads, finish, snapV, snap_roads])
  show evE T (callF T n) (.blt .tuple [_]) [some (planV G), none] D = _
  have dl : deref D (.lst (G.rs.map roadV)) = .lst (G.rs.map roadV) := rfl
  unfold evE
  rw [es_cons lc es_nil]
  simp only [List.map_cons, List.map_nil, dl, bltV, tupleV, Option.map_some]
theorem c_made (hn : HasNets T) (h : HasKit T) (n : Nat) (G : Nt) (ok : G.Ok) (D : Hs) : callF T (n + 6) 305 [planV G] D = some (netV G, false, D) := by
  have dp : ∀ D', deref D' (planV G) = planV G := fun _ => rfl
  have di : ∀ D' i, deref D' (.int i) = .int i := fun _ _ => rfl
  have cr := c_roads h (n + 4) G ok D
  refine f_ret h.made rfl (v := netV G) (fr := false) (r1 := [some (planV G)]) (D1 := D) (x_stop (x_ret ?_)) ?_
  · refine e_net hn n G ok (es_cons (v := natV G.n) (fr := false) (D1 := D) ?_ (es_cons (fr := false) (D1 := D) (e_call (es_cons (e_var rfl) es_nil) cr) es_nil))
    simp only [f__law_made, start, List.map_cons, List.map_nil, List.cons_append, List.nil_append, evE, List.getElem?_cons_zero, dp, di, plan_0 D G, Option.map_some]
  · have sn := snap_net D.length D G
    simp only [netV] at sn
    simp [f__law_made, finish, netV, sn]
theorem c_hueL (h : HasHue T) (n : Nat) (G : Nt) (i j : Nat) (D : Hs) : callF T (n + 1) 306 [planV G, natV i, natV j] D = some (optV (G.hue i j), false, D) := by
  have dp : ∀ D', deref D' (planV G) = planV G := fun _ => rfl
  have di : ∀ D' i, deref D' (.int i) = .int i := fun _ _ => rfl
  have dd : ∀ D' kv, deref D' (.dct kv) = .dct kv := fun _ _ => rfl
  have e1 : (if (j : Int) < i then (j : Int) else i) = ((min i j : Nat) : Int) := by split <;> omega
  have e2 : (if (j : Int) > i then (j : Int) else i) = ((max i j : Nat) : Int) := by split <;> omega
  refine f_ret h.hue rfl (v := optV (G.hue i j)) (fr := false) (r1 := [some (planV G), some (natV i), some (natV j)]) (D1 := D) (x_stop (x_ret ?_)) ?_
  · show evE T (callF T n) (.bm .get2 (.sub (.var 0) (.cst (.int 1))) [(.tupE [(.blt .min2 [(.var 1), (.var 2)]), (.blt .max2 [(.var 1), (.var 2)])]), (.cst .non)]) [some (planV G), some (natV i), some (natV j)] D = _
    have ek : evE T (callF T n) (.tupE [(.blt .min2 [(.var 1), (.var 2)]), (.blt .max2 [(.var 1), (.var 2)])]) [some (planV G), some (natV i), some (natV j)] D = some (pairK (min i j) (max i j), false, D) := by
      simp only [evE, evEs, List.getElem?_cons_succ, List.getElem?_cons_zero, List.map_cons, List.map_nil, di, bltV, minV, maxV, e1, e2, Option.map_some, List.length_cons, List.length_nil]
      rw [if_pos (by decide)]
    have kf := keyFits_hues (min i j) (max i j) G.rs
    have df := dFind_hues (min i j) (max i j) G.rs
    have eo : evE T (callF T n) (.sub (.var 0) (.cst (.int 1))) [some (planV G), some (natV i), some (natV j)] D = some (.dct (huesV G.rs), false, D) := by
      simp only [evE, List.getElem?_cons_zero, dp, di, plan_1 D G, Option.map_some]
    have ec : evE T (callF T n) (.cst .non) [some (planV G), some (natV i), some (natV j)] D = some (.non, false, D) := by simp only [evE]
    have om := optV_map (hueAt G.rs (min i j) (max i j))
    unfold evE
    simp only [eo, dd, bmTy, if_true, es_cons ek (es_cons ec es_nil), bmV, kf, df, om, Option.map_some]
    rfl
  · cases G.hue i j <;> simp [f__law_hue, finish, optV, snapV]
end
end HT
/-! ways, the mathematics -/
namespace HT
theorem ltP_asymm : ∀ {a b : List Nat}, ltP a b = true → ltP b a = false
  | [], [], h => rfl
  | [], _ :: _, _ => rfl
  | _ :: _, [], h => by simp [ltP] at h
  | x :: a, y :: b, h => by
    unfold ltP at h ⊢
    by_cases e : x = y
    · subst e
      rw [if_pos rfl] at h ⊢
      exact ltP_asymm h
    · rw [if_neg e] at h
      rw [if_neg (Ne.symm e)]
      have := of_decide_eq_true h
      apply decide_eq_false; omega
theorem ltP_tri : ∀ {a b : List Nat}, ltP a b = false → ltP b a = false → a = b
  | [], [], _, _ => rfl
  | [], _ :: _, h, _ => by simp [ltP] at h
  | _ :: _, [], _, h => by simp [ltP] at h
  | x :: a, y :: b, h1, h2 => by
    unfold ltP at h1 h2
    by_cases e : x = y
    · subst e
      rw [if_pos rfl] at h1 h2
      rw [ltP_tri h1 h2]
    · rw [if_neg e] at h1
      rw [if_neg (Ne.symm e)] at h2
      have := of_decide_eq_false h1
      have := of_decide_eq_false h2
      omega
theorem ltP_lelt : ∀ {z x y : List Nat}, ltP z x = false → ltP z y = true → ltP x y = true
  | [], [], y, _, h => h
  | [], _ :: _, _, h, _ => by simp [ltP] at h
  | z :: zs, [], [], _, h => by simp [ltP] at h
  | z :: zs, [], _ :: _, _, _ => rfl
  | z :: zs, _ :: _, [], _, h => by simp [ltP] at h
  | z :: zs, x :: xs, y :: ys, h1, h2 => by
    unfold ltP at h1 h2 ⊢
    by_cases e1 : z = x
    · subst e1
      rw [if_pos rfl] at h1
      by_cases e2 : z = y
      · subst e2
        rw [if_pos rfl] at h2 ⊢
        exact ltP_lelt h1 h2
      · rw [if_neg e2] at h2 ⊢
        exact h2
    · rw [if_neg e1] at h1
      have h1 := of_decide_eq_false h1
      by_cases e2 : z = y
      · subst e2
        rw [if_neg (Ne.symm e1)]
        apply decide_eq_true; omega
      · rw [if_neg e2] at h2
        have h2 := of_decide_eq_true h2
        rw [if_neg (by omega)]
        apply decide_eq_true; omega
theorem insP_comm (x y : List Nat) : ∀ l, insP x (insP y l) = insP y (insP x l)
  | [] => by
    simp only [insP]
    cases h1 : ltP y x with
    | true => simp [insP, h1, ltP_asymm h1]
    | false =>
      cases h2 : ltP x y with
      | true => simp [insP, h1, h2]
      | false =>
        have e := ltP_tri h2 h1
        subst e
        simp [insP, h1]
  | z :: l => by
    have ih := insP_comm x y l
    cases h1 : ltP z y with
    | true =>
      cases h2 : ltP z x with
      | true => simp [insP, h1, h2, ih]
      | false =>
        have h3 := ltP_lelt h2 h1
        simp [insP, h1, h2, h3]
    | false =>
      cases h2 : ltP z x with
      | true =>
        have h3 := ltP_lelt h1 h2
        simp [insP, h1, h2, h3]
      | false =>
        cases h3 : ltP y x with
        | true => simp [insP, h1, h2, h3, ltP_asymm h3]
        | false =>
          cases h4 : ltP x y with
          | true => simp [insP, h1, h2, h3, h4]
          | false =>
            have e := ltP_tri h4 h3
            subst e
            simp [insP, h1, h3]
theorem sortP_eq {a b : List (List Nat)} (h : a.Perm b) : sortP a = sortP b := by
  induction h with
  | nil => rfl
  | cons x _ ih => rw [sortP, sortP, ih]
  | swap x y l => exact insP_comm y x (sortP l)
  | trans _ _ i1 i2 => rw [i1, i2]
theorem insP_sorted (x : List Nat) : ∀ {l : List (List Nat)}, l.Pairwise (fun a b => ltP b a = false) → (insP x l).Pairwise fun a b => ltP b a = false
  | [], _ => by simp [insP]
  | y :: l, h => by
    have ⟨h1, h2⟩ := List.pairwise_cons.mp h
    unfold insP
    cases q : ltP y x with
    | true =>
      simp only [if_true]
      refine List.pairwise_cons.mpr ⟨fun b hb => ?_, insP_sorted x h2⟩
      rcases List.mem_cons.mp ((insP_perm x l).mem_iff.mp hb) with rfl | hb
      · exact ltP_asymm q
      · exact h1 b hb
    | false =>
      simp only [if_false, Bool.false_eq_true]
      refine List.pairwise_cons.mpr ⟨fun b hb => ?_, h⟩
      obtain rfl | hb := List.mem_cons.mp hb
      · exact q
      · cases z : ltP b x with
        | false => rfl
        | true =>
          -- b < x ≤ y, so b < y
          exfalso
          have hby := h1 b hb
          cases w : ltP x y with
          | false =>
            have e := ltP_tri q w
            subst e
            rw [z] at hby
            cases hby
          | true =>
            have := ltP_lelt (z := b) (x := y) (y := x) hby z
            rw [this] at q
            cases q
theorem sortP_sorted : ∀ l : List (List Nat), (sortP l).Pairwise fun a b => ltP b a = false
  | [] => .nil
  | x :: l => insP_sorted x (sortP_sorted l)
/-! the law's rows -/
def prevN (p : List Nat) : Nat := p.getD (p.length - 2) 0
def tailOf (G : Nt) (p : List Nat) : Option Nat := if 1 < p.length then G.hue (prevN p) (lastN p) else none
def wantL (G : Nt) (lead : Option Nat) (p : List Nat) (x : Option Nat) : Bool := if 1 < p.length then x != tailOf G p else lastB lead x
def hereL (G : Nt) (p : List Nat) (o : Nat) : Option Nat := if p.contains o then none else G.hue (lastN p) o
def goL (G : Nt) (lead : Option Nat) (p : List Nat) (o : Nat) : Bool := (hereL G p o).isSome && wantL G lead p (hereL G p o)
def freshH (G : Nt) (lead : Option Nat) (p : List Nat) : List (List Nat) := ((List.range G.n).filter (goL G lead p)).map fun o => p ++ [o]
def headsM (G : Nt) (s : Nat) (lead : Option Nat) : Nat → List (List Nat)
  | 0 => [[s]]
  | k + 1 => sortP ((headsM G s lead k).flatMap (freshH G lead))
def allM (G : Nt) (s : Nat) (lead : Option Nat) : Nat → List (List Nat)
  | 0 => []
  | k + 1 => allM G s lead k ++ headsM G s lead (k + 1)
def ledB (G : Nt) (last : Option Nat) (p : List Nat) : Bool := match last with
  | none => true
  | some k => G.hue (prevN p) (lastN p) == some k
def ledM (G : Nt) (g : Nat) (last : Option Nat) (l : List (List Nat)) : List (List Nat) := (l.filter fun p => lastN p == g).filter (ledB G last)
/-- the last hue of a way -/
def HueIs (G : Nt) (w : Way) : Prop := (w.1.length = 1 ∧ w.2 = none) ∨ (1 < w.1.length ∧ ∃ c, w.2 = some c ∧ G.hue (prevN w.1) (lastN w.1) = some c)
theorem last_snoc (p : List Nat) (o : Nat) : lastN (p ++ [o]) = o := by simp [lastN]
theorem prev_snoc {p : List Nat} (o : Nat) (h : p ≠ []) : prevN (p ++ [o]) = lastN p := by
  obtain ⟨l, x, rfl⟩ := (List.eq_nil_or_concat p).resolve_left h
  simp [prevN, lastN]
theorem some_hue {G : Nt} {s g : Nat} {first : Option Nat} (hs : s < G.n) : ∀ (k : Nat) (w : Way), w ∈ someM G s g first k → HueIs G w
  | 0, w, m => by
    unfold someM at m
    simp at m
    subst m
    exact .inl ⟨rfl, rfl⟩
  | k + 1, w, m => by
    unfold someM at m
    obtain ⟨v, h1, q, h2, _, h4, rfl⟩ := mem_longer m
    have ok := some_ok hs k v (List.mem_filter.mp h1).1
    have ne : v.1 ≠ [] := fun e => by
      have := ok.len
      rw [e] at this
      simp at this
    refine .inr ⟨by simp [ok.len], q.2, rfl, ?_⟩
    simp only
    rw [prev_snoc _ ne, last_snoc]
    exact (steps_lt h2).2
theorem fresh_ext {G : Nt} {lead : Option Nat} {w : Way} (hw : HueIs G w) : freshH G lead w.1 = (ext w.1 w.2 lead (G.steps (lastN w.1))).map (·.1) := by
  unfold freshH ext Nt.steps
  generalize List.range G.n = l
  induction l with
  | nil => rfl
  | cons o l ih =>
    rw [List.filter_cons, List.filterMap_cons]
    cases q : G.hue (lastN w.1) o with
    | none =>
      have e : goL G lead w.1 o = false := by
        unfold goL hereL
        rw [q]
        split <;> rfl
      rw [e]
      simpa using ih
    | some c =>
      simp only [Option.map_some, List.filterMap_cons]
      have e : goL G lead w.1 o = (wantB w.2 lead c && !w.1.contains o) := by
        unfold goL hereL wantL
        rw [q]
        cases z : w.1.contains o with
        | true => simp
        | false =>
          simp only [Bool.false_eq_true, if_false, Option.isSome_some, Bool.true_and, Bool.not_false, Bool.and_true]
          rcases hw with ⟨h1, h2⟩ | ⟨h1, k, h2, h3⟩
          · rw [if_neg (by omega), h2]
            unfold wantB lastB
            cases lead with
            | none => rfl
            | some f =>
              by_cases e : f = c
              · subst e; simp
              · have e' : ¬ c = f := fun z => e z.symm
                simp [beq_eq_false_iff_ne.mpr e, e']
          · rw [if_pos h1, h2]
            unfold tailOf wantB
            rw [if_pos h1, h3]
            by_cases e : c = k
            · subst e; simp
            · simp [e, bne]
      rw [e]
      cases wantB w.2 lead c && !w.1.contains o with
      | true => simp only [if_true, List.map_cons, ih]
      | false => simp only [Bool.false_eq_true, if_false, ih]
theorem fresh_flat {G : Nt} {lead : Option Nat} : ∀ {ws : List Way}, (∀ w ∈ ws, HueIs G w) → (ws.map (·.1)).flatMap (freshH G lead) = (longerM G lead ws).map (·.1)
  | [], _ => rfl
  | w :: ws, h => by
    have ee : longerM G lead (w :: ws) = ext w.1 w.2 lead (G.steps (lastN w.1)) ++ longerM G lead ws := by simp [longerM]
    rw [ee, List.map_append, ← fresh_ext (h w (by simp)), ← fresh_flat fun v hv => h v (by simp [hv])]
    simp
theorem all_some {G : Nt} {s : Nat} {first : Option Nat} (hs : s < G.n) (k : Nat) : (someM G s G.n first k).filter (fun w => lastN w.1 != G.n) = someM G s G.n first k := by
  rw [List.filter_eq_self]
  intro w hw
  have ok := some_ok hs k w hw
  have ne : w.1 ≠ [] := fun e => by
    have := ok.len
    rw [e] at this
    simp at this
  have lt : lastN w.1 < G.n := by
    obtain ⟨l, x, e⟩ := (List.eq_nil_or_concat w.1).resolve_left ne
    have : lastN w.1 = x := by rw [e]; simp [lastN]
    rw [this]
    exact ok.lt x (by rw [e]; simp)
  simp only [bne_iff_ne, ne_eq]
  omega
theorem heads_perm {G : Nt} {s : Nat} {lead : Option Nat} (hs : s < G.n) : ∀ k, (headsM G s lead k).Perm ((someM G s G.n lead k).map (·.1))
  | 0 => .refl _
  | k + 1 => by
    have ih := heads_perm (lead := lead) hs k
    refine (sortP_perm _).trans ((ih.flatMap_right _).trans ?_)
    rw [fresh_flat fun w hw => some_hue hs k w hw]
    have e : someM G s G.n lead (k + 1) = longerM G lead (someM G s G.n lead k) := by
      show longerM G lead ((someM G s G.n lead k).filter _) = _
      rw [all_some hs k]
    rw [e]
/-- without those through the goal -/
theorem longer_skip {G : Nt} {first : Option Nat} {g : Nat} : ∀ ws : List Way, longerM G first (ws.filter fun w => !w.1.contains g) = (longerM G first ws).filter fun v => !v.1.dropLast.contains g
  | [] => rfl
  | w :: ws => by
    have ee : ∀ ws, longerM G first (w :: ws) = ext w.1 w.2 first (G.steps (lastN w.1)) ++ longerM G first ws := fun ws => by simp [longerM]
    have fe : ∀ c, w.1.contains g = c → (ext w.1 w.2 first (G.steps (lastN w.1))).filter (fun v => !v.1.dropLast.contains g) = if c then [] else ext w.1 w.2 first (G.steps (lastN w.1)) := fun c hc => by
      cases c with
      | true =>
        simp only [if_true, List.filter_eq_nil_iff]
        intro v hv
        obtain ⟨q, _, _, _, rfl⟩ := mem_ext hv
        simp only [List.dropLast_concat, hc]
        decide
      | false =>
        simp only [Bool.false_eq_true, if_false, List.filter_eq_self]
        intro v hv
        obtain ⟨q, _, _, _, rfl⟩ := mem_ext hv
        simp only [List.dropLast_concat, hc]
        decide
    rw [ee, List.filter_append, fe _ rfl, ← longer_skip ws, List.filter_cons]
    cases c : w.1.contains g with
    | true => simp
    | false => simp [ee]
theorem contains_last {p : List Nat} (h : p ≠ []) (g : Nat) : p.contains g = (p.dropLast.contains g || lastN p == g) := by
  obtain ⟨l, x, rfl⟩ := (List.eq_nil_or_concat p).resolve_left h
  rw [Bool.eq_iff_iff]
  simp [lastN]
  constructor
  · rintro (h | h)
    · exact .inl h
    · exact .inr h.symm
  · rintro (h | h)
    · exact .inl h
    · exact .inr h.symm
theorem some_skip {G : Nt} {s g : Nat} {first : Option Nat} (hs : s < G.n) : ∀ k, someM G s g first k = (someM G s G.n first k).filter fun w => !w.1.dropLast.contains g
  | 0 => by simp [someM]
  | k + 1 => by
    have ih := some_skip (g := g) (first := first) hs k
    show longerM G first ((someM G s g first k).filter _) = (longerM G first ((someM G s G.n first k).filter _)).filter _
    rw [all_some hs k, ← longer_skip, ih, List.filter_filter]
    congr 1
    refine List.filter_congr fun w hw => ?_
    have ok := some_ok hs k w hw
    have ne : w.1 ≠ [] := fun e => by
      have := ok.len
      rw [e] at this
      simp at this
    rw [contains_last ne]
    cases w.1.dropLast.contains g <;> cases e : (lastN w.1 == g) <;> simp [bne, e]
theorem level_eq {G : Nt} {s g : Nat} {first last : Option Nat} (hs : s < G.n) (k : Nat) : sortP (endM (someM G s g first (k + 1)) g last) = ledM G g last (headsM G s first (k + 1)) := by
  have e1 : endM (someM G s g first (k + 1)) g last = ledM G g last ((someM G s G.n first (k + 1)).map (·.1)) := by
    unfold endM ledM
    rw [some_skip hs (k + 1), List.filter_filter, List.filter_map, List.filter_map, List.filter_filter]
    congr 1
    refine List.filter_congr fun w hw => ?_
    have ok := some_ok hs (k + 1) w hw
    have hu := some_hue hs (k + 1) w hw
    have ne : w.1 ≠ [] := fun e => by
      have := ok.len
      rw [e] at this
      simp at this
    simp only [Function.comp]
    have lb : lastB last w.2 = ledB G last w.1 := by
      rcases hu with ⟨h1, _⟩ | ⟨_, c, h2, h3⟩
      · have := ok.len
        omega
      · unfold lastB ledB
        rw [h2, h3]
        all_goals (cases last <;> rfl)
    rw [lb]
    cases e : (lastN w.1 == g) with
    | false => simp
    | true =>
      have nd : w.1.dropLast.contains g = false := by
        obtain ⟨l, x, q⟩ := (List.eq_nil_or_concat w.1).resolve_left ne
        have nn := ok.nd
        rw [q, List.concat_eq_append, List.nodup_append] at nn
        have hx : x = g := by
          have : lastN w.1 = x := by rw [q]; simp [lastN]
          rw [← this]
          exact beq_iff_eq.mp e
        rw [q, List.concat_eq_append, List.dropLast_concat]
        cases z : l.contains g with
        | false => rfl
        | true =>
          have m := List.contains_iff_mem.mp z
          exact absurd hx.symm (nn.2.2 g m x (by simp))
      rw [nd]
      simp
  have pm : (endM (someM G s g first (k + 1)) g last).Perm (ledM G g last (headsM G s first (k + 1))) := by
    rw [e1]
    exact ((heads_perm hs (k + 1)).symm.filter _).filter _
  rw [sortP_eq pm]
  refine sortP_id ?_
  have srt : (headsM G s first (k + 1)).Pairwise fun a b => ltP b a = false := sortP_sorted _
  exact (srt.sublist List.filter_sublist).sublist List.filter_sublist
theorem ways_law {G : Nt} {s g : Nat} {first last : Option Nat} (hs : s < G.n) (ne : g ≠ s) : waysM G s g first last = ledM G g last (allM G s first G.n) := by
  have gen : ∀ k, foundM G s g first last (k + 1) = ledM G g last (allM G s first k) := by
    intro k
    induction k with
    | zero =>
      have e : (s == g) = false := beq_eq_false_iff_ne.mpr (Ne.symm ne)
      simp [foundM, someM, endM, allM, ledM, lastN, e, sortP]
    | succ k ih =>
      show foundM G s g first last (k + 1) ++ sortP (endM (someM G s g first (k + 1)) g last) = ledM G g last (allM G s first k ++ headsM G s first (k + 1))
      rw [ih, level_eq hs k]
      simp [ledM]
  unfold waysM
  rw [← gen G.n]
  exact (found_more (some_nil hs) 1).symm
end HT
namespace HT
def f25_ways : FnI := { params := 3, slots := 11, alloc := false, body := [.par [(3, false), (4, false)] [(.lstE []), (.lstE [(.tupE [(.var 1)])])], .whileS (.cmp .ne (.var 4) (.lstE [])) [.setM 5 (.lstE []), .forS (.name 6) (.var 4) [.set 7 (.ite (.cmp .gt (.blt .len [(.var 6)]) (.cst (.int 1))) (.call 306 [(.var 0), (.sub (.var 6) (.neg (.cst (.int 2)))), (.sub (.var 6) (.neg (.cst (.int 1))))]) (.cst .non)), .forS (.name 8) (.rng1 (.sub (.var 0) (.cst (.int 0)))) [.set 9 (.ite (.cmp .nin (.var 8) (.var 6)) (.call 306 [(.var 0), (.sub (.var 6) (.neg (.cst (.int 1)))), (.var 8)]) (.cst .non)), .set 10 (.ite (.cmp .gt (.blt .len [(.var 6)]) (.cst (.int 1))) (.cmp .ne (.var 9) (.var 7)) (.cmp .inn (.var 2) (.lstE [(.cst .non), (.var 9)]))), .ifS (.andE (.isN (.var 9) false) (.var 10)) [.expr (.mut .append (.var 5) [(.bin .add (.var 6) (.tupE [(.var 8)]))])] []]], .set 4 (.blt .sorted [(.var 5)]), .set 3 (.bin .add (.var 3) (.var 4))], .ret (.var 3)] }
def f25_led : FnI := { params := 4, slots := 6, alloc := false, body := [.set 4 (.lc [5] (.name 5) (.var 1) [(.cmp .eq (.sub (.var 5) (.neg (.cst (.int 1)))) (.var 2))] (.var 5)), .ret (.lc [5] (.name 5) (.var 4) [(.orE (.isN (.var 3) true) (.cmp .eq (.call 306 [(.var 0), (.sub (.var 5) (.neg (.cst (.int 2)))), (.sub (.var 5) (.neg (.cst (.int 1))))]) (.var 3)))] (.var 5))] }
def f25_right : FnI := { params := 1, slots := 13, alloc := false, body := [.forS (.name 1) (.rng1 (.cst (.int 4))) [.set 2 (.call 303 [(.var 0), (.cst (.int 2)), (.cst (.int 6)), (.call 302 [(.var 0), (.lstE [(.cst (.str [97, 98])), (.cst (.str [97, 98, 99])), (.cst (.str [97, 100, 102]))])])]), .set 3 (.call 305 [(.var 2)]), .forS (.name 4) (.rng1 (.sub (.var 2) (.cst (.int 0)))) [.par [(5, false), (6, false)] [(.call 302 [(.var 0), (.cst (.str [97, 98, 99, 100, 102]))]), (.call 302 [(.var 0), (.cst (.str [97, 98, 99, 100, 102]))])], .par [(7, false), (8, false)] [(.call 320 [(.var 2), (.var 4), (.cst .non)]), (.call 320 [(.var 2), (.var 4), (.var 5)])], .forS (.name 9) (.lc [10] (.name 10) (.rng1 (.sub (.var 2) (.cst (.int 0)))) [(.cmp .ne (.var 10) (.var 4))] (.var 10)) [.set 11 (.blt .tuple [(.call 321 [(.var 2), (.var 7), (.var 9), (.cst .non)])]), .setM 12 (.lstE [(.callK 73 [(.var 3), (.var 4), (.var 9), (.cst .non)] [0, 1, 2, 3, 3])]), .expr (.mut .append (.var 12) [(.callK 73 [(.cst .non), (.cst .non), (.var 9), (.var 4), (.var 3), (.cst .non)] [4, 3, 2, 1, 0])]), .ifS (.cmp .ne (.blt .repr [(.var 12)]) (.blt .repr [(.lstE [(.var 11), (.var 11)])])) [.ret (.cst (.bl false))] [], .set 11 (.lstE [(.blt .tuple [(.call 321 [(.var 2), (.var 8), (.var 9), (.cst .non)])]), (.blt .tuple [(.call 321 [(.var 2), (.var 7), (.var 9), (.var 6)])])]), .setM 12 (.lstE [(.callK 73 [(.var 3), (.var 4), (.var 9), (.var 5), (.cst .non)] [0, 1, 2, 3, 4]), (.callK 73 [(.var 3), (.var 4), (.var 9), (.var 6), (.cst .non)] [0, 1, 2, 4, 3])]), .ifS (.cmp .ne (.blt .repr [(.var 12)]) (.blt .repr [(.var 11)])) [.ret (.cst (.bl false))] [], .set 11 (.blt .tuple [(.call 321 [(.var 2), (.var 8), (.var 9), (.var 6)])]), .ifS (.cmp .ne (.blt .repr [(.callK 73 [(.var 3), (.var 4), (.var 9), (.var 5), (.var 6), (.cst .non)] [0, 1, 2, 3, 4])]) (.blt .repr [(.var 11)])) [.ret (.cst (.bl false))] []]]], .ret (.cst (.bl true))] }
def f25_law : FnI := { params := 1, slots := 2, alloc := false, body := [.ret (.blt .all [(.lc [1] (.name 1) (.rng1 (.blt .max2 [(.cst (.int 2)), (.blt .min2 [(.blt .len [(.var 0)]), (.cst (.int 5))])])) [] (.call 322 [(.call 300 [(.var 0), (.var 1)])]))])] }
structure Has25 (T : Tab) : Prop where
  ways : T.fns 320 = some f25_ways
  led : T.fns 321 = some f25_led
  right : T.fns 322 = some f25_right
  law : T.fns 323 = some f25_law
theorem prev_ix {p : List Nat} (h : 1 < p.length) : subV (placesV p) (.int (-2)) = some (natV (prevN p)) := by
  have e : atIx (p.map natV).length (-2) = some (p.length - 2) := by
    simp only [atIx, List.length_map]
    rw [if_neg (by omega), if_pos (by omega)]
    congr 1
    omega
  have hl : p.length - 2 < p.length := by omega
  simp only [subV, e, Option.bind_some, List.getElem?_map, List.getElem?_eq_getElem hl, Option.map_some, prevN]
  simp [List.getD, List.getElem?_eq_getElem hl]
theorem ne_opt (a b : Option Nat) : cmpV .ne (optV a) (optV b) = some (a != b) := by
  simp only [cmpV, eqR, data_opt, depth_opt]
  cases a with
  | none => cases b <;> simp [optV, PV.eqv, bne]
  | some x =>
    cases b with
    | none => simp [optV, PV.eqv, bne]
    | some y =>
      by_cases e : x = y
      · subst e; simp [optV, PV.eqv, bne]
      · simp [optV, PV.eqv, bne, e]
theorem eq_opt (a b : Option Nat) : cmpV .eq (optV a) (optV b) = some (a == b) := by
  simp only [cmpV, eqR, data_opt, depth_opt]
  cases a with
  | none => cases b <;> simp [optV, PV.eqv]
  | some x =>
    cases b with
    | none => simp [optV, PV.eqv]
    | some y =>
      by_cases e : x = y
      · subst e; simp [optV, PV.eqv]
      · simp [optV, PV.eqv, e]
theorem in_lastL (f h : Option Nat) : cmpV .inn (optV f) (.lst [.non, optV h]) = some (lastB f h) := by
  have e := in_last f h
  exact e
theorem deref_opt (D : Hs) (a : Option Nat) : deref D (optV a) = optV a := by cases a <;> rfl
theorem nin_places (o : Nat) (p : List Nat) : cmpV .nin (natV o) (placesV p) = some (!p.contains o) := by
  simp [cmpV, inV, PV.data, dataAll_nat, PV.depth, memV_nat]
theorem isNon_opt (a : Option Nat) : isNon (optV a) = a.isNone := by cases a <;> rfl
theorem len_places (p : List Nat) : lenV [placesV p] = some (natV p.length, false) := by simp [lenV]
theorem gt_one (n : Nat) : cmpV .gt (natV n) (.int 1) = some (decide (1 < n)) := by
  simp only [cmpV, gtR]
  by_cases q : 1 < n
  · rw [decide_eq_true q, decide_eq_true (by omega)]
  · rw [decide_eq_false q, decide_eq_false (by omega)]
theorem fresh_len (G : Nt) (lead : Option Nat) (p : List Nat) : (freshH G lead p).length ≤ G.n := by
  unfold freshH
  rw [List.length_map]
  exact Nat.le_trans (List.length_filter_le _ _) (by simp)
theorem flat_len (G : Nt) (lead : Option Nat) : ∀ l : List (List Nat), (l.flatMap (freshH G lead)).length ≤ G.n * l.length
  | [] => by simp
  | p :: l => by
    have h1 := fresh_len G lead p
    have h2 := flat_len G lead l
    rw [List.flatMap_cons, List.length_append, List.length_cons, Nat.mul_add, Nat.mul_one]
    omega
section
variable {T : Tab}
theorem d_tup (D : Hs) (ys : List PV) : deref D (.tup ys) = .tup ys := rfl
theorem d_lst (D : Hs) (ys : List PV) : deref D (.lst ys) = .lst ys := rfl
theorem d_int (D : Hs) (i : Int) : deref D (.int i) = .int i := rfl
theorem d_bl (D : Hs) (i : Bool) : deref D (.bl i) = .bl i := rfl
theorem d_plan (D : Hs) (G : Nt) : deref D (planV G) = planV G := rfl
theorem in_turn (hh : HasHue T) (n : Nat) (G : Nt) (lead : Option Nat) (D : Hs) (a1 A3 H4 : Option PV) (hd : List Nat) (hne : hd ≠ []) (hl : hd.length < 100) (acc : List (List Nat)) (ha : acc.length < sizeL) (o : Nat) (o9 o10 : Option PV) :
    exSs T (callF T (n + 1)) [.set 9 (.ite (.cmp .nin (.var 8) (.var 6)) (.call 306 [(.var 0), (.sub (.var 6) (.neg (.cst (.int 1)))), (.var 8)]) (.cst .non)), .set 10 (.ite (.cmp .gt (.blt .len [(.var 6)]) (.cst (.int 1))) (.cmp .ne (.var 9) (.var 7)) (.cmp .inn (.var 2) (.lstE [(.cst .non), (.var 9)]))), .ifS (.andE (.isN (.var 9) false) (.var 10)) [.expr (.mut .append (.var 5) [(.bin .add (.var 6) (.tupE [(.var 8)]))])] []]
      [some (planV G), a1, some (optV lead), A3, H4, some (.ref D.length), some (placesV hd), some (optV (tailOf G hd)), some (natV o), o9, o10] (D ++ [.lst (acc.map placesV)])
      = some (.next, [some (planV G), a1, some (optV lead), A3, H4, some (.ref D.length), some (placesV hd), some (optV (tailOf G hd)), some (natV o), some (optV (hereL G hd o)), some (.bl (wantL G lead hd (hereL G hd o)))], D ++ [.lst ((acc ++ if goL G lead hd o then [hd ++ [o]] else []).map placesV)]) := by
  have ch := c_hueL hh n G (lastN hd) o (D ++ [.lst (acc.map placesV)])
  refine x_next (r1 := [some (planV G), a1, some (optV lead), A3, H4, some (.ref D.length), some (placesV hd), some (optV (tailOf G hd)), some (natV o), some (optV (hereL G hd o)), o10]) (D1 := D ++ [.lst (acc.map placesV)]) (x_set (fr := false) ?_) ?_
  · simp only [evE, evEs, List.getElem?_cons_succ, List.getElem?_cons_zero, d_int, d_tup, nin_places, Option.map_some, d_bl, truth, last_ix hne, ch]
    unfold hereL
    cases hd.contains o <;> rfl
  refine x_next (r1 := [some (planV G), a1, some (optV lead), A3, H4, some (.ref D.length), some (placesV hd), some (optV (tailOf G hd)), some (natV o), some (optV (hereL G hd o)), some (.bl (wantL G lead hd (hereL G hd o)))]) (D1 := D ++ [.lst (acc.map placesV)]) (x_set (fr := false) ?_) ?_
  · simp only [evE, evEs, List.getElem?_cons_succ, List.getElem?_cons_zero, List.map_cons, List.map_nil, d_tup, bltV, len_places, Option.map_some, d_int, gt_one, d_bl, truth, deref_opt, ne_opt, List.length_cons, List.length_nil]
    unfold wantL
    by_cases q : 1 < hd.length
    · rw [decide_eq_true q, if_pos q]
    · rw [decide_eq_false q, if_neg q]
      simp only
      rw [if_pos (by decide)]
      simp only [d_lst, in_lastL, Option.map_some]
  have cond : evE T (callF T (n + 1)) (.andE (.isN (.var 9) false) (.var 10)) [some (planV G), a1, some (optV lead), A3, H4, some (.ref D.length), some (placesV hd), some (optV (tailOf G hd)), some (natV o), some (optV (hereL G hd o)), some (.bl (wantL G lead hd (hereL G hd o)))] (D ++ [.lst (acc.map placesV)]) = some (.bl (goL G lead hd o), false, D ++ [.lst (acc.map placesV)]) := by
    simp only [evE, List.getElem?_cons_succ, List.getElem?_cons_zero, isNon_opt, d_bl, truth]
    unfold goL
    cases hereL G hd o <;> rfl
  refine x_next (x_if (t := goL G lead hd o) cond rfl ?_) rfl
  cases g : goL G lead hd o with
  | false => simp [exSs]
  | true =>
    simp only [if_true]
    refine x_next (x_expr (v := .non) (fr := false) ?_) rfl
    have hpl : (hd.map natV).length + ([natV o] : List PV).length ≤ sizeL := by simp [sizeL]; omega
    have hp : (PV.tup (hd.map natV ++ [natV o])).pure = true := by
      simp only [PV.pure, pureAll_two, pureAll_nat, pureAll, Bool.and_self]
    simp only [evE, evEs, List.getElem?_cons_succ, List.getElem?_cons_zero, top_get, List.length_cons, List.length_nil]
    rw [if_pos (by decide)]
    simp only [d_tup, binV, addV]
    rw [if_pos hpl]
    simp only [Option.map_some, mutV, top_get, hp, Bool.true_and]
    rw [if_pos (decide_eq_true (by simpa using ha))]
    simp [top_set]
theorem out_turn (hh : HasHue T) (n : Nat) (G : Nt) (ok : G.Ok) (lead : Option Nat) (D : Hs) (a1 A3 H4 : Option PV) (hd : List Nat) (hne : hd ≠ []) (hl : hd.length < 100) (acc : List (List Nat)) (ha : acc.length + 9 < sizeL) (o7 o8 o9 o10 : Option PV) :
    ∃ o7' o8' o9' o10', exSs T (callF T (n + 1)) [.set 7 (.ite (.cmp .gt (.blt .len [(.var 6)]) (.cst (.int 1))) (.call 306 [(.var 0), (.sub (.var 6) (.neg (.cst (.int 2)))), (.sub (.var 6) (.neg (.cst (.int 1))))]) (.cst .non)), .forS (.name 8) (.rng1 (.sub (.var 0) (.cst (.int 0)))) [.set 9 (.ite (.cmp .nin (.var 8) (.var 6)) (.call 306 [(.var 0), (.sub (.var 6) (.neg (.cst (.int 1)))), (.var 8)]) (.cst .non)), .set 10 (.ite (.cmp .gt (.blt .len [(.var 6)]) (.cst (.int 1))) (.cmp .ne (.var 9) (.var 7)) (.cmp .inn (.var 2) (.lstE [(.cst .non), (.var 9)]))), .ifS (.andE (.isN (.var 9) false) (.var 10)) [.expr (.mut .append (.var 5) [(.bin .add (.var 6) (.tupE [(.var 8)]))])] []]]
      [some (planV G), a1, some (optV lead), A3, H4, some (.ref D.length), some (placesV hd), o7, o8, o9, o10] (D ++ [.lst (acc.map placesV)])
      = some (.next, [some (planV G), a1, some (optV lead), A3, H4, some (.ref D.length), some (placesV hd), o7', o8', o9', o10'], D ++ [.lst ((acc ++ freshH G lead hd).map placesV)]) := by
  have n9 := ok.n9
  obtain ⟨r', D', e, b8, b9, b10, rfl, rfl⟩ := forL_pre (enc := natV) (step := fun x r D => match tgtV (.name 8) x r with
      | none => none
      | some r' => exSs T (callF T (n + 1)) [.set 9 (.ite (.cmp .nin (.var 8) (.var 6)) (.call 306 [(.var 0), (.sub (.var 6) (.neg (.cst (.int 1)))), (.var 8)]) (.cst .non)), .set 10 (.ite (.cmp .gt (.blt .len [(.var 6)]) (.cst (.int 1))) (.cmp .ne (.var 9) (.var 7)) (.cmp .inn (.var 2) (.lstE [(.cst .non), (.var 9)]))), .ifS (.andE (.isN (.var 9) false) (.var 10)) [.expr (.mut .append (.var 5) [(.bin .add (.var 6) (.tupE [(.var 8)]))])] []] r' D)
    (fun pre r D' => ∃ o8 o9 o10, r = [some (planV G), a1, some (optV lead), A3, H4, some (.ref D.length), some (placesV hd), some (optV (tailOf G hd)), o8, o9, o10] ∧ D' = D ++ [.lst ((acc ++ (pre.filter (goL G lead hd)).map fun o => hd ++ [o]).map placesV)]) (xs := List.range G.n)
    (fun pre o suf r D' ex z => by
      obtain ⟨o8, o9, o10, rfl, rfl⟩ := z
      have pl : pre.length < 9 := by
        have := congrArg List.length ex
        simp at this
        omega
      have fl := List.length_filter_le (goL G lead hd) pre
      have it := in_turn hh n G lead D a1 A3 H4 hd hne hl (acc ++ (pre.filter (goL G lead hd)).map fun o => hd ++ [o]) (by rw [List.length_append, List.length_map]; omega) o o9 o10
      refine ⟨_, _, it, _, _, _, rfl, ?_⟩
      cases q : goL G lead hd o <;> simp [q, List.filter_append]) (List.range G.n) [] [some (planV G), a1, some (optV lead), A3, H4, some (.ref D.length), some (placesV hd), some (optV (tailOf G hd)), o8, o9, o10] (D ++ [.lst (acc.map placesV)]) rfl ⟨o8, o9, o10, rfl, by simp⟩
  refine ⟨some (optV (tailOf G hd)), b8, b9, b10, ?_⟩
  refine x_next (r1 := [some (planV G), a1, some (optV lead), A3, H4, some (.ref D.length), some (placesV hd), some (optV (tailOf G hd)), o8, o9, o10]) (D1 := D ++ [.lst (acc.map placesV)]) (x_set (fr := false) ?_) ?_
  · have ch := c_hueL hh n G (prevN hd) (lastN hd) (D ++ [.lst (acc.map placesV)])
    simp only [evE, evEs, List.getElem?_cons_succ, List.getElem?_cons_zero, List.map_cons, List.map_nil, d_tup, bltV, len_places, Option.map_some, d_int, gt_one, d_bl, truth]
    unfold tailOf
    by_cases q : 1 < hd.length
    · rw [decide_eq_true q, if_pos q]
      have pi := prev_ix q
      have li := last_ix hne
      simp only [pi, li, Option.map_some, show (-2 : Int) = -2 from rfl]
      exact ch
    · rw [decide_eq_false q, if_neg q]
      rfl
  · have e0 : ((G.n : Nat) : Int).toNat = G.n := by omega
    refine x_next (x_for (src := .lst ((List.range G.n).map natV)) (fr := false) (D1 := D ++ [.lst (acc.map placesV)]) ?_ (by simp) rfl e) rfl
    simp only [evE, List.getElem?_cons_succ, List.getElem?_cons_zero, d_plan, d_int, plan_0 D G, Option.map_some, e0, rangeL_zero]
    rw [if_pos (by omega)]
theorem heads_len {G : Nt} {s : Nat} {lead : Option Nat} (hs : s < G.n) (n8 : G.n ≤ 8) (k : Nat) (hk : k ≤ 8) : (headsM G s lead k).length ≤ 5040 := by
  rw [(heads_perm hs k).length_eq, List.length_map]
  exact Nat.le_trans (some_len hs k) (lv_le n8 hk)
theorem heads_ok {G : Nt} {s : Nat} {lead : Option Nat} (hs : s < G.n) (k : Nat) {p : List Nat} (hp : p ∈ headsM G s lead k) : p.length = k + 1 ∧ p ≠ [] := by
  obtain ⟨w, hw, rfl⟩ := List.mem_map.mp ((heads_perm hs k).mem_iff.mp hp)
  have := (some_ok hs k w hw).len
  refine ⟨this, fun e => ?_⟩
  rw [e] at this
  simp at this
theorem ne_nil_places (l : List (List Nat)) : cmpV .ne (.lst (l.map placesV)) (.lst []) = some (!l.isEmpty) := by
  have := depthAll_places l
  have e : (PV.lst (l.map placesV)).depth ≤ 60 := by simp only [PV.depth]; omega
  simp only [cmpV, eqR, PV.data, dataAll_places, dataAll, Bool.true_and, decide_eq_true e, if_true, Option.map_some]
  cases l <;> simp [PV.eqv, eqvAll]
theorem all_len {G : Nt} {s : Nat} {lead : Option Nat} (hs : s < G.n) (n8 : G.n ≤ 8) : ∀ k, k ≤ 8 → (allM G s lead k).length ≤ k * 5040
  | 0, _ => by simp [allM]
  | k + 1, hk => by
    have ih := all_len (lead := lead) hs n8 k (by omega)
    have hl := heads_len (lead := lead) hs n8 (k + 1) hk
    show (allM G s lead k ++ headsM G s lead (k + 1)).length ≤ _
    rw [List.length_append, Nat.add_mul, Nat.one_mul]
    omega
theorem lways_turn (hh : HasHue T) (n : Nat) (G : Nt) (ok : G.Ok) (n8 : G.n ≤ 8) (s : Nat) (hs : s < G.n) (lead : Option Nat) (k : Nat) (hk : k < 8) (D : Hs) (o5 o6 o7 o8 o9 o10 : Option PV) :
    ∃ junk o5' o6' o7' o8' o9' o10', exSs T (callF T (n + 1)) [.setM 5 (.lstE []), .forS (.name 6) (.var 4) [.set 7 (.ite (.cmp .gt (.blt .len [(.var 6)]) (.cst (.int 1))) (.call 306 [(.var 0), (.sub (.var 6) (.neg (.cst (.int 2)))), (.sub (.var 6) (.neg (.cst (.int 1))))]) (.cst .non)), .forS (.name 8) (.rng1 (.sub (.var 0) (.cst (.int 0)))) [.set 9 (.ite (.cmp .nin (.var 8) (.var 6)) (.call 306 [(.var 0), (.sub (.var 6) (.neg (.cst (.int 1)))), (.var 8)]) (.cst .non)), .set 10 (.ite (.cmp .gt (.blt .len [(.var 6)]) (.cst (.int 1))) (.cmp .ne (.var 9) (.var 7)) (.cmp .inn (.var 2) (.lstE [(.cst .non), (.var 9)]))), .ifS (.andE (.isN (.var 9) false) (.var 10)) [.expr (.mut .append (.var 5) [(.bin .add (.var 6) (.tupE [(.var 8)]))])] []]], .set 4 (.blt .sorted [(.var 5)]), .set 3 (.bin .add (.var 3) (.var 4))]
      [some (planV G), some (natV s), some (optV lead), some (.lst ((allM G s lead k).map placesV)), some (.lst ((headsM G s lead k).map placesV)), o5, o6, o7, o8, o9, o10] D
      = some (.next, [some (planV G), some (natV s), some (optV lead), some (.lst ((allM G s lead (k + 1)).map placesV)), some (.lst ((headsM G s lead (k + 1)).map placesV)), o5', o6', o7', o8', o9', o10'], D ++ junk) := by
  have hl := heads_len (lead := lead) hs n8 k (by omega)
  have hl1 := heads_len (lead := lead) hs n8 (k + 1) (by omega)
  have al := all_len (lead := lead) hs n8 k (by omega)
  obtain ⟨r', D', e, b6, b7, b8, b9, b10, rfl, rfl⟩ := forL_pre (enc := placesV) (step := fun x r D => match tgtV (.name 6) x r with
      | none => none
      | some r' => exSs T (callF T (n + 1)) [.set 7 (.ite (.cmp .gt (.blt .len [(.var 6)]) (.cst (.int 1))) (.call 306 [(.var 0), (.sub (.var 6) (.neg (.cst (.int 2)))), (.sub (.var 6) (.neg (.cst (.int 1))))]) (.cst .non)), .forS (.name 8) (.rng1 (.sub (.var 0) (.cst (.int 0)))) [.set 9 (.ite (.cmp .nin (.var 8) (.var 6)) (.call 306 [(.var 0), (.sub (.var 6) (.neg (.cst (.int 1)))), (.var 8)]) (.cst .non)), .set 10 (.ite (.cmp .gt (.blt .len [(.var 6)]) (.cst (.int 1))) (.cmp .ne (.var 9) (.var 7)) (.cmp .inn (.var 2) (.lstE [(.cst .non), (.var 9)]))), .ifS (.andE (.isN (.var 9) false) (.var 10)) [.expr (.mut .append (.var 5) [(.bin .add (.var 6) (.tupE [(.var 8)]))])] []]] r' D)
    (fun pre r D' => ∃ o6 o7 o8 o9 o10, r = [some (planV G), some (natV s), some (optV lead), some (.lst ((allM G s lead k).map placesV)), some (.lst ((headsM G s lead k).map placesV)), some (.ref D.length), o6, o7, o8, o9, o10] ∧ D' = D ++ [.lst ((pre.flatMap (freshH G lead)).map placesV)]) (xs := headsM G s lead k)
    (fun pre hd suf r D' ex z => by
      obtain ⟨o6, o7, o8, o9, o10, rfl, rfl⟩ := z
      have pl : pre.length ≤ 5040 := by
        have := congrArg List.length ex
        simp at this
        omega
      have hm : hd ∈ headsM G s lead k := by rw [ex]; simp
      obtain ⟨h1, h2⟩ := heads_ok hs k hm
      have fl := flat_len G lead pre
      have fb : G.n * pre.length ≤ 8 * 5040 := Nat.mul_le_mul n8 pl
      obtain ⟨c7, c8, c9, c10, et⟩ := out_turn hh n G ok lead D (some (natV s)) (some (.lst ((allM G s lead k).map placesV))) (some (.lst ((headsM G s lead k).map placesV))) hd h2 (by omega) (pre.flatMap (freshH G lead)) (by unfold sizeL; omega) o7 o8 o9 o10
      exact ⟨_, _, et, some (placesV hd), c7, c8, c9, c10, rfl, by simp⟩) (headsM G s lead k) [] [some (planV G), some (natV s), some (optV lead), some (.lst ((allM G s lead k).map placesV)), some (.lst ((headsM G s lead k).map placesV)), some (.ref D.length), o6, o7, o8, o9, o10] (D ++ [.lst []]) rfl ⟨o6, o7, o8, o9, o10, rfl, by simp⟩
  refine ⟨[.lst (((headsM G s lead k).flatMap (freshH G lead)).map placesV)], some (.ref D.length), b6, b7, b8, b9, b10, ?_⟩
  refine x_next (r1 := [some (planV G), some (natV s), some (optV lead), some (.lst ((allM G s lead k).map placesV)), some (.lst ((headsM G s lead k).map placesV)), some (.ref D.length), o6, o7, o8, o9, o10]) (D1 := D ++ [.lst []]) (x_setM (v := .lst []) (fr := true) (D1 := D) (by simp [evE, evEs]) (by simp [heapV, pureAll])) ?_
  refine x_next (x_for (src := .lst ((headsM G s lead k).map placesV)) (fr := false) (D1 := D ++ [.lst []]) (e_var rfl) (by simp) rfl e) ?_
  have sv : sortV (((headsM G s lead k).flatMap (freshH G lead)).map placesV) = some ((headsM G s lead (k + 1)).map placesV) := by
    refine sort_places (fun p hp => ?_) ?_
    · obtain ⟨hd, _, h2⟩ := List.mem_flatMap.mp hp
      unfold freshH at h2
      obtain ⟨o, _, rfl⟩ := List.mem_map.mp h2
      simp
    · have fl := flat_len G lead (headsM G s lead k)
      have fb : G.n * (headsM G s lead k).length ≤ 8 * 5040 := Nat.mul_le_mul n8 hl
      unfold sizeL
      omega
  have dr : deref (D ++ [.lst (((headsM G s lead k).flatMap (freshH G lead)).map placesV)]) (.ref D.length) = .lst (((headsM G s lead k).flatMap (freshH G lead)).map placesV) := by simp only [deref, top_get]
  refine x_next (r1 := [some (planV G), some (natV s), some (optV lead), some (.lst ((allM G s lead k).map placesV)), some (.lst ((headsM G s lead (k + 1)).map placesV)), some (.ref D.length), b6, b7, b8, b9, b10]) (D1 := D ++ [.lst (((headsM G s lead k).flatMap (freshH G lead)).map placesV)]) (x_set (fr := true) ?_) ?_
  · simp only [evE, evEs, List.getElem?_cons_succ, List.getElem?_cons_zero, List.map_cons, List.map_nil, dr, bltV, sortedV, sv, Option.map_some]
  refine x_next (r1 := [some (planV G), some (natV s), some (optV lead), some (.lst ((allM G s lead (k + 1)).map placesV)), some (.lst ((headsM G s lead (k + 1)).map placesV)), some (.ref D.length), b6, b7, b8, b9, b10]) (x_set (fr := true) ?_) rfl
  have lim : ((allM G s lead k).map placesV).length + ((headsM G s lead (k + 1)).map placesV).length ≤ sizeL := by
    rw [List.length_map, List.length_map]
    unfold sizeL
    omega
  simp only [evE, List.getElem?_cons_succ, List.getElem?_cons_zero, d_lst, binV, addV]
  rw [if_pos lim]
  simp [allM]
theorem heads_nil {G : Nt} {s : Nat} {lead : Option Nat} (hs : s < G.n) : headsM G s lead G.n = [] := by
  have := (heads_perm (lead := lead) hs G.n).length_eq
  rw [some_nil hs] at this
  exact List.length_eq_zero_iff.mp (by simpa using this)
theorem heads_more {G : Nt} {s : Nat} {lead : Option Nat} {k : Nat} (h : headsM G s lead k = []) : ∀ j, headsM G s lead (k + j) = []
  | 0 => h
  | j + 1 => by
    show sortP ((headsM G s lead (k + j)).flatMap _) = []
    rw [heads_more h j]
    rfl
theorem all_more {G : Nt} {s : Nat} {lead : Option Nat} {k : Nat} (h : headsM G s lead k = []) : ∀ j, allM G s lead (k + j) = allM G s lead k
  | 0 => rfl
  | j + 1 => by
    show allM G s lead (k + j) ++ headsM G s lead (k + j + 1) = _
    rw [all_more h j, show k + j + 1 = k + (j + 1) from rfl, heads_more h (j + 1)]
    simp
theorem heads_least {G : Nt} {s : Nat} {lead : Option Nat} : ∀ n, headsM G s lead n = [] → ∃ m ≤ n, headsM G s lead m = [] ∧ ∀ k < m, headsM G s lead k ≠ []
  | 0, h => ⟨0, Nat.le_refl _, h, fun k hk => by omega⟩
  | n + 1, h => by
    by_cases q : headsM G s lead n = []
    · obtain ⟨m, h1, h2, h3⟩ := heads_least n q
      exact ⟨m, by omega, h2, h3⟩
    · refine ⟨n + 1, Nat.le_refl _, h, fun k hk e => q ?_⟩
      have := heads_more e (n - k)
      rw [show k + (n - k) = n by omega] at this
      exact this
theorem c_lways (h25 : Has25 T) (hh : HasHue T) (n : Nat) (G : Nt) (ok : G.Ok) (n8 : G.n ≤ 8) (s : Nat) (hs : s < G.n) (lead : Option Nat) (D : Hs) : callF T (n + 2) 320 [planV G, natV s, optV lead] D = some (.lst ((allM G s lead G.n).map placesV), false, D) := by
  obtain ⟨m, hm, m1, m2⟩ := heads_least G.n (heads_nil (lead := lead) hs)
  have fin : allM G s lead m = allM G s lead G.n := by
    have := all_more m1 (G.n - m)
    rw [show m + (G.n - m) = G.n by omega] at this
    exact this.symm
  obtain ⟨r', D', wl, junk, b5, b6, b7, b8, b9, b10, rfl, rfl⟩ := whileF_run (c := fun r D => match evE T (callF T (n + 1)) (.cmp .ne (.var 4) (.lstE [])) r D with
      | none => none
      | some (x, _, D1) => (truth (deref D1 x)).map fun b => (b, D1)) (body := fun r D => exSs T (callF T (n + 1)) [.setM 5 (.lstE []), .forS (.name 6) (.var 4) [.set 7 (.ite (.cmp .gt (.blt .len [(.var 6)]) (.cst (.int 1))) (.call 306 [(.var 0), (.sub (.var 6) (.neg (.cst (.int 2)))), (.sub (.var 6) (.neg (.cst (.int 1))))]) (.cst .non)), .forS (.name 8) (.rng1 (.sub (.var 0) (.cst (.int 0)))) [.set 9 (.ite (.cmp .nin (.var 8) (.var 6)) (.call 306 [(.var 0), (.sub (.var 6) (.neg (.cst (.int 1)))), (.var 8)]) (.cst .non)), .set 10 (.ite (.cmp .gt (.blt .len [(.var 6)]) (.cst (.int 1))) (.cmp .ne (.var 9) (.var 7)) (.cmp .inn (.var 2) (.lstE [(.cst .non), (.var 9)]))), .ifS (.andE (.isN (.var 9) false) (.var 10)) [.expr (.mut .append (.var 5) [(.bin .add (.var 6) (.tupE [(.var 8)]))])] []]], .set 4 (.blt .sorted [(.var 5)]), .set 3 (.bin .add (.var 3) (.var 4))] r D)
    (fun k r D' => ∃ junk o5 o6 o7 o8 o9 o10, r = [some (planV G), some (natV s), some (optV lead), some (.lst ((allM G s lead k).map placesV)), some (.lst ((headsM G s lead k).map placesV)), o5, o6, o7, o8, o9, o10] ∧ D' = D ++ junk) m
    (fun k r D' hk z => by
      obtain ⟨junk, o5, o6, o7, o8, o9, o10, rfl, rfl⟩ := z
      have nn := ne_nil_places (headsM G s lead k)
      have ie : (headsM G s lead k).isEmpty = false := by
        cases q : headsM G s lead k with
        | nil => exact absurd q (m2 k hk)
        | cons _ _ => rfl
      obtain ⟨j2, c5, c6, c7, c8, c9, c10, et⟩ := lways_turn hh n G ok n8 s hs lead k (by omega) (D ++ junk) o5 o6 o7 o8 o9 o10
      refine ⟨?_, _, _, et, junk ++ j2, c5, c6, c7, c8, c9, c10, rfl, by simp⟩
      simp only [evE, evEs, List.getElem?_cons_succ, List.getElem?_cons_zero, List.length_nil, Nat.zero_le, if_true, d_lst, nn, ie, Option.map_some]
      rfl)
    (fun r D' z => by
      obtain ⟨junk, o5, o6, o7, o8, o9, o10, rfl, rfl⟩ := z
      have nn := ne_nil_places (headsM G s lead m)
      rw [m1] at nn ⊢
      simp only [evE, evEs, List.getElem?_cons_succ, List.getElem?_cons_zero, List.length_nil, Nat.zero_le, if_true, d_lst, nn, Option.map_some]
      rfl)
    m LF 0 [some (planV G), some (natV s), some (optV lead), some (.lst []), some (.lst [placesV [s]]), none, none, none, none, none, none] D (by omega) (by unfold LF; omega) ⟨[], none, none, none, none, none, none, rfl, by simp⟩
  rw [fin] at wl
  refine f_ret h25.ways rfl (v := .lst ((allM G s lead G.n).map placesV)) (fr := false) (r1 := [some (planV G), some (natV s), some (optV lead), some (.lst ((allM G s lead G.n).map placesV)), some (.lst ((headsM G s lead m).map placesV)), b5, b6, b7, b8, b9, b10]) (D1 := D ++ junk) ?_ ?_
  · refine x_next (r1 := [some (planV G), some (natV s), some (optV lead), some (.lst []), some (.lst [placesV [s]]), none, none, none, none, none, none]) (D1 := D) ?_ ?_
    · exact x_par (p_val (v := .lst []) (fr := true) (D1 := D) (by simp [evE, evEs]) (p_val (v := .lst [placesV [s]]) (fr := true) (D1 := D) (by simp [f25_ways, start, evE, evEs, sizeL]) p_nil)) rfl
    refine x_next (r1 := [some (planV G), some (natV s), some (optV lead), some (.lst ((allM G s lead G.n).map placesV)), some (.lst ((headsM G s lead m).map placesV)), b5, b6, b7, b8, b9, b10]) (D1 := D ++ junk) ?_ (x_stop (x_ret (e_var rfl)))
    unfold exS
    exact wl
  · simp [f25_ways, finish, snapV, snap_places]
end
end HT
namespace HT
theorem all_ok {G : Nt} {s : Nat} {lead : Option Nat} (hs : s < G.n) : ∀ (k : Nat) {p : List Nat}, p ∈ allM G s lead k → 1 < p.length ∧ p.length ≤ k + 1
  | 0, p, h => by simp [allM] at h
  | k + 1, p, h => by
    unfold allM at h
    rcases List.mem_append.mp h with z | z
    · have := all_ok hs k z
      omega
    · have := (heads_ok hs (k + 1) z).1
      omega
/-! texts of data are not too long -/
open PySem in
mutual
def wt : PV → Nat
  | .non => 4
  | .bl _ => 5
  | .int i => i.natAbs + 2
  | .tup xs => wtAll xs + 5
  | .lst xs => wtAll xs + 5
  | _ => 0
def wtAll : List PV → Nat
  | [] => 0
  | x :: xs => wt x + 2 + wtAll xs
end
/-! no texts within -/
mutual
def plainV : PV → Bool
  | .non => true
  | .bl _ => true
  | .int i => decide (i.natAbs < 1000)
  | .tup xs => plainAll xs
  | .lst xs => plainAll xs
  | _ => false
def plainAll : List PV → Bool
  | [] => true
  | x :: xs => plainV x && plainAll xs
end
open PySem in
theorem piled_shown : ∀ {l : List Str}, (tupleText l).length ≤ piled l + 5 ∧ (listText l).length ≤ piled l + 5 := by
  intro l
  constructor
  · unfold tupleText
    simp only [strLen_append]
    have one : ((("(" : String) : Str)).length = 1 := rfl
    have e3 : (((if l.length == 1 then ",)" else ")" : String) : Str)).length ≤ 2 := by split <;> decide
    rw [one]
    cases l with
    | nil =>
      have : (Str.join ", " []).length = 0 := rfl
      omega
    | cons x r =>
      have := join_length_add (x :: r) (by simp)
      omega
  · unfold listText
    rw [strLen_append]
    have e3 : ((("]" : String) : Str)).length = 1 := rfl
    rw [e3]
    cases l with
    | nil =>
      have : (textFrom 0 "[" []).length = 1 := rfl
      omega
    | cons x r =>
      have h := textFrom_length_pos r 1 ((("[" : Str) ++ (if (0 : Nat) > 0 then ", " else "" : String)) ++ x) (Nat.succ_pos 0)
      have h2 : textFrom 0 "[" (x :: r) = textFrom 1 ((("[" : Str) ++ (if (0 : Nat) > 0 then ", " else "" : String)) ++ x) r := rfl
      rw [h2, h, strLen_append, strLen_append]
      have e4 : ((("[" : String) : Str)).length = 1 := rfl
      have e5 : (((if (0 : Nat) > 0 then ", " else "" : String) : Str)).length = 0 := rfl
      rw [e4, e5]
      have : piled (x :: r) = x.length + 2 + piled r := by simp [piled]
      omega
open PySem in
mutual
theorem shown_le : ∀ v : PV, plainV v = true → v.toData.shown.length ≤ wt v ∧ v.toData.showable = true ∧ v.data = true
  | .non, _ => ⟨by decide, by simp [PV.toData, PyData.showable], rfl⟩
  | .bl b, _ => ⟨by cases b <;> decide, by simp [PV.toData, PyData.showable], rfl⟩
  | .int i, h => by
    have hi : i.natAbs < 1000 := by simpa [plainV] using h
    refine ⟨?_, ?_, rfl⟩
    · have := PyProof.Rows.len_str_of_int i
      simp only [PV.toData, PyData.shown, wt]
      omega
    · simp only [PV.toData, PyData.showable]
      refine decide_eq_true ?_
      have : i.natAbs.log2 ≤ i.natAbs := Nat.log2_le_self _
      omega
  | .str s, h => by simp [plainV] at h
  | .tup xs, h => by
    obtain ⟨h1, h2, h3⟩ := showns_le xs (by simpa [plainV] using h)
    refine ⟨?_, by simpa [PV.toData, PyData.showable] using h2, by simpa [PV.data] using h3⟩
    simp only [PV.toData, PyData.shown, wt]
    exact Nat.le_trans piled_shown.1 (by omega)
  | .lst xs, h => by
    obtain ⟨h1, h2, h3⟩ := showns_le xs (by simpa [plainV] using h)
    refine ⟨?_, by simpa [PV.toData, PyData.showable] using h2, by simpa [PV.data] using h3⟩
    simp only [PV.toData, PyData.shown, wt]
    exact Nat.le_trans piled_shown.2 (by omega)
  | .dct _, h => by simp [plainV] at h
  | .obj _ _, h => by simp [plainV] at h
  | .ref _, h => by simp [plainV] at h
theorem showns_le : ∀ xs : List PV, plainAll xs = true → piled (PyData.shownAll (toDatas xs)) ≤ wtAll xs ∧ PyData.showableAll (toDatas xs) = true ∧ dataAll xs = true
  | [], _ => by simp [toDatas, PyData.shownAll, piled, wtAll, PyData.showableAll, dataAll]
  | x :: xs, h => by
    simp only [plainAll, Bool.and_eq_true] at h
    obtain ⟨a1, a2, a3⟩ := shown_le x h.1
    obtain ⟨b1, b2, b3⟩ := showns_le xs h.2
    refine ⟨?_, ?_, ?_⟩
    · simp only [toDatas, PyData.shownAll, wtAll]
      have : piled (x.toData.shown :: PyData.shownAll (toDatas xs)) = x.toData.shown.length + 2 + piled (PyData.shownAll (toDatas xs)) := by simp [piled]
      omega
    · simp [toDatas, PyData.showableAll, a2, b2]
    · simp [dataAll, a3, b3]
end
theorem repr_some {v : PV} (h1 : isSeqV v = true) (h2 : plainV v = true) (h3 : v.depth ≤ 60) (h4 : wt v ≤ sizeL) : ∃ s, reprV v = some (.str s) := by
  obtain ⟨a, b, c⟩ := shown_le v h2
  unfold reprV
  rw [h1, c, decide_eq_true h3, b, decide_eq_true (Nat.le_trans a h4)]
  exact ⟨_, rfl⟩
theorem wt_nats : ∀ {p : List Nat}, (∀ x ∈ p, x < 10) → wtAll (p.map natV) ≤ 13 * p.length ∧ plainAll (p.map natV) = true
  | [], _ => by simp [wtAll, plainAll]
  | x :: p, h => by
    obtain ⟨a, b⟩ := wt_nats fun y hy => h y (List.mem_cons_of_mem _ hy)
    have hx := h x (by simp)
    simp only [List.map_cons, wtAll, wt, plainAll, plainV, b, Bool.and_true, List.length_cons]
    refine ⟨by omega, decide_eq_true (by omega)⟩
theorem wt_places {c : Nat} : ∀ {l : List (List Nat)}, (∀ p ∈ l, p.length ≤ c ∧ ∀ x ∈ p, x < 10) → wtAll (l.map placesV) ≤ (13 * c + 7) * l.length ∧ plainAll (l.map placesV) = true
  | [], _ => by simp [wtAll, plainAll]
  | p :: l, h => by
    obtain ⟨a, b⟩ := wt_places fun y hy => h y (List.mem_cons_of_mem _ hy)
    obtain ⟨h1, h2⟩ := h p (by simp)
    obtain ⟨a1, b1⟩ := wt_nats h2
    have : 13 * p.length ≤ 13 * c := Nat.mul_le_mul_left _ h1
    simp only [List.map_cons, wtAll, wt, plainAll, plainV, b, b1, Bool.and_true, List.length_cons, Nat.mul_add, Nat.mul_one]
    exact ⟨by omega, trivial⟩
section
variable {T : Tab}
theorem eq_nat (a b : Nat) : cmpV .eq (natV a) (natV b) = some (a == b) := by
  simp only [cmpV, eqR, PV.data, PV.depth, PV.eqv]
  by_cases e : a = b
  · simp [e]
  · have e2 : ¬ (a : Int) = (b : Int) := by omega
    rw [beq_eq_false_iff_ne.mpr e2, beq_eq_false_iff_ne.mpr e]
    rfl
theorem ne_nat (a b : Nat) : cmpV .ne (natV a) (natV b) = some (a != b) := by
  have e := eq_nat a b
  simp only [cmpV] at e ⊢
  rw [e]
  rfl
theorem c_led (h25 : Has25 T) (hh : HasHue T) (n : Nat) (G : Nt) (g : Nat) (last : Option Nat) (l : List (List Nat)) (hl : l.length ≤ sizeL) (hp : ∀ p ∈ l, 1 < p.length) (D : Hs) : callF T (n + 2) 321 [planV G, .lst (l.map placesV), natV g, optV last] D = some (.lst ((ledM G g last l).map placesV), true, D) := by
  have ne : ∀ p ∈ l, p ≠ [] := fun p h e => by
    have := hp p h
    rw [e] at this
    simp at this
  have lc1 := e_lc (T := T) (cf := callF T (n + 1)) (D := D) (D1 := D) (r := [some (planV G), some (.lst (l.map placesV)), some (natV g), some (optV last), none, none]) (fr := false) (it := .var 1) (own := [5]) (t := .name 5) (conds := [(.cmp .eq (.sub (.var 5) (.neg (.cst (.int 1)))) (.var 2))]) (elt := .var 5) (enc := placesV) (xs := l) (src := .lst (l.map placesV))
    (fun p => [some (planV G), some (.lst (l.map placesV)), some (natV g), some (optV last), none, some (placesV p)]) (fun p => lastN p == g) placesV (e_var rfl) (by simp) rfl (fun p _ => by simp [tgtV, wipeR])
    (fun p hx => by
      simp only [evTs, evE, List.getElem?_cons_succ, List.getElem?_cons_zero, d_tup, d_int, last_ix (ne p hx), Option.map_some, eq_nat, d_bl, truth]
      cases lastN p == g <;> rfl) (fun p _ _ => ⟨false, e_var rfl⟩) hl
  have lc2 := e_lc (T := T) (cf := callF T (n + 1)) (D := D) (D1 := D) (r := [some (planV G), some (.lst (l.map placesV)), some (natV g), some (optV last), some (.lst ((l.filter fun p => lastN p == g).map placesV)), none]) (fr := false) (it := .var 4) (own := [5]) (t := .name 5) (conds := [(.orE (.isN (.var 3) true) (.cmp .eq (.call 306 [(.var 0), (.sub (.var 5) (.neg (.cst (.int 2)))), (.sub (.var 5) (.neg (.cst (.int 1))))]) (.var 3)))]) (elt := .var 5) (enc := placesV) (xs := l.filter fun p => lastN p == g) (src := .lst ((l.filter fun p => lastN p == g).map placesV))
    (fun p => [some (planV G), some (.lst (l.map placesV)), some (natV g), some (optV last), some (.lst ((l.filter fun p => lastN p == g).map placesV)), some (placesV p)]) (ledB G last) placesV (e_var rfl) (by simp) rfl (fun p _ => by simp [tgtV, wipeR])
    (fun p hx => by
      have hm := (List.mem_filter.mp hx).1
      have ch := c_hueL hh n G (prevN p) (lastN p) D
      have pi := prev_ix (hp p hm)
      have li := last_ix (ne p hm)
      have ei : evE T (callF T (n + 1)) (.isN (.var 3) true) [some (planV G), some (.lst (l.map placesV)), some (natV g), some (optV last), some (.lst ((l.filter fun p => lastN p == g).map placesV)), some (placesV p)] D = some (.bl last.isNone, false, D) := by
        simp only [evE, List.getElem?_cons_succ, List.getElem?_cons_zero, isNon_opt]
        all_goals (cases last <;> rfl)
      have ec : evE T (callF T (n + 1)) (.cmp .eq (.call 306 [(.var 0), (.sub (.var 5) (.neg (.cst (.int 2)))), (.sub (.var 5) (.neg (.cst (.int 1))))]) (.var 3)) [some (planV G), some (.lst (l.map placesV)), some (natV g), some (optV last), some (.lst ((l.filter fun p => lastN p == g).map placesV)), some (placesV p)] D = some (.bl (G.hue (prevN p) (lastN p) == last), false, D) := by
        have a1 : evE T (callF T (n + 1)) (.call 306 [(.var 0), (.sub (.var 5) (.neg (.cst (.int 2)))), (.sub (.var 5) (.neg (.cst (.int 1))))]) [some (planV G), some (.lst (l.map placesV)), some (natV g), some (optV last), some (.lst ((l.filter fun p => lastN p == g).map placesV)), some (placesV p)] D = some (optV (G.hue (prevN p) (lastN p)), false, D) := by
          refine e_call (es_cons (e_var rfl) (es_cons (v := natV (prevN p)) (fr := false) (D1 := D) ?_ (es_cons (v := natV (lastN p)) (fr := false) (D1 := D) ?_ es_nil))) ch
          · simp only [evE, List.getElem?_cons_succ, List.getElem?_cons_zero, d_tup, d_int, pi, Option.map_some]
          · simp only [evE, List.getElem?_cons_succ, List.getElem?_cons_zero, d_tup, d_int, li, Option.map_some]
        unfold evE
        simp only [a1, e_var (T := T) (cf := callF T (n + 1)) (r := [some (planV G), some (.lst (l.map placesV)), some (natV g), some (optV last), some (.lst ((l.filter fun p => lastN p == g).map placesV)), some (placesV p)]) (D := D) (i := 3) rfl, deref_opt, eq_opt, Option.map_some]
      unfold evTs evTs
      unfold evE
      simp only [ei, ec, d_bl, truth]
      cases last with
      | none => rfl
      | some k =>
        simp only [Option.isNone_some, d_bl]
        show _ = some ((G.hue (prevN p) (lastN p) == some k), D)
        cases G.hue (prevN p) (lastN p) == some k <;> rfl) (fun p _ _ => ⟨false, e_var rfl⟩) (Nat.le_trans (List.length_filter_le _ _) hl)
  exact f_ret h25.led rfl (x_next (x_set lc1) (x_stop (x_ret lc2))) (by simp [f25_led, finish, snapV, snap_places, ledM])
end
end HT
namespace HT
theorem all_lt {G : Nt} {s : Nat} {lead : Option Nat} (hs : s < G.n) : ∀ (k : Nat) {p : List Nat}, p ∈ allM G s lead k → ∀ x ∈ p, x < G.n
  | 0, p, h => by simp [allM] at h
  | k + 1, p, h => by
    unfold allM at h
    rcases List.mem_append.mp h with z | z
    · exact all_lt hs k z
    · obtain ⟨w, hw, rfl⟩ := List.mem_map.mp ((heads_perm hs (k + 1)).mem_iff.mp z)
      exact (some_ok hs (k + 1) w hw).lt
abbrev waysV (G : Nt) (s g : Nat) (f l : Option Nat) : PV := .tup ((waysM G s g f l).map placesV)
theorem ways_wt {G : Nt} {s g : Nat} {f l : Option Nat} (hs : s < G.n) (n8 : G.n ≤ 8) (ne : g ≠ s) : wt (waysV G s g f l) ≤ 5000000 ∧ plainV (waysV G s g f l) = true ∧ (waysV G s g f l).pure = true ∧ (waysV G s g f l).depth ≤ 2 := by
  have hm : ∀ p ∈ waysM G s g f l, p.length ≤ 9 ∧ ∀ x ∈ p, x < 10 := fun p hp => by
    rw [ways_law hs ne] at hp
    unfold ledM at hp
    have h1 := (List.mem_filter.mp (List.mem_filter.mp hp).1).1
    have h2 := all_ok hs G.n h1
    exact ⟨by omega, fun x hx => by have := all_lt hs G.n h1 x hx; omega⟩
  obtain ⟨a, b⟩ := wt_places hm
  have fl := found_len (g := g) (first := f) (last := l) hs n8 G.n (by omega)
  have fl2 : (waysM G s g f l).length ≤ 40320 := by
    have : G.n * 5040 ≤ 8 * 5040 := Nat.mul_le_mul_right _ n8
    show (foundM G s g f l G.n).length ≤ _
    omega
  have dp := depthAll_places (waysM G s g f l)
  refine ⟨?_, by simpa [plainV] using b, by simpa [PV.pure] using pureAll_places (waysM G s g f l), by simp only [PV.depth]; omega⟩
  simp only [wt]
  have : (13 * 9 + 7) * (waysM G s g f l).length ≤ (13 * 9 + 7) * 40320 := Nat.mul_le_mul_left _ fl2
  omega
theorem ne_self (t : List Nat) : cmpV .ne (.str t) (.str t) = some false := by
  simp [cmpV, eqR, PV.data, PV.depth, PV.eqv]
theorem repr2 {a b : PV} (h1 : wt a ≤ 5000000) (h2 : wt b ≤ 5000000) (p1 : plainV a = true) (p2 : plainV b = true) (d1 : a.depth ≤ 2) (d2 : b.depth ≤ 2) : ∃ t, reprV (.lst [a, b]) = some (.str t) := by
  refine repr_some rfl (by simp [plainV, plainAll, p1, p2]) (by simp only [PV.depth, depthAll]; omega) ?_
  simp only [wt, wtAll]
  unfold sizeL
  omega
theorem repr1 {xs : List PV} (h1 : wt (.tup xs) ≤ 5000000) (p1 : plainV (.tup xs) = true) (d1 : (PV.tup xs).depth ≤ 2) : ∃ t, reprV (.tup xs) = some (.str t) :=
  repr_some rfl p1 (by omega) (by unfold sizeL; omega)
section
variable {T : Tab}
theorem d_str (D : Hs) (t : List Nat) : deref D (.str t) = .str t := rfl
theorem hueOk_none : hueOk none := fun c h => by cases h
theorem hueOk_some {c : Nat} (h : 97 ≤ c ∧ c ≤ 102) : hueOk (some c) := fun d e => by cases e; exact h
theorem goal_turn (hn : HasNets T) (hw : HasWays T) (h25 : Has25 T) (hh : HasHue T) (n : Nat) (G : Nt) (ok : G.Ok) (n8 : G.n ≤ 8) (s g : Nat) (hs : s < G.n) (hg : g < G.n) (ne : g ≠ s) (sg mk : Nat) (h1 : 97 ≤ sg ∧ sg ≤ 102) (h2 : 97 ≤ mk ∧ mk ≤ 102) (D : Hs) (a0 a1 a10 a11 a12 : Option PV) :
    ∃ J b11 b12, exSs T (callF T (n + 6)) [.set 11 (.blt .tuple [(.call 321 [(.var 2), (.var 7), (.var 9), (.cst .non)])]), .setM 12 (.lstE [(.callK 73 [(.var 3), (.var 4), (.var 9), (.cst .non)] [0, 1, 2, 3, 3])]), .expr (.mut .append (.var 12) [(.callK 73 [(.cst .non), (.cst .non), (.var 9), (.var 4), (.var 3), (.cst .non)] [4, 3, 2, 1, 0])]), .ifS (.cmp .ne (.blt .repr [(.var 12)]) (.blt .repr [(.lstE [(.var 11), (.var 11)])])) [.ret (.cst (.bl false))] [], .set 11 (.lstE [(.blt .tuple [(.call 321 [(.var 2), (.var 8), (.var 9), (.cst .non)])]), (.blt .tuple [(.call 321 [(.var 2), (.var 7), (.var 9), (.var 6)])])]), .setM 12 (.lstE [(.callK 73 [(.var 3), (.var 4), (.var 9), (.var 5), (.cst .non)] [0, 1, 2, 3, 4]), (.callK 73 [(.var 3), (.var 4), (.var 9), (.var 6), (.cst .non)] [0, 1, 2, 4, 3])]), .ifS (.cmp .ne (.blt .repr [(.var 12)]) (.blt .repr [(.var 11)])) [.ret (.cst (.bl false))] [], .set 11 (.blt .tuple [(.call 321 [(.var 2), (.var 8), (.var 9), (.var 6)])]), .ifS (.cmp .ne (.blt .repr [(.callK 73 [(.var 3), (.var 4), (.var 9), (.var 5), (.var 6), (.cst .non)] [0, 1, 2, 3, 4])]) (.blt .repr [(.var 11)])) [.ret (.cst (.bl false))] []]
      [a0, a1, some (planV G), some (netV G), some (natV s), some (chV sg), some (chV mk), some (.lst ((allM G s none G.n).map placesV)), some (.lst ((allM G s (some sg) G.n).map placesV)), some (natV g), a10, a11, a12] D
      = some (.next, [a0, a1, some (planV G), some (netV G), some (natV s), some (chV sg), some (chV mk), some (.lst ((allM G s none G.n).map placesV)), some (.lst ((allM G s (some sg) G.n).map placesV)), some (natV g), a10, b11, b12], D ++ J) := by
  have cl : ∀ (lead last : Option Nat) (D' : Hs), callF T (n + 6) 321 [planV G, .lst ((allM G s lead G.n).map placesV), natV g, optV last] D' = some (.lst ((waysM G s g lead last).map placesV), true, D') := fun lead last D' => by
    rw [ways_law hs ne]
    refine c_led h25 hh (n + 4) G g last (allM G s lead G.n) ?_ (fun p hp => (all_ok hs G.n hp).1) D'
    have := all_len (lead := lead) hs n8 G.n n8
    have : G.n * 5040 ≤ 8 * 5040 := Nat.mul_le_mul_right _ n8
    unfold sizeL
    omega
  have cw : ∀ (f l : Option Nat) (D' : Hs), hueOk f → hueOk l → callF T (n + 6) 73 [netV G, natV s, natV g, optV f, optV l] D' = some (waysV G s g f l, false, D') := fun f l D' q1 q2 => c_ways hn hw n G ok n8 s g hs hg ne f l q1 q2 D'
  have k1 := hueOk_some h1
  have k2 := hueOk_some h2
  have led : ∀ {r : Rho} {D' : Hs} {es : List CE} {lead last : Option Nat}, evEs T (callF T (n + 6)) es r D' = some ([planV G, .lst ((allM G s lead G.n).map placesV), natV g, optV last], D') → evE T (callF T (n + 6)) (.blt .tuple [(.call 321 es)]) r D' = some (waysV G s g lead last, false, D') := fun {r D' es lead last} he => by
    unfold evE
    rw [es_cons (e_call he (cl lead last D')) es_nil]
    simp only [List.map_cons, List.map_nil, d_lst, bltV, tupleV, Option.map_some]
  obtain ⟨t1, e1⟩ := repr2 (ways_wt (f := none) (l := none) hs n8 ne).1 (ways_wt (f := none) (l := none) hs n8 ne).1 (ways_wt (f := none) (l := none) hs n8 ne).2.1 (ways_wt (f := none) (l := none) hs n8 ne).2.1 (ways_wt (f := none) (l := none) hs n8 ne).2.2.2 (ways_wt (f := none) (l := none) hs n8 ne).2.2.2
  obtain ⟨t2, e2⟩ := repr2 (ways_wt (f := some sg) (l := none) hs n8 ne).1 (ways_wt (f := none) (l := some mk) hs n8 ne).1 (ways_wt (f := some sg) (l := none) hs n8 ne).2.1 (ways_wt (f := none) (l := some mk) hs n8 ne).2.1 (ways_wt (f := some sg) (l := none) hs n8 ne).2.2.2 (ways_wt (f := none) (l := some mk) hs n8 ne).2.2.2
  obtain ⟨t3, e3⟩ := repr1 (ways_wt (f := some sg) (l := some mk) hs n8 ne).1 (ways_wt (f := some sg) (l := some mk) hs n8 ne).2.1 (ways_wt (f := some sg) (l := some mk) hs n8 ne).2.2.2
  have pu : ∀ f l, (waysV G s g f l).pure = true := fun f l => (ways_wt hs n8 ne).2.2.1
  refine ⟨[.lst [waysV G s g none none, waysV G s g none none], .lst [waysV G s g (some sg) none, waysV G s g none (some mk)]], some (waysV G s g (some sg) (some mk)), some (.ref (D ++ [DO.lst [waysV G s g none none, waysV G s g none none]]).length), ?_⟩
  refine x_next (x_set (led (lead := none) (last := none) (es_cons (e_var rfl) (es_cons (e_var rfl) (es_cons (e_var rfl) (es_cons (v := .non) (fr := false) (D1 := D) (by simp only [evE]) es_nil)))))) ?_
  simp only [List.set_cons_succ, List.set_cons_zero]
  refine x_next (x_setM (v := .lst [waysV G s g none none]) (fr := true) (D1 := D) (D2 := D ++ [.lst [waysV G s g none none]]) (v' := .ref D.length) ?_ (by simp [heapV, pureAll, pu])) ?_
  · have a : evE T (callF T (n + 6)) (.callK 73 [(.var 3), (.var 4), (.var 9), (.cst .non)] [0, 1, 2, 3, 3]) [a0, a1, some (planV G), some (netV G), some (natV s), some (chV sg), some (chV mk), some (.lst ((allM G s none G.n).map placesV)), some (.lst ((allM G s (some sg) G.n).map placesV)), some (natV g), a10, some (waysV G s g none none), a12] D = some (waysV G s g none none, false, D) :=
      e_callK (es_cons (e_var rfl) (es_cons (e_var rfl) (es_cons (e_var rfl) (es_cons (v := .non) (fr := false) (D1 := D) (by simp only [evE]) es_nil)))) (cw none none D hueOk_none hueOk_none)
    unfold evE
    rw [es_cons a es_nil]
    simp [sizeL]
  simp only [List.set_cons_succ, List.set_cons_zero]
  refine x_next (r1 := [a0, a1, some (planV G), some (netV G), some (natV s), some (chV sg), some (chV mk), some (.lst ((allM G s none G.n).map placesV)), some (.lst ((allM G s (some sg) G.n).map placesV)), some (natV g), a10, some (waysV G s g none none), some (.ref D.length)]) (D1 := D ++ [DO.lst [waysV G s g none none, waysV G s g none none]]) (x_expr (v := .non) (fr := false) ?_) ?_
  · have a : evE T (callF T (n + 6)) (.callK 73 [(.cst .non), (.cst .non), (.var 9), (.var 4), (.var 3), (.cst .non)] [4, 3, 2, 1, 0]) [a0, a1, some (planV G), some (netV G), some (natV s), some (chV sg), some (chV mk), some (.lst ((allM G s none G.n).map placesV)), some (.lst ((allM G s (some sg) G.n).map placesV)), some (natV g), a10, some (waysV G s g none none), some (.ref D.length)] (D ++ [.lst [waysV G s g none none]]) = some (waysV G s g none none, false, D ++ [.lst [waysV G s g none none]]) :=
      e_callK (vs := [.non, .non, natV g, natV s, netV G, .non]) (es_cons (v := .non) (fr := false) (D1 := D ++ [DO.lst [waysV G s g none none]]) (by simp only [evE]) (es_cons (v := .non) (fr := false) (D1 := D ++ [DO.lst [waysV G s g none none]]) (by simp only [evE]) (es_cons (e_var rfl) (es_cons (e_var rfl) (es_cons (e_var rfl) (es_cons (v := .non) (fr := false) (D1 := D ++ [DO.lst [waysV G s g none none]]) (by simp only [evE]) es_nil)))))) (cw none none (D ++ [DO.lst [waysV G s g none none]]) hueOk_none hueOk_none)
    have v12 : evE T (callF T (n + 6)) (.var 12) [a0, a1, some (planV G), some (netV G), some (natV s), some (chV sg), some (chV mk), some (.lst ((allM G s none G.n).map placesV)), some (.lst ((allM G s (some sg) G.n).map placesV)), some (natV g), a10, some (waysV G s g none none), some (.ref D.length)] (D ++ [.lst [waysV G s g none none]]) = some (.ref D.length, false, D ++ [.lst [waysV G s g none none]]) := e_var rfl
    unfold evE
    simp only [v12, top_get]
    rw [es_cons a es_nil]
    simp only [mutV, top_get, pu, Bool.true_and]
    rw [if_pos (decide_eq_true (show ([waysV G s g none none] : List PV).length < sizeL from (by decide : 1 < sizeL)))]
    simp [top_set]
  refine x_next (x_if (v := .bl false) (fr := false) (t := false) (D1 := D ++ [DO.lst [waysV G s g none none, waysV G s g none none]]) ?_ rfl rfl) ?_
  · have dr : deref (D ++ [.lst [waysV G s g none none, waysV G s g none none]]) (.ref D.length) = .lst [waysV G s g none none, waysV G s g none none] := by simp only [deref, top_get]
    simp only [evE, evEs, List.getElem?_cons_succ, List.getElem?_cons_zero, List.map_cons, List.map_nil, dr, bltV, reprB, e1, Option.map_some, List.length_cons, List.length_nil]
    rw [if_pos (by decide)]
    simp only [List.map_cons, List.map_nil, d_lst, e1, Option.map_some, deref, ne_self]
  refine x_next (x_set (v := .lst [waysV G s g (some sg) none, waysV G s g none (some mk)]) (fr := true) (D1 := D ++ [DO.lst [waysV G s g none none, waysV G s g none none]]) ?_) ?_
  · have l1 := led (r := [a0, a1, some (planV G), some (netV G), some (natV s), some (chV sg), some (chV mk), some (.lst ((allM G s none G.n).map placesV)), some (.lst ((allM G s (some sg) G.n).map placesV)), some (natV g), a10, some (waysV G s g none none), some (.ref D.length)]) (D' := D ++ [.lst [waysV G s g none none, waysV G s g none none]]) (es := [(.var 2), (.var 8), (.var 9), (.cst .non)]) (lead := some sg) (last := none) (es_cons (e_var rfl) (es_cons (e_var rfl) (es_cons (e_var rfl) (es_cons (v := .non) (fr := false) (D1 := D ++ [DO.lst [waysV G s g none none, waysV G s g none none]]) (by simp only [evE]) es_nil))))
    have l2 := led (r := [a0, a1, some (planV G), some (netV G), some (natV s), some (chV sg), some (chV mk), some (.lst ((allM G s none G.n).map placesV)), some (.lst ((allM G s (some sg) G.n).map placesV)), some (natV g), a10, some (waysV G s g none none), some (.ref D.length)]) (D' := D ++ [.lst [waysV G s g none none, waysV G s g none none]]) (es := [(.var 2), (.var 7), (.var 9), (.var 6)]) (lead := none) (last := some mk) (es_cons (e_var rfl) (es_cons (e_var rfl) (es_cons (e_var rfl) (es_cons (e_var rfl) es_nil))))
    unfold evE
    rw [es_cons l1 (es_cons l2 es_nil)]
    simp [sizeL]
  simp only [List.set_cons_succ, List.set_cons_zero]
  refine x_next (x_setM (v := .lst [waysV G s g (some sg) none, waysV G s g none (some mk)]) (fr := true) (D1 := D ++ [DO.lst [waysV G s g none none, waysV G s g none none]]) (D2 := (D ++ [DO.lst [waysV G s g none none, waysV G s g none none]]) ++ [DO.lst [waysV G s g (some sg) none, waysV G s g none (some mk)]]) (v' := .ref (D ++ [DO.lst [waysV G s g none none, waysV G s g none none]]).length) ?_ (by simp [heapV, pureAll, pu])) ?_
  · have a : evE T (callF T (n + 6)) (.callK 73 [(.var 3), (.var 4), (.var 9), (.var 5), (.cst .non)] [0, 1, 2, 3, 4]) [a0, a1, some (planV G), some (netV G), some (natV s), some (chV sg), some (chV mk), some (.lst ((allM G s none G.n).map placesV)), some (.lst ((allM G s (some sg) G.n).map placesV)), some (natV g), a10, some (.lst [waysV G s g (some sg) none, waysV G s g none (some mk)]), some (.ref D.length)] (D ++ [.lst [waysV G s g none none, waysV G s g none none]]) = some (waysV G s g (some sg) none, false, D ++ [.lst [waysV G s g none none, waysV G s g none none]]) :=
      e_callK (es_cons (e_var rfl) (es_cons (e_var rfl) (es_cons (e_var rfl) (es_cons (e_var rfl) (es_cons (v := .non) (fr := false) (D1 := D ++ [DO.lst [waysV G s g none none, waysV G s g none none]]) (by simp only [evE]) es_nil))))) (cw (some sg) none (D ++ [DO.lst [waysV G s g none none, waysV G s g none none]]) k1 hueOk_none)
    have b : evE T (callF T (n + 6)) (.callK 73 [(.var 3), (.var 4), (.var 9), (.var 6), (.cst .non)] [0, 1, 2, 4, 3]) [a0, a1, some (planV G), some (netV G), some (natV s), some (chV sg), some (chV mk), some (.lst ((allM G s none G.n).map placesV)), some (.lst ((allM G s (some sg) G.n).map placesV)), some (natV g), a10, some (.lst [waysV G s g (some sg) none, waysV G s g none (some mk)]), some (.ref D.length)] (D ++ [.lst [waysV G s g none none, waysV G s g none none]]) = some (waysV G s g none (some mk), false, D ++ [.lst [waysV G s g none none, waysV G s g none none]]) :=
      e_callK (vs := [netV G, natV s, natV g, chV mk, .non]) (es_cons (e_var rfl) (es_cons (e_var rfl) (es_cons (e_var rfl) (es_cons (e_var rfl) (es_cons (v := .non) (fr := false) (D1 := D ++ [DO.lst [waysV G s g none none, waysV G s g none none]]) (by simp only [evE]) es_nil))))) (cw none (some mk) (D ++ [DO.lst [waysV G s g none none, waysV G s g none none]]) hueOk_none k2)
    unfold evE
    rw [es_cons a (es_cons b es_nil)]
    simp [sizeL]
  simp only [List.set_cons_succ, List.set_cons_zero]
  refine x_next (x_if (v := .bl false) (fr := false) (t := false) (D1 := (D ++ [DO.lst [waysV G s g none none, waysV G s g none none]]) ++ [DO.lst [waysV G s g (some sg) none, waysV G s g none (some mk)]]) ?_ rfl rfl) ?_
  · have dr : deref ((D ++ [DO.lst [waysV G s g none none, waysV G s g none none]]) ++ [DO.lst [waysV G s g (some sg) none, waysV G s g none (some mk)]]) (.ref (D ++ [DO.lst [waysV G s g none none, waysV G s g none none]]).length) = .lst [waysV G s g (some sg) none, waysV G s g none (some mk)] := by simp only [deref, top_get]
    simp only [evE, evEs, List.getElem?_cons_succ, List.getElem?_cons_zero, List.map_cons, List.map_nil, dr, bltV, reprB, e2, Option.map_some, d_lst, d_str, ne_self]
  refine x_next (x_set (led (lead := some sg) (last := some mk) (es_cons (e_var rfl) (es_cons (e_var rfl) (es_cons (e_var rfl) (es_cons (e_var rfl) es_nil)))))) ?_
  simp only [List.set_cons_succ, List.set_cons_zero]
  refine x_next (x_if (v := .bl false) (fr := false) (t := false) (D1 := (D ++ [DO.lst [waysV G s g none none, waysV G s g none none]]) ++ [DO.lst [waysV G s g (some sg) none, waysV G s g none (some mk)]]) ?_ rfl rfl) (by simp [exSs])
  have a : evE T (callF T (n + 6)) (.callK 73 [(.var 3), (.var 4), (.var 9), (.var 5), (.var 6), (.cst .non)] [0, 1, 2, 3, 4]) [a0, a1, some (planV G), some (netV G), some (natV s), some (chV sg), some (chV mk), some (.lst ((allM G s none G.n).map placesV)), some (.lst ((allM G s (some sg) G.n).map placesV)), some (natV g), a10, some (waysV G s g (some sg) (some mk)), some (.ref (D ++ [DO.lst [waysV G s g none none, waysV G s g none none]]).length)] ((D ++ [DO.lst [waysV G s g none none, waysV G s g none none]]) ++ [DO.lst [waysV G s g (some sg) none, waysV G s g none (some mk)]]) = some (waysV G s g (some sg) (some mk), false, (D ++ [DO.lst [waysV G s g none none, waysV G s g none none]]) ++ [DO.lst [waysV G s g (some sg) none, waysV G s g none (some mk)]]) :=
    e_callK (vs := [netV G, natV s, natV g, chV sg, chV mk, .non]) (es_cons (e_var rfl) (es_cons (e_var rfl) (es_cons (e_var rfl) (es_cons (e_var rfl) (es_cons (e_var rfl) (es_cons (v := .non) (fr := false) (D1 := (D ++ [DO.lst [waysV G s g none none, waysV G s g none none]]) ++ [DO.lst [waysV G s g (some sg) none, waysV G s g none (some mk)]]) (by simp only [evE]) es_nil)))))) (cw (some sg) (some mk) ((D ++ [DO.lst [waysV G s g none none, waysV G s g none none]]) ++ [DO.lst [waysV G s g (some sg) none, waysV G s g none (some mk)]]) k1 k2)
  have rp : ∀ {e : CE} {r : Rho} {D' : Hs}, evE T (callF T (n + 6)) e r D' = some (waysV G s g (some sg) (some mk), false, D') → evE T (callF T (n + 6)) (.blt .repr [e]) r D' = some (.str t3, false, D') := fun {e r D'} he => by
    unfold evE
    rw [es_cons he es_nil]
    simp only [List.map_cons, List.map_nil, d_tup, bltV, reprB, e3, Option.map_some]
  have ra := rp a
  have rb := rp (e := .var 11) (r := [a0, a1, some (planV G), some (netV G), some (natV s), some (chV sg), some (chV mk), some (.lst ((allM G s none G.n).map placesV)), some (.lst ((allM G s (some sg) G.n).map placesV)), some (natV g), a10, some (waysV G s g (some sg) (some mk)), some (.ref (D ++ [DO.lst [waysV G s g none none, waysV G s g none none]]).length)]) (D' := (D ++ [DO.lst [waysV G s g none none, waysV G s g none none]]) ++ [DO.lst [waysV G s g (some sg) none, waysV G s g none (some mk)]]) (e_var rfl)
  unfold evE
  rw [ra]
  simp only [rb, deref, ne_self, Option.map_some]
end
end HT
namespace HT
abbrev goalBody : List CS := [.set 11 (.blt .tuple [(.call 321 [(.var 2), (.var 7), (.var 9), (.cst .non)])]), .setM 12 (.lstE [(.callK 73 [(.var 3), (.var 4), (.var 9), (.cst .non)] [0, 1, 2, 3, 3])]), .expr (.mut .append (.var 12) [(.callK 73 [(.cst .non), (.cst .non), (.var 9), (.var 4), (.var 3), (.cst .non)] [4, 3, 2, 1, 0])]), .ifS (.cmp .ne (.blt .repr [(.var 12)]) (.blt .repr [(.lstE [(.var 11), (.var 11)])])) [.ret (.cst (.bl false))] [], .set 11 (.lstE [(.blt .tuple [(.call 321 [(.var 2), (.var 8), (.var 9), (.cst .non)])]), (.blt .tuple [(.call 321 [(.var 2), (.var 7), (.var 9), (.var 6)])])]), .setM 12 (.lstE [(.callK 73 [(.var 3), (.var 4), (.var 9), (.var 5), (.cst .non)] [0, 1, 2, 3, 4]), (.callK 73 [(.var 3), (.var 4), (.var 9), (.var 6), (.cst .non)] [0, 1, 2, 4, 3])]), .ifS (.cmp .ne (.blt .repr [(.var 12)]) (.blt .repr [(.var 11)])) [.ret (.cst (.bl false))] [], .set 11 (.blt .tuple [(.call 321 [(.var 2), (.var 8), (.var 9), (.var 6)])]), .ifS (.cmp .ne (.blt .repr [(.callK 73 [(.var 3), (.var 4), (.var 9), (.var 5), (.var 6), (.cst .non)] [0, 1, 2, 3, 4])]) (.blt .repr [(.var 11)])) [.ret (.cst (.bl false))] []]
abbrev originBody : List CS := [.par [(5, false), (6, false)] [(.call 302 [(.var 0), (.cst (.str [97, 98, 99, 100, 102]))]), (.call 302 [(.var 0), (.cst (.str [97, 98, 99, 100, 102]))])], .par [(7, false), (8, false)] [(.call 320 [(.var 2), (.var 4), (.cst .non)]), (.call 320 [(.var 2), (.var 4), (.var 5)])], .forS (.name 9) (.lc [10] (.name 10) (.rng1 (.sub (.var 2) (.cst (.int 0)))) [(.cmp .ne (.var 10) (.var 4))] (.var 10)) goalBody]
abbrev lapBody : List CS := [.set 2 (.call 303 [(.var 0), (.cst (.int 2)), (.cst (.int 6)), (.call 302 [(.var 0), (.lstE [(.cst (.str [97, 98])), (.cst (.str [97, 98, 99])), (.cst (.str [97, 100, 102]))])])]), .set 3 (.call 305 [(.var 2)]), .forS (.name 4) (.rng1 (.sub (.var 2) (.cst (.int 0)))) originBody]
theorem right_body : f25_right.body = [.forS (.name 1) (.rng1 (.cst (.int 4))) lapBody, .ret (.cst (.bl true))] := rfl
section
variable {T : Tab} {D0 : Hs} {k : Nat}
theorem e_cst {cf : CallFn} {r : Rho} {D : Hs} {v : PV} : evE T cf (.cst v) r D = some (v, false, D) := by simp only [evE]
theorem app_get (hk : k < D0.length) (K : Int × Int × Int) (J : Hs) : (D0.set k (kitO K) ++ J)[k]? = some (kitO K) := by
  rw [List.getElem?_append_left (by simpa using hk)]
  simp [hk]
theorem app_set (hk : k < D0.length) (K K' : Int × Int × Int) (J : Hs) : (D0.set k (kitO K) ++ J).set k (kitO K') = D0.set k (kitO K') ++ J := by
  rw [List.set_append_left _ _ (by simpa using hk), List.set_set]
theorem some_sign (h : HasKit T) (n : Nat) (hk : k < D0.length) (m : Nat) (hm : m < 2 ^ 60) (K : Int × Int × Int) (ok : KOk m K) (J : Hs) (signs : List Nat) (sok : signsOk signs) : ∃ c K', callF T (n + 2) 302 [.ref k, .str signs] (D0.set k (kitO K) ++ J) = some (chV c, false, D0.set k (kitO K') ++ J) ∧ c ∈ signs ∧ KOk (m + 1) K' := by
  obtain ⟨x, K2, e2, hx, ok2⟩ := c_some h n (D0.set k (kitO K) ++ J) k m K (.str signs) (signs.map chV) (app_get hk K _) ok hm (.inr ⟨signs, rfl, rfl⟩) (by simpa using sok.1) (by simpa using sok.2.1) (fun x hx n' D' => by
    obtain ⟨c, _, rfl⟩ := List.mem_map.mp hx
    simp [snapV]) (fun x hx j => by
    obtain ⟨c, _, rfl⟩ := List.mem_map.mp hx
    simp)
  rw [app_set hk] at e2
  obtain ⟨c, hc, rfl⟩ := List.mem_map.mp hx
  exact ⟨c, K2, e2, hc, ok2⟩
theorem origin_turn (hn : HasNets T) (hw : HasWays T) (hkit : HasKit T) (h25 : Has25 T) (hh : HasHue T) (n : Nat) (hk : k < D0.length) (m : Nat) (hm : m < 2 ^ 50) (K : Int × Int × Int) (okK : KOk m K) (J : Hs) (G : Nt) (ok : G.Ok) (n8 : G.n ≤ 8) (s : Nat) (hs : s < G.n) (a1 a5 a6 a7 a8 a9 a10 a11 a12 : Option PV) :
    ∃ K' J' b5 b6 b7 b8 b9 b10 b11 b12, exSs T (callF T (n + 6)) originBody [some (.ref k), a1, some (planV G), some (netV G), some (natV s), a5, a6, a7, a8, a9, a10, a11, a12] (D0.set k (kitO K) ++ J) = some (.next, [some (.ref k), a1, some (planV G), some (netV G), some (natV s), b5, b6, b7, b8, b9, b10, b11, b12], D0.set k (kitO K') ++ J') ∧ KOk (m + 2) K' := by
  have sok : signsOk [97, 98, 99, 100, 102] := ⟨by simp, by simp, by decide⟩
  have sin : ∀ c ∈ [97, 98, 99, 100, 102], 97 ≤ c ∧ c ≤ 102 := by decide
  obtain ⟨sg, K1, e1, hsg, ok1⟩ := some_sign hkit (n + 4) hk m (by omega) K okK J _ sok
  obtain ⟨mk, K2, e2, hmk, ok2⟩ := some_sign hkit (n + 4) hk (m + 1) (by omega) K1 ok1 J _ sok
  have w1 := c_lways h25 hh (n + 4) G ok n8 s hs none (D0.set k (kitO K2) ++ J)
  have w2 := c_lways h25 hh (n + 4) G ok n8 s hs (some sg) (D0.set k (kitO K2) ++ J)
  obtain ⟨r', D', e3, J3, b10, b9, b11, b12, rfl, rfl⟩ := forL_pre (enc := natV) (step := fun x r D => match tgtV (.name 9) x r with
      | none => none
      | some r' => exSs T (callF T (n + 6)) goalBody r' D)
    (fun pre r D => ∃ J a10 a9 a11 a12, r = [some (.ref k), a1, some (planV G), some (netV G), some (natV s), some (chV sg), some (chV mk), some (.lst ((allM G s none G.n).map placesV)), some (.lst ((allM G s (some sg) G.n).map placesV)), a9, a10, a11, a12] ∧ D = D0.set k (kitO K2) ++ J) (xs := (List.range G.n).filter fun g => g != s)
    (fun pre g suf r D ex z => by
      obtain ⟨J, a10, a9, a11, a12, rfl, rfl⟩ := z
      have hg : g ∈ (List.range G.n).filter fun g => g != s := by rw [ex]; simp
      obtain ⟨g1, g2⟩ := List.mem_filter.mp hg
      obtain ⟨J2, b11, b12, et⟩ := goal_turn hn hw h25 hh n G ok n8 s g hs (List.mem_range.mp g1) (by simpa using g2) sg mk (sin sg hsg) (sin mk hmk) (D0.set k (kitO K2) ++ J) (some (.ref k)) a1 a10 a11 a12
      exact ⟨_, _, et, J ++ J2, a10, some (natV g), b11, b12, rfl, by simp⟩) ((List.range G.n).filter fun g => g != s) [] [some (.ref k), a1, some (planV G), some (netV G), some (natV s), some (chV sg), some (chV mk), some (.lst ((allM G s none G.n).map placesV)), some (.lst ((allM G s (some sg) G.n).map placesV)), a9, a10, a11, a12] (D0.set k (kitO K2) ++ J) rfl ⟨J, a10, a9, a11, a12, rfl, rfl⟩
  refine ⟨K2, J3, some (chV sg), some (chV mk), some (.lst ((allM G s none G.n).map placesV)), some (.lst ((allM G s (some sg) G.n).map placesV)), b9, b10, b11, b12, ?_, ok2⟩
  refine x_next (r1 := [some (.ref k), a1, some (planV G), some (netV G), some (natV s), some (chV sg), some (chV mk), a7, a8, a9, a10, a11, a12]) (D1 := D0.set k (kitO K2) ++ J) (x_par (p_val (e_call (es_cons (e_var rfl) (es_cons (v := .str [97, 98, 99, 100, 102]) (fr := false) (by simp only [evE]) es_nil)) e1) (p_val (e_call (es_cons (e_var rfl) (es_cons (v := .str [97, 98, 99, 100, 102]) (fr := false) (by simp only [evE]) es_nil)) e2) p_nil)) rfl) ?_
  refine x_next (r1 := [some (.ref k), a1, some (planV G), some (netV G), some (natV s), some (chV sg), some (chV mk), some (.lst ((allM G s none G.n).map placesV)), some (.lst ((allM G s (some sg) G.n).map placesV)), a9, a10, a11, a12]) (D1 := D0.set k (kitO K2) ++ J) (x_par (p_val (e_call (es_cons (e_var rfl) (es_cons (e_var rfl) (es_cons (v := .non) (fr := false) (by simp only [evE]) es_nil))) w1) (p_val (e_call (es_cons (e_var rfl) (es_cons (e_var rfl) (es_cons (e_var rfl) es_nil))) w2) p_nil)) rfl) ?_
  have n9 := ok.n9
  have e0 : ((G.n : Nat) : Int).toNat = G.n := by omega
  have ir : evE T (callF T (n + 6)) (.rng1 (.sub (.var 2) (.cst (.int 0)))) [some (.ref k), a1, some (planV G), some (netV G), some (natV s), some (chV sg), some (chV mk), some (.lst ((allM G s none G.n).map placesV)), some (.lst ((allM G s (some sg) G.n).map placesV)), a9, a10, a11, a12] (D0.set k (kitO K2) ++ J) = some (.lst ((List.range G.n).map natV), false, D0.set k (kitO K2) ++ J) := by
    simp only [evE, List.getElem?_cons_succ, List.getElem?_cons_zero, d_plan, d_int, plan_0 D0 G, Option.map_some, e0, rangeL_zero]
    rw [if_pos (by omega)]
  have lc := e_lc (T := T) (cf := callF T (n + 6)) (own := [10]) (t := .name 10) (conds := [(.cmp .ne (.var 10) (.var 4))]) (elt := .var 10) (enc := natV) (xs := List.range G.n)
    (fun g => [some (.ref k), a1, some (planV G), some (netV G), some (natV s), some (chV sg), some (chV mk), some (.lst ((allM G s none G.n).map placesV)), some (.lst ((allM G s (some sg) G.n).map placesV)), a9, some (natV g), a11, a12]) (fun g => g != s) natV ir (by simp) rfl (fun g _ => by simp [tgtV, wipeR])
    (fun g _ => by
      simp only [evTs, evE, List.getElem?_cons_succ, List.getElem?_cons_zero, d_int, ne_nat, Option.map_some, d_bl, truth]
      cases g != s <;> rfl) (fun g _ _ => ⟨false, e_var rfl⟩) (by simp [sizeL]; omega)
  exact x_next (x_for lc (by simp) rfl e3) rfl
theorem lap_turn (hn : HasNets T) (hw : HasWays T) (hkit : HasKit T) (h25 : Has25 T) (hh : HasHue T) (n : Nat) (hk : k < D0.length) (m : Nat) (hm : m < 2 ^ 30) (K : Int × Int × Int) (okK : KOk m K) (J : Hs) (a1 a2 a3 a4 a5 a6 a7 a8 a9 a10 a11 a12 : Option PV) :
    ∃ K' J' b2 b3 b4 b5 b6 b7 b8 b9 b10 b11 b12, exSs T (callF T (n + 6)) lapBody [some (.ref k), a1, a2, a3, a4, a5, a6, a7, a8, a9, a10, a11, a12] (D0.set k (kitO K) ++ J) = some (.next, [some (.ref k), a1, b2, b3, b4, b5, b6, b7, b8, b9, b10, b11, b12], D0.set k (kitO K') ++ J') ∧ KOk (m + 400) K' := by
  obtain ⟨x, K1, e1, hx, ok1⟩ := c_some hkit (n + 4) (D0.set k (kitO K) ++ J) k m K (.lst [.str [97, 98], .str [97, 98, 99], .str [97, 100, 102]]) [.str [97, 98], .str [97, 98, 99], .str [97, 100, 102]] (app_get hk K _) okK (by omega) (.inl rfl) (by simp) (by simp) (fun x hx n' D' => by
    simp only [or_false, List.not_mem_nil, List.mem_cons] at hx
    rcases hx with rfl | rfl | rfl <;> simp [snapV]) (fun x hx j => by
    simp only [or_false, List.not_mem_nil, List.mem_cons] at hx
    rcases hx with rfl | rfl | rfl <;> simp)
  rw [app_set hk] at e1
  have hsx : ∃ signs, x = .str signs ∧ signsOk signs := by
    simp only [or_false, List.not_mem_nil, List.mem_cons] at hx
    rcases hx with rfl | rfl | rfl
    · exact ⟨_, rfl, by simp, by simp, by decide⟩
    · exact ⟨_, rfl, by simp, by simp, by decide⟩
    · exact ⟨_, rfl, by simp, by simp, by decide⟩
  obtain ⟨signs, rfl, sok⟩ := hsx
  obtain ⟨G, K2, e2, g1, g2, ok, _, ok2⟩ := c_plan hkit (n + 3) K1 (m + 1) (by omega) (app_get (D0 := D0) (k := k) hk K1 J) ok1 2 6 (by omega) (by omega) (by omega) signs sok
  rw [app_set hk] at e2
  have cm := c_made hn hkit n G ok (D0.set k (kitO K2) ++ J)
  obtain ⟨r', D', e3, K3, J3, b4, b5, b6, b7, b8, b9, b10, b11, b12, rfl, rfl, ok3⟩ := forL_pre (enc := natV) (step := fun x r D => match tgtV (.name 4) x r with
      | none => none
      | some r' => exSs T (callF T (n + 6)) originBody r' D)
    (fun pre r D => ∃ K J a4 a5 a6 a7 a8 a9 a10 a11 a12, r = [some (.ref k), a1, some (planV G), some (netV G), a4, a5, a6, a7, a8, a9, a10, a11, a12] ∧ D = D0.set k (kitO K) ++ J ∧ KOk (m + 301 + 2 * pre.length) K) (xs := List.range G.n)
    (fun pre s suf r D ex z => by
      obtain ⟨K, J, a4, a5, a6, a7, a8, a9, a10, a11, a12, rfl, rfl, okK⟩ := z
      have hs : s < G.n := by
        have : s ∈ List.range G.n := by rw [ex]; simp
        exact List.mem_range.mp this
      have pl : pre.length < 9 := by
        have := congrArg List.length ex
        simp at this
        omega
      obtain ⟨K', J', c5, c6, c7, c8, c9, c10, c11, c12, et, ok'⟩ := origin_turn hn hw hkit h25 hh n hk (m + 301 + 2 * pre.length) (by omega) K okK J G ok (by omega) s hs a1 a5 a6 a7 a8 a9 a10 a11 a12
      refine ⟨_, _, et, K', J', some (natV s), c5, c6, c7, c8, c9, c10, c11, c12, rfl, rfl, ?_⟩
      simp only [List.length_singleton, List.length_append]
      exact ok'.mono (by omega)) (List.range G.n) [] [some (.ref k), a1, some (planV G), some (netV G), a4, a5, a6, a7, a8, a9, a10, a11, a12] (D0.set k (kitO K2) ++ J) rfl ⟨K2, J, a4, a5, a6, a7, a8, a9, a10, a11, a12, rfl, rfl, ok2.mono (by simp)⟩
  rw [List.length_range] at ok3
  refine ⟨K3, J3, some (planV G), some (netV G), b4, b5, b6, b7, b8, b9, b10, b11, b12, ?_, ok3.mono (by omega)⟩
  have em : evE T (callF T (n + 6)) (.call 302 [(.var 0), (.lstE [(.cst (.str [97, 98])), (.cst (.str [97, 98, 99])), (.cst (.str [97, 100, 102]))])]) [some (.ref k), a1, a2, a3, a4, a5, a6, a7, a8, a9, a10, a11, a12] (D0.set k (kitO K) ++ J) = some (.str signs, false, D0.set k (kitO K1) ++ J) :=
    e_call (es_cons (e_var rfl) (es_cons (v := .lst [.str [97, 98], .str [97, 98, 99], .str [97, 100, 102]]) (fr := true) (by simp [evE, evEs, sizeL]) es_nil)) e1
  refine x_next (x_set (e_call (es_cons (e_var rfl) (es_cons e_cst (es_cons e_cst (es_cons em es_nil)))) e2)) ?_
  simp only [List.set_cons_succ, List.set_cons_zero]
  refine x_next (x_set (e_call (es_cons (e_var rfl) es_nil) cm)) ?_
  simp only [List.set_cons_succ, List.set_cons_zero]
  have n9 := ok.n9
  have e0 : ((G.n : Nat) : Int).toNat = G.n := by omega
  refine x_next (x_for (src := .lst ((List.range G.n).map natV)) (fr := false) (D1 := D0.set k (kitO K2) ++ J) ?_ (by simp) rfl e3) rfl
  simp only [evE, List.getElem?_cons_succ, List.getElem?_cons_zero, d_plan, d_int, plan_0 D0 G, Option.map_some, e0, rangeL_zero]
  rw [if_pos (by omega)]
theorem c_right (hn : HasNets T) (hw : HasWays T) (hkit : HasKit T) (h25 : Has25 T) (hh : HasHue T) (n : Nat) (K : Int × Int × Int) (hk : D0[k]? = some (kitO K)) (okK : KOk 0 K) : ∃ D', callF T (n + 7) 322 [.ref k] D0 = some (.bl true, false, D') := by
  have hkl := (List.getElem?_eq_some_iff.mp hk).1
  have hset : D0.set k (kitO K) = D0 := by
    refine List.ext_getElem? fun i => ?_
    rw [List.getElem?_set]
    split
    · rename_i e
      subst e
      rw [hk]
    · rfl
  obtain ⟨r', D', e3, K3, J3, b1, b2, b3, b4, b5, b6, b7, b8, b9, b10, b11, b12, rfl, rfl, ok3⟩ := forL_pre (enc := natV) (step := fun x r D => match tgtV (.name 1) x r with
      | none => none
      | some r' => exSs T (callF T (n + 6)) lapBody r' D)
    (fun pre r D => ∃ K J a1 a2 a3 a4 a5 a6 a7 a8 a9 a10 a11 a12, r = [some (.ref k), a1, a2, a3, a4, a5, a6, a7, a8, a9, a10, a11, a12] ∧ D = D0.set k (kitO K) ++ J ∧ KOk (400 * pre.length) K) (xs := List.range 4)
    (fun pre s suf r D ex z => by
      obtain ⟨K, J, a1, a2, a3, a4, a5, a6, a7, a8, a9, a10, a11, a12, rfl, rfl, okK⟩ := z
      have pl : pre.length < 4 := by
        have := congrArg List.length ex
        simp at this
        omega
      obtain ⟨K', J', c2, c3, c4, c5, c6, c7, c8, c9, c10, c11, c12, et, ok'⟩ := lap_turn hn hw hkit h25 hh n hkl (400 * pre.length) (by omega) K okK J (some (natV s)) a2 a3 a4 a5 a6 a7 a8 a9 a10 a11 a12
      refine ⟨_, _, et, K', J', some (natV s), c2, c3, c4, c5, c6, c7, c8, c9, c10, c11, c12, rfl, rfl, ?_⟩
      simp only [List.length_singleton, List.length_append]
      exact ok'.mono (by omega)) (List.range 4) [] [some (.ref k), none, none, none, none, none, none, none, none, none, none, none, none] D0 rfl ⟨K, [], none, none, none, none, none, none, none, none, none, none, none, none, rfl, by rw [hset]; simp, by simpa using okK⟩
  refine ⟨D0.set k (kitO K3), f_ret h25.right rfl (v := .bl true) (fr := false) (r1 := [some (.ref k), b1, b2, b3, b4, b5, b6, b7, b8, b9, b10, b11, b12]) (D1 := D0.set k (kitO K3) ++ J3) ?_ ?_⟩
  · rw [right_body]
    refine x_next (x_for (src := .lst ((List.range 4).map natV)) (fr := false) (D1 := D0) ?_ (by simp) rfl e3) (x_stop (x_ret (by simp only [evE])))
    simp only [evE]
    rw [if_pos (by omega)]
    rfl
  · have ht : (D0.set k (kitO K3) ++ J3).take D0.length = D0.set k (kitO K3) := by
      rw [List.take_append_of_le_length (by simp)]
      exact set_take
    simp only [f25_right, finish, Bool.false_eq_true, if_false, snapV, Option.map_some, ht]
end
end HT
namespace HT
theorem split3 {D : Hs} : D.take D.length = D := List.take_length
section
variable {T : Tab}
theorem slice6 (l : List PV) : sliceL l none (some 6) = l.take 6 := by
  simp only [sliceL, clampIx]
  rw [if_neg (by omega)]
  simp only [Nat.sub_zero, List.drop_zero]
  rw [show (6 : Int).toNat = 6 from rfl]
  rw [List.take_eq_take_iff]
  omega
theorem c_kit (h : HasKit T) (n : Nat) (ns : List Int) (hl : ns.length ≤ 63) (a : Nat) (ha : a < 100) (D : Hs) : ∃ K, callF T (n + 1) 300 [.lst (ns.map .int), natV a] D = some (.ref D.length, false, D ++ [kitO K]) ∧ KOk 0 K := by
  obtain ⟨r', D', e, mx, o3, rfl, hD⟩ := forL_pre (enc := PV.int) (step := fun x r D => match tgtV (.name 3) x r with
      | none => none
      | some r' => exSs T (callF T n) [.set 2 (.bin .mod (.blt .int [(.bin .add (.bin .mul (.var 2) (.cst (.int 19009))) (.var 3))]) (.cst (.int 2147482063)))] r' D)
    (fun pre r D' => ∃ mx o3, r = [some (.lst (ns.map .int)), some (natV a), some (.int mx), o3, none] ∧ D' = D) (xs := ns.take 6)
    (fun pre x suf r D' ex z => by
      obtain ⟨mx, o3, rfl, rfl⟩ := z
      refine ⟨_, _, ?_, (mx * 19009 + x) % 2147482063, some (.int x), rfl, rfl⟩
      have s2 : small64 19009 = true := by decide
      simp only [tgtV, List.set_cons_succ, List.set_cons_zero, exSs, exS, evE, evEs, List.getElem?_cons_succ, List.getElem?_cons_zero, d_int, binV, mulV, s2, Bool.or_true, if_true, Option.map_some, addV, List.map_cons, List.map_nil, bltV, intV, Int.reduceLT]) (ns.take 6) [] [some (.lst (ns.map .int)), some (natV a), some (.int (30047 + 7001 * (a : Int))), none, none] D rfl ⟨_, none, rfl, rfl⟩
  rw [hD] at e
  have ho : ∃ own : Int, evE T (callF T n) (.ite (.cmp .lt (.var 1) (.blt .len [(.var 0)])) (.sub (.var 0) (.var 1)) (.bin .add (.bin .mul (.cst (.int 43)) (.var 1)) (.cst (.int 13)))) [some (.lst (ns.map .int)), some (natV a), some (.int mx), o3, none] D = some (.int own, false, D) := by
    have lt : evE T (callF T n) (.cmp .lt (.var 1) (.blt .len [(.var 0)])) [some (.lst (ns.map .int)), some (natV a), some (.int mx), o3, none] D = some (.bl (decide (a < ns.length)), false, D) := by
      simp only [evE, evEs, List.getElem?_cons_succ, List.getElem?_cons_zero, List.map_cons, List.map_nil, d_lst, bltV, lenV, Option.map_some, d_int, cmpV, ltR, List.length_map]
      by_cases q : a < ns.length
      · rw [decide_eq_true q, decide_eq_true (by omega)]
      · rw [decide_eq_false q, decide_eq_false (by omega)]
    by_cases q : a < ns.length
    · refine ⟨ns[a], ?_⟩
      unfold evE
      simp only [lt, d_bl, truth, decide_eq_true q]
      have ix : atIx (ns.map PV.int).length (a : Int) = some a := by
        unfold atIx
        rw [List.length_map, if_pos (by omega), if_pos (by omega)]
        simp
      simp only [evE, List.getElem?_cons_succ, List.getElem?_cons_zero, d_lst, d_int, subV, ix, Option.bind_some, List.getElem?_map, List.getElem?_eq_getElem q, Option.map_some]
    · refine ⟨43 * (a : Int) + 13, ?_⟩
      have s2 : small64 43 = true := by decide
      unfold evE
      simp only [lt, d_bl, truth, decide_eq_false q]
      simp only [evE, List.getElem?_cons_succ, List.getElem?_cons_zero, d_int, binV, mulV, s2, Bool.true_or, if_true, Option.map_some, addV]
  obtain ⟨own, ho⟩ := ho
  have hab : ∃ b : Int, 0 ≤ b ∧ evE T (callF T n) (.ite (.cmp .ge (.blt .abs [(.var 4)]) (.bin .pow (.cst (.int 10)) (.cst (.int 17)))) (.blt .abs [(.var 4)]) (.cst (.int 0))) [some (.lst (ns.map .int)), some (natV a), some (.int mx), o3, some (.int own)] D = some (.int b, false, D) := by
    have pw : binV .pow (.int 10) (.int 17) = some (.int 100000000000000000, false) := by
      simp [binV]
    by_cases q : (100000000000000000 : Int) ≤ (if own < 0 then -own else own)
    · refine ⟨if own < 0 then -own else own, by split <;> omega, ?_⟩
      simp only [evE, evEs, List.getElem?_cons_succ, List.getElem?_cons_zero, List.map_cons, List.map_nil, d_int, bltV, absV, Option.map_some, pw, cmpV, geR, decide_eq_true q, d_bl, truth]
    · refine ⟨0, by omega, ?_⟩
      simp only [evE, evEs, List.getElem?_cons_succ, List.getElem?_cons_zero, List.map_cons, List.map_nil, d_int, bltV, absV, Option.map_some, pw, cmpV, geR, decide_eq_false q, d_bl, truth]
  obtain ⟨b, b0, hb⟩ := hab
  have hx : ∃ x : Int, evE T (callF T n) (.bin .mod (.blt .int [(.bin .add (.bin .add (.bin .mul (.var 2) (.cst (.int 47))) (.bin .mul (.var 4) (.cst (.int 101)))) (.cst (.int 53)))]) (.cst (.int 2147482063))) [some (.lst (ns.map .int)), some (natV a), some (.int mx), o3, some (.int own)] D = some (.int x, false, D) := by
    have s2 : small64 47 = true := by decide
    have s3 : small64 101 = true := by decide
    refine ⟨(mx * 47 + own * 101 + 53) % 2147482063, ?_⟩
    simp only [evE, evEs, List.getElem?_cons_succ, List.getElem?_cons_zero, List.map_cons, List.map_nil, d_int, binV, mulV, s2, s3, Bool.or_true, if_true, Option.map_some, addV, bltV, intV, Int.reduceLT]
  obtain ⟨x, hx⟩ := hx
  refine ⟨(x, b, 0), ?_, b0, by simp, by simp⟩
  refine f_ret h.kit rfl (v := .lst [.int x, .int b, .int 0]) (fr := true) (r1 := [some (.lst (ns.map .int)), some (natV a), some (.int mx), o3, some (.int own)]) (D1 := D) ?_ ?_
  · refine x_next (r1 := [some (.lst (ns.map .int)), some (natV a), some (.int (30047 + 7001 * (a : Int))), none, none]) (D1 := D) (x_set (fr := false) ?_) ?_
    · have s2 : small64 7001 = true := by decide
      simp only [f__law_kit, start, List.map_cons, List.map_nil, List.cons_append, List.nil_append, evE, List.getElem?_cons_succ, List.getElem?_cons_zero, d_int, binV, mulV, s2, Bool.true_or, if_true, Option.map_some, addV]
    refine x_next (x_for (src := .lst ((ns.take 6).map PV.int)) (fr := true) (D1 := D) ?_ (by simp) rfl e) ?_
    · have sl := slice6 (ns.map PV.int)
      rw [List.map_take]
      simp only [evE, evO, List.getElem?_cons_succ, List.getElem?_cons_zero, d_lst, sliceV, ixOf, sliceI, sl, Option.map_some]
    refine x_next (x_set ho) ?_
    simp only [List.set_cons_succ, List.set_cons_zero]
    refine x_stop (x_ret ?_)
    unfold evE
    rw [es_cons hx (es_cons hb (es_cons e_cst es_nil))]
    simp [sizeL]
  · simp [f__law_kit, finish, pureAll, PV.pure, kitO]
theorem compL_true {α : Type} {enc : α → PV} {step : PV → Hs → Option (Option PV × Hs)} : ∀ {xs : List α} {acc : List PV} {D : Hs}, (∀ x ∈ xs, ∀ D, ∃ D', step (enc x) D = some (some (.bl true), D')) → acc.length + xs.length ≤ sizeL → ∃ D', compL step (xs.map enc) acc D = some (acc ++ xs.map (fun _ => PV.bl true), D')
  | [], acc, D, _, _ => ⟨D, by simp [compL]⟩
  | x :: xs, acc, D, h, hl => by
    simp only [List.length_cons] at hl
    obtain ⟨D1, e1⟩ := h x (by simp) D
    obtain ⟨D2, e2⟩ := compL_true (xs := xs) (acc := acc ++ [.bl true]) (D := D1) (fun y hy => h y (by simp [hy])) (by simp; omega)
    refine ⟨D2, ?_⟩
    simp only [List.map_cons, compL, e1]
    rw [if_pos (by omega), e2]
    simp
theorem allB_true {α : Type} : ∀ xs : List α, allB (xs.map fun _ => PV.bl true) = some (xs.map fun _ => true)
  | [] => rfl
  | x :: xs => by simp [allB, allB_true xs]
theorem law25 (hn : HasNets T) (hw : HasWays T) (hkit : HasKit T) (h25 : Has25 T) (hh : HasHue T) (n : Nat) (ns : List Int) (hl : ns.length ≤ 63) : ∃ fr D', callF T (n + 8) 323 [.lst (ns.map .int)] [] = some (.bl true, fr, D') := by
  have mm : ∃ c : Nat, c ≤ 10 ∧ evE T (callF T (n + 7)) (.rng1 (.blt .max2 [(.cst (.int 2)), (.blt .min2 [(.blt .len [(.var 0)]), (.cst (.int 5))])])) [some (.lst (ns.map .int)), none] [] = some (.lst ((List.range c).map natV), false, []) := by
    have cast : ∀ c : Nat, rangeL 0 ((c : Nat) : Int).toNat = (List.range c).map natV := fun c => by rw [Int.toNat_natCast]; exact rangeL_zero c
    refine ⟨max 2 (min ns.length 5), by omega, ?_⟩
    have e2 : (if (5 : Int) < (ns.length : Int) then (5 : Int) else (ns.length : Int)) = ((min ns.length 5 : Nat) : Int) := by split <;> omega
    have e3 : (if ((min ns.length 5 : Nat) : Int) > 2 then ((min ns.length 5 : Nat) : Int) else 2) = ((max 2 (min ns.length 5) : Nat) : Int) := by split <;> omega
    have hm : -(2 ^ 62) ≤ ((max 2 (min ns.length 5) : Nat) : Int) ∧ ((max 2 (min ns.length 5) : Nat) : Int) < 2 ^ 62 := by omega
    simp only [evE, evEs, List.getElem?_cons_zero, List.map_cons, List.map_nil, d_lst, bltV, lenV, List.length_map, Option.map_some, d_int, minV, maxV, e2, e3]
    rw [if_pos hm, cast]
  obtain ⟨c, hc, mm⟩ := mm
  obtain ⟨D', ec⟩ := compL_true (enc := natV) (xs := List.range c) (acc := []) (D := []) (step := fun x D => match tgtV (.name 1) x (wipeR [some (.lst (ns.map .int)), none] [1]) with
        | none => none
        | some r' => match evTs T (callF T (n + 7)) [] r' D with
          | none => none
          | some (false, D') => some (none, D')
          | some (true, D') => match evE T (callF T (n + 7)) (.call 322 [(.call 300 [(.var 0), (.var 1)])]) r' D' with
            | none => none
            | some (v, _, D2) => some (some v, D2)) (fun a ha D => by
      have a100 : a < 100 := by have := List.mem_range.mp ha; omega
      obtain ⟨K, e1, ok⟩ := c_kit hkit (n + 6) ns hl a a100 D
      obtain ⟨D2, e2⟩ := c_right (D0 := D ++ [kitO K]) (k := D.length) hn hw hkit h25 hh n K (by simp) ok
      refine ⟨D2, ?_⟩
      have z : evE T (callF T (n + 7)) (.call 322 [(.call 300 [(.var 0), (.var 1)])]) [some (.lst (ns.map .int)), some (natV a)] D = some (.bl true, false, D2) := e_call (es_cons (e_call (es_cons (e_var rfl) (es_cons (e_var rfl) es_nil)) e1) es_nil) e2
      simp only [tgtV, wipeR, List.set_cons_succ, List.set_cons_zero, evTs, z]) (by simp [sizeL]; omega)
  have lc : evE T (callF T (n + 7)) (.lc [1] (.name 1) (.rng1 (.blt .max2 [(.cst (.int 2)), (.blt .min2 [(.blt .len [(.var 0)]), (.cst (.int 5))])])) [] (.call 322 [(.call 300 [(.var 0), (.var 1)])])) [some (.lst (ns.map .int)), none] [] = some (.lst ((List.range c).map fun _ => PV.bl true), true, D') := by
    unfold evE
    simp only [mm]
    exact congrArg (Option.map fun z : List PV × Hs => (PV.lst z.1, true, z.2)) ec
  refine ⟨false, D'.take 0, f_ret h25.law rfl (v := .bl true) (fr := false) (r1 := [some (.lst (ns.map .int)), none]) (D1 := D') (x_stop (x_ret ?_)) (by simp [f25_law, finish, snapV])⟩
  show evE T (callF T (n + 7)) (.blt .all [_]) [some (.lst (ns.map .int)), none] [] = _
  unfold evE
  rw [es_cons lc es_nil]
  simp only [List.map_cons, List.map_nil, d_lst, bltV, allVB, allB_true, Option.map_some]
  have : ((List.range c).map fun _ => true).all id = true := by simp
  rw [this]
end
end HT
namespace HT
open L2 PyProof.Rows PySem PySem.Spec
abbrev prog : Program := PySem.Challenge.pw_hueturns_k25_whole_ways
def defs0 : List (Nat × DefT) := [(0, dT prog 14 ["value"] [] false), (1, dT prog 15 ["value", "low", "high"] [] false), (5, dT prog 16 ["text", "sign"] [] false), (7, dT prog 17 ["value"] [] false), (9, dT prog 21 ["value", "size"] [] false), (10, dT prog 22 ["values", "size", "index", "value"] [] false), (11, dT prog 23 ["one", "two"] [] false), (13, dT prog 24 ["word", "parts", "part"] [] false), (14, dT prog 25 ["text", "words", "size", "roads", "word"] [] false), (17, dM prog 26 0 ["self", "size", "roads", "one", "two", "hue"] [] false), (19, dM prog 26 2 ["self"] [] false), (20, dM prog 26 3 ["self"] [] false), (21, dM prog 26 4 ["self", "value"] [] false), (22, dM prog 26 5 ["self", "one", "two"] [] false), (23, dM prog 26 6 ["self", "one", "two"] [] false), (24, dM prog 26 7 ["self", "one", "two"] [] false), (25, dM prog 26 8 ["self", "place", "found", "other", "step"] [] false), (26, dM prog 26 9 ["self", "place"] [] false), (27, dM prog 26 10 ["self", "places"] [] false), (28, dM prog 26 11 ["self", "hues"] [] false), (29, dM prog 26 12 ["self", "one", "two", "hue"] [] false), (30, dM prog 26 13 ["self", "one", "two"] [] false), (31, dM prog 26 14 ["self", "one", "two"] [] false), (32, dM prog 26 15 ["self"] [] false), (33, dM prog 26 16 ["self"] [] false)]
def defs1 : List (Nat × DefT) := [(34, dM prog 26 17 ["self", "other"] [] false), (35, dM prog 26 18 ["self", "one", "two", "hue"] [] false), (36, dM prog 26 19 ["self"] [] false), (37, dT prog 27 ["value"] [] false), (68, dT prog 29 ["net", "start", "goal"] [] false), (69, dT prog 30 ["first", "last", "value"] [] false), (70, dT prog 31 ["net", "ways", "first", "found", "places", "hue", "other", "fresh", "wanted"] ["found"] false), (71, dT prog 32 ["ways", "goal", "last", "places", "hue"] [] false), (73, dT prog 33 ["net", "start", "goal", "first", "last", "found", "some", "way"] ["found"] false), (300, dT prog 35 ["_law_script", "_law_at", "_law_mixed", "_law_cell", "_law_own"] [] true), (301, dT prog 36 ["_law_kit_here", "_law_total", "_law_figure", "_law_mixed"] [] false), (302, dT prog 37 ["_law_kit_here", "_law_menu"] [] false), (303, dT prog 38 ["_law_kit_here", "_law_least", "_law_most", "_law_signs", "_law_size", "_law_found", "_law_dense", "_law_i", "_law_j"] ["_law_found"] false), (304, dT prog 39 ["_law_plan_here", "_law_pair"] [] false), (305, dT prog 40 ["_law_plan_here"] [] false), (306, dT prog 41 ["_law_plan_here", "_law_i", "_law_j"] [] false), (320, dT prog 42 ["_law_plan_here", "_law_origin", "_law_lead", "_law_found", "_law_heads", "_law_fresh", "_law_head", "_law_tail", "_law_other_place", "_law_hue_here", "_law_wanted"] ["_law_fresh"] false), (321, dT prog 43 ["_law_plan_here", "_law_found", "_law_goal_here", "_law_tail", "_law_own", "_law_way"] [] false), (322, dT prog 44 ["_law_kit_here", "_law_lap", "_law_plan_here", "_law_net_here", "_law_origin", "_law_sign", "_law_mark", "_law_every", "_law_some_here", "_law_goal_here", "_law_at", "_law_due", "_law_told"] ["_law_told"] false), (323, dT prog 45 ["_law_script", "_law_at"] [] false)]
def flds0 : List Str := ["many", "row", "hues", "size", "check_place", "hue_of", "check_two", "with_hues", "steps", "roads", "__init__", "hue", "roads_at", "pieces", "painted", "closed", "swapped", "__len__", "__bool__", "__eq__", "__str__", "__repr__", "tells", "ends", "place", "held", "under", "thing", "mark", "__enter__"]
def flds1 : List Str := ["__exit__", "go_on", "paint", "close", "swap", "grow", "drop", "undo", "net", "core", "changes", "trial", "tried", "do", "wish", "lift", "__setitem__", "__getitem__", "__iter__", "__contains__", "names", "wishes", "do_all", "desk", "changed", "asked", "change", "told", "say", "given"]
def spec : Spec := { defs := defs0 ++ defs1, clss := [("Net", { live := false, init := 17, flds := [0, 1, 2], props := [(3, 19), (9, 20)], meths := [(4, 21), (6, 22), (5, 23), (11, 24), (8, 25), (12, 26), (13, 27), (7, 28), (14, 29), (15, 30), (16, 31)] })], consts := [("DIGITS", .str [48, 49, 50, 51, 52, 53, 54, 55, 56, 57]), ("HUES", .str [97, 98, 99, 100, 101, 102]), ("MOST_PLACES", .int 9), ("MOST_LISTED", .int 8)], blts := ["len", "tuple", "int", "sorted", "list", "min", "max", "all", "any", "repr", "abs", "divmod", "str", "sum", "isinstance", "range", "enumerate", "set", "zip", "dict", "bool"], flds := flds0 ++ flds1, fuel := 60 }
abbrev R : PySem.W.OpenRow := PySem.W.OpenLaw.row PySem.Challenge.rw_hueturns_k25_whole_ways
def nm0 : List PySem.Str := ["_wall", "WrongValue", "InvalidText", "InvalidNumber", "InvalidPlace", "InvalidHue", "NotANet", "InvalidRoads", "NoAnswer", "TooGreat", "DIGITS", "HUES", "is_integer", "is_between", "number_in", "is_hue", "MOST_PLACES", "MOST_LISTED", "is_road", "check_roads", "sorted_pair", "road_in", "net_in", "Net", "check_net", "check_ends", "check_wanted", "longer", "ending", "ways"]
def nm1 : List PySem.Str := ["_law_kit", "_law_cut", "_law_some", "_law_plan", "_law_roads", "_law_made", "_law_hue", "_law_ways", "_law_led", "_law_right"]
def names : List PySem.Str := nm0 ++ nm1
def ob (s : PySem.W.SharedT) : ObT := obsTG spec (HandSHeadRun.getT s)
theorem ob_eq (s : PySem.W.SharedT) : ob s = (hookT spec).obs s.abs := obsTG_eq (HandSHeadRun.getT_eq s)
theorem run (w : World) : HandSHeadRun.RunEq R (PySem.W.view R.prog [45]) (hookT spec) ob 6000 names w := by
  intro os
  kernel_rfl
theorem good : spec.good = true := by decide +kernel
theorem end_ok (ev : ∀ ns : List Int, ns.length ≤ 63 → ∃ fr D', callF spec.tab 30 323 [.lst (ns.map .int)] [] = some (.bl true, fr, D')) : PySem.Challenge.rw_hueturns_k25_whole_ways.Holds := by
  w_on; o_law
  refine HandSHeadRun.head_any (r := PySem.W.OpenLaw.row PySem.Challenge.rw_hueturns_k25_whole_ways) (q := PySem.W.view R.prog [45]) (H := hookT spec) (ob := ob) (M := 6000) (loose := names) (d := HandSHeadRun.topDef R.prog 45) (kwd := []) ob_eq
    (by kernel_rfl) (fun s => by kernel_rfl) run (by kernel_rfl) (by kernel_rfl) (by kernel_rfl) (by rfl) (by first | assumption | decide +kernel) (by decide +kernel) ⟨rfl, rfl, rfl, rfl, rfl, by decide +kernel⟩ ?hw ?hc
  case hw => w_witness2
  case hc => exact law_walk (l := PySem.Challenge.rw_hueturns_k25_whole_ways) (f := 323) (n := 30) (x := "_law_script") (dt := dT prog 45 ["_law_script", "_law_at"] [] false) rfl (by kernel_rfl) good (by kernel_rfl) (by kernel_rfl) (by kernel_rfl) (by kernel_rfl) ⟨rfl, by decide, by decide⟩ ev
theorem has_nets : HasNets spec.tab := ⟨by kernel_rfl, by kernel_rfl, by kernel_rfl, by kernel_rfl, by kernel_rfl, by kernel_rfl, by kernel_rfl, by kernel_rfl, by kernel_rfl, by kernel_rfl, by kernel_rfl, by kernel_rfl, by kernel_rfl⟩
theorem has_ways : HasWays spec.tab := ⟨by kernel_rfl, by kernel_rfl, by kernel_rfl, by kernel_rfl, by kernel_rfl⟩
theorem has_kit : HasKit spec.tab := ⟨by kernel_rfl, by kernel_rfl, by kernel_rfl, by kernel_rfl, by kernel_rfl, by kernel_rfl⟩
theorem has_hue : HasHue spec.tab := ⟨by kernel_rfl⟩
theorem has_25 : Has25 spec.tab := ⟨by kernel_rfl, by kernel_rfl, by kernel_rfl, by kernel_rfl⟩
theorem the_end : PySem.Challenge.rw_hueturns_k25_whole_ways.Holds := end_ok fun ns hl => law25 has_nets has_ways has_kit has_25 has_hue 22 ns hl
end HT
theorem PySem.Challenge.cw_hueturns_k25_whole_ways_holds : PySem.Challenge.rw_hueturns_k25_whole_ways.Holds := by
  exact HT.the_end
